import PyProof.Rows.All
import Wide.All
import OpenK.AllK
import Wide.FinOn
import HandS.ForMost
import HandS.IsInst
import HandS.Walk
import HandS.Flow
import HandS.Zip
import PyProof.NeKinds
import HandS.Exc
import HandS.ExcOwn
import HandS.ExcInit
import HandS.ExcField
import HandS.WordsExc
import HandS.Defaults
import HandS.MakeKwOnly
import HandS.DeepEq
import HandS.Replace
import HandS.RaiseMore
import HandS.Text
import PyProof.ReprRoads
import PyProof.ReprLen
import HandS.Codes
import KE.IntTextLaws
import PyProof.ReprDict
import PyProof.StrBlock2
import HandS.NoneIn
import KE.GoesMore
import KE.GoesEnum
import HandS.GenList
import HandS.Deep
import HandS.Style
import HandS.Property
import HandS.ClsMeth
import HandS.Star
import HandS.FStr
import HandS.OwnEq
import HandS.Conv
import HandS.CallSlots
import KE.KCallOwn
import PySem.Challenge.RW_reflows_k45_stocks_as_texts
set_option Elab.async false
set_option linter.all false
set_option maxRecDepth 100000
set_option maxHeartbeats 4000000
namespace PySem.SeqAt
open AutoSeq1 (wpAny_loadPart')
open MeetsSeq
theorem dict_ne_declines_tuple (l b : Addr) (es : Array DictEntry) (items2 : Array Value) (n n2 : Nat) (dd2 : Option Addr) (sl2 : Array (Option Value)) :
    Meets (Builtin.«dict.__ne__» ⟨[.ref l, .ref b], []⟩) (fun _ R s => s.heap.get? l = some { cls := .type "dict", dict := none, data := .dict es n, slots := #[] } ∧ s.heap.get? b = some { cls := .type "tuple", dict := dd2, data := .seq items2 n2, slots := sl2 } ∧ R (.ok (.ret .notImplemented)) s) :=
  .of_wp fun prog w A R s h => by
    obtain ⟨hp, g, d, tk, os⟩ := s; obtain ⟨hl, hb, h⟩ := h; have f1 := F.sub_tuple_dict
    unfold Builtin.«dict.__ne__»
    wp_walk using wpAny_loadPart' hl, wpAny_loadPart' hb
    exact ⟨_, rfl, h⟩
theorem tuple_ne_declines_dict (l b : Addr) (es : Array DictEntry) (items : Array Value) (n n2 : Nat) (dd : Option Addr) (sl : Array (Option Value)) :
    Meets (Builtin.«tuple.__ne__» ⟨[.ref l, .ref b], []⟩) (fun _ R s => s.heap.get? l = some { cls := .type "tuple", dict := dd, data := .seq items n, slots := sl } ∧ s.heap.get? b = some { cls := .type "dict", dict := none, data := .dict es n2, slots := #[] } ∧ R (.ok (.ret .notImplemented)) s) :=
  .of_wp fun prog w A R s h => by obtain ⟨hp, g, d, tk, os⟩ := s; obtain ⟨hl, hb, h⟩ := h; have f1 := F.sub_dict_tuple; wp_walk using wpAny_loadPart' hl, wpAny_loadPart' hb; exact ⟨_, rfl, h⟩
theorem RcNeAt.dict_tuple {A : Around} {s : Shared} {l b : Addr} {o : Obj} {es : Array DictEntry} {ep : Nat} {items2 : Array Value} (ho : s.heap.get? l = some o) (hx : o.ExactDict) (hd : o.data = .dict es ep) (hb : s.heap.IsTuple b items2) (hu : A.units < cLine) : RcNeAt A s (.ref l) (.ref b) true := fun prog w E Q h => by
  obtain ⟨cls, dd, data, sl⟩ := o
  obtain ⟨⟨cls2, dd2, data2, sl2⟩, ho2, hc2, n2, hd2⟩ := id hb
  obtain ⟨h1, h2, h3⟩ := hx
  simp only at h1 h2 h3 hd hc2 hd2
  subst h1 h2 h3 hd hc2 hd2
  have hne : l ≠ b := fun e => by
    subst e
    have e := Option.some.inj (ho.symm.trans ho2)
    injection e with e1
    injection e1 with e1
    exact absurd e1 (by decide)
  exact (rc_ne_decline_or (k := false) ⟨_, ho, rfl⟩ ⟨_, ho2, rfl⟩ (by decide) F.sub_tuple_dict F.slot_dict_ne F.slot_tuple_ne_refl
    (fun _ hq => call_meets F.slot_dict_ne ⟨_, ho, rfl⟩ F.entry_dict_ne (F.args_dict_ne_2 _ _) (dict_ne_declines_tuple l b es items2 ep n2 dd2 sl2) ⟨ho, ho2, hq⟩)
    (fun _ hq => call_meets F.slot_tuple_ne_refl ⟨_, ho2, rfl⟩ F.entry_tuple_ne (F.args_tuple_ne_2 _ _) (tuple_ne_declines_dict b l es items2 n2 ep dd2 sl2) ⟨ho2, ho, hq⟩)
    (fun _ hq => wpAny_isSame_ref_other hne ho ho2 (by simp) hq) (.inr hu) h)
end PySem.SeqAt
namespace U
open PySem L2

/-! ### weakening of judgements -/
section
variable {X : Cx}
theorem PEi {e : Expr} {t u : TE} (h : PE X e t) (i : ∀ σ H Q, u σ H Q → t σ H Q) : PE X e u := ⟨fun pins s σ H Q I k => h.run pins s σ H Q I (i σ H Q k)⟩
theorem PTi {e : Expr} {t u : TT} (h : PT X e t) (i : ∀ σ H Q, u σ H Q → t σ H Q) : PT X e u := ⟨fun pins s σ H Q I k => h.run pins s σ H Q I (i σ H Q k)⟩
theorem PWi {e : Expr} {t u : TT} (h : PW X e t) (i : ∀ σ H Q, u σ H Q → t σ H Q) : PW X e u := ⟨fun wh pins s σ H Q I k => h.run wh pins s σ H Q I (i σ H Q k)⟩
theorem PSi {e : Stmt} {t u : TS} (h : PS X e t) (i : ∀ D σ H, u D σ H → t D σ H) : PS X e u := ⟨fun pins s σ H D I k => h.run pins s σ H D I (i D σ H k)⟩
theorem OpRi {f : Value → Value → Sem Value} {r r' : R2} (h : OpR X f r) (i : ∀ x y H Q, r' x y H Q → r x y H Q) : OpR X f r' := fun pins s σ H x y v u Q I rx ry k => h pins s σ H x y v u Q I rx ry (i x y H Q k)
theorem CallRi {f : Value} {r r' : List V → Hp → VK → Prop} (h : CallR X f r) (i : ∀ xs H Q, r' xs H Q → r xs H Q) : CallR X f r' := fun pins s σ H xs us Q I r k => h pins s σ H xs us Q I r (i xs H Q k)
theorem IxRi {r r' : R2} (h : IxR X r) (i : ∀ x y H Q, r' x y H Q → r x y H Q) : IxR X r' := fun value slice pins s σ H x y v u Q I rx ry q hs => h value slice pins s σ H x y v u Q I rx ry (i x y H Q q) hs
theorem SlRi {r r' : V → Option Int → Option Int → Hp → VK → Prop} (h : L2.SlR X r) (i : ∀ x lo hi H Q, r' x lo hi H Q → r x lo hi H Q) : L2.SlR X r' := fun pins s σ H x v vl vu lo hi sl Q I rx hs pl pu q => h pins s σ H x v vl vu lo hi sl Q I rx hs pl pu (i x lo hi H Q q)
theorem MtRi {id : String} {r r' : V → List V → Hp → VK → Prop} (h : MtR X id r) (i : ∀ x xs H Q, r' x xs H Q → r x xs H Q) : MtR X id r' := fun pins s σ H x xs v us Q I rx rs q => h pins s σ H x xs v us Q I rx rs (i x xs H Q q)
theorem PIi {tg iter : Expr} {t u : TI} (h : PI X tg iter t) (i : ∀ σ H R, u σ H R → t σ H R) : PI X tg iter u := ⟨fun pins s σ H R I k => h.run pins s σ H R I (i σ H R k)⟩
theorem POi {e : Option Expr} {t u : TO} (h : PO X e t) (i : ∀ σ H Q, u σ H Q → t σ H Q) : PO X e u := ⟨fun pins s σ H Q I k => h.run pins s σ H Q I (i σ H Q k)⟩
end

/-! ### branches by name -/
def bV (x : V) (A B : Prop) : Prop := match x with | .bl true => A | .bl false => B | _ => False
def bB (c : Bool) (A B : Prop) : Prop := match c with | true => A | false => B
def oK {α : Type} (o : Option α) (f : α → Prop) : Prop := match o with | some x => f x | none => False
section
variable {A B : Prop} {α : Type}
theorem bV_of {c : Bool} (h1 : c = true → A) (h2 : c = false → B) : bV (.bl c) A B := by
  cases c
  · exact h2 rfl
  · exact h1 rfl
theorem bB_of {c : Bool} (h1 : c = true → A) (h2 : c = false → B) : bB c A B := by
  cases c
  · exact h2 rfl
  · exact h1 rfl
theorem bV_t {c : Bool} (hc : c = true) (h : A) : bV (.bl c) A B := by subst hc; exact h
theorem bV_f {c : Bool} (hc : c = false) (h : B) : bV (.bl c) A B := by subst hc; exact h
theorem bB_t {c : Bool} (hc : c = true) (h : A) : bB c A B := by subst hc; exact h
theorem bB_f {c : Bool} (hc : c = false) (h : B) : bB c A B := by subst hc; exact h
theorem bV_d {p : Prop} [Decidable p] (h1 : p → A) (h2 : ¬ p → B) : bV (.bl (decide p)) A B := bV_of (fun h => h1 (of_decide_eq_true h)) fun h => h2 (of_decide_eq_false h)
theorem bB_d {p : Prop} [Decidable p] (h1 : p → A) (h2 : ¬ p → B) : bB (decide p) A B := bB_of (fun h => h1 (of_decide_eq_true h)) fun h => h2 (of_decide_eq_false h)
theorem bB_n {p : Prop} [Decidable p] (h1 : ¬ p → A) (h2 : p → B) : bB (!decide p) A B := bB_of (fun h => h1 (by simpa using h)) fun h => h2 (by simpa using h)
theorem bB_if (c : Bool) (A B : Prop) : bB c A B = if c = true then A else B := by
  cases c <;> simp [bB]
theorem oK_of {o : Option α} {f : α → Prop} {x : α} (h : o = some x) (k : f x) : oK o f := by subst h; exact k
theorem oK_ex {o : Option α} {f : α → Prop} (h : oK o f) : ∃ x, o = some x ∧ f x := by
  cases o with
  | none => exact h.elim
  | some x => exact ⟨x, rfl, h⟩
end

/-! ### names, tests -/
def uVar (i : Nat) : TE := fun σ H Q => match σ[i]? with | some (some v) => Q v H | _ => False
def uT (t : TE) : TT := fun σ H Q => t σ H fun x H1 => match x with | .bl k => Q k H1 | _ => False
def uAndV (ta tb : TE) : TE := fun σ H Q => ta σ H fun x H1 => bV x (tb σ H1 Q) (Q (.bl false) H1)
def uOrV (ta tb : TE) : TE := fun σ H Q => ta σ H fun x H1 => bV x (Q (.bl true) H1) (tb σ H1 Q)
def uNotV (ta : TE) : TE := fun σ H Q => ta σ H fun x H1 => match x with | .bl k => Q (.bl (!k)) H1 | _ => False
def uAnd (t u : TT) : TT := fun σ H Q => t σ H fun c H1 => bB c (u σ H1 Q) (Q false H1)
def uOr (t u : TT) : TT := fun σ H Q => t σ H fun c H1 => bB c (Q true H1) (u σ H1 Q)
def uNot (t : TT) : TT := fun σ H Q => t σ H fun c H1 => Q (!c) H1
def uIf (t : TT) (ta tb : TE) : TE := fun σ H Q => t σ H fun c H1 => bB c (ta σ H1 Q) (tb σ H1 Q)
def uIfS (t : TT) (a b : TS) : TS := fun D σ H => t σ H fun c H1 => bB c (a D σ H1) (b D σ H1)
section
variable {X : Cx} {a b : Expr} {ta tb : TE} {pos : Pos} {tA tB' : TT} {rest : List Expr}
theorem pu (i : Nat) {x : Str} {pos : Pos} (hN : X.N[i]? = some x := by rfl) (hv : Vis X.env.scope x := by first | exact Or.inl rfl | exact Or.inr (Or.inl rfl) | exact Or.inr (Or.inr rfl)) (hd : (x == ("__debug__" : Str)) = false := by decide)
    (hcd : (x == ("__classdict__" : Str)) = false := by decide) : PE X (.Name x pos) (uVar i) := PEi (pe_var hN hv hd hcd) fun σ H Q h => by
  unfold uVar at h
  split at h
  · exact ⟨_, by assumption, h⟩
  · exact h.elim
theorem uT_tB {t : TE} {σ H Q} (h : uT t σ H Q) : ∃ (R : VK), t σ H R ∧ ∀ x H1, R x H1 → ∃ c, x = V.bl c ∧ Q c H1 := by
  refine ⟨_, h, fun x H1 r => ?_⟩
  split at r
  · exact ⟨_, rfl, r⟩
  · exact r.elim
end
/-- readings are monotone in what follows (needed to pass from the computing form to the layer's) -/
theorem t_iff {p q : VK} (e : p = q) {t : TE} {σ H} (h : t σ H p) : t σ H q := e ▸ h
theorem k_bl (Q : Bool → Hp → Prop) : (fun (x : V) (H1 : Hp) => match x with | .bl k => Q k H1 | _ => False) = (fun x H1 => ∃ c, x = V.bl c ∧ Q c H1) := by
  funext x H1
  cases x <;> simp
theorem k_and (f : Hp → Prop) (g : Hp → Prop) : (fun (x : V) (H1 : Hp) => bV x (f H1) (g H1)) = (fun x H1 => ∃ c, x = V.bl c ∧ if c = true then f H1 else g H1) := by
  funext x H1
  unfold bV
  cases x with
  | bl b => cases b <;> simp
  | _ => simp
theorem k_b (f : Hp → Prop) (g : Hp → Prop) : (fun (c : Bool) (H1 : Hp) => bB c (f H1) (g H1)) = (fun c H1 => if c = true then f H1 else g H1) := by
  funext c H1
  unfold bB
  cases c <;> simp
section
variable {X : Cx} {a b : Expr} {ta tb : TE} {pos : Pos} {tA tB' : TT} {rest : List Expr}
theorem uT_eq (t : TE) : uT t = tB t := by funext σ H Q; unfold uT tB; rw [k_bl]
theorem uT_eq' (t : TE) : uT t = tTest t := by funext σ H Q; unfold uT tTest; rw [k_bl]
theorem uAndV_eq (ta tb : TE) : uAndV ta tb = tAndV ta tb := by funext σ H Q; unfold uAndV tAndV; rw [k_and]
theorem uOrV_eq (ta tb : TE) : uOrV ta tb = tOrV ta tb := by funext σ H Q; unfold uOrV tOrV; rw [k_and]
theorem uNotV_eq (ta : TE) : uNotV ta = tNotV ta := by
  funext σ H Q; unfold uNotV tNotV
  exact congrArg (ta σ H) (k_bl fun c H1 => Q (.bl (!c)) H1)
theorem uAnd_eq (t u : TT) : uAnd t u = tAnd t u := by funext σ H Q; unfold uAnd tAnd; rw [k_b]
theorem uOr_eq (t u : TT) : uOr t u = tOr t u := by funext σ H Q; unfold uOr tOr; rw [k_b]
theorem uIf_eq (t : TT) (ta tb : TE) : uIf t ta tb = tIf t ta tb := by funext σ H Q; unfold uIf tIf; rw [k_b]
theorem uIfS_eq (t : TT) (a b : TS) : uIfS t a b = tIfS t a b := by funext D σ H; unfold uIfS tIfS; rw [k_b]
theorem put_val {e : Expr} {t : TE} (h : PE X e t) (he : ∀ whole, isTrue e X.env whole = (do let v ← whole; standAt e.pos; holding [v] (truthy v)) := by intro _; rfl) : PT X e (uT t) := by
  rw [uT_eq]; exact pt_val h he
theorem put_cmp {op : CmpOp} {r : R2} (ho : OpR X (compareOp op) r) (ha : PE X a ta) (hb : PE X b tb) (hm : behindInMarks op b = false) : PT X (.Compare a [op] [b] pos) (uT (tOp r ta tb)) := by
  rw [uT_eq']; exact pt_cmpR ho ha hb hm
theorem pue_and (ha : PE X a ta) (hb : PE X (.BoolOp .And (b :: rest) pos) tb) : PE X (.BoolOp .And (a :: b :: rest) pos) (uAndV ta tb) := by rw [uAndV_eq]; exact pe_and ha hb
theorem pue_or (ha : PE X a ta) (hb : PE X (.BoolOp .Or (b :: rest) pos) tb) : PE X (.BoolOp .Or (a :: b :: rest) pos) (uOrV ta tb) := by rw [uOrV_eq]; exact pe_or ha hb
theorem pue_not (ha : PE X a ta) : PE X (.UnaryOp .Not a pos) (uNotV ta) := by rw [uNotV_eq]; exact pe_not ha
theorem puw_and (ha : PT X a tA) (hb : PW X (.BoolOp .And (b :: rest) pos) tB') : PW X (.BoolOp .And (a :: b :: rest) pos) (uAnd tA tB') := by rw [uAnd_eq]; exact pw_and ha hb
theorem puw_or (ha : PT X a tA) (hb : PW X (.BoolOp .Or (b :: rest) pos) tB') : PW X (.BoolOp .Or (a :: b :: rest) pos) (uOr tA tB') := by rw [uOr_eq]; exact pw_or ha hb
theorem put_not (ha : PT X a tA) : PT X (.UnaryOp .Not a pos) (uNot tA) := pt_not ha
theorem pue_if {c : Expr} (hc : PT X c tA) (ha : PE X a ta) (hb : PE X b tb) : PE X (.IfExp c a b pos) (uIf tA ta tb) := by rw [uIf_eq]; exact pe_ifExp hc ha hb
theorem pus_if {c : Expr} {p q : List Stmt} {t u : TS} (hc : PT X c tA) (ha : PSs X p t) (hb : PSs X q u) : PS X (.If c p q pos) (uIfS tA t u) := by rw [uIfS_eq]; exact ps_if hc ha hb
end

/-! ### operators -/
def uAdd (K : PySem.W.Frag) : R2 := fun x y H Q => match x, y with
  | .int i, .int j => Q (.int (i + j)) H
  | .str i, .str j => i.length + j.length ≤ sizeLine ∧ Q (.str (i ++ j)) H
  | .ref l, .ref b => ∃ xs zs, H l = some (.lst xs) ∧ H b = some (.lst zs) ∧ xs.length + zs.length ≤ sizeLine ∧ ∀ p, H p = none → Q (.ref p) (upd H p (.lst (xs ++ zs)))
  | _, _ => False
def uSub : R2 := fun x y H Q => match x, y with
  | .int i, .int j => Q (.int (i - j)) H
  | _, _ => False
def uMul : R2 := fun x y H Q => match x, y with
  | .int i, .int j => CMul i j ∧ Q (.int (i * j)) H
  | _, _ => False
def uFdiv : R2 := fun x y H Q => match x, y with
  | .int i, .int j => CDiv i j ∧ Q (.int (i / j)) H
  | _, _ => False
def uMod : R2 := fun x y H Q => match x, y with
  | .int i, .int j => 0 < j ∧ Q (.int (i % j)) H
  | _, _ => False
def uPow : R2 := fun x y H Q => match x, y with
  | .int i, .int j => CPow i j ∧ Q (.int (i ^ j.toNat)) H
  | _, _ => False
def uCmpI (p : Int → Int → Bool) (q : List Nat → List Nat → Bool) : R2 := fun x y H Q => match x, y with
  | .int i, .int j => Q (.bl (p i j)) H
  | .str i, .str j => Q (.bl (q i.cps.toList j.cps.toList)) H
  | _, _ => False
abbrev uLt : R2 := uCmpI (fun i j => decide (i < j)) (fun i j => decide (i < j))
abbrev uLe : R2 := uCmpI (fun i j => decide (i ≤ j)) (fun i j => !decide (j < i))
abbrev uGt : R2 := uCmpI (fun i j => decide (j < i)) (fun i j => decide (j < i))
abbrev uGe : R2 := uCmpI (fun i j => decide (j ≤ i)) (fun i j => !decide (i < j))
section
variable {X : Cx}
theorem ou_add : OpR X (binaryOp .Add) (uAdd X.K) := OpRi (op_add.or (op_add_str.or op_cat)) fun x y H Q h => by
  unfold uAdd at h
  split at h
  · exact .inl ⟨_, _, rfl, rfl, h⟩
  · exact .inr (.inl ⟨_, _, rfl, rfl, h⟩)
  · obtain ⟨xs, zs, h1, h2, h3, h4⟩ := h
    exact .inr (.inr ⟨_, _, xs, zs, rfl, rfl, h1, h2, h3, h4⟩)
  · exact h.elim
theorem ou_sub : OpR X (binaryOp .Sub) uSub := OpRi op_sub fun x y H Q h => by
  unfold uSub at h
  split at h
  · exact ⟨_, _, rfl, rfl, h⟩
  · exact h.elim
theorem ou_mul : OpR X (binaryOp .Mult) uMul := OpRi op_mul fun x y H Q h => by
  unfold uMul at h
  split at h
  · exact ⟨_, _, rfl, rfl, h⟩
  · exact h.elim
theorem ou_fdiv : OpR X (binaryOp .FloorDiv) uFdiv := OpRi op_fdiv fun x y H Q h => by
  unfold uFdiv at h
  split at h
  · exact ⟨_, _, rfl, rfl, h⟩
  · exact h.elim
theorem ou_mod : OpR X (binaryOp .Mod) uMod := OpRi op_mod fun x y H Q h => by
  unfold uMod at h
  split at h
  · exact ⟨_, _, rfl, rfl, h⟩
  · exact h.elim
theorem ou_pow : OpR X (binaryOp .Pow) uPow := OpRi op_pow fun x y H Q h => by
  unfold uPow at h
  split at h
  · exact ⟨_, _, rfl, rfl, h⟩
  · exact h.elim
theorem uCmp_or {p : Int → Int → Bool} {q : List Nat → List Nat → Bool} {f : Value → Value → Sem Value} (h1 : OpR X f (rI0 fun i j => .bl (p i j))) (h2 : OpR X f (fun x y H Q => ∃ i j, x = .str i ∧ y = .str j ∧ Q (.bl (q i.cps.toList j.cps.toList)) H)) : OpR X f (uCmpI p q) :=
  OpRi (h1.or h2) fun x y H Q h => by
  unfold uCmpI at h
  split at h
  · exact .inl ⟨_, _, rfl, rfl, h⟩
  · exact .inr ⟨_, _, rfl, rfl, h⟩
  · exact h.elim
theorem ou_lt : OpR X (compareOp .Lt) uLt := uCmp_or op_lt op_lt_str
theorem ou_le : OpR X (compareOp .LtE) uLe := uCmp_or op_le op_le_str
theorem ou_gt : OpR X (compareOp .Gt) uGt := uCmp_or op_gt op_gt_str
theorem ou_ge : OpR X (compareOp .GtE) uGe := uCmp_or op_ge op_ge_str
end

/-! ### what is read at an address -/
def seqOf (c : String) (o : Obj) : Option (List V) := match o with
  | ⟨.type d, none, .seq its _, _⟩ => if c = d ∧ its.size ≤ sizeLine then its.toList.mapM absV else none
  | _ => none
def kS (K : PySem.W.Frag) (c : String) (a : Addr) : Option (List V) := match K.lookup a with
  | some o => seqOf c o
  | none => none
def rdL (K : PySem.W.Frag) (H : Hp) (a : Addr) : Option (List V) := match H a with
  | some (.lst xs) => some xs
  | some (.frz _ (.lst xs)) => some xs
  | some _ => none
  | none => kS K "list" a
def rdT (K : PySem.W.Frag) (H : Hp) (a : Addr) : Option (List V) := match H a with
  | some (.tup xs) => some xs
  | some (.frz _ (.tup xs)) => some xs
  | some _ => none
  | none => kS K "tuple" a
def rdS (K : PySem.W.Frag) (H : Hp) (a : Addr) : Option (List V) := match rdL K H a with
  | some xs => some xs
  | none => rdT K H a
theorem mapM_vals : ∀ {us : List Value} {xs : List V}, us.mapM absV = some xs → Vals xs us := by
  intro us
  induction us with
  | nil => intro xs h; simp at h; subst h; exact .nil
  | cons u r ih =>
    intro xs h
    rw [List.mapM_cons] at h
    cases e1 : absV u with
    | none => rw [e1] at h; cases h
    | some x =>
      cases e2 : r.mapM absV with
      | none => rw [e1, e2] at h; cases h
      | some ys =>
        rw [e1, e2] at h
        cases h
        refine .cons ?_ (ih e2)
        cases u <;> simp [absV] at e1 <;> subst e1 <;> first | rfl | exact ⟨_, rfl⟩
theorem kS_spec {K : PySem.W.Frag} {c : String} {a : Addr} {xs : List V} (h : kS K c a = some xs) : ∃ (o : Obj) (its : Array Value) (n : Nat), K.lookup a = some o ∧ o.cls = .type c ∧ o.dict = none ∧ o.data = .seq its n ∧ its.size ≤ sizeLine ∧ Vals xs its.toList := by
  unfold kS at h
  split at h
  · rename_i o e
    unfold seqOf at h
    split at h
    · split at h
      · rename_i hc
        obtain ⟨rfl, hz⟩ := hc
        exact ⟨_, _, _, e, rfl, rfl, rfl, hz, mapM_vals h⟩
      · cases h
    · cases h
  · cases h
theorem rdL_sq {K : PySem.W.Frag} {H : Hp} {a : Addr} {xs : List V} (h : rdL K H a = some xs) : SqL K H a xs := by
  unfold rdL at h
  split at h
  · cases h; exact .inl (.inl (by assumption))
  · cases h; exact .inl (.inr ⟨_, by assumption⟩)
  · cases h
  · exact .inr (kS_spec h)
theorem rdT_sq {K : PySem.W.Frag} {H : Hp} {a : Addr} {xs : List V} (h : rdT K H a = some xs) : SqT K H a xs := by
  unfold rdT at h
  split at h
  · cases h; exact .inl (.inl (by assumption))
  · cases h; exact .inl (.inr ⟨_, by assumption⟩)
  · cases h
  · obtain ⟨o, its, n, h1, h2, h3, h4, h5, h6⟩ := kS_spec h
    exact .inr ⟨o, its, n, h1, h2, h4, h5, h6⟩
theorem rdS_sq {K : PySem.W.Frag} {H : Hp} {a : Addr} {xs : List V} (h : rdS K H a = some xs) : SqL K H a xs ∨ SqT K H a xs := by
  unfold rdS at h
  split at h
  · cases h; exact .inl (rdL_sq (by assumption))
  · exact .inr (rdT_sq h)
theorem rdL_of {K : PySem.W.Frag} {H : Hp} {a : Addr} {xs : List V} (h : H a = some (.lst xs)) : rdL K H a = some xs := by unfold rdL; rw [h]
theorem rdT_of {K : PySem.W.Frag} {H : Hp} {a : Addr} {xs : List V} (h : H a = some (.tup xs)) : rdT K H a = some xs := by unfold rdT; rw [h]
theorem rdS_ofL {K : PySem.W.Frag} {H : Hp} {a : Addr} {xs : List V} (h : rdL K H a = some xs) : rdS K H a = some xs := by unfold rdS; rw [h]
theorem rdS_l {K : PySem.W.Frag} {H : Hp} {a : Addr} {xs : List V} (h : H a = some (.lst xs)) : rdS K H a = some xs := rdS_ofL (rdL_of h)
theorem rdS_t {K : PySem.W.Frag} {H : Hp} {a : Addr} {xs : List V} (h : H a = some (.tup xs)) : rdS K H a = some xs := by
  unfold rdS rdL rdT; rw [h]

/-- a list or a tuple is read -/
def oS (K : PySem.W.Frag) (H : Hp) (p : Addr) (f : List V → Prop) : Prop := ∃ xs, (SqL K H p xs ∨ SqT K H p xs) ∧ f xs
theorem oS_of {K : PySem.W.Frag} {H : Hp} {p : Addr} {f : List V → Prop} {xs : List V} (h : rdS K H p = some xs) (k : f xs) : oS K H p f := ⟨xs, rdS_sq h, k⟩
theorem oS_l {K : PySem.W.Frag} {H : Hp} {p : Addr} {f : List V → Prop} {xs : List V} (h : SqL K H p xs) (k : f xs) : oS K H p f := ⟨xs, .inl h, k⟩

/-! ### growth of heaps -/
abbrev Ex (H H' : Hp) : Prop := ∀ a o, H a = some o → H' a = some o
theorem Ex.refl (H : Hp) : Ex H H := fun _ _ h => h
theorem Ex.trans {H H1 H2 : Hp} (a : Ex H H1) (b : Ex H1 H2) : Ex H H2 := fun x o h => b x o (a x o h)
theorem Ex.new {H : Hp} {p : Addr} {o : HO} (h : H p = none) : Ex H (upd H p o) := fun a u e => by
  rw [upd_ne (ne_of_none e h)]
  exact e
theorem Ex.mut {H H' : Hp} {p : Addr} {o : HO} (e : Ex H H') (h : H p = none) : Ex H (upd H' p o) := fun a u ha => by
  rw [upd_ne (ne_of_none ha h)]
  exact e a u ha
theorem Ex.free {H H' : Hp} (e : Ex H H') {p : Addr} (h : H' p = none) : H p = none := by
  cases h1 : H p with
  | none => rfl
  | some o => rw [e p o h1] at h; cases h
/-- all but b stays -/
def Fr (b : Addr) (H H' : Hp) : Prop := ∀ a o, H a = some o → a ≠ b → H' a = some o
theorem Fr.refl (b : Addr) (H : Hp) : Fr b H H := fun _ _ h _ => h
theorem Fr.trans {b : Addr} {H H1 H2 : Hp} (x : Fr b H H1) (y : Fr b H1 H2) : Fr b H H2 := fun a o h n => y a o (x a o h n) n
theorem Fr.ex {b : Addr} {H H1 : Hp} (x : Ex H H1) : Fr b H H1 := fun a o h _ => x a o h
theorem Fr.new {b p : Addr} {H : Hp} {o : HO} (h : H p = none) : Fr b H (upd H p o) := Fr.ex (Ex.new h)

/-! ### equality, membership -/
def uEq (K : PySem.W.Frag) : R2 := fun x y H Q => match scal x y with
  | true => Q (.bl (decide (x = y))) H
  | false => ∃ d e, Dp K H x d ∧ Dp K H y e ∧ SeqAt.shaped d = true ∧ SeqAt.shaped e = true ∧ Q (.bl (PyData.eqv d e)) H
def uNe (K : PySem.W.Frag) : R2 := fun x y H Q => match scal x y with
  | true => Q (.bl (!decide (x = y))) H
  | false => (∃ d e, Dp K H x d ∧ Dp K H y e ∧ SeqAt.shaped d = true ∧ SeqAt.shaped e = true ∧ Q (.bl (!PyData.eqv d e)) H) ∨
      ∃ a b kvs ys, x = .ref a ∧ y = .ref b ∧ H a = some (.dK kvs) ∧ H b = some (.tup ys) ∧ Q (.bl true) H
def uIn (K : PySem.W.Frag) (neg : Bool) : R2 := fun x y H Q => match y with
  | .str z => (match x with
    | .str w => (match w.cps.toList with
      | [c] => Q (.bl (if neg then !decide (c ∈ z.cps.toList) else decide (c ∈ z.cps.toList))) H
      | _ => False)
    | _ => False)
  | .ref p => oS K H p fun xs => flatV x = true ∧ xs.all flatV = true ∧ Q (.bl (if neg then !inV x xs else inV x xs)) H
  | _ => False
theorem str_one {w : Str} {c : Nat} (h : w.cps.toList = [c]) : w = ⟨#[c]⟩ := by
  obtain ⟨⟨l⟩⟩ := w
  have h : l = [c] := h
  subst h
  rfl
theorem uIn_sp {K : PySem.W.Frag} {neg : Bool} {x y : V} {H : Hp} {Q : VK} (h : uIn K neg x y H Q) :
    (∃ (c : Nat) (z : Str), x = .str ⟨#[c]⟩ ∧ y = .str z ∧ Q (.bl (if neg then !decide (c ∈ z.cps.toList) else decide (c ∈ z.cps.toList))) H) ∨ rIn K neg x y H Q := by
  unfold uIn at h
  split at h
  · split at h
    · split at h
      · rename_i e
        exact .inl ⟨_, _, by rw [str_one e], rfl, h⟩
      · exact h.elim
    · exact h.elim
  · obtain ⟨xs, e, h1, h2, h3⟩ := h
    exact .inr ⟨_, _, rfl, e, h1, h2, h3⟩
  · exact h.elim
section
variable {X : Cx}
theorem ou_eq (hu : X.A.units + 64 < cLine) : OpR X (compareOp .Eq) (uEq X.K) := OpRi (op_eq.or (op_eqD hu)) fun x y H Q h => by
  unfold uEq at h
  split at h
  · exact .inl ⟨by assumption, h⟩
  · exact .inr h
theorem op_ne_dt (hu : X.A.units + 64 < cLine) : OpR X (compareOp .NotEq) (fun x y H Q => ∃ a b kvs ys, x = V.ref a ∧ y = .ref b ∧ H a = some (.dK kvs) ∧ H b = some (.tup ys) ∧ Q (.bl true) H) := by
  intro pins s σ H x y v u Q I rx ry h
  obtain ⟨a, b, kvs, ys, rfl, rfl, ha, hb, q⟩ := h
  cases rx
  cases ry
  obtain ⟨_, _, vs, _, o, es, ep, h1, h2, h3, _⟩ := (show ObjOk X.prog X.w H s.heap a (.dK kvs) from I.hok a _ ha)
  obtain ⟨_, its, _, ht⟩ := (show ObjOk X.prog X.w H s.heap b (.tup ys) from I.hok b _ hb)
  exact SeqAt.RcNeAt.dict_tuple h1 h2 h3 ht (by omega) X.prog X.w X.xe _ ⟨.bl true, H, I, rfl, q⟩
theorem ou_ne (hu : X.A.units + 64 < cLine) : OpR X (compareOp .NotEq) (uNe X.K) := OpRi (op_ne.or ((op_neD hu).or (op_ne_dt hu))) fun x y H Q h => by
  unfold uNe at h
  split at h
  · exact .inl ⟨by assumption, h⟩
  · exact .inr h
theorem ou_in : OpR X (compareOp .In) (uIn X.K false) := OpRi (op_in_sign.or op_in_seq) fun x y H Q h => uIn_sp h
theorem ou_notin : OpR X (compareOp .NotIn) (uIn X.K true) := OpRi (op_notIn_sign.or op_notIn_seq) fun x y H Q h => uIn_sp h
end
/-- a < b < c -/
def uChain (r r' : R2) (ta tb tc : TE) : TE := fun σ H Q => ta σ H fun x H1 => tb σ H1 fun y H2 => r x y H2 fun z H3 => bV z (tc σ H3 fun w H4 => r' y w H4 Q) (Q (.bl false) H3)
theorem uChain_eq (r r' : R2) (ta tb tc : TE) : uChain r r' ta tb tc = tChain r r' ta tb tc := by
  funext σ H Q; unfold uChain tChain
  congr 1; funext x H1; congr 1; funext y H2
  rw [k_and]
section
variable {X : Cx} {a b c : Expr} {ta tb tc : TE} {pos : Pos}
theorem pue_chain {op op' : CmpOp} {r r' : R2} (ho : OpR X (compareOp op) r) (ho' : OpR X (compareOp op') r') (ha : PE X a ta) (hb : PE X b tb) (hc : PE X c tc) (hl : lastMarks [op, op'] [b, c] = false := by rfl) :
    PE X (.Compare a [op, op'] [b, c] pos) (uChain r r' ta tb tc) := by rw [uChain_eq]; exact pe_chain ho ho' ha hb hc hl
theorem put_chain {op op' : CmpOp} {r r' : R2} (ho : OpR X (compareOp op) r) (ho' : OpR X (compareOp op') r') (ha : PE X a ta) (hb : PE X b tb) (hc : PE X c tc) (hl : lastMarks [op, op'] [b, c] = false := by rfl) :
    PT X (.Compare a [op, op'] [b, c] pos) (uT (uChain r r' ta tb tc)) := by rw [uT_eq', uChain_eq]; exact pt_chain ho ho' ha hb hc hl
end

/-! ### items and slices -/
def uIx (K : PySem.W.Frag) : R2 := fun x y H Q => match x, y with
  | .str z, .int i => z.length ≤ sizeLine ∧ oK (atI z.cps.toList i) fun c => Q (.str ⟨#[c]⟩) H
  | .ref p, .int i => oS K H p fun xs => oK (atI xs i) fun v => Q v H
  | _, _ => False
theorem iu_ix {X : Cx} : IxR X (uIx X.K) := IxRi ix_seq fun x y H Q h => by
  unfold uIx at h
  split at h
  · obtain ⟨h1, h2⟩ := h
    obtain ⟨c, e, h2⟩ := oK_ex h2
    exact .inr (.inr ⟨_, _, _, rfl, rfl, h1, e, h2⟩)
  · obtain ⟨xs, e, h⟩ := h
    obtain ⟨v, e2, h⟩ := oK_ex h
    rcases e with q | q
    · exact .inl ⟨_, _, _, _, rfl, rfl, q, e2, h⟩
    · exact .inr (.inl ⟨_, _, _, _, rfl, rfl, q, e2, h⟩)
  · exact h.elim
def uPart (t : TE) : TO := fun σ H Q => t σ H fun x H1 => match x with | .int i => Q (some i) H1 | _ => False
theorem pou_some {X : Cx} {e : Expr} {te : TE} (h : PE X e te) : PO X (some e) (uPart te) := by
  have : uPart te = tPart te := by
    funext σ H Q; unfold uPart tPart; congr 1; funext x H1
    cases x <;> simp
  rw [this]; exact po_some h
/-- texts and lists -/
def uSl (K : PySem.W.Frag) : V → Option Int → Option Int → Hp → VK → Prop := fun x lo hi H Q => match x with
  | .str z => z.length ≤ sizeLine ∧ Q (.str (cutS z lo hi)) H
  | .ref a => (match rdL K H a with
    | some xs => ∀ p, H p = none → Q (.ref p) (upd H p (.lst (cutV xs lo hi)))
    | none => (match rdT K H a with
      | some xs => ¬ (HT.sIx xs.length 0 lo = 0 ∧ HT.sIx xs.length xs.length hi = xs.length) ∧ ∀ p, H p = none → Q (.ref p) (upd H p (.tup (cutV xs lo hi)))
      | none => False))
  | _ => False
theorem su_sl {X : Cx} : L2.SlR X (uSl X.K) := SlRi (sl_str.or (sl_list.or sl_tup)) fun x lo hi H Q h => by
  unfold uSl at h
  split at h
  · exact .inl ⟨_, rfl, h.1, h.2⟩
  · split at h
    · exact .inr (.inl ⟨_, _, rfl, rdL_sq (by assumption), h⟩)
    · split at h
      · exact .inr (.inr ⟨_, _, rfl, rdT_sq (by assumption), h.1, h.2⟩)
      · exact h.elim
  · exact h.elim

/-! ### builtins -/
def uLen (K : PySem.W.Frag) : List V → Hp → VK → Prop := fun xs H Q => match xs with
  | [.str z] => z.length ≤ sizeLine ∧ Q (.int z.length) H
  | [.ref p] => oS K H p fun ys => Q (.int ys.length) H
  | _ => False
def uMax2 : List V → Hp → VK → Prop := fun xs H Q => match xs with
  | [.int i, .int j] => Q (.int (if j > i then j else i)) H
  | _ => False
def uMin2 : List V → Hp → VK → Prop := fun xs H Q => match xs with
  | [.int i, .int j] => Q (.int (if j < i then j else i)) H
  | _ => False
def uStr : List V → Hp → VK → Prop := fun xs H Q => match xs with
  | [.int i] => i.natAbs.log2 < 1920 ∧ Q (.str (toString i)) H
  | _ => False
section
variable {X : Cx}
theorem cu_len : CallR X (.builtin "len") (uLen X.K) := CallRi call_len fun xs H Q h => by
  unfold uLen at h
  split at h
  · exact ⟨_, _, rfl, ⟨h.1, rfl⟩, h.2⟩
  · obtain ⟨ys, e, h⟩ := h
    rcases e with q | q
    · exact ⟨_, _, rfl, .inl ⟨_, q, rfl⟩, h⟩
    · exact ⟨_, _, rfl, .inr ⟨_, q, rfl⟩, h⟩
  · exact h.elim
theorem cu_max (hc : X.calm = true) : CallR X (.builtin "max") uMax2 := CallRi (call_max2 hc) fun xs H Q h => by
  unfold uMax2 at h
  split at h
  · exact ⟨_, _, rfl, h⟩
  · exact h.elim
theorem cu_min (hc : X.calm = true) : CallR X (.builtin "min") uMin2 := CallRi (call_min2 hc) fun xs H Q h => by
  unfold uMin2 at h
  split at h
  · exact ⟨_, _, rfl, h⟩
  · exact h.elim
theorem cu_str : CallR X (.type "str") uStr := CallRi call_str_int fun xs H Q h => by
  unfold uStr at h
  split at h
  · exact ⟨_, rfl, h⟩
  · exact h.elim
end
/-! ### kinds of values -/
inductive Ty | non | bl | int | str | lst | tup | dct
  deriving DecidableEq
def Ty.nm : Ty → String | .non => "NoneType" | .bl => "bool" | .int => "int" | .str => "str" | .lst => "list" | .tup => "tuple" | .dct => "dict"
def tyO : HO → Option Ty
  | .lst _ => some .lst
  | .tup _ => some .tup
  | .dK _ => some .dct
  | .dT _ => some .dct
  | .frz _ (.lst _) => some .lst
  | .frz _ (.tup _) => some .tup
  | _ => none
def tyOf (H : Hp) : V → Option Ty
  | .non => some .non | .bl _ => some .bl | .int _ => some .int | .str _ => some .str
  | .ref a => (H a).bind tyO
  | _ => none
theorem tyOf_x {K : PySem.W.Frag} {H : Hp} {v : V} {t : Ty} (h : tyOf H v = some t) : TyX K H v (.type t.nm) := by
  cases v with
  | non => cases h; exact .base .non
  | bl b => cases h; exact .base (.bl b)
  | int i => cases h; exact .base (.int i)
  | str x => cases h; exact .base (.str x)
  | byt b => cases h
  | flt b => cases h
  | ty n => cases h
  | ref a =>
    have h : (H a).bind tyO = some t := h
    cases e : H a with
    | none => rw [e] at h; cases h
    | some o =>
      rw [e] at h
      have h : tyO o = some t := h
      unfold tyO at h
      split at h <;> first | (cases h; done) | (cases h; first | exact .base (.lst e) | exact .base (.tup e) | exact .base (.dK e) | exact .base (.dT e) | exact .base (.frz e) | exact .fTuple e)
/-- is a thing of the one kind a thing of the other -/
def isT (t c : Ty) : Bool := decide (t = c) || (decide (t = .bl) && decide (c = .int))
theorem isT_kit (t c : Ty) : kitB t.nm c.nm = some (isT t c) := by cases t <;> cases c <;> decide +kernel
def uIsi (c : Ty) (te : TE) : TE := fun σ H Q => te σ H fun x H1 => oK (tyOf H1 x) fun t => Q (.bl (isT t c)) H1
def rIsiC (c : Ty) : List V → Hp → VK → Prop := fun xs H Q => match xs with
  | [x, y] => y = .ty c.nm ∧ oK (tyOf H x) fun t => Q (.bl (isT t c)) H
  | _ => False
def uIsiT (cs : List Ty) : List V → Hp → VK → Prop := fun xs H Q => match xs with
  | [x, .ref p] => H p = some (.tup (cs.map fun c => .ty c.nm)) ∧ oK (tyOf H x) fun t => Q (.bl (cs.any (isT t))) H
  | _ => False
theorem kitAny_any {K : PySem.W.Frag} (t : Ty) : ∀ cs : List Ty, PySem.W.kitAny K (.type t.nm) (cs.map fun c => Value.type c.nm) = some (cs.any (isT t))
  | [] => rfl
  | c :: cs => by
    have ih := kitAny_any (K := K) t cs
    have h1 := kit_ty (K := K) (isT_kit t c)
    rw [List.map_cons, List.any_cons]
    cases hb : isT t c with
    | true => exact kitAny_cons (h1.trans (by rw [hb])) (fun z => Bool.noConfusion z) fun _ => rfl
    | false => exact kitAny_cons (h1.trans (by rw [hb])) (fun _ => by rw [Bool.false_or]; exact ih) fun z => Bool.noConfusion z
theorem pairedCls : ∀ cs : List Ty, Paired ClsV (cs.map fun c => V.ty c.nm) (cs.map fun c => Value.type c.nm)
  | [] => .nil
  | c :: cs => .cons (.ty _) (pairedCls cs)
theorem uIsi_eq (c : Ty) (te : TE) : uIsi c te = tCB (rIsiC c) (tCons te (tCons (tC (.ty c.nm)) tNil)) := by
  funext σ H Q
  show te σ H _ = te σ H _
  congr 1; funext x H1
  show _ = (V.ty c.nm = V.ty c.nm ∧ _)
  simp
section
variable {X : Cx} {e : Expr} {te : TE} {p pos q : Pos}
theorem cu_isi (c : Ty) : CallR X (.builtin "isinstance") (rIsiC c) := CallRi call_isi fun xs H Q h => by
  unfold rIsiC at h
  split at h
  · obtain ⟨rfl, h⟩ := h
    obtain ⟨t, e, h⟩ := oK_ex h
    exact ⟨_, _, _, _, _, rfl, .ty _, tyOf_x e, kit_ty (isT_kit _ _), h⟩
  · exact h.elim
theorem cu_isiT (cs : List Ty) : CallR X (.builtin "isinstance") (uIsiT cs) := CallRi call_isiT fun xs H Q h => by
  unfold uIsiT at h
  split at h
  · obtain ⟨h1, h⟩ := h
    obtain ⟨t, e, h⟩ := oK_ex h
    exact ⟨_, _, _, _, _, _, rfl, h1, pairedCls cs, tyOf_x e, kitAny_any _ _, h⟩
  · exact h.elim
theorem pue_isi {n : Str} (c : Ty) (he : PE X e te) (hg : Gl X "isinstance") (hm : X.mg "isinstance" = none) (hn : Gl X n) (hmn : X.mg n = none) (hv : bootBuiltins n = some (.type c.nm)) (hnn : n ≠ "__name__" := by decide) (hnd : (n == ("__debug__" : Str)) = false := by decide)
    (hs1 : starEach [e, .Name n q] X.env = (false, eval e X.env) :: starEach [.Name n q] X.env := by rfl) (hs2 : starEach [.Name n q] X.env = (false, eval (.Name n q) X.env) :: starEach [] X.env := by rfl) (hs3 : ((backTo pos (starEach [.Name n q] X.env)).any fun x => x.fst) = false := by rfl) :
    PE X (.Call (.Name "isinstance" p) [e, .Name n q] [] pos) (uIsi c te) := by
  rw [uIsi_eq]
  have h2 : PE X (.Name n q) (tC (.ty c.nm)) := pe_bltn hn hmn hv rfl hnn hnd
  exact pe_callB (cu_isi c) hg hm (by decide +kernel) (pa_cons he (pa_cons h2 pa_nil hs2) hs1) (by decide) (by decide) hs1 hs3
end

/-! ### loops -/
def chars (z : Str) : List V := z.cps.toList.map fun c => V.str ⟨#[c]⟩
/-- what a walk over a value gives -/
def items (K : PySem.W.Frag) (H : Hp) : V → Option (List V)
  | .str z => some (chars z)
  | .ref a => rdS K H a
  | _ => none
/-- the walk over x at H1 -/
def goIt (K : PySem.W.Frag) (x : V) (H1 : Hp) (R : It → Hp → Prop) : Prop := match x with
  | .str z => R (Its z) H1
  | .ref a => (match rdL K H1 a with
    | some _ => R (Itl K a) H1
    | none => (match rdT K H1 a with
      | some _ => R (Itt K a) H1
      | none => False))
  | _ => False
def uIter (K : PySem.W.Frag) (te : TE) : TI := fun σ H R => te σ H fun x H1 => goIt K x H1 R
theorem piu {X : Cx} {tg e : Expr} {te : TE} (he : PE X e te) : PI X tg e (uIter X.K te) := by
  refine ⟨fun pins s σ H R I h => ?_⟩
  refine thn (he.run pins s σ H _ I h) fun v s1 ⟨y, H1, I1, r1, q⟩ => ?_
  dsimp only at q
  unfold goIt at q
  split at q
  · rename_i x
    obtain ⟨t, rfl⟩ := r1
    cases ha : x.cps.all (· < 128)
    · exact wpAny_pyIter_wide ha (pi_one (tk := s1.toks) I1 _ (turn_str _ x t "str_iterator" (.inr rfl)) ⟨_, Heap.get?_push_size _ rfl, rfl, rfl⟩ q)
    · exact wpAny_pyIter_ascii ha (pi_one (tk := s1.toks) I1 _ (turn_str _ x t "str_ascii_iterator" (.inl rfl)) ⟨_, Heap.get?_push_size _ rfl, rfl, rfl⟩ q)
  · rename_i a
    split at q
    · rename_i xs hx
      have hq := rdL_sq hx
      cases r1
      obtain ⟨its, rv, p, hz⟩ := I1.list hq
      refine wpAny_pyIter_list p.isList ?_
      refine ⟨s1.heap.objs.size, [s1.heap.objs.size], _, _, H1, rfl, I1.kept (t' := s1.toks) fun b o e => Heap.get?_push_of_some _ e, turn_list a _, ⟨_, Heap.get?_push_size _ rfl, rfl, rfl⟩, fun b hb => ?_, q⟩
      have e : b = s1.heap.objs.size := by simpa using hb
      subst e
      exact I1.fpOk (Nat.le_refl _) (I1.hok.fresh (Nat.le_refl _))
    · split at q
      · rename_i xs hx
        have hq := rdT_sq hx
        cases r1
        obtain ⟨its, rv, p, hz⟩ := I1.tuple hq
        refine wpAny_pyIter_tuple (show s1.heap.IsTuple a its.toArray from p) ?_
        refine ⟨s1.heap.objs.size, [s1.heap.objs.size], _, _, H1, rfl, I1.kept (t' := s1.toks) fun b o e => Heap.get?_push_of_some _ e, turn_tuple a _, ⟨_, Heap.get?_push_size _ rfl, rfl, rfl⟩, fun b hb => ?_, q⟩
        have e : b = s1.heap.objs.size := by simpa using hb
        subst e
        exact I1.fpOk (Nat.le_refl _) (I1.hok.fresh (Nat.le_refl _))
      · exact q.elim
  · exact q.elim
theorem walk_chars {z : Str} : Walk (Its z) (chars z).length (fun _ => True) (YAt (chars z)) := by
  have hl : (chars z).length = z.cps.size := by unfold chars; simp
  rw [hl]
  refine ⟨fun _ _ hi _ => hi, fun _ _ => Nat.le_refl _, fun i H v H' hi _ y => ?_⟩
  obtain ⟨e, c, hc, rfl⟩ := y
  refine ⟨e, ?_⟩
  unfold chars
  rw [List.getElem?_map, Array.getElem?_toList, hc]
  rfl
/-- what is walked: the value, its items, what must stay -/
inductive Src (K : PySem.W.Frag) : V → It → List V → (Hp → Prop) → Prop
  | str (z : Str) : Src K (.str z) (Its z) (chars z) (fun _ => True)
  | lst (a : Addr) (xs : List V) : Src K (.ref a) (Itl K a) xs (fun H => rdL K H a = some xs)
  | tup (a : Addr) (xs : List V) : Src K (.ref a) (Itt K a) xs (fun H => rdL K H a = none ∧ rdT K H a = some xs)
theorem Src.walk {K : PySem.W.Frag} {x : V} {J : It} {xs : List V} {G : Hp → Prop} (S : Src K x J xs G) : Walk J xs.length G (YAt xs) := by
  cases S with
  | str z => exact walk_chars
  | lst a => exact walk_list.mono (fun _ g => rdL_sq g) fun _ _ _ _ _ _ y => y
  | tup a => exact walk_tup.mono (fun _ g => rdT_sq g.2) fun _ _ _ _ _ _ y => y
theorem Src.go {K : PySem.W.Frag} {x : V} {J : It} {xs : List V} {G : Hp → Prop} (S : Src K x J xs G) {H1 : Hp} (g : G H1) {R : It → Hp → Prop} (h : R J H1) : goIt K x H1 R := by
  cases S with
  | str z => exact h
  | lst a => show match rdL K H1 a with | some _ => _ | none => _; rw [show rdL K H1 a = some xs from g]; exact h
  | tup a =>
    show match rdL K H1 a with | some _ => _ | none => _
    rw [g.1]
    show match rdT K H1 a with | some _ => _ | none => _
    rw [g.2]; exact h
theorem for_src {K : PySem.W.Frag} {x : V} {J : It} {xs : List V} {G : Hp → Prop} (S : Src K x J xs G) {g : TG} {tb : TS} {D : Ends} {σ : St} {H : Hp} (hG : G H) (Pv : Nat → St → Hp → Prop) (h0 : Pv 0 σ H) (hst : ∀ i σ H, i ≤ xs.length → Pv i σ H → G H)
    (hs : ∀ i y σ H, xs[i]? = some y → Pv i σ H → g y σ H fun σ2 H2 => tb { D with nx := Pv (i + 1), ct := Pv (i + 1), bk := D.nx } σ2 H2) (hd : ∀ σ H, Pv xs.length σ H → D.nx σ H) :
    goIt K x H fun J H1 => ∃ W : Nat → Nat → St → Hp → Prop, (∃ m, W 0 m σ H1) ∧ ∀ i m σ H, W i m σ H →
      (J.stop i H ∧ D.nx σ H) ∨ (J.go i H ∧ ∃ N : St → Hp → Prop, (∀ σ' H', N σ' H' → ∃ m', m' < m ∧ W (i + 1) m' σ' H') ∧ ∀ x H', J.yld i H x H' → g x σ H' fun σ2 H2 => tb { D with nx := N, ct := N, bk := D.nx } σ2 H2) :=
  S.go hG (for_it S.walk Pv h0 hst (fun i y σ H H' hi p q => by obtain ⟨e, hy⟩ := q; subst e; exact hs i y σ _ hy p) hd)
/-- a comprehension over it -/
theorem lc_src {K : PySem.W.Frag} {x : V} {J : It} {xs : List V} {G : Hp → Prop} (S : Src K x J xs G) {g : TG} {tt : TT} {te : TE} {vs : List Nat} {σ : St} {H1 : Hp} {Q : VK} (hG : G H1) (Pv : Addr → Nat → Hp → Prop)
    (h0 : ∀ D, H1 D = none → Pv D 0 (upd H1 D (.lst []))) (hst : ∀ D i H, i ≤ xs.length → Pv D i H → G H)
    (hs : ∀ D i y H, xs[i]? = some y → Pv D i H → g y (wipe σ vs) H fun σ2 H2 => wipe σ2 vs = wipe σ vs ∧ tt σ2 H2 fun b H3 =>
      if b = true then te σ2 H3 fun y H4 => ∃ acc, H4 D = some (.lst acc) ∧ acc.length < sizeLine ∧ Pv D (i + 1) (upd H4 D (.lst (acc ++ [y]))) else Pv D (i + 1) H3) (hd : ∀ D H, H1 D = none → Pv D xs.length H → Q (.ref D) H) :
    goIt K x H1 fun J H1 => ∀ D, H1 D = none → ∃ W : Nat → Nat → Hp → Prop, (∃ m, W 0 m (upd H1 D (.lst []))) ∧ ∀ i m H, W i m H →
      (J.stop i H ∧ Q (.ref D) H) ∨ (J.go i H ∧ ∃ Nx : Hp → Prop, (∀ H', Nx H' → ∃ m', m' < m ∧ W (i + 1) m' H') ∧ ∀ x H', J.yld i H x H' → g x (wipe σ vs) H' fun σ2 H2 => wipe σ2 vs = wipe σ vs ∧ tt σ2 H2 fun b H3 =>
        if b = true then te σ2 H3 fun y H4 => ∃ acc, H4 D = some (.lst acc) ∧ acc.length < sizeLine ∧ Nx (upd H4 D (.lst (acc ++ [y]))) else Nx H3) :=
  S.go hG fun D hD => lc_it S.walk (Pv D) (h0 D hD) (hst D) (fun i y H H' hi p q => by obtain ⟨e, hy⟩ := q; subst e; exact hs D i y _ hy p) fun H p => hd D H hD p
/-- .. whose items are flat: f x where c x -/
theorem take_map {α : Type} {c : V → Bool} {f : V → α} {xs : List V} {i : Nat} {y : V} (h : xs[i]? = some y) :
    (((xs.take (i + 1)).filter c).map f) = ((xs.take i).filter c).map f ++ (if c y then [f y] else []) := by
  rw [List.take_add_one, h, List.filter_append, List.map_append]
  show _ ++ List.map f (List.filter c [y]) = _
  rw [List.filter_cons]
  cases hc : c y <;> simp
theorem lc_flat {K : PySem.W.Frag} {x : V} {J : It} {xs : List V} {G : Hp → Prop} (S : Src K x J xs G) {j : Nat} {tt : TT} {te : TE} {vs : List Nat} {σ : St} {H1 : Hp} {Q : VK} (hG : G H1) (hGx : ∀ H', Ex H1 H' → G H') (c : V → Bool) (f : V → V) (hz : xs.length < sizeLine)
    (hw : ∀ y, wipe ((wipe σ vs).set j (some y)) vs = wipe σ vs)
    (ht : ∀ (i : Nat) y H', xs[i]? = some y → Ex H1 H' → ∀ R : Bool → Hp → Prop, (∀ H2, Ex H' H2 → R (c y) H2) → tt ((wipe σ vs).set j (some y)) H' R)
    (he : ∀ (i : Nat) y H', xs[i]? = some y → c y = true → Ex H1 H' → ∀ R : VK, (∀ H2, Ex H' H2 → R (f y) H2) → te ((wipe σ vs).set j (some y)) H' R)
    (hd : ∀ D H, H1 D = none → Ex H1 H → H D = some (.lst ((xs.filter c).map f)) → Q (.ref D) H) :
    goIt K x H1 fun J H1 => ∀ D, H1 D = none → ∃ W : Nat → Nat → Hp → Prop, (∃ m, W 0 m (upd H1 D (.lst []))) ∧ ∀ i m H, W i m H →
      (J.stop i H ∧ Q (.ref D) H) ∨ (J.go i H ∧ ∃ Nx : Hp → Prop, (∀ H', Nx H' → ∃ m', m' < m ∧ W (i + 1) m' H') ∧ ∀ x H', J.yld i H x H' → gName j x (wipe σ vs) H' fun σ2 H2 => wipe σ2 vs = wipe σ vs ∧ tt σ2 H2 fun b H3 =>
        if b = true then te σ2 H3 fun y H4 => ∃ acc, H4 D = some (.lst acc) ∧ acc.length < sizeLine ∧ Nx (upd H4 D (.lst (acc ++ [y]))) else Nx H3) := by
  refine lc_src S hG (fun D i H => H1 D = none ∧ Ex H1 H ∧ H D = some (.lst (((xs.take i).filter c).map f))) (fun D hD => ⟨hD, Ex.new hD, upd_same⟩) (fun D i H _ p => hGx H p.2.1) ?_ ?_
  · intro D i y H hy ⟨hD, e, hl⟩
    have hi : i < xs.length := (List.getElem?_eq_some_iff.mp hy).1
    refine ⟨hw y, ht i y H hy e _ fun H3 e3 => ?_⟩
    have tm := take_map (c := c) (f := f) hy
    cases hc : c y with
    | false =>
      rw [hc] at tm
      rw [if_neg (by decide)]
      refine ⟨hD, e.trans e3, ?_⟩
      rw [tm]; simp only [Bool.false_eq_true, if_false, List.append_nil]; exact e3 D _ hl
    | true =>
      rw [hc] at tm
      rw [if_pos rfl]
      refine he i y H3 hy hc (e.trans e3) _ fun H4 e4 => ⟨_, e4 D _ (e3 D _ hl), ?_, hD, Ex.mut ((e.trans e3).trans e4) hD, ?_⟩
      · rw [List.length_map]
        have := List.length_filter_le c (xs.take i)
        rw [List.length_take] at this
        omega
      · rw [tm]; simp only [if_true]; exact upd_same
  · intro D H hD ⟨_, e, hl⟩
    rw [List.take_length] at hl
    exact hd D H hD e hl

/-! ### further builtins -/
def uAll (K : PySem.W.Frag) : List V → Hp → VK → Prop := fun xs H Q => match xs with
  | [.ref a] => oK (rdL K H a) fun ys => ∃ bs : List Bool, ys = bs.map V.bl ∧ Q (.bl (bs.all id)) H
  | _ => False
def uAny (K : PySem.W.Frag) : List V → Hp → VK → Prop := fun xs H Q => match xs with
  | [.ref a] => oK (rdL K H a) fun ys => ∃ bs : List Bool, ys = bs.map V.bl ∧ Q (.bl (bs.any id)) H
  | _ => False
def uList (K : PySem.W.Frag) : List V → Hp → VK → Prop := fun xs H Q => match xs with
  | [.ref a] => oS K H a fun ys => ∀ l, H l = none → Q (.ref l) (upd H l (.lst ys))
  | _ => False
def uTuple (K : PySem.W.Frag) : List V → Hp → VK → Prop := fun xs H Q => match xs with
  | [.ref a] => (match rdL K H a with
    | some ys => ∀ l, H l = none → Q (.ref l) (upd H l (.tup ys))
    | none => (match rdT K H a with
      | some _ => Q (.ref a) H
      | none => False))
  | _ => False
def uJoin (K : PySem.W.Frag) : V → List V → Hp → VK → Prop := fun x xs H Q => match x, xs with
  | .str a, [.ref p] => oS K H p fun vs => ∃ ys : List Str, vs = ys.map V.str ∧ (ys.map (·.length)).sum + ys.length * a.length ≤ 16777216 ∧ Q (.str (Txt.join a ys)) H
  | _, _ => False
/-- a list that may be changed -/
def mutL (H : Hp) (l : Addr) : Option (List V) := match H l with
  | some (.lst xs) => some xs
  | _ => none
theorem mutL_of {H : Hp} {l : Addr} {xs : List V} (h : H l = some (.lst xs)) : mutL H l = some xs := by unfold mutL; rw [h]
theorem of_mutL {H : Hp} {l : Addr} {xs : List V} (h : mutL H l = some xs) : H l = some (.lst xs) := by
  unfold mutL at h
  split at h
  · cases h; assumption
  · cases h
def uAppend : V → List V → Hp → VK → Prop := fun x vs H Q => match x, vs with
  | .ref l, [y] => oK (mutL H l) fun xs => xs.length < sizeLine ∧ Q .non (upd H l (.lst (xs ++ [y])))
  | _, _ => False
def uSetL : V → V → V → Hp → (Hp → Prop) → Prop := fun o i v H Q => match o, i with
  | .ref p, .int k => oK (mutL H p) fun xs => oK (ixN xs.length k) fun j => Q (upd H p (.lst (xs.set j v)))
  | _, _ => False
def tPar2 (i j : Nat) (ta : TA) : TS := fun D σ H => ta σ H fun vs H1 => match vs with
  | [v, w] => D.nx ((σ.set i (some v)).set j (some w)) H1
  | _ => False
def uNeg : V → Hp → VK → Prop := fun x H Q => match x with
  | .int i => Q (.int (-i)) H
  | _ => False
section
variable {X : Cx}
theorem cu_all (hc : X.calm = true) : CallR X (.builtin "all") (uAll X.K) := CallRi (cr_all hc) fun xs H Q h => by
  unfold uAll at h
  split at h
  · obtain ⟨ys, e, bs, rfl, h⟩ := oK_ex h
    exact ⟨_, bs, rfl, rdL_sq e, h⟩
  · exact h.elim
theorem cu_any (hc : X.calm = true) : CallR X (.builtin "any") (uAny X.K) := CallRi (cr_any hc) fun xs H Q h => by
  unfold uAny at h
  split at h
  · obtain ⟨ys, e, bs, rfl, h⟩ := oK_ex h
    exact ⟨_, bs, rfl, rdL_sq e, h⟩
  · exact h.elim
theorem cu_list : CallR X (.type "list") (uList X.K) := CallRi call_list_of fun xs H Q h => by
  unfold uList at h
  split at h
  · obtain ⟨ys, e, h⟩ := h
    exact ⟨_, _, rfl, e, h⟩
  · exact h.elim
theorem cu_tuple : CallR X (.type "tuple") (uTuple X.K) := CallRi call_tuple_of fun xs H Q h => by
  unfold uTuple at h
  split at h
  · split at h
    · exact ⟨_, _, rfl, .inl ⟨rdL_sq (by assumption), h⟩⟩
    · split at h
      · exact ⟨_, _, rfl, .inr ⟨rdT_sq (by assumption), h⟩⟩
      · exact h.elim
  · exact h.elim
theorem mu_join : MtR X "str.join" (uJoin X.K) := MtRi mt_join fun x xs H Q h => by
  unfold uJoin at h
  split at h
  · obtain ⟨vs, e, ys, rfl, h1, h2⟩ := h
    exact ⟨_, _, ys, rfl, rfl, e, h1, h2⟩
  · exact h.elim
theorem mu_append : MtR X "list.append" uAppend := MtRi (r := rAppend) mt_append fun x xs H Q h => by
  unfold uAppend at h
  split at h
  · obtain ⟨xs, e, h1, h2⟩ := oK_ex h
    exact ⟨_, _, _, rfl, rfl, of_mutL e, h1, h2⟩
  · exact h.elim
theorem setu : PSet X uSetL := fun pins s σ H o i v ov iv u Q I ro ri rv h => set_list pins s σ H o i v ov iv u Q I ro ri rv (by
  unfold uSetL at h
  split at h
  · obtain ⟨xs, e, h⟩ := oK_ex h
    obtain ⟨j, e2, h⟩ := oK_ex h
    exact ⟨_, _, _, _, rfl, rfl, of_mutL e, e2, h⟩
  · exact h.elim)
theorem tPar2_eq (i j : Nat) (ta : TA) : tPar2 i j ta = tPar i j ta := by
  funext D σ H
  unfold tPar2 tPar
  congr 1; funext vs H1
  match vs with
  | [] => simp
  | [_] => simp
  | [v, w] => exact propext ⟨fun h => ⟨v, w, rfl, h⟩, fun ⟨_, _, e, h⟩ => by cases e; exact h⟩
  | _ :: _ :: _ :: _ => simp
theorem pus_par {i j : Nat} {x y : Str} {a b : Expr} {ta : TA} {px py pt pos : Pos} {kt k2 pt2} (hc : X.calm = true) (hN : X.N.Nodup) (hi : X.N[i]? = some x) (hj : X.N[j]? = some y) (hij : i ≠ j)
    (hx : X.env.scope.names.lookup x = some .local) (hy : X.env.scope.names.lookup y = some .local) (ha : PA X [a, b] ta)
    (hw : swappedStores [.Tuple [.Name x px, .Name y py] kt pt] (.Tuple [a, b] k2 pt2) X.env = pure (some [x, y]))
    (hs : swapsWithSole [.Tuple [.Name x px, .Name y py] kt pt] (.Tuple [a, b] k2 pt2) pos.line X.env = pure false := by rfl) :
    PS X (.Assign [.Tuple [.Name x px, .Name y py] kt pt] (.Tuple [a, b] k2 pt2) pos) (tPar2 i j ta) := by
  rw [tPar2_eq]; exact ps_par hc hN hi hj hij hx hy ha hw hs
theorem ou_neg : UnR X (unaryOp .USub) uNeg := fun pins s σ H x v Q I r h => un_neg pins s σ H x v Q I r (by
  unfold uNeg at h
  split at h
  · exact ⟨_, rfl, h⟩
  · exact h.elim)
end

/-! ### loops and comprehensions, the walked thing evaluated -/
section
variable {K : PySem.W.Frag} {x : V} {J : It} {xs : List V} {G : Hp → Prop} {tx : TE} {σ : St} {H H1 : Hp}
theorem lcf (S : Src K x J xs G) {j : Nat} {tt : TT} {te : TE} {vs : List Nat} {Q : VK} (hx : ∀ R : VK, R x H1 → tx σ H R) (hG : G H1) (hGx : ∀ H', Ex H1 H' → G H') (c : V → Bool) (f : V → V) (hz : xs.length < sizeLine)
    (hw : ∀ y, wipe ((wipe σ vs).set j (some y)) vs = wipe σ vs)
    (ht : ∀ (i : Nat) y H', xs[i]? = some y → Ex H1 H' → ∀ R : Bool → Hp → Prop, (∀ H2, Ex H' H2 → R (c y) H2) → tt ((wipe σ vs).set j (some y)) H' R)
    (he : ∀ (i : Nat) y H', xs[i]? = some y → c y = true → Ex H1 H' → ∀ R : VK, (∀ H2, Ex H' H2 → R (f y) H2) → te ((wipe σ vs).set j (some y)) H' R)
    (hd : ∀ D H, H1 D = none → Ex H1 H → H D = some (.lst ((xs.filter c).map f)) → Q (.ref D) H) :
    tLc (uIter K tx) (gName j) tt te vs σ H Q := hx _ (lc_flat S hG hGx c f hz hw ht he hd)
theorem lcs (S : Src K x J xs G) {g : TG} {tt : TT} {te : TE} {vs : List Nat} {Q : VK} (hx : ∀ R : VK, R x H1 → tx σ H R) (hG : G H1) (Pv : Addr → Nat → Hp → Prop)
    (h0 : ∀ D, H1 D = none → Pv D 0 (upd H1 D (.lst []))) (hst : ∀ D i H, i ≤ xs.length → Pv D i H → G H)
    (hs : ∀ D i y H, xs[i]? = some y → Pv D i H → g y (wipe σ vs) H fun σ2 H2 => wipe σ2 vs = wipe σ vs ∧ tt σ2 H2 fun b H3 =>
      bB b (te σ2 H3 fun y H4 => ∃ acc, H4 D = some (.lst acc) ∧ acc.length < sizeLine ∧ Pv D (i + 1) (upd H4 D (.lst (acc ++ [y])))) (Pv D (i + 1) H3)) (hd : ∀ D H, H1 D = none → Pv D xs.length H → Q (.ref D) H) :
    tLc (uIter K tx) g tt te vs σ H Q := hx _ (lc_src S hG Pv h0 hst (by simp only [bB_if] at hs; exact hs) hd)
theorem fors (S : Src K x J xs G) {g : TG} {tb : TS} {D : Ends} (hx : ∀ R : VK, R x H1 → tx σ H R) (hG : G H1) (Pv : Nat → St → Hp → Prop) (h0 : Pv 0 σ H1) (hst : ∀ i σ H, i ≤ xs.length → Pv i σ H → G H)
    (hs : ∀ i y σ H, xs[i]? = some y → Pv i σ H → g y σ H fun σ2 H2 => tb { D with nx := Pv (i + 1), ct := Pv (i + 1), bk := D.nx } σ2 H2) (hd : ∀ σ H, Pv xs.length σ H → D.nx σ H) :
    tFor (uIter K tx) g tb D σ H := hx _ (for_src S hG Pv h0 hst hs hd)
end
/-- for over range(n) -/
theorem forr {ta : TA} {j : Nat} {tb : TS} {D : Ends} {σ : St} {H H1 : Hp} {n : Int} (hx : ∀ R : List V → Hp → Prop, R [.int n] H1 → ta σ H R) (hn : n < 2 ^ 62) (hn0 : -(2 ^ 62) ≤ n) (Pv : Nat → St → Hp → Prop) (h0 : Pv 0 σ H1)
    (hs : ∀ (i : Nat) σ H, (i : Int) < n → Pv i σ H → tb { D with nx := Pv (i + 1), ct := Pv (i + 1), bk := D.nx } (σ.set j (some (.int (i : Int)))) H) (hd : ∀ σ H, Pv n.toNat σ H → D.nx σ H) :
    tFor (iRng1 ta) (gName j) tb D σ H := hx _ ⟨n, rfl, hn0, hn, for_it walk_range Pv h0 (fun _ _ _ _ _ => trivial) (fun i y σ H H' hi p q => by
      obtain ⟨e, ey⟩ := q
      subst e; subst ey
      have e0 : (0 : Int) + (i : Int) = (i : Int) := Int.zero_add _
      show tb _ (σ.set j (some (.int ((0 : Int) + (i : Int))))) _
      rw [e0]
      exact hs i σ _ (by omega) p) hd⟩
/-- [e for k in range(n)] -/
theorem lcr {ta : TA} {j : Nat} {tt : TT} {te : TE} {vs : List Nat} {σ : St} {H H1 : Hp} {Q : VK} {n : Int} (hx : ∀ R : List V → Hp → Prop, R [.int n] H1 → ta σ H R) (hn : n < 2 ^ 62) (hn0 : -(2 ^ 62) ≤ n) (Pv : Addr → Nat → Hp → Prop)
    (h0 : ∀ D, H1 D = none → Pv D 0 (upd H1 D (.lst [])))
    (hw : ∀ y, wipe ((wipe σ vs).set j (some y)) vs = wipe σ vs)
    (hs : ∀ D (i : Nat) H, (i : Int) < n → Pv D i H → tt ((wipe σ vs).set j (some (.int (i : Int)))) H fun b H3 =>
      bB b (te ((wipe σ vs).set j (some (.int (i : Int)))) H3 fun y H4 => ∃ acc, H4 D = some (.lst acc) ∧ acc.length < sizeLine ∧ Pv D (i + 1) (upd H4 D (.lst (acc ++ [y])))) (Pv D (i + 1) H3)) (hd : ∀ D H, H1 D = none → Pv D n.toNat H → Q (.ref D) H) :
    tLc (iRng1 ta) (gName j) tt te vs σ H Q := hx _ ⟨n, rfl, hn0, hn, fun D hD => lc_it walk_range (Pv D) (h0 D hD) (fun _ _ _ _ => trivial) (fun i y H H' hi p q => by
      obtain ⟨e, ey⟩ := q
      subst e; subst ey
      have e0 : (0 : Int) + (i : Int) = (i : Int) := Int.zero_add _
      dsimp only
      rw [e0]
      simp only [bB_if] at hs
      exact ⟨hw _, hs D i _ (by omega) p⟩) fun H p => hd D H hD p⟩

/-! ### texts -/
abbrev sl (z : Str) : List Nat := z.cps.toList
theorem sl_inj {a b : Str} (h : sl a = sl b) : a = b := by
  obtain ⟨⟨l⟩⟩ := a
  obtain ⟨⟨m⟩⟩ := b
  have h : l = m := h
  subst h; rfl
theorem sl_len (z : Str) : z.length = (sl z).length := rfl
theorem sl_app (a b : Str) : sl (a ++ b) = sl a ++ sl b := TL.tl_append a b
theorem slen_app (a b : Str) : (a ++ b).length = a.length + b.length := by rw [sl_len, sl_app, List.length_append]; rfl
theorem sl_cut (z : Str) (lo hi : Option Int) : sl (cutS z lo hi) = ((sl z).drop (HT.sIx z.length 0 lo)).take (HT.sIx z.length z.length hi - HT.sIx z.length 0 lo) := rfl
theorem slen_cut (z : Str) (lo hi : Option Int) : (cutS z lo hi).length ≤ z.length := by
  rw [sl_len, sl_cut, List.length_take, List.length_drop, sl_len]
  omega
theorem sl_join (y : Str) (ps : List Str) : sl (Txt.join y ps) = TL.joinL (sl y) (ps.map sl) := by
  rw [TL.join_eq]; exact TL.tl_join y ps
theorem joinL_nil : ∀ ps : List (List Nat), TL.joinL [] ps = ps.flatten
  | [] => rfl
  | [p] => by simp [TL.joinL]
  | p :: q :: r => by
    show p ++ ([] ++ TL.joinL [] (q :: r)) = _
    rw [joinL_nil (q :: r)]; simp
theorem slen_join0 (ps : List Str) : (Txt.join "" ps).length = (ps.map (·.length)).sum := by
  rw [sl_len, sl_join]
  show (TL.joinL [] _).length = _
  rw [joinL_nil, List.length_flatten, List.map_map]
  rfl
/-- small sizes -/
theorem szl {n : Nat} (h : n ≤ 100000) : n ≤ sizeLine := Nat.le_trans h (by decide)
theorem szt {n : Nat} (h : n < 100000) : n < sizeLine := Nat.lt_of_lt_of_le h (by decide)
/-- an item of a list at a drawn place -/
theorem pick {α : Type} {xs : List α} {r : Int} (h0 : 0 ≤ r) (h1 : r < xs.length) : ∃ v, atI xs r = some v ∧ v ∈ xs := by
  have hj : r.toNat < xs.length := by omega
  refine ⟨xs[r.toNat], ?_, List.getElem_mem hj⟩
  unfold atI ixN
  rw [if_pos h0, if_pos h1]
  simp [hj]

/-! ### the script -/
def ScriptAt (K : PySem.W.Frag) (H : Hp) (a : Addr) (ns : List Int) : Prop :=
  (∃ o, H a = some (.frz o (.lst (ns.map V.int)))) ∨
    ∃ (o : Obj) (its : Array Value) (n : Nat), K.lookup a = some o ∧ o.cls = .type "list" ∧ o.dict = none ∧ o.data = .seq its n ∧ its.size ≤ sizeLine ∧ Vals (ns.map V.int) its.toList
theorem script_of {K : PySem.W.Frag} {H : Hp} {a : Addr} {ns : List Int} (hO : Only H) (hS : SqL K H a (ns.map V.int)) : ScriptAt K H a ns := by
  rcases hS with (h | ⟨o, h⟩) | h
  · rcases hO a with z | ⟨o, xs, z⟩
    · rw [h] at z; cases z
    · rw [h] at z; cases z
  · exact .inl ⟨o, h⟩
  · exact .inr h
theorem ScriptAt.sq {K : PySem.W.Frag} {H : Hp} {a : Addr} {ns : List Int} (h : ScriptAt K H a ns) : SqL K H a (ns.map V.int) := by
  rcases h with ⟨o, h⟩ | h
  · exact .inl (.inr ⟨o, h⟩)
  · exact .inr h
theorem ScriptAt.ex {K : PySem.W.Frag} {H H' : Hp} {a : Addr} {ns : List Int} (h : ScriptAt K H a ns) (e : Ex H H') : ScriptAt K H' a ns := by
  rcases h with ⟨o, h⟩ | h
  · exact .inl ⟨o, e _ _ h⟩
  · exact .inr h
theorem ScriptAt.fr {K : PySem.W.Frag} {H H' : Hp} {a b : Addr} {ns : List Int} {xs : List V} (h : ScriptAt K H a ns) (e : Fr b H H') (hb : H b = some (.lst xs)) : ScriptAt K H' a ns := by
  rcases h with ⟨o, h⟩ | h
  · exact .inl ⟨o, e _ _ h (ne_of h hb (by intro z; cases z))⟩
  · exact .inr h
/-- data of flat things -/
theorem dpAll_str {K : PySem.W.Frag} {H : Hp} : ∀ zs : List Str, DpAll K H (zs.map V.str) (zs.map PyData.str)
  | [] => .nil
  | z :: zs => .cons (.str z) (dpAll_str zs)
/-- all signs are code points -/
def sok (z : Str) : Prop := ∀ c ∈ sl z, c < 1114112
theorem sok_ok {z : Str} (h : sok z) : PyData.strOk z = true := by
  unfold PyData.strOk
  rw [← Array.all_toList, List.all_eq_true]
  intro c hc
  exact decide_eq_true (h c hc)
instance (z : Str) : Decidable (sok z) := inferInstanceAs (Decidable (∀ c ∈ sl z, c < 1114112))
theorem sok_app {a b : Str} (ha : sok a) (hb : sok b) : sok (a ++ b) := fun c hc => by
  rw [sl_app, List.mem_append] at hc
  exact hc.elim (ha c) (hb c)
theorem sok_cut {z : Str} (h : sok z) (lo hi : Option Int) : sok (cutS z lo hi) := fun c hc => h c (by
  rw [sl_cut] at hc
  exact List.mem_of_mem_drop (List.mem_of_mem_take hc))
theorem sok_one {c : Nat} (h : c < 1114112) : sok ⟨#[c]⟩ := fun d hd => by
  have : d = c := by simpa [sl] using hd
  omega
theorem sok_join0 {ps : List Str} (h : ∀ p ∈ ps, sok p) : sok (Txt.join "" ps) := fun c hc => by
  rw [sl_join] at hc
  have hc : c ∈ TL.joinL [] (ps.map sl) := hc
  rw [joinL_nil, List.mem_flatten] at hc
  obtain ⟨l, hl, hc⟩ := hc
  obtain ⟨p, hp, rfl⟩ := List.mem_map.mp hl
  exact h p hp c hc
theorem canLay_strs : ∀ zs : List Str, (∀ z ∈ zs, sok z) → PyData.canLayAll0 (zs.map PyData.str) = true
  | [], _ => rfl
  | z :: zs, h => by
    show (PyData.canLay0 (.str z) && PyData.canLayAll0 (zs.map PyData.str)) = true
    rw [canLay_strs zs fun y hy => h y (List.mem_cons_of_mem _ hy)]
    simp only [PyData.canLay0, Bool.and_true]
    exact sok_ok (h z List.mem_cons_self)
theorem depth_strs : ∀ zs : List Str, PyData.depthAll (zs.map PyData.str) ≤ 1
  | [] => by simp [PyData.depthAll]
  | z :: zs => by
    have := depth_strs zs
    simp only [List.map_cons, PyData.depthAll, PyData.depth]
    omega
theorem shaped_strs (zs : List Str) (h : ∀ z ∈ zs, sok z) : SeqAt.shaped (.list (zs.map PyData.str)) = true := by
  unfold SeqAt.shaped
  have h1 := canLay_strs zs h
  have h2 := depth_strs zs
  simp only [PyData.canLay0, h1, Bool.true_and, decide_eq_true_eq]
  simp only [PyData.depth]
  omega
theorem eqv_nil (ds : List PyData) : PyData.eqv (.list ds) (.list []) = ds.isEmpty := by
  cases ds <;> simp [PyData.eqv, PyData.eqvAll]
end U

namespace U
open PySem PySem.Spec PyProof.Rows L2

/-! ### the base's __init__, called by the class's name -/
structure BaseC (K : PySem.W.Frag) (C0 : Addr) : Prop where
  ga : PySem.W.specialIn K (.ref C0) "__getattribute__" = some (some (.builtin "type.__getattribute__"))
  rd : ∃ mc, PySem.W.readsIn K C0 mc = true ∧ PySem.W.findCls K (.ref C0) mc "__init__" = some (.val (.builtin "ValueError.__init__"))
theorem pe_binit {X : Cx} {x : Str} {C0 : Addr} {e : Expr} {es : List Expr} {ta : TA} {p1 p2 pos : Pos} {pl : Sem Bool} (T0 : BaseC X.K C0) (hg : Gl X x) (hm : X.mg x = some (.ref C0)) (ha : PA X (e :: es) ta)
    (hc : eval (.Call (.Attribute (.Name x p1) "__init__" p2) (e :: es) [] pos) X.env = (do
      let ov ← eval (.Name x p1) X.env
      standAt p2.atName
      let (f, first) ← holding [ov] (getMethod ov "__init__" pl)
      callWith pos f first (backTo pos (starEach (e :: es) X.env)) (backToKw pos (keywordEach [] X.env))) := by rfl)
    (hdb : (x == ("__debug__" : Str)) = false := by decide) (he : starEach (e :: es) X.env = (false, eval e X.env) :: starEach es X.env := by rfl) (hpl : (backTo pos (starEach es X.env)).any (·.1) = false := by rfl) :
    PE X (.Call (.Attribute (.Name x p1) "__init__" p2) (e :: es) [] pos) (tVeI X.K ta) := by
  obtain ⟨mc, hrd, hf⟩ := T0.rd
  constructor
  intro pins s σ H Q I h
  refine PySem.W.methodCall_KW (ld_glob I hg hm ?_ hdb) hc
  refine PySem.W.method_cls I.kIn T0.ga (PySem.W.cls_value I.kIn hrd hf (by decide +kernel) ?_)
  refine PyProof.Rows.callWith_method1 (thn (ha.run pos pins _ σ H _ (I.tok _) h) ?_) he hpl
  rintro us s1 ⟨vs, H1, I1, r1, a, C, ws, rfl, hl, T, ea, q⟩
  match us, r1 with
  | _ :: ur, .cons ra rw' =>
    cases ra
    exact oinit_ok T I1 ea (by rw [← Paired.length rw']; exact szl (by omega)) fun s' J => ⟨.non, H1, J, rfl, q⟩

/-! ### an exception with one field -/
/-- what the text says of the class x at C with one field f, its __init__ at fI -/
structure ExcC (K : PySem.W.Frag) (mg : Str → Option Value) (x f : Str) (C fI : Addr) : Prop where
  g : mg x = some (.ref C)
  o : OexC K C
  i : PySem.W.findIn K (.ref C) "__init__" = some (some (.ref fI))
  t : PySem.W.typeIn K (.ref fI) = some (.type "function")
  n : PySem.W.findIn K (.ref C) f = some none
  xf : XfC K C
  cl : PySem.W.isClsIn K C = true
/-- the promise of such an __init__ -/
def spI (C : Addr) (f : Str) : Sp := fun vs H Q _ => ∃ (a : Addr) (v : V), vs = [.ref a, v] ∧ H a = some (exo a C none) ∧ ∀ dx, H dx = none → dx ≠ a → Q .non (upd (upd H dx (exd dx [(f, v)])) a (exo a C (some dx)))
theorem len_spI {C : Addr} {f : Str} {vs : List V} {H : Hp} {Q : VK} {E : XK} (h : spI C f vs H Q E) : vs.length = 2 := by
  obtain ⟨a, v, rfl, _⟩ := h; rfl
/-- its body: Base.__init__(self, text); self.f = value -/
def tI (K : PySem.W.Frag) (f : Str) (msg : Str) : TS := tSeq (tDrop (tVeI K (tCons (uVar 0) (tCons (tC (.str msg)) tNil)))) (tOst K f (uVar 0) (uVar 1))
theorem p_init {K : PySem.W.Frag} {mg : Str → Option Value} {x f msg p0 p1 : Str} {C fI : Addr} (T : ExcC K mg x f C fI) {vs : List V} {H : Hp} {Q : VK} {E : XK} (h : spI C f vs H Q E) :
    tI K f msg { nx := fun _ H' => Q .non H', rt := Q } (start [p0, p1] vs) H := by
  obtain ⟨a, v, rfl, ha, k⟩ := h
  refine ⟨a, C, [.str msg], rfl, by show 1 ≤ 1000; decide, T.o, ha, ?_⟩
  exact ⟨a, C, rfl, T.o, T.n, .inl ⟨ha, fun dx hd hne => k dx hd hne⟩⟩
/-- a reading closed under what follows: for rules whose own continuation is to be weakened -/
def mA (t : TA) : TA := fun σ H Q => ∃ R : List V → Hp → Prop, t σ H R ∧ ∀ vs H1, R vs H1 → Q vs H1
theorem pa_m {X : Cx} {es : List Expr} {t : TA} (h : PA X es t) : PA X es (mA t) := ⟨fun pos pins s σ H Q I k => by
  obtain ⟨R, k1, k2⟩ := k
  refine wpAny_mono (h.run pos pins s σ H R I k1) (fun us s1 q => ?_) fun _ _ z => z
  obtain ⟨vs, H1, I1, r1, q1⟩ := q
  exact ⟨vs, H1, I1, r1, k2 _ _ q1⟩⟩
/-- C(e): a new exception with its field -/
def uMk (C : Addr) (f : Str) (ta : TA) : L2.St → Hp → XK → Prop := fun σ H Q => ta σ H fun vs H1 => match vs with
  | [v] => ∀ d, H1 d = none → Q (.ref C) (some d) (upd H1 d (.xd [(f, v)]))
  | _ => False
theorem mk_heap {H1 : Hp} {a dx C : Addr} {f : Str} {v : V} (ha : H1 a = none) (hne : dx ≠ a) :
    upd (del (upd (upd (upd H1 a (exo a C none)) dx (exd dx [(f, v)])) a (exo a C (some dx))) a) dx (.xd [(f, v)]) = upd H1 dx (.xd [(f, v)]) := by
  funext b
  by_cases h1 : b = dx
  · subst h1; rw [upd_same, upd_same]
  · rw [upd_ne h1, upd_ne h1]
    by_cases h2 : b = a
    · subst h2; rw [del_same, ha]
    · rw [del_ne h2, upd_ne h2, upd_ne h1, upd_ne h2]
theorem pmku {X : Cx} {CX : CXT} {x f : Str} {C fI : Addr} {k : Nat} {fd : FuncData} {ps : List Str} {e : Expr} {ta : TA} {p pos : Pos} (T : ExcC X.K X.mg x f C fI) (F1 : FnOk X.prog X.w X.K X.mg X.base CX k fI fd ps (spI C f)) (hr : Room (k + 1) X.A) (hb : Binds X.K fd ps [])
    (hx : Passes CX X (fun _ _ _ => False)) (hg : Gl X x) (ha : PA X [e] ta)
    (hdb : (x == ("__debug__" : Str)) = false := by decide) (he : starEach (e :: []) X.env = (false, eval e X.env) :: starEach [] X.env := by rfl) (hpl : (backTo pos (starEach [] X.env)).any (·.1) = false := by rfl) :
    PMk X (.Call (.Name x p) [e] [] pos) (uMk C f ta) := by
  intro pins s σ H Q I h
  refine pmk_oex T.o T.i T.t F1 hr hb .nil hx hg T.g (pa_m ha) hdb he hpl pins s σ H Q I ⟨_, h, fun vs H1 r => ?_⟩
  match vs, r with
  | [v], r =>
    refine ⟨by show 1 ≤ 1000; decide, fun a hn => ⟨a, v, rfl, upd_same, fun dx hd hne => ⟨rfl, dx, [(f, v)], upd_same, ?_, ?_, ?_⟩⟩⟩
    · rw [upd_ne hne, upd_same]
    · rw [upd_ne hne] at hd; exact hd
    · rw [mk_heap hn hne]
      rw [upd_ne hne] at hd
      exact r dx hd
/-- raise C(e), the wish E of the def -/
def uRaise (C : Addr) (f : Str) (E : XK) (ta : TA) : TS := fun _ σ H => uMk C f ta σ H E
theorem ps_raiseu {X : Cx} {E : XK} {e : Expr} {C : Addr} {f : Str} {ta : TA} {pos : Pos} (hc : X.calm = true) (tk : Takes X (fun cls d _ H => E cls d H)) (he : PMk X e (uMk C f ta)) : PS X (.Raise (some e) none pos) (uRaise C f E ta) := ps_raise hc tk he

/-! ### try with several clauses «except C as n», perhaps others behind that nothing reaches -/
structure Cl where
  c : Value
  i : Nat
  ts : Addr → Value → Option Addr → TS
def gone (i : Nat) (D : Ends) : Ends := { nx := fun σ H => D.nx (σ.set i none) H, rt := D.rt, bk := fun σ H => D.bk (σ.set i none) H, ct := fun σ H => D.ct (σ.set i none) H }
def clW (K : PySem.W.Frag) (W0 : WX) (D : Ends) : List Cl → WX
  | [] => W0
  | k :: r => fun cls d σ H => oK (PySem.W.exmOne K cls k.c) fun b => bB b (∀ a, H a = none → k.ts a cls d (gone k.i D) (σ.set k.i (some (.ref a))) H) (clW K W0 D r cls d σ H)
def uTry (K : PySem.W.Frag) (W0 : WX) (l : List Cl) (tb : WX → TS) : TS := fun D σ H => tb (clW K W0 D l) D σ H
inductive ClsOk (X : Cx) : WX → List ExceptHandler → List Cl → Prop
  | none {W0 : WX} : ClsOk X W0 [] []
  | rest {hs : List ExceptHandler} : ClsOk X (fun _ _ _ _ => False) hs []
  | more {W0 : WX} {x n : Str} {k : Cl} {st : Stmt} {su : List Stmt} {p1 p2 : Pos} {hs : List ExceptHandler} {l : List Cl} (hc : Names X x k.c) (hi : X.N[k.i]? = some n) (hn : X.env.kindOf n = some .local)
      (hsu : ∀ (a : Addr) (o : Obj) (cls : Value) (d : Option Addr) (pn : List (Addr × Obj)), Zc cls d o → (∃ vs, o.data = .fields vs) → PSs (X.suite a ((a, o) :: pn)) (st :: su) (k.ts a cls d)) (r : ClsOk X W0 hs l) :
      ClsOk X W0 (.ExceptHandler (some (.Name x p1)) (some n) (st :: su) p2 :: hs) (k :: l)
section
variable {X : Cx} {W0 : WX} {pins : List (Addr × Obj)} {a : Addr}
/-- the clauses, one behind another, with the exception at a -/
theorem clauses_run {B : Heap} {s' sI : Shared} {h3 : Heap} {σ : L2.St} {H : Hp} {cls : Value} {d : Option Addr} {D : Ends} (ok : X.Ok) (hN : X.N.Nodup) (hst : X.stack = X.env :: X.outer) (hf : X.env.frame = some X.env.locals) (tk : Takes X W0)
    (J : Inv X pins σ H sI) (nb : ∀ b o, sI.heap.get? b = some o → b ∉ frs X.stack → B.get? b = some o) (up : sI.heap.UpToSlots h3) (os : s'.os = sI.os) (ag : AllBare s'.gens) (na : H a = none)
    (fl : HandSPX.FlyingZ B (X.env :: X.outer) a (Zc cls d) h3) : ∀ {hs : List ExceptHandler} {l : List Cl}, ClsOk X W0 hs l → clW X.K W0 D l cls d σ H →
      wpAny (model X.prog X.w) X.A (handleBy (.ref a) X.env hs) (SP X pins D) X.xe { s' with heap := h3 } := by
  intro hs l hk
  obtain ⟨o1, v1, g1, z1, d1⟩ := fl.there
  have J1 : Inv X pins σ H { s' with heap := h3 } := J.landed nb fl.1 up os ag
  have off : a ∉ frs (X.env :: X.outer) := fun hm => by
    obtain ⟨_, o, e, nf⟩ := fl.2.2.1.mem hm
    rw [g1] at e; cases e
    exact nf _ d1
  have offL : a ≠ X.env.locals := fun z => off (List.mem_filterMap.mpr ⟨X.env, List.mem_cons_self, by rw [hf, z]⟩)
  have offF : a ∉ X.fs := fun hm => by
    obtain ⟨v, hv, q⟩ := List.mem_filterMap.mp hm
    exact off (List.mem_filterMap.mpr ⟨v, List.mem_cons_of_mem _ hv, q⟩)
  induction hk with
  | rest => intro w; exact w.elim
  | none =>
    intro w
    refine wpAny_handleBy_nil ?_
    obtain ⟨_, _, _, o2, v2, T, _, _, g2, _, d2, t1, _⟩ := id fl
    unfold PySem.passOn
    refine wpAny_bind (wpAny_field g2 d2 t1 ?_)
    rw [if_neg (show ¬ ((Value.ref T == Value.none) = true) from by simp)]
    have out : wpAny (model X.prog X.w) X.A (setFlight (.ref a) X.env.frame) (fun _ s4 => wpAny (model X.prog X.w) X.A (throw (.ref a) : Sem Flow) (SP X pins D) X.xe s4) X.xe { s' with heap := h3 } := by
      rw [hf]
      exact HandSPX.setFlight_upZ fl fun h4 q4 u4 => wpAny_throw (tk _ _ ⟨a, B, sI, pins, σ, H, cls, d, rfl, J, nb, up.trans u4, .inr (.inr (by rw [hst]; exact q4)), na, os, ag, w⟩)
    first
      | exact wpAny_bind (wpAny_pure (wpAny_bind out))
      | exact wpAny_bind out
  | @more W0 x n k st su p1 p2 hs2 l2 hc hi hn hsu r ih =>
    intro w
    obtain ⟨b, hb, w⟩ := oK_ex w
    refine wpAny_handleBy_cons (codeAny_handlers_test ?_) (by intro q; cases q)
    have S1 := J1.suite g1 d1 na offL offF
    have LM := PySem.W.exm_one (M := model X.prog X.w) J1.kIn (fun A Q E s k q => wpAny_typeOf_ref (k _ _ g1) (by rw [z1.1]; exact q)) hb
    have look : ∀ {Q E : Value → Shared → Prop}, Q k.c { s' with heap := h3 } → wpAny (model X.prog X.w) (X.A.mark (some (.ref a))) (eval (.Name x p1) X.env) Q E { s' with heap := h3 } := fun {Q E} q => by
      obtain ⟨y1, y2, y3 | ⟨y3, y4, y5⟩⟩ := hc
      · exact ld_glob (X := X.suite a ((a, o1) :: (X.pn ++ pins))) S1 y1 y3 q y2
      · exact ld_blt (X := X.suite a ((a, o1) :: (X.pn ++ pins))) S1 y1 y3 y4 q y5 y2
    refine look (LM.here ?_)
    cases b with
    | false =>
      show wpAny _ X.A (handleBy (.ref a) X.env hs2) _ _ _
      exact ih tk w
    | true =>
      have w : ∀ a, H a = Option.none → k.ts a cls d (gone k.i D) (σ.set k.i (some (.ref a))) H := w
      refine codeAny_handlers_suite_as (HandSPX.lands_againZ fl fun h4 fl4 u4 => ?_)
      obtain ⟨o4, v4, g4, z4, d4⟩ := fl4.there
      have S4 := (show Inv X pins σ H { s' with heap := h4 } from J.landed nb fl4.1 (up.trans u4) os ag).suite g4 d4 na offL offF
      refine store_ok (X := X.suite a ((a, o4) :: (X.pn ++ pins))) (v := .ref a) S4 hN hi (.inl hn) rfl (fun s5 S5 => ?_) (.inr hn)
      refine wpAny_mono ((hsu a o4 cls d (X.pn ++ pins) z4 ⟨_, d4⟩).run [] s5 _ H _ S5 (w a na)) (fun fl s6 q => ?_) (fun _ _ z => z.elim)
      have leave : ∀ {σ6 : L2.St} {H6 : Hp} {R : Shared → Prop}, Inv (X.suite a ((a, o4) :: (X.pn ++ pins))) [] σ6 H6 s6 → (∀ s7, Inv X pins (σ6.set k.i Option.none) H6 s7 → R s7) →
          wpAny (model X.prog X.w) X.A (do bindName X.env n .none; unbindBehindTheSuite X.env n p2) (fun _ s7 => R s7) X.xe s6 := fun {σ6 H6 R} S6 hq => gone_ok (S6.unsuite ok) hN hi hn hq
      cases fl with
      | ret u =>
        obtain ⟨v6, σ6, H6, S6, r6, q6⟩ := q
        exact leave S6 fun s7 J7 => ⟨v6, _, H6, J7, r6, q6⟩
      | next =>
        obtain ⟨σ6, H6, S6, q6⟩ := q
        exact leave S6 fun s7 J7 => ⟨_, H6, J7, q6⟩
      | brk =>
        obtain ⟨σ6, H6, S6, q6⟩ := q
        exact leave S6 fun s7 J7 => ⟨_, H6, J7, q6⟩
      | cont =>
        obtain ⟨σ6, H6, S6, q6⟩ := q
        exact leave S6 fun s7 J7 => ⟨_, H6, J7, q6⟩
theorem pus_try {body : List Stmt} {h0 : ExceptHandler} {hs : List ExceptHandler} {l : List Cl} {pos : Pos} {tb : WX → TS} (hst : X.stack = X.env :: X.outer) (hf : X.env.frame = some X.env.locals) (hN : X.N.Nodup) (tk : Takes X W0)
    (hb : ∀ (W : WX) (pn : List (Addr × Obj)) (xe : Value → Shared → Prop), Takes (X.tr pn xe) W → PassesOwn (model X.prog X.w) X.A X.env xe → PSs (X.tr pn xe) body (tb W)) (hk : ClsOk X W0 (h0 :: hs) l) :
    PS X (.Try body (h0 :: hs) [] [] pos) (uTry X.K W0 l tb) := ⟨fun pins s σ H D I h => by
  have ok := I.ok
  have fr : X.A.frames = some (X.env :: X.outer) := by rw [ok.frames, hst]
  refine wpAny_Try_except (wpAny_mono ((hb (clW X.K W0 D l) (X.pn ++ pins) _ (fun u s' y => ?_) PassesOwn.looking).run [] s σ H D (I.toTry _) h) (fun f s1 q => ?_) fun e s1 q => q)
  · obtain ⟨a, B, sI, _, σ', H', cls, d, rfl, J, nb, up, sky, na, os, ag, w⟩ := y
    show wpAny (model X.prog X.w) X.A (noteFrame (.ref a) X.env) _ _ _
    exact Sky.land Zc.steady fr hf (by rw [← hst]; exact sky) fun h3 fl3 u3 => clauses_run ok hN hst hf tk (J.ofTry ok) nb (up.trans u3) os ag na fl3 hk w
  · cases f with
    | next =>
      obtain ⟨σ', H', J, q⟩ := q
      exact wpAny_execs_nil ⟨σ', H', J.ofTry ok, q⟩
    | ret u =>
      obtain ⟨v, σ', H', J, r, q⟩ := q
      exact ⟨v, σ', H', J.ofTry ok, r, q⟩
    | brk =>
      obtain ⟨σ', H', J, q⟩ := q
      exact ⟨σ', H', J.ofTry ok, q⟩
    | cont =>
      obtain ⟨σ', H', J, q⟩ := q
      exact ⟨σ', H', J.ofTry ok, q⟩⟩
end
/-- n.f in a suite, n in slot i -/
def uXf (K : PySem.W.Frag) (a : Addr) (cls : Value) (d : Option Addr) (i : Nat) (f : Str) : TE := fun σ H Q => ∃ (C dd : Addr) (fs : List (Str × V)) (v : V), cls = .ref C ∧ XfC K C ∧ PySem.W.findIn K (.ref C) f = some none ∧ σ[i]? = some (some (.ref a)) ∧
  d = some dd ∧ H dd = some (.xd fs) ∧ fs.lookup f = some v ∧ Q v H
theorem pue_xf {X : Cx} {a : Addr} {oe : Obj} {cls : Value} {d : Option Addr} {pn : List (Addr × Obj)} (i : Nat) {x n : Str} {p pos : Pos} (hz : Zc cls d oe) (hf : ∃ vs, oe.data = .fields vs) (hN : X.N[i]? = some x := by rfl)
    (hv : Vis X.env.scope x := by exact Or.inl rfl) (hd : (x == ("__debug__" : Str)) = false := by decide) (hcd : (x == ("__classdict__" : Str)) = false := by decide)
    (hb : attributeBase (.Name x p) n X.env (eval (.Name x p) X.env) = eval (.Name x p) X.env := by rfl) : PE (X.suite a ((a, oe) :: pn)) (.Attribute (.Name x p) n pos) (uXf X.K a cls d i n) := ⟨fun pins s σ H Q I h => by
  obtain ⟨C, dd, fs, v, rfl, T, hno, e, rfl, h1, h2, q⟩ := h
  exact (pe_xf T hno hz hf (pe_var (X := X.suite a ((a, oe) :: pn)) hN hv hd hcd) hb).run pins s σ H Q I ⟨_, e, rfl, rfl, dd, fs, v, rfl, h1, h2, q⟩⟩
/-- whether a clause takes an exception -/
theorem exm_of {K : PySem.W.Frag} {S C : Addr} {b : Bool} (h1 : PySem.W.subIn K (.ref C) (.type "BaseException") = some true) (h2 : PySem.W.isClsIn K C = true) (h3 : PySem.W.typeIn K (.ref C) = some (.type "type")) (h4 : PySem.W.subIn K (.ref S) (.ref C) = some b) :
    PySem.W.exmOne K (.ref S) (.ref C) = some b := by
  have y : (PySem.W.clsIn K C).isSome = true := h2
  unfold PySem.W.exmOne
  rw [h1]
  show (if ((PySem.W.clsIn K C).isSome && PySem.W.typeIn K (.ref C) == some (.type "type")) = true then PySem.W.subIn K (.ref S) (.ref C) else none) = some b
  rw [y, h3]
  exact h4
end U

namespace U
open PySem PySem.Spec PyProof.Rows L2

/-! ### defs that are run where no repr is under way -/
structure FnG (P : Program) (w : World) (K : PySem.W.Frag) (mg : Str → Option Value) (base : Heap) (CX : CXT) (k : Nat) (f : Addr) (fd : FuncData) (ps : List Str) (sp : Sp) : Prop where
  len : ∀ vs H Q E, sp vs H Q E → vs.length = ps.length
  run : ∀ (A : Around) (outer : List Env) (s : Shared) (H : Hp) (args : Args) (us : List Value) (vs : List V) (Q : VK) (E : XK), A.guards = some [] → Room k A → Env0 P w K mg base A outer s H →
    BindsTo s fd args (ps.zip us) → Vals vs us → sp vs H Q E → codeAny (model P w) A (.call (.ref f) args) (CR CX outer P w H s Q E) s
theorem fn_g {P : Program} {w : World} {K : PySem.W.Frag} {mg : Str → Option Value} {base : Heap} {CX : CXT} {k : Nat} {f : Addr} {fd : FuncData} {ps : List Str} {sp : Sp} (F : FnOk P w K mg base CX k f fd ps sp) : FnG P w K mg base CX k f fd ps sp :=
  ⟨F.len, fun A outer s H args us vs Q E _ hr => F.run A outer s H args us vs Q E hr⟩
section
variable {P : Program} {w : World} {K : PySem.W.Frag} {mg : Str → Option Value} {base : Heap}
theorem fn_ofG {CX : CXT} {k : Nat} {f : Addr} {x qual : Str} {st : Stmt} {fd : FuncData} {N ps : List Str} {sp : Sp} (F : Fun K x qual st f fd) (S : FnScope N ps (defScope st)) (len : ∀ vs H Q E, sp vs H Q E → vs.length = ps.length)
    (body : ∀ (cdv : Value) (A : Around) (outer : List Env) (s : Shared) (H : Hp) (vs : List V) (Q : VK) (E : XK), A.guards = some [] → Room k (A.deeper (envOfC qual (defScope st) s.heap.objs.size f cdv)) → sp vs H Q E →
      ∃ t, PSs (cxOf CX P w K mg base N qual (defScope st) f cdv A outer s H E) (defBody st) t ∧ t { nx := fun _ H' => Q .non H', rt := Q } (start N vs) H) : FnG P w K mg base CX (k + 1) f fd ps sp := by
  obtain ⟨oc, od, kV, doc, pm, an, cdv, ct, osl, rfl, lk, hcd⟩ := F.ex
  refine ⟨len, fun A outer s H args us vs Q E hg hr e0 hb rv h => ?_⟩
  have kin : K.In s.heap := e0.mod.kin.keeps fun b o z => (e0.bs b o z).1
  have nl : s.heap.NoLimit := e0.mod.nolimit.keeps fun b o z => (e0.bs b o z).1
  obtain ⟨t, ht, hq⟩ := body cdv A outer s H vs Q E hg (hr.deeper _) h
  refine codeAny_call_function hr.depth (kin _ _ lk) rfl S.co S.gen rfl (PySem.W.codeRec_of kin hcd) (hb _ _ _ _ (wpAny_newFunctionEnv_cells S.kind (fun ⟨n, v⟩ hy => ?_) fun env he s1 y => ?_))
  · rcases S.par n (List.of_mem_zip hy).1 with q | q
    · exact .inl q
    · exact .inr ⟨q, PySem.W.cellsFrom_some _ _ _ (.inl q)⟩
  subst he
  refine ⟨nl.keeps y.toInCall.keep, codeAny_func (wpAny_mono (ht.run [] s1 (start N vs) H _ (inv_start S hr.hd e0 (len _ _ _ _ h) rv y) hq) (fun fl s' q => ?_) fun _ _ q => q)⟩
  cases fl with
  | next =>
    obtain ⟨_, H', J, q⟩ := q
    exact ⟨V.non, H', J.os, J.bare, J.base, J.hok, rfl, q⟩
  | ret u =>
    obtain ⟨v, _, H', J, r, q⟩ := q
    exact ⟨v, H', J.os, J.bare, J.base, J.hok, r, q⟩
  | brk =>
    obtain ⟨_, _, _, q⟩ := q
    exact q.elim
  | cont =>
    obtain ⟨_, _, _, q⟩ := q
    exact q.elim
theorem okG {k : Nat} {f : Addr} {x qual : Str} {st : Stmt} {fd : FuncData} {N ps : List Str} {sp : Sp} (F : Fun K x qual st f fd) (S : FnScope N ps (defScope st)) (len : ∀ vs H Q E, sp vs H Q E → vs.length = ps.length)
    (body : ∀ (cdv : Value) (A : Around) (outer : List Env) (s : Shared) (H : Hp) (vs : List V) (Q : VK) (E : XK), A.guards = some [] → Room k (A.deeper (envOfC qual (defScope st) s.heap.objs.size f cdv)) → sp vs H Q E →
      ∃ t, PSs (cxOf CX0 P w K mg base N qual (defScope st) f cdv A outer s H E).nox (defBody st) t ∧ t { nx := fun _ H' => Q .non H', rt := Q } (start N vs) H) : FnG P w K mg base CX0 (k + 1) f fd ps sp :=
  fn_ofG F S len fun cdv A outer s H vs Q E hg hr h => by
    obtain ⟨t, h1, h2⟩ := body cdv A outer s H vs Q E hg hr h
    exact ⟨t, h1.nox, h2⟩
end
section
variable {X : Cx} {CX : CXT} {k : Nat} {f : Addr} {fd : FuncData} {ps : List Str} {sp : Sp} {E : XK} {x : Str} {p pos : Pos} {e : Expr} {es : List Expr} {t : TA}
theorem run_fnG {pins : List (Addr × Obj)} {σ : L2.St} {H : Hp} {s : Shared} {Q : VK} {us : List Value} {vs : List V} (F : FnG X.prog X.w X.K X.mg X.base CX k f fd ps sp) (hg : X.A.guards = some []) (hr : Room k X.A) (hb : Binds X.K fd ps []) (hx : Passes CX X E)
    (I : Inv X pins σ H s) (r : Vals vs us) (h : sp (vs ++ []) H Q E) : wpAny (model X.prog X.w) X.A (call (.ref f) us) (EP X pins σ Q) X.xe s := by
  rw [List.append_nil] at h
  have hl : us.length = ps.length := by rw [← r.length]; exact F.len _ _ _ _ h
  have b := hb s us I.kIn (by rw [List.append_nil]; exact hl)
  rw [List.append_nil] at b
  refine wpAny_call (codeAny_mono (F.run X.A X.stack s H ⟨us, []⟩ us vs Q E hg hr I.env0 b r h) fun r s' q => ?_)
  match r, q with
  | .error er, q => exact hx pins σ H s er s' I q
  | .ok (.ret u), q => exact I.after q
theorem pe_callG (F : FnG X.prog X.w X.K X.mg X.base CX k f fd ps sp) (hgd : X.A.guards = some []) (hr : Room k X.A) (hg : Gl X x) (hm : X.mg x = some (.ref f)) (hk : PySem.W.keepIn X.K (.ref f) = true) (hb : Binds X.K fd ps []) (hx : Passes CX X E)
    (ha : PA X (e :: es) t) (hdb : (x == ("__debug__" : Str)) = false := by decide) (he : starEach (e :: es) X.env = (false, eval e X.env) :: starEach es X.env := by rfl) (hpl : (backTo pos (starEach es X.env)).any (·.1) = false := by rfl) :
    PE X (.Call (.Name x p) (e :: es) [] pos) (tCall sp [] E t) := ⟨fun pins s σ H Q I h => wpAny_Call_Name_kw (ld_glob I hg hm (PySem.W.callWith_K (h₀ := X.base) I.ok.mod.kin hk
      (thn (ha.run pos pins s σ H _ I h) fun us s1 ⟨vs, H1, I1, r, q⟩ => ⟨I1.kIn, run_fnG F hgd hr hb hx I1 r q⟩) he hpl) hdb)⟩
theorem pe_call0G (F : FnG X.prog X.w X.K X.mg X.base CX k f fd ps sp) (hgd : X.A.guards = some []) (hr : Room k X.A) (hg : Gl X x) (hm : X.mg x = some (.ref f)) (hk : PySem.W.keepIn X.K (.ref f) = true) (hb : Binds X.K fd ps []) (hx : Passes CX X E)
    (hdb : (x == ("__debug__" : Str)) = false := by decide) : PE X (.Call (.Name x p) [] [] pos) (tCall sp [] E tNil) :=
  ⟨fun pins s σ H Q I h => wpAny_Call_Name_kw (ld_glob I hg hm (PySem.W.callWith_K0 I.kIn hk (run_fnG (us := []) F hgd hr hb hx I .nil h)) hdb)⟩
end

/-! ### the law's def at the top -/
theorem law_callG {P : Program} {w : World} {K : PySem.W.Frag} {mg mb : Str → Option Value} {CX : CXT} {k : Nat} {fa a : Addr} {fd : FuncData} {x : Str} {sp : Sp} {s₁ : Shared} {vs : List Value} {ns : List Int}
    (KX : K.In s₁.heap) (hns : s₁.heap.Ns mainGlobals mg) (hb : s₁.heap.Ns builtinsNs mb) (hbb : ∀ x : Str, x ≠ "__name__" → mb x = bootBuiltins x) (nl : s₁.heap.NoLimit) (hg : s₁.gens = #[])
    (ha : s₁.heap.get? a = some { cls := .type "list", data := .seq vs.toArray }) (hi : IntsAre vs ns) (hl : ns.length ≤ sizeLine) (hr : Room k callerA)
    (F : ∀ base : Heap, K.In base → base.Ns mainGlobals mg → FnG P w K mg base CX k fa fd [x] sp) (bind : ∀ (s : Shared) (u : Value), BindsTo s fd ⟨[u], []⟩ [(x, u)])
    (hsp : ∀ H : Hp, Only H → SqL K H a (ns.map V.int) → sp [.ref a] H (fun v _ => v = .bl true) fun _ _ _ => False)
    (hCX : ∀ H e s', CX [] H s₁ (fun _ _ _ => False) e s' → False) :
    codeAny (model P w) callerA (.call (.ref fa) ⟨[.ref a], []⟩) (fun r s' => r = .ok (.ret (.bool true)) ∧ OldK s₁.heap s'.heap ∧ s'.os = s₁.os ∧ AllBare s'.gens) s₁ := by
  have start : ∀ H : Hp, Only H → SqL K H a (ns.map V.int) → HOk P w H s₁.heap → (∀ b, H b ≠ none → b = a) → (H a ≠ none → K.lookup a = none) →
      codeAny (model P w) callerA (.call (.ref fa) ⟨[.ref a], []⟩) (fun r s' => r = .ok (.ret (.bool true)) ∧ OldK s₁.heap s'.heap ∧ s'.os = s₁.os ∧ AllBare s'.gens) s₁ := fun H hO hS hok only free => by
    have atA : ∀ {b : Addr} {u : HO}, H b = some u → b = a := fun {b u} q => only b (by rw [q]; simp)
    have nsH : ∀ {b : Addr} {m : Str → Option Value}, s₁.heap.Ns b m → (hidT s₁.heap H).Ns b m := fun {b m} ⟨o, es, ep, e, d, r⟩ => ⟨o, es, ep, hidT_get e (by
      cases q : H b with
      | none => rfl
      | some u =>
        rw [atA q, ha] at e; cases e
        exact nomatch d), d, r⟩
    have kinH : K.In (hidT s₁.heap H) := fun b o e => hidT_get (KX b o e) (by
      cases q : H b with
      | none => rfl
      | some u =>
        have z := atA q
        subst z
        rw [free (by rw [q]; simp)] at e; cases e)
    have env : Env0 P w K mg (hidT s₁.heap H) callerA [] s₁ H := ⟨rfl, ⟨kinH, nsH hns, ⟨mb, nsH hb, hbb⟩, let ⟨mc, h1, h2⟩ := nl; ⟨mc, nsH h1, h2⟩⟩, fun b o e => of_hidT e, Nat.le_of_eq (hidT_size _ _), trivial,
      fun b hb => absurd (show b ∈ ([] : List Addr) from hb) (by simp), hok, .of_eq hg⟩
    refine codeAny_mono ((F _ kinH (nsH hns)).run callerA [] s₁ H ⟨[.ref a], []⟩ [.ref a] [.ref a] _ _ rfl hr env (bind s₁ (.ref a)) (.cons rfl .nil) (hsp H hO hS)) fun r s' h => ?_
    match r, h with
    | .error er, h => exact (hCX H er s' h).elim
    | .ok (.ret u), h =>
      obtain ⟨v, H', os, bare, un, hok', r', q⟩ := h
      obtain rfl : v = .bl true := q
      obtain rfl : u = Value.bool true := r'
      refine ⟨rfl, OldK.of_keep fun b o e => ?_, os, bare⟩
      cases q : H b with
      | none => exact un.keep b o e q (by intro z; exact absurd (show b ∈ ([] : List Addr) from z) (by simp)) (by simp)
      | some u =>
        rcases hO b with z | ⟨ob, xs, z⟩
        · rw [q] at z; cases z
        · obtain ⟨e1, _⟩ := hok b _ z
          obtain ⟨e2, _⟩ := hok' b _ (un.frzs b ob _ z)
          rw [e] at e1; cases e1
          exact e2
  cases hk : K.lookup a with
  | some o =>
    have e := KX a o hk
    rw [ha] at e
    cases e
    exact start (fun _ => none) (fun _ => .inl rfl) (.inr ⟨_, vs.toArray, _, hk, rfl, rfl, rfl, by rw [List.size_toArray, hi.length]; exact hl, by simpa using vals_ints hi⟩) (fun b u z => nomatch (show (none : Option HO) = some u from z)) (fun b z => absurd rfl z) fun z => absurd rfl z
  | none =>
    let ob : Obj := { cls := .type "list", data := .seq vs.toArray }
    refine start (fun b => if b = a then some (.frz ob (.lst (ns.map V.int))) else none) (fun b => ?_) (.inl (.inr ⟨ob, if_pos rfl⟩)) (fun b u z => ?_) (fun b z => ?_) fun _ => hk
    · by_cases hb : b = a
      · exact .inr ⟨_, _, if_pos hb⟩
      · exact .inl (if_neg hb)
    · by_cases hb : b = a
      · have y := (if_pos hb).symm.trans z
        cases y
        subst hb
        exact ⟨ha, by rw [List.length_map]; exact hl, vs, _, vals_ints hi, ha⟩
      · exact nomatch (if_neg hb).symm.trans z
    · by_cases hb : b = a
      · exact hb
      · exact absurd (if_neg hb) z
theorem walk_ofG {l : PySem.W.OpenLaw} {n k : Nat} {q : Program} {loose : List Str} {XP : (Str → Option Value) → Heap → Prop} {YP : World → Heap → Prop} {d : DefRec} {K : Params → PySem.W.Frag} {x : Str} {sp : World → (Nat → Addr) → Sp}
    (hn : l.most = some n) (hn2 : n ≤ sizeLine) (hdf : d.params.defaults = []) (hr : Room k callerA) (hY : ∀ (w : World) (h : Heap), YP w h → (K w.params).In h)
    (F : ∀ (w : World) (mg : Str → Option Value) (fa : Addr) (h : Heap), (K w.params).In h → h.Ns mainGlobals mg → mg d.name = some (.ref fa) →
      ∃ (ca : Nat → Addr) (fd : FuncData), (∀ (s : Shared) (u : Value), BindsTo s fd ⟨[u], []⟩ [(x, u)]) ∧ ∀ base : Heap, (K w.params).In base → base.Ns mainGlobals mg → FnG l.prog w (K w.params) mg base CX0 k fa fd [x] (sp w ca))
    (hsp : ∀ (w : World) (ca : Nat → Addr) (H : Hp) (a : Addr) (ns : List Int), ns.length ≤ n → Only H → SqL (K w.params) H a (ns.map V.int) → sp w ca [.ref a] H (fun v _ => v = .bl true) fun _ _ _ => False) :
    PySem.W.WalkO q loose XP YP l.row.toRowW d [] (fun f vs => PySem.call f vs) := by
  refine Att.attach_call hn hdf fun w s₀ s₁ mg mb fa o pm cd doc a vs ns G Y ho hd hcd hmg hobj hints hlen hg => ?_
  obtain ⟨ca, fd, hb, hF⟩ := F w mg fa _ (hY w _ Y) G.T.g hmg
  exact law_callG (hY w _ Y) G.T.g G.T.b G.T.builtins G.T.nolimit hg hobj hints (Nat.le_trans hlen hn2) hr hF hb (fun H hO hS => hsp w ca H a ns hlen hO hS) fun _ _ _ z => z

/-! ### repr -/
mutual
theorem dp_nodict {K : PySem.W.Frag} {H : Hp} : ∀ (d : PyData) {v : V}, Dp K H v d → d.hasDict = false
  | .none, _, _ => by simp only [PyData.hasDict]
  | .bool _, _, _ => by simp only [PyData.hasDict]
  | .int _, _, _ => by simp only [PyData.hasDict]
  | .str _, _, _ => by simp only [PyData.hasDict]
  | .list ds, _, h => by
    cases h with
    | lst _ h => simp only [PyData.hasDict]; exact dpAll_nodict ds h
  | .tuple ds, _, h => by
    cases h with
    | tup _ h => simp only [PyData.hasDict]; exact dpAll_nodict ds h
  | .dict _, _, h => nomatch h
theorem dpAll_nodict {K : PySem.W.Frag} {H : Hp} : ∀ (ds : List PyData) {vs : List V}, DpAll K H vs ds → PyData.hasDictAll ds = false
  | [], _, _ => by simp only [PyData.hasDictAll]
  | d :: ds, _, h => by
    cases h with
    | cons h1 h2 => simp only [PyData.hasDictAll, dp_nodict d h1, dpAll_nodict ds h2, Bool.or_self]
end
def uRepr (K : PySem.W.Frag) : List V → Hp → VK → Prop := fun xs H Q => match xs with
  | [v] => ∃ d, Dp K H v d ∧ d.showable = true ∧ d.shown.length ≤ sizeLine ∧ d.depth ≤ 40 ∧ Q (.str d.shown) H
  | _ => False
theorem cu_repr {X : Cx} (hg : X.A.guards = some []) (hu : X.A.units + 64 < cLine) : CallR X (.builtin "repr") (uRepr X.K) := fun pins s σ H xs us Q I r h => by
  match xs, h with
  | [v], h =>
    obtain ⟨d, hd, h1, h2, h3, q⟩ := h
    match us, r with
    | [u], .cons ru .nil =>
      obtain ⟨as, rd⟩ := Dp.reads I d v u hd ru
      have fin : ∀ h' tk u', (∀ b o, s.heap.get? b = some o → h'.get? b = some o) → EP X pins σ Q (.str d.shown u') { s with heap := h', toks := tk } := fun h' tk u' kp =>
        ⟨.str d.shown, H, I.un (Un.kept kp) (I.hok.kept kp), ⟨_, rfl⟩, q⟩
      have stay : ∀ tk u', EP X pins σ Q (.str d.shown u') { s with toks := tk } := fun tk u' => fin s.heap tk u' fun _ _ z => z
      cases rd with
      | none => exact PySem.P.repr_of_none (by have e : PyData.shown .none = ("None" : Str) := by simp [PyData.shown]
                                               exact e ▸ stay _ _)
      | bool b => exact PySem.P.repr_of_bool (by have e : PyData.shown (.bool b) = (if b then "True" else "False" : Str) := by simp [PyData.shown]
                                                 exact e ▸ stay _ _)
      | int i t => exact PySem.P.repr_of_int (by simpa [PyData.showable] using h1) (by have e : PyData.shown (.int i) = (toString i : Str) := by simp [PyData.shown]
                                                                                       exact e ▸ stay _ _)
      | str z t =>
        have e : PyData.shown (.str z) = reprText z := by simp [PyData.shown]
        exact PySem.P.repr_of_str (by exact e ▸ stay _ _) (e ▸ h2)
      | list k1 k2 k3 k4 => exact repr_of_reads' (.list k1 k2 k3 k4) h1 (PyData.noDict_hsm (dp_nodict _ hd)) hg (by omega) (fun _ _ z => z) (fun h' u' tk kp => fin h' tk u' kp) h2
      | tuple k1 k2 k3 k4 => exact repr_of_reads' (.tuple k1 k2 k3 k4) h1 (PyData.noDict_hsm (dp_nodict _ hd)) hg (by omega) (fun _ _ z => z) (fun h' u' tk kp => fin h' tk u' kp) h2
      | dict _ _ _ _ _ => exact nomatch hd
end U

namespace U
open PySem PySem.Spec PyProof.Rows L2

/-! ### the same thing, by == -/
def Sm (K : PySem.W.Frag) (H : Hp) : Nat → V → V → Prop
  | 0 => fun _ _ => False
  | n + 1 => fun x y => (x = y ∧ flatB x = true) ∨ (∃ a, x = .ref a ∧ y = .ref a) ∨ ∃ a b xs ys, x = .ref a ∧ y = .ref b ∧ SqL K H a xs ∧ SqL K H b ys ∧ Paired (Sm K H n) xs ys
section
variable {X : Cx} {pins : List (Addr × Obj)} {σ : L2.St} {H : Hp} {s : Shared}
theorem sm_items {A : Around} {F : V → V → Prop} (ih : ∀ x y v u, F x y → RelV x v → RelV y u → SeqAt.EqAt A s v u true) : ∀ {xs ys : List V} {us ws : List Value}, Paired F xs ys → Vals xs us → Vals ys ws →
    us.length = ws.length ∧ ∀ j (h1 : j < us.length) (h2 : j < ws.length), SeqAt.EqAt A s us[j] ws[j] true
  | _, _, _, _, .nil, .nil, .nil => ⟨rfl, fun j h1 _ => absurd h1 (Nat.not_lt_zero j)⟩
  | _, _, _, _, .cons h t, .cons a1 b1, .cons a2 b2 => by
    obtain ⟨e, k⟩ := sm_items ih t b1 b2
    refine ⟨congrArg Nat.succ e, fun j h1 h2 => ?_⟩
    cases j with
    | zero => exact ih _ _ _ _ h a1 a2
    | succ j => exact k j (Nat.lt_of_succ_lt_succ h1) (Nat.lt_of_succ_lt_succ h2)
theorem sm_lists (I : Inv X pins σ H s) {A : Around} {F : V → V → Prop} (ih : ∀ x y v u, F x y → RelV x v → RelV y u → SeqAt.EqAt A s v u true) {a b : Addr} {xs ys : List V} (ha : SqL X.K H a xs) (hb : SqL X.K H b ys) (p : Paired F xs ys) :
    ∃ us ws : List Value, s.heap.IsList a us.toArray ∧ s.heap.IsList b ws.toArray ∧ us.toArray.size = ws.toArray.size ∧ ∀ j (h1 : j < us.toArray.size) (h2 : j < ws.toArray.size), SeqAt.EqAt A s us.toArray[j] ws.toArray[j] true := by
  obtain ⟨us, r1, p1, _⟩ := I.list ha
  obtain ⟨ws, r2, p2, _⟩ := I.list hb
  obtain ⟨e, k⟩ := sm_items ih p r1 r2
  exact ⟨us, ws, p1.isList, p2.isList, by simpa using e, fun j h1 h2 => by simpa using k j (by simpa using h1) (by simpa using h2)⟩
theorem allT (n : Nat) : ((List.range n).all fun _ => true) = true := List.all_eq_true.mpr fun _ _ => rfl
theorem sm_run (I : Inv X pins σ H s) : ∀ (n : Nat) (A : Around), A.units + n < cLine → ∀ (x y : V) (v u : Value), Sm X.K H n x y → RelV x v → RelV y u → SeqAt.EqAt A s v u true
  | 0, _, _, _, _, _, _, h, _, _ => (show False from h).elim
  | n + 1, A, hu, x, y, v, u, h, rx, ry => by
    rcases h with ⟨rfl, f⟩ | ⟨a, rfl, rfl⟩ | ⟨a, b, xs, ys, rfl, rfl, ha, hb, p⟩
    · exact eqAt_same rx ry f
    · cases (show v = Value.ref a from rx)
      cases (show u = Value.ref a from ry)
      exact SeqAt.EqAt.same _
    · cases (show v = Value.ref a from rx)
      cases (show u = Value.ref b from ry)
      by_cases e : a = b
      · subst e; exact SeqAt.EqAt.same _
      · obtain ⟨us, ws, p1, p2, hz, k⟩ := sm_lists I (A := A.in1) (sm_run I n A.in1 (by show A.units + 1 + n < cLine; omega)) ha hb p
        have r := SeqAt.RcAt.lists (A := A) (e := fun _ => true) p1 p2 hz (by omega) k
        rw [allT] at r
        exact SeqAt.EqAt.of_refs e r
/-- two lists of the same things -/
def SmL (K : PySem.W.Frag) (H : Hp) (x y : V) : Prop := ∃ a b xs ys, x = .ref a ∧ y = .ref b ∧ SqL K H a xs ∧ SqL K H b ys ∧ Paired (Sm K H 40) xs ys
theorem op_eqS (hu : X.A.units + 64 < cLine) : OpR X (compareOp .Eq) (fun x y H Q => SmL X.K H x y ∧ Q (.bl true) H) := fun pins s σ H x y v u Q I rx ry h => by
  obtain ⟨⟨a, b, xs, ys, rfl, rfl, ha, hb, p⟩, q⟩ := h
  cases (show v = Value.ref a from rx)
  cases (show u = Value.ref b from ry)
  obtain ⟨us, ws, p1, p2, hz, k⟩ := sm_lists I (A := X.A.in1) (sm_run I 40 X.A.in1 (by show X.A.units + 1 + 40 < cLine; omega)) ha hb p
  have r := SeqAt.RcAt.lists (A := X.A) (e := fun _ => true) p1 p2 hz (by omega) k
  rw [allT] at r
  exact r X.prog X.w _ _ ⟨.bl true, H, I, rfl, q⟩
theorem op_neS (hu : X.A.units + 64 < cLine) : OpR X (compareOp .NotEq) (fun x y H Q => SmL X.K H x y ∧ Q (.bl false) H) := fun pins s σ H x y v u Q I rx ry h => by
  obtain ⟨⟨a, b, xs, ys, rfl, rfl, ha, hb, p⟩, q⟩ := h
  cases (show v = Value.ref a from rx)
  cases (show u = Value.ref b from ry)
  obtain ⟨us, ws, p1, p2, hz, k⟩ := sm_lists I (A := X.A.in1) (sm_run I 40 X.A.in1 (by show X.A.units + 1 + 40 < cLine; omega)) ha hb p
  have r := SeqAt.RcNeAt.lists (A := X.A) (e := fun _ => true) p1 p2 hz (by omega) k
  rw [allT] at r
  exact r X.prog X.w _ _ ⟨.bl false, H, I, rfl, q⟩
end
theorem Paired.sm_refl {K : PySem.W.Frag} {H : Hp} {n : Nat} : ∀ {xs : List V}, (∀ x ∈ xs, Sm K H n x x) → Paired (Sm K H n) xs xs
  | [], _ => .nil
  | x :: xs, h => .cons (h x List.mem_cons_self) (Paired.sm_refl fun y hy => h y (List.mem_cons_of_mem _ hy))
/-- a value is the same as itself -/
theorem sm_self {K : PySem.W.Frag} {H : Hp} {n : Nat} {v : V} (h : flatB v = true ∨ ∃ a, v = .ref a) : Sm K H (n + 1) v v := by
  rcases h with h | ⟨a, rfl⟩
  · exact .inl ⟨rfl, h⟩
  · exact .inr (.inl ⟨a, rfl, rfl⟩)
def uEq2 (K : PySem.W.Frag) : R2 := fun x y H Q => match scal x y with
  | true => Q (.bl (decide (x = y))) H
  | false => (∃ d e, Dp K H x d ∧ Dp K H y e ∧ SeqAt.shaped d = true ∧ SeqAt.shaped e = true ∧ Q (.bl (PyData.eqv d e)) H) ∨ (SmL K H x y ∧ Q (.bl true) H)
def uNe2 (K : PySem.W.Frag) : R2 := fun x y H Q => match scal x y with
  | true => Q (.bl (!decide (x = y))) H
  | false => (∃ d e, Dp K H x d ∧ Dp K H y e ∧ SeqAt.shaped d = true ∧ SeqAt.shaped e = true ∧ Q (.bl (!PyData.eqv d e)) H) ∨ (SmL K H x y ∧ Q (.bl false) H)
/-- int, text or list times int -/
def uMul2 : R2 := fun x y H Q => match x, y with
  | .int i, .int j => CMul i j ∧ Q (.int (i * j)) H
  | .ref l, .int k => oK (mutL H l) fun xs => -(2 ^ 63) ≤ k ∧ k < 2 ^ 63 ∧ xs.length * k.toNat ≤ sizeLine ∧ ∀ p, H p = none → Q (.ref p) (upd H p (.lst (List.replicate k.toNat xs).flatten))
  | _, _ => False
/-- x is None -/
def uIs (neg : Bool) : R2 := fun x y H Q => match y with
  | .non => Q (.bl (if neg then !decide (x = .non) else decide (x = .non))) H
  | _ => False
def uInt : List V → Hp → VK → Prop := fun xs H Q => match xs with
  | [.int i] => Q (.int i) H
  | [.bl k] => Q (.int (if k then 1 else 0)) H
  | [.str a] => a.length ≤ 640 ∧ oK (PySem.intText? a) fun n => Q (.int n) H
  | _ => False
def uIndex : V → List V → Hp → VK → Prop := fun x xs H Q => match x, xs with
  | .str a, [.str b] => ∃ i rest, Builtin.Str.occurrences a b 0 a.length 1 = i :: rest ∧ Q (.int (i : Nat)) H
  | _, _ => False
def uSplit : V → List V → Hp → VK → Prop := fun x xs H Q => match x, xs with
  | .str a, [.str b] => (b.length == 0) = false ∧ a.length + 2 ≤ sizeLine ∧ ∀ p, H p = none → Q (.ref p) (upd H p (.lst ((Txt.split a b).map V.str)))
  | _, _ => False
section
variable {X : Cx}
theorem ou_eq2 (hu : X.A.units + 64 < cLine) : OpR X (compareOp .Eq) (uEq2 X.K) := OpRi (op_eq.or ((op_eqD hu).or (op_eqS hu))) fun x y H Q h => by
  unfold uEq2 at h
  split at h
  · exact .inl ⟨by assumption, h⟩
  · exact .inr h
theorem ou_ne2 (hu : X.A.units + 64 < cLine) : OpR X (compareOp .NotEq) (uNe2 X.K) := OpRi (op_ne.or ((op_neD hu).or (op_neS hu))) fun x y H Q h => by
  unfold uNe2 at h
  split at h
  · exact .inl ⟨by assumption, h⟩
  · exact .inr h
theorem ou_mul2 : OpR X (binaryOp .Mult) uMul2 := OpRi (op_mul.or op_rep) fun x y H Q h => by
  unfold uMul2 at h
  split at h
  · exact .inl ⟨_, _, rfl, rfl, h⟩
  · obtain ⟨xs, e, h1, h2, h3, h4⟩ := oK_ex h
    exact .inr ⟨_, _, xs, rfl, rfl, of_mutL e, h1, h2, h3, h4⟩
  · exact h.elim
theorem ou_is : OpR X (compareOp .Is) (uIs false) := OpRi op_isN fun x y H Q h => by
  unfold uIs at h
  split at h
  · exact ⟨rfl, h⟩
  · exact h.elim
theorem ou_isnot : OpR X (compareOp .IsNot) (uIs true) := OpRi op_notN fun x y H Q h => by
  unfold uIs at h
  split at h
  · exact ⟨rfl, h⟩
  · exact h.elim
theorem callR_or {f : Value} {r r' : List V → Hp → VK → Prop} (h : CallR X f r) (h' : CallR X f r') : CallR X f (fun xs H Q => r xs H Q ∨ r' xs H Q) := fun pins s σ H xs us Q I rv q => q.elim (h pins s σ H xs us Q I rv) (h' pins s σ H xs us Q I rv)
theorem cu_int : CallR X (.type "int") uInt := CallRi (callR_or call_int1 call_int_str) fun xs H Q h => by
  unfold uInt at h
  split at h
  · exact .inl (.inl ⟨_, rfl, h⟩)
  · exact .inl (.inr ⟨_, rfl, h⟩)
  · obtain ⟨h1, h⟩ := h
    obtain ⟨n, e, h⟩ := oK_ex h
    exact .inr ⟨_, n, rfl, e, h1, h⟩
  · exact h.elim
theorem mu_index : MtR X "str.index" uIndex := MtRi mt_sindex fun x xs H Q h => by
  unfold uIndex at h
  split at h
  · obtain ⟨i, rest, e, h⟩ := h
    exact ⟨_, _, i, rest, rfl, rfl, e, h⟩
  · exact h.elim
theorem mu_split : MtR X "str.split" uSplit := MtRi mt_split fun x xs H Q h => by
  unfold uSplit at h
  split at h
  · exact ⟨_, _, rfl, rfl, h.1, h.2.1, h.2.2⟩
  · exact h.elim
end

/-! ### calls with keywords and defaults -/
section
variable {X : Cx} {CX : CXT} {k n m : Nat} {f : Addr} {fd : FuncData} {ps ks : List Str} {sp : Sp} {E : XK} {x : Str} {p pos : Pos} {e : Expr} {es : List Expr} {kws : List Keyword} {t tk : TA} {gV : List V → List V → List V} {dvs : List V}
theorem pe_callE (F : FnOk X.prog X.w X.K X.mg X.base CX k f fd ps sp) (hr : Room k X.A) (hg : Gl X x) (hm : X.mg x = some (.ref f)) (hk : PySem.W.keepIn X.K (.ref f) = true) (hb : ∃ g, KBn X.K fd ps n ks g gV) (hx : Passes CX X E)
    (ha : PA X (e :: es) t) (hkw : PK X kws tk) (hl : ks.length = m := by rfl) (hall : (backToKw pos (keywordEach kws X.env)).all (·.1.isSome) = true := by rfl) (hks : (backToKw pos (keywordEach kws X.env)).filterMap (·.1) = ks := by rfl)
    (hdb : (x == ("__debug__" : Str)) = false := by decide) (he : starEach (e :: es) X.env = (false, eval e X.env) :: starEach es X.env := by rfl)
    (hpl : ((backTo pos (starEach (e :: es) X.env)).any (·.1) || (backToKw pos (keywordEach kws X.env)).any (·.1.isNone)) = false := by rfl) :
    PE X (.Call (.Name x p) (e :: es) kws pos) (tCallN n m sp gV E t tk) := hb.elim fun _ h => by
  subst hl
  exact pe_callN F hr hg hm hk h hx ha hkw hall hks hdb he hpl
theorem pe_callD (F : FnOk X.prog X.w X.K X.mg X.base CX k f fd ps sp) (hr : Room k X.A) (hg : Gl X x) (hm : X.mg x = some (.ref f)) (hk : PySem.W.keepIn X.K (.ref f) = true) (hb : ∃ ds, Vals dvs ds ∧ Binds X.K fd ps ds) (hx : Passes CX X E)
    (ha : PA X (e :: es) t) (hdb : (x == ("__debug__" : Str)) = false := by decide) (he : starEach (e :: es) X.env = (false, eval e X.env) :: starEach es X.env := by rfl) (hpl : (backTo pos (starEach es X.env)).any (·.1) = false := by rfl) :
    PE X (.Call (.Name x p) (e :: es) [] pos) (tCall sp dvs E t) := hb.elim fun _ h => pe_call F hr hg hm hk h.2 h.1 hx ha hdb he hpl
end

/-! ### two fors in a comprehension -/
theorem in_it {J : It} {n : Nat} {G : Hp → Prop} {Y : Nat → Hp → V → Hp → Prop} (w : Walk J n G Y) {g : TG} {tt : TT} {te : TE} {vs : List Nat} {σ : L2.St} {H1 : Hp} {D : Addr} {Qd : Hp → Prop} (Pv : Nat → Hp → Prop) (h0 : Pv 0 H1) (hG : ∀ i H, i ≤ n → Pv i H → G H)
    (hs : ∀ i x H H', i < n → Pv i H → Y i H x H' → g x (wipe σ vs) H' fun σ2 H2 => wipe σ2 vs = wipe σ vs ∧ tt σ2 H2 fun b H3 =>
      bB b (te σ2 H3 fun y H4 => ∃ acc, H4 D = some (.lst acc) ∧ acc.length < sizeLine ∧ Pv (i + 1) (upd H4 D (.lst (acc ++ [y])))) (Pv (i + 1) H3)) (hd : ∀ H, Pv n H → Qd H) :
    ∃ W : Nat → Nat → Hp → Prop, (∃ m, W 0 m H1) ∧ ∀ i m H, W i m H → (J.stop i H ∧ Qd H) ∨ (J.go i H ∧ ∃ Nx : Hp → Prop, (∀ H', Nx H' → ∃ m', m' < m ∧ W (i + 1) m' H') ∧ ∀ x H', J.yld i H x H' →
      g x (wipe σ vs) H' fun σ2 H2 => wipe σ2 vs = wipe σ vs ∧ tt σ2 H2 fun b H3 => if b = true then te σ2 H3 fun y H4 => ∃ acc, H4 D = some (.lst acc) ∧ acc.length < sizeLine ∧ Nx (upd H4 D (.lst (acc ++ [y]))) else Nx H3) := by
  simp only [bB_if] at hs
  refine ⟨fun i m H => m = n - i ∧ i ≤ n ∧ Pv i H, ⟨n, by simp, Nat.zero_le _, h0⟩, fun i m H => ?_⟩
  rintro ⟨rfl, hi, p⟩
  have q := hG i H hi p
  rcases Nat.lt_or_ge i n with hlt | hge
  · exact .inr ⟨w.goes i H hlt q, Pv (i + 1), fun H' p' => ⟨n - (i + 1), by omega, rfl, hlt, p'⟩, fun x H' y => hs i x H H' hlt p (w.yields i H x H' hlt q y)⟩
  · obtain rfl : i = n := by omega
    exact .inl ⟨w.stops H q, hd H p⟩
theorem lc2s {K : PySem.W.Frag} {x : V} {J : It} {xs : List V} {G : Hp → Prop} (S : Src K x J xs G) {tx : TE} {g g1 : TG} {tt tt1 : TT} {wi1 : TI} {te : TE} {vs vs1 : List Nat} {σ : L2.St} {H H1 : Hp} {Q : VK} (hx : ∀ R : VK, R x H1 → tx σ H R) (hG : G H1) (Pv : Addr → Nat → Hp → Prop)
    (h0 : ∀ D, H1 D = none → Pv D 0 (upd H1 D (.lst []))) (hst : ∀ D i H, i ≤ xs.length → Pv D i H → G H)
    (hs : ∀ D i y H, xs[i]? = some y → Pv D i H → g y (wipe σ vs) H fun σ2 H2 => wipe σ2 vs = wipe σ vs ∧ tt σ2 H2 fun b H3 =>
      if b = true then wi1 σ2 H3 fun J1 H4 => ∃ W1 : Nat → Nat → Hp → Prop, (∃ m, W1 0 m H4) ∧ ∀ j k H, W1 j k H →
        (J1.stop j H ∧ Pv D (i + 1) H) ∨ (J1.go j H ∧ ∃ Nx1 : Hp → Prop, (∀ H', Nx1 H' → ∃ k', k' < k ∧ W1 (j + 1) k' H') ∧ ∀ x H', J1.yld j H x H' → g1 x (wipe σ2 vs1) H' fun σ3 H5 => wipe σ3 vs1 = wipe σ2 vs1 ∧ tt1 σ3 H5 fun b H6 =>
          if b = true then te σ3 H6 fun y H7 => ∃ acc, H7 D = some (.lst acc) ∧ acc.length < sizeLine ∧ Nx1 (upd H7 D (.lst (acc ++ [y]))) else Nx1 H6)
      else Pv D (i + 1) H3) (hd : ∀ D H, H1 D = none → Pv D xs.length H → Q (.ref D) H) :
    tLc2 (uIter K tx) g tt wi1 g1 tt1 te vs vs1 σ H Q := hx _ (S.go hG fun D hD => by
  refine ⟨fun i m H => m = xs.length - i ∧ i ≤ xs.length ∧ Pv D i H, ⟨xs.length, by simp, Nat.zero_le _, h0 D hD⟩, fun i m H => ?_⟩
  rintro ⟨rfl, hi, p⟩
  have q := hst D i H hi p
  rcases Nat.lt_or_ge i xs.length with hlt | hge
  · refine .inr ⟨S.walk.goes i H hlt q, Pv D (i + 1), fun H' p' => ⟨xs.length - (i + 1), by omega, rfl, hlt, p'⟩, fun x H' y => ?_⟩
    obtain ⟨e, hy⟩ := S.walk.yields i H x H' hlt q y
    subst e
    exact hs D i x _ hy p
  · obtain rfl : i = xs.length := by omega
    exact .inl ⟨S.walk.stops H q, hd D H hD p⟩)
end U

namespace U
open PySem PySem.Spec PyProof.Rows L2

/-! ### what the laws of this package share: words, marks, boxes -/
def letter (c : Nat) : Bool := decide (97 ≤ c) && decide (c ≤ 122)
def isWord (z : Str) : Bool := decide (1 ≤ z.length) && decide (z.length ≤ 30) && z.cps.toList.all letter
def isMarkL : List Nat → Bool
  | [c] => decide (c = 32)
  | [k, i] => (decide (k = 35) || decide (k = 124) || decide (k = 47)) && (decide (48 ≤ i) && decide (i ≤ 51))
  | _ => false
def isMark (z : Str) : Bool := isMarkL z.cps.toList
def wordV (v : V) : Bool := match v with | .str z => isWord z | _ => false
def markV (v : V) : Bool := match v with | .str z => isMark z | _ => false
def small (v : V) : Prop := match v with | .str z => z.length ≤ 1000 | _ => True
/-- a value of a known kind, no long text -/
def Kn (H : Hp) (v : V) : Prop := (tyOf H v).isSome = true ∧ small v
def BoxAt (H : Hp) (b : Addr) (n : Nat) : Prop := ∃ x y z : Int, H b = some (.lst [.int x, .int y, .int z]) ∧ 0 ≤ x ∧ 0 ≤ y ∧ y < 2147483629 ∧ 0 ≤ z ∧ z ≤ n
/-- the exception of the class i with its field -/
def Rs (ca : Nat → Addr) (i : Nat) (v : V) (H : Hp) (E : XK) : Prop := ∀ d, H d = none → E (.ref (ca i)) (some d) (upd H d (.xd [("value", v)]))
theorem BoxAt.new {H : Hp} {b p : Addr} {n : Nat} {o : HO} (h : BoxAt H b n) (hp : H p = none) : BoxAt (upd H p o) b n := by
  obtain ⟨x, y, z, e, r⟩ := h
  exact ⟨x, y, z, by rw [upd_ne (ne_of_none e hp)]; exact e, r⟩
theorem BoxAt.ex {H H' : Hp} {b : Addr} {n : Nat} (h : BoxAt H b n) (e : Ex H H') : BoxAt H' b n := by
  obtain ⟨x, y, z, h, r⟩ := h
  exact ⟨x, y, z, e _ _ h, r⟩
theorem BoxAt.le {H : Hp} {b : Addr} {n m : Nat} (h : BoxAt H b n) (e : n ≤ m) : BoxAt H b m := by
  obtain ⟨x, y, z, h, a, b, c, d, f⟩ := h
  exact ⟨x, y, z, h, a, b, c, d, by omega⟩
theorem BoxAt.ne {H : Hp} {b p : Addr} {n : Nat} (h : BoxAt H b n) (hp : H p = none) : p ≠ b := by
  obtain ⟨_, _, _, e, _⟩ := h
  exact (ne_of_none e hp).symm
/-- something else at an address that is no box -/
theorem BoxAt.off {H : Hp} {b p : Addr} {n : Nat} {o : HO} (h : BoxAt H b n) (hp : H p = some o) (ho : ∀ x y z, o ≠ .lst [.int x, .int y, .int z]) : p ≠ b := by
  obtain ⟨x, y, z, e, _⟩ := h
  exact ne_of hp e (ho x y z)
theorem ScriptAt.box {K : PySem.W.Frag} {H H' : Hp} {a b : Addr} {ns : List Int} {n : Nat} (h : ScriptAt K H a ns) (B : BoxAt H b n) (f : Fr b H H') : ScriptAt K H' a ns := by
  obtain ⟨x, y, z, e, _⟩ := B
  exact h.fr f e
theorem tyOf_ref {H : Hp} {a : Addr} (h : (tyOf H (.ref a)).isSome = true) : ∃ t, tyOf H (.ref a) = some t ∧ (t = .lst ∨ t = .tup ∨ t = .dct) := by
  have h : ((H a).bind tyO).isSome = true := h
  cases e : H a with
  | none => rw [e] at h; cases h
  | some o =>
    rw [e] at h
    have h : (tyO o).isSome = true := h
    cases e2 : tyO o with
    | none => rw [e2] at h; cases h
    | some t =>
      refine ⟨t, ?_, ?_⟩
      · show (H a).bind tyO = some t
        rw [e]; exact e2
      · unfold tyO at e2
        split at e2 <;> first | (cases e2; done) | (cases e2; simp)
theorem kn_ref {H : Hp} {p : Addr} {o : HO} (h : H p = some o) (ho : (tyO o).isSome = true) : Kn H (.ref p) := ⟨by show ((H p).bind tyO).isSome = true; rw [h]; exact ho, trivial⟩
theorem kn_str {H : Hp} {z : Str} (h : z.length ≤ 1000) : Kn H (.str z) := ⟨rfl, h⟩
theorem kn_int {H : Hp} (i : Int) : Kn H (.int i) := ⟨rfl, trivial⟩
theorem kn_non {H : Hp} : Kn H .non := ⟨rfl, trivial⟩
theorem kn_bl {H : Hp} (b : Bool) : Kn H (.bl b) := ⟨rfl, trivial⟩
theorem tyOf_ex {H H' : Hp} {v : V} {t : Ty} (h : tyOf H v = some t) (e : Ex H H') : tyOf H' v = some t := by
  cases v with
  | ref a =>
    have h : (H a).bind tyO = some t := h
    cases q : H a with
    | none => rw [q] at h; cases h
    | some o =>
      rw [q] at h
      show (H' a).bind tyO = some t
      rw [e _ _ q]; exact h
  | _ => exact h
theorem Kn.ex {H H' : Hp} {v : V} (h : Kn H v) (e : Ex H H') : Kn H' v := by
  obtain ⟨h1, h2⟩ := h
  obtain ⟨t, ht⟩ := Option.isSome_iff_exists.mp h1
  exact ⟨by rw [tyOf_ex ht e]; rfl, h2⟩
theorem tyOf_fr {H H' : Hp} {b : Addr} {v : V} {t : Ty} (h : tyOf H v = some t) (e : Fr b H H') (hb : v ≠ .ref b) : tyOf H' v = some t := by
  cases v with
  | ref a =>
    have h : (H a).bind tyO = some t := h
    cases q : H a with
    | none => rw [q] at h; cases h
    | some o =>
      rw [q] at h
      show (H' a).bind tyO = some t
      rw [e _ _ q (fun z => hb (by rw [z]))]; exact h
  | _ => exact h
theorem Kn.fr {H H' : Hp} {b : Addr} {v : V} (h : Kn H v) (e : Fr b H H') (hb : v ≠ .ref b) : Kn H' v := by
  obtain ⟨h1, h2⟩ := h
  obtain ⟨t, ht⟩ := Option.isSome_iff_exists.mp h1
  exact ⟨by rw [tyOf_fr ht e hb]; rfl, h2⟩
theorem log_small {i : Int} (h1 : -(10 ^ 40) < i) (h2 : i < 10 ^ 40) : i.natAbs.log2 < 1920 := by
  by_cases h : i.natAbs = 0
  · rw [h]; decide
  · rw [Nat.log2_lt h]
    have : i.natAbs < 10 ^ 40 := by omega
    exact Nat.lt_of_lt_of_le this (by decide +kernel)
theorem len_small {i : Int} (h1 : -(10 ^ 40) < i) (h2 : i < 10 ^ 40) : (Str.ofString (toString i)).length ≤ 41 := by
  have h := int_text_length_le10 (a := i) (k := 40) (by decide) (by omega)
  rw [PySem.ofString_length]
  omega
/-! texts by their signs -/
theorem toList_inj {a b : Str} (h : a.cps.toList = b.cps.toList) : a = b := by
  obtain ⟨⟨l⟩⟩ := a
  obtain ⟨⟨m⟩⟩ := b
  have h : l = m := h
  subst h; rfl
theorem str_len (z : Str) : z.length = z.cps.toList.length := rfl
theorem cps_blank : (Str.ofString " ").cps.toList = [32] := by decide +kernel
theorem cps_kinds : (Str.ofString "#|/").cps.toList = [35, 124, 47] := by decide +kernel
theorem cps_digits : (Str.ofString "0123").cps.toList = [48, 49, 50, 51] := by decide +kernel
theorem cps_ten : (Str.ofString "0123456789").cps.toList = List.range' 48 10 := by decide +kernel
theorem cps_letters : (Str.ofString "abcdefghijklmnopqrstuvwxyz").cps.toList = List.range' 97 26 := by decide +kernel
theorem mem_letters (c : Nat) : decide (c ∈ (Str.ofString "abcdefghijklmnopqrstuvwxyz").cps.toList) = letter c := by
  rw [cps_letters]
  unfold letter
  rw [← Bool.decide_and]
  apply decide_eq_decide.mpr
  rw [List.mem_range'_1]
  omega
def isDig (c : Nat) : Bool := decide (48 ≤ c) && decide (c ≤ 57)
theorem mem_ten (c : Nat) : decide (c ∈ (Str.ofString "0123456789").cps.toList) = isDig c := by
  rw [cps_ten]
  unfold isDig
  rw [← Bool.decide_and]
  apply decide_eq_decide.mpr
  rw [List.mem_range'_1]
  omega
/-- a text against a fixed one -/
theorem eq_fix (z : Str) (a : String) {l : List Nat} (h : (Str.ofString a).cps.toList = l) : decide (V.str z = V.str (Str.ofString a)) = decide (z.cps.toList = l) := by
  apply decide_eq_decide.mpr
  constructor
  · intro e; injection e with e; rw [e]; exact h
  · intro e; rw [toList_inj (e.trans h.symm)]
theorem eq_blank (z : Str) : decide (V.str z = V.str (Str.ofString " ")) = decide (z.cps.toList = [32]) := eq_fix z _ cps_blank
theorem isMark_two {z : Str} {k i : Nat} (h : z.cps.toList = [k, i]) : isMark z = (decide (k ∈ [35, 124, 47]) && decide (i ∈ [48, 49, 50, 51])) := by
  unfold isMark
  rw [h]
  unfold isMarkL
  rw [Bool.eq_iff_iff]
  simp
  omega
theorem isMark_other {z : Str} (h1 : z.cps.toList ≠ [32]) (h2 : z.length ≠ 2) : isMark z = false := by
  unfold isMark
  rw [str_len] at h2
  generalize z.cps.toList = l at *
  match l with
  | [] => rfl
  | [c] => simp at h1; simp [isMarkL, h1]
  | [_, _] => exact absurd rfl h2
  | _ :: _ :: _ :: _ => rfl
/-- the forms of a mark -/
theorem mark_forms {z : Str} (h : isMark z = true) : z.cps.toList = [32] ∨ ∃ k i, z.cps.toList = [k, i] ∧ k ∈ [35, 124, 47] ∧ i ∈ [48, 49, 50, 51] := by
  by_cases h1 : z.cps.toList = [32]
  · exact .inl h1
  · by_cases h2 : z.length = 2
    · have h3 : z.cps.toList.length = 2 := h2
      match hz : z.cps.toList, h3 with
      | [k, i], _ =>
        rw [isMark_two hz, Bool.and_eq_true, decide_eq_true_eq, decide_eq_true_eq] at h
        exact .inr ⟨k, i, rfl, h.1, h.2⟩
    · rw [isMark_other h1 h2] at h; cases h
end U

namespace U
open PySem PySem.Spec PyProof.Rows L2

/-! ### data that lie in the heap of the run, away from an address -/
mutual
inductive Dn (b : Addr) (H : Hp) : V → PyData → Prop
  | non : Dn b H .non .none
  | bl (k : Bool) : Dn b H (.bl k) (.bool k)
  | int (i : Int) : Dn b H (.int i) (.int i)
  | str (z : Str) : Dn b H (.str z) (.str z)
  | lst {a : Addr} {xs : List V} {ds : List PyData} : a ≠ b → H a = some (.lst xs) → DnAll b H xs ds → Dn b H (.ref a) (.list ds)
  | tup {a : Addr} {xs : List V} {ds : List PyData} : a ≠ b → H a = some (.tup xs) → DnAll b H xs ds → Dn b H (.ref a) (.tuple ds)
  | dct {a : Addr} : a ≠ b → H a = some (.dK []) → Dn b H (.ref a) (.dict [])
inductive DnAll (b : Addr) (H : Hp) : List V → List PyData → Prop
  | nil : DnAll b H [] []
  | cons {v : V} {vs : List V} {d : PyData} {ds : List PyData} : Dn b H v d → DnAll b H vs ds → DnAll b H (v :: vs) (d :: ds)
end
mutual
theorem Dn.fr {b : Addr} {H H' : Hp} (f : Fr b H H') : ∀ (d : PyData) {v : V}, Dn b H v d → Dn b H' v d
  | .none, _, h => by cases h; exact .non
  | .bool _, _, h => by cases h; exact .bl _
  | .int _, _, h => by cases h; exact .int _
  | .str _, _, h => by cases h; exact .str _
  | .list ds, _, h => by
    cases h with
    | lst h1 h2 h3 => exact .lst h1 (f _ _ h2 h1) (DnAll.fr f ds h3)
  | .tuple ds, _, h => by
    cases h with
    | tup h1 h2 h3 => exact .tup h1 (f _ _ h2 h1) (DnAll.fr f ds h3)
  | .dict _, _, h => by
    cases h with
    | dct h1 h2 => exact .dct h1 (f _ _ h2 h1)
theorem DnAll.fr {b : Addr} {H H' : Hp} (f : Fr b H H') : ∀ (ds : List PyData) {vs : List V}, DnAll b H vs ds → DnAll b H' vs ds
  | [], _, h => by cases h; exact .nil
  | d :: ds, _, h => by
    cases h with
    | cons h1 h2 => exact .cons (Dn.fr f d h1) (DnAll.fr f ds h2)
end
theorem Dn.go {b : Addr} {H H' : Hp} {d : PyData} {v : V} (h : Dn b H v d) (f : Fr b H H') : Dn b H' v d := Dn.fr f d h
theorem Dn.ex {b : Addr} {H H' : Hp} {d : PyData} {v : V} (h : Dn b H v d) (e : Ex H H') : Dn b H' v d := Dn.fr (Fr.ex e) d h
theorem DnAll.go {b : Addr} {H H' : Hp} {ds : List PyData} {vs : List V} (h : DnAll b H vs ds) (f : Fr b H H') : DnAll b H' vs ds := DnAll.fr f ds h
theorem DnAll.ex {b : Addr} {H H' : Hp} {ds : List PyData} {vs : List V} (h : DnAll b H vs ds) (e : Ex H H') : DnAll b H' vs ds := DnAll.fr (Fr.ex e) ds h
theorem DnAll.len {b : Addr} {H : Hp} : ∀ {vs : List V} {ds : List PyData}, DnAll b H vs ds → vs.length = ds.length
  | _, _, .nil => rfl
  | _, _, .cons _ h => by rw [List.length_cons, List.length_cons, h.len]
theorem DnAll.app {b : Addr} {H : Hp} : ∀ {vs ws : List V} {ds es : List PyData}, DnAll b H vs ds → DnAll b H ws es → DnAll b H (vs ++ ws) (ds ++ es)
  | _, _, _, _, .nil, h => h
  | _, _, _, _, .cons h1 h2, h => .cons h1 (h2.app h)
theorem DnAll.drop {b : Addr} {H : Hp} : ∀ (n : Nat) {vs : List V} {ds : List PyData}, DnAll b H vs ds → DnAll b H (vs.drop n) (ds.drop n)
  | 0, _, _, h => by simpa using h
  | n + 1, _, _, .nil => by simpa using DnAll.nil
  | n + 1, _, _, .cons _ h => by simpa using h.drop n
theorem DnAll.take {b : Addr} {H : Hp} : ∀ (n : Nat) {vs : List V} {ds : List PyData}, DnAll b H vs ds → DnAll b H (vs.take n) (ds.take n)
  | 0, _, _, h => by simpa using DnAll.nil
  | n + 1, _, _, .nil => by simpa using DnAll.nil
  | n + 1, _, _, .cons h1 h => by simpa using DnAll.cons h1 (h.take n)
theorem DnAll.at {b : Addr} {H : Hp} : ∀ {vs : List V} {ds : List PyData}, DnAll b H vs ds → ∀ (i : Nat) {v : V}, vs[i]? = some v → ∃ d, ds[i]? = some d ∧ Dn b H v d
  | _, _, .nil, i, v, e => by simp at e
  | _, _, .cons h1 h2, 0, v, e => by
    simp at e; subst e
    exact ⟨_, rfl, h1⟩
  | _, _, .cons h1 h2, i + 1, v, e => by
    obtain ⟨d, h3, h4⟩ := h2.at i (by simpa using e)
    exact ⟨d, by simpa using h3, h4⟩
mutual
theorem Dn.dp {b : Addr} {H : Hp} {K : PySem.W.Frag} : ∀ (d : PyData) {v : V}, Dn b H v d → d.hasDict = false → Dp K H v d
  | .none, _, h, _ => by cases h; exact .non
  | .bool _, _, h, _ => by cases h; exact .bl _
  | .int _, _, h, _ => by cases h; exact .int _
  | .str _, _, h, _ => by cases h; exact .str _
  | .list ds, _, h, g => by
    cases h with
    | lst h1 h2 h3 => exact .lst (.inl (.inl h2)) (DnAll.dp ds h3 (by simpa only [PyData.hasDict] using g))
  | .tuple ds, _, h, g => by
    cases h with
    | tup h1 h2 h3 => exact .tup (.inl (.inl h2)) (DnAll.dp ds h3 (by simpa only [PyData.hasDict] using g))
  | .dict _, _, _, g => by simp only [PyData.hasDict] at g; cases g
theorem DnAll.dp {b : Addr} {H : Hp} {K : PySem.W.Frag} : ∀ (ds : List PyData) {vs : List V}, DnAll b H vs ds → PyData.hasDictAll ds = false → DpAll K H vs ds
  | [], _, h, _ => by cases h; exact .nil
  | d :: ds, _, h, g => by
    cases h with
    | cons h1 h2 =>
      simp only [PyData.hasDictAll, Bool.or_eq_false_iff] at g
      exact .cons (Dn.dp d h1 g.1) (DnAll.dp ds h2 g.2)
end
section
variable {X : Cx} {pins : List (Addr × Obj)} {σ : L2.St} {H : Hp} {s : Shared} {b : Addr}
theorem dk_empty_at (I : Inv X pins σ H s) {a : Addr} (h : H a = some (.dK [])) : (a == sysModules) = false ∧ ∃ (o : Obj) (n : Nat), s.heap.get? a = some o ∧ o.cls = .type "dict" ∧ o.data = .dict #[] n := by
  obtain ⟨_, h2, vs, kv, o, es, ep, g1, g2, g3, _, g5, _⟩ := (show ObjOk X.prog X.w H s.heap a (.dK []) from I.hok a _ h)
  cases kv
  obtain ⟨l⟩ := es
  cases (show Pairs (mixKind X.prog X.w) l [] from g5)
  exact ⟨h2, o, ep, g1, g2.1, g3⟩
mutual
theorem Dn.reads (I : Inv X pins σ H s) : ∀ (d : PyData) {v : V} {u : Value}, Dn b H v d → RelV v u → ∃ as, Reads s.heap u d as
  | .none, _, _, h, r => by cases h; cases r; exact ⟨_, .none⟩
  | .bool _, _, _, h, r => by cases h; cases r; exact ⟨_, .bool _⟩
  | .int _, _, _, h, r => by cases h; obtain ⟨t, rfl⟩ := r; exact ⟨_, .int _ t⟩
  | .str _, _, _, h, r => by cases h; obtain ⟨t, rfl⟩ := r; exact ⟨_, .str _ t⟩
  | .list ds, _, _, h, r => by
    cases h with
    | lst h1 h2 h3 =>
      cases r
      obtain ⟨us, rv, ⟨o, n, e1, e2, _, e3⟩, _⟩ := I.list (.inl (.inl h2))
      obtain ⟨as, q⟩ := DnAll.reads I ds h3 rv
      exact ⟨_, .list e1 e2 e3 q⟩
  | .tuple ds, _, _, h, r => by
    cases h with
    | tup h1 h2 h3 =>
      cases r
      obtain ⟨us, rv, ⟨o, e1, e2, n, e3⟩, _⟩ := I.tuple (.inl (.inl h2))
      obtain ⟨as, q⟩ := DnAll.reads I ds h3 rv
      exact ⟨_, .tuple e1 e2 e3 q⟩
  | .dict _, _, _, h, r => by
    cases h with
    | dct h1 h2 =>
      cases r
      obtain ⟨_, o, n, e1, e2, e3⟩ := dk_empty_at I h2
      exact ⟨_, .dict e1 e2 e3 .nil .nil⟩
theorem DnAll.reads (I : Inv X pins σ H s) : ∀ (ds : List PyData) {vs : List V} {us : List Value}, DnAll b H vs ds → Vals vs us → ∃ as, ReadsAll s.heap us ds as
  | [], _, _, h, r => by cases h; cases r; exact ⟨_, .nil⟩
  | d :: ds, _, _, h, r => by
    cases h with
    | cons h1 h2 =>
      cases r with
      | cons r1 r2 =>
        obtain ⟨as, q1⟩ := Dn.reads I d h1 r1
        obtain ⟨cs, q2⟩ := DnAll.reads I ds h2 r2
        exact ⟨_, .cons q1 q2⟩
end
mutual
theorem Dn.shows (I : Inv X pins σ H s) : ∀ (d : PyData) {v : V} {u : Value}, Dn b H v d → RelV v u → d.showable = true → d.shown.length ≤ sizeLine →
    ∃ bs, ReadAtMost s.heap d.depth bs ∧ ReprK X.prog X.w bs s.heap d.depth u d.shown
  | .none, _, _, h, r, _, _ => by
    cases h; cases r
    refine ⟨[], fun _ q => (nomatch q), ?_⟩
    simp only [PyData.shown]; exact .of_is ReprIs.none _ _ _
  | .bool k, _, _, h, r, _, _ => by
    cases h; cases r
    refine ⟨[], fun _ q => (nomatch q), ?_⟩
    simp only [PyData.shown]; exact .of_is (ReprIs.bool k) _ _ _
  | .int i, _, _, h, r, hs, _ => by
    cases h; obtain ⟨t, rfl⟩ := r
    refine ⟨[], fun _ q => (nomatch q), ?_⟩
    have g : i.natAbs.log2 < 1920 := by simpa [PyData.showable] using hs
    simp only [PyData.shown]; exact .of_is (ReprIs.int t g) _ _ _
  | .str z, _, _, h, r, _, hz => by
    cases h; obtain ⟨t, rfl⟩ := r
    refine ⟨[], fun _ q => (nomatch q), ?_⟩
    simp only [PyData.shown] at hz ⊢; exact .of_is (ReprIs.str z t hz) _ _ _
  | .list ds, _, u, h, r, hs, hz => by
    obtain ⟨as, rd⟩ := Dn.reads I (.list ds) h r
    cases h with
    | @lst a xs _ h1 h2 h3 =>
      cases r
      obtain ⟨us, rv, ⟨o, n, e1, e2, _, e3⟩, _⟩ := I.list (.inl (.inl h2))
      simp only [PyData.shown] at hz
      obtain ⟨bs, k1, k2⟩ := DnAll.shows I ds h3 rv (by simpa only [PyData.showable] using hs) (fun t ht => Nat.le_trans (listText_mem_le ht) hz)
      have no : a ∉ bs := not_mem_of_deeper rd (by simp only [PyData.depth]; omega) k1
      refine ⟨a :: bs, ReadAtMost.cons rd (by simp only [PyData.depth]; omega) k1, ?_⟩
      simp only [PyData.depth, PyData.shown]
      cases us with
      | nil =>
        cases rv
        cases h3
        simp only [PyData.shownAll, listText_nil]
        exact .listEmpty e1 e2 e3
      | cons x l => exact .list e1 e2 e3 no (by simpa using k2.length_eq) fun i y e => k2.item i y (by simpa using e)
  | .tuple ds, _, u, h, r, hs, hz => by
    obtain ⟨as, rd⟩ := Dn.reads I (.tuple ds) h r
    cases h with
    | @tup a xs _ h1 h2 h3 =>
      cases r
      obtain ⟨us, rv, ⟨o, e1, e2, n, e3⟩, _⟩ := I.tuple (.inl (.inl h2))
      simp only [PyData.shown] at hz
      obtain ⟨bs, k1, k2⟩ := DnAll.shows I ds h3 rv (by simpa only [PyData.showable] using hs) (fun t ht => Nat.le_trans (tupleText_mem_le ht) hz)
      have no : a ∉ bs := not_mem_of_deeper rd (by simp only [PyData.depth]; omega) k1
      refine ⟨a :: bs, ReadAtMost.cons rd (by simp only [PyData.depth]; omega) k1, ?_⟩
      simp only [PyData.depth, PyData.shown]
      exact .tuple e1 e2 e3 no (by simpa using k2)
  | .dict kvs, _, u, h, r, hs, hz => by
    obtain ⟨as, rd⟩ := Dn.reads I (.dict kvs) h r
    cases h with
    | @dct a h1 h2 =>
      cases r
      obtain ⟨g, o, n, e1, e2, e3⟩ := dk_empty_at I h2
      refine ⟨[a], ReadAtMost.cons (n := 0) rd (Nat.zero_le _) (fun _ q => (nomatch q)), ?_⟩
      simp only [PyData.depth, PyData.shown, PyData.depthKv, PyData.shownKv]
      exact .dict (ps := []) e1 e2 e3 g (by simp) .nil
theorem DnAll.shows (I : Inv X pins σ H s) : ∀ (ds : List PyData) {vs : List V} {us : List Value}, DnAll b H vs ds → Vals vs us → PyData.showableAll ds = true → (∀ t ∈ PyData.shownAll ds, t.length ≤ sizeLine) →
    ∃ bs, ReadAtMost s.heap (PyData.depthAll ds) bs ∧ ReprAllK X.prog X.w bs s.heap (PyData.depthAll ds) us (PyData.shownAll ds)
  | [], _, _, h, r, _, _ => by
    cases h; cases r
    refine ⟨[], fun _ q => (nomatch q), ?_⟩
    simp only [PyData.shownAll]; exact .nil
  | d :: ds, _, _, h, r, hs, hz => by
    cases h with
    | cons h1 h2 =>
      cases r with
      | cons r1 r2 =>
        simp only [PyData.showableAll, Bool.and_eq_true] at hs
        simp only [PyData.shownAll] at hz
        obtain ⟨b1, a1, k1⟩ := Dn.shows I d h1 r1 hs.1 (hz _ List.mem_cons_self)
        obtain ⟨b2, a2, k2⟩ := DnAll.shows I ds h2 r2 hs.2 fun t ht => hz t (List.mem_cons_of_mem _ ht)
        refine ⟨b1 ++ b2, ?_, ?_⟩
        · simp only [PyData.depthAll]
          exact (a1.mono (Nat.le_max_left _ _)).append (a2.mono (Nat.le_max_right _ _))
        · simp only [PyData.depthAll, PyData.shownAll]
          refine .cons ((k1.more fun c hc => List.mem_append_left _ hc).level_le (Nat.le_max_left _ _)) ?_
          exact k2.more_le (fun c hc => List.mem_append_right _ hc) (Nat.le_max_right _ _)
end
end
/-- data that repr takes -/
structure Okd (d : PyData) : Prop where
  sh : d.showable = true
  lv : d.leavesShort 41 = true
  dp : d.depth ≤ 20
  wt : d.weight ≤ 200000
theorem Okd.size {d : PyData} (h : Okd d) : d.shown.length ≤ sizeLine := by
  have := PyData.shown_le 41 (by decide) d h.lv
  have h2 := h.wt
  have h3 : 43 * d.weight ≤ 43 * 200000 := Nat.mul_le_mul_left _ h2
  rw [sizeLine_eq]; omega
def uRepr2 : List V → Hp → VK → Prop := fun xs H Q => match xs with
  | [v] => ∃ b d, Dn b H v d ∧ Okd d ∧ Q (.str d.shown) H
  | _ => False
theorem cu_repr2 {X : Cx} (hg : X.A.guards = some []) (hu : X.A.units + 64 < cLine) : CallR X (.builtin "repr") uRepr2 := fun pins s σ H xs us Q I r h => by
  match xs, h with
  | [v], h =>
    obtain ⟨b, d, hd, ok, q⟩ := h
    match us, r with
    | [u], .cons ru .nil =>
      have fin : ∀ h' tk u', (∀ b o, s.heap.get? b = some o → h'.get? b = some o) → EP X pins σ Q (.str d.shown u') { s with heap := h', toks := tk } := fun h' tk u' kp =>
        ⟨.str d.shown, H, I.un (Un.kept kp) (I.hok.kept kp), ⟨_, rfl⟩, q⟩
      have stay : ∀ tk u', EP X pins σ Q (.str d.shown u') { s with toks := tk } := fun tk u' => fin s.heap tk u' fun _ _ z => z
      obtain ⟨as, rd⟩ := Dn.reads I d hd ru
      have h2 := ok.size
      have hdp := ok.dp
      cases hd with
      | non =>
        cases ru
        exact PySem.P.repr_of_none (by have e : PyData.shown .none = ("None" : Str) := by simp [PyData.shown]
                                       exact e ▸ stay _ _)
      | bl k =>
        cases ru
        exact PySem.P.repr_of_bool (by have e : PyData.shown (.bool k) = (if k then "True" else "False" : Str) := by simp [PyData.shown]
                                       exact e ▸ stay _ _)
      | int i =>
        obtain ⟨t, rfl⟩ := ru
        have g : i.natAbs.log2 < 1920 := by simpa [PyData.showable] using ok.sh
        exact PySem.P.repr_of_int g (by have e : PyData.shown (.int i) = (toString i : Str) := by simp [PyData.shown]
                                        exact e ▸ stay _ _)
      | str z =>
        obtain ⟨t, rfl⟩ := ru
        have e : PyData.shown (.str z) = reprText z := by simp [PyData.shown]
        exact PySem.P.repr_of_str (by exact e ▸ stay _ _) (e ▸ h2)
      | @lst a ys ds h1 h2' h3 =>
        cases ru
        obtain ⟨us, rv, ⟨o, n, e1, e2, _, e3⟩, _⟩ := I.list (.inl (.inl h2'))
        simp only [PyData.shown] at h2
        obtain ⟨bs, k1, k2⟩ := DnAll.shows I ds h3 rv (by simpa only [PyData.showable] using ok.sh) (fun t ht => Nat.le_trans (listText_mem_le ht) h2)
        have no : a ∉ bs := not_mem_of_deeper rd (by simp only [PyData.depth]; omega) k1
        simp only [PyData.depth] at hdp
        refine call_repr_slot (by omega) ⟨o, e1, e2⟩ F.slot_list_repr.toG ?_
        simp only [PyData.shown] at fin
        cases us with
        | nil =>
          cases rv
          cases h3
          simp only [PyData.shownAll, listText_nil] at fin
          exact call_list_repr_empty ⟨o, e1, e2⟩ e1 e3 ⟨_, _, rfl, fin s.heap _ _ fun _ _ z => z⟩
        | cons x l =>
          exact call_list_reprK e1 e2 e3 no (by simpa using k2.length_eq) (fun i y e => k2.item i y (by simpa using e)) (A := X.A.in1) hg (fun c _ => Clear.nil c) (by show X.A.units + 1 + _ < cLine; omega) (fun _ _ z => z) (fun h' u' tk kp => ⟨_, _, rfl, fin h' tk u' kp⟩) h2
      | @tup a ys ds h1 h2' h3 =>
        cases ru
        obtain ⟨us, rv, ⟨o, e1, e2, n, e3⟩, _⟩ := I.tuple (.inl (.inl h2'))
        simp only [PyData.shown] at h2
        obtain ⟨bs, k1, k2⟩ := DnAll.shows I ds h3 rv (by simpa only [PyData.showable] using ok.sh) (fun t ht => Nat.le_trans (tupleText_mem_le ht) h2)
        have no : a ∉ bs := not_mem_of_deeper rd (by simp only [PyData.depth]; omega) k1
        simp only [PyData.depth] at hdp
        refine call_repr_slot (by omega) ⟨o, e1, e2⟩ F.slot_tuple_repr ?_
        simp only [PyData.shown] at fin
        exact call_tuple_reprK e1 e2 e3 no (by simpa using k2) (A := X.A.in1) hg (fun c _ => Clear.nil c) (by show X.A.units + 1 + _ < cLine; omega) (fun _ _ z => z) (fun h' u' tk kp => ⟨_, _, rfl, fin h' tk u' kp⟩) h2
      | @dct a h1 h2' =>
        cases ru
        obtain ⟨g, o, n, e1, e2, e3⟩ := dk_empty_at I h2'
        simp only [PyData.shown, PyData.shownKv] at h2 fin
        refine call_repr_slot (by omega) ⟨o, e1, e2⟩ F.slot_dict_repr ?_
        exact call_dict_reprK (as := []) (d := 0) (ps := []) e1 e2 e3 g (by simp) .nil (A := X.A.in1) hg (fun c _ => Clear.nil c) (by show X.A.units + 1 + _ < cLine; omega) (fun _ _ z => z) (fun h' u' tk kp => ⟨_, _, rfl, fin h' tk u' kp⟩) h2
end U

namespace U
open PySem PySem.Spec PyProof.Rows L2

/-! ### int, text or list times int -/
def uMul3 : R2 := fun x y H Q => match x, y with
  | .int i, .int j => CMul i j ∧ Q (.int (i * j)) H
  | .str z, .int k => MulOk z k ∧ Q (.str (Txt.mul z k)) H
  | .ref l, .int k => oK (mutL H l) fun xs => -(2 ^ 63) ≤ k ∧ k < 2 ^ 63 ∧ xs.length * k.toNat ≤ sizeLine ∧ ∀ p, H p = none → Q (.ref p) (upd H p (.lst (List.replicate k.toNat xs).flatten))
  | _, _ => False
section
variable {X : Cx}
theorem op_mulS : OpR X (binaryOp .Mult) (fun x y H Q => ∃ z k, x = V.str z ∧ y = .int k ∧ MulOk z k ∧ Q (.str (Txt.mul z k)) H) := fun pins s σ H x y v u Q I rx ry h => by
  obtain ⟨z, k, rfl, rfl, h1, h2⟩ := h
  obtain ⟨t, rfl⟩ := rx
  obtain ⟨t', rfl⟩ := ry
  exact SB.mul h1 fun t2 k2 => ⟨.str _, H, I.tok k2, ⟨_, rfl⟩, h2⟩
theorem ou_mul3 : OpR X (binaryOp .Mult) uMul3 := OpRi (op_mul.or (op_mulS.or op_rep)) fun x y H Q h => by
  unfold uMul3 at h
  split at h
  · exact .inl ⟨_, _, rfl, rfl, h⟩
  · exact .inr (.inl ⟨_, _, rfl, rfl, h⟩)
  · obtain ⟨xs, e, h1, h2, h3, h4⟩ := oK_ex h
    exact .inr (.inr ⟨_, _, xs, rfl, rfl, of_mutL e, h1, h2, h3, h4⟩)
  · exact h.elim
end
/-! ### a tuple or a list is parted -/
def gTs (K : PySem.W.Frag) (n : Nat) (t : TGs) : TG := fun v σ H Q => match v with
  | .ref a => ∃ xs, (SqT K H a xs ∨ SqL K H a xs) ∧ xs.length = n ∧ t xs σ H Q
  | _ => False
theorem pg_ts {X : Cx} {pos : Pos} {es : List Expr} {k : Nat} {t : TGs} {n : Nat} (hc : X.calm = true) (h : PGs X es t)
    (hn : (assignEach es X.env).length = n := by rfl) (hst : (assignEach es X.env).findIdx? (·.1) = none := by rfl) : PG X (.Tuple es k pos) (gTs X.K n t) := ⟨fun pins s σ H v u Q I r hw => by
  cases v with
  | ref a =>
    obtain ⟨xs, h1, h2, h3⟩ := hw
    rcases h1 with h1 | h1
    · exact (pg_tup hc h hn hst).run pins s σ H _ u Q I r ⟨_, _, rfl, h1, h2, h3⟩
    · exact (pg_unl hc h hn hst).run pins s σ H _ u Q I r ⟨_, _, rfl, h1, h2, h3⟩
  | _ => exact hw.elim⟩
theorem ts_t {K : PySem.W.Frag} {H : Hp} {a : Addr} {xs : List V} {n : Nat} {t : TGs} {σ : L2.St} {Q : L2.St → Hp → Prop} (h : H a = some (.tup xs)) (hn : xs.length = n) (k : t xs σ H Q) : gTs K n t (.ref a) σ H Q := ⟨xs, .inl (.inl (.inl h)), hn, k⟩
theorem ts_l {K : PySem.W.Frag} {H : Hp} {a : Addr} {xs : List V} {n : Nat} {t : TGs} {σ : L2.St} {Q : L2.St → Hp → Prop} (h : H a = some (.lst xs)) (hn : xs.length = n) (k : t xs σ H Q) : gTs K n t (.ref a) σ H Q := ⟨xs, .inr (.inl (.inl h)), hn, k⟩
/-- two names -/
theorem ts_two {K : PySem.W.Frag} {H : Hp} {a : Addr} {x y : V} {i j : Nat} {σ : L2.St} {Q : L2.St → Hp → Prop} (h : H a = some (.tup [x, y]) ∨ H a = some (.lst [x, y])) (k : Q ((σ.set i (some x)).set j (some y)) H) :
    gTs K 2 (gCons (gName i) (gCons (gName j) gNil)) (.ref a) σ H Q := by
  rcases h with h | h
  · exact ts_t h rfl ⟨_, _, rfl, _, _, rfl, rfl, k⟩
  · exact ts_l h rfl ⟨_, _, rfl, _, _, rfl, rfl, k⟩
/-! ### x += y -/
def ipu_add : TIp := fun x y H Q => match x, y with
  | .int i, .int j => Q (.int (i + j)) H
  | _, _ => False
theorem ip_uadd {X : Cx} : PIp X .Add ipu_add := fun pins s σ H x y v u Q I r1 r2 h => ip_add pins s σ H x y v u Q I r1 r2 (by
  unfold ipu_add at h
  split at h
  · exact ⟨_, _, rfl, rfl, h⟩
  · exact h.elim)
/-! ### further methods -/
def uExtend : V → List V → Hp → VK → Prop := fun x vs H Q => match x, vs with
  | .ref l, [.ref b] => oK (mutL H l) fun xs => oK (mutL H b) fun zs => xs.length + zs.length ≤ sizeLine ∧ Q .non (upd H l (.lst (xs ++ zs)))
  | _, _ => False
def uFind : V → List V → Hp → VK → Prop := fun x vs H Q => match x, vs with
  | .str a, [.str b] => Q (.int (Txt.find a b)) H
  | _, _ => False
section
variable {X : Cx}
theorem mu_extend : MtR X "list.extend" uExtend := MtRi (r := rExtend) mt_extend fun x xs H Q h => by
  unfold uExtend at h
  split at h
  · obtain ⟨xs, e, h⟩ := oK_ex h
    obtain ⟨zs, e2, h⟩ := oK_ex h
    exact ⟨_, _, _, _, rfl, rfl, of_mutL e, of_mutL e2, h.1, h.2⟩
  · exact h.elim
theorem mu_find : MtR X "str.find" uFind := MtRi mt_find fun x xs H Q h => by
  unfold uFind at h
  split at h
  · exact ⟨_, _, rfl, rfl, h⟩
  · exact h.elim
end
/-! ### while -/
theorem whl {c : TT} {tb : TS} {D : Ends} {σ : L2.St} {H : Hp} (Pv : Nat → L2.St → Hp → Prop) (m : Nat) (h0 : Pv m σ H)
    (hs : ∀ m σ H, Pv m σ H → c σ H fun b H1 => bB b (∃ N : L2.St → Hp → Prop, (∀ σ' H', N σ' H' → ∃ m', m' < m ∧ Pv m' σ' H') ∧ tb { D with nx := N, ct := N, bk := D.nx } σ H1) (D.nx σ H1)) : tWhile c tb D σ H := by
  simp only [bB_if] at hs
  exact ⟨Pv, ⟨m, h0⟩, hs⟩
/-! ### for over enumerate(list) -/
theorem fore {K : PySem.W.Frag} {ta : TA} {g : TG} {tb : TS} {D : Ends} {σ : L2.St} {H H1 : Hp} {a : Addr} {xs : List V} (hx : ∀ R : List V → Hp → Prop, R [.ref a] H1 → ta σ H R) (hG : SqL K H1 a xs) (Pv : Nat → L2.St → Hp → Prop) (h0 : Pv 0 σ H1)
    (hst : ∀ i σ H, i ≤ xs.length → Pv i σ H → SqL K H a xs)
    (hs : ∀ (i : Nat) y σ H T, xs[i]? = some y → Pv i σ H → H T = none → g (.ref T) σ (upd H T (.tup [.int (i : Nat), y])) fun σ2 H2 => tb { D with nx := Pv (i + 1), ct := Pv (i + 1), bk := D.nx } σ2 H2) (hd : ∀ σ H, Pv xs.length σ H → D.nx σ H) :
    tFor (iEnum K ta) g tb D σ H := hx _ ⟨a, xs, rfl, hG, for_it walk_enum Pv h0 hst (fun i v σ H H' hi p q => by
  obtain ⟨T, x, y, rfl, hT, rfl, e1, e2⟩ := q
  cases e1
  exact hs i y σ _ T e2 p hT) hd⟩
/-! ### comprehensions whose items are flat -/
theorem take_fm {α β : Type} {ys : List (Option α)} {i : Nat} {o : Option α} (h : ys[i]? = some o) : (ys.take (i + 1)).filterMap id = (ys.take i).filterMap id ++ o.toList := by
  rw [List.take_add_one, h, List.filterMap_append]
  show _ ++ List.filterMap id [o] = _
  cases o <;> simp
theorem lcy {K : PySem.W.Frag} {x : V} {J : It} {xs : List V} {G : Hp → Prop} (S : Src K x J xs G) {tx : TE} {g : TG} {tt : TT} {te : TE} {vs : List Nat} {σ : L2.St} {H H1 : Hp} {Q : VK} (hx : ∀ R : VK, R x H1 → tx σ H R) (hG : G H1) (hGx : ∀ H', Ex H1 H' → G H') (hz : xs.length < sizeLine)
    (ys : List (Option V)) (hl : ys.length = xs.length)
    (hs : ∀ (i : Nat) y o H' (A : V → Hp → Prop) (B : Hp → Prop), xs[i]? = some y → ys[i]? = some o → Ex H1 H' → (∀ w H2, o = some w → Ex H' H2 → A w H2) → (o = none → ∀ H2, Ex H' H2 → B H2) →
      g y (wipe σ vs) H' fun σ2 H2 => wipe σ2 vs = wipe σ vs ∧ tt σ2 H2 fun b H3 => bB b (te σ2 H3 A) (B H3))
    (hd : ∀ D H, H1 D = none → Ex H1 H → H D = some (.lst (ys.filterMap id)) → Q (.ref D) H) : tLc (uIter K tx) g tt te vs σ H Q := by
  refine lcs S hx hG (fun D i H => H1 D = none ∧ Ex H1 H ∧ H D = some (.lst ((ys.take i).filterMap id))) (fun D hD => ⟨hD, Ex.new hD, by rw [upd_same]; simp⟩) (fun D i H _ p => hGx H p.2.1) ?_ ?_
  · rintro D i y H' hy ⟨hD, e, hl'⟩
    have hi : i < xs.length := (List.getElem?_eq_some_iff.mp hy).1
    obtain ⟨o, ho⟩ : ∃ o, ys[i]? = some o := ⟨ys[i], List.getElem?_eq_getElem (by omega)⟩
    have tm := take_fm (β := Unit) ho
    refine hs i y o H' _ _ hy ho e (fun w H2 hw e2 => ⟨_, e2 D _ hl', ?_, hD, Ex.mut (e.trans e2) hD, ?_⟩) (fun hw H2 e2 => ⟨hD, e.trans e2, ?_⟩)
    · have := List.length_filterMap_le id (ys.take i)
      rw [List.length_take] at this
      omega
    · rw [upd_same, tm, hw]; rfl
    · rw [e2 D _ hl', tm, hw]; simp
  · rintro D H' hD ⟨_, e, hl'⟩
    rw [← hl, List.take_length] at hl'
    exact hd D H' hD e hl'
theorem fm_some {α β : Type} (f : α → β) : ∀ xs : List α, (xs.map fun x => some (f x)).filterMap id = xs.map f
  | [] => rfl
  | x :: xs => by simp [List.filterMap_cons, fm_some f xs]
end U

namespace U
open PySem PySem.Spec PyProof.Rows L2

/-! ### tokens and texts as data -/
abbrev Tk := Str × Str
def tokD (t : Tk) : PyData := .tuple [.str t.1, .str t.2]
def textD (ts : List Tk) : PyData := .list (ts.map tokD)
def markD : PyData → Bool
  | .str z => isMark z
  | _ => false
def wordD : PyData → Bool
  | .str z => isWord z
  | _ => false
def tokenD : PyData → Bool
  | .tuple [x, y] => markD x && wordD y
  | _ => false
def hashD : PyData → Bool
  | .tuple (.str z :: _) => decide ((sl z).head? = some 35)
  | _ => false
def firstD : List PyData → Bool
  | [] => true
  | d :: _ => hashD d
def isTextD : PyData → Bool
  | .list ds => ds.all tokenD && firstD ds
  | .tuple ds => ds.all tokenD && firstD ds
  | _ => false
def GoodT (ts : List Tk) : Prop := (∀ t ∈ ts, isMark t.1 = true ∧ isWord t.2 = true) ∧ ∀ t, ts.head? = some t → (sl t.1).head? = some 35
theorem markD_str {d : PyData} (h : markD d = true) : ∃ z, d = .str z ∧ isMark z = true := by
  cases d <;> first | exact ⟨_, rfl, h⟩ | cases h
theorem wordD_str {d : PyData} (h : wordD d = true) : ∃ z, d = .str z ∧ isWord z = true := by
  cases d <;> first | exact ⟨_, rfl, h⟩ | cases h
theorem tokenD_form {d : PyData} (h : tokenD d = true) : ∃ t : Tk, d = tokD t ∧ isMark t.1 = true ∧ isWord t.2 = true := by
  unfold tokenD at h
  split at h
  · rw [Bool.and_eq_true] at h
    obtain ⟨m, rfl, hm⟩ := markD_str h.1
    obtain ⟨w, rfl, hw⟩ := wordD_str h.2
    exact ⟨(m, w), rfl, hm, hw⟩
  · cases h
theorem toks_form : ∀ {ds : List PyData}, ds.all tokenD = true → ∃ ts : List Tk, ds = ts.map tokD ∧ ∀ t ∈ ts, isMark t.1 = true ∧ isWord t.2 = true
  | [], _ => ⟨[], rfl, fun _ h => by cases h⟩
  | d :: ds, h => by
    rw [List.all_cons, Bool.and_eq_true] at h
    obtain ⟨t, rfl, h1⟩ := tokenD_form h.1
    obtain ⟨ts, rfl, h2⟩ := toks_form h.2
    exact ⟨t :: ts, rfl, fun u hu => by
      rcases List.mem_cons.mp hu with rfl | hu
      · exact h1
      · exact h2 u hu⟩
theorem row_good (ts : List Tk) : ((ts.map tokD).all tokenD && firstD (ts.map tokD)) = true ↔ GoodT ts := by
  rw [Bool.and_eq_true]
  unfold GoodT
  constructor
  · rintro ⟨h1, h2⟩
    refine ⟨fun t ht => ?_, fun t ht => ?_⟩
    · have := List.all_eq_true.mp h1 (tokD t) (List.mem_map_of_mem ht)
      have : (isMark t.1 && isWord t.2) = true := this
      rwa [Bool.and_eq_true] at this
    · cases ts with
      | nil => cases ht
      | cons u us =>
        cases ht
        exact of_decide_eq_true h2
  · rintro ⟨h1, h2⟩
    refine ⟨List.all_eq_true.mpr fun d hd => ?_, ?_⟩
    · obtain ⟨t, ht, rfl⟩ := List.mem_map.mp hd
      show (isMark t.1 && isWord t.2) = true
      rw [Bool.and_eq_true]; exact h1 t ht
    · cases ts with
      | nil => rfl
      | cons u us => exact decide_eq_true (h2 u rfl)
theorem good_list (ts : List Tk) : isTextD (.list (ts.map tokD)) = true ↔ GoodT ts := row_good ts
theorem good_tuple (ts : List Tk) : isTextD (.tuple (ts.map tokD)) = true ↔ GoodT ts := row_good ts
theorem isTextD_form {d : PyData} (h : isTextD d = true) : ∃ ts, (d = .list (ts.map tokD) ∨ d = .tuple (ts.map tokD)) ∧ GoodT ts := by
  cases d with
  | list ds =>
    have h' : (ds.all tokenD && firstD ds) = true := h
    rw [Bool.and_eq_true] at h'
    obtain ⟨ts, rfl, _⟩ := toks_form h'.1
    exact ⟨ts, .inl rfl, (row_good ts).mp h⟩
  | tuple ds =>
    have h' : (ds.all tokenD && firstD ds) = true := h
    rw [Bool.and_eq_true] at h'
    obtain ⟨ts, rfl, _⟩ := toks_form h'.1
    exact ⟨ts, .inr rfl, (row_good ts).mp h⟩
  | _ => cases h
/-! kinds -/
def tyD : PyData → Ty
  | .none => .non | .bool _ => .bl | .int _ => .int | .str _ => .str | .list _ => .lst | .tuple _ => .tup | .dict _ => .dct
theorem Dn.ty {b : Addr} {H : Hp} {v : V} {d : PyData} (h : Dn b H v d) : tyOf H v = some (tyD d) := by
  cases h with
  | lst _ h _ => show (H _).bind tyO = _; rw [h]; rfl
  | tup _ h _ => show (H _).bind tyO = _; rw [h]; rfl
  | dct _ h => show (H _).bind tyO = _; rw [h]; rfl
  | _ => rfl
/-! weights -/
theorem wt_mem : ∀ {ds : List PyData} {d : PyData}, d ∈ ds → d.weight + 1 ≤ PyData.weightAll ds
  | d :: ds, e, h => by
    rw [PyData.weightAll]
    rcases List.mem_cons.mp h with rfl | h
    · omega
    · have := wt_mem h; omega
theorem wt_len : ∀ ds : List PyData, ds.length ≤ PyData.weightAll ds
  | [] => Nat.zero_le _
  | d :: ds => by
    have := wt_len ds
    rw [PyData.weightAll, List.length_cons]; omega
theorem wt_list (ds : List PyData) : (PyData.list ds).weight = PyData.weightAll ds := by rw [PyData.weight]
theorem wt_tup (ds : List PyData) : (PyData.tuple ds).weight = PyData.weightAll ds := by rw [PyData.weight]
theorem wt_str (z : Str) : (PyData.str z).weight = z.length := by rw [PyData.weight]; rfl
theorem wt_tok (t : Tk) : (tokD t).weight = t.1.length + t.2.length + 2 := by
  unfold tokD
  rw [wt_tup, PyData.weightAll, PyData.weightAll, PyData.weightAll, wt_str, wt_str]; omega
/-- a row of tokens in the heap -/
def ToksAt (b : Addr) (H : Hp) (vs : List V) (ts : List Tk) : Prop := DnAll b H vs (ts.map tokD)
theorem dn_tok {b : Addr} {H : Hp} {v : V} {t : Tk} (h : Dn b H v (tokD t)) : ∃ r, v = .ref r ∧ r ≠ b ∧ H r = some (.tup [.str t.1, .str t.2]) := by
  unfold tokD at h
  cases h with
  | @tup a xs _ h1 h2 h3 =>
    cases h3 with
    | cons g1 g2 =>
      cases g1
      cases g2 with
      | cons g3 g4 =>
        cases g3
        cases g4
        exact ⟨a, rfl, h1, h2⟩
theorem tok_dn {b : Addr} {H : Hp} {r : Addr} {t : Tk} (h1 : r ≠ b) (h : H r = some (.tup [.str t.1, .str t.2])) : Dn b H (.ref r) (tokD t) := .tup h1 h (.cons (.str _) (.cons (.str _) .nil))
theorem ToksAt.at {b : Addr} {H : Hp} {vs : List V} {ts : List Tk} (h : ToksAt b H vs ts) {i : Nat} {v : V} (e : vs[i]? = some v) : ∃ t r, ts[i]? = some t ∧ v = .ref r ∧ r ≠ b ∧ H r = some (.tup [.str t.1, .str t.2]) := by
  obtain ⟨d, h1, h2⟩ := DnAll.at h i e
  rw [List.getElem?_map] at h1
  cases e2 : ts[i]? with
  | none => rw [e2] at h1; cases h1
  | some t =>
    rw [e2] at h1; cases h1
    obtain ⟨r, h3, h4, h5⟩ := dn_tok h2
    exact ⟨t, r, rfl, h3, h4, h5⟩
theorem ToksAt.len {b : Addr} {H : Hp} {vs : List V} {ts : List Tk} (h : ToksAt b H vs ts) : vs.length = ts.length := by
  have := DnAll.len h
  rwa [List.length_map] at this
/-- a text lies at p -/
def TextAt (b : Addr) (H : Hp) (p : Addr) (ts : List Tk) : Prop := p ≠ b ∧ ∃ vs, H p = some (.lst vs) ∧ ToksAt b H vs ts
theorem TextAt.dn {b : Addr} {H : Hp} {p : Addr} {ts : List Tk} (h : TextAt b H p ts) : Dn b H (.ref p) (textD ts) := by
  obtain ⟨h1, vs, h2, h3⟩ := h
  exact .lst h1 h2 h3
theorem TextAt.go {b : Addr} {H H' : Hp} {p : Addr} {ts : List Tk} (h : TextAt b H p ts) (f : Fr b H H') : TextAt b H' p ts := by
  obtain ⟨h1, vs, h2, h3⟩ := h
  exact ⟨h1, vs, f _ _ h2 h1, DnAll.go h3 f⟩
theorem ToksAt.go {b : Addr} {H H' : Hp} {vs : List V} {ts : List Tk} (h : ToksAt b H vs ts) (f : Fr b H H') : ToksAt b H' vs ts := DnAll.go h f
theorem ToksAt.ex {b : Addr} {H H' : Hp} {vs : List V} {ts : List Tk} (h : ToksAt b H vs ts) (f : Ex H H') : ToksAt b H' vs ts := DnAll.ex h f
/-- tokens stay where a list is changed -/
theorem ToksAt.set {b : Addr} {H : Hp} {p : Addr} {xs ys : List V} : ∀ {vs : List V} {ts : List Tk}, ToksAt b H vs ts → H p = some (.lst xs) → ToksAt b (upd H p (.lst ys)) vs ts
  | [], [], _, _ => .nil
  | [], t :: ts, h, _ => nomatch h
  | v :: vs, [], h, _ => nomatch h
  | v :: vs, t :: ts, h, hp => by
    cases h with
    | cons h1 h2 =>
      obtain ⟨r, rfl, hr, e⟩ := dn_tok h1
      refine .cons (tok_dn hr ?_) (ToksAt.set (ts := ts) h2 hp)
      rw [upd_ne (ne_of e hp (by intro z; cases z))]
      exact e
theorem ToksAt.snoc {b : Addr} {H : Hp} {vs : List V} {ts : List Tk} {v : V} {t : Tk} (h : ToksAt b H vs ts) (h1 : Dn b H v (tokD t)) : ToksAt b H (vs ++ [v]) (ts ++ [t]) := by
  show DnAll b H (vs ++ [v]) ((ts ++ [t]).map tokD)
  rw [List.map_append]
  exact DnAll.app h (.cons h1 .nil)
/-! cuts -/
theorem cut_mid {α : Type} (l : List α) (i j : Nat) : (l.drop (min i l.length)).take (min j l.length - min i l.length) = (l.drop i).take (j - i) := by
  by_cases h : i ≤ l.length
  · rw [Nat.min_eq_left h, List.take_eq_take_iff, List.length_drop]; omega
  · rw [show min i l.length = l.length by omega, List.drop_length, List.drop_eq_nil_of_le (show l.length ≤ i by omega)]; simp
theorem sl_mid (z : Str) (i j : Nat) : sl (cutS z (some (i : Int)) (some (j : Int))) = ((sl z).drop i).take (j - i) := by
  rw [sl_cut, HT.sIx_nat, HT.sIx_nat]; exact cut_mid (sl z) i j
theorem sl_upto (z : Str) (j : Nat) : sl (cutS z none (some (j : Int))) = (sl z).take j := by
  rw [sl_cut, HT.sIx_nat, HT.sIx_none]
  have := cut_mid (sl z) 0 j
  simp only [Nat.zero_min, List.drop_zero, Nat.sub_zero] at this ⊢
  exact this
theorem sl_from (z : Str) (i : Nat) : sl (cutS z (some (i : Int)) none) = (sl z).drop i := by
  rw [sl_cut, HT.sIx_nat, HT.sIx_none]
  have := cut_mid (sl z) i z.length
  rw [sl_len, Nat.min_self] at this
  rw [sl_len, this]
  by_cases h : i ≤ (sl z).length
  · exact List.take_of_length_le (by rw [List.length_drop]; omega)
  · rw [List.drop_eq_nil_of_le (by omega)]; simp
theorem cutV_upto (xs : List V) (j : Nat) : cutV xs none (some (j : Int)) = xs.take j := by
  unfold cutV
  rw [HT.sIx_nat, HT.sIx_none]
  have := cut_mid xs 0 j
  simp only [Nat.zero_min, List.drop_zero, Nat.sub_zero] at this ⊢
  exact this
theorem cutV_from (xs : List V) (i : Nat) : cutV xs (some (i : Int)) none = xs.drop i := by
  unfold cutV
  rw [HT.sIx_nat, HT.sIx_none]
  have := cut_mid xs i xs.length
  rw [Nat.min_self] at this
  rw [this]
  by_cases h : i ≤ xs.length
  · exact List.take_of_length_le (by rw [List.length_drop]; omega)
  · rw [List.drop_eq_nil_of_le (by omega)]; simp
end U

namespace U
open PySem PySem.Spec PyProof.Rows L2
/-! ### data that can be shown -/
structure Shp (n : Nat) (d : PyData) : Prop where
  sh : d.showable = true
  lv : d.leavesShort 41 = true
  dp : d.depth ≤ n
theorem Shp.okd {n : Nat} {d : PyData} (h : Shp n d) (hn : n ≤ 20) (hw : d.weight ≤ 200000) : Okd d := ⟨h.sh, h.lv, Nat.le_trans h.dp hn, hw⟩
theorem Shp.le {n m : Nat} {d : PyData} (h : Shp n d) (e : n ≤ m) : Shp m d := ⟨h.sh, h.lv, Nat.le_trans h.dp e⟩
theorem Shp.all {n : Nat} : ∀ {ds : List PyData}, (∀ d ∈ ds, Shp n d) → PyData.showableAll ds = true ∧ PyData.leavesShortAll 41 ds = true ∧ PyData.depthAll ds ≤ n
  | [], _ => ⟨by simp only [PyData.showableAll], by simp only [PyData.leavesShortAll], by simp only [PyData.depthAll]; omega⟩
  | d :: ds, h => by
    obtain ⟨h1, h2, h3⟩ := Shp.all fun e he => h e (List.mem_cons_of_mem _ he)
    have h0 := h d List.mem_cons_self
    refine ⟨?_, ?_, ?_⟩
    · simp only [PyData.showableAll, h0.sh, h1, Bool.and_self]
    · simp only [PyData.leavesShortAll, h0.lv, h2, Bool.and_self]
    · simp only [PyData.depthAll]; have := h0.dp; omega
theorem Shp.lst {n : Nat} {ds : List PyData} (h : ∀ d ∈ ds, Shp n d) : Shp (n + 1) (.list ds) := by
  obtain ⟨h1, h2, h3⟩ := Shp.all h
  exact ⟨by simp only [PyData.showable, h1], by simp only [PyData.leavesShort, h2], by simp only [PyData.depth]; omega⟩
theorem Shp.tup {n : Nat} {ds : List PyData} (h : ∀ d ∈ ds, Shp n d) : Shp (n + 1) (.tuple ds) := by
  obtain ⟨h1, h2, h3⟩ := Shp.all h
  exact ⟨by simp only [PyData.showable, h1], by simp only [PyData.leavesShort, h2], by simp only [PyData.depth]; omega⟩
theorem Shp.str {n : Nat} {z : Str} (h : sok z) : Shp n (.str z) := by
  refine ⟨by simp only [PyData.showable], ?_, by simp only [PyData.depth]; omega⟩
  simp only [PyData.leavesShort, List.all_eq_true, decide_eq_true_eq]
  intro c hc
  have := h c hc
  omega
theorem Shp.non {n : Nat} : Shp n .none := ⟨by simp only [PyData.showable], by simp only [PyData.leavesShort], by simp only [PyData.depth]; omega⟩
theorem Shp.bl {n : Nat} (b : Bool) : Shp n (.bool b) := ⟨by simp only [PyData.showable], by simp only [PyData.leavesShort], by simp only [PyData.depth]; omega⟩
theorem Shp.dct {n : Nat} : Shp (n + 1) (.dict []) := ⟨by simp only [PyData.showable, PyData.showableKv], by simp only [PyData.leavesShort, PyData.leavesShortKv], by simp only [PyData.depth, PyData.depthKv]; omega⟩
theorem Shp.int {n : Nat} {i : Int} (h1 : -(10 ^ 40) < i) (h2 : i < 10 ^ 40) : Shp n (.int i) := by
  refine ⟨?_, ?_, by simp only [PyData.depth]; omega⟩
  · simp only [PyData.showable, decide_eq_true_eq]; exact log_small h1 h2
  · simp only [PyData.leavesShort, decide_eq_true_eq]
    have e : PyData.shown (.int i) = Str.ofString (toString i) := by simp [PyData.shown]
    rw [e]; exact len_small h1 h2
theorem wt_int {i : Int} (h1 : -(10 ^ 40) < i) (h2 : i < 10 ^ 40) : (PyData.int i).weight ≤ 2000 := by
  rw [PyData.weight]
  have := log_small h1 h2
  split <;> omega
theorem wt_non : PyData.none.weight = 0 := by rw [PyData.weight]
theorem wt_bl (b : Bool) : (PyData.bool b).weight = 0 := by rw [PyData.weight]
theorem wt_dct : (PyData.dict []).weight = 0 := by rw [PyData.weight, PyData.weightKv]
theorem wt_cons (d : PyData) (ds : List PyData) : PyData.weightAll (d :: ds) = d.weight + 1 + PyData.weightAll ds := by rw [PyData.weightAll]
theorem wt_nil : PyData.weightAll [] = 0 := by rw [PyData.weightAll]
theorem wt_app : ∀ ds es : List PyData, PyData.weightAll (ds ++ es) = PyData.weightAll ds + PyData.weightAll es
  | [], es => by rw [wt_nil]; simp
  | d :: ds, es => by rw [List.cons_append, wt_cons, wt_cons, wt_app ds es]; omega
def SokT (ts : List Tk) : Prop := ∀ t ∈ ts, sok t.1 ∧ sok t.2
theorem Shp.tok {t : Tk} (h : sok t.1 ∧ sok t.2) : Shp 1 (tokD t) := .tup (n := 0) (by
  intro d hd
  simp only [List.mem_cons, List.not_mem_nil, or_false] at hd
  rcases hd with rfl | rfl
  · exact .str h.1
  · exact .str h.2)
theorem Shp.text {ts : List Tk} (h : SokT ts) : Shp 2 (textD ts) := .lst (n := 1) (by
  intro d hd
  obtain ⟨t, ht, rfl⟩ := List.mem_map.mp hd
  exact .tok (h t ht))
theorem Shp.textT {ts : List Tk} (h : SokT ts) : Shp 2 (.tuple (ts.map tokD)) := .tup (n := 1) (by
  intro d hd
  obtain ⟨t, ht, rfl⟩ := List.mem_map.mp hd
  exact .tok (h t ht))
theorem sok_mark {z : Str} (h : isMark z = true) : sok z := by
  intro c hc
  rcases mark_forms h with e | ⟨k, i, e, hk, hi⟩
  · rw [show sl z = [32] from e] at hc; simp at hc; omega
  · rw [show sl z = [k, i] from e] at hc
    simp only [List.mem_cons, List.not_mem_nil, or_false] at hc hk hi
    omega
theorem sok_word {z : Str} (h : isWord z = true) : sok z := by
  intro c hc
  unfold isWord at h
  rw [Bool.and_eq_true] at h
  have := List.all_eq_true.mp h.2 c hc
  unfold letter at this
  simp at this
  omega
theorem mark_len {z : Str} (h : isMark z = true) : z.length ≤ 2 := by
  rw [sl_len]
  rcases mark_forms h with e | ⟨k, i, e, hk, hi⟩
  · rw [show sl z = [32] from e]; decide
  · rw [show sl z = [k, i] from e]; exact Nat.le_refl 2
theorem word_len {z : Str} (h : isWord z = true) : 1 ≤ z.length ∧ z.length ≤ 30 := by
  unfold isWord at h
  simp only [Bool.and_eq_true, decide_eq_true_eq] at h
  exact ⟨h.1.1, h.1.2⟩
theorem GoodT.sok {ts : List Tk} (h : GoodT ts) : SokT ts := fun t ht => ⟨sok_mark (h.1 t ht).1, sok_word (h.1 t ht).2⟩
theorem wt_good : ∀ {ts : List Tk}, (∀ t ∈ ts, isMark t.1 = true ∧ isWord t.2 = true) → PyData.weightAll (ts.map tokD) ≤ 35 * ts.length
  | [], _ => by rw [List.map_nil, wt_nil]; omega
  | t :: ts, h => by
    have ih := wt_good fun u hu => h u (List.mem_cons_of_mem _ hu)
    have h1 := h t List.mem_cons_self
    have := mark_len h1.1
    have := (word_len h1.2).2
    rw [List.map_cons, wt_cons, wt_tok, List.length_cons]; omega
theorem wt_text (ts : List Tk) : (textD ts).weight = PyData.weightAll (ts.map tokD) := by unfold textD; rw [wt_list]
theorem tokD_inj {t u : Tk} (h : tokD t = tokD u) : t = u := by
  unfold tokD at h
  injection h with h
  injection h with h1 h2
  injection h2 with h2 _
  injection h1 with h1
  injection h2 with h2
  exact Prod.ext h1 h2
theorem map_tokD_inj : ∀ {ts us : List Tk}, ts.map tokD = us.map tokD → ts = us
  | [], [], _ => rfl
  | [], _ :: _, h => by cases h
  | _ :: _, [], h => by cases h
  | t :: ts, u :: us, h => by
    rw [List.map_cons, List.map_cons] at h
    injection h with h1 h2
    rw [tokD_inj h1, map_tokD_inj h2]
/-- a row of two -/
theorem Okd.two {tag : Str} {d : PyData} (ht : sok tag) (hl : tag.length ≤ 1000) (h : Shp 5 d) (hw : d.weight ≤ 190000) : Okd (.list [.str tag, d]) := by
  refine Shp.okd (.lst (n := 5) (fun e he => ?_)) (by decide) ?_
  · simp only [List.mem_cons, List.not_mem_nil, or_false] at he
    rcases he with rfl | rfl
    · exact .str ht
    · exact h
  · rw [wt_list, wt_cons, wt_cons, wt_nil, wt_str]; omega
theorem sok_of (s : String) : sok (Str.ofString s) := fun c hc => by
  rw [show sl (Str.ofString s) = s.toList.map Char.toNat from by rw [Str.ofString_eq_toList]] at hc
  obtain ⟨ch, _, rfl⟩ := List.mem_map.mp hc
  have h := ch.valid
  have e : ch.toNat = ch.val.toNat := rfl
  rw [e]
  rcases h with h | h
  · have : ch.val.toNat < 55296 := h
    omega
  · have : ch.val.toNat < 1114112 := h.2
    exact this
end U

/-! ### zip, whatever became of the tuple that it handed out -/
namespace PySem
open Sem (wp)
abbrev zipObj (f0 : Value) (f1 : Bool) (TI TO : Addr) : Obj := { cls := .type "zip", dict := none, data := .fields #[f0, .bool f1, .bool false, .ref TI, .ref TO], slots := #[] }
def ZipSt (h : Heap) (z TI TO : Addr) : Prop := ∃ (f0 : Value) (f1 : Bool), (f0 = .none ∨ ∃ a : Nat, f0 = rawInt a) ∧ h.get? z = some (zipObj f0 f1 TI TO)
section
variable {prog : Program} {w : World} {A : Around} {E : Value → Shared → Prop} {s : Shared} {z TI TO i1 i2 : Addr} {fp1 fp2 : List Addr} {n1 n2 i : Nat} {P1 P2 : Nat → Value → Prop} {St1 St2 : Nat → Heap → Prop} {a1 a2 : Value}

theorem wpAny_loadIfAlive' {a : Addr} {Q : Option Obj → Shared → Prop} (h : Q (s.heap.get? a) s) : wpAny (model prog w) A (loadIfAlive a) Q E s := by
  intro Γ p hΓ
  exact h
theorem zip_isFree {f0 : Value} {f1 : Bool} {Q : Bool → Shared → Prop} (h0 : f0 = .none ∨ ∃ a : Nat, f0 = rawInt a) (hz : s.heap.get? z = some (zipObj f0 f1 TI TO))
    (ht : Q true s) (hf : ∀ h' f1', h'.get? z = some (zipObj f0 f1' TI TO) → Heap.SameBut z s.heap h' → Q false { s with heap := h' }) :
    wpAny (model prog w) A (Builtin.SmallTypes.ownedTupleIsFree (.ref z)) Q E s := by
  unfold Builtin.SmallTypes.ownedTupleIsFree
  rcases h0 with h0 | ⟨a, h0⟩
  · subst h0
    exact wpAny_bind (wpAny_field hz rfl (x := .none) rfl (wpAny_pure ht))
  · subst h0
    refine wpAny_bind (wpAny_field hz rfl (x := rawInt a) rfl ?_)
    refine wpAny_bind (wpAny_loadIfAlive' ?_)
    cases s.heap.get? (Int.toNat a) with
    | none => exact wpAny_pure ht
    | some o =>
      refine wpAny_bind (wpAny_field hz rfl (x := .bool f1) rfl ?_)
      cases f1 with
      | true => exact wpAny_bind (wpAny_pure (wpAny_pure (hf s.heap true hz ⟨rfl, fun _ _ => rfl⟩)))
      | false =>
        refine wpAny_bind (wpAny_setField_rec hz (by simp) fun h' hz' hs' => wpAny_pure ?_)
        exact hf h' true hz' hs'

theorem zipA_next_item {Q : Value → Shared → Prop} (S : ZipSep2 z TI TO i1 i2 fp1 fp2) (D1 : Draws prog w A i1 fp1 n1 P1 St1) (D2 : Draws prog w A i2 fp2 n2 P2 St2)
    (hz : ZipSt s.heap z TI TO) (hTI : IsTupOf2 s.heap TI (.ref i1) (.ref i2)) (hTO : IsTupOf2 s.heap TO a1 a2) (st1 : St1 i s.heap) (st2 : St2 i s.heap) (hlt1 : i < n1) (hlt2 : i < n2)
    (hQ : ∀ x1 x2 h' tk, P1 i x1 → P2 i x2 → ZipSt h' z TI TO → (∃ b1 b2, IsTupOf2 h' TO b1 b2) → St1 (i + 1) h' → St2 (i + 1) h' → IsTupOf2 h' s.heap.objs.size x1 x2 → h'.objs.size = s.heap.objs.size + 1 →
      (∀ c o, c ≠ z → c ≠ TO → c ≠ i1 → c ≠ i2 → s.heap.get? c = some o → h'.get? c = some o) → Q (.ref s.heap.objs.size) { s with heap := h', toks := tk }) :
    wpAny (model prog w) A (Builtin.«zip.__next__» ⟨[.ref z], []⟩) (fun fin s' => ∃ v, fin = .done (.ret v) ∧ Q v s') E s := by
  obtain ⟨hp, g, d, tk0, os⟩ := s
  obtain ⟨f0, f1, h0, hz⟩ := hz
  show wpAny _ _ (field (.ref z) 2 >>= _) _ _ _
  refine wpAny_bind (wpAny_field hz rfl (x := .bool false) rfl ?_)
  show wpAny _ _ (field (.ref z) 3 >>= _) _ _ _
  refine wpAny_bind (wpAny_field hz rfl (x := .ref TI) rfl ?_)
  refine wpAny_bind (wpAny_seqItems hTI rfl ?_)
  show wpAny _ _ (Builtin.SmallTypes.ownedTupleIsFree (.ref z) >>= _) _ _ _
  refine wpAny_bind (zip_isFree h0 hz ?_ fun g0 f1' hz0 hs0 => ?_)
  · simp only [if_true]
    refine wpAny_bind (wpAny_rule ?_)
    refine wpAny_bind (wpAny_field hz rfl (x := .ref TO) rfl ?_)
    refine wpAny_bind (wpAny_setField_rec hz (by simp) fun g0 hz0 hs0 => ?_)
    replace hz0 : g0.get? z = some (zipObj .ellipsis f1 TI TO) := hz0
    replace hs0 : Heap.SameBut z hp g0 := hs0
    refine wpAny_bind ?_
    simp only [List.zipIdx_cons, List.zipIdx_nil, List.forIn_cons, List.forIn_nil]
    refine wpAny_bind (wpAny_bind (wpAny_onRaise ?_))
    show wpAny _ _ (Builtin.SmallTypes.nextOf (.ref i1) >>= _) _ _ ⟨g0, g, d, tk0, os⟩
    refine wpAny_bind (D1.item i _ _ _ hlt1 (D1.over st1 hs0 S.zf1) fun x1 p1 tk1 hx1 sn1 hp1 => wpAny_pure ?_)
    replace hp1 : Heap.SameBut i1 g0 p1 := hp1
    have hU1 : IsTupOf2 p1 TO a1 a2 := hp1.extBut _ _ S.Ti1 (hs0.extBut _ _ S.TOz hTO)
    refine wpAny_bind (wpAny_seqItems (s := ⟨p1, g, d, tk1, os⟩) hU1 rfl ?_)
    refine wpAny_bind (updateSeq_IsTupOf2 (s := ⟨p1, g, d, tk1, os⟩) hU1 fun g1 hT1 hs1 => ?_)
    replace hT1 : IsTupOf2 g1 TO x1 a2 := hT1
    replace hs1 : Heap.SameBut TO p1 g1 := hs1
    refine wpAny_bind (wpAny_letGo (wpAny_pure ?_))
    refine wpAny_bind (wpAny_bind (wpAny_onRaise ?_))
    show wpAny _ _ (Builtin.SmallTypes.nextOf (.ref i2) >>= _) _ _ ⟨g1, g, d, tk1, os⟩
    refine wpAny_bind (D2.item i _ _ _ hlt2 (D2.over (D2.over (D2.over st2 hs0 S.zf2) hp1 S.sep1_2) hs1 S.Tf2) fun x2 p2 tk2 hx2 sn2 hp2 => wpAny_pure ?_)
    replace hp2 : Heap.SameBut i2 g1 p2 := hp2
    have hU2 : IsTupOf2 p2 TO x1 a2 := hp2.extBut _ _ S.Ti2 hT1
    refine wpAny_bind (wpAny_seqItems (s := ⟨p2, g, d, tk2, os⟩) hU2 rfl ?_)
    refine wpAny_bind (updateSeq_IsTupOf2 (s := ⟨p2, g, d, tk2, os⟩) hU2 fun g2 hT2 hs2 => ?_)
    replace hT2 : IsTupOf2 g2 TO x1 x2 := hT2
    replace hs2 : Heap.SameBut TO p2 g2 := hs2
    refine wpAny_bind (wpAny_letGo (wpAny_pure (wpAny_pure ?_)))
    refine wpAny_bind (wpAny_seqItems (s := ⟨g2, g, d, tk2, os⟩) hT2 rfl ?_)
    refine wpAny_bind (wpAny_newTuple ?_)
    have hsz : g2.objs.size = hp.objs.size := by rw [hs2.1, hp2.1, hs1.1, hp1.1, hs0.1]
    have hzz : g2.get? z = some (zipObj .ellipsis f1 TI TO) := (hs2.extBut _ _ S.TOz.symm (hp2.extBut _ _ S.zi2 (hs1.extBut _ _ S.TOz.symm (hp1.extBut _ _ S.zi1 hz0))))
    have hkk : ∀ c o, c ≠ z → c ≠ TO → c ≠ i1 → c ≠ i2 → hp.get? c = some o → g2.get? c = some o := fun c o cz cT c1 c2 e =>
      (hs2.extBut _ _ cT (hp2.extBut _ _ c2 (hs1.extBut _ _ cT (hp1.extBut _ _ c1 (hs0.extBut _ _ cz e)))))
    have hj1 : St1 (i + 1) g2 := (D1.over (D1.over (D1.over sn1 hs1 S.Tf1) hp2 S.sep2_1) hs2 S.Tf1)
    have hj2 : St2 (i + 1) g2 := (D2.over sn2 hs2 S.Tf2)
    have hzlt : z < g2.objs.size := Heap.lt_size hzz
    show wpAny _ _ (Builtin.SmallTypes.ownedTupleHandOut (.ref z) (.ref g2.objs.size) >>= _) _ _ ⟨g2.push { cls := .type "tuple", data := .seq #[x1, x2] }, g, d, tk2, os⟩
    refine wpAny_bind ?_
    unfold Builtin.SmallTypes.ownedTupleHandOut
    have hz₆ : (g2.push { cls := .type "tuple", data := .seq #[x1, x2] }).get? z = some (zipObj .ellipsis f1 TI TO) := Heap.get?_push_of_some _ hzz
    refine wpAny_bind (wpAny_setField_rec hz₆ (by simp) fun h₇ hz₇ hs₇ => ?_)
    replace hz₇ : h₇.get? z = some (zipObj (rawInt g2.objs.size) f1 TI TO) := hz₇
    refine wpAny_setField_rec hz₇ (by simp) fun h₈ hz₈ hs₈ => ?_
    replace hz₈ : h₈.get? z = some (zipObj (rawInt g2.objs.size) false TI TO) := hz₈
    replace hs₇ : Heap.SameBut z (g2.push { cls := .type "tuple", data := .seq #[x1, x2] }) h₇ := hs₇
    replace hs₈ : Heap.SameBut z h₇ h₈ := hs₈
    have up : ∀ c o, c ≠ z → g2.get? c = some o → h₈.get? c = some o := fun c o c1 e => hs₈.extBut _ _ c1 (hs₇.extBut _ _ c1 (Heap.get?_push_of_some _ e))
    have hT₈ : IsTupOf2 h₈ g2.objs.size x1 x2 := hs₈.extBut _ _ (Nat.ne_of_gt hzlt) (hs₇.extBut _ _ (Nat.ne_of_gt hzlt) (Heap.get?_push_size _ rfl))
    have hz8 : h₈.objs.size = g2.objs.size + 1 := by rw [hs₈.1, hs₇.1, Heap.size_push]
    rw [hsz] at hz₈ hT₈ hz8
    refine wpAny_pure ⟨_, rfl, ?_⟩
    show Q (.ref g2.objs.size) ⟨h₈, g, d, tk2, os⟩
    rw [hsz]
    exact hQ x1 x2 h₈ tk2 hx1 hx2 ⟨_, _, .inr ⟨_, rfl⟩, hz₈⟩ ⟨_, _, up _ _ S.TOz hT2⟩ (D1.frame _ _ _ hj1 fun b hb o e => up b o (fun q => S.zf1 (q ▸ hb)) e) (D2.frame _ _ _ hj2 fun b hb o e => up b o (fun q => S.zf2 (q ▸ hb)) e) hT₈ hz8 fun c o cz cT c1 c2 e => up c o cz (hkk c o cz cT c1 c2 e)
  · replace hs0 : Heap.SameBut z hp g0 := hs0
    rw [if_neg Bool.false_ne_true]
    refine wpAny_bind ?_
    simp only [← Array.forIn_toList, List.forIn_cons, List.forIn_nil]
    refine wpAny_bind (wpAny_bind (wpAny_holding ?_))
    show wpAny _ _ (Builtin.SmallTypes.nextOf (.ref i1) >>= _) _ _ ⟨g0, g, d, tk0, os⟩
    refine wpAny_bind (D1.item i _ _ _ hlt1 (D1.over st1 hs0 S.zf1) fun x1 p1 tk1 hx1 sn1 hp1 => wpAny_pure ?_)
    replace hp1 : Heap.SameBut i1 g0 p1 := hp1
    refine wpAny_pure ?_
    refine wpAny_bind (wpAny_bind (wpAny_holding ?_))
    show wpAny _ _ (Builtin.SmallTypes.nextOf (.ref i2) >>= _) _ _ ⟨p1, g, d, tk1, os⟩
    refine wpAny_bind (D2.item i _ _ _ hlt2 (D2.over (D2.over st2 hs0 S.zf2) hp1 S.sep1_2) fun x2 p2 tk2 hx2 sn2 hp2 => wpAny_pure ?_)
    replace hp2 : Heap.SameBut i2 p1 p2 := hp2
    refine wpAny_pure (wpAny_pure ?_)
    refine wpAny_bind (wpAny_newTuple ?_ (by show 2 ≤ sizeLine; decide))
    have hsz : p2.objs.size = hp.objs.size := by rw [hp2.1, hp1.1, hs0.1]
    have hzz : p2.get? z = some (zipObj f0 f1' TI TO) := (hp2.extBut _ _ S.zi2 (hp1.extBut _ _ S.zi1 hz0))
    refine wpAny_pure ⟨_, rfl, ?_⟩
    show Q (.ref p2.objs.size) ⟨p2.push { cls := .type "tuple", data := .seq #[x1, x2] }, g, d, tk2, os⟩
    have up : ∀ c o, p2.get? c = some o → (p2.push { cls := .type "tuple", data := .seq #[x1, x2] }).get? c = some o := fun c o e => Heap.get?_push_of_some _ e
    have hT : IsTupOf2 (p2.push { cls := .type "tuple", data := .seq #[x1, x2] }) p2.objs.size x1 x2 := Heap.get?_push_size _ rfl
    rw [hsz] at hT ⊢
    exact hQ x1 x2 _ tk2 hx1 hx2 ⟨_, _, h0, up _ _ hzz⟩ ⟨a1, a2, up _ _ (hp2.extBut _ _ S.Ti2 (hp1.extBut _ _ S.Ti1 (hs0.extBut _ _ S.TOz hTO)))⟩
      (D1.frame _ _ _ (D1.over sn1 hp2 S.sep2_1) fun b hb o e => up b o e) (D2.frame _ _ _ sn2 fun b hb o e => up b o e) hT (by rw [Heap.size_push, hsz])
      fun c o cz cT c1 c2 e => up c o (hp2.extBut _ _ c2 (hp1.extBut _ _ c1 (hs0.extBut _ _ cz e)))

theorem zipA_next_end {Q : Fin → Shared → Prop} (S : ZipSep2 z TI TO i1 i2 fp1 fp2) (D1 : Draws prog w A i1 fp1 n1 P1 St1) (D2 : Draws prog w A i2 fp2 n2 P2 St2)
    (hz : ZipSt s.heap z TI TO) (hTI : IsTupOf2 s.heap TI (.ref i1) (.ref i2)) (hTO : IsTupOf2 s.heap TO a1 a2) (st1 : St1 i s.heap) (st2 : St2 i s.heap) (hle1 : i ≤ n1) (hle2 : i ≤ n2) (hend : i = n1 ∨ i = n2)
    (hE : ∀ h' tk e, (∀ c o, c ≠ z → c ≠ TO → c ≠ i1 → c ≠ i2 → s.heap.get? c = some o → h'.get? c = some o) → (∃ o, h'.get? e = some o ∧ o.cls = .type "StopIteration") → E (.ref e) { s with heap := h', toks := tk }) :
    wpAny (model prog w) A (Builtin.«zip.__next__» ⟨[.ref z], []⟩) Q E s := by
  obtain ⟨hp, g, d, tk0, os⟩ := s
  obtain ⟨f0, f1, h0, hz⟩ := hz
  show wpAny _ _ (field (.ref z) 2 >>= _) _ _ _
  refine wpAny_bind (wpAny_field hz rfl (x := .bool false) rfl ?_)
  show wpAny _ _ (field (.ref z) 3 >>= _) _ _ _
  refine wpAny_bind (wpAny_field hz rfl (x := .ref TI) rfl ?_)
  refine wpAny_bind (wpAny_seqItems hTI rfl ?_)
  show wpAny _ _ (Builtin.SmallTypes.ownedTupleIsFree (.ref z) >>= _) _ _ _
  refine wpAny_bind (zip_isFree h0 hz ?_ fun g0 f1' hz0 hs0 => ?_)
  · simp only [if_true]
    refine wpAny_bind (wpAny_rule ?_)
    refine wpAny_bind (wpAny_field hz rfl (x := .ref TO) rfl ?_)
    refine wpAny_bind (wpAny_setField_rec hz (by simp) fun g0 hz0 hs0 => ?_)
    replace hz0 : g0.get? z = some (zipObj .ellipsis f1 TI TO) := hz0
    replace hs0 : Heap.SameBut z hp g0 := hs0
    refine wpAny_bind ?_
    simp only [List.zipIdx_cons, List.zipIdx_nil, List.forIn_cons, List.forIn_nil]
    refine wpAny_bind (wpAny_bind (wpAny_onRaise ?_))
    show wpAny _ _ (Builtin.SmallTypes.nextOf (.ref i1) >>= _) _ _ ⟨g0, g, d, tk0, os⟩
    by_cases hlt1 : i < n1
    · refine wpAny_bind (D1.item i _ _ _ hlt1 (D1.over st1 hs0 S.zf1) fun x1 p1 tk1 hx1 sn1 hp1 => wpAny_pure ?_)
      replace hp1 : Heap.SameBut i1 g0 p1 := hp1
      have hU1 : IsTupOf2 p1 TO a1 a2 := hp1.extBut _ _ S.Ti1 (hs0.extBut _ _ S.TOz hTO)
      refine wpAny_bind (wpAny_seqItems (s := ⟨p1, g, d, tk1, os⟩) hU1 rfl ?_)
      refine wpAny_bind (updateSeq_IsTupOf2 (s := ⟨p1, g, d, tk1, os⟩) hU1 fun g1 hT1 hs1 => ?_)
      replace hT1 : IsTupOf2 g1 TO x1 a2 := hT1
      replace hs1 : Heap.SameBut TO p1 g1 := hs1
      refine wpAny_bind (wpAny_letGo (wpAny_pure ?_))
      have hi2 : i = n2 := by omega
      refine wpAny_bind (wpAny_bind (wpAny_onRaise ?_))
      show wpAny _ _ (Builtin.SmallTypes.nextOf (.ref i2) >>= _) _ _ ⟨g1, g, d, tk1, os⟩
      refine wpAny_bind (D2.done ⟨g1, g, d, tk1, os⟩ _ _ (by rw [← hi2]; exact (D2.over (D2.over (D2.over st2 hs0 S.zf2) hp1 S.sep1_2) hs1 S.Tf2)) fun q e hq he => ?_)
      replace hq : Heap.ExtBut i2 g1 q := hq
      obtain ⟨oe, hoe, hce⟩ := he
      replace hoe : q.get? e = some oe := hoe
      have hzq : q.get? z = some (zipObj .ellipsis f1 TI TO) := hq _ _ S.zi2 (hs1.extBut _ _ S.TOz.symm (hp1.extBut _ _ S.zi1 hz0))
      have hez : e ≠ z := fun x => by subst x; rw [hzq] at hoe; cases hoe; simp at hce
      refine wpAny_setField_rec (s := ⟨q, g, d, tk1, os⟩) hzq (by simp) fun q' _ hq' => ?_
      replace hq' : Heap.SameBut z q q' := hq'
      exact hE q' tk1 e (fun c o cz cT c1 c2 x => hq'.extBut _ _ cz (hq _ _ c2 (hs1.extBut _ _ cT (hp1.extBut _ _ c1 (hs0.extBut _ _ cz x))))) ⟨oe, hq'.extBut _ _ hez hoe, hce⟩
    · have hi1 : i = n1 := by omega
      refine wpAny_bind (D1.done ⟨g0, g, d, tk0, os⟩ _ _ (by rw [← hi1]; exact (D1.over st1 hs0 S.zf1)) fun q e hq he => ?_)
      replace hq : Heap.ExtBut i1 g0 q := hq
      obtain ⟨oe, hoe, hce⟩ := he
      replace hoe : q.get? e = some oe := hoe
      have hzq : q.get? z = some (zipObj .ellipsis f1 TI TO) := hq _ _ S.zi1 hz0
      have hez : e ≠ z := fun x => by subst x; rw [hzq] at hoe; cases hoe; simp at hce
      refine wpAny_setField_rec (s := ⟨q, g, d, tk0, os⟩) hzq (by simp) fun q' _ hq' => ?_
      replace hq' : Heap.SameBut z q q' := hq'
      exact hE q' tk0 e (fun c o cz cT c1 c2 x => hq'.extBut _ _ cz (hq _ _ c1 (hs0.extBut _ _ cz x))) ⟨oe, hq'.extBut _ _ hez hoe, hce⟩
  · replace hs0 : Heap.SameBut z hp g0 := hs0
    rw [if_neg Bool.false_ne_true]
    refine wpAny_bind ?_
    simp only [← Array.forIn_toList, List.forIn_cons, List.forIn_nil]
    refine wpAny_bind (wpAny_bind (wpAny_holding ?_))
    show wpAny _ _ (Builtin.SmallTypes.nextOf (.ref i1) >>= _) _ _ ⟨g0, g, d, tk0, os⟩
    by_cases hlt1 : i < n1
    · refine wpAny_bind (D1.item i _ _ _ hlt1 (D1.over st1 hs0 S.zf1) fun x1 p1 tk1 hx1 sn1 hp1 => wpAny_pure ?_)
      replace hp1 : Heap.SameBut i1 g0 p1 := hp1
      refine wpAny_pure ?_
      have hi2 : i = n2 := by omega
      refine wpAny_bind (wpAny_bind (wpAny_holding ?_))
      show wpAny _ _ (Builtin.SmallTypes.nextOf (.ref i2) >>= _) _ _ ⟨p1, g, d, tk1, os⟩
      refine wpAny_bind (D2.done ⟨p1, g, d, tk1, os⟩ _ _ (by rw [← hi2]; exact (D2.over (D2.over st2 hs0 S.zf2) hp1 S.sep1_2)) fun q e hq he => ?_)
      replace hq : Heap.ExtBut i2 p1 q := hq
      exact hE q tk1 e (fun c o cz cT c1 c2 x => hq _ _ c2 (hp1.extBut _ _ c1 (hs0.extBut _ _ cz x))) he
    · have hi1 : i = n1 := by omega
      refine wpAny_bind (D1.done ⟨g0, g, d, tk0, os⟩ _ _ (by rw [← hi1]; exact (D1.over st1 hs0 S.zf1)) fun q e hq he => ?_)
      replace hq : Heap.ExtBut i1 g0 q := hq
      exact hE q tk0 e (fun c o cz cT c1 c2 x => hq _ _ c1 (hs0.extBut _ _ cz x)) he
end
end PySem

/-! ### iterators that another one draws from -/
namespace U
open PySem PySem.Spec PyProof.Rows L2
/-- a list, a tuple, a text -/
inductive Kd | l (a : Addr) | t (a : Addr) | s (z : Str) (k : Tok)
def Kd.v : Kd → V | l a => .ref a | t a => .ref a | s z _ => .str z
def Kd.u : Kd → Value | l a => .ref a | t a => .ref a | s z k => .str z k
def Kd.sq (K : PySem.W.Frag) (H : Hp) : Kd → List V → Prop
  | l a, xs => SqL K H a xs
  | t a, xs => SqT K H a xs
  | s z _, xs => xs = chars z
def Kd.at (h : Heap) (it : Addr) (i : Nat) : Kd → Prop
  | l a => h.IsListIter it a i
  | t a => h.IsTupleIter it a i
  | s z k => h.IsStrIter it (strIterType z) z k i
def Kd.away (c : Addr) : Kd → Prop
  | l a => a ≠ c
  | t a => a ≠ c
  | s _ _ => True
def Kd.obj : Kd → Obj
  | l a => { cls := .type "list_iterator", data := .fields #[.ref a, .int 0 0] }
  | t a => { cls := .type "tuple_iterator", data := .fields #[.ref a, .int 0 0] }
  | s z k => { cls := .type (strIterType z), data := .fields #[.str z k, .int 0 0] }
theorem Kd.at_get {k : Kd} {h : Heap} {it : Addr} {i : Nat} (p : k.at h it i) : ∃ o, h.get? it = some o ∧ ∀ v, o.data ≠ .cell v := by
  cases k <;> (obtain ⟨o, ho, hc, hd⟩ := p; exact ⟨o, ho, fun v q => by rw [hd] at q; cases q⟩)
theorem Kd.at_keep {k : Kd} {h h' : Heap} {it : Addr} {i : Nat} (p : k.at h it i) (q : ∀ o, h.get? it = some o → h'.get? it = some o) : k.at h' it i := by
  cases k with
  | l a => exact Heap.IsListIter.at p q
  | t a => exact Heap.IsTupleIter.at p q
  | s z k => obtain ⟨o, ho, r⟩ := p; exact ⟨o, q o ho, r⟩
theorem Kd.sq_inj {X : Cx} {pins : List (Addr × Obj)} {σ : L2.St} {H : Hp} {s : Shared} (I : Inv X pins σ H s) {k : Kd} {xs ys : List V} (p : k.sq X.K H xs) (q : k.sq X.K H ys) : xs = ys := by
  cases k with
  | l a => exact I.list_inj p q
  | t a => exact I.tuple_inj p q
  | s z k => exact p.trans q.symm
theorem Kd.draws {X : Cx} {pins : List (Addr × Obj)} {σ : L2.St} {H : Hp} {s : Shared} (I : Inv X pins σ H s) {k : Kd} {xs : List V} {it : Addr} (hq : k.sq X.K H xs) (ha : k.away it) {A : Around} (hh : A.handled = none) :
    ∃ (fp : List Addr) (Pv : Nat → Value → Prop) (St : Nat → Heap → Prop), Draws X.prog X.w A it fp xs.length Pv St ∧ it ∈ fp ∧ (∀ c ∈ fp, c = it ∨ ¬ k.away c) ∧ (∀ i, k.at s.heap it i → St i s.heap) ∧ (∀ i h, St i h → k.at h it i) ∧ ∀ i u, Pv i u → ∃ x, xs[i]? = some x ∧ RelV x u := by
  cases k with
  | l a =>
    obtain ⟨its, rv, p, _⟩ := I.list hq
    have e : its.toArray.size = xs.length := by have := rv.length; simp; omega
    have D := Draws.list (prog := X.prog) (w := X.w) hh it a ha its.toArray
    rw [e] at D
    refine ⟨_, _, _, D, by simp, fun c hc => ?_, fun i q => ⟨q, p.isList⟩, fun i h q => q.1, fun i u q => ?_⟩
    · rcases (by simpa using hc : c = it ∨ c = a) with z | z
      · exact .inl z
      · exact .inr fun q => q z.symm
    · have hlt : i < xs.length := by
        have := (Array.getElem?_eq_some_iff.mp q).1
        omega
      obtain ⟨u', hu, ru⟩ := rv.get (show xs[i]? = some xs[i] by simp [hlt])
      rw [show its.toArray[i]? = some u' by simpa using hu] at q
      cases q
      exact ⟨_, by simp [hlt], ru⟩
  | t a =>
    obtain ⟨its, rv, p, _⟩ := I.tuple hq
    have e : its.toArray.size = xs.length := by have := rv.length; simp; omega
    have D := Draws.tuple (prog := X.prog) (w := X.w) hh it a ha its.toArray
    rw [e] at D
    refine ⟨_, _, _, D, by simp, fun c hc => ?_, fun i q => ⟨q, p⟩, fun i h q => q.1, fun i u q => ?_⟩
    · rcases (by simpa using hc : c = it ∨ c = a) with z | z
      · exact .inl z
      · exact .inr fun q => q z.symm
    · have hlt : i < xs.length := by
        have := (Array.getElem?_eq_some_iff.mp q).1
        omega
      obtain ⟨u', hu, ru⟩ := rv.get (show xs[i]? = some xs[i] by simp [hlt])
      rw [show its.toArray[i]? = some u' by simpa using hu] at q
      cases q
      exact ⟨_, by simp [hlt], ru⟩
  | s z k =>
    have D := Draws.text (prog := X.prog) (w := X.w) hh it z k
    have hl : (chars z).length = z.cps.size := by unfold chars; simp
    cases hq
    rw [← hl] at D
    refine ⟨_, _, _, D, by simp, fun c hc => .inl (by simpa using hc), fun i q => q, fun i h q => q, fun i u q => ?_⟩
    obtain ⟨c, t, hc, rfl⟩ := q
    refine ⟨.str ⟨#[c]⟩, ?_, ⟨t, rfl⟩⟩
    unfold chars
    rw [List.getElem?_map, Array.getElem?_toList, hc]
    rfl
theorem Kd.begins {X : Cx} {pins : List (Addr × Obj)} {σ : L2.St} {H : Hp} {s : Shared} (I : Inv X pins σ H s) {k : Kd} {xs : List V} (hq : k.sq X.K H xs) : ∃ Hp', Begins k.u k.obj Hp' ∧ Hp' s.heap := by
  cases k with
  | l a => obtain ⟨its, rv, p, _⟩ := I.list hq; exact ⟨_, begins_list a its.toArray, p.isList⟩
  | t a => obtain ⟨its, rv, p, _⟩ := I.tuple hq; exact ⟨_, begins_tuple a its.toArray, p⟩
  | s z k => exact ⟨_, begins_text z k, trivial⟩
theorem Kd.at0 {k : Kd} {h : Heap} {it : Addr} (q : h.get? it = some k.obj) : k.at h it 0 := by
  cases k <;> exact ⟨_, q, rfl, rfl⟩
theorem Kd.away_of {X : Cx} {pins : List (Addr × Obj)} {σ : L2.St} {H : Hp} {s : Shared} (I : Inv X pins σ H s) {k : Kd} {xs : List V} (hq : k.sq X.K H xs) {c : Addr} (hc : s.heap.objs.size ≤ c) : k.away c := by
  cases k with
  | l a => obtain ⟨its, rv, ⟨o, n, e, _⟩, _⟩ := I.list hq; exact fun z => absurd (Heap.lt_size e) (Nat.not_lt.mpr (by rw [z]; exact hc))
  | t a => obtain ⟨its, rv, ⟨o, e, _⟩, _⟩ := I.tuple hq; exact fun z => absurd (Heap.lt_size e) (Nat.not_lt.mpr (by rw [z]; exact hc))
  | s z k => trivial

/-- .. its next item, or the end -/
structure Inner (P : Program) (w : World) (K : PySem.W.Frag) (J : It) (fp : List Addr) (it : Addr) (tn : Nat → Heap → Prop) : Prop where
  mem : it ∈ fp
  obj : ∀ i h, tn i h → ∀ b ∈ fp, ∃ o, h.get? b = some o ∧ ∀ v, o.data ≠ .cell v
  keep : ∀ i h h', tn i h → (∀ b ∈ fp, ∀ o, h.get? b = some o → h'.get? b = some o) → tn i h'
  item : ∀ (X : Cx), X.prog = P → X.w = w → X.K = K → ∀ (A : Around), A.handled = none → ∀ (i : Nat) (pins : List (Addr × Obj)) (s : Shared) (σ : L2.St) (H : Hp) (E : Value → Shared → Prop), Inv X pins σ H s → (∀ b ∈ fp, FpOk X pins H b) → tn i s.heap → J.go i H →
    wpAny (model P w) A (Builtin.SmallTypes.nextOf (.ref it)) (fun u s2 => ∃ x H', Inv X pins σ H' s2 ∧ RelV x u ∧ J.yld i H x H' ∧ tn (i + 1) s2.heap ∧ ∀ b ∈ fp, H' b = none) E s
  done : ∀ (X : Cx), X.prog = P → X.w = w → X.K = K → ∀ (A : Around), A.handled = none → ∀ (i : Nat) (pins : List (Addr × Obj)) (s : Shared) (σ : L2.St) (H : Hp) (Q : Value → Shared → Prop), Inv X pins σ H s → (∀ b ∈ fp, FpOk X pins H b) → tn i s.heap → J.stop i H →
    wpAny (model P w) A (Builtin.SmallTypes.nextOf (.ref it)) Q (fun e s1 => (∃ b o, e = .ref b ∧ s1.heap.get? b = some o ∧ o.cls = .type "StopIteration") ∧ Inv X pins σ H s1) s
def JKd (K : PySem.W.Frag) (k : Kd) : It :=
  ⟨fun i H => ∃ (xs : List V) (x : V), k.sq K H xs ∧ xs[i]? = some x, fun i H v H' => H' = H ∧ ∀ xs, k.sq K H xs → xs[i]? = some v, fun i H => k.sq K H [] ∧ i = 0 ∨ ∃ xs, k.sq K H xs ∧ xs.length = i⟩
theorem inner_kd {P : Program} {w : World} {K : PySem.W.Frag} (k : Kd) (it : Addr) (ha : k.away it) : Inner P w K (JKd K k) [it] it (fun i h => k.at h it i) where
  mem := by simp
  obj := fun i h st b hb => by
    have e : b = it := by simpa using hb
    subst e; exact Kd.at_get st
  keep := fun i h h' st q => Kd.at_keep st fun o e => q it (by simp) o e
  item := by
    intro X hP hw hK A hh i pins s σ H E I hf st hg
    subst hP hw hK
    obtain ⟨xs, x, hq, hx⟩ := hg
    obtain ⟨fp, Pv, St, D, hm, _, h1, h2, h3⟩ := Kd.draws I hq ha hh
    have hlt : i < xs.length := (List.getElem?_eq_some_iff.mp hx).1
    refine D.item i s _ _ hlt (h1 i st) fun u h' tk hP st' sb => ?_
    obtain ⟨y, hy, ry⟩ := h3 i u hP
    obtain ⟨f0, f1, f2, f3, f4, f5⟩ := hf it (by simp)
    exact ⟨y, H, I.turned (fun b o hb e => sb.extBut b o hb e) f0 f1 f3 f4 f5, ry, ⟨rfl, fun l hl => by rw [Kd.sq_inj I hl hq]; exact hy⟩, h2 _ _ st', fun b hb => (hf b hb).1⟩
  done := by
    intro X hP hw hK A hh i pins s σ H Q I hf st hg
    subst hP hw hK
    obtain ⟨xs, hq, hx⟩ : ∃ xs, k.sq X.K H xs ∧ xs.length = i := by
      rcases hg with ⟨q, e⟩ | q
      · exact ⟨[], q, e.symm⟩
      · exact q
    obtain ⟨fp, Pv, St, D, hm, _, h1, h2, h3⟩ := Kd.draws I hq ha hh
    subst hx
    refine D.done s _ _ (h1 _ st) fun h' e eb he => ?_
    obtain ⟨o, ho, hc⟩ := he
    obtain ⟨f0, f1, f2, f3, f4, f5⟩ := hf it (by simp)
    exact ⟨⟨e, o, rfl, ho, hc⟩, I.turned (t' := s.toks) (fun b o hb q => eb b o hb q) f0 f1 f3 f4 f5⟩

/-! ### zip of two -/
def JZip (K : PySem.W.Frag) (k1 k2 : Kd) : It :=
  ⟨fun i H => ∃ (xs ys : List V) (x y : V), k1.sq K H xs ∧ k2.sq K H ys ∧ xs[i]? = some x ∧ ys[i]? = some y,
    fun i H v H' => ∃ T x y, v = .ref T ∧ H T = none ∧ H' = upd H T (.tup [x, y]) ∧ (∀ xs, k1.sq K H xs → xs[i]? = some x) ∧ ∀ ys, k2.sq K H ys → ys[i]? = some y,
    fun i H => ∃ xs ys : List V, k1.sq K H xs ∧ k2.sq K H ys ∧ i = min xs.length ys.length⟩
structure ZApart (z TI TO i1 i2 : Addr) (k1 k2 : Kd) : Prop where
  TIz : TI ≠ z
  TOz : TO ≠ z
  i1z : i1 ≠ z
  i2z : i2 ≠ z
  TITO : TI ≠ TO
  TIi1 : TI ≠ i1
  TIi2 : TI ≠ i2
  TOi1 : TO ≠ i1
  TOi2 : TO ≠ i2
  i12 : i1 ≠ i2
  a1 : ∀ c, c = z ∨ c = TI ∨ c = TO ∨ c = i1 ∨ c = i2 → k1.away c
  a2 : ∀ c, c = z ∨ c = TI ∨ c = TO ∨ c = i1 ∨ c = i2 → k2.away c
theorem ZApart.sep {z TI TO i1 i2 : Addr} {k1 k2 : Kd} (D : ZApart z TI TO i1 i2 k1 k2) {fp1 fp2 : List Addr} (m1 : i1 ∈ fp1) (m2 : i2 ∈ fp2) (h1 : ∀ c ∈ fp1, c = i1 ∨ ¬ k1.away c) (h2 : ∀ c ∈ fp2, c = i2 ∨ ¬ k2.away c) : ZipSep2 z TI TO i1 i2 fp1 fp2 where
  TIz := D.TIz
  TOz := D.TOz
  TITO := D.TITO
  TIi1 := D.TIi1
  mem1 := m1
  zf1 := fun q => (h1 _ q).elim (fun e => D.i1z e.symm) fun e => e (D.a1 _ (by simp))
  Tf1 := fun q => (h1 _ q).elim (fun e => D.TOi1 e) fun e => e (D.a1 _ (by simp))
  TIi2 := D.TIi2
  mem2 := m2
  zf2 := fun q => (h2 _ q).elim (fun e => D.i2z e.symm) fun e => e (D.a2 _ (by simp))
  Tf2 := fun q => (h2 _ q).elim (fun e => D.TOi2 e) fun e => e (D.a2 _ (by simp))
  sep1_2 := fun q => (h2 _ q).elim (fun e => D.i12 e) fun e => e (D.a2 _ (by simp))
  sep2_1 := fun q => (h1 _ q).elim (fun e => D.i12 e.symm) fun e => e (D.a1 _ (by simp))
def ZTn (z TI TO i1 i2 : Addr) (k1 k2 : Kd) (i : Nat) (h : Heap) : Prop := ZipSt h z TI TO ∧ IsTupOf2 h TI (.ref i1) (.ref i2) ∧ (∃ x y, IsTupOf2 h TO x y) ∧ k1.at h i1 i ∧ k2.at h i2 i
section
variable {z TI TO i1 i2 : Addr} {k1 k2 : Kd}
theorem ZTn.obj {i : Nat} {h : Heap} (st : ZTn z TI TO i1 i2 k1 k2 i h) (c : Addr) (hc : c ∈ [z, TI, TO, i1, i2]) : ∃ o, h.get? c = some o ∧ ∀ v, o.data ≠ .cell v := by
  obtain ⟨⟨f0, f1, _, hz⟩, hTI, ⟨x, y, hTO⟩, h1, h2⟩ := st
  have e' : c = z ∨ c = TI ∨ c = TO ∨ c = i1 ∨ c = i2 := by simpa using hc
  rcases e' with q | q | q | q | q
  · rw [q]; exact ⟨_, hz, fun v q => nomatch q⟩
  · rw [q]; exact ⟨_, hTI, fun v q => nomatch q⟩
  · rw [q]; exact ⟨_, hTO, fun v q => nomatch q⟩
  · rw [q]; exact Kd.at_get h1
  · rw [q]; exact Kd.at_get h2
theorem ZTn.keep {i : Nat} {h h' : Heap} (st : ZTn z TI TO i1 i2 k1 k2 i h) (k : ∀ b ∈ [z, TI, TO, i1, i2], ∀ o, h.get? b = some o → h'.get? b = some o) : ZTn z TI TO i1 i2 k1 k2 i h' := by
  obtain ⟨⟨f0, f1, h0, hz⟩, hTI, ⟨x, y, hTO⟩, h1, h2⟩ := st
  exact ⟨⟨f0, f1, h0, k z (by simp) _ hz⟩, k TI (by simp) _ hTI, ⟨x, y, k TO (by simp) _ hTO⟩, Kd.at_keep h1 fun o q => k i1 (by simp) o q, Kd.at_keep h2 fun o q => k i2 (by simp) o q⟩
/-- the builtin's next -/
theorem ztn_item (D : ZApart z TI TO i1 i2 k1 k2) {X : Cx} {A : Around} (hh : A.handled = none) {i : Nat} {pins : List (Addr × Obj)} {s : Shared} {σ : L2.St} {H : Hp} {E : Value → Shared → Prop} (I : Inv X pins σ H s)
    (hf : ∀ b ∈ [z, TI, TO, i1, i2], FpOk X pins H b) (st : ZTn z TI TO i1 i2 k1 k2 i s.heap) (hg : (JZip X.K k1 k2).go i H) {Q : Value → Shared → Prop}
    (hQ : ∀ h' tk x y u u2, ZTn z TI TO i1 i2 k1 k2 (i + 1) h' → RelV x u → RelV y u2 → IsTupOf2 h' s.heap.objs.size u u2 → (∀ c o, c ∉ [z, TI, TO, i1, i2] → s.heap.get? c = some o → h'.get? c = some o) →
      (JZip X.K k1 k2).yld i H (.ref s.heap.objs.size) (upd H s.heap.objs.size (.tup [x, y])) → (∀ b ∈ [z, TI, TO, i1, i2], b < s.heap.objs.size) → Q (.ref s.heap.objs.size) { s with heap := h', toks := tk }) :
    wpAny (model X.prog X.w) A (Builtin.«zip.__next__» ⟨[.ref z], []⟩) (fun fin s' => ∃ v, fin = .done (.ret v) ∧ Q v s') E s := by
  have hlt : ∀ b ∈ [z, TI, TO, i1, i2], b < s.heap.objs.size := fun b hb => by obtain ⟨o, ho, _⟩ := st.obj b hb; exact Heap.lt_size ho
  obtain ⟨hz, hTI, ⟨x0, y0, hTO⟩, h1, h2⟩ := st
  obtain ⟨xs, ys, x, y, hqx, hqy, hx, hy⟩ := hg
  obtain ⟨fp1, P1, St1, D1, m1, g1, e1, o1, r1⟩ := Kd.draws I hqx (D.a1 i1 (by simp)) hh
  obtain ⟨fp2, P2, St2, D2, m2, g2, e2, o2, r2⟩ := Kd.draws I hqy (D.a2 i2 (by simp)) hh
  refine zipA_next_item (D.sep m1 m2 g1 g2) D1 D2 hz hTI hTO (e1 i h1) (e2 i h2) (List.getElem?_eq_some_iff.mp hx).1 (List.getElem?_eq_some_iff.mp hy).1 fun u u2 h' tk q1 q2 z' hTO' s1 s2 hT hsz hk => ?_
  obtain ⟨x', hx', rx⟩ := r1 i u q1
  obtain ⟨y', hy', ry⟩ := r2 i u2 q2
  refine hQ h' tk x' y' u u2 ⟨z', hk _ _ D.TIz D.TITO D.TIi1 D.TIi2 hTI, hTO', o1 _ _ s1, o2 _ _ s2⟩ rx ry hT (fun c o hc => hk c o (fun q => hc (by simp [q])) (fun q => hc (by simp [q])) (fun q => hc (by simp [q])) (fun q => hc (by simp [q]))) ?_ hlt
  exact ⟨_, x', y', rfl, I.hok.fresh (Nat.le_refl _), rfl, fun l hl => by rw [Kd.sq_inj I hl hqx]; exact hx', fun l hl => by rw [Kd.sq_inj I hl hqy]; exact hy'⟩
theorem ztn_done (D : ZApart z TI TO i1 i2 k1 k2) {X : Cx} {A : Around} (hh : A.handled = none) {i : Nat} {pins : List (Addr × Obj)} {s : Shared} {σ : L2.St} {H : Hp} {E : Value → Shared → Prop} (I : Inv X pins σ H s)
    (hf : ∀ b ∈ [z, TI, TO, i1, i2], FpOk X pins H b) (st : ZTn z TI TO i1 i2 k1 k2 i s.heap) (hg : (JZip X.K k1 k2).stop i H) {Q : PySem.Fin → Shared → Prop}
    (hE : ∀ e h' tk o, h'.get? e = some o → o.cls = .type "StopIteration" → Inv X pins σ H { s with heap := h', toks := tk } → E (.ref e) { s with heap := h', toks := tk }) :
    wpAny (model X.prog X.w) A (Builtin.«zip.__next__» ⟨[.ref z], []⟩) Q E s := by
  obtain ⟨hz, hTI, ⟨x0, y0, hTO⟩, h1, h2⟩ := st
  obtain ⟨xs, ys, hqx, hqy, he⟩ := hg
  obtain ⟨fp1, P1, St1, D1, m1, g1, e1, o1, r1⟩ := Kd.draws I hqx (D.a1 i1 (by simp)) hh
  obtain ⟨fp2, P2, St2, D2, m2, g2, e2, o2, r2⟩ := Kd.draws I hqy (D.a2 i2 (by simp)) hh
  refine zipA_next_end (D.sep m1 m2 g1 g2) D1 D2 hz hTI hTO (e1 i h1) (e2 i h2) (by omega) (by omega) (by omega) fun h' tk e hk hs => ?_
  obtain ⟨o, ho, hc⟩ := hs
  exact hE e h' tk o ho hc (I.turnedL (ch := [z, TI, TO, i1, i2]) (fun c o hb q => hk c o (fun q' => hb (by simp [q'])) (fun q' => hb (by simp [q'])) (fun q' => hb (by simp [q'])) (fun q' => hb (by simp [q'])) q) hf)
theorem inner_zip {P : Program} {w : World} {K : PySem.W.Frag} (D : ZApart z TI TO i1 i2 k1 k2) : Inner P w K (JZip K k1 k2) [z, TI, TO, i1, i2] z (ZTn z TI TO i1 i2 k1 k2) where
  mem := by simp
  obj := fun i h st c hc => st.obj c hc
  keep := fun i h h' st k => st.keep k
  item := by
    intro X hP hw hK A hh i pins s σ H E I hf st hg
    subst hP hw hK
    have hT : s.TypeIs (.ref z) "zip" := by obtain ⟨⟨f0, f1, _, hz⟩, _⟩ := st; exact ⟨_, hz, rfl⟩
    unfold Builtin.SmallTypes.nextOf
    refine wpAny_bind (wpAny_callSpecial?_slot (name := Str.ofString "__next__") hT F.slot_zip_next
      (wpAny_call_entry F.slot_zip_next hT F.entry_zip_next (ztn_item (A := A.in1) D hh I hf st hg fun h' tk x y u u2 st' rx ry hT hk hy hlt => wpAny_pure ?_) (F.args_zip_next_1 _)))
    have new : ObjOk X.prog X.w (upd H s.heap.objs.size (.tup [x, y])) h' s.heap.objs.size (.tup [x, y]) :=
      ⟨by show 2 ≤ sizeLine; decide, [u, u2], .cons rx (.cons ry .nil), ⟨_, hT, rfl, _, rfl⟩⟩
    refine ⟨.ref s.heap.objs.size, _, I.turnedNew (ch := [z, TI, TO, i1, i2]) hk hf (Nat.le_refl _) new, rfl, hy, st', fun c hcm => ?_⟩
    rw [upd_ne (Nat.ne_of_lt (hlt c hcm))]
    exact (hf c hcm).1
  done := by
    intro X hP hw hK A hh i pins s σ H Q I hf st hg
    subst hP hw hK
    have hT : s.TypeIs (.ref z) "zip" := by obtain ⟨⟨f0, f1, _, hz⟩, _⟩ := st; exact ⟨_, hz, rfl⟩
    unfold Builtin.SmallTypes.nextOf
    refine wpAny_bind (wpAny_callSpecial?_slot (name := Str.ofString "__next__") hT F.slot_zip_next
      (wpAny_call_entry F.slot_zip_next hT F.entry_zip_next (ztn_done (A := A.in1) D hh I hf st hg fun e h' tk o ho hc I' => ?_) (F.args_zip_next_1 _)))
    exact ⟨⟨e, o, rfl, ho, hc⟩, I'⟩
end

theorem letGo_zipS {prog : Program} {w : World} {A : Around} {E : Value → Shared → Prop} {s : Shared} {z TI TO : Addr} {tg : Expr} {v : Value} {Q : Unit → Shared → Prop} (hz : ZipSt s.heap z TI TO)
    (hQ : ∀ h', ZipSt h' z TI TO → Heap.SameBut z s.heap h' → Q () { s with heap := h' }) : wpAny (model prog w) A (letOwnedTupleGo tg (.ref z) v) Q E s := by
  have q0 : Q () s := hQ s.heap hz ⟨rfl, fun _ _ => rfl⟩
  obtain ⟨f0, f1, h0, hz⟩ := hz
  unfold letOwnedTupleGo
  cases tg <;> first
    | exact wpAny_pure q0
    | (cases v <;> first
        | exact wpAny_pure q0
        | (refine wpAny_bind (wpAny_load hz ?_)
           dsimp only
           split
           · refine wpAny_bind (wpAny_rule ?_)
             exact wpAny_setField_rec hz (by simp) fun h' he' hs' => hQ h' ⟨.none, f1, .inl rfl, he'⟩ hs'
           · exact wpAny_pure q0))
theorem turn_zipS {P : Program} {w : World} {K : PySem.W.Frag} {tg : Expr} {z TI TO i1 i2 : Addr} {k1 k2 : Kd} (D : ZApart z TI TO i1 i2 k1 k2) : Turn P w K tg (JZip K k1 k2) [z, TI, TO, i1, i2] z (ZTn z TI TO i1 i2 k1 k2) where
  mem := by simp
  obj := fun i h st c hc => st.obj c hc
  keep := fun i h h' st k => st.keep k
  item := by
    intro X hP hw hK hc i pins s σ H E I hf st hg
    subst hP hw hK
    have hT : s.TypeIs (.ref z) "zip" := by obtain ⟨⟨f0, f1, _, hz⟩, _⟩ := st; exact ⟨_, hz, rfl⟩
    unfold pyNext
    refine wpAny_bind (wpAny_attempt (wpAny_callSpecial?_slot (name := Str.ofString "__next__") hT F.slot_zip_next
      (wpAny_call_entry F.slot_zip_next hT F.entry_zip_next (ztn_item (A := X.A.in1) D (I.ok.hd hc) I hf st hg fun h' tk x y u u2 st' rx ry hT hk hy hlt => wpAny_pure ?_) (F.args_zip_next_1 _))))
    obtain ⟨z', sTI, sTO, s1, s2⟩ := id st'
    refine ⟨_, rfl, letGo_zipS (s := { s with heap := h', toks := tk }) z' fun h'' z'' sb => ?_⟩
    replace sb : Heap.SameBut z h' h'' := sb
    have hT2 : IsTupOf2 h'' s.heap.objs.size u u2 := (sb.2 _ (Nat.ne_of_gt (hlt z (by simp)))).trans hT
    have new : ObjOk X.prog X.w (upd H s.heap.objs.size (.tup [x, y])) h'' s.heap.objs.size (.tup [x, y]) :=
      ⟨by show 2 ≤ sizeLine; decide, [u, u2], .cons rx (.cons ry .nil), ⟨_, hT2, rfl, _, rfl⟩⟩
    obtain ⟨x0, y0, sTO⟩ := sTO
    refine ⟨.ref s.heap.objs.size, _, I.turnedNew (ch := [z, TI, TO, i1, i2]) (fun c o hc q => (sb.2 c (fun q' => hc (by simp [q']))).trans (hk c o hc q)) hf (Nat.le_refl _) new, rfl, hy,
      ⟨z'', (sb.2 _ D.TIz).trans sTI, ⟨x0, y0, (sb.2 _ D.TOz).trans sTO⟩, Kd.at_keep s1 fun o q => (sb.2 _ D.i1z).trans q, Kd.at_keep s2 fun o q => (sb.2 _ D.i2z).trans q⟩, fun c hcm => ?_⟩
    rw [upd_ne (Nat.ne_of_lt (hlt c hcm))]
    exact (hf c hcm).1
  done := by
    intro X hP hw hK hc i pins s σ H E I hf st hg
    subst hP hw hK
    have hT : s.TypeIs (.ref z) "zip" := by obtain ⟨⟨f0, f1, _, hz⟩, _⟩ := st; exact ⟨_, hz, rfl⟩
    unfold pyNext
    refine wpAny_bind (wpAny_attempt (wpAny_callSpecial?_slot (name := Str.ofString "__next__") hT F.slot_zip_next
      (wpAny_call_entry F.slot_zip_next hT F.entry_zip_next (ztn_done (A := X.A.in1) D (I.ok.hd hc) I hf st hg fun e h' tk o ho hc I' => ?_) (F.args_zip_next_1 _))))
    refine wpAny_bind (wpAny_isInstance (T := "StopIteration") (b := true) ⟨o, ho, hc⟩ isSubtype_stop ?_)
    exact wpAny_pure ⟨rfl, I'⟩
  self := fun A i s Q E st h => by
    obtain ⟨⟨f0, f1, _, hz⟩, _⟩ := st
    have hT : s.TypeIs (.ref z) "zip" := ⟨_, hz, rfl⟩
    refine wpAny_pyIter_slot hT F.slot_zip_iter (wpAny_call_entry F.slot_zip_iter hT F.entry_zip_iter ?_ (F.args_zip_iter_1 _))
    show wpAny _ _ (ret (.ref z)) _ _ s
    exact wpAny_pure ⟨_, rfl, "zip", _, hT, F.slot_zip_next.lookup, h⟩

/-! ### enumerate of an iterator -/
def JEnum (J : It) : It := ⟨J.go, fun i H v H' => ∃ T x H1, v = .ref T ∧ J.yld i H x H1 ∧ H1 T = none ∧ H' = upd H1 T (.tup [.int (i : Nat), x]), J.stop⟩
theorem fpOk_pin {X : Cx} {pins : List (Addr × Obj)} {H : Hp} {b e : Addr} {o : Obj} (h : FpOk X pins H b) (hne : e ≠ b) : FpOk X ((e, o) :: pins) H b := by
  obtain ⟨f0, f1, f2, f3, f4, f5⟩ := h
  refine ⟨f0, f1, f2, f3, f4, fun p hp => ?_⟩
  rcases List.mem_append.mp hp with z | z
  · exact f5 p (List.mem_append_left _ z)
  · rcases List.mem_cons.mp z with z | z
    · rw [z]; exact hne
    · exact f5 p (List.mem_append_right _ z)
theorem turn_enumA {P : Program} {w : World} {K : PySem.W.Frag} {elts : List Expr} {kk : Nat} {tpos : Pos} {J : It} {fp : List Addr} {e it : Addr} {tn : Nat → Heap → Prop} (N : Inner P w K J fp it tn) (hef : e ∉ fp) :
    Turn P w K (.Tuple elts kk tpos) (JEnum J) (e :: fp) e (fun i h => (∃ old, IsEnum h e it ((i : Nat) : Int) old) ∧ tn i h) where
  mem := by simp
  obj := fun i h st b hb => by
    obtain ⟨⟨old, he⟩, st⟩ := st
    rcases List.mem_cons.mp hb with z | z
    · rw [z]; exact ⟨_, he, fun v q => nomatch q⟩
    · exact N.obj i h st b z
  keep := fun i h h' st k => let ⟨⟨old, he⟩, hi⟩ := st; ⟨⟨old, k e (by simp) _ he⟩, N.keep i h h' hi fun b hb o q => k b (List.mem_cons_of_mem _ hb) o q⟩
  item := by
    intro X hP hw hK hc i pins s σ H E I hf st hg
    obtain ⟨⟨old, he⟩, st⟩ := st
    have hT : s.TypeIs (.ref e) "enumerate" := ⟨_, he, rfl⟩
    have fe := hf e (by simp)
    have I0 : Inv X ((e, _) :: pins) σ H s := I.pins_of fun p hp => by
      rcases List.mem_cons.mp hp with z | z
      · rw [z]; exact ⟨he, fe.1, fe.2.1, fe.2.2.1, fun v q => nomatch q⟩
      · exact I.pin p (List.mem_append_right _ z)
    unfold pyNext
    refine wpAny_bind (wpAny_attempt (wpAny_callSpecial?_slot (name := Str.ofString "__next__") hT F.slot_enumerate_next
      (wpAny_call_entry F.slot_enumerate_next hT F.entry_enumerate_next ?_ (F.args_enumerate_next_1 _))))
    show wpAny _ _ (field (.ref e) 2 >>= _) _ _ _
    refine wpAny_bind (wpAny_field he rfl (x := .ref it) rfl ?_)
    refine wpAny_bind (wpAny_mono (N.item X hP hw hK X.A.in1 (I.ok.hd hc) i ((e, _) :: pins) s σ H (fun _ _ => False) I0 (fun b hb => fpOk_pin (hf b (List.mem_cons_of_mem _ hb)) fun q => hef (q ▸ hb)) st hg) ?_ fun _ _ q => q.elim)
    rintro u s1 ⟨x, H1, I1, rx, yx, st1, hn1⟩
    subst hP hw hK
    obtain ⟨h₁, g, d, tk, os⟩ := s1
    have he₁ : IsEnum h₁ e it ((i : Nat) : Int) old := (I1.pin (e, _) (List.mem_append_right _ List.mem_cons_self)).1
    show wpAny _ _ (field (.ref e) 3 >>= _) _ _ ⟨h₁, g, d, tk, os⟩
    refine wpAny_bind (wpAny_field he₁ rfl (x := rawInt i) rfl ?_)
    show wpAny _ _ (field (.ref e) 4 >>= _) _ _ ⟨h₁, g, d, tk, os⟩
    refine wpAny_bind (wpAny_field he₁ rfl (x := .none) rfl ?_)
    show wpAny _ _ (mkInt i >>= _) _ _ ⟨h₁, g, d, tk, os⟩
    refine wpAny_bind (wpAny_mkInt ?_)
    show wpAny _ _ (setField (.ref e) 3 (rawInt ((i : Int) + 1)) >>= _) _ _ ⟨h₁, g, d, tk + 1, os⟩
    refine wpAny_bind (wpAny_setField_rec he₁ (by simp) fun h₂ he₂ hs₂ => ?_)
    replace hs₂ : Heap.SameBut e h₁ h₂ := hs₂
    replace he₂ : IsEnum h₂ e it ((i : Int) + 1) old := he₂
    show wpAny _ _ (setField (.ref e) 4 .none >>= _) _ _ ⟨h₂, g, d, tk + 1, os⟩
    refine wpAny_bind (wpAny_setField_rec he₂ (by simp) fun h₃ he₃ hs₃ => ?_)
    replace hs₃ : Heap.SameBut e h₂ h₃ := hs₃
    replace he₃ : IsEnum h₃ e it ((i : Int) + 1) old := he₃
    show wpAny _ _ (newTuple [.int i tk, u] >>= _) _ _ ⟨h₃, g, d, tk + 1, os⟩
    refine wpAny_bind (wpAny_newTuple ?_)
    have he₄ : IsEnum (h₃.push { cls := .type "tuple", data := .seq #[.int i tk, u] }) e it ((i : Int) + 1) old := Heap.get?_push_of_some _ he₃
    generalize hh₄ : h₃.push { cls := .type "tuple", data := .seq #[.int i tk, u] } = h₄ at he₄
    have hsz : h₃.objs.size = h₁.objs.size := by rw [hs₃.1, hs₂.1]
    have hel : e < h₁.objs.size := Heap.lt_size he₁
    have ht₄ : h₄.get? h₁.objs.size = some { cls := .type "tuple", data := .seq #[.int i tk, u] } := by rw [← hh₄, ← hsz]; exact Heap.get?_push_size _ rfl
    have hk₄ : ∀ b o, b ≠ e → h₁.get? b = some o → h₄.get? b = some o := fun b o hbe hb => by
      rw [← hh₄]; exact Heap.get?_push_of_some _ (hs₃.extBut b o hbe (hs₂.extBut b o hbe hb))
    show wpAny _ _ (Builtin.SmallTypes.ownedTupleIsFree (.ref e) >>= _) _ _ ⟨h₄, g, d, tk + 1, os⟩
    rw [hsz]
    clear hh₄ he₃ hs₃ he₂ hs₂ hsz h₃ h₂
    refine wpAny_bind ?_
    unfold Builtin.SmallTypes.ownedTupleIsFree
    refine wpAny_bind (wpAny_field he₄ rfl (x := .none) rfl (wpAny_pure ?_))
    simp only [if_true]
    refine wpAny_bind (wpAny_rule ?_)
    refine wpAny_bind (wpAny_field he₄ rfl (x := old) rfl ?_)
    refine wpAny_bind (wpAny_setField_rec he₄ (by simp) fun h₅ he₅ hs₅ => ?_)
    replace hs₅ : Heap.SameBut e h₄ h₅ := hs₅
    replace he₅ : IsEnum h₅ e it ((i : Int) + 1) u := he₅
    show wpAny _ _ (Builtin.SmallTypes.ownedTupleHandOut (.ref e) (.ref h₁.objs.size) >>= _) _ _ ⟨h₅, g, d, tk + 1, os⟩
    refine wpAny_bind ?_
    unfold Builtin.SmallTypes.ownedTupleHandOut
    refine wpAny_bind (wpAny_setField_rec he₅ (by simp) fun h₆ he₆ hs₆ => ?_)
    replace hs₆ : Heap.SameBut e h₅ h₆ := hs₆
    replace he₆ : IsEnumOut h₆ e it ((i : Int) + 1) u h₁.objs.size := he₆
    refine wpAny_setField_rec he₆ (by simp) fun h₇ he₇ hs₇ => ?_
    replace hs₇ : Heap.SameBut e h₆ h₇ := hs₇
    replace he₇ : IsEnumOut h₇ e it ((i : Int) + 1) u h₁.objs.size := he₇
    refine wpAny_bind (wpAny_letGo (wpAny_pure ⟨_, rfl, wpAny_pure ?_⟩))
    refine ⟨_, rfl, wpAny_letOwnedTupleGo_enum (s := ⟨h₇, g, d, tk + 1, os⟩) he₇ fun h₈ he₈ hs₈ => ?_⟩
    replace hs₈ : Heap.SameBut e h₇ h₈ := hs₈
    have up : ∀ b o, b ≠ e → h₄.get? b = some o → h₈.get? b = some o := fun b o hbe y => hs₈.extBut b o hbe (hs₇.extBut b o hbe (hs₆.extBut b o hbe (hs₅.extBut b o hbe y)))
    have hT8 := up _ _ (Nat.ne_of_gt hel) ht₄
    have new : ObjOk X.prog X.w (upd H1 h₁.objs.size (.tup [.int (i : Nat), x])) h₈ h₁.objs.size (.tup [.int (i : Nat), x]) :=
      ⟨by show 2 ≤ sizeLine; decide, [.int i tk, u], .cons ⟨_, rfl⟩ (.cons rx .nil), ⟨_, hT8, rfl, _, rfl⟩⟩
    have I1' : Inv X pins σ H1 ⟨h₁, g, d, tk, os⟩ := I1.pins_of fun p hp => I1.pin p (List.mem_append_right _ (List.mem_cons_of_mem _ hp))
    have fe1 : FpOk X pins H1 e := ⟨(I1.pin (e, _) (List.mem_append_right _ List.mem_cons_self)).2.1, fe.2⟩
    have I2 := I1'.turnedNew (t' := tk + 1) (ch := [e]) (T := h₁.objs.size) (h' := h₈) (fun b o hb y => up b o (by simpa using hb) (hk₄ b o (by simpa using hb) y)) (fun b hb => by rw [List.mem_singleton.mp hb]; exact fe1) (Nat.le_refl _) new
    refine ⟨.ref h₁.objs.size, _, I2, rfl, ⟨_, x, H1, rfl, yx, I1.hok.fresh (Nat.le_refl _), rfl⟩, ⟨⟨u, ?_⟩, N.keep _ h₁ h₈ st1 fun b hb o y => ?_⟩, fun b hb => ?_⟩
    · have e1 : ((i + 1 : Nat) : Int) = (i : Int) + 1 := by omega
      rw [e1]; exact he₈
    · have hbe : b ≠ e := fun q => hef (q ▸ hb)
      exact up b o hbe (hk₄ b o hbe y)
    · rcases List.mem_cons.mp hb with z | z
      · rw [z, upd_ne (Nat.ne_of_lt hel)]; exact fe1.1
      · obtain ⟨o, ho, _⟩ := N.obj _ _ st1 b z
        rw [upd_ne (Nat.ne_of_lt (Heap.lt_size ho))]; exact hn1 b z
  done := by
    intro X hP hw hK hc i pins s σ H E I hf st hg
    obtain ⟨⟨old, he⟩, st⟩ := st
    have hT : s.TypeIs (.ref e) "enumerate" := ⟨_, he, rfl⟩
    unfold pyNext
    refine wpAny_bind (wpAny_attempt (wpAny_callSpecial?_slot (name := Str.ofString "__next__") hT F.slot_enumerate_next
      (wpAny_call_entry F.slot_enumerate_next hT F.entry_enumerate_next ?_ (F.args_enumerate_next_1 _))))
    show wpAny _ _ (field (.ref e) 2 >>= _) _ _ _
    refine wpAny_bind (wpAny_field he rfl (x := .ref it) rfl ?_)
    refine wpAny_bind (wpAny_mono (N.done X hP hw hK X.A.in1 (I.ok.hd hc) i pins s σ H (fun _ _ => False) I (fun b hb => hf b (List.mem_cons_of_mem _ hb)) st hg) (fun _ _ q => q.elim) fun v s1 q => ?_)
    obtain ⟨⟨b, o, rfl, ho, hc⟩, I1⟩ := q
    refine wpAny_bind (wpAny_isInstance (T := "StopIteration") (b := true) ⟨o, ho, hc⟩ isSubtype_stop ?_)
    exact wpAny_pure ⟨rfl, I1⟩
  self := fun A i s Q E st h => let ⟨⟨_, he⟩, _⟩ := st; wpAny_pyIter_enum he h
end U

namespace PySem
open Sem (wp)
theorem meets_enum_newG (v : Value) (C : Heap → Prop) (it : Heap → Addr) (nh : Heap → Heap)
    (hi : ∀ (prog : Program) (w : World) (A : Around) (E : Value → Shared → Prop) (s : Shared) (Q : Value → Shared → Prop), C s.heap → Q (.ref (it s.heap)) { s with heap := nh s.heap } → wpAny (model prog w) A (pyIter v) Q E s) :
    Meets (Builtin.«enumerate.__new__» ⟨[.type "enumerate", v], []⟩) (fun _ R s => C s.heap ∧
      R (.ok (.ret (.ref (nh s.heap).objs.size))) { s with heap := (nh s.heap).push { cls := .type "enumerate", data := .fields #[.none, .bool false, .ref (it s.heap), rawInt 0, .none, .none] } }) :=
  .of_wp fun prog w A R s h => by
    obtain ⟨hp, g, d, tk, os⟩ := s; obtain ⟨hl, h⟩ := h
    have hsub := sub_enumerate
    have hI : ∀ (A : Around) (E : Value → Shared → Prop) (Q : Value → Shared → Prop), Q (.ref (it hp)) ⟨nh hp, g, d, tk, os⟩ → wpAny (model prog w) A (pyIter v) Q E ⟨hp, g, d, tk, os⟩ := fun A E Q q => hi prog w A E ⟨hp, g, d, tk, os⟩ Q hl q
    wp_walk
    refine wpAny_stack_any fun st => wpAny_pure ?_
    split
    · rename_i c _ _ _ _ _
      cases (c == Value.type "enumerate")
      · wp_walk using hI
        exact ⟨_, rfl, h⟩
      · wp_walk using hI
        exact ⟨_, rfl, h⟩
    · wp_walk using hI
      exact ⟨_, rfl, h⟩
theorem call_enumG {prog : Program} {w : World} {A : Around} {E : Value → Shared → Prop} {s : Shared} {v : Value} {C : Heap → Prop} {it : Heap → Addr} {nh : Heap → Heap} {Q : Value → Shared → Prop}
    (hi : ∀ (prog : Program) (w : World) (A : Around) (E : Value → Shared → Prop) (s : Shared) (Q : Value → Shared → Prop), C s.heap → Q (.ref (it s.heap)) { s with heap := nh s.heap } → wpAny (model prog w) A (pyIter v) Q E s)
    (hC : C s.heap) (h : ∀ h', IsEnum h' (nh s.heap).objs.size (it s.heap) 0 .none → (∀ b o, (nh s.heap).get? b = some o → h'.get? b = some o) → Q (.ref (nh s.heap).objs.size) { s with heap := h' }) :
    wpAny (model prog w) A (call (.type "enumerate") [v]) Q E s := by
  refine callType_new F.called_enumerate (by decide) (F.typeCall_enumerate_1 _) (F.newCall_enumerate_1 _) (fun obj => F.args_object_init_2 obj _) F.entry_enumerate_new
    (meets_enum_newG v C it nh hi) ⟨hC, ?_⟩
  show _ ∧ _
  have he : IsEnum ((nh s.heap).push { cls := .type "enumerate", data := .fields #[.none, .bool false, .ref (it s.heap), rawInt 0, .none, .none] }) (nh s.heap).objs.size (it s.heap) 0 .none := Heap.get?_push_size _ rfl
  exact ⟨⟨_, he, rfl⟩, h _ he fun b o x => Heap.get?_push_of_some _ x⟩
end PySem
namespace U
open PySem PySem.Spec PyProof.Rows L2
def kdOf (K : PySem.W.Frag) (H : Hp) (a : Addr) : Option Kd := match rdL K H a with
  | some _ => some (.l a)
  | none => match rdT K H a with
    | some _ => some (.t a)
    | none => none
theorem kdOf_sq {K : PySem.W.Frag} {H : Hp} {a : Addr} {k : Kd} (h : kdOf K H a = some k) : k.u = .ref a ∧ k.v = .ref a ∧ ∃ xs, k.sq K H xs := by
  unfold kdOf at h
  split at h
  · rename_i xs e; cases h; exact ⟨rfl, rfl, xs, rdL_sq e⟩
  · split at h
    · rename_i xs e; cases h; exact ⟨rfl, rfl, xs, rdT_sq e⟩
    · cases h
def uZip (K : PySem.W.Frag) (ta : TA) : TI := fun σ H R => ta σ H fun vs H1 => match vs with
  | [.ref a, .ref b] => oK (kdOf K H1 a) fun k1 => oK (kdOf K H1 b) fun k2 => R (JZip K k1 k2) H1
  | _ => False
def uEnum (K : PySem.W.Frag) (ta : TA) : TI := fun σ H R => ta σ H fun vs H1 => match vs with
  | [.ref a] => oK (kdOf K H1 a) fun k => R (JEnum (JKd K k)) H1
  | [.str z] => R (JEnum (JKd K (.s z 0))) H1
  | _ => False
def uEnumZ (K : PySem.W.Frag) (ta : TA) : TI := fun σ H R => ta σ H fun vs H1 => match vs with
  | [.ref a, .ref b] => oK (kdOf K H1 a) fun k1 => oK (kdOf K H1 b) fun k2 => R (JEnum (JZip K k1 k2)) H1
  | _ => False
theorem zapart (n : Nat) {k1 k2 : Kd} (h1 : ∀ c, n ≤ c → k1.away c) (h2 : ∀ c, n ≤ c → k2.away c) : ZApart (n + 4) (n + 2) (n + 3) n (n + 1) k1 k2 where
  TIz := by show (n + 2 : Nat) ≠ (n + 4 : Nat); omega
  TOz := by show (n + 3 : Nat) ≠ (n + 4 : Nat); omega
  i1z := by show (n : Nat) ≠ (n + 4 : Nat); omega
  i2z := by show (n + 1 : Nat) ≠ (n + 4 : Nat); omega
  TITO := by show (n + 2 : Nat) ≠ (n + 3 : Nat); omega
  TIi1 := by show (n + 2 : Nat) ≠ (n : Nat); omega
  TIi2 := by show (n + 2 : Nat) ≠ (n + 1 : Nat); omega
  TOi1 := by show (n + 3 : Nat) ≠ (n : Nat); omega
  TOi2 := by show (n + 3 : Nat) ≠ (n + 1 : Nat); omega
  i12 := by show (n : Nat) ≠ (n + 1 : Nat); omega
  a1 := fun c hc => h1 c (by rcases hc with h | h | h | h | h <;> rw [h] <;> first | exact Nat.le_refl _ | exact Nat.le_add_right _ _)
  a2 := fun c hc => h2 c (by rcases hc with h | h | h | h | h <;> rw [h] <;> first | exact Nat.le_refl _ | exact Nat.le_add_right _ _)
section
variable {X : Cx} {pins : List (Addr × Obj)} {σ : L2.St} {H : Hp} {s : Shared}
theorem zip_made (I : Inv X pins σ H s) {A : Around} {E : Value → Shared → Prop} {k1 k2 : Kd} {xs ys : List V} (q1 : k1.sq X.K H xs) (q2 : k2.sq X.K H ys) {Q : Value → Shared → Prop}
    (h : ∀ h', ZApart (s.heap.objs.size + 4) (s.heap.objs.size + 2) (s.heap.objs.size + 3) s.heap.objs.size (s.heap.objs.size + 1) k1 k2 → IsZip h' (s.heap.objs.size + 4) (s.heap.objs.size + 2) (s.heap.objs.size + 3) .none →
      ZTn (s.heap.objs.size + 4) (s.heap.objs.size + 2) (s.heap.objs.size + 3) s.heap.objs.size (s.heap.objs.size + 1) k1 k2 0 h' → Inv X pins σ H { s with heap := h' } → h'.objs.size = s.heap.objs.size + 5 →
      (∀ c ∈ [s.heap.objs.size + 4, s.heap.objs.size + 2, s.heap.objs.size + 3, s.heap.objs.size, s.heap.objs.size + 1], FpOk X pins H c) → Q (.ref (s.heap.objs.size + 4)) { s with heap := h' }) :
    wpAny (model X.prog X.w) A (call (.type "zip") [k1.u, k2.u]) Q E s := by
  obtain ⟨C1, B1, c1⟩ := Kd.begins I q1
  obtain ⟨C2, B2, c2⟩ := Kd.begins I q2
  refine zip_begins2 B1 B2 c1 c2 fun h' hz hTI hTO g1 g2 hsz hk => h h' (zapart _ (fun c hc => Kd.away_of I q1 hc) fun c hc => Kd.away_of I q2 hc) hz ⟨⟨_, _, .inl rfl, hz⟩, hTI, ⟨_, _, hTO⟩, Kd.at0 g1, Kd.at0 g2⟩ (I.kept (t' := s.toks) hk) hsz fun c hcm => ?_
  have e' : c = s.heap.objs.size + 4 ∨ c = s.heap.objs.size + 2 ∨ c = s.heap.objs.size + 3 ∨ c = s.heap.objs.size ∨ c = s.heap.objs.size + 1 := by simpa using hcm
  have hle : s.heap.objs.size ≤ c := by
    rcases e' with z | z | z | z | z
    · rw [z]; exact Nat.le_add_right _ _
    · rw [z]; exact Nat.le_add_right _ _
    · rw [z]; exact Nat.le_add_right _ _
    · rw [z]; exact Nat.le_refl _
    · rw [z]; exact Nat.le_add_right _ _
  exact I.fpOk hle (I.hok.fresh hle)
end
theorem pi_zipU {X : Cx} {tg e e2 : Expr} {ta : TA} {p pos : Pos} (hg : Gl X "zip") (hm : X.mg "zip" = none) (ha : PA X [e, e2] ta)
    (hs : starEach [e, e2] X.env = (false, eval e X.env) :: starEach [e2] X.env := by rfl) (hpl : (backTo pos (starEach [e2] X.env)).any (·.1) = false := by rfl) :
    PI X tg (.Call (.Name "zip" p) [e, e2] [] pos) (uZip X.K ta) := by
  refine ⟨fun pins s σ H R I h => ?_⟩
  refine Call_ (ld_blt I hg hm PyProof.Rows.boot_zip (PyProof.Rows.callWith_type1 (thn (ha.run pos pins s σ H _ I h) fun us s1 ⟨vs, H1, I1, r1, q1⟩ => ?_) hs hpl))
  dsimp only at q1
  split at q1
  · rename_i a b
    cases r1 with
    | cons r rr =>
      cases rr with
      | cons r' rr =>
        cases rr
        cases r
        cases r'
        obtain ⟨k1, e1, q1⟩ := oK_ex q1
        obtain ⟨k2, e2, q1⟩ := oK_ex q1
        obtain ⟨u1, _, xs, s1'⟩ := kdOf_sq e1
        obtain ⟨u2, _, ys, s2'⟩ := kdOf_sq e2
        rw [← u1, ← u2]
        refine zip_made I1 s1' s2' fun h' D hz st I2 hsz hf => wpAny_pyIter_zip hz ?_
        exact ⟨_, _, _, _, H1, rfl, I2, turn_zipS D, st, hf, q1⟩
  · exact q1.elim
theorem pi_enumU {X : Cx} {e : Expr} {ta : TA} {p pos tpos : Pos} {elts : List Expr} {kk : Nat} (hg : Gl X "enumerate") (hm : X.mg "enumerate" = none) (ha : PA X [e] ta) (hs : starEach [e] X.env = [(false, eval e X.env)] := by rfl) :
    PI X (.Tuple elts kk tpos) (.Call (.Name "enumerate" p) [e] [] pos) (uEnum X.K ta) := by
  refine ⟨fun pins s σ H R I h => ?_⟩
  refine Call_ (ld_blt I hg hm boot_enumerate (PyProof.Rows.callWith_type1 (thn (ha.run pos pins s σ H _ I h) fun us s1 ⟨vs, H1, I1, r1, q1⟩ => ?_) hs rfl))
  have main : ∀ (k : Kd) (xs : List V), k.sq X.K H1 xs → R (JEnum (JKd X.K k)) H1 → wpAny (model X.prog X.w) X.A (call (.type "enumerate") [k.u]) (fun v s1 => wpAny (model X.prog X.w) X.A (pyIter v) (PIE X pins σ (.Tuple elts kk tpos) R) X.xe s1) X.xe s1 := by
    intro k xs hq q
    obtain ⟨C, B, hC⟩ := Kd.begins I1 hq
    have hz : (s1.heap.push k.obj).objs.size = s1.heap.objs.size + 1 := Heap.size_push ..
    refine call_enumG (C := C) (it := fun h => h.objs.size) (nh := fun h => h.push k.obj) B.iter hC fun h' he hk => wpAny_pyIter_enum he ?_
    rw [hz] at he
    have hk' : ∀ b o, s1.heap.get? b = some o → h'.get? b = some o := fun b o y => hk b o (Heap.get?_push_of_some _ y)
    have fr : ∀ b, s1.heap.objs.size ≤ b → FpOk X pins H1 b := fun b hb => I1.fpOk hb (I1.hok.fresh hb)
    refine ⟨_, [s1.heap.objs.size + 1, s1.heap.objs.size], _, _, H1, by rw [hz], I1.kept (t' := s1.toks) hk', turn_enumA (e := s1.heap.objs.size + 1) (inner_kd k s1.heap.objs.size (Kd.away_of I1 hq (Nat.le_refl _))) (by simp), ⟨⟨.none, he⟩, Kd.at0 (hk _ _ (Heap.get?_push_size _ B.free))⟩, fun b hb => ?_, q⟩
    rcases List.mem_cons.mp hb with z | z
    · rw [z]; exact fr _ (Nat.le_add_right _ _)
    · rw [List.mem_singleton.mp z]; exact fr _ (Nat.le_refl _)
  dsimp only at q1
  split at q1
  · cases r1 with
    | cons r rr =>
      cases rr
      cases r
      obtain ⟨k, e1, q1⟩ := oK_ex q1
      obtain ⟨u1, _, xs, sq⟩ := kdOf_sq e1
      rw [← u1]
      exact main k xs sq q1
  · cases r1 with
    | cons r rr =>
      cases rr
      obtain ⟨t, rfl⟩ := r
      exact main (.s _ t) _ rfl q1
  · exact q1.elim
theorem pi_enumZ {X : Cx} {e e2 : Expr} {ta : TA} {p p2 pos pos2 tpos : Pos} {elts : List Expr} {kk : Nat} (hg : Gl X "enumerate") (hm : X.mg "enumerate" = none) (hg2 : Gl X "zip") (hm2 : X.mg "zip" = none) (ha : PA X [e, e2] ta)
    (hs0 : starEach [.Call (.Name "zip" p2) [e, e2] [] pos2] X.env = [(false, eval (.Call (.Name "zip" p2) [e, e2] [] pos2) X.env)] := by rfl)
    (hs : starEach [e, e2] X.env = (false, eval e X.env) :: starEach [e2] X.env := by rfl) (hpl : (backTo pos2 (starEach [e2] X.env)).any (·.1) = false := by rfl) :
    PI X (.Tuple elts kk tpos) (.Call (.Name "enumerate" p) [.Call (.Name "zip" p2) [e, e2] [] pos2] [] pos) (uEnumZ X.K ta) := by
  refine ⟨fun pins s σ H R I h => ?_⟩
  have inn : wpAny (model X.prog X.w) X.A (eval (.Call (.Name "zip" p2) [e, e2] [] pos2) X.env) (fun v s1 => wpAny (model X.prog X.w) X.A (call (.type "enumerate") [v]) (fun v s1 => wpAny (model X.prog X.w) X.A (pyIter v) (PIE X pins σ (.Tuple elts kk tpos) R) X.xe s1) X.xe s1) X.xe s := by
    refine Call_ (ld_blt I hg2 hm2 PyProof.Rows.boot_zip (PyProof.Rows.callWith_type1 (thn (ha.run pos2 pins s σ H _ I h) fun us s1 ⟨vs, H1, I1, r1, q1⟩ => ?_) hs hpl))
    dsimp only at q1
    split at q1
    · cases r1 with
      | cons r rr =>
        cases rr with
        | cons r' rr =>
          cases rr
          cases r
          cases r'
          obtain ⟨k1, e1, q1⟩ := oK_ex q1
          obtain ⟨k2, e2, q1⟩ := oK_ex q1
          obtain ⟨u1, _, xs, s1'⟩ := kdOf_sq e1
          obtain ⟨u2, _, ys, s2'⟩ := kdOf_sq e2
          rw [← u1, ← u2]
          refine zip_made I1 s1' s2' fun h' D hz st I2 hsz hf => ?_
          refine call_enumG (s := { s1 with heap := h' }) (C := fun h => IsZip h (s1.heap.objs.size + 4) (s1.heap.objs.size + 2) (s1.heap.objs.size + 3) .none) (it := fun _ => s1.heap.objs.size + 4) (nh := fun h => h) (fun _ _ _ _ _ _ c q => wpAny_pyIter_zip c q) hz fun h2 he hk => wpAny_pyIter_enum he ?_
          dsimp only at he hk
          have I3 : Inv X pins σ H1 { s1 with heap := h2 } := I2.kept (t' := s1.toks) hk
          have nf : h'.objs.size ∉ [s1.heap.objs.size + 4, s1.heap.objs.size + 2, s1.heap.objs.size + 3, s1.heap.objs.size, s1.heap.objs.size + 1] := by
            rw [hsz]; simp
          refine ⟨_, h'.objs.size :: [s1.heap.objs.size + 4, s1.heap.objs.size + 2, s1.heap.objs.size + 3, s1.heap.objs.size, s1.heap.objs.size + 1], _, _, H1, rfl, I3, turn_enumA (e := h'.objs.size) (inner_zip D) nf, ⟨⟨.none, he⟩, st.keep fun b hb o y => hk b o y⟩, fun b hb => ?_, q1⟩
          rcases List.mem_cons.mp hb with z | z
          · rw [z]; exact I2.fpOk (Nat.le_refl _) (I2.hok.fresh (Nat.le_refl _))
          · exact hf b z
    · exact q1.elim
  refine Call_ (ld_blt I hg hm boot_enumerate (PyProof.Rows.callWith_type1 (PyProof.Rows.spliced_more (wpAny_mono inn (fun v s1 q => PyProof.Rows.spliced_none q) fun _ _ q => q) hs0) hs0 rfl))
end U

namespace PySem.F
theorem zip_no_len : typeLookup (.type "zip") "__len__" = pure none := by rw [typeLookup_type, builtinLookup_eq_fast]; kernel_rfl
theorem zip_no_hint : typeLookup (.type "zip") "__length_hint__" = pure none := by rw [typeLookup_type, builtinLookup_eq_fast]; kernel_rfl
end PySem.F
namespace U
open PySem PySem.Spec PyProof.Rows L2
theorem rd_ex {H H' : Hp} (e : Ex H H') {a : Addr} {o : HO} (h : Rd H a o) : Rd H' a o := h.elim (fun q => .inl (e _ _ q)) fun ⟨u, q⟩ => .inr ⟨u, e _ _ q⟩
theorem Kd.sq_ex {K : PySem.W.Frag} {H H' : Hp} (e : Ex H H') {k : Kd} {xs : List V} (h : k.sq K H xs) : k.sq K H' xs := by
  cases k with
  | l a => exact Or.imp (rd_ex e) id h
  | t a => exact Or.imp (rd_ex e) id h
  | s z k => exact h
/-- new pairs, one for each -/
def Prs (H0 : Hp) (S : Addr) (xs ys : List V) (n : Nat) (ps : List V) (H : Hp) : Prop := ps.length = n ∧ ∀ (j : Nat) (p : V), ps[j]? = some p → ∃ (T : Addr) (x y : V), p = V.ref T ∧ H0 T = none ∧ T ≠ S ∧ xs[j]? = some x ∧ ys[j]? = some y ∧ H T = some (.tup [x, y])
theorem drain_zip {X : Cx} {pins : List (Addr × Obj)} {σ : L2.St} {z TI TO i1 i2 S : Addr} {k1 k2 : Kd} {xs ys : List V} {H0 : Hp} {A : Around} {R : Result → Shared → Prop} {res : Value} (D : ZApart z TI TO i1 i2 k1 k2) (hh : A.handled = none) (h1 : k1.sq X.K H0 xs) (h2 : k2.sq X.K H0 ys)
    (hS0 : H0 S = none) (hz : xs.length ≤ sizeLine)
    (hend : ∀ s' H' ps, Inv X pins σ H' s' → Ex H0 H' → H' S = some (.lst ps) → Prs H0 S xs ys (min xs.length ys.length) ps H' → R (.ok (.ret res)) s') :
    ∀ (m i : Nat) (s : Shared) (H : Hp) (ps : List V), min xs.length ys.length - i = m → i ≤ min xs.length ys.length → Inv X pins σ H s → (∀ b ∈ [z, TI, TO, i1, i2], FpOk X pins H b) → ZTn z TI TO i1 i2 k1 k2 i s.heap → Ex H0 H → H S = some (.lst ps) → Prs H0 S xs ys i ps H →
      codeAny (model X.prog X.w) A (.builtin "list.extend.loop" ⟨[.ref S, .ref z, res], []⟩) R s := by
  intro m
  induction m with
  | zero =>
    intro i s H ps hm hi I hf st ex hS hp
    have hi' : i = min xs.length ys.length := by omega
    have hT : s.TypeIs (.ref z) "zip" := by obtain ⟨⟨f0, f1, _, hz⟩, _⟩ := st; exact ⟨_, hz, rfl⟩
    refine codeAny_builtin F.entry_extend_loop ?_
    rw [Around.under_plainId F.plain_extend_loop _]
    show wpAny _ A.in1 (pyNext (.ref z) >>= _) _ _ s
    refine wpAny_bind ?_
    unfold pyNext
    refine wpAny_bind (wpAny_attempt (wpAny_callSpecial?_slot (name := Str.ofString "__next__") hT F.slot_zip_next
      (wpAny_call_entry F.slot_zip_next hT F.entry_zip_next (ztn_done (A := A.in1.in1) D hh I hf st ⟨xs, ys, Kd.sq_ex ex h1, Kd.sq_ex ex h2, hi'⟩ fun e h' tk o ho hc I' => ?_) (F.args_zip_next_1 _))))
    refine wpAny_bind (wpAny_isInstance (T := "StopIteration") (b := true) ⟨o, ho, hc⟩ isSubtype_stop ?_)
    refine wpAny_pure ?_
    subst hi'
    exact wpAny_pure (hend _ H ps I' ex hS hp)
  | succ m ih =>
    intro i s H ps hm hi I hf st ex hS hp
    have hi' : i < min xs.length ys.length := by omega
    have hx : xs[i]? = some (xs[i]'(by omega)) := List.getElem?_eq_getElem (by omega)
    have hy : ys[i]? = some (ys[i]'(by omega)) := List.getElem?_eq_getElem (by omega)
    have hT : s.TypeIs (.ref z) "zip" := by obtain ⟨⟨f0, f1, _, hz⟩, _⟩ := st; exact ⟨_, hz, rfl⟩
    refine codeAny_builtin F.entry_extend_loop ?_
    rw [Around.under_plainId F.plain_extend_loop _]
    show wpAny _ A.in1 (pyNext (.ref z) >>= _) _ _ s
    refine wpAny_bind ?_
    unfold pyNext
    refine wpAny_bind (wpAny_attempt (wpAny_callSpecial?_slot (name := Str.ofString "__next__") hT F.slot_zip_next
      (wpAny_call_entry F.slot_zip_next hT F.entry_zip_next (ztn_item (A := A.in1.in1) D hh I hf st ⟨xs, ys, _, _, Kd.sq_ex ex h1, Kd.sq_ex ex h2, hx, hy⟩ fun h' tk x y u u2 st' rx ry hT hk hyl hlt => wpAny_pure ?_) (F.args_zip_next_1 _))))
    have new : ObjOk X.prog X.w (upd H s.heap.objs.size (.tup [x, y])) h' s.heap.objs.size (.tup [x, y]) :=
      ⟨by show 2 ≤ sizeLine; decide, [u, u2], .cons rx (.cons ry .nil), ⟨_, hT, rfl, _, rfl⟩⟩
    have I1 : Inv X pins σ (upd H s.heap.objs.size (.tup [x, y])) { s with heap := h', toks := tk } := I.turnedNew (ch := [z, TI, TO, i1, i2]) hk hf (Nat.le_refl _) new
    have hTn : H s.heap.objs.size = none := I.hok.fresh (Nat.le_refl _)
    have hTS : S ≠ s.heap.objs.size := fun q => by rw [q, hTn] at hS; cases hS
    have hS1 : upd H s.heap.objs.size (.tup [x, y]) S = some (.lst ps) := by rw [upd_ne hTS]; exact hS
    have hn1 : ∀ b ∈ [z, TI, TO, i1, i2], upd H s.heap.objs.size (.tup [x, y]) b = none := fun b hb => by rw [upd_ne (Nat.ne_of_lt (hlt b hb))]; exact (hf b hb).1
    obtain ⟨zl, its, nn, r, hl, e⟩ := I1.lstM hS1
    obtain ⟨T', x', y', eT, _, eH, gx, gy⟩ := hyl
    cases eT
    have gx' := gx xs (Kd.sq_ex ex h1)
    have gy' := gy ys (Kd.sq_ex ex h2)
    have exy : x = x' ∧ y = y' := by
      have q := congrFun eH s.heap.objs.size
      rw [upd_same, upd_same] at q
      simpa using q
    obtain ⟨rfl, rfl⟩ := exy
    show wpAny _ A.in1 (updateSeq S (·.push (.ref s.heap.objs.size)) >>= _) _ _ _
    have hlen : ps.length = i := hp.1
    refine wpAny_bind (wpAny_updateSeq e rfl (wpAny_pure ⟨plainId_quiet F.plain_extend_loop _, ?_⟩) (by rw [List.size_toArray]; omega) (by show (its.toArray.push _).size ≤ sizeLine + 1; rw [Array.size_push, List.size_toArray]; omega))
    have I2 := I1.lset (t' := tk) (f := (·.push (.ref s.heap.objs.size))) (its' := its ++ [.ref s.heap.objs.size]) (ys := ps ++ [V.ref s.heap.objs.size]) hS1 e (by simp) (r.append (.cons (show RelV (V.ref s.heap.objs.size) (Value.ref s.heap.objs.size) from rfl) .nil)) (by rw [List.length_append, List.length_singleton]; omega)
    have exT : Ex H0 (upd H s.heap.objs.size (.tup [x, y])) := ex.trans (Ex.new hTn)
    have exS : Ex H0 (upd (upd H s.heap.objs.size (.tup [x, y])) S (.lst (ps ++ [.ref s.heap.objs.size]))) := Ex.mut exT hS0
    have hf2 : ∀ b ∈ [z, TI, TO, i1, i2], FpOk X pins (upd (upd H s.heap.objs.size (.tup [x, y])) S (.lst (ps ++ [.ref s.heap.objs.size]))) b := fun b hb => by
      refine ⟨?_, (hf b hb).2⟩
      rw [upd_ne (fun q => by rw [← q, (hf b hb).1] at hS; cases hS)]
      exact hn1 b hb
    refine ih (i + 1) _ _ _ (by omega) (by omega) I2 hf2 (st'.keep fun b hb o q => (Heap.get?_update_other _ _ (fun q' => by rw [q', (hf b hb).1] at hS; cases hS)).trans q) exS upd_same ⟨by rw [List.length_append, hlen]; rfl, fun j p hj => ?_⟩
    rw [List.getElem?_append] at hj
    split at hj
    · obtain ⟨T, x', y', rfl, hT0, hTs, q1, q2, q3⟩ := hp.2 j p hj
      refine ⟨T, x', y', rfl, hT0, hTs, q1, q2, ?_⟩
      rw [upd_ne hTs, upd_ne (fun q => by rw [q, hTn] at q3; cases q3)]
      exact q3
    · rename_i hji
      have hj0 : j = i := by
        have := (List.getElem?_eq_some_iff.mp hj).1
        simp at this
        omega
      subst hj0
      rw [hlen, Nat.sub_self] at hj
      cases hj
      exact ⟨_, x, y, rfl, ex.free hTn, Ne.symm hTS, gx', gy', by rw [upd_ne (Ne.symm hTS), upd_same]⟩

theorem rdS_kd {K : PySem.W.Frag} {H : Hp} {a : Addr} {xs : List V} (h : rdS K H a = some xs) : ∃ k : Kd, k.u = .ref a ∧ k.sq K H xs := by
  unfold rdS at h
  cases e : rdL K H a with
  | some ys => rw [e] at h; cases h; exact ⟨.l a, rfl, rdL_sq e⟩
  | none => rw [e] at h; exact ⟨.t a, rfl, rdT_sq h⟩
def tListZ (K : PySem.W.Frag) (ta : TA) : TE := fun σ H Q => ta σ H fun vs H1 => match vs with
  | [.ref a, .ref b] => oK (rdS K H1 a) fun xs => oK (rdS K H1 b) fun ys => ∀ (S : Addr) (H' : Hp) (ps : List V), H1 S = none → Ex H1 H' → H' S = some (.lst ps) → Prs H1 S xs ys (min xs.length ys.length) ps H' → Q (.ref S) H'
  | _ => False
theorem Kd.le {X : Cx} {pins : List (Addr × Obj)} {σ : L2.St} {H : Hp} {s : Shared} (I : Inv X pins σ H s) {a : Addr} {xs : List V} (h : rdS X.K H a = some xs) : xs.length ≤ sizeLine := by
  unfold rdS at h
  cases e : rdL X.K H a with
  | some ys => rw [e] at h; cases h; obtain ⟨_, _, _, q⟩ := I.list (rdL_sq e); exact q
  | none => rw [e] at h; obtain ⟨_, _, _, q⟩ := I.tuple (rdT_sq h); exact q
theorem pe_listZ {X : Cx} {e e2 : Expr} {ta : TA} {p p2 pos pos2 : Pos} (hc : X.calm = true) (hg : Gl X "list") (hm : X.mg "list" = none) (hg2 : Gl X "zip") (hm2 : X.mg "zip" = none) (ha : PA X [e, e2] ta)
    (hs0 : starEach [.Call (.Name "zip" p2) [e, e2] [] pos2] X.env = [(false, eval (.Call (.Name "zip" p2) [e, e2] [] pos2) X.env)] := by rfl)
    (hs : starEach [e, e2] X.env = (false, eval e X.env) :: starEach [e2] X.env := by rfl) (hpl : (backTo pos2 (starEach [e2] X.env)).any (·.1) = false := by rfl) :
    PE X (.Call (.Name "list" p) [.Call (.Name "zip" p2) [e, e2] [] pos2] [] pos) (tListZ X.K ta) := by
  refine ⟨fun pins s σ H Q I h => ?_⟩
  refine Call_ (ld_blt I hg hm rfl (PyProof.Rows.callWith_type1 (PyProof.Rows.spliced_more ?_ hs0) hs0 rfl))
  refine Call_ (ld_blt I hg2 hm2 PyProof.Rows.boot_zip (PyProof.Rows.callWith_type1 (thn (ha.run pos2 pins s σ H _ I h) fun us s1 ⟨vs, H1, I1, r1, q1⟩ => ?_) hs hpl))
  dsimp only at q1
  split at q1
  · cases r1 with
    | cons r rr =>
      cases rr with
      | cons r' rr =>
        cases rr
        cases r
        cases r'
        obtain ⟨xs, e1, q1⟩ := oK_ex q1
        obtain ⟨ys, e2, q1⟩ := oK_ex q1
        have hxl := Kd.le I1 e1
        obtain ⟨k1, u1, s1'⟩ := rdS_kd e1
        obtain ⟨k2, u2, s2'⟩ := rdS_kd e2
        rw [← u1, ← u2]
        refine zip_made I1 s1' s2' fun h' D hz st I2 hsz hf => PyProof.Rows.spliced_none ?_
        obtain ⟨z, hzz⟩ : ∃ z, z = s1.heap.objs.size + 4 := ⟨_, rfl⟩
        obtain ⟨s2, hs2⟩ : ∃ s2 : Shared, s2 = { s1 with heap := h' } := ⟨_, rfl⟩
        rw [← hs2] at I2 ⊢
        have st : ZTn (s1.heap.objs.size + 4) (s1.heap.objs.size + 2) (s1.heap.objs.size + 3) s1.heap.objs.size (s1.heap.objs.size + 1) k1 k2 0 s2.heap := by rw [hs2]; exact st
        rw [← hzz] at hf D st ⊢
        have tT : ∀ {h : Heap}, (∀ b o, s2.heap.get? b = some o → h.get? b = some o) → Shared.TypeIs { s2 with heap := h } (.ref z) "zip" := fun {h} q => by
          obtain ⟨⟨f0, f1, _, hz⟩, _⟩ := st; exact ⟨_, q _ _ hz, rfl⟩
        have hzl : z < s2.heap.objs.size := by obtain ⟨⟨f0, f1, _, hz⟩, _⟩ := st; exact Heap.lt_size hz
        have hSa : s2.heap.objs.size ≠ z := Nat.ne_of_gt hzl
        refine callType_codes (Q₁ := fun obj s₁ => obj = .ref s2.heap.objs.size ∧ s₁ = { s2 with heap := s2.heap.push { cls := .type "list", data := .seq #[] } }) F.called_list (F.typeCall_list_1 _) F.entry_list_init
          (code_list_new _ ⟨rfl, rfl⟩) fun obj s₁ h₁ => ?_
        obtain ⟨rfl, rfl⟩ := h₁
        have hS : (s2.heap.push { cls := .type "list", data := .seq #[] }).get? s2.heap.objs.size = some { cls := .type "list", data := .seq #[] } := Heap.get?_push_size _ rfl
        refine ⟨⟨_, hS, rfl⟩, F.args_list_init_2 _ _, ?_⟩
        show wpAny _ X.A.in1.in1 (do let old ← Builtin.List.listItems (.ref s2.heap.objs.size); Builtin.List.listUpdate (.ref s2.heap.objs.size) (fun _ => #[]); letGo old.toList.reverse; Builtin.List.listExtendWith (.ref s2.heap.objs.size) (.ref z) .none) _ _ _
        refine wpAny_bind ?_
        unfold Builtin.List.listItems
        refine wpAny_bind (wpAny_seqItems hS rfl (wpAny_pure ?_))
        show wpAny _ X.A.in1.in1 (updateSeq s2.heap.objs.size (fun _ => #[]) >>= fun _ => letGo (#[] : Array Value).toList.reverse >>= fun _ => Builtin.List.listExtendWith (.ref s2.heap.objs.size) (.ref z) .none) _ _ _
        refine wpAny_bind (wpAny_updateSeq hS rfl ?_)
        have hS2 := Heap.get?_update_self (Obj.mapSeq (fun _ => (#[] : Array Value))) hS rfl
        refine wpAny_bind (wpAny_letGo ?_)
        unfold Builtin.List.listExtendWith
        have up : ∀ (h : Heap) (f : Obj → Obj), (∀ b o, s2.heap.get? b = some o → h.get? b = some o) → ∀ b o, s2.heap.get? b = some o → (h.update s2.heap.objs.size f).get? b = some o := fun h f q b o e =>
          (Heap.get?_update_other _ _ (Ne.symm (Nat.ne_of_lt (Heap.lt_size e)))).trans (q b o e)
        have kk1 : ∀ b o, s2.heap.get? b = some o → (s2.heap.push { cls := .type "list", data := .seq #[] }).get? b = some o := fun b o e => Heap.get?_push_of_some _ e
        have kk2 := up _ (Obj.mapSeq (fun _ => (#[] : Array Value))) kk1
        refine wpAny_bind (wpAny_typeOf (tT kk2) ?_)
        have h1 : Builtin.List.listSameRef (.ref s2.heap.objs.size) (.ref z) = false := by simp [Builtin.List.listSameRef, hSa]
        have h2 : (Value.type "zip" == Value.type "list") = false := by decide
        have h3 : (Value.type "zip" == Value.type "tuple") = false := by decide
        simp only [h1, h2, h3, Bool.or_false, Bool.false_eq_true, if_false]
        refine wpAny_bind ((turn_zipS (P := X.prog) (w := X.w) (K := X.K) (tg := .Name "x" pos) D).self _ 0 _ _ _ (st.keep fun b hb o q => kk2 b o q) ?_)
        refine wpAny_bind (wpAny_holding ?_)
        unfold Builtin.List.listLengthHint
        refine wpAny_bind (wpAny_specialOf (tT kk2) F.zip_no_len ?_)
        show wpAny _ X.A.in1.in1 (specialOf (Value.ref z) (Str.ofString "__length_hint__") >>= _) _ _ _
        refine wpAny_bind (wpAny_specialOf (tT kk2) F.zip_no_hint ?_)
        refine wpAny_pure ?_
        show wpAny _ X.A.in1.in1 (rule "list.extend.makes-room" >>= fun _ => Builtin.List.listTouch (.ref s2.heap.objs.size) >>= fun _ =>
          again (.builtin "list.extend.loop" ⟨[.ref s2.heap.objs.size, .ref z, .none], []⟩)) _ _ _
        refine wpAny_bind (wpAny_rule ?_)
        refine wpAny_bind ?_
        show wpAny _ X.A.in1.in1 (updateSeq s2.heap.objs.size (·.push .none) >>= fun _ => updateSeq s2.heap.objs.size (·.pop)) _ _ _
        refine wpAny_bind (wpAny_updateSeq hS2 rfl ?_)
        have hS3 := Heap.get?_update_self (Obj.mapSeq (·.push Value.none)) hS2 rfl
        refine wpAny_updateSeq (hz := by seq_fits) hS3 rfl ?_
        have hS4 := Heap.get?_update_self (Obj.mapSeq (·.pop)) hS3 rfl
        have kk4 := up _ (Obj.mapSeq (·.pop)) (up _ (Obj.mapSeq (·.push Value.none)) kk2)
        refine wpAny_pure ⟨plainId_quiet F.plain_extend_loop _, ?_⟩
        have hSn : H1 s2.heap.objs.size = none := I2.hok.fresh (Nat.le_refl _)
        have I3 := I2.laid (t' := s2.toks) (o := .lst []) kk4 (Nat.le_refl s2.heap.objs.size) ⟨Nat.zero_le _, [], _, .nil, hS4⟩
        refine drain_zip (H0 := H1) (A := X.A.in1) D (I.ok.hd hc) s1' s2' hSn hxl (fun s' H' ps I' ex hS' hp => ⟨rfl, ?ga⟩) _ 0 _ _ [] rfl (Nat.zero_le _) I3 (fun b hb => ⟨?gb, (hf b hb).2⟩) (st.keep fun b hb o q => kk4 b o q) (Ex.new hSn) upd_same ⟨rfl, fun j p hj => by simp at hj⟩
        case ga => exact ⟨.ref s2.heap.objs.size, H', I', rfl, q1 _ H' ps hSn ex hS' hp⟩
        case gb =>
          obtain ⟨o, ho, _⟩ := st.obj b hb
          rw [upd_ne (Nat.ne_of_lt (Heap.lt_size ho))]
          exact (hf b hb).1
  · exact q1.elim
end U

namespace U
open PySem PySem.Spec PyProof.Rows L2
/-! ### e[::-1] -/
def revS (z : Str) : Str := ⟨z.cps.toList.reverse.toArray⟩
theorem picked_rev (z : Str) (t : Tok) : (slicePicked z none none (some (-1, t))).filterMap (z.cps[·]?) = z.cps.toList.reverse := by
  show (sliceRange ((z.length : Int) - 1) (-1) (-1)).filterMap (z.cps[·]?) = _
  rw [PySem.W.krv_sliceRange, PySem.W.krv_range, List.filterMap_reverse]
  congr 1
  exact PySem.W.krv_all z.cps
def uRev (K : PySem.W.Frag) (te : TE) : TE := fun σ H Q => te σ H fun x H1 => match x with
  | .str z => z.length ≤ sizeLine ∧ Q (.str (revS z)) H1
  | .ref a => oK (rdL K H1 a) fun xs => ∀ p, H1 p = none → Q (.ref p) (upd H1 p (.lst xs.reverse))
  | _ => False
section
variable {X : Cx}
theorem pe_revU {e : Expr} {te : TE} {k : Nat} {p1 p2 p3 pos : Pos} (he : PE X e te) : PE X (.Subscript e (.Slice none none (some (.UnaryOp .USub (.Constant (.int 1) k p1) p2)) p3) pos) (uRev X.K te) := by
  refine ⟨fun pins s σ H Q I h => ?_⟩
  refine Subscript_ (thn (he.run pins s σ H _ I h) fun v s1 ⟨x, H1, I1, r1, q1⟩ => ?_)
  have hst : PO X (some (.UnaryOp .USub (.Constant (.int 1) k p1) p2)) (tPart (tUn (rU fun i => .int (-i)) (tC (.int 1)))) := po_some (pe_un un_neg pe_int)
  refine wpAny_Slice (thn (po_none.run pins s1 σ H1 (fun o H2 => o = none ∧ H2 = H1) I1 ⟨rfl, rfl⟩) fun vl s2 ⟨l, H2, I2, pl, el, e2⟩ => ?_)
  subst el e2
  refine thn (po_none.run pins s2 σ H2 (fun o H3 => o = none ∧ H3 = H2) I2 ⟨rfl, rfl⟩) fun vu s3 ⟨u, H3, I3, pu, eu, e3⟩ => ?_
  subst eu e3
  refine thn (hst.run pins s3 σ H3 (fun o H4 => o = some (-1) ∧ H4 = H3) I3 ⟨1, rfl, -1, rfl, rfl, rfl⟩) fun vs s4 ⟨o, H4, I4, ps, eo, e4⟩ => ?_
  subst eo e4
  have I5 : Inv X pins σ H4 { s4 with heap := s4.heap.push { cls := .type "slice", data := .fields #[vl, vu, vs] } } := I4.kept (t' := s4.toks) fun b ob q => Heap.get?_push_of_some _ q
  split at q1
  · rename_i z
    obtain ⟨t, rfl⟩ := r1
    show wpAny (model X.prog X.w) X.A (subscriptTail e (.Slice none none (some (.UnaryOp .USub (.Constant (.int 1) k p1) p2)) p3) (.str z t) (.ref s4.heap.objs.size)) (EP X pins σ Q) X.xe { s4 with heap := s4.heap.push { cls := .type "slice", data := .fields #[vl, vu, vs] } }
    refine tail_any (ops := [.str z t, .ref s4.heap.objs.size]) (typeIs_str _ z t) (F.slot_str_getitem.lookup) ?_ (by with_unfolding_all rfl)
    cases pl
    cases pu
    cases ps with
    | int i tk =>
      refine wpAny_getItem_str_slice (l := none) (u := none) (st := some (-1, tk)) ⟨_, Heap.get?_push_size _ rfl, rfl, rfl⟩ rfl ?_
      have hm : sliceMade z t none none (some (-1, tk)) = .str (revS z) := by
        unfold sliceMade
        rw [if_neg (by simp), picked_rev]; rfl
      rw [hm]
      exact ⟨by show z.cps.toList.reverse.toArray.size ≤ _; rw [List.size_toArray, List.length_reverse]; exact q1.1, V.str (revS z), H4, I5.tok _, ⟨_, rfl⟩, q1.2⟩
  · rename_i a
    cases r1
    obtain ⟨xs, e1, q⟩ := oK_ex q1
    obtain ⟨its, r, ht, hz⟩ := I5.list (rdL_sq e1)
    have hlen := r.length
    show wpAny (model X.prog X.w) X.A (subscriptTail e (.Slice none none (some (.UnaryOp .USub (.Constant (.int 1) k p1) p2)) p3) (.ref a) (.ref s4.heap.objs.size)) (EP X pins σ Q) X.xe { s4 with heap := s4.heap.push { cls := .type "slice", data := .fields #[vl, vu, vs] } }
    refine tail_any (ops := [.ref a, .ref s4.heap.objs.size]) ht.isList.typeIs (PySem.slot_list_getitem.lookup) ?_ (by with_unfolding_all rfl)
    refine wpAny_getItem_list_slice ht.isList (Heap.IsSliceOf.new _ vl vu vs) pl pu ps (by decide) ?_ (by rw [List.size_toArray]; omega)
    rw [PySem.W.krv_pick]
    refine ⟨.ref _, _, I5.laid (t' := s4.toks) (o := .lst xs.reverse) (fun b ob q => Heap.get?_push_of_some _ q) (Nat.le_refl _) ?_, rfl, q _ (I5.hok.fresh (Nat.le_refl _))⟩
    exact ⟨by rw [List.length_reverse]; exact hz, _, 0, r.reverse, Heap.get?_push_size _ rfl⟩
  · exact q1.elim
theorem un65 {k : Nat} {A : Around} (hr : Room k A) : A.units + 65 < cLine := by have := hr.un; omega
/-! ### x in (.., ..), whatever the items -/
def uInD (K : PySem.W.Frag) : R2 := fun x y H Q => ∃ d ds, Dp K H x d ∧ Dp K H y (.tuple ds) ∧ SeqAt.shaped d = true ∧ SeqAt.shaped (.tuple ds) = true ∧ Q (.bl (ds.any fun z => PyData.eqv z d)) H
theorem ou_inD (hu : X.A.units + 65 < cLine) : OpR X (compareOp .In) (uInD X.K) := by
  intro pins s σ H x y v u Q I rx ry h
  obtain ⟨d, ds, hd, he, sd, se, q⟩ := h
  obtain ⟨as, r1⟩ := Dp.reads I d x v hd rx
  obtain ⟨bs, r2⟩ := Dp.reads I (.tuple ds) y u he ry
  exact SeqAt.in_tuple_reads r2 r1 (SeqAt.canLay_of_shaped se) (SeqAt.canLay_of_shaped sd) (room_in_shaped sd hu) ⟨.bl _, H, I, rfl, q⟩
end
/-! ### walks -/
section
variable {K : PySem.W.Frag} {k k1 k2 : Kd} {xs ys : List V}
theorem walk_kd : Walk (JKd K k) xs.length (fun H => k.sq K H xs) (YAt xs) :=
  ⟨fun i _ hi q => ⟨xs, xs[i], q, by simp [hi]⟩, fun _ q => .inr ⟨xs, q, rfl⟩, fun _ _ _ _ _ q y => ⟨y.1, y.2 xs q⟩⟩
theorem walk_enumK : Walk (JEnum (JKd K k)) xs.length (fun H => k.sq K H xs) (YPair (fun i => some (.int (i : Nat))) (fun i => xs[i]?)) := by
  refine ⟨fun i H hi q => walk_kd.goes i H hi q, fun H q => walk_kd.stops H q, fun i H v H' hi q y => ?_⟩
  obtain ⟨T, x, H1, rfl, h1, h2, rfl⟩ := y
  obtain ⟨rfl, h3⟩ := h1
  exact ⟨T, _, x, rfl, h2, rfl, rfl, h3 xs q⟩
theorem walk_zipK {n : Nat} (hn : n = min xs.length ys.length) : Walk (JZip K k1 k2) n (fun H => k1.sq K H xs ∧ k2.sq K H ys) (YPair (fun i => xs[i]?) (fun i => ys[i]?)) := by
  subst hn
  refine ⟨fun i _ hi q => ?_, fun _ q => ⟨xs, ys, q.1, q.2, rfl⟩, fun i H v H' _ q y => ?_⟩
  · have h1 : i < xs.length := by omega
    have h2 : i < ys.length := by omega
    exact ⟨xs, ys, xs[i], ys[i], q.1, q.2, by simp [h1], by simp [h2]⟩
  · obtain ⟨T, x, z, h1, h2, h3, h4, h5⟩ := y
    exact ⟨T, x, z, h1, h2, h3, h4 xs q.1, h5 ys q.2⟩
/-- a pair with the place and a new pair -/
def YEz (xs ys : List V) : Nat → Hp → V → Hp → Prop := fun i H v H' => ∃ T T2 x y, v = .ref T2 ∧ H T = none ∧ H T2 = none ∧ T2 ≠ T ∧ H' = upd (upd H T (.tup [x, y])) T2 (.tup [.int (i : Nat), .ref T]) ∧ xs[i]? = some x ∧ ys[i]? = some y
theorem walk_enumZ {n : Nat} (hn : n = min xs.length ys.length) : Walk (JEnum (JZip K k1 k2)) n (fun H => k1.sq K H xs ∧ k2.sq K H ys) (YEz xs ys) := by
  refine ⟨fun i H hi q => (walk_zipK hn).goes i H hi q, fun H q => (walk_zipK hn).stops H q, fun i H v H' hi q y => ?_⟩
  obtain ⟨T2, x, H1, rfl, h1, h2, rfl⟩ := y
  obtain ⟨T, a, b, rfl, e1, rfl, e2, e3⟩ := (walk_zipK hn).yields i H x H1 hi q h1
  have hne : T2 ≠ T := fun z => by rw [z, upd_same] at h2; cases h2
  rw [upd_ne hne] at h2
  exact ⟨T, T2, a, b, rfl, e1, h2, hne, rfl, e2, e3⟩
end
end U

namespace U
open PySem PySem.Spec PyProof.Rows L2
/-! ### == of lists of other lengths; is True; in ([], '') -/
def LnL (K : PySem.W.Frag) (H : Hp) (x y : V) : Prop := ∃ a b xs ys, x = .ref a ∧ y = .ref b ∧ SqL K H a xs ∧ SqL K H b ys ∧ xs.length ≠ ys.length
def uEq3 (K : PySem.W.Frag) : R2 := fun x y H Q => match scal x y with
  | true => Q (.bl (decide (x = y))) H
  | false => (∃ d e, Dp K H x d ∧ Dp K H y e ∧ SeqAt.shaped d = true ∧ SeqAt.shaped e = true ∧ Q (.bl (PyData.eqv d e)) H) ∨ (SmL K H x y ∧ Q (.bl true) H) ∨ (LnL K H x y ∧ Q (.bl false) H)
def uNe3 (K : PySem.W.Frag) : R2 := fun x y H Q => match scal x y with
  | true => Q (.bl (!decide (x = y))) H
  | false => (∃ d e, Dp K H x d ∧ Dp K H y e ∧ SeqAt.shaped d = true ∧ SeqAt.shaped e = true ∧ Q (.bl (!PyData.eqv d e)) H) ∨ (SmL K H x y ∧ Q (.bl false) H) ∨ (LnL K H x y ∧ Q (.bl true) H)
def uIs3 (neg : Bool) : R2 := fun x y H Q => match y with
  | .non => Q (.bl (if neg then !decide (x = .non) else decide (x = .non))) H
  | .bl k => (match x with
    | .bl j => Q (.bl (if neg then !decide (j = k) else decide (j = k))) H
    | _ => False)
  | _ => False
/-- x in ([], '') -/
def uInE (K : PySem.W.Frag) : R2 := fun x y H Q => match y with
  | .ref t => oK (rdT K H t) fun vs => (match vs with
    | [.ref e, .str z] => rdL K H e = some [] ∧ (match x with
      | .non => Q (.bl false) H
      | .str w => Q (.bl (decide (z = w))) H
      | .ref a => oK (rdL K H a) fun xs => Q (.bl xs.isEmpty) H
      | _ => False)
    | _ => False)
  | _ => False
section
variable {X : Cx}
theorem op_eqLn (hu : X.A.units + 64 < cLine) : OpR X (compareOp .Eq) (fun x y H Q => LnL X.K H x y ∧ Q (.bl false) H) := fun pins s σ H x y v u Q I rx ry h => by
  obtain ⟨⟨a, b, xs, ys, rfl, rfl, ha, hb, p⟩, q⟩ := h
  cases (show v = Value.ref a from rx)
  cases (show u = Value.ref b from ry)
  obtain ⟨us, r1, p1, _⟩ := I.list ha
  obtain ⟨ws, r2, p2, _⟩ := I.list hb
  have l1 := r1.length
  have l2 := r2.length
  exact SeqAt.RcAt.lists_lengths (A := X.A) p1.isList p2.isList (by simp; omega) (by omega) X.prog X.w _ _ ⟨.bl false, H, I, rfl, q⟩
theorem op_neLn (hu : X.A.units + 64 < cLine) : OpR X (compareOp .NotEq) (fun x y H Q => LnL X.K H x y ∧ Q (.bl true) H) := fun pins s σ H x y v u Q I rx ry h => by
  obtain ⟨⟨a, b, xs, ys, rfl, rfl, ha, hb, p⟩, q⟩ := h
  cases (show v = Value.ref a from rx)
  cases (show u = Value.ref b from ry)
  obtain ⟨us, r1, p1, _⟩ := I.list ha
  obtain ⟨ws, r2, p2, _⟩ := I.list hb
  have l1 := r1.length
  have l2 := r2.length
  exact SeqAt.RcNeAt.lists_lengths (A := X.A) p1.isList p2.isList (by simp; omega) (by omega) X.prog X.w _ _ ⟨.bl true, H, I, rfl, q⟩
theorem ou_eq3 (hu : X.A.units + 64 < cLine) : OpR X (compareOp .Eq) (uEq3 X.K) := OpRi (op_eq.or ((op_eqD hu).or ((op_eqS hu).or (op_eqLn hu)))) fun x y H Q h => by
  unfold uEq3 at h
  split at h
  · exact .inl ⟨by assumption, h⟩
  · exact .inr h
theorem ou_ne3 (hu : X.A.units + 64 < cLine) : OpR X (compareOp .NotEq) (uNe3 X.K) := OpRi (op_ne.or ((op_neD hu).or ((op_neS hu).or (op_neLn hu)))) fun x y H Q h => by
  unfold uNe3 at h
  split at h
  · exact .inl ⟨by assumption, h⟩
  · exact .inr h
theorem op_isB : OpR X (compareOp .Is) (fun x y H Q => ∃ j k, x = .bl j ∧ y = .bl k ∧ Q (.bl (decide (j = k))) H) := by
  intro pins s σ H x y v u Q I rx ry h
  obtain ⟨j, k, rfl, rfl, q⟩ := h
  cases rx
  cases ry
  cases j <;> cases k <;> exact wpAny_pure (fin_bl I q rfl)
theorem op_isnotB : OpR X (compareOp .IsNot) (fun x y H Q => ∃ j k, x = .bl j ∧ y = .bl k ∧ Q (.bl (!decide (j = k))) H) := by
  intro pins s σ H x y v u Q I rx ry h
  obtain ⟨j, k, rfl, rfl, q⟩ := h
  cases rx
  cases ry
  cases j <;> cases k <;> exact wpAny_pure (fin_bl I q rfl)
theorem ou_is3 : OpR X (compareOp .Is) (uIs3 false) := OpRi (op_isN.or op_isB) fun x y H Q h => by
  unfold uIs3 at h
  split at h
  · exact .inl ⟨rfl, h⟩
  · split at h
    · exact .inr ⟨_, _, rfl, rfl, h⟩
    · exact h.elim
  · exact h.elim
theorem ou_isnot3 : OpR X (compareOp .IsNot) (uIs3 true) := OpRi (op_notN.or op_isnotB) fun x y H Q h => by
  unfold uIs3 at h
  split at h
  · exact .inl ⟨rfl, h⟩
  · split at h
    · exact .inr ⟨_, _, rfl, rfl, h⟩
    · exact h.elim
  · exact h.elim
set_option maxHeartbeats 200000 in
theorem ou_inE (hu : X.A.units + 64 < cLine) : OpR X (compareOp .In) (uInE X.K) := fun pins s σ H x y v u Q I rx ry h => by
  unfold uInE at h
  split at h
  · rename_i t
    obtain ⟨vs, e1, h⟩ := oK_ex h
    split at h
    · rename_i e z
      obtain ⟨he, h⟩ := h
      cases (show u = Value.ref t from ry)
      obtain ⟨us, r1, p1, _⟩ := I.tuple (rdT_sq e1)
      obtain ⟨es, r2, p2, _⟩ := I.list (rdL_sq he)
      cases r2
      obtain ⟨u1, u2, rfl, q1, q2⟩ : ∃ u1 u2, us = [u1, u2] ∧ RelV (.ref e) u1 ∧ RelV (.str z) u2 := by
        cases r1 with
        | cons q1 rr =>
          cases rr with
          | cons q2 rr =>
            cases rr
            exact ⟨_, _, rfl, q1, q2⟩
      cases (show u1 = Value.ref e from q1)
      obtain ⟨tz, rfl⟩ := q2
      have main : ∀ b1 b2 : Bool, SeqAt.EqAt X.A.in1 s (.ref e) v b1 → SeqAt.EqAt X.A.in1 s (.str z tz) v b2 → Q (.bl (b1 || b2)) H → wpAny (model X.prog X.w) X.A (compareOp .In v (.ref t)) (EP X pins σ Q) X.xe s := by
        intro b1 b2 k1 k2 q
        refine SeqAt.in_tupleAt (fun y => match y with | .ref _ => b1 | _ => b2) (show s.heap.IsTuple t #[.ref e, .str z tz] from p1) (fun y hy => ?_) (fin_bl I q (by simp))
        simp only [Array.mem_def, List.mem_cons, List.not_mem_nil, or_false] at hy
        rcases hy with rfl | rfl
        · exact k1
        · exact k2
      have hu1 : X.A.in1.units < cLine := by show X.A.units + 1 < cLine; omega
      cases x with
      | non =>
        cases (show v = Value.none from rx)
        exact main false false (SeqAt.EqAt.list_none p2.isList hu1) (SeqAt.EqAt.str_none z tz) h
      | str w =>
        obtain ⟨tw, rfl⟩ := rx
        refine main false (z == w) (SeqAt.EqAt.list_str w tw p2.isList hu1) (SeqAt.EqAt.str_str z tz w tw) ?_
        rw [Bool.false_or, show (z == w) = decide (z = w) from by by_cases g : z = w <;> simp [g]]
        exact h
      | ref a =>
        cases (show v = Value.ref a from rx)
        obtain ⟨xs, ea, h⟩ := oK_ex h
        obtain ⟨ws, r3, p3, _⟩ := I.list (rdL_sq ea)
        have l3 := r3.length
        refine main xs.isEmpty false ?_ (SeqAt.EqAt.str_list z tz p3.isList hu1) (by rw [Bool.or_false]; exact h)
        cases xs with
        | nil =>
          cases r3
          by_cases g : e = a
          · subst g; exact SeqAt.EqAt.same _
          · have r := SeqAt.RcAt.lists (A := X.A.in1) (e := fun _ => true) p2.isList p3.isList rfl hu1 fun j h1 _ => absurd h1 (by simp)
            exact SeqAt.EqAt.of_refs g r
        | cons x0 xs =>
          by_cases g : e = a
          · subst g
            rw [he] at ea; cases ea
          · exact SeqAt.EqAt.of_refs g (SeqAt.RcAt.lists_lengths (A := X.A.in1) p2.isList p3.isList (by simp at l3 ⊢; omega) hu1)
      | _ => exact h.elim
    · exact h.elim
  · exact h.elim
end
end U

namespace U
open PySem PySem.Spec PyProof.Rows L2
/-- a comprehension over any walk; each item gives at most one -/
theorem lcw {J : It} {n : Nat} {G : Hp → Prop} {Y : Nat → Hp → V → Hp → Prop} (w : Walk J n G Y) {wi : TI} {g : TG} {tt : TT} {te : TE} {vs : List Nat} {σ : L2.St} {H H1 : Hp} {Q : VK} (hx : ∀ R : It → Hp → Prop, R J H1 → wi σ H R) (hG : ∀ H', Ex H1 H' → G H') (hz : n < sizeLine)
    (os : List (Option V)) (hl : os.length = n)
    (hs : ∀ (i : Nat) x o H' H2 (A : V → Hp → Prop) (B : Hp → Prop), Y i H' x H2 → os[i]? = some o → Ex H1 H' → (∀ w H3, o = some w → Ex H' H3 → A w H3) → (o = none → ∀ H3, Ex H' H3 → B H3) →
      g x (wipe σ vs) H2 fun σ2 H2 => wipe σ2 vs = wipe σ vs ∧ tt σ2 H2 fun b H3 => bB b (te σ2 H3 A) (B H3))
    (hd : ∀ D H, H1 D = none → Ex H1 H → H D = some (.lst (os.filterMap id)) → Q (.ref D) H) : tLc wi g tt te vs σ H Q := by
  refine hx _ fun D hD => ?_
  refine lc_it w (fun i H => H1 D = none ∧ Ex H1 H ∧ H D = some (.lst ((os.take i).filterMap id))) ⟨hD, Ex.new hD, by rw [upd_same]; simp⟩ (fun i H _ p => hG H p.2.1) ?_ ?_
  · rintro i x H' H2 hi ⟨hD, e, hl'⟩ hy
    obtain ⟨o, ho⟩ : ∃ o, os[i]? = some o := ⟨os[i], List.getElem?_eq_getElem (by omega)⟩
    have tm := take_fm (β := Unit) ho
    have q := hs i x o H' H2 (fun y H4 => ∃ acc, H4 D = some (.lst acc) ∧ acc.length < sizeLine ∧ H1 D = none ∧ Ex H1 (upd H4 D (.lst (acc ++ [y]))) ∧ upd H4 D (.lst (acc ++ [y])) D = some (.lst ((os.take (i + 1)).filterMap id)))
      (fun H3 => H1 D = none ∧ Ex H1 H3 ∧ H3 D = some (.lst ((os.take (i + 1)).filterMap id))) hy ho e (fun w H3 hw e2 => ⟨_, e2 D _ hl', ?_, hD, Ex.mut (e.trans e2) hD, ?_⟩) (fun hw H3 e2 => ⟨hD, e.trans e2, ?_⟩)
    · simp only [bB_if] at q
      exact q
    · have := List.length_filterMap_le id (os.take i)
      rw [List.length_take] at this
      omega
    · rw [upd_same, tm, hw]; rfl
    · rw [e2 D _ hl', tm, hw]; simp
  · rintro H' ⟨_, e, hl'⟩
    rw [← hl, List.take_length] at hl'
    exact hd D H' hD e hl'

/-! ### == of data without truths -/
mutual
def pureD : PyData → Bool
  | .str _ => true
  | .int _ => true
  | .list ds => pureAll ds
  | .tuple ds => pureAll ds
  | _ => false
def pureAll : List PyData → Bool
  | [] => true
  | d :: ds => pureD d && pureAll ds
end
mutual
theorem eqv_iff : ∀ (d e : PyData), pureD d = true → pureD e = true → (PyData.eqv d e = true ↔ d = e)
  | .str x, .str y, _, _ => by simp [PyData.eqv]
  | .int x, .int y, _, _ => by simp [PyData.eqv]
  | .list xs, .list ys, h1, h2 => by
    rw [PyData.eqv, eqvAll_iff xs ys (by simpa only [pureD] using h1) (by simpa only [pureD] using h2)]; simp
  | .tuple xs, .tuple ys, h1, h2 => by
    rw [PyData.eqv, eqvAll_iff xs ys (by simpa only [pureD] using h1) (by simpa only [pureD] using h2)]; simp
  | .str _, .int _, _, _ => by simp [PyData.eqv]
  | .str _, .list _, _, _ => by simp [PyData.eqv]
  | .str _, .tuple _, _, _ => by simp [PyData.eqv]
  | .int _, .str _, _, _ => by simp [PyData.eqv]
  | .int _, .list _, _, _ => by simp [PyData.eqv]
  | .int _, .tuple _, _, _ => by simp [PyData.eqv]
  | .list _, .str _, _, _ => by simp [PyData.eqv]
  | .list _, .int _, _, _ => by simp [PyData.eqv]
  | .list _, .tuple _, _, _ => by simp [PyData.eqv]
  | .tuple _, .str _, _, _ => by simp [PyData.eqv]
  | .tuple _, .int _, _, _ => by simp [PyData.eqv]
  | .tuple _, .list _, _, _ => by simp [PyData.eqv]
  | .none, _, h, _ => by simp [pureD] at h
  | .bool _, _, h, _ => by simp [pureD] at h
  | .dict _, _, h, _ => by simp [pureD] at h
  | .str _, .none, _, h => by simp [pureD] at h
  | .str _, .bool _, _, h => by simp [pureD] at h
  | .str _, .dict _, _, h => by simp [pureD] at h
  | .int _, .none, _, h => by simp [pureD] at h
  | .int _, .bool _, _, h => by simp [pureD] at h
  | .int _, .dict _, _, h => by simp [pureD] at h
  | .list _, .none, _, h => by simp [pureD] at h
  | .list _, .bool _, _, h => by simp [pureD] at h
  | .list _, .dict _, _, h => by simp [pureD] at h
  | .tuple _, .none, _, h => by simp [pureD] at h
  | .tuple _, .bool _, _, h => by simp [pureD] at h
  | .tuple _, .dict _, _, h => by simp [pureD] at h
theorem eqvAll_iff : ∀ (xs ys : List PyData), pureAll xs = true → pureAll ys = true → (PyData.eqvAll xs ys = true ↔ xs = ys)
  | [], [], _, _ => by simp [PyData.eqvAll]
  | [], _ :: _, _, _ => by simp [PyData.eqvAll]
  | _ :: _, [], _, _ => by simp [PyData.eqvAll]
  | x :: xs, y :: ys, h1, h2 => by
    simp only [pureAll, Bool.and_eq_true] at h1 h2
    rw [PyData.eqvAll, Bool.and_eq_true, eqv_iff x y h1.1 h2.1, eqvAll_iff xs ys h1.2 h2.2]; simp
end

theorem lay_all : ∀ {ds : List PyData} {n : Nat}, (∀ d ∈ ds, PyData.canLay0 d = true ∧ d.depth ≤ n) → PyData.canLayAll0 ds = true ∧ PyData.depthAll ds ≤ n
  | [], n, _ => ⟨by simp only [PyData.canLayAll0], by simp only [PyData.depthAll]; omega⟩
  | d :: ds, n, h => by
    obtain ⟨h1, h2⟩ := lay_all (ds := ds) (n := n) fun e he => h e (List.mem_cons_of_mem _ he)
    have h0 := h d List.mem_cons_self
    exact ⟨by simp only [PyData.canLayAll0, h0.1, h1, Bool.and_self], by simp only [PyData.depthAll]; have := h0.2; omega⟩
theorem lay_list {ds : List PyData} {n : Nat} (h : ∀ d ∈ ds, PyData.canLay0 d = true ∧ d.depth ≤ n) : PyData.canLay0 (.list ds) = true ∧ (PyData.list ds).depth ≤ n + 1 := by
  obtain ⟨h1, h2⟩ := lay_all h
  exact ⟨by simp only [PyData.canLay0, h1], by simp only [PyData.depth]; omega⟩
theorem lay_tup {ds : List PyData} {n : Nat} (h : ∀ d ∈ ds, PyData.canLay0 d = true ∧ d.depth ≤ n) : PyData.canLay0 (.tuple ds) = true ∧ (PyData.tuple ds).depth ≤ n + 1 := by
  obtain ⟨h1, h2⟩ := lay_all h
  exact ⟨by simp only [PyData.canLay0, h1], by simp only [PyData.depth]; omega⟩
theorem lay_str {z : Str} (h : sok z) : PyData.canLay0 (.str z) = true ∧ (PyData.str z).depth ≤ 0 := by
  refine ⟨?_, by simp only [PyData.depth]; omega⟩
  simp only [PyData.canLay0, PyData.strOk]
  rw [Array.all_eq_true']
  intro c hc
  exact decide_eq_true (h c (Array.mem_def.mp hc))
theorem lay_int (i : Int) : PyData.canLay0 (.int i) = true ∧ (PyData.int i).depth ≤ 0 := ⟨by simp only [PyData.canLay0], by simp only [PyData.depth]; omega⟩
theorem lay_tok {t : Tk} (h : sok t.1 ∧ sok t.2) : PyData.canLay0 (tokD t) = true ∧ (tokD t).depth ≤ 1 := lay_tup (n := 0) (by
  intro d hd
  simp only [List.mem_cons, List.not_mem_nil, or_false] at hd
  rcases hd with rfl | rfl
  · exact lay_str h.1
  · exact lay_str h.2)
theorem lay_text {ts : List Tk} (h : SokT ts) : PyData.canLay0 (textD ts) = true ∧ (textD ts).depth ≤ 2 := lay_list (n := 1) (by
  intro d hd
  obtain ⟨t, ht, rfl⟩ := List.mem_map.mp hd
  exact lay_tok (h t ht))
theorem shaped_of {d : PyData} {n : Nat} (h : PyData.canLay0 d = true ∧ d.depth ≤ n) (hn : n ≤ 64) : SeqAt.shaped d = true := by
  unfold SeqAt.shaped
  rw [h.1, decide_eq_true (Nat.le_trans h.2 hn)]; rfl
/-- == and != of two pure data behind addresses -/
theorem eq_pure {K : PySem.W.Frag} {b b' : Addr} {H : Hp} {p p' : Addr} {d e : PyData} {Q : VK} (hx : Dn b H (.ref p) d) (hy : Dn b' H (.ref p') e) (pd : pureD d = true) (pe : pureD e = true) (hd : d.hasDict = false) (he : e.hasDict = false) (sd : SeqAt.shaped d = true) (se : SeqAt.shaped e = true)
    (q : ∀ c : Bool, (c = true ↔ d = e) → Q (.bl c) H) : uEq2 K (.ref p) (.ref p') H Q := .inl ⟨d, e, Dn.dp d hx hd, Dn.dp e hy he, sd, se, q _ (eqv_iff d e pd pe)⟩
theorem ne_pure {K : PySem.W.Frag} {b b' : Addr} {H : Hp} {p p' : Addr} {d e : PyData} {Q : VK} (hx : Dn b H (.ref p) d) (hy : Dn b' H (.ref p') e) (pd : pureD d = true) (pe : pureD e = true) (hd : d.hasDict = false) (he : e.hasDict = false) (sd : SeqAt.shaped d = true) (se : SeqAt.shaped e = true)
    (q : ∀ c : Bool, (c = true ↔ d = e) → Q (.bl (!c)) H) : uNe2 K (.ref p) (.ref p') H Q := .inl ⟨d, e, Dn.dp d hx hd, Dn.dp e hy he, sd, se, q _ (eqv_iff d e pd pe)⟩
mutual
theorem pure_nodict : ∀ d : PyData, pureD d = true → d.hasDict = false
  | .str _, _ => by simp [PyData.hasDict]
  | .int _, _ => by simp [PyData.hasDict]
  | .list ds, h => by rw [PyData.hasDict]; exact pure_nodictAll ds (by simpa only [pureD] using h)
  | .tuple ds, h => by rw [PyData.hasDict]; exact pure_nodictAll ds (by simpa only [pureD] using h)
  | .none, h => by simp [pureD] at h
  | .bool _, h => by simp [pureD] at h
  | .dict _, h => by simp [pureD] at h
theorem pure_nodictAll : ∀ ds : List PyData, pureAll ds = true → PyData.hasDictAll ds = false
  | [], _ => by simp [PyData.hasDictAll]
  | d :: ds, h => by
    simp only [pureAll, Bool.and_eq_true] at h
    simp only [PyData.hasDictAll, pure_nodict d h.1, pure_nodictAll ds h.2, Bool.or_self]
end
theorem pureAll_of : ∀ {ds : List PyData}, (∀ d ∈ ds, pureD d = true) → pureAll ds = true
  | [], _ => by simp [pureAll]
  | d :: ds, h => by simp [pureAll, h d List.mem_cons_self, pureAll_of fun e he => h e (List.mem_cons_of_mem _ he)]
theorem pure_tok (t : Tk) : pureD (tokD t) = true := by simp [tokD, pureD, pureAll]
theorem pure_text (ts : List Tk) : pureD (textD ts) = true := by
  unfold textD; rw [pureD]
  exact pureAll_of fun d hd => by obtain ⟨t, _, rfl⟩ := List.mem_map.mp hd; exact pure_tok t
theorem kd_row {K : PySem.W.Frag} {H : Hp} {a : Addr} {xs : List V} (h : rdS K H a = some xs) : ∃ k, kdOf K H a = some k ∧ k.sq K H xs := by
  unfold rdS at h
  unfold kdOf
  cases e : rdL K H a with
  | some ys => rw [e] at h; cases h; exact ⟨.l a, rfl, rdL_sq e⟩
  | none => rw [e] at h; have h : rdT K H a = some xs := h; rw [h]; exact ⟨.t a, rfl, rdT_sq h⟩
end U

namespace U
open PySem PySem.Spec PyProof.Rows L2
/-! ### lines of pages, as lists of signs -/
abbrev TkL := List Nat × List Nat
def toTk (t : TkL) : Tk := (SX.S t.1, SX.S t.2)
def wordL (w : List Nat) : Bool := decide (1 ≤ w.length) && decide (w.length ≤ 30) && w.all letter
theorem isWord_S (w : List Nat) : isWord (SX.S w) = wordL w := by
  unfold isWord wordL
  rw [SX.S_len]
/-- split at a sign -/
def spl (s : Nat) (w l : List Nat) : List (List Nat) := TL.spl [s] 0 w l
theorem spl_nil (s : Nat) (w : List Nat) : spl s w [] = [w] := rfl
theorem spl_cons (s : Nat) (w : List Nat) (c : Nat) (r : List Nat) : spl s w (c :: r) = if c = s then w :: spl s [] r else spl s (w ++ [c]) r := by
  unfold spl
  show (if TL.pre [s] (c :: r) = true then w :: TL.spl [s] 0 [] r else TL.spl [s] 0 (w ++ [c]) r) = _
  have e : TL.pre [s] (c :: r) = decide (c = s) := by
    simp [TL.pre]
    try (constructor <;> intro h <;> omega)
  rw [e]
  simp
theorem split_S (z : Str) (a : String) {s : Nat} (h : (Str.ofString a).cps.toList = [s]) (hs : s < 256) : Txt.split z (Str.ofString a) = (spl s [] (sl z)).map SX.S := by
  have e2 : Str.ofString a = SX.S [s] := toList_inj h
  rw [e2]
  have := SX.split_S (a := sl z) (b := [s]) (by simp) (by simp [hs])
  rw [SX.S_tl z] at this
  exact this
theorem spl_ne (s : Nat) : ∀ (l w : List Nat), spl s w l ≠ []
  | [], w => by rw [spl_nil]; simp
  | c :: r, w => by
    rw [spl_cons]
    split
    · simp
    · exact spl_ne s r _
theorem spl_last (s : Nat) : ∀ (l w : List Nat), (spl s w l).getLast? = some [] ↔ (l = [] ∧ w = []) ∨ l.getLast? = some s
  | [], w => by rw [spl_nil]; simp
  | c :: r, w => by
    rw [spl_cons]
    by_cases hc : c = s
    · rw [if_pos hc]
      have ih := spl_last s r []
      have hn := spl_ne s r []
      have e : (w :: spl s [] r).getLast? = (spl s [] r).getLast? := by
        cases h : spl s [] r with
        | nil => exact absurd h hn
        | cons x xs => simp [List.getLast?_cons]
      rw [e, ih]
      cases r with
      | nil => simp [hc]
      | cons d r => simp [List.getLast?_cons]
    · rw [if_neg hc]
      have ih := spl_last s r (w ++ [c])
      rw [ih]
      cases r with
      | nil => simp; exact fun h => hc h
      | cons d r => simp [List.getLast?_cons]
theorem spl_size (s : Nat) : ∀ (l w : List Nat), ((spl s w l).map (·.length)).sum + (spl s w l).length = l.length + w.length + 1
  | [], w => by rw [spl_nil]; simp
  | c :: r, w => by
    rw [spl_cons]
    split
    · have := spl_size s r []
      simp at this ⊢; omega
    · have := spl_size s r (w ++ [c])
      simp at this ⊢; omega
theorem mem_sum : ∀ {ps : List (List Nat)} {p : List Nat}, p ∈ ps → p.length ≤ (ps.map (·.length)).sum
  | q :: ps, p, h => by
    rw [List.map_cons, List.sum_cons]
    rcases List.mem_cons.mp h with rfl | h
    · omega
    · have := mem_sum h; omega
theorem spl_mem {s : Nat} {l p : List Nat} (h : p ∈ spl s [] l) : p.length ≤ l.length := by
  have h1 := spl_size s l []
  have h2 := mem_sum h
  have h3 : 0 < (spl s [] l).length := List.length_pos_of_mem h
  simp at h1; omega
theorem spl_sub (s : Nat) {P : Nat → Prop} : ∀ (l w : List Nat), (∀ c ∈ l, P c) → (∀ c ∈ w, P c) → ∀ p ∈ spl s w l, ∀ c ∈ p, P c
  | [], w, _, h2 => by rw [spl_nil]; intro p hp; have : p = w := by simpa using hp
                       subst this; exact h2
  | c :: r, w, h1, h2 => by
    have h1' : ∀ d ∈ r, P d := fun d hd => h1 d (List.mem_cons_of_mem _ hd)
    rw [spl_cons]
    split
    · intro p hp
      rcases List.mem_cons.mp hp with rfl | hp
      · exact h2
      · exact spl_sub s r [] h1' (fun _ h => by cases h) p hp
    · refine spl_sub s r _ h1' (fun d hd => ?_)
      rcases List.mem_append.mp hd with hd | hd
      · exact h2 d hd
      · have : d = c := by simpa using hd
        subst this; exact h1 d List.mem_cons_self
/-- the parts of a line -/
def blanks (row : List Nat) : Nat := (row.takeWhile (fun c => decide (c = 32))).length
def prt (row : List Nat) : List (List Nat) := spl 32 [] (row.drop (blanks row))
def fol (row : List Nat) : Bool := decide (1 < (prt row).length) && decide ((prt row).getLast? = some [])
def wds (row : List Nat) : List (List Nat) := if fol row = true then (prt row).dropLast else prt row
def okl (row : List Nat) : Bool := decide (blanks row ≤ 3) && (wds row).all wordL
theorem take_blanks : ∀ row : List Nat, row.takeWhile (fun c => decide (c = 32)) = List.replicate (blanks row) 32
  | [] => rfl
  | c :: r => by
    unfold blanks
    rw [List.takeWhile_cons]
    by_cases h : c = 32
    · have ih := take_blanks r
      unfold blanks at ih
      rw [decide_eq_true h]
      show c :: List.takeWhile _ r = List.replicate (c :: List.takeWhile _ r).length 32
      rw [List.length_cons, List.replicate_succ, ← ih, h]
    · rw [decide_eq_false h]; rfl
theorem row_cut (row : List Nat) : row = List.replicate (blanks row) 32 ++ row.drop (blanks row) := by
  rw [← take_blanks]
  conv => lhs; rw [← List.takeWhile_append_dropWhile (p := fun c => decide (c = 32)) (l := row)]
  congr 1
  unfold blanks
  conv => rhs; rw [← List.takeWhile_append_dropWhile (p := fun c => decide (c = 32)) (l := row)]
  rw [List.takeWhile_append_dropWhile]
  have := List.drop_left (l₁ := row.takeWhile (fun c => decide (c = 32))) (l₂ := row.dropWhile (fun c => decide (c = 32)))
  rw [List.takeWhile_append_dropWhile] at this
  exact this.symm
theorem blanks_le (row : List Nat) : blanks row ≤ row.length := by
  unfold blanks
  exact (List.takeWhile_sublist _).length_le
/-- a line that is right ends with a blank just where a soft break follows -/
theorem fol_last {row : List Nat} (h : okl row = true) : fol row = true ↔ row.getLast? = some 32 := by
  unfold okl at h
  rw [Bool.and_eq_true] at h
  have hw := h.2
  have hl := spl_last 32 (row.drop (blanks row)) []
  have hne : row.drop (blanks row) ≠ [] := fun e => by
    have ep : prt row = [[]] := by unfold prt; rw [e, spl_nil]
    have ef : fol row = false := by unfold fol; rw [ep]; rfl
    unfold wds at hw
    rw [ef, ep] at hw
    revert hw; decide
  have e1 : row.getLast? = (row.drop (blanks row)).getLast? := by
    conv => lhs; rw [row_cut row]
    rw [List.getLast?_append]
    cases hh : (row.drop (blanks row)).getLast? with
    | none => exact absurd (List.getLast?_eq_none_iff.mp hh) hne
    | some c => rfl
  rw [e1]
  constructor
  · intro hf
    unfold fol at hf
    rw [Bool.and_eq_true, decide_eq_true_eq, decide_eq_true_eq] at hf
    rcases hl.mp hf.2 with ⟨e, _⟩ | e
    · exact absurd e hne
    · exact e
  · intro hb
    have h2 := hl.mpr (.inr hb)
    unfold fol
    rw [Bool.and_eq_true, decide_eq_true_eq, decide_eq_true_eq]
    refine ⟨?_, h2⟩
    rcases Nat.lt_or_ge 1 (prt row).length with h3 | h3
    · exact h3
    · exfalso
      have h4 : fol row = false := by unfold fol; rw [decide_eq_false (by omega)]; rfl
      unfold wds at hw
      rw [h4] at hw
      have hp : (prt row).getLast? = some [] := h2
      have := List.all_eq_true.mp hw [] (List.mem_of_getLast? hp)
      revert this; decide
/-! rows of lines -/
def aheadR (rows : List (List Nat)) (i : Nat) : List Nat := if 0 < i then rows.getD (i - 1) [] else []
def behindR (rows : List (List Nat)) (i : Nat) : List Nat := if i + 1 < rows.length then rows.getD (i + 1) [] else []
def rightR (rows : List (List Nat)) (i : Nat) : Bool :=
  if rows.getD i [] = [] then !decide (aheadR rows i = []) && !decide (behindR rows i = [])
  else okl (rows.getD i []) && (!fol (rows.getD i []) || !decide (behindR rows i = []))
def kindR (rows : List (List Nat)) (i : Nat) : Nat := if 0 < i ∧ rows.getD (i - 1) [] ≠ [] then (if (rows.getD (i - 1) []).getLast? = some 32 then 47 else 124) else 35
def rowT (k : Nat) (row : List Nat) : List TkL := if row = [] then [] else match wds row with
  | [] => []
  | w :: r => ([k, 48 + blanks row], w) :: r.map fun v => ([32], v)
def textR (rows : List (List Nat)) : Nat → List TkL
  | 0 => []
  | i + 1 => textR rows i ++ rowT (kindR rows i) (rows.getD i [])
theorem kind_next {rows : List (List Nat)} {i : Nat} (h : rightR rows i = true) : kindR rows (i + 1) = if rows.getD i [] = [] then 35 else if fol (rows.getD i []) = true then 47 else 124 := by
  unfold kindR
  rw [Nat.add_sub_cancel]
  by_cases h1 : rows.getD i [] = []
  · rw [if_pos h1, if_neg (fun z => z.2 h1)]
  · rw [if_neg h1, if_pos ⟨by omega, h1⟩]
    unfold rightR at h
    rw [if_neg h1, Bool.and_eq_true] at h
    have := fol_last h.1
    by_cases hf : fol (rows.getD i []) = true
    · rw [if_pos hf, if_pos (this.mp hf)]
    · rw [if_neg hf, if_neg (fun z => hf (this.mpr z))]
theorem wds_ne {row : List Nat} : wds row ≠ [] := by
  unfold wds
  split
  · rename_i h
    unfold fol at h
    rw [Bool.and_eq_true, decide_eq_true_eq] at h
    intro e
    have := congrArg List.length e
    rw [List.length_dropLast] at this
    simp at this; omega
  · exact spl_ne 32 _ _
theorem wds_len (row : List Nat) : (wds row).length ≤ row.length + 1 := by
  have h := spl_size 32 (row.drop (blanks row)) []
  have h1 : (wds row).length ≤ (prt row).length := by
    unfold wds
    split
    · rw [List.length_dropLast]; omega
    · exact Nat.le_refl _
  have h2 : (prt row).length ≤ (row.drop (blanks row)).length + 1 := by unfold prt; simp at h ⊢; omega
  rw [List.length_drop] at h2
  omega
theorem wds_mem {row w : List Nat} (h : w ∈ wds row) : w ∈ prt row := by
  unfold wds at h
  split at h
  · exact List.dropLast_subset _ h
  · exact h
theorem rowT_len (k : Nat) (row : List Nat) : (rowT k row).length ≤ row.length + 1 := by
  unfold rowT
  split
  · simp
  · have := wds_len row
    split
    · simp
    · rename_i w r e
      rw [e] at this
      simp at this ⊢; omega
def tot (rows : List (List Nat)) (i : Nat) : Nat := ((rows.take i).map (fun r => r.length + 1)).sum
theorem tot_succ (rows : List (List Nat)) (i : Nat) (h : i < rows.length) : tot rows (i + 1) = tot rows i + ((rows.getD i []).length + 1) := by
  unfold tot
  rw [List.take_add_one, List.getElem?_eq_getElem h, List.map_append, List.sum_append, List.getD_eq_getElem?_getD, List.getElem?_eq_getElem h]
  simp
theorem textR_len (rows : List (List Nat)) : ∀ i, i ≤ rows.length → (textR rows i).length ≤ tot rows i
  | 0, _ => by simp [textR]
  | i + 1, h => by
    have ih := textR_len rows i (by omega)
    have h2 := rowT_len (kindR rows i) (rows.getD i [])
    rw [textR, List.length_append, tot_succ rows i (by omega)]; omega
theorem tot_spl (l : List Nat) : tot (spl 10 [] l) (spl 10 [] l).length = l.length + 1 := by
  have h := spl_size 10 l []
  unfold tot
  rw [List.take_length]
  have e : ∀ ps : List (List Nat), (ps.map fun r => r.length + 1).sum = (ps.map (·.length)).sum + ps.length := by
    intro ps
    induction ps with
    | nil => rfl
    | cons p ps ih => rw [List.map_cons, List.sum_cons, ih, List.map_cons, List.sum_cons, List.length_cons]; omega
  rw [e]; simp at h ⊢; omega
/-- the tokens of lines that are right are tokens -/
theorem kindR_in (rows : List (List Nat)) (i : Nat) : kindR rows i = 35 ∨ kindR rows i = 124 ∨ kindR rows i = 47 := by
  unfold kindR; split
  · split <;> simp
  · simp
theorem rowT_ok {k : Nat} {row : List Nat} (hk : k = 35 ∨ k = 124 ∨ k = 47) (h : row ≠ [] → okl row = true) : ∀ t ∈ rowT k row, isMarkL t.1 = true ∧ wordL t.2 = true := by
  unfold rowT
  split
  · intro t ht; cases ht
  · rename_i hr
    have h := h hr
    unfold okl at h
    rw [Bool.and_eq_true, decide_eq_true_eq] at h
    split
    · intro t ht; cases ht
    · rename_i w r e
      rw [e, List.all_cons, Bool.and_eq_true] at h
      intro t ht
      rcases List.mem_cons.mp ht with rfl | ht
      · refine ⟨?_, h.2.1⟩
        show ((decide (k = 35) || decide (k = 124) || decide (k = 47)) && (decide (48 ≤ 48 + blanks row) && decide (48 + blanks row ≤ 51))) = true
        rw [decide_eq_true (show 48 ≤ 48 + blanks row by omega), decide_eq_true (show 48 + blanks row ≤ 51 by omega)]
        rcases hk with rfl | rfl | rfl <;> rfl
      · obtain ⟨v, hv, rfl⟩ := List.mem_map.mp ht
        exact ⟨rfl, List.all_eq_true.mp h.2.2 v hv⟩
theorem textR_ok {rows : List (List Nat)} : ∀ i, (∀ j < i, rightR rows j = true) → ∀ t ∈ textR rows i, isMarkL t.1 = true ∧ wordL t.2 = true
  | 0, _ => fun t ht => by cases ht
  | i + 1, h => by
    have ih := textR_ok i fun j hj => h j (by omega)
    intro t ht
    rw [textR] at ht
    rcases List.mem_append.mp ht with ht | ht
    · exact ih t ht
    · refine rowT_ok (kindR_in rows i) (fun hr => ?_) t ht
      have := h i (by omega)
      unfold rightR at this
      rw [if_neg hr, Bool.and_eq_true] at this
      exact this.1
end U

/-! ### objects: methods by tables, making, special methods -/
namespace U
open PySem PySem.Spec PyProof.Rows L2
/-- the callee runs, somewhere below the body -/
theorem run_sub {X : Cx} {CX : CXT} {k : Nat} {f : Addr} {sp : Sp} {E : XK} {Q : VK} {pins : List (Addr × Obj)} {σ : L2.St} {H : Hp} {s : Shared} {us : List Value} {vs : List V} {A : Around} (F : FnR X.prog X.w X.K X.mg X.base CX k f sp) (sb : Sub X k A) (hx : PassesAt CX X σ E)
    (I : Inv X pins σ H s) (r : Vals vs us) (h : sp vs H Q E) : wpAny (model X.prog X.w) A (call (.ref f) us) (EP X pins σ Q) X.xe s := by
  have e := I.env0
  have e0 : Env0 X.prog X.w X.K X.mg X.base A X.stack s H := ⟨by rw [sb.fr]; exact e.frames, e.mod, e.bs, e.bsz, e.funs, e.frf, e.hok, e.bare⟩
  refine wpAny_call (codeAny_mono (F A X.stack s H us vs Q E sb.room e0 r h) fun r s' hq => ?_)
  match r, hq with
  | .error er, hq => exact hx pins H s er s' I hq
  | .ok (.ret u), hq => exact I.after hq
theorem sub_self {X : Cx} {k : Nat} (hr : Room k X.A) : Sub X k X.A := ⟨hr, rfl⟩
theorem raw0 {P : Program} {w : World} {K : PySem.W.Frag} {mg : Str → Option Value} {base : Heap} {CX : CXT} {k : Nat} {f : Addr} {fd : FuncData} {ps : List Str} {sp : Sp} (F : FnOk P w K mg base CX k f fd ps sp) (hb : Binds K fd ps []) : FnR P w K mg base CX k f sp :=
  (F.raw hb .nil).imp fun vs H Q E h => by rw [List.append_nil]; exact h
/-- one class of a table -/
structure MEnt (X : Cx) (m : Str) (E : L2.St → XK) (n : Nat) (C : Addr) (sp : Sp) : Prop where
  ex : ∃ CX k f, k ≤ n ∧ Cls X.K C ∧ Meth X.K C m f ∧ FnR X.prog X.w X.K X.mg X.base CX k f sp ∧ ∀ σ, PassesAt CX X σ (E σ)
inductive MTab (X : Cx) (m : Str) (E : L2.St → XK) (n : Nat) : List (Addr × Sp) → Prop
  | nil : MTab X m E n []
  | cons {C : Addr} {sp : Sp} {l : List (Addr × Sp)} : MEnt X m E n C sp → MTab X m E n l → MTab X m E n ((C, sp) :: l)
theorem MTab.at' {X : Cx} {m : Str} {E : L2.St → XK} {n : Nat} {C : Addr} {sp : Sp} : ∀ {l : List (Addr × Sp)}, MTab X m E n l → (C, sp) ∈ l → MEnt X m E n C sp
  | _, .cons h r, hm => by
    rcases List.mem_cons.mp hm with e | e
    · cases e; exact h
    · exact r.at' e
theorem pas0 {X : Cx} {E : XK} {σ : L2.St} : PassesAt CX0 X σ E := fun _ _ _ _ _ _ h => h.elim
theorem pasL {X : Cx} {σ : L2.St} : PassesAt (L2.CX X.prog X.w) X σ (WE (fun _ _ _ _ => False) σ) := fun pins H s e s' I h => passL pins σ H s e s' I h
theorem pasP {X : Cx} {CX : CXT} {E : XK} {σ : L2.St} (h : Passes CX X E) : PassesAt CX X σ (WE (fun cls d _ H => E cls d H) σ) := fun pins H s e s' I c => h pins σ H s e s' I c
theorem ment {X : Cx} {m : Str} {E : L2.St → XK} {n k : Nat} {C f : Addr} {sp : Sp} {CX : CXT} {fd : FuncData} {ps : List Str} (c : Cls X.K C) (hm : Meth X.K C m f) (F : FnOk X.prog X.w X.K X.mg X.base CX k f fd ps sp) (hb : Binds X.K fd ps []) (hx : ∀ σ, PassesAt CX X σ (E σ)) (hk : k ≤ n := by decide) : MEnt X m E n C sp :=
  ⟨CX, k, f, hk, c, hm, (F.raw hb .nil).imp fun vs H Q E h => by rw [List.append_nil]; exact h, hx⟩
/-- o.m(..) -/
def uMeth (m : Str) (tab : List (Addr × Sp)) (E : L2.St → XK) (ta : TE) (t : TA) : TE := fun σ H Q => ta σ H fun x H1 => ∃ C sp a dx fs, (C, sp) ∈ tab ∧ x = .ref a ∧ H1 a = some (.ins C dx fs) ∧ fs.lookup m = none ∧ t σ H1 fun vs H2 => sp (.ref a :: vs) H2 Q (E σ)
section
variable {X : Cx} {n : Nat} {m : Str} {E : L2.St → XK} {tab : List (Addr × Sp)} {o e : Expr} {es : List Expr} {ta : TE} {t : TA} {pos apos : Pos} {pl : Sem Bool}
theorem pe_methT (he : PE X o ta) (T : MTab X m E n tab) (hr : Room n X.A) (ha : PA X (e :: es) t)
    (hst : starEach (e :: es) X.env = (false, eval e X.env) :: starEach es X.env := by rfl) (hpl : (backTo pos (starEach es X.env)).any (·.1) = false := by rfl)
    (ht : eval (.Call (.Attribute o m apos) (e :: es) [] pos) X.env = (do
      let ov ← eval o X.env
      standAt apos.atName
      let (f, first) ← holding [ov] (getMethod ov m pl)
      callWith pos f first (backTo pos (starEach (e :: es) X.env)) (backToKw pos (keywordEach [] X.env))) := by rfl) :
    PE X (.Call (.Attribute o m apos) (e :: es) [] pos) (uMeth m tab E ta t) := by
  refine ⟨fun pins s σ H Q I h => ?_⟩
  refine PySem.W.methodCall_KW (pl := pl) (thn (he.run pins s σ H _ I h) fun u s1 ⟨x, H1, I1, rx, C, sp, a, dx, fs, hT, ex, ea, l, q⟩ => ?_) ht
  subst ex
  obtain rfl : u = Value.ref a := rx
  obtain ⟨CX, k, f, hk, c, hm, F, hx⟩ := (T.at' hT).ex
  refine getmeth_ok I1 ea c hm l ?_
  refine PySem.W.callWith_K (first := [.ref a]) (h₀ := X.base) I.ok.mod.kin hm.kp (thn (ha.run pos pins s1 σ H1 _ I1 q) fun us s2 ⟨vs, H2, I2, r, q2⟩ => ⟨I2.kIn, ?_⟩) hst hpl
  exact run_sub F (sub_self (hr.mono hk)) (hx σ) I2 (us := .ref a :: us) (vs := .ref a :: vs) (.cons rfl r) q2
theorem pe_methT0 (he : PE X o ta) (T : MTab X m E n tab) (hr : Room n X.A)
    (ht : eval (.Call (.Attribute o m apos) [] [] pos) X.env = (do
      let ov ← eval o X.env
      standAt apos.atName
      let (f, first) ← holding [ov] (getMethod ov m pl)
      callWith pos f first (backTo pos (starEach [] X.env)) (backToKw pos (keywordEach [] X.env))) := by rfl) :
    PE X (.Call (.Attribute o m apos) [] [] pos) (uMeth m tab E ta tNil) := by
  refine ⟨fun pins s σ H Q I h => ?_⟩
  refine PySem.W.methodCall_KW (pl := pl) (thn (he.run pins s σ H _ I h) fun u s1 ⟨x, H1, I1, rx, C, sp, a, dx, fs, hT, ex, ea, l, q⟩ => ?_) ht
  subst ex
  obtain rfl : u = Value.ref a := rx
  obtain ⟨CX, k, f, hk, c, hm, F, hx⟩ := (T.at' hT).ex
  refine getmeth_ok I1 ea c hm l ?_
  exact PySem.W.callWith_K0 (first := [.ref a]) I1.kIn hm.kp (run_sub F (sub_self (hr.mono hk)) (hx σ) I1 (us := [.ref a]) (vs := [.ref a]) (.cons rfl .nil) q)
end
/-! ### str(o), len(o) -/
/-- f(o) by a method of o's class -/
def uSp1 (tab : List (Addr × Sp)) (E : L2.St → XK) (ok : V → Prop) (ta : TE) : TE := fun σ H Q => ta σ H fun x H1 => ∃ C sp a dx fs, (C, sp) ∈ tab ∧ x = .ref a ∧ H1 a = some (.ins C dx fs) ∧ sp [.ref a] H1 (fun v H2 => ok v ∧ Q v H2) (E σ)
def okStr : V → Prop
  | .str _ => True
  | _ => False
def okLen : V → Prop
  | .int n => 0 ≤ n ∧ n < 2 ^ 63
  | _ => False
section
variable {X : Cx} {n : Nat} {E : L2.St → XK} {tab : List (Addr × Sp)} {e : Expr} {ta : TE} {p pos : Pos}
theorem sub_in1 {k : Nat} {A : Around} (s : Sub X (k + 1) A) : Sub X k A.in1 := ⟨s.room.in1, s.fr⟩
theorem pe_strO (T : MTab X "__str__" E n tab) (hr : Room (n + 2) X.A) (hg : Gl X "str") (hm : X.mg "str" = none) (ha : PE X e ta) (na : starEach [e] X.env = (false, eval e X.env) :: starEach [] X.env := by rfl) : PE X (.Call (.Name "str" p) [e] [] pos) (uSp1 tab E okStr ta) := by
  refine ⟨fun pins s σ H Q I h => ?_⟩
  refine Call_ (ld_blt I hg hm boot_str (PyProof.Rows.callWith_type1 (one_arg ha I h (fun v s2 x H2 I2 r q => ?_) na) na))
  obtain ⟨C, sp, a, dx, fs, hT, rfl, ea, q⟩ := q
  obtain rfl : v = .ref a := r
  obtain ⟨CX, k, f, hk, c, hm, F, hx⟩ := (T.at' hT).ex
  obtain ⟨mA, O, _⟩ := ins_get I2.hok ea
  obtain ⟨od, J, _⟩ := O.look
  have sb : Sub X k X.A.in1.in1 := sub_in1 (sub_in1 (sub_self (hr.mono (by omega))))
  refine PySem.W.kso_call sb.room.units0 I2.kIn J hm.at_ hm.fn (thn (run_sub F sb (hx σ) I2 (us := [.ref a]) (vs := [.ref a]) (.cons rfl .nil) q) fun u s3 ⟨w, H3, I3, rw_, ok, q3⟩ => ?_)
  cases w with
  | str y =>
    obtain ⟨t, rfl⟩ := rw_
    exact ⟨.str y, H3, I3, ⟨t, rfl⟩, q3⟩
  | _ => exact ok.elim
theorem pe_lenO (T : MTab X "__len__" E n tab) (hr : Room (n + 1) X.A) (hg : Gl X "len") (hm : X.mg "len" = none) (ha : PE X e ta) (na : starEach [e] X.env = (false, eval e X.env) :: starEach [] X.env := by rfl) : PE X (.Call (.Name "len" p) [e] [] pos) (uSp1 tab E okLen ta) := by
  refine ⟨fun pins s σ H Q I h => ?_⟩
  refine Call_ (ld_blt I hg hm boot_len (PyProof.Rows.callWith_builtin1 (one_arg ha I h (fun v s2 x H2 I2 r q => ?_) na) na))
  obtain ⟨C, sp, a, dx, fs, hT, rfl, ea, q⟩ := q
  obtain rfl : v = .ref a := r
  obtain ⟨CX, k, f, hk, c, hm, F, hx⟩ := (T.at' hT).ex
  obtain ⟨mA, O, _⟩ := ins_get I2.hok ea
  obtain ⟨od, J, _⟩ := O.look
  obtain ⟨mm, hF⟩ := I2.fr
  have sb : Sub X k X.A.in1 := sub_in1 (sub_self (hr.mono (by omega)))
  refine PySem.W.len_K hF I2.ok.mod.kin J hm.at_ hm.fn (thn (run_sub F sb (hx σ) I2 (us := [.ref a]) (vs := [.ref a]) (.cons rfl .nil) q) fun u s3 ⟨w, H3, I3, rw_, ok, q3⟩ => ?_)
  cases w with
  | int y =>
    obtain ⟨t, rfl⟩ := rw_
    exact ⟨ok, .int y, H3, I3.tok _, ⟨_, rfl⟩, q3⟩
  | _ => exact ok.elim
end
/-! ### making -/
/-- C(..) -/
def uMake (C : Addr) (sp : Sp) (dvs : List V) (E : L2.St → XK) (t : TA) : TE := fun σ H Q => t σ H fun vs H1 => ∀ x dx, H1 x = none → H1 dx = none → dx ≠ x →
  sp (.ref x :: (vs ++ dvs)) (upd (upd H1 dx (.own x)) x (.ins C dx [])) (fun v H2 => v = .non ∧ Q (.ref x) H2) (E σ)
/-- C(.., k = v, ..) -/
def uMakeK (C : Addr) (n m : Nat) (sp : Sp) (gV : List V → List V → List V) (E : L2.St → XK) (t tk : TA) : TE := fun σ H Q => t σ H fun vs H1 => tk σ H1 fun zs H2 => vs.length = n ∧ zs.length = m ∧ ∀ x dx, H2 x = none → H2 dx = none → dx ≠ x →
  sp (gV (.ref x :: vs) zs) (upd (upd H2 dx (.own x)) x (.ins C dx [])) (fun v H3 => v = .non ∧ Q (.ref x) H3) (E σ)
section
variable {X : Cx} {CX : CXT} {k n : Nat} {f C : Addr} {fd : FuncData} {ps ks : List Str} {sp : Sp} {E : L2.St → XK} {x : Str} {p pos : Pos} {e : Expr} {es : List Expr} {kws : List Keyword} {t tk : TA} {g : List Value → List Value → List Value} {gV : List V → List V → List V} {dvs : List V} {ds : List Value}
/-- behind __init__ -/
theorem mk_run {pins : List (Addr × Obj)} {σ : L2.St} {H : Hp} {s : Shared} {Q : VK} {us : List Value} {kw : List (Str × Value)} {ws : List Value} {zs : List V} (M : Mk X.K C f) (F : FnOk X.prog X.w X.K X.mg X.base CX k f fd ps sp) (hr : Room (k + 1) X.A) (hx : PassesAt CX X σ (E σ))
    (I : Inv X pins σ H s) (hb : ∀ s', X.K.In s'.heap → BindsTo s' fd ⟨Value.ref (s.heap.objs.size + 1) :: us, kw⟩ (ps.zip ws)) (rz : Vals zs ws)
    (hq : sp zs (upd (upd H s.heap.objs.size (.own (s.heap.objs.size + 1))) (s.heap.objs.size + 1) (.ins C s.heap.objs.size [])) (fun v H2 => v = .non ∧ Q (.ref (s.heap.objs.size + 1)) H2) (E σ)) :
    wpAny (model X.prog X.w) X.A (call (.ref C) us kw) (EP X pins σ Q) X.xe s := by
  have I2 := Inv.made (C := C) I
  refine wpAny_call (make_map (f := f) I.kIn M.makes M.init (beq_iff_eq.mp M.fn) (codeAny_mono (F.run _ X.stack _ _ ⟨Value.ref (s.heap.objs.size + 1) :: us, kw⟩ ws _ _ (E σ) (hr.make C us kw)
    (I2.env0.make C us kw) (hb _ I2.kIn) rz hq) fun r s' hq' => ?_))
  match r, hq' with
  | .error er, hq' => exact hx pins _ _ er s' I2 hq'
  | .ok (.ret u), hq' =>
    obtain ⟨v, H', I3, rv, ev, q3⟩ := I2.after hq'
    subst ev
    exact ⟨rv, ⟨V.ref (s.heap.objs.size + 1), H', I3, rfl, q3⟩⟩
theorem run_mkS {pins : List (Addr × Obj)} {σ : L2.St} {H : Hp} {s : Shared} {Q : VK} {us : List Value} {vs : List V} (M : Mk X.K C f) (F : FnOk X.prog X.w X.K X.mg X.base CX k f fd ps sp) (hr : Room (k + 1) X.A) (hb : Binds X.K fd ps ds) (hd : Vals dvs ds)
    (hx : PassesAt CX X σ (E σ)) (I : Inv X pins σ H s) (r : Vals vs us)
    (h : ∀ x dx, H x = none → H dx = none → dx ≠ x → sp (.ref x :: (vs ++ dvs)) (upd (upd H dx (.own x)) x (.ins C dx [])) (fun v H2 => v = .non ∧ Q (.ref x) H2) (E σ)) :
    wpAny (model X.prog X.w) X.A (call (.ref C) us) (EP X pins σ Q) X.xe s := by
  have hq := h (s.heap.objs.size + 1) s.heap.objs.size (I.hok.fresh (Nat.le_succ _)) (I.hok.fresh (Nat.le_refl _)) (Nat.ne_of_lt (Nat.lt_succ_self _))
  have r2 : Vals (V.ref (s.heap.objs.size + 1) :: (vs ++ dvs)) (Value.ref (s.heap.objs.size + 1) :: (us ++ ds)) := .cons rfl (r.append hd)
  have hl : (Value.ref (s.heap.objs.size + 1) :: us ++ ds).length = ps.length := by
    have e := r2.length
    rw [F.len _ _ _ _ hq] at e
    exact e.symm
  exact mk_run M F hr hx I (fun s' ki => hb s' (Value.ref (s.heap.objs.size + 1) :: us) ki hl) r2 hq
theorem run_mkK {pins : List (Addr × Obj)} {σ : L2.St} {H : Hp} {s : Shared} {Q : VK} {us ws : List Value} {vs zs : List V} (M : Mk X.K C f) (F : FnOk X.prog X.w X.K X.mg X.base CX k f fd ps sp) (hr : Room (k + 1) X.A) (hb : KBn X.K fd ps (n + 1) ks g gV) (hx : PassesAt CX X σ (E σ))
    (I : Inv X pins σ H s) (r : Vals vs us) (rz : Vals zs ws) (l1 : vs.length = n) (l2 : zs.length = ks.length)
    (h : ∀ x dx, H x = none → H dx = none → dx ≠ x → sp (gV (.ref x :: vs) zs) (upd (upd H dx (.own x)) x (.ins C dx [])) (fun v H2 => v = .non ∧ Q (.ref x) H2) (E σ)) :
    wpAny (model X.prog X.w) X.A (call (.ref C) us (ks.zip ws)) (EP X pins σ Q) X.xe s := by
  have hq := h (s.heap.objs.size + 1) s.heap.objs.size (I.hok.fresh (Nat.le_succ _)) (I.hok.fresh (Nat.le_refl _)) (Nat.ne_of_lt (Nat.lt_succ_self _))
  have r1 : Vals (V.ref (s.heap.objs.size + 1) :: vs) (Value.ref (s.heap.objs.size + 1) :: us) := .cons rfl r
  have n1 : (Value.ref (s.heap.objs.size + 1) :: us).length = n + 1 := by rw [List.length_cons, ← r.length, l1]
  exact mk_run M F hr hx I (fun s' ki => hb.to _ (Value.ref (s.heap.objs.size + 1) :: us) ws ki n1 (rz.length.symm.trans l2)) (hb.rel r1 rz) hq
theorem pe_mk (M : Mk X.K C f) (F : FnOk X.prog X.w X.K X.mg X.base CX k f fd ps sp) (hr : Room (k + 1) X.A) (hg : Gl X x) (hm : X.mg x = some (.ref C)) (hb : ∃ ds, Vals dvs ds ∧ Binds X.K fd ps ds) (hx : ∀ σ, PassesAt CX X σ (E σ))
    (ha : PA X (e :: es) t) (hdb : (x == ("__debug__" : Str)) = false := by decide) (he : starEach (e :: es) X.env = (false, eval e X.env) :: starEach es X.env := by rfl) (hpl : (backTo pos (starEach es X.env)).any (·.1) = false := by rfl) :
    PE X (.Call (.Name x p) (e :: es) [] pos) (uMake C sp dvs E t) := by
  refine ⟨fun pins s σ H Q I h => ?_⟩
  obtain ⟨ds, hd, hb⟩ := hb
  refine wpAny_Call_Name_kw (ld_glob I hg hm ?_ hdb)
  refine PySem.W.callWith_K (h₀ := X.base) I.ok.mod.kin M.kp (thn (ha.run pos pins s σ H _ I h) fun us s1 ⟨vs, H1, I1, r, q⟩ => ⟨I1.kIn, ?_⟩) he hpl
  exact run_mkS M F hr hb hd (hx σ) I1 r q
theorem pe_mk0 (M : Mk X.K C f) (F : FnOk X.prog X.w X.K X.mg X.base CX k f fd ps sp) (hr : Room (k + 1) X.A) (hg : Gl X x) (hm : X.mg x = some (.ref C)) (hb : ∃ ds, Vals dvs ds ∧ Binds X.K fd ps ds) (hx : ∀ σ, PassesAt CX X σ (E σ))
    (hdb : (x == ("__debug__" : Str)) = false := by decide) : PE X (.Call (.Name x p) [] [] pos) (uMake C sp dvs E tNil) := by
  refine ⟨fun pins s σ H Q I h => ?_⟩
  obtain ⟨ds, hd, hb⟩ := hb
  refine wpAny_Call_Name_kw (ld_glob I hg hm ?_ hdb)
  exact PySem.W.callWith_K0 I.kIn M.kp (run_mkS (us := []) M F hr hb hd (hx σ) I .nil h)
theorem pe_mkK (M : Mk X.K C f) (F : FnOk X.prog X.w X.K X.mg X.base CX k f fd ps sp) (hr : Room (k + 1) X.A) (hg : Gl X x) (hm : X.mg x = some (.ref C)) (hb : ∃ g, KBn X.K fd ps (n + 1) ks g gV) (hx : ∀ σ, PassesAt CX X σ (E σ)) (ha : PA X (e :: es) t) (hkw : PK X kws tk)
    {m : Nat} (hl : ks.length = m := by rfl) (hall : (backToKw pos (keywordEach kws X.env)).all (·.1.isSome) = true := by rfl) (hks : (backToKw pos (keywordEach kws X.env)).filterMap (·.1) = ks := by rfl) (hdb : (x == ("__debug__" : Str)) = false := by decide)
    (he : starEach (e :: es) X.env = (false, eval e X.env) :: starEach es X.env := by rfl) (hpl : ((backTo pos (starEach (e :: es) X.env)).any (·.1) || (backToKw pos (keywordEach kws X.env)).any (·.1.isNone)) = false := by rfl) :
    PE X (.Call (.Name x p) (e :: es) kws pos) (uMakeK C n m sp gV E t tk) := by
  subst hl
  refine ⟨fun pins s σ H Q I h => ?_⟩
  obtain ⟨g, hb⟩ := hb
  refine wpAny_Call_Name_kw (ld_glob I hg hm ?_ hdb)
  refine PySem.W.callWith_KW (h₀ := X.base) I.ok.mod.kin M.kp hall (thn (ha.run pos pins s σ H _ I h) fun us s1 ⟨vs, H1, I1, r, q⟩ => ?_) hpl he
  refine thn (hkw.run pos pins s1 σ H1 _ I1 q) fun ws s2 ⟨zs, H2, I2, rz, l1, l2, q2⟩ => ⟨I2.kIn, ?_⟩
  rw [hks]
  exact run_mkK M F hr hb (hx σ) I2 r rz l1 l2 q2
/-- c(.., k = v, ..), the class in slot i -/
def uMakeKL (i : Nat) (C : Addr) (n m : Nat) (sp : Sp) (gV : List V → List V → List V) (E : L2.St → XK) (t tk : TA) : TE := fun σ H Q => σ[i]? = some (some (.ref C)) ∧ uMakeK C n m sp gV E t tk σ H Q
theorem pe_mkKL {i : Nat} (M : Mk X.K C f) (F : FnOk X.prog X.w X.K X.mg X.base CX k f fd ps sp) (hr : Room (k + 1) X.A) (hN : X.N[i]? = some x) (hv : Vis X.env.scope x) (hb : ∃ g, KBn X.K fd ps (n + 1) ks g gV) (hx : ∀ σ, PassesAt CX X σ (E σ)) (ha : PA X (e :: es) t) (hkw : PK X kws tk)
    {m : Nat} (hl : ks.length = m := by rfl) (hall : (backToKw pos (keywordEach kws X.env)).all (·.1.isSome) = true := by rfl) (hks : (backToKw pos (keywordEach kws X.env)).filterMap (·.1) = ks := by rfl) (hdb : (x == ("__debug__" : Str)) = false := by decide) (hcd : (x == ("__classdict__" : Str)) = false := by decide)
    (he : starEach (e :: es) X.env = (false, eval e X.env) :: starEach es X.env := by rfl) (hpl : ((backTo pos (starEach (e :: es) X.env)).any (·.1) || (backToKw pos (keywordEach kws X.env)).any (·.1.isNone)) = false := by rfl) :
    PE X (.Call (.Name x p) (e :: es) kws pos) (uMakeKL i C n m sp gV E t tk) := by
  subst hl
  refine ⟨fun pins s σ H Q I h => ?_⟩
  obtain ⟨g, hb⟩ := hb
  obtain ⟨hs, ht⟩ := h
  refine wpAny_Call_Name_kw (thn ((pe_var (pos := p) hN hv hdb hcd).run pins s σ H (fun v H1 => v = .ref C ∧ H1 = H) I ⟨.ref C, hs, rfl, rfl⟩) fun u s1 ⟨v, H1, I1, r1, q1⟩ => ?_)
  obtain ⟨rfl, rfl⟩ := q1
  cases r1
  refine PySem.W.callWith_KW (h₀ := X.base) I.ok.mod.kin M.kp hall (thn (ha.run pos pins s1 σ _ _ I1 ht) fun us s1 ⟨vs, H1, I1, r, q⟩ => ?_) hpl he
  refine thn (hkw.run pos pins s1 σ H1 _ I1 q) fun ws s2 ⟨zs, H2, I2, rz, l1, l2, q2⟩ => ⟨I2.kIn, ?_⟩
  rw [hks]
  exact run_mkK M F hr hb (hx σ) I2 r rz l1 l2 q2
end
/-! ### classmethods -/
section
variable {X : Cx} {CX : CXT} {k : Nat} {C pp g : Addr} {mc : Value} {sp : Sp} {E : L2.St → XK} {o e : Expr} {es : List Expr} {m : Str} {pos apos : Pos} {ta : TE} {t : TA} {pl : Sem Bool}
def uCMeth (C : Addr) (sp : Sp) (E : L2.St → XK) (ta : TE) (t : TA) : TE := fun σ H Q => ta σ H fun x H1 => x = .ref C ∧ t σ H1 fun vs H2 => sp (.ref C :: vs) H2 Q (E σ)
theorem pe_cmethS (he : PE X o ta) (r : ClX.CRead X.K C mc) (c : ClX.CMet X.K C mc m pp g) (F : FnR X.prog X.w X.K X.mg X.base CX k g sp) (hr : Room k X.A) (hx : ∀ σ, PassesAt CX X σ (E σ)) (ha : PA X (e :: es) t)
    (hst : starEach (e :: es) X.env = (false, eval e X.env) :: starEach es X.env := by rfl) (hpl : (backTo pos (starEach es X.env)).any (·.1) = false := by rfl)
    (ht : eval (.Call (.Attribute o m apos) (e :: es) [] pos) X.env = (do
      let ov ← eval o X.env
      standAt apos.atName
      let (f, first) ← holding [ov] (getMethod ov m pl)
      callWith pos f first (backTo pos (starEach (e :: es) X.env)) (backToKw pos (keywordEach [] X.env))) := by rfl) :
    PE X (.Call (.Attribute o m apos) (e :: es) [] pos) (uCMeth C sp E ta t) := by
  refine ⟨fun pins s σ H Q I h => ?_⟩
  refine PySem.W.methodCall_KW (pl := pl) (thn (he.run pins s σ H _ I h) fun u s1 ⟨x, H1, I1, rx, ex, q⟩ => ?_) ht
  subst ex
  obtain rfl : u = Value.ref C := rx
  refine ClX.getmethcm_ok I1 r c fun s2 I2 => ?_
  refine ClX.callwith_cm I2 (ClX.base_none I1 (Nat.le_refl _)) c.fi (thn (ha.run pos _ s2 σ H1 _ I2 q) fun us s3 ⟨vs, H2, I3, rv, q2⟩ => ⟨⟨ClX.pin_at I3, I3.kIn⟩, ?_⟩) hst hpl
  have e := I3.env0
  have z : wpAny (model X.prog X.w) X.A (call (.ref s1.heap.objs.size) us) (EP X ((s1.heap.objs.size, PySem.W.methodObj (.ref g) (.ref C)) :: pins) σ Q) X.xe s3 := by
    refine wpAny_call (PySem.W.method_call (ClX.pin_at I3) (codeAny_mono (F X.A X.stack s3 H2 (.ref C :: us) (.ref C :: vs) Q (E σ) hr e (.cons rfl rv) q2) fun r s' hq => ?_))
    match r, hq with
    | .error er, hq => exact hx σ _ H2 s3 er s' I3 hq
    | .ok (.ret u), hq => exact I3.after hq
  exact thn z fun _ _ y => ClX.unpinE y
end
end U

/-! ### a functional reading: values as data, lists of one's own, cells that may be changed -/
namespace Fx
open PySem PySem.Spec PyProof.Rows L2 U

inductive D where
  | non | bl (b : Bool) | int (i : Int) | str (z : Str) | lst (ds : List D) | tup (ds : List D) | fro (l : Bool) (ds : List D) | dct (kvs : List (Key × D)) | cel (k : Nat) | obj (c : Nat) (fs : List (Str × D)) | cls (c : Nat)
/-- what stands in a cell -/
inductive Ce where
  | lst (ds : List D) | dK (kvs : List (Key × D)) | ins (c : Nat) (fs : List (Str × D))
abbrev Sto := List Ce
/-- a slot: nothing known, a value, a list of one's own, an object that is being made, an exception that was caught -/
inductive Sl where
  | no | val (d : D) | own (ds : List D) | oob (c : Nat) (fs : List (Str × D)) | exn (c : Nat) (fs : List (Str × D))
/-- looked at only, a value, a new list or object -/
inductive Fl where
  | pk | tr | fs
inductive RE where
  | ok (d : D) (f : Fl) (S : Sto) | xc (c : Nat) (fs : List (Str × D)) (S : Sto) | bad
abbrev Ev := List Sl
abbrev FE := Ev → Sto → RE

/-! ### values and data -/
/-- a list or tuple of the module's top, or the script: read only -/
def NoF (K : PySem.W.Frag) (ι B : List Addr) (H : Hp) (a : Addr) (xs : List V) : Bool → Prop
  | true => (a ∉ ι ∧ a ∉ B ∧ ∃ o, H a = some (.frz o (.lst xs))) ∨ SqL K (fun _ => none) a xs
  | false => (a ∉ ι ∧ a ∉ B ∧ ∃ o, H a = some (.frz o (.tup xs))) ∨ SqT K (fun _ => none) a xs
section
variable (K : PySem.W.Frag) (ca : Nat → Addr) (ι B : List Addr) (H : Hp)
mutual
inductive RV : V → D → Prop
  | non : RV .non .non
  | bl (b : Bool) : RV (.bl b) (.bl b)
  | int (i : Int) : RV (.int i) (.int i)
  | str (z : Str) : RV (.str z) (.str z)
  | lst {a : Addr} {xs : List V} {ds : List D} : a ∉ ι → a ∉ B → H a = some (.lst xs) → RAll xs ds → RV (.ref a) (.lst ds)
  | tup {a : Addr} {xs : List V} {ds : List D} : a ∉ ι → a ∉ B → H a = some (.tup xs) → RAll xs ds → RV (.ref a) (.tup ds)
  | fro {a : Addr} {l : Bool} {xs : List V} {ds : List D} : NoF K ι B H a xs l → RAll xs ds → RV (.ref a) (.fro l ds)
  | dct {a : Addr} {kvs : List (Key × V)} {es : List (Key × D)} : a ∉ ι → a ∉ B → H a = some (.dK kvs) → RKv kvs es → RV (.ref a) (.dct es)
  | cel {a : Addr} {k : Nat} : ι[k]? = some a → RV (.ref a) (.cel k)
  | obj {a dx : Addr} {c : Nat} {fs : List (Str × V)} {es : List (Str × D)} : a ∉ ι → a ∉ B → H a = some (.ins (ca c) dx fs) → RFs fs es → RV (.ref a) (.obj c es)
  | cls (c : Nat) : RV (.ref (ca c)) (.cls c)
inductive RAll : List V → List D → Prop
  | nil : RAll [] []
  | cons {v : V} {d : D} {vs : List V} {ds : List D} : RV v d → RAll vs ds → RAll (v :: vs) (d :: ds)
inductive RKv : List (Key × V) → List (Key × D) → Prop
  | nil : RKv [] []
  | cons {k : Key} {v : V} {d : D} {vs : List (Key × V)} {ds : List (Key × D)} : RV v d → RKv vs ds → RKv ((k, v) :: vs) ((k, d) :: ds)
inductive RFs : List (Str × V) → List (Str × D) → Prop
  | nil : RFs [] []
  | cons {k : Str} {v : V} {d : D} {vs : List (Str × V)} {ds : List (Str × D)} : RV v d → RFs vs ds → RFs ((k, v) :: vs) ((k, d) :: ds)
end
end
/-- what stands at one time stands later -/
structure Per (ι B : List Addr) (H : Hp) (ι' B' : List Addr) (H' : Hp) : Prop where
  at' : ∀ (a : Addr) (o : HO), H a = some o → a ∉ ι → a ∉ B → H' a = some o ∧ a ∉ ι' ∧ a ∉ B'
  ix : ∀ (k : Nat) (a : Addr), ι[k]? = some a → ι'[k]? = some a
theorem Per.refl {ι B : List Addr} {H : Hp} : Per ι B H ι B H := ⟨fun _ _ h1 h2 h3 => ⟨h1, h2, h3⟩, fun _ _ h => h⟩
theorem Per.trans {ι B ι1 B1 ι2 B2 : List Addr} {H H1 H2 : Hp} (a : Per ι B H ι1 B1 H1) (b : Per ι1 B1 H1 ι2 B2 H2) : Per ι B H ι2 B2 H2 :=
  ⟨fun x o h1 h2 h3 => by
    obtain ⟨q1, q2, q3⟩ := a.at' x o h1 h2 h3
    exact b.at' x o q1 q2 q3, fun k x h => b.ix k x (a.ix k x h)⟩
section
variable {K : PySem.W.Frag} {ca : Nat → Addr} {ι B ι' B' : List Addr} {H H' : Hp}
theorem NoF.per {a : Addr} {xs : List V} {l : Bool} (h : NoF K ι B H a xs l) (p : Per ι B H ι' B' H') : NoF K ι' B' H' a xs l := by
  cases l with
  | true =>
    rcases h with ⟨h1, h2, o, h3⟩ | h
    · obtain ⟨q1, q2, q3⟩ := p.at' a _ h3 h1 h2
      exact .inl ⟨q2, q3, o, q1⟩
    · exact .inr h
  | false =>
    rcases h with ⟨h1, h2, o, h3⟩ | h
    · obtain ⟨q1, q2, q3⟩ := p.at' a _ h3 h1 h2
      exact .inl ⟨q2, q3, o, q1⟩
    · exact .inr h
theorem NoF.sq {a : Addr} {xs : List V} {l : Bool} (h : NoF K ι B H a xs l) : SqL K H a xs ∨ SqT K H a xs := by
  cases l with
  | true =>
    rcases h with ⟨_, _, o, h3⟩ | h
    · exact .inl (.inl (.inr ⟨o, h3⟩))
    · rcases h with (h | ⟨_, h⟩) | h
      · cases h
      · cases h
      · exact .inl (.inr h)
  | false =>
    rcases h with ⟨_, _, o, h3⟩ | h
    · exact .inr (.inl (.inr ⟨o, h3⟩))
    · rcases h with (h | ⟨_, h⟩) | h
      · cases h
      · cases h
      · exact .inr (.inr h)
mutual
theorem RV.pe (p : Per ι B H ι' B' H') : ∀ (d : D) {v : V}, RV K ca ι B H v d → RV K ca ι' B' H' v d
  | .non, _, h => by cases h; exact .non
  | .bl _, _, h => by cases h; exact .bl _
  | .int _, _, h => by cases h; exact .int _
  | .str _, _, h => by cases h; exact .str _
  | .lst ds, _, h => by
    cases h with
    | lst h1 h2 h3 h4 =>
      obtain ⟨q1, q2, q3⟩ := p.at' _ _ h3 h1 h2
      exact .lst q2 q3 q1 (RAll.pe p ds h4)
  | .tup ds, _, h => by
    cases h with
    | tup h1 h2 h3 h4 =>
      obtain ⟨q1, q2, q3⟩ := p.at' _ _ h3 h1 h2
      exact .tup q2 q3 q1 (RAll.pe p ds h4)
  | .fro l ds, _, h => by
    cases h with
    | fro h1 h2 => exact .fro (h1.per p) (RAll.pe p ds h2)
  | .dct es, _, h => by
    cases h with
    | dct h1 h2 h3 h4 =>
      obtain ⟨q1, q2, q3⟩ := p.at' _ _ h3 h1 h2
      exact .dct q2 q3 q1 (RKv.pe p es h4)
  | .cel k, _, h => by
    cases h with
    | cel h1 => exact .cel (p.ix _ _ h1)
  | .obj c es, _, h => by
    cases h with
    | obj h1 h2 h3 h4 =>
      obtain ⟨q1, q2, q3⟩ := p.at' _ _ h3 h1 h2
      exact .obj q2 q3 q1 (RFs.pe p es h4)
  | .cls _, _, h => by cases h; exact .cls _
theorem RAll.pe (p : Per ι B H ι' B' H') : ∀ (ds : List D) {vs : List V}, RAll K ca ι B H vs ds → RAll K ca ι' B' H' vs ds
  | [], _, h => by cases h; exact .nil
  | d :: ds, _, h => by
    cases h with
    | cons h1 h2 => exact .cons (RV.pe p d h1) (RAll.pe p ds h2)
theorem RKv.pe (p : Per ι B H ι' B' H') : ∀ (ds : List (Key × D)) {vs : List (Key × V)}, RKv K ca ι B H vs ds → RKv K ca ι' B' H' vs ds
  | [], _, h => by cases h; exact .nil
  | (k, d) :: ds, _, h => by
    cases h with
    | cons h1 h2 => exact .cons (RV.pe p d h1) (RKv.pe p ds h2)
theorem RFs.pe (p : Per ι B H ι' B' H') : ∀ (ds : List (Str × D)) {vs : List (Str × V)}, RFs K ca ι B H vs ds → RFs K ca ι' B' H' vs ds
  | [], _, h => by cases h; exact .nil
  | (k, d) :: ds, _, h => by
    cases h with
    | cons h1 h2 => exact .cons (RV.pe p d h1) (RFs.pe p ds h2)
end
theorem RV.per {d : D} {v : V} (h : RV K ca ι B H v d) (p : Per ι B H ι' B' H') : RV K ca ι' B' H' v d := RV.pe p d h
theorem RAll.per {d : List D} {v : List V} (h : RAll K ca ι B H v d) (p : Per ι B H ι' B' H') : RAll K ca ι' B' H' v d := RAll.pe p d h
theorem RKv.per {d : List (Key × D)} {v : List (Key × V)} (h : RKv K ca ι B H v d) (p : Per ι B H ι' B' H') : RKv K ca ι' B' H' v d := RKv.pe p d h
theorem RFs.per {d : List (Str × D)} {v : List (Str × V)} (h : RFs K ca ι B H v d) (p : Per ι B H ι' B' H') : RFs K ca ι' B' H' v d := RFs.pe p d h
theorem RAll.len : ∀ {ds : List D} {vs : List V}, RAll K ca ι B H vs ds → vs.length = ds.length
  | [], _, h => by cases h; rfl
  | d :: ds, _, h => by
    cases h with
    | cons h1 h2 => rw [List.length_cons, List.length_cons, RAll.len h2]
theorem RAll.app : ∀ {ds es : List D} {vs ws : List V}, RAll K ca ι B H vs ds → RAll K ca ι B H ws es → RAll K ca ι B H (vs ++ ws) (ds ++ es)
  | [], _, _, _, h, g => by cases h; exact g
  | d :: ds, _, _, _, h, g => by
    cases h with
    | cons h1 h2 => exact .cons h1 (RAll.app h2 g)
theorem RAll.drop : ∀ (n : Nat) {ds : List D} {vs : List V}, RAll K ca ι B H vs ds → RAll K ca ι B H (vs.drop n) (ds.drop n)
  | 0, _, _, h => h
  | n + 1, [], _, h => by cases h; exact .nil
  | n + 1, d :: ds, _, h => by
    cases h with
    | cons h1 h2 => exact RAll.drop n h2
theorem RAll.take : ∀ (n : Nat) {ds : List D} {vs : List V}, RAll K ca ι B H vs ds → RAll K ca ι B H (vs.take n) (ds.take n)
  | 0, _, _, h => .nil
  | n + 1, [], _, h => by cases h; exact .nil
  | n + 1, d :: ds, _, h => by
    cases h with
    | cons h1 h2 => exact .cons h1 (RAll.take n h2)
theorem RAll.at : ∀ {ds : List D} {vs : List V} (i : Nat) {d : D}, RAll K ca ι B H vs ds → ds[i]? = some d → ∃ v, vs[i]? = some v ∧ RV K ca ι B H v d
  | [], _, i, _, h, e => by simp at e
  | d :: ds, _, 0, _, h, e => by
    cases h with
    | cons h1 h2 => simp at e; subst e; exact ⟨_, rfl, h1⟩
  | d :: ds, _, i + 1, _, h, e => by
    cases h with
    | cons h1 h2 =>
      obtain ⟨v, q1, q2⟩ := RAll.at i h2 (by simpa using e)
      exact ⟨v, by simpa using q1, q2⟩
theorem RAll.atV : ∀ {ds : List D} {vs : List V} (i : Nat) {v : V}, RAll K ca ι B H vs ds → vs[i]? = some v → ∃ d, ds[i]? = some d ∧ RV K ca ι B H v d
  | [], _, i, _, h, e => by cases h; simp at e
  | d :: ds, _, 0, _, h, e => by
    cases h with
    | cons h1 h2 => simp at e; subst e; exact ⟨_, rfl, h1⟩
  | d :: ds, _, i + 1, _, h, e => by
    cases h with
    | cons h1 h2 =>
      obtain ⟨v, q1, q2⟩ := RAll.atV i h2 (by simpa using e)
      exact ⟨v, by simpa using q1, q2⟩
theorem RAll.set : ∀ {ds : List D} {vs : List V} (i : Nat) {d : D} {v : V}, RAll K ca ι B H vs ds → RV K ca ι B H v d → RAll K ca ι B H (vs.set i v) (ds.set i d)
  | [], _, i, _, _, h, g => by cases h; exact .nil
  | d :: ds, _, 0, _, _, h, g => by
    cases h with
    | cons h1 h2 => exact .cons g h2
  | d :: ds, _, i + 1, _, _, h, g => by
    cases h with
    | cons h1 h2 => exact .cons h1 (RAll.set i h2 g)
theorem RAll.rev {ds : List D} {vs : List V} (h : RAll K ca ι B H vs ds) : RAll K ca ι B H vs.reverse ds.reverse := by
  induction ds generalizing vs with
  | nil => cases h; exact .nil
  | cons d ds ih =>
    cases h with
    | cons h1 h2 =>
      rw [List.reverse_cons, List.reverse_cons]
      exact RAll.app (ih h2) (.cons h1 .nil)
theorem RFs.look : ∀ {ds : List (Str × D)} {vs : List (Str × V)} {f : Str}, RFs K ca ι B H vs ds → (∃ d v, ds.lookup f = some d ∧ vs.lookup f = some v ∧ RV K ca ι B H v d) ∨ (ds.lookup f = none ∧ vs.lookup f = none)
  | [], _, f, h => by cases h; exact .inr ⟨rfl, rfl⟩
  | (k, d) :: ds, _, f, h => by
    cases h with
    | cons h1 h2 =>
      rw [List.lookup_cons, List.lookup_cons]
      cases e : f == k with
      | true => exact .inl ⟨d, _, rfl, rfl, h1⟩
      | false => exact RFs.look h2
end
/-- seen only, or a value -/
inductive RT (K : PySem.W.Frag) (ca : Nat → Addr) (ι B : List Addr) (H : Hp) : V → D → Prop
  | v {x : V} {d : D} : RV K ca ι B H x d → RT K ca ι B H x d
  | l {a : Addr} {xs : List V} {ds : List D} : a ∉ ι → H a = some (.lst xs) → RAll K ca ι B H xs ds → RT K ca ι B H (.ref a) (.lst ds)
  | o {a dx : Addr} {c : Nat} {fs : List (Str × V)} {es : List (Str × D)} : a ∉ ι → H a = some (.ins (ca c) dx fs) → RFs K ca ι B H fs es → RT K ca ι B H (.ref a) (.obj c es)
/-! ### the store -/
inductive RC (K : PySem.W.Frag) (ca : Nat → Addr) (ι B : List Addr) (H : Hp) (a : Addr) : Ce → Prop
  | lst {xs : List V} {ds : List D} : H a = some (.lst xs) → RAll K ca ι B H xs ds → RC K ca ι B H a (.lst ds)
  | dK {xs : List (Key × V)} {ds : List (Key × D)} : H a = some (.dK xs) → RKv K ca ι B H xs ds → RC K ca ι B H a (.dK ds)
  | ins {dx : Addr} {c : Nat} {fs : List (Str × V)} {es : List (Str × D)} : H a = some (.ins (ca c) dx fs) → RFs K ca ι B H fs es → RC K ca ι B H a (.ins c es)
structure RS (K : PySem.W.Frag) (ca : Nat → Addr) (ι B : List Addr) (H : Hp) (S : Sto) : Prop where
  len : ι.length = S.length
  at' : ∀ (k : Nat) (a : Addr) (c : Ce), ι[k]? = some a → S[k]? = some c → RC K ca ι B H a c
/-- a new one -/
inductive Fs (K : PySem.W.Frag) (ca : Nat → Addr) (ι B : List Addr) (H0 H : Hp) (S : Sto) : V → D → Prop
  | l {a : Addr} {xs : List V} {ds : List D} : a ∉ ι → a ∉ B → H0 a = none → H a = some (.lst xs) → RAll K ca ι (a :: B) H xs ds → RS K ca ι (a :: B) H S → Fs K ca ι B H0 H S (.ref a) (.lst ds)
  | o {a dx : Addr} {c : Nat} {fs : List (Str × V)} {es : List (Str × D)} : a ∉ ι → a ∉ B → H0 a = none → H a = some (.ins (ca c) dx fs) → RFs K ca ι (a :: B) H fs es → RS K ca ι (a :: B) H S → Fs K ca ι B H0 H S (.ref a) (.obj c es)
def RF (K : PySem.W.Frag) (ca : Nat → Addr) (ι B : List Addr) (H0 H : Hp) (S : Sto) (v : V) (d : D) : Fl → Prop
  | .pk => RT K ca ι B H v d
  | .tr => RV K ca ι B H v d
  | .fs => Fs K ca ι B H0 H S v d
section
variable {K : PySem.W.Frag} {ca : Nat → Addr} {ι B ι' B' : List Addr} {H0 H H' : Hp} {S : Sto} {v : V} {d : D}
theorem Per.less (h : ∀ a ∈ B', a ∈ B) : Per ι B H ι B' H := ⟨fun a o h1 h2 h3 => ⟨h1, h2, fun z => h3 (h a z)⟩, fun _ _ z => z⟩
theorem Fs.rv (h : Fs K ca ι B H0 H S v d) : RV K ca ι B H v d := by
  cases h with
  | l h1 h2 h3 h4 h5 h6 => exact .lst h1 h2 h4 (h5.per (Per.less fun a ha => List.mem_cons_of_mem _ ha))
  | o h1 h2 h3 h4 h5 h6 => exact .obj h1 h2 h4 (h5.per (Per.less fun a ha => List.mem_cons_of_mem _ ha))
theorem RF.rt {f : Fl} (h : RF K ca ι B H0 H S v d f) : RT K ca ι B H v d := by
  cases f with
  | pk => exact h
  | tr => exact .v h
  | fs => exact .v (Fs.rv h)
theorem RF.rv {f : Fl} (h : RF K ca ι B H0 H S v d f) (hf : f ≠ .pk) : RV K ca ι B H v d := by
  cases f with
  | pk => exact absurd rfl hf
  | tr => exact h
  | fs => exact Fs.rv h
theorem Fs.old {H1 : Hp} (h : Fs K ca ι B H0 H S v d) (g : ∀ a, H1 a ≠ none → H0 a ≠ none) : Fs K ca ι B H1 H S v d := by
  have e : ∀ a, H0 a = none → H1 a = none := fun a q => by
    cases z : H1 a with
    | none => rfl
    | some o => exact absurd q (g a (by rw [z]; simp))
  cases h with
  | l h1 h2 h3 h4 h5 h6 => exact .l h1 h2 (e _ h3) h4 h5 h6
  | o h1 h2 h3 h4 h5 h6 => exact .o h1 h2 (e _ h3) h4 h5 h6
theorem RF.old {f : Fl} {H1 : Hp} (h : RF K ca ι B H0 H S v d f) (g : ∀ a, H1 a ≠ none → H0 a ≠ none) : RF K ca ι B H1 H S v d f := by
  cases f with
  | pk => exact h
  | tr => exact h
  | fs => exact Fs.old h g
end
/-- the heap has grown, but for the cells -/
structure Ext (ι : List Addr) (H : Hp) (ι' : List Addr) (H' : Hp) : Prop where
  pre : ι <+: ι'
  keep : ∀ a o, H a = some o → a ∉ ι → H' a = some o
  new : ∀ a ∈ ι', a ∉ ι → H a = none
  dom : ∀ a, H a ≠ none → H' a ≠ none
theorem ix_pre {ι ι' : List Addr} (h : ι <+: ι') {k : Nat} {a : Addr} (e : ι[k]? = some a) : ι'[k]? = some a := by
  obtain ⟨t, rfl⟩ := h
  rw [List.getElem?_append_left (List.getElem?_eq_some_iff.mp e).1]; exact e
section
variable {ι ι1 ι2 B : List Addr} {H H1 H2 : Hp}
theorem Ext.refl : Ext ι H ι H := ⟨List.prefix_rfl, fun _ _ h _ => h, fun _ h n => absurd h n, fun _ h => h⟩
theorem Ext.trans (a : Ext ι H ι1 H1) (b : Ext ι1 H1 ι2 H2) : Ext ι H ι2 H2 := by
  refine ⟨a.pre.trans b.pre, fun x o h n => ?_, fun x h n => ?_, fun x h => b.dom x (a.dom x h)⟩
  · refine b.keep x o (a.keep x o h n) fun z => ?_
    have := a.new x z n
    rw [h] at this; cases this
  · by_cases hx : x ∈ ι1
    · exact a.new x hx n
    · have := b.new x h hx
      cases e : H x with
      | none => rfl
      | some o => exact absurd this (a.dom x (by rw [e]; simp))
theorem Ext.per (e : Ext ι H ι1 H1) : Per ι B H ι1 B H1 :=
  ⟨fun a o h1 h2 h3 => ⟨e.keep a o h1 h2, (fun z => by
    have := e.new a z h2
    rw [h1] at this; cases this), h3⟩, fun _ _ h => ix_pre e.pre h⟩
/-- a new thing at p -/
theorem Ext.new1 {p : Addr} {o : HO} (h : H p = none) : Ext ι H ι (upd H p o) := by
  refine ⟨List.prefix_rfl, fun a u e _ => ?_, fun _ h n => absurd h n, fun a e => ?_⟩
  · rw [upd_ne (ne_of_none e h)]; exact e
  · unfold upd; split
    · simp
    · exact e
theorem Ext.gr (g : ∀ a o, H a = some o → H1 a = some o) : Ext ι H ι H1 := by
  refine ⟨List.prefix_rfl, fun a u e _ => g a u e, fun _ h n => absurd h n, fun a e => ?_⟩
  cases z : H a with
  | none => exact absurd z e
  | some o => rw [g a o z]; simp
end
section
variable {K : PySem.W.Frag} {ca : Nat → Addr} {ι B ι' : List Addr} {H H' : Hp} {v : V} {d : D}
theorem RV.ex (h : RV K ca ι B H v d) (e : Ext ι H ι' H') : RV K ca ι' B H' v d := h.per e.per
theorem RAll.ex {vs : List V} {ds : List D} (h : RAll K ca ι B H vs ds) (e : Ext ι H ι' H') : RAll K ca ι' B H' vs ds := h.per e.per
theorem RFs.ex {vs : List (Str × V)} {ds : List (Str × D)} (h : RFs K ca ι B H vs ds) (e : Ext ι H ι' H') : RFs K ca ι' B H' vs ds := h.per e.per
theorem Ext.off (e : Ext ι H ι' H') {a : Addr} {o : HO} (h : H a = some o) (n : a ∉ ι) : a ∉ ι' := fun z => by
  have := e.new a z n
  rw [h] at this; cases this
theorem RT.ex (h : RT K ca ι B H v d) (e : Ext ι H ι' H') : RT K ca ι' B H' v d := by
  cases h with
  | v h => exact .v (h.ex e)
  | l h1 h2 h3 => exact .l (e.off h2 h1) (e.keep _ _ h2 h1) (h3.ex e)
  | o h1 h2 h3 => exact .o (e.off h2 h1) (e.keep _ _ h2 h1) (h3.ex e)
end

theorem RC.here {K : PySem.W.Frag} {ca : Nat → Addr} {ι B : List Addr} {H : Hp} {a : Addr} {c : Ce} (h : RC K ca ι B H a c) : H a ≠ none := by
  cases h with
  | lst h _ => rw [h]; simp
  | dK h _ => rw [h]; simp
  | ins h _ => rw [h]; simp
theorem RS.here {K : PySem.W.Frag} {ca : Nat → Addr} {ι B : List Addr} {H : Hp} {S : Sto} (h : RS K ca ι B H S) : ∀ a ∈ ι, H a ≠ none := fun a ha => by
  obtain ⟨k, hk, e⟩ := List.getElem_of_mem ha
  have e1 : ι[k]? = some a := by rw [List.getElem?_eq_getElem hk, e]
  have hk2 : k < S.length := by rw [← h.len]; exact hk
  exact (h.at' k a S[k] e1 (List.getElem?_eq_getElem hk2)).here
/-- cells whose own objects stay -/
theorem RC.per {K : PySem.W.Frag} {ca : Nat → Addr} {ι B ι' B' : List Addr} {H H' : Hp} {a : Addr} {c : Ce} (h : RC K ca ι B H a c) (e : H' a = H a) (p : Per ι B H ι' B' H') : RC K ca ι' B' H' a c := by
  cases h with
  | lst h r => exact .lst (e.trans h) (r.per p)
  | dK h r => exact .dK (e.trans h) (r.per p)
  | ins h r => exact .ins (e.trans h) (r.per p)
theorem RS.per {K : PySem.W.Frag} {ca : Nat → Addr} {ι B B' : List Addr} {H H' : Hp} {S : Sto} (h : RS K ca ι B H S) (e : ∀ a ∈ ι, H' a = H a) (p : Per ι B H ι B' H') : RS K ca ι B' H' S :=
  ⟨h.len, fun k a c h1 h2 => (h.at' k a c h1 h2).per (e a (List.mem_of_getElem? h1)) p⟩
theorem RS.gr {K : PySem.W.Frag} {ca : Nat → Addr} {ι B : List Addr} {H H' : Hp} {S : Sto} (h : RS K ca ι B H S) (g : ∀ a o, H a = some o → H' a = some o) : RS K ca ι B H' S :=
  h.per (fun a ha => by
    cases e : H a with
    | none => exact absurd e (h.here a ha)
    | some o => exact g a o e) (Ext.gr g).per

/-! ### a def's frame -/
structure Fr where
  H0 : Hp
  i0 : List Addr
  B0 : List Addr
structure Gm where
  K : PySem.W.Frag
  ca : Nat → Addr
  x : Option (Addr × Addr × Nat)
  me : Option Addr
inductive RSl (G : Gm) (ι B ω : List Addr) (H : Hp) : Sl → Option V → Prop
  | no {o : Option V} : RSl G ι B ω H .no o
  | val {v : V} {d : D} : RV G.K G.ca ι B H v d → RSl G ι B ω H (.val d) (some v)
  | own {a : Addr} {xs : List V} {ds : List D} : a ∈ ω → H a = some (.lst xs) → RAll G.K G.ca ι B H xs ds → RSl G ι B ω H (.own ds) (some (.ref a))
  | oob {a dx : Addr} {c : Nat} {fs : List (Str × V)} {es : List (Str × D)} : a ∈ ω → G.me = some a → H a = some (.ins (G.ca c) dx fs) → RFs G.K G.ca ι B H fs es → RSl G ι B ω H (.oob c es) (some (.ref a))
  | exn {a dd : Addr} {c : Nat} {fs : List (Str × V)} {es : List (Str × D)} : G.x = some (a, dd, c) → dd ∉ ι → dd ∉ B → H dd = some (.xd fs) → RFs G.K G.ca ι B H fs es → RSl G ι B ω H (.exn c es) (some (.ref a))
def isOwn : Sl → Bool
  | .own _ => true
  | .oob _ _ => true
  | _ => false
structure Rel (G : Gm) (F : Fr) (ι ω : List Addr) (ρ : Ev) (S : Sto) (σ : L2.St) (H : Hp) : Prop where
  pre : F.i0 <+: ι
  old : ∀ a o, F.H0 a = some o → a ∉ F.i0 → H a = some o
  dom : ∀ a, F.H0 a ≠ none → H a ≠ none
  fri : ∀ a ∈ ι, a ∉ F.i0 → F.H0 a = none
  frw : ∀ a ∈ ω, F.H0 a = none
  b0 : ∀ a ∈ F.B0, F.H0 a ≠ none ∧ a ∉ F.i0
  nd : ι.Nodup
  dj : ∀ a ∈ ω, a ∉ ι
  dw : ∀ a ∈ ω, H a ≠ none
  sto : RS G.K G.ca ι (F.B0 ++ ω) H S
  len : ρ.length = σ.length
  env : ∀ (i : Nat) (s : Sl) (o : Option V), ρ[i]? = some s → σ[i]? = some o → RSl G ι (F.B0 ++ ω) ω H s o
  own : ∀ (i j : Nat) (a : Addr) (s s' : Sl), i ≠ j → ρ[i]? = some s → ρ[j]? = some s' → isOwn s = true → isOwn s' = true → σ[i]? = some (some (.ref a)) → σ[j]? = some (some (.ref a)) → False
section
variable {G : Gm} {F : Fr} {ι ω ι' : List Addr} {ρ : Ev} {S S' : Sto} {σ : L2.St} {H H' : Hp}
theorem RSl.ex {s : Sl} {o : Option V} (h : RSl G ι (F.B0 ++ ω) ω H s o) (dj : ∀ a ∈ ω, a ∉ ι) (e : Ext ι H ι' H') : RSl G ι' (F.B0 ++ ω) ω H' s o := by
  cases h with
  | no => exact .no
  | val h => exact .val (h.ex e)
  | own h1 h2 h3 => exact .own h1 (e.keep _ _ h2 (dj _ h1)) (h3.ex e)
  | oob h1 h0 h2 h3 => exact .oob h1 h0 (e.keep _ _ h2 (dj _ h1)) (h3.ex e)
  | exn h1 h2 h3 h4 h5 => exact .exn h1 (e.off h4 h2) h3 (e.keep _ _ h4 h2) (h5.ex e)
theorem Rel.bi (r : Rel G F ι ω ρ S σ H) : ∀ a ∈ F.B0 ++ ω, a ∉ ι := fun a ha z => by
  rcases List.mem_append.mp ha with h | h
  · obtain ⟨h1, h2⟩ := r.b0 a h
    exact h1 (r.fri a z h2)
  · exact r.dj a h z
theorem Rel.bd (r : Rel G F ι ω ρ S σ H) : ∀ a ∈ F.B0 ++ ω, H a ≠ none := fun a ha => by
  rcases List.mem_append.mp ha with h | h
  · exact r.dom a (r.b0 a h).1
  · exact r.dw a h
theorem Rel.ex (r : Rel G F ι ω ρ S σ H) (e : Ext ι H ι' H') (nd : ι'.Nodup) (s : RS G.K G.ca ι' (F.B0 ++ ω) H' S') : Rel G F ι' ω ρ S' σ H' := by
  have up : ∀ a o, F.H0 a = some o → a ∉ F.i0 → a ∉ ι := fun a o h n z => by
    have := r.fri a z n
    rw [h] at this; cases this
  refine ⟨r.pre.trans e.pre, fun a o h n => e.keep a o (r.old a o h n) (up a o h n), fun a h => e.dom a (r.dom a h), fun a h n => ?_, r.frw, r.b0, nd, fun a h z => ?_, fun a h => e.dom a (r.dw a h), s, r.len, fun i s o h1 h2 => (r.env i s o h1 h2).ex r.dj e, r.own⟩
  · by_cases hx : a ∈ ι
    · exact r.fri a hx n
    · have q := e.new a h hx
      cases z : F.H0 a with
      | none => rfl
      | some o => exact absurd q (r.dom a (by rw [z]; simp))
  · exact r.dw a h (e.new a z (r.dj a h))
/-- the heap alone has grown -/
theorem Rel.gr (r : Rel G F ι ω ρ S σ H) (g : ∀ a o, H a = some o → H' a = some o) : Rel G F ι ω ρ S σ H' := r.ex (Ext.gr g) r.nd (r.sto.gr g)
theorem Rel.new (r : Rel G F ι ω ρ S σ H) {p : Addr} {o : HO} (h : H p = none) : Rel G F ι ω ρ S σ (upd H p o) := r.gr fun a u e => by
  rw [upd_ne (ne_of_none e h)]; exact e
theorem Rel.offi (r : Rel G F ι ω ρ S σ H) {p : Addr} (h : H p = none) : p ∉ ι := fun z => r.sto.here p z h
theorem Rel.offb (r : Rel G F ι ω ρ S σ H) {p : Addr} (h : H p = none) : p ∉ F.B0 ++ ω := fun z => r.bd p z h
end
end Fx

namespace U
open PySem PySem.Spec PyProof.Rows L2

/-! ### data in the heap, in the module's own too -/
mutual
inductive Dq (K : PySem.W.Frag) (H : Hp) : V → PyData → Prop
  | non : Dq K H .non .none
  | bl (k : Bool) : Dq K H (.bl k) (.bool k)
  | int (i : Int) : Dq K H (.int i) (.int i)
  | str (z : Str) : Dq K H (.str z) (.str z)
  | lst {a : Addr} {xs : List V} {ds : List PyData} : SqL K H a xs → DqAll K H xs ds → Dq K H (.ref a) (.list ds)
  | tup {a : Addr} {xs : List V} {ds : List PyData} : SqT K H a xs → DqAll K H xs ds → Dq K H (.ref a) (.tuple ds)
  | dct {a : Addr} : H a = some (.dK []) → Dq K H (.ref a) (.dict [])
inductive DqAll (K : PySem.W.Frag) (H : Hp) : List V → List PyData → Prop
  | nil : DqAll K H [] []
  | cons {v : V} {vs : List V} {d : PyData} {ds : List PyData} : Dq K H v d → DqAll K H vs ds → DqAll K H (v :: vs) (d :: ds)
end
mutual
theorem Dq.dp {K : PySem.W.Frag} {H : Hp} : ∀ (d : PyData) {v : V}, Dq K H v d → d.hasDict = false → Dp K H v d
  | .none, _, h, _ => by cases h; exact .non
  | .bool _, _, h, _ => by cases h; exact .bl _
  | .int _, _, h, _ => by cases h; exact .int _
  | .str _, _, h, _ => by cases h; exact .str _
  | .list ds, _, h, g => by
    cases h with
    | lst h2 h3 => exact .lst h2 (DqAll.dp ds h3 (by simpa only [PyData.hasDict] using g))
  | .tuple ds, _, h, g => by
    cases h with
    | tup h2 h3 => exact .tup h2 (DqAll.dp ds h3 (by simpa only [PyData.hasDict] using g))
  | .dict _, _, _, g => by simp only [PyData.hasDict] at g; cases g
theorem DqAll.dp {K : PySem.W.Frag} {H : Hp} : ∀ (ds : List PyData) {vs : List V}, DqAll K H vs ds → PyData.hasDictAll ds = false → DpAll K H vs ds
  | [], _, h, _ => by cases h; exact .nil
  | d :: ds, _, h, g => by
    cases h with
    | cons h1 h2 =>
      simp only [PyData.hasDictAll, Bool.or_eq_false_iff] at g
      exact .cons (Dq.dp d h1 g.1) (DqAll.dp ds h2 g.2)
end
section
variable {X : Cx} {pins : List (Addr × Obj)} {σ : L2.St} {H : Hp} {s : Shared}
mutual
theorem Dq.reads (I : Inv X pins σ H s) : ∀ (d : PyData) {v : V} {u : Value}, Dq X.K H v d → RelV v u → ∃ as, Reads s.heap u d as
  | .none, _, _, h, r => by cases h; cases r; exact ⟨_, .none⟩
  | .bool _, _, _, h, r => by cases h; cases r; exact ⟨_, .bool _⟩
  | .int _, _, _, h, r => by cases h; obtain ⟨t, rfl⟩ := r; exact ⟨_, .int _ t⟩
  | .str _, _, _, h, r => by cases h; obtain ⟨t, rfl⟩ := r; exact ⟨_, .str _ t⟩
  | .list ds, _, _, h, r => by
    cases h with
    | lst h2 h3 =>
      cases r
      obtain ⟨us, rv, ⟨o, n, e1, e2, _, e3⟩, _⟩ := I.list h2
      obtain ⟨as, q⟩ := DqAll.reads I ds h3 rv
      exact ⟨_, .list e1 e2 e3 q⟩
  | .tuple ds, _, _, h, r => by
    cases h with
    | tup h2 h3 =>
      cases r
      obtain ⟨us, rv, ⟨o, e1, e2, n, e3⟩, _⟩ := I.tuple h2
      obtain ⟨as, q⟩ := DqAll.reads I ds h3 rv
      exact ⟨_, .tuple e1 e2 e3 q⟩
  | .dict _, _, _, h, r => by
    cases h with
    | dct h2 =>
      cases r
      obtain ⟨_, o, n, e1, e2, e3⟩ := dk_empty_at I h2
      exact ⟨_, .dict e1 e2 e3 .nil .nil⟩
theorem DqAll.reads (I : Inv X pins σ H s) : ∀ (ds : List PyData) {vs : List V} {us : List Value}, DqAll X.K H vs ds → Vals vs us → ∃ as, ReadsAll s.heap us ds as
  | [], _, _, h, r => by cases h; cases r; exact ⟨_, .nil⟩
  | d :: ds, _, _, h, r => by
    cases h with
    | cons h1 h2 =>
      cases r with
      | cons r1 r2 =>
        obtain ⟨as, q1⟩ := Dq.reads I d h1 r1
        obtain ⟨cs, q2⟩ := DqAll.reads I ds h2 r2
        exact ⟨_, .cons q1 q2⟩
end
mutual
theorem Dq.shows (I : Inv X pins σ H s) : ∀ (d : PyData) {v : V} {u : Value}, Dq X.K H v d → RelV v u → d.showable = true → d.shown.length ≤ sizeLine →
    ∃ bs, ReadAtMost s.heap d.depth bs ∧ ReprK X.prog X.w bs s.heap d.depth u d.shown
  | .none, _, _, h, r, _, _ => by
    cases h; cases r
    refine ⟨[], fun _ q => (nomatch q), ?_⟩
    simp only [PyData.shown]; exact .of_is ReprIs.none _ _ _
  | .bool k, _, _, h, r, _, _ => by
    cases h; cases r
    refine ⟨[], fun _ q => (nomatch q), ?_⟩
    simp only [PyData.shown]; exact .of_is (ReprIs.bool k) _ _ _
  | .int i, _, _, h, r, hs, _ => by
    cases h; obtain ⟨t, rfl⟩ := r
    refine ⟨[], fun _ q => (nomatch q), ?_⟩
    have g : i.natAbs.log2 < 1920 := by simpa [PyData.showable] using hs
    simp only [PyData.shown]; exact .of_is (ReprIs.int t g) _ _ _
  | .str z, _, _, h, r, _, hz => by
    cases h; obtain ⟨t, rfl⟩ := r
    refine ⟨[], fun _ q => (nomatch q), ?_⟩
    simp only [PyData.shown] at hz ⊢; exact .of_is (ReprIs.str z t hz) _ _ _
  | .list ds, _, u, h, r, hs, hz => by
    obtain ⟨as, rd⟩ := Dq.reads I (.list ds) h r
    cases h with
    | @lst a xs _ h2 h3 =>
      cases r
      obtain ⟨us, rv, ⟨o, n, e1, e2, _, e3⟩, _⟩ := I.list h2
      simp only [PyData.shown] at hz
      obtain ⟨bs, k1, k2⟩ := DqAll.shows I ds h3 rv (by simpa only [PyData.showable] using hs) (fun t ht => Nat.le_trans (listText_mem_le ht) hz)
      have no : a ∉ bs := not_mem_of_deeper rd (by simp only [PyData.depth]; omega) k1
      refine ⟨a :: bs, ReadAtMost.cons rd (by simp only [PyData.depth]; omega) k1, ?_⟩
      simp only [PyData.depth, PyData.shown]
      cases us with
      | nil =>
        cases rv
        cases h3
        simp only [PyData.shownAll, listText_nil]
        exact .listEmpty e1 e2 e3
      | cons x l => exact .list e1 e2 e3 no (by simpa using k2.length_eq) fun i y e => k2.item i y (by simpa using e)
  | .tuple ds, _, u, h, r, hs, hz => by
    obtain ⟨as, rd⟩ := Dq.reads I (.tuple ds) h r
    cases h with
    | @tup a xs _ h2 h3 =>
      cases r
      obtain ⟨us, rv, ⟨o, e1, e2, n, e3⟩, _⟩ := I.tuple h2
      simp only [PyData.shown] at hz
      obtain ⟨bs, k1, k2⟩ := DqAll.shows I ds h3 rv (by simpa only [PyData.showable] using hs) (fun t ht => Nat.le_trans (tupleText_mem_le ht) hz)
      have no : a ∉ bs := not_mem_of_deeper rd (by simp only [PyData.depth]; omega) k1
      refine ⟨a :: bs, ReadAtMost.cons rd (by simp only [PyData.depth]; omega) k1, ?_⟩
      simp only [PyData.depth, PyData.shown]
      exact .tuple e1 e2 e3 no (by simpa using k2)
  | .dict kvs, _, u, h, r, hs, hz => by
    obtain ⟨as, rd⟩ := Dq.reads I (.dict kvs) h r
    cases h with
    | @dct a h2 =>
      cases r
      obtain ⟨g, o, n, e1, e2, e3⟩ := dk_empty_at I h2
      refine ⟨[a], ReadAtMost.cons (n := 0) rd (Nat.zero_le _) (fun _ q => (nomatch q)), ?_⟩
      simp only [PyData.depth, PyData.shown, PyData.depthKv, PyData.shownKv]
      exact .dict (ps := []) e1 e2 e3 g (by simp) .nil
theorem DqAll.shows (I : Inv X pins σ H s) : ∀ (ds : List PyData) {vs : List V} {us : List Value}, DqAll X.K H vs ds → Vals vs us → PyData.showableAll ds = true → (∀ t ∈ PyData.shownAll ds, t.length ≤ sizeLine) →
    ∃ bs, ReadAtMost s.heap (PyData.depthAll ds) bs ∧ ReprAllK X.prog X.w bs s.heap (PyData.depthAll ds) us (PyData.shownAll ds)
  | [], _, _, h, r, _, _ => by
    cases h; cases r
    refine ⟨[], fun _ q => (nomatch q), ?_⟩
    simp only [PyData.shownAll]; exact .nil
  | d :: ds, _, _, h, r, hs, hz => by
    cases h with
    | cons h1 h2 =>
      cases r with
      | cons r1 r2 =>
        simp only [PyData.showableAll, Bool.and_eq_true] at hs
        simp only [PyData.shownAll] at hz
        obtain ⟨b1, a1, k1⟩ := Dq.shows I d h1 r1 hs.1 (hz _ List.mem_cons_self)
        obtain ⟨b2, a2, k2⟩ := DqAll.shows I ds h2 r2 hs.2 fun t ht => hz t (List.mem_cons_of_mem _ ht)
        refine ⟨b1 ++ b2, ?_, ?_⟩
        · simp only [PyData.depthAll]
          exact (a1.mono (Nat.le_max_left _ _)).append (a2.mono (Nat.le_max_right _ _))
        · simp only [PyData.depthAll, PyData.shownAll]
          refine .cons ((k1.more fun c hc => List.mem_append_left _ hc).level_le (Nat.le_max_left _ _)) ?_
          exact k2.more_le (fun c hc => List.mem_append_right _ hc) (Nat.le_max_right _ _)
end
end
def uRepr3 (K : PySem.W.Frag) : List V → Hp → VK → Prop := fun xs H Q => match xs with
  | [v] => ∃ d, Dq K H v d ∧ Okd d ∧ Q (.str d.shown) H
  | _ => False
theorem cu_repr3 {X : Cx} (hg : X.A.guards = some []) (hu : X.A.units + 64 < cLine) : CallR X (.builtin "repr") (uRepr3 X.K) := fun pins s σ H xs us Q I r h => by
  match xs, h with
  | [v], h =>
    obtain ⟨d, hd, ok, q⟩ := h
    match us, r with
    | [u], .cons ru .nil =>
      have fin : ∀ h' tk u', (∀ b o, s.heap.get? b = some o → h'.get? b = some o) → EP X pins σ Q (.str d.shown u') { s with heap := h', toks := tk } := fun h' tk u' kp =>
        ⟨.str d.shown, H, I.un (Un.kept kp) (I.hok.kept kp), ⟨_, rfl⟩, q⟩
      have stay : ∀ tk u', EP X pins σ Q (.str d.shown u') { s with toks := tk } := fun tk u' => fin s.heap tk u' fun _ _ z => z
      obtain ⟨as, rd⟩ := Dq.reads I d hd ru
      have h2 := ok.size
      have hdp := ok.dp
      cases hd with
      | non =>
        cases ru
        exact PySem.P.repr_of_none (by have e : PyData.shown .none = ("None" : Str) := by simp [PyData.shown]
                                       exact e ▸ stay _ _)
      | bl k =>
        cases ru
        exact PySem.P.repr_of_bool (by have e : PyData.shown (.bool k) = (if k then "True" else "False" : Str) := by simp [PyData.shown]
                                       exact e ▸ stay _ _)
      | int i =>
        obtain ⟨t, rfl⟩ := ru
        have g : i.natAbs.log2 < 1920 := by simpa [PyData.showable] using ok.sh
        exact PySem.P.repr_of_int g (by have e : PyData.shown (.int i) = (toString i : Str) := by simp [PyData.shown]
                                        exact e ▸ stay _ _)
      | str z =>
        obtain ⟨t, rfl⟩ := ru
        have e : PyData.shown (.str z) = reprText z := by simp [PyData.shown]
        exact PySem.P.repr_of_str (by exact e ▸ stay _ _) (e ▸ h2)
      | @lst a ys ds h2' h3 =>
        cases ru
        obtain ⟨us, rv, ⟨o, n, e1, e2, _, e3⟩, _⟩ := I.list h2'
        simp only [PyData.shown] at h2
        obtain ⟨bs, k1, k2⟩ := DqAll.shows I ds h3 rv (by simpa only [PyData.showable] using ok.sh) (fun t ht => Nat.le_trans (listText_mem_le ht) h2)
        have no : a ∉ bs := not_mem_of_deeper rd (by simp only [PyData.depth]; omega) k1
        simp only [PyData.depth] at hdp
        refine call_repr_slot (by omega) ⟨o, e1, e2⟩ F.slot_list_repr.toG ?_
        simp only [PyData.shown] at fin
        cases us with
        | nil =>
          cases rv
          cases h3
          simp only [PyData.shownAll, listText_nil] at fin
          exact call_list_repr_empty ⟨o, e1, e2⟩ e1 e3 ⟨_, _, rfl, fin s.heap _ _ fun _ _ z => z⟩
        | cons x l =>
          exact call_list_reprK e1 e2 e3 no (by simpa using k2.length_eq) (fun i y e => k2.item i y (by simpa using e)) (A := X.A.in1) hg (fun c _ => Clear.nil c) (by show X.A.units + 1 + _ < cLine; omega) (fun _ _ z => z) (fun h' u' tk kp => ⟨_, _, rfl, fin h' tk u' kp⟩) h2
      | @tup a ys ds h2' h3 =>
        cases ru
        obtain ⟨us, rv, ⟨o, e1, e2, n, e3⟩, _⟩ := I.tuple h2'
        simp only [PyData.shown] at h2
        obtain ⟨bs, k1, k2⟩ := DqAll.shows I ds h3 rv (by simpa only [PyData.showable] using ok.sh) (fun t ht => Nat.le_trans (tupleText_mem_le ht) h2)
        have no : a ∉ bs := not_mem_of_deeper rd (by simp only [PyData.depth]; omega) k1
        simp only [PyData.depth] at hdp
        refine call_repr_slot (by omega) ⟨o, e1, e2⟩ F.slot_tuple_repr ?_
        simp only [PyData.shown] at fin
        exact call_tuple_reprK e1 e2 e3 no (by simpa using k2) (A := X.A.in1) hg (fun c _ => Clear.nil c) (by show X.A.units + 1 + _ < cLine; omega) (fun _ _ z => z) (fun h' u' tk kp => ⟨_, _, rfl, fin h' tk u' kp⟩) h2
      | @dct a h2' =>
        cases ru
        obtain ⟨g, o, n, e1, e2, e3⟩ := dk_empty_at I h2'
        simp only [PyData.shown, PyData.shownKv] at h2 fin
        refine call_repr_slot (by omega) ⟨o, e1, e2⟩ F.slot_dict_repr ?_
        exact call_dict_reprK (as := []) (d := 0) (ps := []) e1 e2 e3 g (by simp) .nil (A := X.A.in1) hg (fun c _ => Clear.nil c) (by show X.A.units + 1 + _ < cLine; omega) (fun _ _ z => z) (fun h' u' tk kp => ⟨_, _, rfl, fin h' tk u' kp⟩) h2
end U

namespace Fx
open PySem PySem.Spec PyProof.Rows L2 U
noncomputable section
/-! ### what an expression gives -/
def bE (r : RE) (k : D → Fl → Sto → RE) : RE := match r with
  | .ok d f S => k d f S
  | .xc c fs S => .xc c fs S
  | .bad => .bad
def PostE (G : Gm) (E : WX) (F : Fr) (ι ω : List Addr) (ρ : Ev) (σ : L2.St) (H : Hp) (Q : VK) : RE → Prop
  | .ok d f S' => ∀ ι' v H', Ext ι H ι' H' → Rel G F ι' ω ρ S' σ H' → RF G.K G.ca ι' (F.B0 ++ ω) H H' S' v d f → Q v H'
  | .xc c fs S' => ∀ ι' dd fv H', Ext ι H ι' H' → Rel G F ι' ω ρ S' σ H' → dd ∉ ι' → dd ∉ F.B0 ++ ω → H' dd = some (.xd fv) → RFs G.K G.ca ι' (F.B0 ++ ω) H' fv fs → E (.ref (G.ca c)) (some dd) σ H'
  | .bad => False
def SE (G : Gm) (E : WX) (t : TE) (f : FE) : Prop := ∀ F ι ω ρ S σ H Q, Rel G F ι ω ρ S σ H → PostE G E F ι ω ρ σ H Q (f ρ S) → t σ H Q
section
variable {G : Gm} {E : WX} {F : Fr} {ι ω ι1 : List Addr} {ρ : Ev} {S S1 : Sto} {σ : L2.St} {H H1 : Hp} {Q : VK}
theorem PostE.ex {r : RE} (h : PostE G E F ι ω ρ σ H Q r) (e : Ext ι H ι1 H1) : PostE G E F ι1 ω ρ σ H1 Q r := by
  cases r with
  | ok d f S' => exact fun ι' v H' e' r rf => h ι' v H' (e.trans e') r (rf.old e.dom)
  | xc c fs S' => exact fun ι' dd fv H' e' r n1 n2 h1 h2 => h ι' dd fv H' (e.trans e') r n1 n2 h1 h2
  | bad => exact h
theorem SE.bind {ta : TE} {fa : FE} (ha : SE G E ta fa) (r : Rel G F ι ω ρ S σ H) {k : D → Fl → Sto → RE} (h : PostE G E F ι ω ρ σ H Q (bE (fa ρ S) k)) {R : VK}
    (c : ∀ d f S1 ι1 v H1, Ext ι H ι1 H1 → Rel G F ι1 ω ρ S1 σ H1 → RF G.K G.ca ι1 (F.B0 ++ ω) H H1 S1 v d f → PostE G E F ι1 ω ρ σ H1 Q (k d f S1) → R v H1) : ta σ H R := by
  refine ha F ι ω ρ S σ H R r ?_
  cases e : fa ρ S with
  | ok d f S1 =>
    rw [e] at h
    exact fun ι1 v H1 e1 r1 rf => c d f S1 ι1 v H1 e1 r1 rf (PostE.ex h e1)
  | xc c' fs S1 => rw [e] at h; exact h
  | bad => rw [e] at h; exact h
/-- an answer that changes nothing -/
theorem PostE.now {d : D} {v : V} (h : PostE G E F ι ω ρ σ H Q (.ok d .tr S)) (r : Rel G F ι ω ρ S σ H) (rv : RV G.K G.ca ι (F.B0 ++ ω) H v d) : Q v H := h ι v H Ext.refl r rv
theorem Per.add {B : List Addr} {p : Addr} {o : HO} (hp : H p = none) : Per ι B H ι (p :: B) (upd H p o) :=
  ⟨fun a u h1 h2 h3 => ⟨by rw [upd_ne (ne_of_none h1 hp)]; exact h1, h2, fun z => by
    rcases List.mem_cons.mp z with z | z
    · exact ne_of_none h1 hp z
    · exact h3 z⟩, fun _ _ h => h⟩
theorem Per.new {B : List Addr} {p : Addr} {o : HO} (hp : H p = none) : Per ι B H ι B (upd H p o) := (Ext.new1 hp).per
theorem RS.add {K : PySem.W.Frag} {ca : Nat → Addr} {B : List Addr} {p : Addr} {o : HO} (h : RS K ca ι B H S) (hp : H p = none) : RS K ca ι (p :: B) (upd H p o) S :=
  h.per (fun a ha => upd_ne fun z => h.here a ha (by rw [z]; exact hp)) (Per.add hp)
/-- a new list -/
theorem PostE.newL {ds : List D} {xs : List V} (h : PostE G E F ι ω ρ σ H Q (.ok (.lst ds) .fs S)) (r : Rel G F ι ω ρ S σ H) (rv : RAll G.K G.ca ι (F.B0 ++ ω) H xs ds) (p : Addr) (hp : H p = none) : Q (.ref p) (upd H p (.lst xs)) :=
  h ι (.ref p) _ (Ext.new1 hp) (r.new hp) (.l (r.offi hp) (r.offb hp) hp upd_same (rv.per (Per.add hp)) (r.sto.add hp))
theorem PostE.newT {ds : List D} {xs : List V} (h : PostE G E F ι ω ρ σ H Q (.ok (.tup ds) .tr S)) (r : Rel G F ι ω ρ S σ H) (rv : RAll G.K G.ca ι (F.B0 ++ ω) H xs ds) (p : Addr) (hp : H p = none) : Q (.ref p) (upd H p (.tup xs)) :=
  h ι (.ref p) _ (Ext.new1 hp) (r.new hp) (.tup (r.offi hp) (r.offb hp) upd_same (rv.per (Per.new hp)))
end

/-! ### lists, tuples, cells -/
def lsOf (S : Sto) : D → Option (List D)
  | .lst ds => some ds
  | .cel k => (match S[k]? with | some (.lst ds) => some ds | _ => none)
  | _ => none
def sqOf (S : Sto) : D → Option (List D)
  | .lst ds => some ds
  | .tup ds => some ds
  | .fro _ ds => some ds
  | .cel k => (match S[k]? with | some (.lst ds) => some ds | _ => none)
  | _ => none
section
variable {G : Gm} {E : WX} {F : Fr} {ι ω : List Addr} {ρ : Ev} {S : Sto} {σ : L2.St} {H : Hp} {v : V} {d : D} {ds : List D}
theorem cel_at (r : RS G.K G.ca ι (F.B0 ++ ω) H S) {k : Nat} {a : Addr} (h : ι[k]? = some a) (e : S[k]? = some (.lst ds)) : ∃ xs, H a = some (.lst xs) ∧ RAll G.K G.ca ι (F.B0 ++ ω) H xs ds := by
  cases r.at' k a _ h e with
  | lst h1 h2 => exact ⟨_, h1, h2⟩
theorem ls_at (r : RS G.K G.ca ι (F.B0 ++ ω) H S) (h : RT G.K G.ca ι (F.B0 ++ ω) H v d) (e : lsOf S d = some ds) : ∃ a xs, v = .ref a ∧ H a = some (.lst xs) ∧ RAll G.K G.ca ι (F.B0 ++ ω) H xs ds := by
  unfold lsOf at e
  split at e
  · cases e
    cases h with
    | v h => cases h with | lst h1 h2 h3 h4 => exact ⟨_, _, rfl, h3, h4⟩
    | l h1 h2 h3 => exact ⟨_, _, rfl, h2, h3⟩
  · split at e
    · cases e
      cases h with
      | v h => cases h with
        | cel h1 =>
          obtain ⟨xs, q1, q2⟩ := cel_at r h1 (by assumption)
          exact ⟨_, _, rfl, q1, q2⟩
    · cases e
  · cases e
theorem sq_at (r : RS G.K G.ca ι (F.B0 ++ ω) H S) (h : RT G.K G.ca ι (F.B0 ++ ω) H v d) (e : sqOf S d = some ds) : ∃ a xs, v = .ref a ∧ (SqL G.K H a xs ∨ SqT G.K H a xs) ∧ RAll G.K G.ca ι (F.B0 ++ ω) H xs ds := by
  unfold sqOf at e
  split at e
  · obtain ⟨a, xs, h1, h2, h3⟩ := ls_at r h (show lsOf S (.lst _) = some ds from e)
    exact ⟨a, xs, h1, .inl (.inl (.inl h2)), h3⟩
  · cases e
    cases h with
    | v h => cases h with | tup h1 h2 h3 h4 => exact ⟨_, _, rfl, .inr (.inl (.inl h3)), h4⟩
  · cases e
    cases h with
    | v h => cases h with | fro h1 h2 => exact ⟨_, _, rfl, h1.sq, h2⟩
  · rename_i k
    obtain ⟨a, xs, h1, h2, h3⟩ := ls_at r h (show lsOf S (.cel k) = some ds from e)
    exact ⟨a, xs, h1, .inl (.inl (.inl h2)), h3⟩
  · cases e
end

/-! ### names, constants -/
def fVar (i : Nat) : FE := fun ρ S => match ρ[i]? with
  | some (.val d) => .ok d .tr S
  | some (.own ds) => .ok (.lst ds) .pk S
  | some (.oob c fs) => .ok (.obj c fs) .pk S
  | _ => .bad
def fC (d : D) : FE := fun _ S => .ok d .tr S
section
variable {G : Gm} {E : WX}
theorem se_var (i : Nat) : SE G E (uVar i) (fVar i) := by
  intro F ι ω ρ S σ H Q r h
  unfold fVar at h
  unfold uVar
  cases e : ρ[i]? with
  | none => rw [e] at h; exact h.elim
  | some s =>
    rw [e] at h
    have hi : i < σ.length := by rw [← r.len]; exact (List.getElem?_eq_some_iff.mp e).1
    have q := r.env i s _ e (List.getElem?_eq_getElem hi)
    have e2 : σ[i]? = some σ[i] := List.getElem?_eq_getElem hi
    rw [e2]
    generalize σ[i] = o at q
    cases q with
    | no => exact h.elim
    | val rv => exact PostE.now h r rv
    | own h1 h2 h3 => exact h ι _ H Ext.refl r (.l (r.dj _ h1) h2 h3)
    | oob h1 h0 h2 h3 => exact h ι _ H Ext.refl r (.o (r.dj _ h1) h2 h3)
    | exn => exact h.elim
theorem se_non : SE G E (tC .non) (fC .non) := fun F ι ω ρ S σ H Q r h => PostE.now h r .non
theorem se_bl (b : Bool) : SE G E (tC (.bl b)) (fC (.bl b)) := fun F ι ω ρ S σ H Q r h => PostE.now h r (.bl b)
theorem se_int (i : Int) : SE G E (tC (.int i)) (fC (.int i)) := fun F ι ω ρ S σ H Q r h => PostE.now h r (.int i)
theorem se_str (z : Str) : SE G E (tC (.str z)) (fC (.str z)) := fun F ι ω ρ S σ H Q r h => PostE.now h r (.str z)
end

/-! ### operators -/
def lim : Nat := 1000000
theorem lim_le {n : Nat} (h : n ≤ lim) : n ≤ sizeLine := Nat.le_trans h (by decide)
theorem lim_lt {n : Nat} (h : n < lim) : n < sizeLine := Nat.lt_of_lt_of_le h (by decide)
def fOp (f : D → D → Sto → RE) (ea eb : FE) : FE := fun ρ S => bE (ea ρ S) fun d _ S1 => bE (eb ρ S1) fun e _ S2 => f d e S2
def fUn (f : D → Sto → RE) (ea : FE) : FE := fun ρ S => bE (ea ρ S) fun d _ S1 => f d S1
def SR (G : Gm) (E : WX) (r : R2) (f : D → D → Sto → RE) : Prop := ∀ F ι ω ρ S σ H Q x y d e, Rel G F ι ω ρ S σ H → RT G.K G.ca ι (F.B0 ++ ω) H x d → RT G.K G.ca ι (F.B0 ++ ω) H y e → PostE G E F ι ω ρ σ H Q (f d e S) → r x y H Q
section
variable {G : Gm} {E : WX}
theorem se_op {r : R2} {f : D → D → Sto → RE} {ta tb : TE} {fa fb : FE} (hr : SR G E r f) (ha : SE G E ta fa) (hb : SE G E tb fb) : SE G E (tOp r ta tb) (fOp f fa fb) := by
  intro F ι ω ρ S σ H Q rel h
  refine ha.bind rel h fun d fl S1 ι1 v H1 e1 r1 rf1 h1 => ?_
  refine hb.bind r1 h1 fun e fl2 S2 ι2 w H2 e2 r2 rf2 h2 => ?_
  exact hr F ι2 ω ρ S2 σ H2 Q v w d e r2 (rf1.rt.ex e2) rf2.rt h2
end
open Classical in
def dAdd (d e : D) (S : Sto) : RE := match d, e with
  | .int i, .int j => .ok (.int (i + j)) .tr S
  | .str a, .str b => if a.length + b.length ≤ lim then .ok (.str (a ++ b)) .tr S else .bad
  | d, e => (match lsOf S d, lsOf S e with
    | some a, some b => if a.length + b.length ≤ lim then .ok (.lst (a ++ b)) .fs S else .bad
    | _, _ => .bad)
def dSub (d e : D) (S : Sto) : RE := match d, e with
  | .int i, .int j => .ok (.int (i - j)) .tr S
  | _, _ => .bad
open Classical in
def dMul (d e : D) (S : Sto) : RE := match d, e with
  | .int i, .int j => if CMul i j then .ok (.int (i * j)) .tr S else .bad
  | .str z, .int k => if MulOk z k then .ok (.str (Txt.mul z k)) .tr S else .bad
  | d, .int k => (match lsOf S d with
    | some a => if -(2 ^ 63) ≤ k ∧ k < 2 ^ 63 ∧ a.length * k.toNat ≤ lim then .ok (.lst (List.replicate k.toNat a).flatten) .fs S else .bad
    | _ => .bad)
  | _, _ => .bad
open Classical in
def dFdiv (d e : D) (S : Sto) : RE := match d, e with
  | .int i, .int j => if CDiv i j then .ok (.int (i / j)) .tr S else .bad
  | _, _ => .bad
def dMod (d e : D) (S : Sto) : RE := match d, e with
  | .int i, .int j => if 0 < j then .ok (.int (i % j)) .tr S else .bad
  | _, _ => .bad
open Classical in
def dPow (d e : D) (S : Sto) : RE := match d, e with
  | .int i, .int j => if CPow i j then .ok (.int (i ^ j.toNat)) .tr S else .bad
  | _, _ => .bad
def dCmp (p : Int → Int → Bool) (q : List Nat → List Nat → Bool) (d e : D) (S : Sto) : RE := match d, e with
  | .int i, .int j => .ok (.bl (p i j)) .tr S
  | .str i, .str j => .ok (.bl (q (sl i) (sl j))) .tr S
  | _, _ => .bad
abbrev dLt := dCmp (fun i j => decide (i < j)) (fun i j => decide (i < j))
abbrev dLe := dCmp (fun i j => decide (i ≤ j)) (fun i j => !decide (j < i))
abbrev dGt := dCmp (fun i j => decide (j < i)) (fun i j => decide (j < i))
abbrev dGe := dCmp (fun i j => decide (j ≤ i)) (fun i j => !decide (i < j))
section
variable {G : Gm} {E : WX}
theorem RT.sInt {K : PySem.W.Frag} {ca : Nat → Addr} {ι B : List Addr} {H : Hp} {v : V} {i : Int} (h : RT K ca ι B H v (.int i)) : v = .int i := by cases h with | v h => cases h; rfl
theorem RT.sStr {K : PySem.W.Frag} {ca : Nat → Addr} {ι B : List Addr} {H : Hp} {v : V} {i : Str} (h : RT K ca ι B H v (.str i)) : v = .str i := by cases h with | v h => cases h; rfl
theorem RT.sBl {K : PySem.W.Frag} {ca : Nat → Addr} {ι B : List Addr} {H : Hp} {v : V} {i : Bool} (h : RT K ca ι B H v (.bl i)) : v = .bl i := by cases h with | v h => cases h; rfl
theorem RT.sNon {K : PySem.W.Frag} {ca : Nat → Addr} {ι B : List Addr} {H : Hp} {v : V} (h : RT K ca ι B H v .non) : v = .non := by cases h with | v h => cases h; rfl
theorem sr_add : SR G E (uAdd G.K) dAdd := by
  intro F ι ω ρ S σ H Q x y d e rel hx hy h
  unfold dAdd at h
  split at h
  · rw [hx.sInt, hy.sInt]; exact PostE.now h rel (.int _)
  · rw [hx.sStr, hy.sStr]
    split at h
    · exact ⟨lim_le (by assumption), PostE.now h rel (.str _)⟩
    · exact h.elim
  · split at h
    · rename_i a b ea eb
      obtain ⟨p, xs, rfl, h1, h2⟩ := ls_at rel.sto hx ea
      obtain ⟨q, ys, rfl, h3, h4⟩ := ls_at rel.sto hy eb
      split at h
      · rename_i hl
        exact ⟨xs, ys, h1, h3, by rw [h2.len, h4.len]; exact lim_le hl, fun p' hp => PostE.newL h rel (h2.app h4) p' hp⟩
      · exact h.elim
    · exact h.elim
theorem sr_sub : SR G E uSub dSub := by
  intro F ι ω ρ S σ H Q x y d e rel hx hy h
  unfold dSub at h
  split at h
  · rw [hx.sInt, hy.sInt]; exact PostE.now h rel (.int _)
  · exact h.elim
theorem rep_all {K : PySem.W.Frag} {ca : Nat → Addr} {ι B : List Addr} {H : Hp} {xs : List V} {ds : List D} (h : RAll K ca ι B H xs ds) : ∀ n : Nat, RAll K ca ι B H (List.replicate n xs).flatten (List.replicate n ds).flatten
  | 0 => .nil
  | n + 1 => by
    rw [List.replicate_succ, List.replicate_succ, List.flatten_cons, List.flatten_cons]
    exact h.app (rep_all h n)
theorem sr_mul : SR G E uMul3 dMul := by
  intro F ι ω ρ S σ H Q x y d e rel hx hy h
  unfold dMul at h
  split at h
  · rw [hx.sInt, hy.sInt]
    split at h
    · exact ⟨by assumption, PostE.now h rel (.int _)⟩
    · exact h.elim
  · rw [hx.sStr, hy.sInt]
    split at h
    · exact ⟨by assumption, PostE.now h rel (.str _)⟩
    · exact h.elim
  · split at h
    · rename_i a ea
      obtain ⟨p, xs, rfl, h1, h2⟩ := ls_at rel.sto hx ea
      rw [hy.sInt]
      split at h
      · rename_i hl
        exact oK_of (mutL_of h1) ⟨hl.1, hl.2.1, by rw [h2.len]; exact lim_le hl.2.2, fun p' hp => PostE.newL h rel (rep_all h2 _) p' hp⟩
      · exact h.elim
    · exact h.elim
  · exact h.elim
theorem sr_fdiv : SR G E uFdiv dFdiv := by
  intro F ι ω ρ S σ H Q x y d e rel hx hy h
  unfold dFdiv at h
  split at h
  · rw [hx.sInt, hy.sInt]
    split at h
    · exact ⟨by assumption, PostE.now h rel (.int _)⟩
    · exact h.elim
  · exact h.elim
theorem sr_mod : SR G E uMod dMod := by
  intro F ι ω ρ S σ H Q x y d e rel hx hy h
  unfold dMod at h
  split at h
  · rw [hx.sInt, hy.sInt]
    split at h
    · exact ⟨by assumption, PostE.now h rel (.int _)⟩
    · exact h.elim
  · exact h.elim
theorem sr_pow : SR G E uPow dPow := by
  intro F ι ω ρ S σ H Q x y d e rel hx hy h
  unfold dPow at h
  split at h
  · rw [hx.sInt, hy.sInt]
    split at h
    · exact ⟨by assumption, PostE.now h rel (.int _)⟩
    · exact h.elim
  · exact h.elim
theorem sr_cmp (p : Int → Int → Bool) (q : List Nat → List Nat → Bool) : SR G E (uCmpI p q) (dCmp p q) := by
  intro F ι ω ρ S σ H Q x y d e rel hx hy h
  unfold dCmp at h
  split at h
  · rw [hx.sInt, hy.sInt]; exact PostE.now h rel (.bl _)
  · rw [hx.sStr, hy.sStr]; exact PostE.now h rel (.bl _)
  · exact h.elim
end
/-! ### data of a value -/
mutual
def tree (c : Nat → Option PyData) : D → Option PyData
  | .non => some .none
  | .bl b => some (.bool b)
  | .int i => some (.int i)
  | .str z => some (.str z)
  | .lst ds => (treeAll c ds).map .list
  | .tup ds => (treeAll c ds).map .tuple
  | .fro _ _ => none
  | .dct [] => some (.dict [])
  | .dct (_ :: _) => none
  | .cel k => c k
  | .obj _ _ => none
  | .cls _ => none
def treeAll (c : Nat → Option PyData) : List D → Option (List PyData)
  | [] => some []
  | d :: ds => (match tree c d, treeAll c ds with | some p, some ps => some (p :: ps) | _, _ => none)
end
def cells : Nat → Sto → Nat → Option PyData
  | 0, _, _ => none
  | n + 1, S, k => (match S[k]? with | some (.lst ds) => (treeAll (cells n S) ds).map .list | _ => none)
def toP (S : Sto) (d : D) : Option PyData := tree (cells 4 S) d
section
variable {K : PySem.W.Frag} {ca : Nat → Addr} {ι B : List Addr} {H : Hp} {c : Nat → Option PyData}
mutual
theorem tree_dq (hc : ∀ k a p, ι[k]? = some a → c k = some p → Dq K H (.ref a) p) : ∀ (d : D) {v : V} {p : PyData}, RV K ca ι B H v d → tree c d = some p → Dq K H v p
  | .non, _, _, h, e => by cases h; simp only [tree] at e; cases e; exact .non
  | .bl _, _, _, h, e => by cases h; simp only [tree] at e; cases e; exact .bl _
  | .int _, _, _, h, e => by cases h; simp only [tree] at e; cases e; exact .int _
  | .str _, _, _, h, e => by cases h; simp only [tree] at e; cases e; exact .str _
  | .lst ds, _, _, h, e => by
    cases h with
    | lst h1 h2 h3 h4 =>
      simp only [tree, Option.map_eq_some_iff] at e
      obtain ⟨ps, e1, rfl⟩ := e
      exact .lst (.inl (.inl h3)) (treeAll_dq hc ds h4 e1)
  | .tup ds, _, _, h, e => by
    cases h with
    | tup h1 h2 h3 h4 =>
      simp only [tree, Option.map_eq_some_iff] at e
      obtain ⟨ps, e1, rfl⟩ := e
      exact .tup (.inl (.inl h3)) (treeAll_dq hc ds h4 e1)
  | .fro _ _, _, _, h, e => by simp only [tree] at e; cases e
  | .dct [], _, _, h, e => by
    cases h with
    | dct h1 h2 h3 h4 =>
      cases h4
      simp only [tree] at e; cases e
      exact .dct h3
  | .dct (_ :: _), _, _, h, e => by simp only [tree] at e; cases e
  | .cel k, _, _, h, e => by
    cases h with
    | cel h1 => simp only [tree] at e; exact hc _ _ _ h1 e
  | .obj _ _, _, _, h, e => by simp only [tree] at e; cases e
  | .cls _, _, _, h, e => by simp only [tree] at e; cases e
theorem treeAll_dq (hc : ∀ k a p, ι[k]? = some a → c k = some p → Dq K H (.ref a) p) : ∀ (ds : List D) {vs : List V} {ps : List PyData}, RAll K ca ι B H vs ds → treeAll c ds = some ps → DqAll K H vs ps
  | [], _, _, h, e => by cases h; simp only [treeAll] at e; cases e; exact .nil
  | d :: ds, _, _, h, e => by
    cases h with
    | cons h1 h2 =>
      simp only [treeAll] at e
      split at e
      · cases e
        exact .cons (tree_dq hc d h1 (by assumption)) (treeAll_dq hc ds h2 (by assumption))
      · cases e
end
theorem cells_dq {S : Sto} (rs : RS K ca ι B H S) : ∀ (n : Nat) (k : Nat) (a : Addr) (p : PyData), ι[k]? = some a → cells n S k = some p → Dq K H (.ref a) p
  | 0, _, _, _, _, e => by unfold cells at e; cases e
  | n + 1, k, a, p, h, e => by
    unfold cells at e
    split at e
    · rename_i ds es
      rw [Option.map_eq_some_iff] at e
      obtain ⟨ps, e1, rfl⟩ := e
      cases rs.at' k a _ h es with
      | lst h1 h2 => exact .lst (.inl (.inl h1)) (treeAll_dq (cells_dq rs n) ds h2 e1)
    · cases e
theorem toP_dq {S : Sto} {v : V} {d : D} {p : PyData} (rs : RS K ca ι B H S) (h : RT K ca ι B H v d) (e : toP S d = some p) : Dq K H v p := by
  unfold toP at e
  cases h with
  | v h => exact tree_dq (cells_dq rs 4) d h e
  | l h1 h2 h3 =>
    simp only [tree, Option.map_eq_some_iff] at e
    obtain ⟨ps, e1, rfl⟩ := e
    exact .lst (.inl (.inl h2)) (treeAll_dq (cells_dq rs 4) _ h3 e1)
  | o => simp only [tree] at e; cases e
end
def scalP : PyData → PyData → Bool
  | .none, .none => true | .none, .int _ => true | .int _, .none => true | .none, .bool _ => true | .bool _, .none => true | .none, .str _ => true | .str _, .none => true
  | .int _, .int _ => true | .bool _, .bool _ => true | .str _, .str _ => true
  | .int _, .str _ => true | .str _, .int _ => true | .bool _, .str _ => true | .str _, .bool _ => true
  | _, _ => false
theorem scal_eqv {K : PySem.W.Frag} {H : Hp} {x y : V} {p q : PyData} (hx : Dq K H x p) (hy : Dq K H y q) (h : scal x y = true) : PyData.eqv p q = decide (x = y) := by
  cases hx <;> cases hy <;> first | (simp [scal] at h; done) | (simp [PyData.eqv]; done) | (simp [PyData.eqv]; rw [Bool.eq_iff_iff]; simp; done)
theorem scalP_scal {K : PySem.W.Frag} {H : Hp} {x y : V} {p q : PyData} (hx : Dq K H x p) (hy : Dq K H y q) : scal x y = scalP p q := by
  cases hx <;> cases hy <;> rfl
/-- == of data -/
def dEqv (neg : Bool) (d e : D) (S : Sto) : RE := match toP S d, toP S e with
  | some p, some q => if (scalP p q || (SeqAt.shaped p && SeqAt.shaped q && !p.hasDict && !q.hasDict)) = true then .ok (.bl (neg ^^ PyData.eqv p q)) .tr S else .bad
  | _, _ => .bad
section
variable {G : Gm} {E : WX}
theorem sr_eq : SR G E (uEq2 G.K) (dEqv false) := by
  intro F ι ω ρ S σ H Q x y d e rel hx hy h
  unfold dEqv at h
  split at h
  · rename_i p q ep eq
    have q1 := toP_dq rel.sto hx ep
    have q2 := toP_dq rel.sto hy eq
    split at h
    · rename_i hc
      unfold uEq2
      cases es : scal x y with
      | true =>
        rw [Bool.false_xor, scal_eqv q1 q2 es] at h
        exact PostE.now h rel (.bl _)
      | false =>
        rw [← scalP_scal q1 q2, es, Bool.false_or] at hc
        simp only [Bool.and_eq_true, Bool.not_eq_true'] at hc
        obtain ⟨⟨⟨h1, h2⟩, h3⟩, h4⟩ := hc
        exact .inl ⟨p, q, q1.dp p h3, q2.dp q h4, h1, h2, by rw [Bool.false_xor] at h; exact PostE.now h rel (.bl _)⟩
    · exact h.elim
  · exact h.elim
theorem sr_ne : SR G E (uNe2 G.K) (dEqv true) := by
  intro F ι ω ρ S σ H Q x y d e rel hx hy h
  unfold dEqv at h
  split at h
  · rename_i p q ep eq
    have q1 := toP_dq rel.sto hx ep
    have q2 := toP_dq rel.sto hy eq
    split at h
    · rename_i hc
      unfold uNe2
      cases es : scal x y with
      | true =>
        rw [Bool.true_xor, scal_eqv q1 q2 es] at h
        exact PostE.now h rel (.bl _)
      | false =>
        rw [← scalP_scal q1 q2, es, Bool.false_or] at hc
        simp only [Bool.and_eq_true, Bool.not_eq_true'] at hc
        obtain ⟨⟨⟨h1, h2⟩, h3⟩, h4⟩ := hc
        exact .inl ⟨p, q, q1.dp p h3, q2.dp q h4, h1, h2, by rw [Bool.true_xor] at h; exact PostE.now h rel (.bl _)⟩
    · exact h.elim
  · exact h.elim
end
end
end Fx

namespace Fx
open PySem PySem.Spec PyProof.Rows L2 U
noncomputable section
/-! ### rows of expressions -/
inductive RA where
  | ok (ds : List D) (t : Bool) (S : Sto) | xc (c : Nat) (fs : List (Str × D)) (S : Sto) | bad
abbrev FA := Ev → Sto → RA
def RAf (K : PySem.W.Frag) (ca : Nat → Addr) (ι B : List Addr) (H : Hp) (vs : List V) (ds : List D) : Bool → Prop
  | true => RAll K ca ι B H vs ds
  | false => Paired (RT K ca ι B H) vs ds
def PostA (G : Gm) (E : WX) (F : Fr) (ι ω : List Addr) (ρ : Ev) (σ : L2.St) (H : Hp) (Q : List V → Hp → Prop) : RA → Prop
  | .ok ds t S' => ∀ ι' vs H', Ext ι H ι' H' → Rel G F ι' ω ρ S' σ H' → RAf G.K G.ca ι' (F.B0 ++ ω) H' vs ds t → Q vs H'
  | .xc c fs S' => ∀ ι' dd fv H', Ext ι H ι' H' → Rel G F ι' ω ρ S' σ H' → dd ∉ ι' → dd ∉ F.B0 ++ ω → H' dd = some (.xd fv) → RFs G.K G.ca ι' (F.B0 ++ ω) H' fv fs → E (.ref (G.ca c)) (some dd) σ H'
  | .bad => False
def SA (G : Gm) (E : WX) (t : TA) (f : FA) : Prop := ∀ F ι ω ρ S σ H Q, Rel G F ι ω ρ S σ H → PostA G E F ι ω ρ σ H Q (f ρ S) → t σ H Q
def Fl.nop : Fl → Bool
  | .pk => false
  | _ => true
def fNil : FA := fun _ S => .ok [] true S
def fCons (fa : FE) (fr : FA) : FA := fun ρ S => match fa ρ S with
  | .ok d f S1 => (match fr ρ S1 with
    | .ok ds t S2 => .ok (d :: ds) (f.nop && t) S2
    | .xc c fs S2 => .xc c fs S2
    | .bad => .bad)
  | .xc c fs S1 => .xc c fs S1
  | .bad => .bad
section
variable {G : Gm} {E : WX} {F : Fr} {ι ω ι1 : List Addr} {ρ : Ev} {S S1 : Sto} {σ : L2.St} {H H1 : Hp} {Q : VK}
theorem PostE.bind {r : RE} {k : D → Fl → Sto → RE} (h : PostE G E F ι ω ρ σ H Q (bE r k)) {R : VK}
    (c : ∀ d f S1 ι1 v H1, Ext ι H ι1 H1 → Rel G F ι1 ω ρ S1 σ H1 → RF G.K G.ca ι1 (F.B0 ++ ω) H H1 S1 v d f → PostE G E F ι1 ω ρ σ H1 Q (k d f S1) → R v H1) : PostE G E F ι ω ρ σ H R r := by
  cases r with
  | ok d f S1 => exact fun ι1 v H1 e1 r1 rf => c d f S1 ι1 v H1 e1 r1 rf (PostE.ex h e1)
  | xc c' fs S1 => exact h
  | bad => exact h
theorem PostA.ex {r : RA} {Q : List V → Hp → Prop} (h : PostA G E F ι ω ρ σ H Q r) (e : Ext ι H ι1 H1) : PostA G E F ι1 ω ρ σ H1 Q r := by
  cases r with
  | ok d f S' => exact fun ι' v H' e' r rf => h ι' v H' (e.trans e') r rf
  | xc c fs S' => exact fun ι' dd fv H' e' r n1 n2 h1 h2 => h ι' dd fv H' (e.trans e') r n1 n2 h1 h2
  | bad => exact h
theorem rall_pair {K : PySem.W.Frag} {ca : Nat → Addr} {ι B : List Addr} {H : Hp} : ∀ {ds : List D} {vs : List V}, RAll K ca ι B H vs ds → Paired (RT K ca ι B H) vs ds
  | [], _, h => by cases h; exact .nil
  | d :: ds, _, h => by
    cases h with
    | cons h1 h2 => exact .cons (.v h1) (rall_pair h2)
theorem RAf.pair {K : PySem.W.Frag} {ca : Nat → Addr} {ι B : List Addr} {H : Hp} {ds : List D} {vs : List V} {t : Bool} (h : RAf K ca ι B H vs ds t) : Paired (RT K ca ι B H) vs ds := by
  cases t with
  | true => exact rall_pair h
  | false => exact h
theorem sa_nil : SA G E tNil fNil := fun F ι ω ρ S σ H Q r h => h ι [] H Ext.refl r .nil
theorem sa_cons {ta : TE} {tr : TA} {fa : FE} {fr : FA} (ha : SE G E ta fa) (hr : SA G E tr fr) : SA G E (tCons ta tr) (fCons fa fr) := by
  intro F ι ω ρ S σ H Q rel h
  refine ha F ι ω ρ S σ H _ rel ?_
  unfold fCons at h
  cases e : fa ρ S with
  | ok d f S1 =>
    rw [e] at h
    intro ι1 v H1 e1 r1 rf
    refine hr F ι1 ω ρ S1 σ H1 _ r1 ?_
    dsimp only at h
    cases e2 : fr ρ S1 with
    | ok ds t S2 =>
      rw [e2] at h
      intro ι2 vs H2 x2 r2 ra
      refine h ι2 (v :: vs) H2 (e1.trans x2) r2 ?_
      cases hf : f.nop && t with
      | true =>
        rw [Bool.and_eq_true] at hf
        obtain ⟨h1, rfl⟩ := hf
        exact .cons ((rf.rv (by intro z; subst z; cases h1)).ex x2) ra
      | false => exact .cons (rf.rt.ex x2) ra.pair
    | xc c fs S2 => rw [e2] at h; exact PostA.ex h e1
    | bad => rw [e2] at h; exact h
  | xc c fs S1 => rw [e] at h; exact h
  | bad => rw [e] at h; exact h
/-- a call of a built-in -/
def fCB (f : List D → Bool → Sto → RE) (fa : FA) : FE := fun ρ S => match fa ρ S with
  | .ok ds t S1 => f ds t S1
  | .xc c fs S1 => .xc c fs S1
  | .bad => .bad
def SC (G : Gm) (E : WX) (r : List V → Hp → VK → Prop) (f : List D → Bool → Sto → RE) : Prop := ∀ F ι ω ρ S σ H Q vs ds t, Rel G F ι ω ρ S σ H → RAf G.K G.ca ι (F.B0 ++ ω) H vs ds t → PostE G E F ι ω ρ σ H Q (f ds t S) → r vs H Q
theorem sa_then {ta : TA} {fa : FA} (ha : SA G E ta fa) (rel : Rel G F ι ω ρ S σ H) {f : List D → Bool → Sto → RE} (h : PostE G E F ι ω ρ σ H Q (fCB f fa ρ S)) {R : List V → Hp → Prop}
    (c : ∀ ds t S1 ι1 vs H1, Ext ι H ι1 H1 → Rel G F ι1 ω ρ S1 σ H1 → RAf G.K G.ca ι1 (F.B0 ++ ω) H1 vs ds t → PostE G E F ι1 ω ρ σ H1 Q (f ds t S1) → R vs H1) : ta σ H R := by
  refine ha F ι ω ρ S σ H R rel ?_
  unfold fCB at h
  cases e : fa ρ S with
  | ok ds t S1 =>
    rw [e] at h
    exact fun ι1 vs H1 e1 r1 ra => c ds t S1 ι1 vs H1 e1 r1 ra (PostE.ex h e1)
  | xc c fs S1 => rw [e] at h; exact h
  | bad => rw [e] at h; exact h
theorem se_cb {r : List V → Hp → VK → Prop} {f : List D → Bool → Sto → RE} {ta : TA} {fa : FA} (hr : SC G E r f) (ha : SA G E ta fa) : SE G E (tCB r ta) (fCB f fa) := by
  intro F ι ω ρ S σ H Q rel h
  exact sa_then ha rel h fun ds t S1 ι1 vs H1 e1 r1 ra h1 => hr F ι1 ω ρ S1 σ H1 Q vs ds t r1 ra h1
/-! ### displays -/
def dLst (ds : List D) (t : Bool) (S : Sto) : RE := if (t && decide (ds.length ≤ lim)) = true then .ok (.lst ds) .fs S else .bad
def dTup (ds : List D) (t : Bool) (S : Sto) : RE := if (t && decide (ds.length ≤ lim)) = true then .ok (.tup ds) .tr S else .bad
def fLst (fa : FA) : FE := fCB dLst fa
def fTup (fa : FA) : FE := fCB dTup fa
theorem se_lst {ta : TA} {fa : FA} (ha : SA G E ta fa) : SE G E (tLst ta) (fLst fa) := by
  intro F ι ω ρ S σ H Q rel h
  refine sa_then ha rel h fun ds t S1 ι1 vs H1 e1 r1 ra h1 => ?_
  unfold dLst at h1
  split at h1
  · rename_i hc
    rw [Bool.and_eq_true] at hc
    obtain ⟨rfl, hl⟩ := hc
    exact ⟨by rw [RAll.len ra]; exact lim_le (of_decide_eq_true hl), fun p hp => PostE.newL h1 r1 ra p hp⟩
  · exact h1.elim
theorem se_tup {ta : TA} {fa : FA} (ha : SA G E ta fa) : SE G E (tTup ta) (fTup fa) := by
  intro F ι ω ρ S σ H Q rel h
  refine sa_then ha rel h fun ds t S1 ι1 vs H1 e1 r1 ra h1 => ?_
  unfold dTup at h1
  split at h1
  · rename_i hc
    rw [Bool.and_eq_true] at hc
    obtain ⟨rfl, hl⟩ := hc
    exact ⟨by rw [RAll.len ra]; exact lim_le (of_decide_eq_true hl), fun p hp => PostE.newT h1 r1 ra p hp⟩
  · exact h1.elim
def fDNew : FE := fun _ S => .ok (.dct []) .tr S
theorem se_dnew : SE G E tDNewK fDNew := fun F ι ω ρ S σ H Q rel h p hp => h ι (.ref p) _ (Ext.new1 hp) (rel.new hp) (.dct (rel.offi hp) (rel.offb hp) upd_same .nil)
/-! ### in -/
def flat : D → Option V
  | .non => some .non
  | .bl b => some (.bl b)
  | .int i => some (.int i)
  | .str z => some (.str z)
  | _ => none
def flatAll : List D → Option (List V)
  | [] => some []
  | d :: ds => (match flat d, flatAll ds with | some v, some vs => some (v :: vs) | _, _ => none)
theorem flat_rv {K : PySem.W.Frag} {ca : Nat → Addr} {ι B : List Addr} {H : Hp} {v x : V} {d : D} (h : RV K ca ι B H v d) (e : flat d = some x) : v = x ∧ flatV x = true := by
  cases h <;> first | (cases e; exact ⟨rfl, rfl⟩) | (cases e; done)
theorem flat_rt {K : PySem.W.Frag} {ca : Nat → Addr} {ι B : List Addr} {H : Hp} {v x : V} {d : D} (h : RT K ca ι B H v d) (e : flat d = some x) : v = x ∧ flatV x = true := by
  cases h with
  | v h => exact flat_rv h e
  | l => cases e
  | o => cases e
theorem flat_all {K : PySem.W.Frag} {ca : Nat → Addr} {ι B : List Addr} {H : Hp} : ∀ {ds : List D} {vs xs : List V}, RAll K ca ι B H vs ds → flatAll ds = some xs → vs = xs ∧ xs.all flatV = true
  | [], _, _, h, e => by cases h; simp only [flatAll] at e; cases e; exact ⟨rfl, rfl⟩
  | d :: ds, _, _, h, e => by
    cases h with
    | cons h1 h2 =>
      simp only [flatAll] at e
      split at e
      · cases e
        obtain ⟨rfl, q1⟩ := flat_rv h1 (by assumption)
        obtain ⟨rfl, q2⟩ := flat_all h2 (by assumption)
        exact ⟨rfl, by rw [List.all_cons, q1, q2]; rfl⟩
      · cases e
def dIn (neg : Bool) (d e : D) (S : Sto) : RE := match d, e with
  | .str w, .str z => (match sl w with
    | [c] => .ok (.bl (if neg then !decide (c ∈ sl z) else decide (c ∈ sl z))) .tr S
    | _ => .bad)
  | d, e => (match flat d, sqOf S e with
    | some x, some ds => (match flatAll ds with
      | some vs => .ok (.bl (if neg then !inV x vs else inV x vs)) .tr S
      | none => .bad)
    | _, _ => .bad)
theorem sr_in (neg : Bool) : SR G E (uIn G.K neg) (dIn neg) := by
  intro F ι ω ρ S σ H Q x y d e rel hx hy h
  unfold dIn at h
  split at h
  · rw [hx.sStr, hy.sStr]
    unfold uIn
    split at h
    · rename_i c ec
      have ec' := ec
      dsimp only
      simp only [sl] at ec
      rw [ec]
      exact PostE.now h rel (.bl _)
    · exact h.elim
  · split at h
    · rename_i x' ds e1 e2
      split at h
      · rename_i vs e3
        obtain ⟨rfl, q1⟩ := flat_rt hx e1
        obtain ⟨a, xs, rfl, q2, q3⟩ := sq_at rel.sto hy e2
        obtain ⟨rfl, q4⟩ := flat_all q3 e3
        exact ⟨_, q2, q1, q4, PostE.now h rel (.bl _)⟩
      · exact h.elim
    · exact h.elim
/-! ### items -/
theorem at_rv {K : PySem.W.Frag} {ca : Nat → Addr} {ι B : List Addr} {H : Hp} {vs : List V} {ds : List D} (h : RAll K ca ι B H vs ds) {i : Int} {d : D} (e : atI ds i = some d) : ∃ v, atI vs i = some v ∧ RV K ca ι B H v d := by
  unfold atI at e ⊢
  rw [h.len]
  cases hj : ixN ds.length i with
  | none => rw [hj] at e; cases e
  | some j =>
    rw [hj] at e
    exact h.at j e
def dIx (d e : D) (S : Sto) : RE := match d, e with
  | .str z, .int i => if z.length ≤ lim then (match atI (sl z) i with
    | some c => .ok (.str ⟨#[c]⟩) .tr S
    | none => .bad) else .bad
  | d, .int i => (match sqOf S d with
    | some ds => (match atI ds i with
      | some x => .ok x .tr S
      | none => .bad)
    | none => .bad)
  | _, _ => .bad
theorem sr_ix : SR G E (uIx G.K) dIx := by
  intro F ι ω ρ S σ H Q x y d e rel hx hy h
  unfold dIx at h
  split at h
  · rw [hx.sStr, hy.sInt]
    split at h
    · rename_i hl
      split at h
      · rename_i c ec
        exact ⟨lim_le hl, oK_of ec (PostE.now h rel (.str _))⟩
      · exact h.elim
    · exact h.elim
  · rename_i i _
    rw [hy.sInt]
    split at h
    · rename_i ds e1
      split at h
      · rename_i x' e2
        obtain ⟨a, xs, rfl, q2, q3⟩ := sq_at rel.sto hx e1
        obtain ⟨v, q4, q5⟩ := at_rv q3 e2
        exact ⟨xs, q2, oK_of q4 (PostE.now h rel q5)⟩
      · exact h.elim
    · exact h.elim
  · exact h.elim
/-! ### slices -/
inductive RO where
  | ok (o : Option Int) (S : Sto) | xc (c : Nat) (fs : List (Str × D)) (S : Sto) | bad
abbrev FO := Ev → Sto → RO
def PostO (G : Gm) (E : WX) (F : Fr) (ι ω : List Addr) (ρ : Ev) (σ : L2.St) (H : Hp) (Q : Option Int → Hp → Prop) : RO → Prop
  | .ok o S' => ∀ ι' H', Ext ι H ι' H' → Rel G F ι' ω ρ S' σ H' → Q o H'
  | .xc c fs S' => ∀ ι' dd fv H', Ext ι H ι' H' → Rel G F ι' ω ρ S' σ H' → dd ∉ ι' → dd ∉ F.B0 ++ ω → H' dd = some (.xd fv) → RFs G.K G.ca ι' (F.B0 ++ ω) H' fv fs → E (.ref (G.ca c)) (some dd) σ H'
  | .bad => False
def SO (G : Gm) (E : WX) (t : TO) (f : FO) : Prop := ∀ F ι ω ρ S σ H Q, Rel G F ι ω ρ S σ H → PostO G E F ι ω ρ σ H Q (f ρ S) → t σ H Q
def fNoPart : FO := fun _ S => .ok none S
def fPart (fe : FE) : FO := fun ρ S => match fe ρ S with
  | .ok (.int i) _ S1 => .ok (some i) S1
  | .ok _ _ _ => .bad
  | .xc c fs S1 => .xc c fs S1
  | .bad => .bad
theorem so_none : SO G E tNoPart fNoPart := fun F ι ω ρ S σ H Q r h => h ι H Ext.refl r
theorem so_some {te : TE} {fe : FE} (he : SE G E te fe) : SO G E (uPart te) (fPart fe) := by
  intro F ι ω ρ S σ H Q r h
  refine he F ι ω ρ S σ H _ r ?_
  unfold fPart at h
  split at h
  · rename_i i f S1 e
    rw [e]
    intro ι1 v H1 e1 r1 rf
    rw [rf.rt.sInt]
    exact h ι1 H1 e1 r1
  · exact h.elim
  · rename_i e; rw [e]; exact h
  · exact h.elim
def cutD (xs : List D) (lo hi : Option Int) : List D := (xs.drop (HT.sIx xs.length 0 lo)).take (HT.sIx xs.length xs.length hi - HT.sIx xs.length 0 lo)
theorem cut_all {K : PySem.W.Frag} {ca : Nat → Addr} {ι B : List Addr} {H : Hp} {vs : List V} {ds : List D} (h : RAll K ca ι B H vs ds) (lo hi : Option Int) : RAll K ca ι B H (cutV vs lo hi) (cutD ds lo hi) := by
  unfold cutV cutD
  rw [h.len]
  exact (h.drop _).take _
def dSl (d : D) (lo hi : Option Int) (S : Sto) : RE := match d with
  | .str z => if z.length ≤ lim then .ok (.str (cutS z lo hi)) .tr S else .bad
  | .tup ds => if HT.sIx ds.length 0 lo = 0 ∧ HT.sIx ds.length ds.length hi = ds.length then .bad else .ok (.tup (cutD ds lo hi)) .tr S
  | d => (match lsOf S d with
    | some ds => .ok (.lst (cutD ds lo hi)) .fs S
    | none => .bad)
def bO (r : RO) (k : Option Int → Sto → RE) : RE := match r with
  | .ok o S => k o S
  | .xc c fs S => .xc c fs S
  | .bad => .bad
def fSl (fe : FE) (lo hi : FO) : FE := fun ρ S => bE (fe ρ S) fun d _ S1 => bO (lo ρ S1) fun l S2 => bO (hi ρ S2) fun u S3 => dSl d l u S3
theorem so_bind {to : TO} {fo : FO} (ho : SO G E to fo) (rel : Rel G F ι ω ρ S σ H) {k : Option Int → Sto → RE} (h : PostE G E F ι ω ρ σ H Q (bO (fo ρ S) k)) {R : Option Int → Hp → Prop}
    (c : ∀ o S1 ι1 H1, Ext ι H ι1 H1 → Rel G F ι1 ω ρ S1 σ H1 → PostE G E F ι1 ω ρ σ H1 Q (k o S1) → R o H1) : to σ H R := by
  refine ho F ι ω ρ S σ H R rel ?_
  cases e : fo ρ S with
  | ok o S1 =>
    rw [e] at h
    exact fun ι1 H1 e1 r1 => c o S1 ι1 H1 e1 r1 (PostE.ex h e1)
  | xc c fs S1 => rw [e] at h; exact h
  | bad => rw [e] at h; exact h
theorem se_sl {te : TE} {fe : FE} {tl th : TO} {fl fh : FO} (he : SE G E te fe) (hl : SO G E tl fl) (hh : SO G E th fh) : SE G E (L2.tSl (uSl G.K) te tl th) (fSl fe fl fh) := by
  intro F ι ω ρ S σ H Q rel h
  refine he.bind rel h fun d f S1 ι1 v H1 e1 r1 rf1 h1 => ?_
  refine so_bind hl r1 h1 fun l S2 ι2 H2 e2 r2 h2 => ?_
  refine so_bind hh r2 h2 fun u S3 ι3 H3 e3 r3 h3 => ?_
  have rt := (rf1.rt.ex e2).ex e3
  unfold dSl at h3
  split at h3
  · rw [rt.sStr]
    split at h3
    · exact ⟨lim_le (by assumption), PostE.now h3 r3 (.str _)⟩
    · exact h3.elim
  · cases rt with
    | v rt =>
      cases rt with
      | @tup a xs ds q1 q2 q3 q4 =>
        split at h3
        · exact h3.elim
        · rename_i hn
          have e1 : rdL G.K H3 a = none := by unfold rdL; rw [q3]
          have e2 : rdT G.K H3 a = some xs := rdT_of q3
          show match rdL G.K H3 a with | some xs => _ | none => _
          rw [e1]
          show match rdT G.K H3 a with | some xs => _ | none => _
          rw [e2]
          exact ⟨by rw [q4.len]; exact hn, fun p hp => PostE.newT h3 r3 (cut_all q4 l u) p hp⟩
  · split at h3
    · rename_i ds ed
      obtain ⟨a, xs, rfl, q1, q2⟩ := ls_at r3.sto rt ed
      show match rdL G.K H3 a with | some xs => _ | none => _
      rw [rdL_of q1]
      exact fun p hp => PostE.newL h3 r3 (cut_all q2 l u) p hp
    · exact h3.elim
def fRev (fe : FE) : FE := fun ρ S => bE (fe ρ S) fun d _ S1 => (match d with
  | .str z => if z.length ≤ lim then .ok (.str (revS z)) .tr S1 else .bad
  | d => (match lsOf S1 d with
    | some ds => .ok (.lst ds.reverse) .fs S1
    | none => .bad))
theorem se_rev {te : TE} {fe : FE} (he : SE G E te fe) : SE G E (uRev G.K te) (fRev fe) := by
  intro F ι ω ρ S σ H Q rel h
  refine he.bind rel h fun d f S1 ι1 v H1 e1 r1 rf1 h1 => ?_
  have rt := rf1.rt
  split at h1
  · rw [rt.sStr]
    split at h1
    · exact ⟨lim_le (by assumption), PostE.now h1 r1 (.str _)⟩
    · exact h1.elim
  · split at h1
    · rename_i ds ed
      obtain ⟨a, xs, rfl, q1, q2⟩ := ls_at r1.sto rt ed
      exact oK_of (rdL_of q1) fun p hp => PostE.newL h1 r1 q2.rev p hp
    · exact h1.elim
/-! ### kinds -/
def tyDf (S : Sto) : D → Option Ty
  | .non => some .non
  | .bl _ => some .bl
  | .int _ => some .int
  | .str _ => some .str
  | .lst _ => some .lst
  | .tup _ => some .tup
  | .dct _ => some .dct
  | .cel k => (match S[k]? with | some (.lst _) => some .lst | some (.dK _) => some .dct | _ => none)
  | _ => none
theorem ty_at {v : V} {d : D} {t : Ty} (rs : RS G.K G.ca ι (F.B0 ++ ω) H S) (h : RT G.K G.ca ι (F.B0 ++ ω) H v d) (e : tyDf S d = some t) : tyOf H v = some t := by
  cases h with
  | v h =>
    cases h with
    | lst h1 h2 h3 h4 => show (H _).bind tyO = _; rw [h3]; exact e
    | tup h1 h2 h3 h4 => show (H _).bind tyO = _; rw [h3]; exact e
    | dct h1 h2 h3 h4 => show (H _).bind tyO = _; rw [h3]; exact e
    | @cel a k h1 =>
      unfold tyDf at e
      dsimp only at e
      split at e
      · rename_i es
        cases rs.at' k a _ h1 es with
        | lst q1 q2 => show (H _).bind tyO = _; rw [q1]; exact e
      · rename_i es
        cases rs.at' k a _ h1 es with
        | dK q1 q2 => show (H _).bind tyO = _; rw [q1]; exact e
      · cases e
    | fro => cases e
    | obj => cases e
    | cls => cases e
    | _ => exact e
  | l h1 h2 h3 => show (H _).bind tyO = _; rw [h2]; exact e
  | o => cases e
def fIsi (c : Ty) (fe : FE) : FE := fun ρ S => bE (fe ρ S) fun d _ S1 => (match tyDf S1 d with
  | some t => .ok (.bl (isT t c)) .tr S1
  | none => .bad)
theorem se_isi (c : Ty) {te : TE} {fe : FE} (he : SE G E te fe) : SE G E (uIsi c te) (fIsi c fe) := by
  intro F ι ω ρ S σ H Q rel h
  refine he.bind rel h fun d f S1 ι1 v H1 e1 r1 rf1 h1 => ?_
  split at h1
  · rename_i t et
    exact oK_of (ty_at r1.sto rf1.rt et) (PostE.now h1 r1 (.bl _))
  · exact h1.elim
def fIsiT (cs : List Ty) (fe : FE) : FE := fun ρ S => bE (fe ρ S) fun d _ S1 => (match tyDf S1 d with
  | some t => .ok (.bl (cs.any (isT t))) .tr S1
  | none => .bad)
theorem se_isiT (cs : List Ty) {te : TE} {fe : FE} {tc : TA} (he : SE G E te fe) (hc : ∀ σ H (R : List V → Hp → Prop), R (cs.map fun c => V.ty c.nm) H → tc σ H R := by intro σ H R h; exact h) (hl : cs.length ≤ 100 := by decide) :
    SE G E (tCB (uIsiT cs) (tCons te (tCons (tTup tc) tNil))) (fIsiT cs fe) := by
  intro F ι ω ρ S σ H Q rel h
  refine he.bind rel h fun d f S1 ι1 v H1 e1 r1 rf1 h1 => ?_
  refine hc σ H1 _ ⟨by rw [List.length_map]; exact szl (by omega), fun p hp => ?_⟩
  split at h1
  · rename_i t et
    have rt := rf1.rt.ex (Ext.new1 (o := .tup (cs.map fun c => V.ty c.nm)) hp)
    refine ⟨upd_same, oK_of (ty_at ((r1.new hp).sto) rt et) ?_⟩
    exact h1 ι1 _ _ (Ext.new1 hp) (r1.new hp) (.bl _)
  · exact h1.elim
end
end
end Fx

namespace Fx
open PySem PySem.Spec PyProof.Rows L2 U
noncomputable section
section
variable {G : Gm} {E : WX} {F : Fr} {ι ω ι1 : List Addr} {ρ : Ev} {S S1 : Sto} {σ : L2.St} {H H1 : Hp} {Q : VK}
/-! ### built-ins -/
theorem pair1 {α β : Type} {P : α → β → Prop} {xs : List α} {y : β} (h : Paired P xs [y]) : ∃ x, xs = [x] ∧ P x y := by
  cases h with
  | cons h1 h2 => cases h2; exact ⟨_, rfl, h1⟩
theorem pair2 {α β : Type} {P : α → β → Prop} {xs : List α} {y z : β} (h : Paired P xs [y, z]) : ∃ x w, xs = [x, w] ∧ P x y ∧ P w z := by
  cases h with
  | cons h1 h2 => obtain ⟨w, rfl, h3⟩ := pair1 h2; exact ⟨_, _, rfl, h1, h3⟩
def dLen (ds : List D) (_ : Bool) (S : Sto) : RE := match ds with
  | [.str z] => if z.length ≤ lim then .ok (.int z.length) .tr S else .bad
  | [d] => (match sqOf S d with
    | some es => .ok (.int es.length) .tr S
    | none => .bad)
  | _ => .bad
theorem sc_len : SC G E (uLen G.K) dLen := by
  intro F ι ω ρ S σ H Q vs ds t rel ha h
  have ha := ha.pair
  unfold dLen at h
  split at h
  · obtain ⟨v, rfl, q⟩ := pair1 ha
    rw [q.sStr]
    split at h
    · exact ⟨lim_le (by assumption), PostE.now h rel (.int _)⟩
    · exact h.elim
  · obtain ⟨v, rfl, q⟩ := pair1 ha
    split at h
    · rename_i es e
      obtain ⟨a, xs, rfl, q1, q2⟩ := sq_at rel.sto q e
      exact ⟨xs, q1, by show Q (.int xs.length) H; rw [q2.len]; exact PostE.now h rel (.int _)⟩
    · exact h.elim
  · exact h.elim
def dMax (ds : List D) (_ : Bool) (S : Sto) : RE := match ds with
  | [.int i, .int j] => .ok (.int (if j > i then j else i)) .tr S
  | _ => .bad
def dMin (ds : List D) (_ : Bool) (S : Sto) : RE := match ds with
  | [.int i, .int j] => .ok (.int (if j < i then j else i)) .tr S
  | _ => .bad
theorem sc_max : SC G E uMax2 dMax := by
  intro F ι ω ρ S σ H Q vs ds t rel ha h
  have ha := ha.pair
  unfold dMax at h
  split at h
  · obtain ⟨v, w, rfl, q1, q2⟩ := pair2 ha
    rw [q1.sInt, q2.sInt]; exact PostE.now h rel (.int _)
  · exact h.elim
theorem sc_min : SC G E uMin2 dMin := by
  intro F ι ω ρ S σ H Q vs ds t rel ha h
  have ha := ha.pair
  unfold dMin at h
  split at h
  · obtain ⟨v, w, rfl, q1, q2⟩ := pair2 ha
    rw [q1.sInt, q2.sInt]; exact PostE.now h rel (.int _)
  · exact h.elim
def bools : List D → Option (List Bool)
  | [] => some []
  | .bl b :: ds => (bools ds).map (b :: ·)
  | _ :: _ => none
theorem bools_rv {K : PySem.W.Frag} {ca : Nat → Addr} {ι B : List Addr} {H : Hp} : ∀ {ds : List D} {vs : List V} {bs : List Bool}, RAll K ca ι B H vs ds → bools ds = some bs → vs = bs.map V.bl
  | [], _, _, h, e => by cases h; simp only [bools] at e; cases e; rfl
  | d :: ds, _, _, h, e => by
    cases h with
    | cons h1 h2 =>
      cases h1 with
      | bl b =>
        simp only [bools, Option.map_eq_some_iff] at e
        obtain ⟨cs, e1, rfl⟩ := e
        rw [bools_rv h2 e1]; rfl
      | _ => simp only [bools] at e; cases e
def dQu (f : List Bool → Bool) (ds : List D) (_ : Bool) (S : Sto) : RE := match ds with
  | [d] => (match lsOf S d with
    | some es => (match bools es with
      | some bs => .ok (.bl (f bs)) .tr S
      | none => .bad)
    | none => .bad)
  | _ => .bad
abbrev dAll := dQu fun bs => bs.all id
abbrev dAny := dQu fun bs => bs.any id
theorem sc_all : SC G E (uAll G.K) dAll := by
  intro F ι ω ρ S σ H Q vs ds t rel ha h
  have ha := ha.pair
  unfold dAll dQu at h
  split at h
  · obtain ⟨v, rfl, q⟩ := pair1 ha
    split at h
    · rename_i es e
      split at h
      · rename_i bs eb
        obtain ⟨a, xs, rfl, q1, q2⟩ := ls_at rel.sto q e
        exact oK_of (rdL_of q1) ⟨bs, bools_rv q2 eb, PostE.now h rel (.bl _)⟩
      · exact h.elim
    · exact h.elim
  · exact h.elim
theorem sc_any : SC G E (uAny G.K) dAny := by
  intro F ι ω ρ S σ H Q vs ds t rel ha h
  have ha := ha.pair
  unfold dAny dQu at h
  split at h
  · obtain ⟨v, rfl, q⟩ := pair1 ha
    split at h
    · rename_i es e
      split at h
      · rename_i bs eb
        obtain ⟨a, xs, rfl, q1, q2⟩ := ls_at rel.sto q e
        exact oK_of (rdL_of q1) ⟨bs, bools_rv q2 eb, PostE.now h rel (.bl _)⟩
      · exact h.elim
    · exact h.elim
  · exact h.elim
def dStr (ds : List D) (_ : Bool) (S : Sto) : RE := match ds with
  | [.int i] => if i.natAbs.log2 < 1920 then .ok (.str (toString i)) .tr S else .bad
  | _ => .bad
theorem sc_str : SC G E uStr dStr := by
  intro F ι ω ρ S σ H Q vs ds t rel ha h
  have ha := ha.pair
  unfold dStr at h
  split at h
  · obtain ⟨v, rfl, q⟩ := pair1 ha
    rw [q.sInt]
    split at h
    · exact ⟨by assumption, PostE.now h rel (.str _)⟩
    · exact h.elim
  · exact h.elim
def dList (ds : List D) (_ : Bool) (S : Sto) : RE := match ds with
  | [d] => (match sqOf S d with
    | some es => .ok (.lst es) .fs S
    | none => .bad)
  | _ => .bad
theorem sc_list : SC G E (uList G.K) dList := by
  intro F ι ω ρ S σ H Q vs ds t rel ha h
  have ha := ha.pair
  unfold dList at h
  split at h
  · obtain ⟨v, rfl, q⟩ := pair1 ha
    split at h
    · rename_i es e
      obtain ⟨a, xs, rfl, q1, q2⟩ := sq_at rel.sto q e
      exact ⟨xs, q1, fun l hl => PostE.newL h rel q2 l hl⟩
    · exact h.elim
  · exact h.elim
def dTuple (ds : List D) (_ : Bool) (S : Sto) : RE := match ds with
  | [.tup es] => .ok (.tup es) .tr S
  | [d] => (match lsOf S d with
    | some es => .ok (.tup es) .tr S
    | none => .bad)
  | _ => .bad
theorem sc_tuple : SC G E (uTuple G.K) dTuple := by
  intro F ι ω ρ S σ H Q vs ds t rel ha h
  have ha := ha.pair
  unfold dTuple at h
  split at h
  · obtain ⟨v, rfl, q⟩ := pair1 ha
    cases q with
    | v q =>
      have q0 := q
      cases q with
      | @tup a xs es q1 q2 q3 q4 =>
        have e1 : rdL G.K H a = none := by unfold rdL; rw [q3]
        show match rdL G.K H a with | some xs => _ | none => _
        rw [e1]
        show match rdT G.K H a with | some xs => _ | none => _
        rw [rdT_of q3]
        exact PostE.now h rel q0
  · obtain ⟨v, rfl, q⟩ := pair1 ha
    split at h
    · rename_i es e
      obtain ⟨a, xs, rfl, q1, q2⟩ := ls_at rel.sto q e
      show match rdL G.K H a with | some xs => _ | none => _
      rw [rdL_of q1]
      exact fun l hl => PostE.newT h rel q2 l hl
    · exact h.elim
  · exact h.elim
open Classical in
def dRepr (ds : List D) (_ : Bool) (S : Sto) : RE := match ds with
  | [d] => (match toP S d with
    | some p => if Okd p then .ok (.str p.shown) .tr S else .bad
    | none => .bad)
  | _ => .bad
theorem sc_repr : SC G E (uRepr3 G.K) dRepr := by
  intro F ι ω ρ S σ H Q vs ds t rel ha h
  have ha := ha.pair
  unfold dRepr at h
  split at h
  · obtain ⟨v, rfl, q⟩ := pair1 ha
    split at h
    · rename_i p ep
      split at h
      · rename_i ok
        exact ⟨p, toP_dq rel.sto q ep, ok, PostE.now h rel (.str _)⟩
      · exact h.elim
    · exact h.elim
  · exact h.elim
def dInt (ds : List D) (_ : Bool) (S : Sto) : RE := match ds with
  | [.int i] => .ok (.int i) .tr S
  | [.bl k] => .ok (.int (if k then 1 else 0)) .tr S
  | [.str a] => if a.length ≤ 640 then (match PySem.intText? a with
    | some n => .ok (.int n) .tr S
    | none => .bad) else .bad
  | _ => .bad
theorem sc_int : SC G E uInt dInt := by
  intro F ι ω ρ S σ H Q vs ds t rel ha h
  have ha := ha.pair
  unfold dInt at h
  split at h
  · obtain ⟨v, rfl, q⟩ := pair1 ha
    rw [q.sInt]; exact PostE.now h rel (.int _)
  · obtain ⟨v, rfl, q⟩ := pair1 ha
    rw [q.sBl]; exact PostE.now h rel (.int _)
  · obtain ⟨v, rfl, q⟩ := pair1 ha
    rw [q.sStr]
    split at h
    · rename_i hl
      split at h
      · rename_i n en
        exact ⟨hl, oK_of en (PostE.now h rel (.int _))⟩
      · exact h.elim
    · exact h.elim
  · exact h.elim
/-! ### list(zip(a, b)) -/
def zipD : List D → List D → List D
  | x :: xs, y :: ys => .tup [x, y] :: zipD xs ys
  | _, _ => []
theorem zipD_len : ∀ xs ys : List D, (zipD xs ys).length = min xs.length ys.length
  | [], ys => by simp [zipD]
  | x :: xs, [] => by simp [zipD]
  | x :: xs, y :: ys => by simp only [zipD, List.length_cons, zipD_len xs ys]; omega
theorem zipD_at : ∀ (xs ys : List D) (j : Nat) (x y : D), xs[j]? = some x → ys[j]? = some y → (zipD xs ys)[j]? = some (.tup [x, y])
  | [], _, j, _, _, h, _ => by simp at h
  | _ :: _, [], j, _, _, _, h => by simp at h
  | a :: xs, b :: ys, 0, _, _, h, g => by simp at h g; subst h; subst g; rfl
  | a :: xs, b :: ys, j + 1, _, _, h, g => by
    simp only [zipD, List.getElem?_cons_succ] at h g ⊢
    exact zipD_at xs ys j _ _ h g
def fListZ (fa : FA) : FE := fCB (fun ds _ S => match ds with
  | [d, e] => (match d, e with
    | .fro _ _, _ => .bad
    | _, .fro _ _ => .bad
    | d, e => (match sqOf S d, sqOf S e with
      | some xs, some ys => .ok (.lst (zipD xs ys)) .fs S
      | _, _ => .bad))
  | _ => .bad) fa
theorem rds_at {v : V} {d : D} {ds : List D} (r : RS G.K G.ca ι (F.B0 ++ ω) H S) (h : RT G.K G.ca ι (F.B0 ++ ω) H v d) (hn : ∀ l es, d ≠ .fro l es) (e : sqOf S d = some ds) : ∃ a xs, v = .ref a ∧ rdS G.K H a = some xs ∧ RAll G.K G.ca ι (F.B0 ++ ω) H xs ds := by
  unfold sqOf at e
  split at e
  · obtain ⟨a, xs, h1, h2, h3⟩ := ls_at r h (show lsOf S (.lst _) = some ds from e)
    exact ⟨a, xs, h1, rdS_l h2, h3⟩
  · cases e
    cases h with
    | v h => cases h with | tup h1 h2 h3 h4 => exact ⟨_, _, rfl, rdS_t h3, h4⟩
  · exact absurd rfl (hn _ _)
  · rename_i k
    obtain ⟨a, xs, h1, h2, h3⟩ := ls_at r h (show lsOf S (.cel k) = some ds from e)
    exact ⟨a, xs, h1, rdS_l h2, h3⟩
  · cases e
theorem rall_of {K : PySem.W.Frag} {ca : Nat → Addr} {ι B : List Addr} {H : Hp} : ∀ {ds : List D} {vs : List V}, vs.length = ds.length → (∀ (j : Nat) (v : V) (d : D), vs[j]? = some v → ds[j]? = some d → RV K ca ι B H v d) → RAll K ca ι B H vs ds
  | [], vs, e, h => by
    cases vs with
    | nil => exact .nil
    | cons => simp at e
  | d :: ds, vs, e, h => by
    cases vs with
    | nil => simp at e
    | cons v vs => exact .cons (h 0 v d rfl rfl) (rall_of (by simpa using e) fun j v d h1 h2 => h (j + 1) v d (by simpa using h1) (by simpa using h2))
theorem se_listZ {ta : TA} {fa : FA} (ha : SA G E ta fa) : SE G E (tListZ G.K ta) (fListZ fa) := by
  intro F ι ω ρ S σ H Q rel h
  refine sa_then ha rel h fun ds t S1 ι1 vs H1 e1 r1 ra h1 => ?_
  split at h1
  · rename_i d e
    obtain ⟨v, w, rfl, qv, qw⟩ := pair2 ra.pair
    split at h1
    · exact h1.elim
    · exact h1.elim
    · rename_i n1 n2
      split at h1
      · rename_i xs ys ed ee
        obtain ⟨a, us, rfl, g1, g2⟩ := rds_at r1.sto qv (fun l es z => n1 l es z) ed
        obtain ⟨b, ws, rfl, g3, g4⟩ := rds_at r1.sto qw (fun l es z => n2 l es z) ee
        refine oK_of g1 (oK_of g3 fun p H' ps hp ex hl pr => ?_)
        have x1 : Ext ι1 H1 ι1 H' := Ext.gr ex
        have pp : Per ι1 (F.B0 ++ ω) H1 ι1 (p :: (F.B0 ++ ω)) H' := ⟨fun c o c1 c2 c3 => ⟨ex c o c1, c2, fun z => by
          rcases List.mem_cons.mp z with z | z
          · subst z; rw [hp] at c1; cases c1
          · exact c3 z⟩, fun _ _ z => z⟩
        refine h1 ι1 (.ref p) H' x1 (r1.gr ex) (.l (r1.offi hp) (r1.offb hp) hp hl ?_ (r1.sto.per (fun a ha => by
          cases z : H1 a with
          | none => exact absurd z (r1.sto.here a ha)
          | some o => exact ex a o z) pp))
        obtain ⟨pl, pj⟩ := pr
        refine rall_of (by rw [pl, zipD_len, g2.len, g4.len]) fun j q d hq hd => ?_
        obtain ⟨T, x, y, rfl, hT, hne, hx, hy, hH⟩ := pj j q hq
        obtain ⟨dx, ex1, rx⟩ := g2.atV j hx
        obtain ⟨dy, ey1, ry⟩ := g4.atV j hy
        have := zipD_at xs ys j dx dy ex1 ey1
        rw [this] at hd
        cases hd
        refine .tup (r1.offi hT) (fun z => ?_) hH (.cons (rx.per pp) (.cons (ry.per pp) .nil))
        rcases List.mem_cons.mp z with z | z
        · exact hne z
        · exact r1.offb hT z
      · exact h1.elim
  · exact h1.elim
/-! ### methods of texts -/
def fM1 (f : Str → D → Sto → RE) (fo fe : FE) : FE := fun ρ S => bE (fo ρ S) fun d _ S1 => (match d with
  | .str a => bE (fe ρ S1) fun e _ S2 => f a e S2
  | _ => .bad)
def SM (G : Gm) (E : WX) (r : V → List V → Hp → VK → Prop) (f : Str → D → Sto → RE) : Prop := ∀ F ι ω ρ S σ H Q a y e, Rel G F ι ω ρ S σ H → RT G.K G.ca ι (F.B0 ++ ω) H y e → PostE G E F ι ω ρ σ H Q (f a e S) → r (.str a) [y] H Q
theorem se_m1 {r : V → List V → Hp → VK → Prop} {f : Str → D → Sto → RE} {to te : TE} {fo fe : FE} (hr : SM G E r f) (ho : SE G E to fo) (he : SE G E te fe) : SE G E (tM1 r to te) (fM1 f fo fe) := by
  intro F ι ω ρ S σ H Q rel h
  refine ho.bind rel h fun d f S1 ι1 v H1 e1 r1 rf1 h1 => ?_
  split at h1
  · rename_i a
    rw [rf1.rt.sStr]
    refine ⟨⟨_, rfl⟩, ?_⟩
    refine he.bind r1 h1 fun e f2 S2 ι2 w H2 e2 r2 rf2 h2 => ?_
    exact hr F ι2 ω ρ S2 σ H2 Q a w e r2 rf2.rt h2
  · exact h1.elim
def strsD : List D → Option (List Str)
  | [] => some []
  | .str b :: ds => (strsD ds).map (b :: ·)
  | _ :: _ => none
theorem strs_rv {K : PySem.W.Frag} {ca : Nat → Addr} {ι B : List Addr} {H : Hp} : ∀ {ds : List D} {vs : List V} {bs : List Str}, RAll K ca ι B H vs ds → strsD ds = some bs → vs = bs.map V.str
  | [], _, _, h, e => by cases h; simp only [strsD] at e; cases e; rfl
  | d :: ds, _, _, h, e => by
    cases h with
    | cons h1 h2 =>
      cases h1 with
      | str b =>
        simp only [strsD, Option.map_eq_some_iff] at e
        obtain ⟨cs, e1, rfl⟩ := e
        rw [strs_rv h2 e1]; rfl
      | _ => simp only [strsD] at e; cases e
def dJoin (a : Str) (d : D) (S : Sto) : RE := match sqOf S d with
  | some ds => (match strsD ds with
    | some ys => if (ys.map (·.length)).sum + ys.length * a.length ≤ lim then .ok (.str (Txt.join a ys)) .tr S else .bad
    | none => .bad)
  | none => .bad
theorem sm_join : SM G E (uJoin G.K) dJoin := by
  intro F ι ω ρ S σ H Q a y e rel hy h
  unfold dJoin at h
  split at h
  · rename_i ds ed
    split at h
    · rename_i ys ey
      split at h
      · rename_i hl
        obtain ⟨p, xs, rfl, q1, q2⟩ := sq_at rel.sto hy ed
        exact ⟨xs, q1, ys, strs_rv q2 ey, Nat.le_trans hl (by decide), PostE.now h rel (.str _)⟩
      · exact h.elim
    · exact h.elim
  · exact h.elim
def dIndex (a : Str) (d : D) (S : Sto) : RE := match d with
  | .str b => (match Builtin.Str.occurrences a b 0 a.length 1 with
    | i :: _ => .ok (.int (i : Nat)) .tr S
    | [] => .bad)
  | _ => .bad
theorem sm_index : SM G E uIndex dIndex := by
  intro F ι ω ρ S σ H Q a y e rel hy h
  unfold dIndex at h
  split at h
  · rw [hy.sStr]
    split at h
    · rename_i i rest ei
      exact ⟨i, rest, ei, PostE.now h rel (.int _)⟩
    · exact h.elim
  · exact h.elim
def dSplit (a : Str) (d : D) (S : Sto) : RE := match d with
  | .str b => if (b.length == 0) = false ∧ a.length + 2 ≤ lim then .ok (.lst ((Txt.split a b).map .str)) .fs S else .bad
  | _ => .bad
theorem rall_strs {K : PySem.W.Frag} {ca : Nat → Addr} {ι B : List Addr} {H : Hp} : ∀ zs : List Str, RAll K ca ι B H (zs.map V.str) (zs.map D.str)
  | [] => .nil
  | z :: zs => .cons (.str z) (rall_strs zs)
theorem sm_split : SM G E uSplit dSplit := by
  intro F ι ω ρ S σ H Q a y e rel hy h
  unfold dSplit at h
  split at h
  · rw [hy.sStr]
    split at h
    · rename_i hl
      exact ⟨hl.1, lim_le hl.2, fun p hp => PostE.newL h rel (rall_strs _) p hp⟩
    · exact h.elim
  · exact h.elim
def dFind (a : Str) (d : D) (S : Sto) : RE := match d with
  | .str b => .ok (.int (Txt.find a b)) .tr S
  | _ => .bad
theorem sm_find : SM G E uFind dFind := by
  intro F ι ω ρ S σ H Q a y e rel hy h
  unfold dFind at h
  split at h
  · rw [hy.sStr]; exact PostE.now h rel (.int _)
  · exact h.elim
/-! ### truths -/
def fNot (fa : FE) : FE := fun ρ S => bE (fa ρ S) fun d _ S1 => (match d with
  | .bl b => .ok (.bl (!b)) .tr S1
  | _ => .bad)
def fAnd (fa fb : FE) : FE := fun ρ S => bE (fa ρ S) fun d _ S1 => (match d with
  | .bl true => fb ρ S1
  | .bl false => .ok (.bl false) .tr S1
  | _ => .bad)
def fOr (fa fb : FE) : FE := fun ρ S => bE (fa ρ S) fun d _ S1 => (match d with
  | .bl true => .ok (.bl true) .tr S1
  | .bl false => fb ρ S1
  | _ => .bad)
def fIf (fc fa fb : FE) : FE := fun ρ S => bE (fc ρ S) fun d _ S1 => (match d with
  | .bl true => fa ρ S1
  | .bl false => fb ρ S1
  | _ => .bad)
def kB (Q : Bool → Hp → Prop) : VK := fun v H1 => match v with
  | .bl b => Q b H1
  | _ => False
def ST (G : Gm) (E : WX) (t : TT) (f : FE) : Prop := ∀ F ι ω ρ S σ H Q, Rel G F ι ω ρ S σ H → PostE G E F ι ω ρ σ H (kB Q) (f ρ S) → t σ H Q
theorem st_val {t : TE} {f : FE} (h : SE G E t f) : ST G E (uT t) f := fun F ι ω ρ S σ H Q rel hp => h F ι ω ρ S σ H _ rel hp
theorem se_not {ta : TE} {fa : FE} (ha : SE G E ta fa) : SE G E (uNotV ta) (fNot fa) := by
  intro F ι ω ρ S σ H Q rel h
  refine ha.bind rel h fun d f S1 ι1 v H1 e1 r1 rf1 h1 => ?_
  split at h1
  · rw [rf1.rt.sBl]; exact PostE.now h1 r1 (.bl _)
  · exact h1.elim
theorem se_and {ta tb : TE} {fa fb : FE} (ha : SE G E ta fa) (hb : SE G E tb fb) : SE G E (uAndV ta tb) (fAnd fa fb) := by
  intro F ι ω ρ S σ H Q rel h
  refine ha.bind rel h fun d f S1 ι1 v H1 e1 r1 rf1 h1 => ?_
  split at h1
  · rw [rf1.rt.sBl]; exact hb F ι1 ω ρ S1 σ H1 Q r1 h1
  · rw [rf1.rt.sBl]; exact PostE.now h1 r1 (.bl _)
  · exact h1.elim
theorem se_or {ta tb : TE} {fa fb : FE} (ha : SE G E ta fa) (hb : SE G E tb fb) : SE G E (uOrV ta tb) (fOr fa fb) := by
  intro F ι ω ρ S σ H Q rel h
  refine ha.bind rel h fun d f S1 ι1 v H1 e1 r1 rf1 h1 => ?_
  split at h1
  · rw [rf1.rt.sBl]; exact PostE.now h1 r1 (.bl _)
  · rw [rf1.rt.sBl]; exact hb F ι1 ω ρ S1 σ H1 Q r1 h1
  · exact h1.elim
theorem ST.bind {ta : TT} {fa : FE} (ha : ST G E ta fa) (r : Rel G F ι ω ρ S σ H) {k : D → Fl → Sto → RE} (h : PostE G E F ι ω ρ σ H Q (bE (fa ρ S) k)) {R : Bool → Hp → Prop}
    (hk : ∀ d f S1, (∀ b, d ≠ .bl b) → k d f S1 = .bad) (c : ∀ b f S1 ι1 H1, Ext ι H ι1 H1 → Rel G F ι1 ω ρ S1 σ H1 → PostE G E F ι1 ω ρ σ H1 Q (k (.bl b) f S1) → R b H1) : ta σ H R := by
  refine ha F ι ω ρ S σ H R r (PostE.bind h fun d f S1 ι1 v H1 e1 r1 rf1 h1 => ?_)
  cases d with
  | bl b => rw [rf1.rt.sBl]; exact c b f S1 ι1 H1 e1 r1 h1
  | _ => rw [hk _ _ _ (by intro b z; cases z)] at h1; exact h1.elim
theorem st_not {ta : TT} {fa : FE} (ha : ST G E ta fa) : ST G E (uNot ta) (fNot fa) := by
  intro F ι ω ρ S σ H Q rel h
  refine ha.bind rel h (fun d f S1 hd => by cases d <;> first | rfl | exact absurd rfl (hd _)) fun b f S1 ι1 H1 e1 r1 h1 => ?_
  exact PostE.now (Q := kB Q) h1 r1 (.bl _)
theorem st_and {ta tb : TT} {fa fb : FE} (ha : ST G E ta fa) (hb : ST G E tb fb) : ST G E (uAnd ta tb) (fAnd fa fb) := by
  intro F ι ω ρ S σ H Q rel h
  refine ha.bind rel h (fun d f S1 hd => by cases d <;> first | rfl | exact absurd rfl (hd _)) fun b f S1 ι1 H1 e1 r1 h1 => ?_
  cases b with
  | true => exact hb F ι1 ω ρ S1 σ H1 Q r1 h1
  | false => exact PostE.now (Q := kB Q) h1 r1 (.bl _)
theorem st_or {ta tb : TT} {fa fb : FE} (ha : ST G E ta fa) (hb : ST G E tb fb) : ST G E (uOr ta tb) (fOr fa fb) := by
  intro F ι ω ρ S σ H Q rel h
  refine ha.bind rel h (fun d f S1 hd => by cases d <;> first | rfl | exact absurd rfl (hd _)) fun b f S1 ι1 H1 e1 r1 h1 => ?_
  cases b with
  | true => exact PostE.now (Q := kB Q) h1 r1 (.bl _)
  | false => exact hb F ι1 ω ρ S1 σ H1 Q r1 h1
theorem st_yes : ST G E tYes (fC (.bl true)) := fun F ι ω ρ S σ H Q r h => PostE.now (Q := kB Q) h r (.bl true)
theorem se_if {tc : TT} {ta tb : TE} {fc fa fb : FE} (hc : ST G E tc fc) (ha : SE G E ta fa) (hb : SE G E tb fb) : SE G E (uIf tc ta tb) (fIf fc fa fb) := by
  intro F ι ω ρ S σ H Q rel h
  refine hc.bind rel h (fun d f S1 hd => by cases d <;> first | rfl | exact absurd rfl (hd _)) fun b f S1 ι1 H1 e1 r1 h1 => ?_
  cases b with
  | true => exact ha F ι1 ω ρ S1 σ H1 Q r1 h1
  | false => exact hb F ι1 ω ρ S1 σ H1 Q r1 h1
/-! ### a < b < c -/
def fChain (f f' : D → D → Sto → RE) (ea eb ec : FE) : FE := fun ρ S => bE (ea ρ S) fun d _ S1 => bE (eb ρ S1) fun e _ S2 => bE (f d e S2) fun z _ S3 => (match z with
  | .bl true => bE (ec ρ S3) fun w _ S4 => f' e w S4
  | .bl false => .ok (.bl false) .tr S3
  | _ => .bad)
theorem se_chain {r r' : R2} {f f' : D → D → Sto → RE} {ta tb tc : TE} {fa fb fc : FE} (hr : SR G E r f) (hr' : SR G E r' f') (ha : SE G E ta fa) (hb : SE G E tb fb) (hc : SE G E tc fc) : SE G E (uChain r r' ta tb tc) (fChain f f' fa fb fc) := by
  intro F ι ω ρ S σ H Q rel h
  refine ha.bind rel h fun d fl S1 ι1 v H1 e1 r1 rf1 h1 => ?_
  refine hb.bind r1 h1 fun e fl2 S2 ι2 w H2 e2 r2 rf2 h2 => ?_
  refine hr F ι2 ω ρ S2 σ H2 _ v w d e r2 (rf1.rt.ex e2) rf2.rt (PostE.bind h2 fun z fl3 S3 ι3 u H3 e3 r3 rf3 h3 => ?_)
  split at h3
  · rw [rf3.rt.sBl]
    refine hc.bind r3 h3 fun w' fl4 S4 ι4 u4 H4 e4 r4 rf4 h4 => ?_
    exact hr' F ι4 ω ρ S4 σ H4 Q w u4 e w' r4 ((rf2.rt.ex e3).ex e4) rf4.rt h4
  · rw [rf3.rt.sBl]; exact PostE.now h3 r3 (.bl _)
  · exact h3.elim
/-! ### is None, is True -/
def isNon : D → Bool
  | .non => true
  | _ => false
theorem non_dec {K : PySem.W.Frag} {ca : Nat → Addr} {ι B : List Addr} {H : Hp} {v : V} {d : D} (h : RT K ca ι B H v d) : decide (v = .non) = isNon d := by
  cases h with
  | v h => cases h <;> simp [isNon]
  | l => simp [isNon]
  | o => simp [isNon]
def dIs (neg : Bool) (d e : D) (S : Sto) : RE := match e with
  | .non => .ok (.bl (if neg then !isNon d else isNon d)) .tr S
  | .bl k => (match d with
    | .bl j => .ok (.bl (if neg then !decide (j = k) else decide (j = k))) .tr S
    | _ => .bad)
  | _ => .bad
def dIsN (neg : Bool) (d e : D) (S : Sto) : RE := match e with
  | .non => .ok (.bl (if neg then !isNon d else isNon d)) .tr S
  | _ => .bad
theorem sr_is (neg : Bool) : SR G E (uIs neg) (dIsN neg) := by
  intro F ι ω ρ S σ H Q x y d e rel hx hy h
  unfold dIsN at h
  split at h
  · rw [hy.sNon]
    show Q (.bl (if neg then !decide (x = .non) else decide (x = .non))) H
    rw [non_dec hx]
    exact PostE.now h rel (.bl _)
  · exact h.elim
theorem sr_is3 (neg : Bool) : SR G E (uIs3 neg) (dIs neg) := by
  intro F ι ω ρ S σ H Q x y d e rel hx hy h
  unfold dIs at h
  split at h
  · rw [hy.sNon]
    show Q (.bl (if neg then !decide (x = .non) else decide (x = .non))) H
    rw [non_dec hx]
    exact PostE.now h rel (.bl _)
  · rw [hy.sBl]
    split at h
    · rw [hx.sBl]
      exact PostE.now h rel (.bl _)
    · exact h.elim
  · exact h.elim
/-! ### == [] and the like -/
def dNil (neg : Bool) (d e : D) (S : Sto) : RE := match lsOf S d, lsOf S e with
  | some a, some [] => .ok (.bl (neg ^^ a.isEmpty)) .tr S
  | _, _ => dEqv neg d e S
theorem shaped_nil : SeqAt.shaped (.list []) = true := by decide +kernel
theorem eqv_nil2 : PyData.eqv (.list []) (.list []) = true := by decide +kernel
theorem sr_eq3 : SR G E (uEq3 G.K) (dNil false) := by
  intro F ι ω ρ S σ H Q x y d e rel hx hy h
  unfold dNil at h
  split at h
  · rename_i a ea eb
    obtain ⟨p, xs, rfl, h1, h2⟩ := ls_at rel.sto hx ea
    obtain ⟨q, ys, rfl, h3, h4⟩ := ls_at rel.sto hy eb
    cases h4
    rw [Bool.false_xor] at h
    cases a with
    | nil =>
      cases h2
      exact .inl ⟨.list [], .list [], .lst (.inl (.inl h1)) .nil, .lst (.inl (.inl h3)) .nil, shaped_nil, shaped_nil, by rw [eqv_nil2]; exact PostE.now h rel (.bl _)⟩
    | cons a as =>
      cases h2 with
      | cons g1 g2 => exact .inr (.inr ⟨⟨p, q, _, _, rfl, rfl, .inl (.inl h1), .inl (.inl h3), by simp⟩, PostE.now h rel (.bl _)⟩)
  · have := sr_eq F ι ω ρ S σ H Q x y d e rel hx hy h
    unfold uEq2 at this
    unfold uEq3
    cases es : scal x y with
    | true => rw [es] at this; exact this
    | false =>
      rw [es] at this
      rcases this with q | q
      · exact .inl q
      · exact .inr (.inl q)
theorem sr_ne3 : SR G E (uNe3 G.K) (dNil true) := by
  intro F ι ω ρ S σ H Q x y d e rel hx hy h
  unfold dNil at h
  split at h
  · rename_i a ea eb
    obtain ⟨p, xs, rfl, h1, h2⟩ := ls_at rel.sto hx ea
    obtain ⟨q, ys, rfl, h3, h4⟩ := ls_at rel.sto hy eb
    cases h4
    rw [Bool.true_xor] at h
    cases a with
    | nil =>
      cases h2
      exact .inl ⟨.list [], .list [], .lst (.inl (.inl h1)) .nil, .lst (.inl (.inl h3)) .nil, shaped_nil, shaped_nil, by rw [eqv_nil2]; exact PostE.now h rel (.bl _)⟩
    | cons a as =>
      cases h2 with
      | cons g1 g2 => exact .inr (.inr ⟨⟨p, q, _, _, rfl, rfl, .inl (.inl h1), .inl (.inl h3), by simp⟩, PostE.now h rel (.bl _)⟩)
  · have := sr_ne F ι ω ρ S σ H Q x y d e rel hx hy h
    unfold uNe2 at this
    unfold uNe3
    cases es : scal x y with
    | true => rw [es] at this; exact this
    | false =>
      rw [es] at this
      rcases this with q | q
      · exact .inl q
      · exact .inr (.inl q)
def dNeg (d : D) (S : Sto) : RE := match d with
  | .int i => .ok (.int (-i)) .tr S
  | _ => .bad
theorem se_neg {ta : TE} {fa : FE} (ha : SE G E ta fa) : SE G E (tUn uNeg ta) (fUn dNeg fa) := by
  intro F ι ω ρ S σ H Q rel h
  refine ha.bind rel h fun d f S1 ι1 v H1 e1 r1 rf1 h1 => ?_
  unfold dNeg at h1
  split at h1
  · rw [rf1.rt.sInt]; exact PostE.now h1 r1 (.int _)
  · exact h1.elim
/-! ### calls of defs -/
end
abbrev FF := List D → Sto → RE
def PostF (K : PySem.W.Frag) (ca : Nat → Addr) (ι B : List Addr) (H : Hp) (Q : VK) (E : XK) : RE → Prop
  | .ok d f S' => ∀ ι' v H', Ext ι H ι' H' → ι'.Nodup → RS K ca ι' B H' S' → RF K ca ι' B H H' S' v d f → Q v H'
  | .xc c fs S' => ∀ ι' dd fv H', Ext ι H ι' H' → ι'.Nodup → RS K ca ι' B H' S' → dd ∉ ι' → dd ∉ B → H' dd = some (.xd fv) → RFs K ca ι' B H' fv fs → E (.ref (ca c)) (some dd) H'
  | .bad => False
def SpF (K : PySem.W.Frag) (ca : Nat → Addr) (f : FF) : Sp := fun vs H Q E => ∃ ι B S ds, ι.Nodup ∧ (∀ b ∈ B, H b ≠ none ∧ b ∉ ι) ∧ RS K ca ι B H S ∧ RAll K ca ι B H vs ds ∧ PostF K ca ι B H Q E (f ds S)
def fCall (f : FF) (dd : List D) (fa : FA) : FE := fCB (fun ds t S => if t = true then f (ds ++ dd) S else .bad) fa
section
variable {G : Gm} {E : WX} {F : Fr} {ι ω ι1 : List Addr} {ρ : Ev} {S S1 : Sto} {σ : L2.St} {H H1 : Hp} {Q : VK}
theorem spf_of {f : FF} {vs : List V} {ds : List D} {E' : XK} (hE : ∀ cls d H, E cls d σ H → E' cls d H) (rel : Rel G F ι ω ρ S σ H) (ra : RAll G.K G.ca ι (F.B0 ++ ω) H vs ds) (h : PostE G E F ι ω ρ σ H Q (f ds S)) : SpF G.K G.ca f vs H Q E' := by
  refine ⟨ι, F.B0 ++ ω, S, ds, rel.nd, fun b hb => ⟨rel.bd b hb, rel.bi b hb⟩, rel.sto, ra, ?_⟩
  cases e : f ds S with
  | ok d fl S' =>
    rw [e] at h
    exact fun ι' v H' x nd rs rf => h ι' v H' x (rel.ex x nd rs) rf
  | xc c fs S' =>
    rw [e] at h
    exact fun ι' dd fv H' x nd rs n1 n2 h1 h2 => hE _ _ _ (h ι' dd fv H' x (rel.ex x nd rs) n1 n2 h1 h2)
  | bad => rw [e] at h; exact h
/-- scalars by default -/
def vOf : D → V
  | .bl b => .bl b
  | .int i => .int i
  | .str z => .str z
  | _ => .non
def scalD : D → Bool
  | .non => true
  | .bl _ => true
  | .int _ => true
  | .str _ => true
  | _ => false
theorem dflt_all {K : PySem.W.Frag} {ca : Nat → Addr} {ι B : List Addr} {H : Hp} : ∀ {dd : List D}, dd.all scalD = true → RAll K ca ι B H (dd.map vOf) dd
  | [], _ => .nil
  | d :: dd, h => by
    rw [List.all_cons, Bool.and_eq_true] at h
    refine .cons ?_ (dflt_all h.2)
    cases d with
    | non => exact .non
    | bl b => exact .bl b
    | int i => exact .int i
    | str z => exact .str z
    | _ => exact absurd h.1 (by simp [scalD])
theorem se_call {f : FF} {dvs : List V} {dd : List D} {E' : XK} {ta : TA} {fa : FA} (hE : ∀ cls d σ H, E cls d σ H → E' cls d H) (ha : SA G E ta fa) (hd : dvs = dd.map vOf := by rfl) (hs : dd.all scalD = true := by rfl) : SE G E (tCall (SpF G.K G.ca f) dvs E' ta) (fCall f dd fa) := by
  intro F ι ω ρ S σ H Q rel h
  refine sa_then ha rel h fun ds t S1 ι1 vs H1 e1 r1 ra h1 => ?_
  split at h1
  · rename_i ht
    subst ht hd
    exact spf_of (fun cls d H => hE cls d σ H) r1 (RAll.app ra (dflt_all hs)) h1
  · exact h1.elim
theorem se_callS {f : FF} {ta : TA} {fa : FA} (ha : SA G E ta fa) : SE G E (tCallS (SpF G.K G.ca f) (WE E) ta) (fCall f [] fa) := by
  intro F ι ω ρ S σ H Q rel h
  refine sa_then ha rel h fun ds t S1 ι1 vs H1 e1 r1 ra h1 => ?_
  split at h1
  · rename_i ht
    subst ht
    rw [List.append_nil] at h1
    exact spf_of (fun cls d H z => z) r1 ra h1
  · exact h1.elim
end
end
end Fx

namespace Fx
open PySem PySem.Spec PyProof.Rows L2 U
noncomputable section
/-! ### statements -/
inductive RSt where
  | nx (ρ : Ev) (S : Sto) | rt (d : D) (f : Fl) (S : Sto) | bk (ρ : Ev) (S : Sto) | ct (ρ : Ev) (S : Sto) | xc (c : Nat) (fs : List (Str × D)) (ρ : Ev) (S : Sto) | bad
abbrev FS := Ev → Sto → RSt
structure ExtS (ι ω : List Addr) (H : Hp) (ι' ω' : List Addr) (H' : Hp) : Prop where
  pre : ι <+: ι'
  keep : ∀ a o, H a = some o → a ∉ ι → a ∉ ω → H' a = some o
  newi : ∀ a ∈ ι', a ∉ ι → H a = none
  neww : ∀ a ∈ ω', a ∉ ω → H a = none
  dom : ∀ a, H a ≠ none → H' a ≠ none
theorem nn {H : Hp} {a : Addr} {o : HO} (h : H a = some o) : H a ≠ none := by rw [h]; simp
theorem none_of {H H1 : Hp} {a : Addr} (d : ∀ a, H a ≠ none → H1 a ≠ none) (h : H1 a = none) : H a = none := by
  cases e : H a with
  | none => rfl
  | some o => exact absurd h (d a (nn e))
section
variable {ι ω ι1 ω1 ι2 ω2 : List Addr} {H H1 H2 : Hp}
theorem ExtS.refl : ExtS ι ω H ι ω H := ⟨List.prefix_rfl, fun _ _ h _ _ => h, fun _ h n => absurd h n, fun _ h n => absurd h n, fun _ h => h⟩
theorem ExtS.trans (a : ExtS ι ω H ι1 ω1 H1) (b : ExtS ι1 ω1 H1 ι2 ω2 H2) : ExtS ι ω H ι2 ω2 H2 := by
  refine ⟨a.pre.trans b.pre, fun x o h n1 n2 => ?_, fun x h n => ?_, fun x h n => ?_, fun x h => b.dom x (a.dom x h)⟩
  · refine b.keep x o (a.keep x o h n1 n2) (fun z => ?_) fun z => ?_
    · have := a.newi x z n1
      rw [h] at this; cases this
    · have := a.neww x z n2
      rw [h] at this; cases this
  · by_cases hx : x ∈ ι1
    · exact a.newi x hx n
    · exact none_of a.dom (b.newi x h hx)
  · by_cases hx : x ∈ ω1
    · exact a.neww x hx n
    · exact none_of a.dom (b.neww x h hx)
theorem Ext.s (e : Ext ι H ι1 H1) : ExtS ι ω H ι1 ω H1 := ⟨e.pre, fun a o h n _ => e.keep a o h n, e.new, fun _ h n => absurd h n, e.dom⟩
theorem ExtS.per {B : List Addr} (e : ExtS ι ω H ι1 ω1 H1) : Per ι (B ++ ω) H ι1 (B ++ ω1) H1 := by
  refine ⟨fun a o h1 h2 h3 => ?_, fun _ _ h => ix_pre e.pre h⟩
  rw [List.mem_append, not_or] at h3
  refine ⟨e.keep a o h1 h2 h3.2, fun z => ?_, fun z => ?_⟩
  · have := e.newi a z h2
    rw [h1] at this; cases this
  · rcases List.mem_append.mp z with z | z
    · exact h3.1 z
    · have := e.neww a z h3.2
      rw [h1] at this; cases this
end
def PostS (G : Gm) (E : WX) (F : Fr) (D : Ends) (ι ω : List Addr) (H : Hp) : RSt → Prop
  | .nx ρ' S' => ∀ ι' ω' σ' H', ExtS ι ω H ι' ω' H' → Rel G F ι' ω' ρ' S' σ' H' → D.nx σ' H'
  | .bk ρ' S' => ∀ ι' ω' σ' H', ExtS ι ω H ι' ω' H' → Rel G F ι' ω' ρ' S' σ' H' → D.bk σ' H'
  | .ct ρ' S' => ∀ ι' ω' σ' H', ExtS ι ω H ι' ω' H' → Rel G F ι' ω' ρ' S' σ' H' → D.ct σ' H'
  | .rt d f S' => ∀ ι' v H', Ext F.i0 F.H0 ι' H' → ι'.Nodup → RS G.K G.ca ι' F.B0 H' S' → RF G.K G.ca ι' F.B0 F.H0 H' S' v d f → D.rt v H'
  | .xc c fs ρ' S' => ∀ ι' ω' σ' dd fv H', ExtS ι ω H ι' ω' H' → Rel G F ι' ω' ρ' S' σ' H' → dd ∉ ι' → dd ∉ F.B0 ++ ω' → H' dd = some (.xd fv) → RFs G.K G.ca ι' (F.B0 ++ ω') H' fv fs → E (.ref (G.ca c)) (some dd) σ' H'
  | .bad => False
def SS (G : Gm) (E : WX) (t : TS) (f : FS) : Prop := ∀ F D ι ω ρ S σ H, Rel G F ι ω ρ S σ H → PostS G E F D ι ω H (f ρ S) → t D σ H
def bS (r : RSt) (k : Ev → Sto → RSt) : RSt := match r with
  | .nx ρ S => k ρ S
  | r => r
/-- what an expression gives, in a statement -/
def eS (r : RE) (ρ : Ev) (k : D → Fl → Sto → RSt) : RSt := match r with
  | .ok d f S => k d f S
  | .xc c fs S => .xc c fs ρ S
  | .bad => .bad
section
variable {G : Gm} {E : WX} {F : Fr} {D : Ends} {ι ω ι1 ω1 : List Addr} {ρ : Ev} {S S1 : Sto} {σ : L2.St} {H H1 : Hp}
theorem PostS.ex {r : RSt} (h : PostS G E F D ι ω H r) (e : ExtS ι ω H ι1 ω1 H1) : PostS G E F D ι1 ω1 H1 r := by
  cases r with
  | nx ρ' S' => exact fun ι' ω' σ' H' e' rel => h ι' ω' σ' H' (e.trans e') rel
  | bk ρ' S' => exact fun ι' ω' σ' H' e' rel => h ι' ω' σ' H' (e.trans e') rel
  | ct ρ' S' => exact fun ι' ω' σ' H' e' rel => h ι' ω' σ' H' (e.trans e') rel
  | rt d f S' => exact h
  | xc c fs ρ' S' => exact fun ι' ω' σ' dd fv H' e' rel => h ι' ω' σ' dd fv H' (e.trans e') rel
  | bad => exact h
/-- what follows may be wider -/
theorem PostS.mono {D' : Ends} {r : RSt} (h : PostS G E F D ι ω H r) (h1 : ∀ σ H, D.nx σ H → D'.nx σ H) (h2 : ∀ σ H, D.bk σ H → D'.bk σ H) (h3 : ∀ σ H, D.ct σ H → D'.ct σ H) (h4 : ∀ v H, D.rt v H → D'.rt v H) : PostS G E F D' ι ω H r := by
  cases r with
  | nx ρ' S' => exact fun ι' ω' σ' H' e' rel => h1 _ _ (h ι' ω' σ' H' e' rel)
  | bk ρ' S' => exact fun ι' ω' σ' H' e' rel => h2 _ _ (h ι' ω' σ' H' e' rel)
  | ct ρ' S' => exact fun ι' ω' σ' H' e' rel => h3 _ _ (h ι' ω' σ' H' e' rel)
  | rt d f S' => exact fun ι' v H' e nd rs rf => h4 _ _ (h ι' v H' e nd rs rf)
  | xc c fs ρ' S' => exact h
  | bad => exact h
def sSeq (f g : FS) : FS := fun ρ S => bS (f ρ S) g
theorem ss_seq {t u : TS} {f g : FS} (ht : SS G E t f) (hu : SS G E u g) : SS G E (tSeq t u) (sSeq f g) := by
  intro F D ι ω ρ S σ H rel h
  refine ht F _ ι ω ρ S σ H rel ?_
  unfold sSeq at h
  cases e : f ρ S with
  | nx ρ' S' =>
    rw [e] at h
    exact fun ι' ω' σ' H' e' rel' => hu F D ι' ω' ρ' S' σ' H' rel' (PostS.ex h e')
  | bk ρ' S' => rw [e] at h; exact h
  | ct ρ' S' => rw [e] at h; exact h
  | rt d fl S' => rw [e] at h; exact h
  | xc c fs ρ' S' => rw [e] at h; exact h
  | bad => rw [e] at h; exact h
def sNext : FS := fun ρ S => .nx ρ S
def sBreak : FS := fun ρ S => .bk ρ S
def sCont : FS := fun ρ S => .ct ρ S
theorem ss_next : SS G E tNext sNext := fun F D ι ω ρ S σ H rel h => h ι ω σ H ExtS.refl rel
theorem ss_break : SS G E tBreak sBreak := fun F D ι ω ρ S σ H rel h => h ι ω σ H ExtS.refl rel
theorem ss_cont : SS G E tCont sCont := fun F D ι ω ρ S σ H rel h => h ι ω σ H ExtS.refl rel
theorem SE.bindS {ta : TE} {fa : FE} (ha : SE G E ta fa) (r : Rel G F ι ω ρ S σ H) {k : Fx.D → Fl → Sto → RSt} (h : PostS G E F D ι ω H (eS (fa ρ S) ρ k)) {R : VK}
    (c : ∀ d f S1 ι1 v H1, Ext ι H ι1 H1 → Rel G F ι1 ω ρ S1 σ H1 → RF G.K G.ca ι1 (F.B0 ++ ω) H H1 S1 v d f → PostS G E F D ι1 ω H1 (k d f S1) → R v H1) : ta σ H R := by
  refine ha F ι ω ρ S σ H R r ?_
  cases e : fa ρ S with
  | ok d f S1 =>
    rw [e] at h
    exact fun ι1 v H1 e1 r1 rf => c d f S1 ι1 v H1 e1 r1 rf (PostS.ex h e1.s)
  | xc c' fs S1 =>
    rw [e] at h
    exact fun ι' dd fv H' x rel' n1 n2 h1 h2 => h ι' ω σ dd fv H' x.s rel' n1 n2 h1 h2
  | bad => rw [e] at h; exact h
theorem ST.bindS {ta : TT} {fa : FE} (ha : ST G E ta fa) (r : Rel G F ι ω ρ S σ H) {k : Fx.D → Fl → Sto → RSt} (h : PostS G E F D ι ω H (eS (fa ρ S) ρ k)) {R : Bool → Hp → Prop} (hk : ∀ d f S1, (∀ b, d ≠ .bl b) → k d f S1 = .bad)
    (c : ∀ b f S1 ι1 H1, Ext ι H ι1 H1 → Rel G F ι1 ω ρ S1 σ H1 → PostS G E F D ι1 ω H1 (k (.bl b) f S1) → R b H1) : ta σ H R := by
  refine ha F ι ω ρ S σ H R r ?_
  cases e : fa ρ S with
  | ok d f S1 =>
    rw [e] at h
    intro ι1 v H1 e1 r1 rf
    cases d with
    | bl b => rw [rf.rt.sBl]; exact c b f S1 ι1 H1 e1 r1 (PostS.ex h e1.s)
    | _ =>
      have h : PostS G E F D ι ω H (k _ f S1) := h
      rw [hk _ _ _ (by intro b z; cases z)] at h
      exact h.elim
  | xc c' fs S1 =>
    rw [e] at h
    exact fun ι' dd fv H' x rel' n1 n2 h1 h2 => h ι' ω σ dd fv H' x.s rel' n1 n2 h1 h2
  | bad => rw [e] at h; exact h
def sExpr (fe : FE) : FS := fun ρ S => eS (fe ρ S) ρ fun _ _ S1 => .nx ρ S1
theorem ss_expr {te : TE} {fe : FE} (he : SE G E te fe) : SS G E (tDrop te) (sExpr fe) := by
  intro F D ι ω ρ S σ H rel h
  exact he.bindS rel h fun d f S1 ι1 v H1 e1 r1 rf h1 => h1 ι1 ω σ H1 ExtS.refl r1
def sIf (fc : FE) (fa fb : FS) : FS := fun ρ S => eS (fc ρ S) ρ fun d _ S1 => (match d with
  | .bl true => fa ρ S1
  | .bl false => fb ρ S1
  | _ => .bad)
theorem ss_if {tc : TT} {ta tb : TS} {fc : FE} {fa fb : FS} (hc : ST G E tc fc) (ha : SS G E ta fa) (hb : SS G E tb fb) : SS G E (uIfS tc ta tb) (sIf fc fa fb) := by
  intro F D ι ω ρ S σ H rel h
  refine hc.bindS rel h (fun d f S1 hd => by cases d <;> first | rfl | exact absurd rfl (hd _)) fun b f S1 ι1 H1 e1 r1 h1 => ?_
  cases b with
  | true => exact ha F D ι1 ω ρ S1 σ H1 r1 h1
  | false => exact hb F D ι1 ω ρ S1 σ H1 r1 h1
/-! ### return -/
theorem Rel.ext0 (r : Rel G F ι ω ρ S σ H) : Ext F.i0 F.H0 ι H := ⟨r.pre, r.old, r.fri, r.dom⟩
theorem RS.less {K : PySem.W.Frag} {ca : Nat → Addr} {B B' : List Addr} (h : RS K ca ι B H S) (s : ∀ a ∈ B', a ∈ B) : RS K ca ι B' H S := h.per (fun _ _ => rfl) (Per.less s)
theorem Rel.offb0 (r : Rel G F ι ω ρ S σ H) {a : Addr} (h : a ∈ ω) : a ∉ F.B0 := fun z => (r.b0 a z).1 (r.frw a h)
theorem rf_out {d : Fx.D} {v : V} {f : Fl} {H0 : Hp} (r : Rel G F ι ω ρ S σ H) (rf : RF G.K G.ca ι (F.B0 ++ ω) H0 H S v d f) (h0 : ∀ a, F.H0 a ≠ none → H0 a ≠ none) (hf : f ≠ .pk) : RF G.K G.ca ι F.B0 F.H0 H S v d f := by
  have s : ∀ a ∈ F.B0, a ∈ F.B0 ++ ω := fun a h => List.mem_append_left _ h
  have s1 : ∀ p, ∀ a ∈ p :: F.B0, a ∈ p :: (F.B0 ++ ω) := fun p a h => by
    rcases List.mem_cons.mp h with h | h
    · subst h; exact List.mem_cons_self
    · exact List.mem_cons_of_mem _ (s a h)
  cases f with
  | pk => exact absurd rfl hf
  | tr => exact RV.per (show RV _ _ _ _ _ _ _ from rf) (Per.less s)
  | fs =>
    have rf : Fs _ _ _ _ _ _ _ _ _ := rf
    cases rf with
    | l h1 h2 h3 h4 h5 h6 => exact .l h1 (fun z => h2 (s _ z)) (none_of h0 h3) h4 (h5.per (Per.less (s1 _))) (h6.less (s1 _))
    | o h1 h2 h3 h4 h5 h6 => exact .o h1 (fun z => h2 (s _ z)) (none_of h0 h3) h4 (h5.per (Per.less (s1 _))) (h6.less (s1 _))
def sRet (fe : FE) : FS := fun ρ S => eS (fe ρ S) ρ fun d f S1 => if f.nop = true then .rt d f S1 else .bad
theorem ss_ret {te : TE} {fe : FE} (he : SE G E te fe) : SS G E (tRet te) (sRet fe) := by
  intro F D ι ω ρ S σ H rel h
  refine he.bindS rel h fun d f S1 ι1 v H1 e1 r1 rf h1 => ?_
  split at h1
  · rename_i hf
    refine h1 ι1 v H1 r1.ext0 r1.nd (r1.sto.less fun a z => List.mem_append_left _ z) (rf_out r1 rf rel.dom (by intro z; subst z; cases hf))
  · exact h1.elim
def sRetN : FS := fun _ S => .rt .non .tr S
theorem ss_retN : SS G E tRetN sRetN := fun F D ι ω ρ S σ H rel h => h ι .non H rel.ext0 rel.nd (rel.sto.less fun a z => List.mem_append_left _ z) .non
/-- a name is returned, a list of one's own too -/
def sRetV (i : Nat) : FS := fun ρ S => match ρ[i]? with
  | some (.val d) => .rt d .tr S
  | some (.own ds) => .rt (.lst ds) .fs S
  | _ => .bad
theorem ss_retV (i : Nat) : SS G E (tRet (uVar i)) (sRetV i) := by
  intro F D ι ω ρ S σ H rel h
  unfold sRetV at h
  show uVar i σ H D.rt
  unfold uVar
  cases e : ρ[i]? with
  | none => rw [e] at h; exact h.elim
  | some s =>
    rw [e] at h
    have hi : i < σ.length := by rw [← rel.len]; exact (List.getElem?_eq_some_iff.mp e).1
    have q := rel.env i s _ e (List.getElem?_eq_getElem hi)
    have e2 : σ[i]? = some σ[i] := List.getElem?_eq_getElem hi
    rw [e2]
    generalize σ[i] = o at q
    have s0 : RS G.K G.ca ι F.B0 H S := rel.sto.less fun a z => List.mem_append_left _ z
    have s1 : ∀ p ∈ ω, ∀ a ∈ p :: F.B0, a ∈ F.B0 ++ ω := fun p hp a h => by
      rcases List.mem_cons.mp h with h | h
      · subst h; exact List.mem_append_right _ hp
      · exact List.mem_append_left _ h
    cases q with
    | no => exact h.elim
    | val rv => exact h ι _ H rel.ext0 rel.nd s0 (rv.per (Per.less fun a z => List.mem_append_left _ z))
    | own h1 h2 h3 => exact h ι _ H rel.ext0 rel.nd s0 (.l (rel.dj _ h1) (rel.offb0 h1) (rel.frw _ h1) h2 (h3.per (Per.less (s1 _ h1))) (rel.sto.less (s1 _ h1)))
    | oob h1 h2 h3 => exact h.elim
    | exn => exact h.elim
/-! ### names are set -/
theorem Rel.set (r : Rel G F ι ω ρ S σ H) (i : Nat) {v : V} {d : Fx.D} (rv : RV G.K G.ca ι (F.B0 ++ ω) H v d) : Rel G F ι ω (ρ.set i (.val d)) S (σ.set i (some v)) H := by
  refine { r with len := by rw [List.length_set, List.length_set]; exact r.len, env := fun j s o h1 h2 => ?_, own := fun j k a s s' hjk h1 h2 h3 h4 h5 h6 => ?_ }
  · by_cases e : i = j
    · subst e
      have hi : i < ρ.length := by
        have := (List.getElem?_eq_some_iff.mp h1).1
        rwa [List.length_set] at this
      rw [List.getElem?_set_self hi] at h1
      rw [List.getElem?_set_self (by rw [← r.len]; exact hi)] at h2
      cases h1; cases h2
      exact .val rv
    · rw [List.getElem?_set_ne e] at h1 h2
      exact r.env j s o h1 h2
  · by_cases e : i = j
    · subst e
      have hi : i < ρ.length := by
        have := (List.getElem?_eq_some_iff.mp h1).1
        rwa [List.length_set] at this
      rw [List.getElem?_set_self hi] at h1
      cases h1; cases h3
    · by_cases e' : i = k
      · subst e'
        have hi : i < ρ.length := by
          have := (List.getElem?_eq_some_iff.mp h2).1
          rwa [List.length_set] at this
        rw [List.getElem?_set_self hi] at h2
        cases h2; cases h4
      · rw [List.getElem?_set_ne e] at h1 h5
        rw [List.getElem?_set_ne e'] at h2 h6
        exact r.own j k a s s' hjk h1 h2 h3 h4 h5 h6
/-- a slot is forgotten -/
theorem Rel.drop (r : Rel G F ι ω ρ S σ H) (i : Nat) (o : Option V) : Rel G F ι ω (ρ.set i .no) S (σ.set i o) H := by
  refine { r with len := by rw [List.length_set, List.length_set]; exact r.len, env := fun j s o h1 h2 => ?_, own := fun j k a s s' hjk h1 h2 h3 h4 h5 h6 => ?_ }
  · by_cases e : i = j
    · subst e
      have hi : i < ρ.length := by
        have := (List.getElem?_eq_some_iff.mp h1).1
        rwa [List.length_set] at this
      rw [List.getElem?_set_self hi] at h1
      cases h1
      exact .no
    · rw [List.getElem?_set_ne e] at h1 h2
      exact r.env j s o h1 h2
  · by_cases e : i = j
    · subst e
      have hi : i < ρ.length := by
        have := (List.getElem?_eq_some_iff.mp h1).1
        rwa [List.length_set] at this
      rw [List.getElem?_set_self hi] at h1
      cases h1; cases h3
    · by_cases e' : i = k
      · subst e'
        have hi : i < ρ.length := by
          have := (List.getElem?_eq_some_iff.mp h2).1
          rwa [List.length_set] at this
        rw [List.getElem?_set_self hi] at h2
        cases h2; cases h4
      · rw [List.getElem?_set_ne e] at h1 h5
        rw [List.getElem?_set_ne e'] at h2 h6
        exact r.own j k a s s' hjk h1 h2 h3 h4 h5 h6
abbrev FG := Fx.D → Ev → Sto → Option Ev
/-- but for some slots nothing is changed -/
def Wp (js : List Nat) (σ σ' : L2.St) : Prop := ∀ vs : List Nat, (∀ j ∈ js, j ∈ vs) → wipe σ' vs = wipe σ vs
theorem wipe_set : ∀ {vs : List Nat} {i : Nat} {σ : L2.St} {o : Option V}, i ∈ vs → wipe (σ.set i o) vs = wipe σ vs
  | v :: vs, i, σ, o, h => by
    by_cases e : i ∈ vs
    · show (wipe (σ.set i o) vs).set v none = (wipe σ vs).set v none
      rw [wipe_set e]
    · have hv : i = v := by
        rcases List.mem_cons.mp h with z | z
        · exact z
        · exact absurd z e
      subst hv
      have sw : ∀ (us : List Nat), i ∉ us → wipe (σ.set i o) us = (wipe σ us).set i o := by
        intro us
        induction us with
        | nil => intro _; rfl
        | cons u us ih =>
          intro hn
          simp only [List.mem_cons, not_or] at hn
          show (wipe (σ.set i o) us).set u none = ((wipe σ us).set u none).set i o
          rw [ih hn.2, List.set_comm _ _ hn.1]
      show (wipe (σ.set i o) vs).set i none = (wipe σ vs).set i none
      rw [sw vs e, List.set_set]
theorem Wp.name (i : Nat) (σ : L2.St) (o : Option V) : Wp [i] σ (σ.set i o) := fun vs h => wipe_set (h i List.mem_cons_self)
theorem Wp.refl (js : List Nat) (σ : L2.St) : Wp js σ σ := fun _ _ => rfl
theorem Wp.trans {js ks : List Nat} {σ σ1 σ2 : L2.St} (a : Wp js σ σ1) (b : Wp ks σ1 σ2) : Wp (js ++ ks) σ σ2 := fun vs h =>
  (b vs fun j hj => h j (List.mem_append_right _ hj)).trans (a vs fun j hj => h j (List.mem_append_left _ hj))
/-- and what is one's own stays so -/
structure Wq (js : List Nat) (ρ ρ' : Ev) (σ σ' : L2.St) : Prop where
  wp : Wp js σ σ'
  ow : ∀ (i : Nat) (s : Sl), ρ'[i]? = some s → isOwn s = true → ρ[i]? = some s ∧ σ'[i]? = σ[i]?
theorem Wq.trans {js ks : List Nat} {ρ ρ1 ρ2 : Ev} {σ σ1 σ2 : L2.St} (a : Wq js ρ ρ1 σ σ1) (b : Wq ks ρ1 ρ2 σ1 σ2) : Wq (js ++ ks) ρ ρ2 σ σ2 := ⟨a.wp.trans b.wp, fun i s h1 h2 => by
  obtain ⟨q1, q2⟩ := b.ow i s h1 h2
  obtain ⟨q3, q4⟩ := a.ow i s q1 h2
  exact ⟨q3, q2.trans q4⟩⟩
theorem Wq.name (i : Nat) (ρ : Ev) (σ : L2.St) (d : Fx.D) (o : Option V) : Wq [i] ρ (ρ.set i (.val d)) σ (σ.set i o) := ⟨Wp.name i σ o, fun j s h1 h2 => by
  by_cases e : i = j
  · subst e
    have hi : i < ρ.length := by
      have := (List.getElem?_eq_some_iff.mp h1).1
      rwa [List.length_set] at this
    rw [List.getElem?_set_self hi] at h1; cases h1; cases h2
  · rw [List.getElem?_set_ne e] at h1
    exact ⟨h1, List.getElem?_set_ne e⟩⟩
def SG (G : Gm) (g : TG) (js : List Nat) (f : FG) : Prop := ∀ F ι ω ρ S σ H v d Q, Rel G F ι ω ρ S σ H → RV G.K G.ca ι (F.B0 ++ ω) H v d → (match f d ρ S with
  | some ρ' => ∀ σ', Rel G F ι ω ρ' S σ' H → Wq js ρ ρ' σ σ' → Q σ' H
  | none => False) → g v σ H Q
abbrev FGs := List Fx.D → Ev → Sto → Option Ev
def SGs (G : Gm) (g : TGs) (js : List Nat) (f : FGs) : Prop := ∀ F ι ω ρ S σ H vs ds Q, Rel G F ι ω ρ S σ H → RAll G.K G.ca ι (F.B0 ++ ω) H vs ds → (match f ds ρ S with
  | some ρ' => ∀ σ', Rel G F ι ω ρ' S σ' H → Wq js ρ ρ' σ σ' → Q σ' H
  | none => False) → g vs σ H Q
def gN (i : Nat) : FG := fun d ρ _ => some (ρ.set i (.val d))
theorem sg_name (i : Nat) : SG G (gName i) [i] (gN i) := fun F ι ω ρ S σ H v d Q rel rv h => h _ (rel.set i rv) (Wq.name i ρ σ d _)
def gsNil : FGs := fun ds ρ _ => match ds with
  | [] => some ρ
  | _ => none
def gsCons (f : FG) (g : FGs) : FGs := fun ds ρ S => match ds with
  | d :: ds => (match f d ρ S with
    | some ρ1 => g ds ρ1 S
    | none => none)
  | [] => none
theorem sgs_nil : SGs G gNil [] gsNil := by
  intro F ι ω ρ S σ H vs ds Q rel ra h
  cases ds with
  | nil => cases ra; exact ⟨rfl, h σ rel ⟨Wp.refl _ _, fun i s h1 h2 => ⟨h1, rfl⟩⟩⟩
  | cons => exact h.elim
theorem sgs_cons {g : TG} {gs : TGs} {js ks : List Nat} {f : FG} {fs : FGs} (hg : SG G g js f) (hs : SGs G gs ks fs) : SGs G (gCons g gs) (js ++ ks) (gsCons f fs) := by
  intro F ι ω ρ S σ H vs ds Q rel ra h
  cases ds with
  | nil => exact h.elim
  | cons d ds =>
    cases ra with
    | cons r1 r2 =>
      refine ⟨_, _, rfl, hg F ι ω ρ S σ H _ d _ rel r1 ?_⟩
      unfold gsCons at h
      dsimp only at h
      cases e : f d ρ S with
      | none => rw [e] at h; exact h.elim
      | some ρ1 =>
        rw [e] at h
        intro σ' rel' w1
        refine hs F ι ω ρ1 S σ' H _ ds Q rel' r2 ?_
        dsimp only at h
        cases e2 : fs ds ρ1 S with
        | none => rw [e2] at h; exact h.elim
        | some ρ2 =>
          rw [e2] at h
          exact fun σ2 rel2 w2 => h σ2 rel2 (w1.trans w2)
def gT (n : Nat) (fs : FGs) : FG := fun d ρ S => match sqOf S d with
  | some ds => if ds.length = n then fs ds ρ S else none
  | none => none
theorem sg_ts {n : Nat} {gs : TGs} {js : List Nat} {fs : FGs} (hs : SGs G gs js fs) : SG G (gTs G.K n gs) js (gT n fs) := by
  intro F ι ω ρ S σ H v d Q rel rv h
  unfold gT at h
  cases e : sqOf S d with
  | none => rw [e] at h; exact h.elim
  | some ds =>
    rw [e] at h
    obtain ⟨a, xs, rfl, q1, q2⟩ := sq_at rel.sto (.v rv) e
    dsimp only at h
    by_cases hn : ds.length = n
    · rw [if_pos hn] at h
      exact ⟨xs, q1.symm, by rw [q2.len]; exact hn, hs F ι ω ρ S σ H xs ds Q rel q2 h⟩
    · rw [if_neg hn] at h; exact h.elim
def sAsg (fe : FE) (g : FG) : FS := fun ρ S => eS (fe ρ S) ρ fun d f S1 => if f.nop = true then (match g d ρ S1 with
  | some ρ' => .nx ρ' S1
  | none => .bad) else .bad
theorem ss_asg {te : TE} {fe : FE} {g : TG} {fg : FG} {js : List Nat} (he : SE G E te fe) (hg : SG G g js fg) : SS G E (tAsg te g) (sAsg fe fg) := by
  intro F D ι ω ρ S σ H rel h
  refine he.bindS rel h fun d f S1 ι1 v H1 e1 r1 rf h1 => ?_
  split at h1
  · rename_i hf
    refine hg F ι1 ω ρ S1 σ H1 v d _ r1 (rf.rv (by intro z; subst z; cases hf)) ?_
    split at h1
    · rename_i ρ' eg
      exact fun σ' rel' _ => h1 ι1 ω σ' H1 ExtS.refl rel'
    · exact h1.elim
  · exact h1.elim
abbrev sSet (i : Nat) (fe : FE) : FS := sAsg fe (gN i)
def sPar (i j : Nat) (fa : FA) : FS := fun ρ S => match fa ρ S with
  | .ok [d, e] true S1 => .nx ((ρ.set i (.val d)).set j (.val e)) S1
  | .xc c fs S1 => .xc c fs ρ S1
  | _ => .bad
theorem ss_par {i j : Nat} {ta : TA} {fa : FA} (ha : SA G E ta fa) : SS G E (tPar2 i j ta) (sPar i j fa) := by
  intro F D ι ω ρ S σ H rel h
  refine ha F ι ω ρ S σ H _ rel ?_
  unfold sPar at h
  split at h
  · rename_i d e S1 ea
    rw [ea]
    intro ι1 vs H1 e1 r1 ra
    cases ra with
    | cons q1 q2 =>
      cases q2 with
      | cons q2 q3 =>
        cases q3
        exact h ι1 ω _ H1 e1.s ((r1.set i q1).set j q2)
  · rename_i c fs S1 ea
    rw [ea]
    exact fun ι' dd fv H' x rel' n1 n2 h1 h2 => h ι' ω σ dd fv H' x.s rel' n1 n2 h1 h2
  · exact h.elim
def sAug (i : Nat) (f : Int → Int → Int) (fe : FE) : FS := fun ρ S => match ρ[i]? with
  | some (.val (.int x)) => eS (fe ρ S) ρ fun d _ S1 => (match d with
    | .int y => .nx (ρ.set i (.val (.int (f x y)))) S1
    | _ => .bad)
  | _ => .bad
theorem slot_val (rel : Rel G F ι ω ρ S σ H) {i : Nat} {d : Fx.D} (e : ρ[i]? = some (.val d)) : ∃ v, σ[i]? = some (some v) ∧ RV G.K G.ca ι (F.B0 ++ ω) H v d := by
  have hi : i < σ.length := by rw [← rel.len]; exact (List.getElem?_eq_some_iff.mp e).1
  have q := rel.env i _ _ e (List.getElem?_eq_getElem hi)
  have e2 : σ[i]? = some σ[i] := List.getElem?_eq_getElem hi
  rw [e2]
  generalize σ[i] = o at q
  cases q with
  | val rv => exact ⟨_, rfl, rv⟩
theorem ss_aug {i : Nat} {te : TE} {fe : FE} {ti : TIp} {f : Int → Int → Int} (hf : ∀ (x y : Int) (H : Hp) (Q : VK), Q (.int (f x y)) H → ti (.int x) (.int y) H Q) (he : SE G E te fe) : SS G E (tAug i te ti) (sAug i f fe) := by
  intro F D ι ω ρ S σ H rel h
  unfold sAug at h
  split at h
  · rename_i x ex
    obtain ⟨v, e1, rv⟩ := slot_val rel ex
    cases rv
    refine ⟨_, e1, ?_⟩
    refine he.bindS rel h fun d fl S1 ι1 w H1 e1 r1 rf h1 => ?_
    split at h1
    · rw [rf.rt.sInt]
      exact hf _ _ _ _ (h1 ι1 ω _ H1 ExtS.refl (r1.set i (.int _)))
    · exact h1.elim
  · exact h.elim
theorem ss_augAdd {i : Nat} {te : TE} {fe : FE} (he : SE G E te fe) : SS G E (tAug i te ipu_add) (sAug i (fun x y => x + y) fe) := ss_aug (fun x y H Q h => h) he
theorem ss_augSub {i : Nat} {te : TE} {fe : FE} (he : SE G E te fe) : SS G E (tAug i te (ipI fun i j => i - j)) (sAug i (fun x y => x - y) fe) := ss_aug (fun x y H Q h => ⟨x, y, rfl, rfl, h⟩) he
/-! ### lists of one's own -/
theorem Rel.own' (r : Rel G F ι ω ρ S σ H) {H1 : Hp} {ι1 : List Addr} {S1 : Sto} (e : Ext ι H ι1 H1) (r1 : Rel G F ι1 ω ρ S1 σ H1) (i : Nat) {a : Addr} {s : Sl} (hs : RSl G ι1 (F.B0 ++ (a :: ω)) (a :: ω) H1 s (some (.ref a))) (h0 : H a = none) (hi : a ∉ ι1) (hd : H1 a ≠ none)
    (hS : RS G.K G.ca ι1 (F.B0 ++ (a :: ω)) H1 S1) : Rel G F ι1 (a :: ω) (ρ.set i s) S1 (σ.set i (some (.ref a))) H1 := by
  have pp : Per ι (F.B0 ++ ω) H ι1 (F.B0 ++ (a :: ω)) H1 := ⟨fun b o h1 h2 h3 => by
    rw [List.mem_append, not_or] at h3
    refine ⟨e.keep b o h1 h2, e.off h1 h2, fun z => ?_⟩
    rcases List.mem_append.mp z with z | z
    · exact h3.1 z
    · rcases List.mem_cons.mp z with z | z
      · subst z; rw [h0] at h1; cases h1
      · exact h3.2 z, fun _ _ h => ix_pre e.pre h⟩
  have up : ∀ s o, RSl G ι (F.B0 ++ ω) ω H s o → RSl G ι1 (F.B0 ++ (a :: ω)) (a :: ω) H1 s o := fun s o h => by
    cases h with
    | no => exact .no
    | val h => exact .val (h.per pp)
    | own h1 h2 h3 => exact .own (List.mem_cons_of_mem _ h1) (e.keep _ _ h2 (r.dj _ h1)) (h3.per pp)
    | oob h1 h0 h2 h3 => exact .oob (List.mem_cons_of_mem _ h1) h0 (e.keep _ _ h2 (r.dj _ h1)) (h3.per pp)
    | exn h1 h2 h3 h4 h5 =>
      obtain ⟨q1, q2, q3⟩ := pp.at' _ _ h4 h2 h3
      exact .exn h1 q2 q3 q1 (h5.per pp)
  have noa : ∀ (j : Nat) (s : Sl), ρ[j]? = some s → isOwn s = true → σ[j]? = some (some (.ref a)) → False := fun j s h1 h2 h3 => by
    cases r.env j s _ h1 h3 with
    | no => cases h2
    | val => cases h2
    | own q1 q2 q3 => rw [h0] at q2; cases q2
    | oob q1 q0 q2 q3 => rw [h0] at q2; cases q2
    | exn => cases h2
  refine ⟨r1.pre, r1.old, r1.dom, r1.fri, fun b hb => ?_, r1.b0, r1.nd, fun b hb => ?_, fun b hb => ?_, hS, by rw [List.length_set, List.length_set]; exact r.len, fun j s' o h1 h2 => ?_, fun j k b s1 s2 hjk h1 h2 h3 h4 h5 h6 => ?_⟩
  · rcases List.mem_cons.mp hb with z | z
    · subst z; exact none_of r.dom h0
    · exact r1.frw b z
  · rcases List.mem_cons.mp hb with z | z
    · subst z; exact hi
    · exact r1.dj b z
  · rcases List.mem_cons.mp hb with z | z
    · subst z; exact hd
    · exact r1.dw b z
  · by_cases e : i = j
    · subst e
      have hi : i < ρ.length := by
        have := (List.getElem?_eq_some_iff.mp h1).1
        rwa [List.length_set] at this
      rw [List.getElem?_set_self hi] at h1
      rw [List.getElem?_set_self (by rw [← r.len]; exact hi)] at h2
      cases h1; cases h2
      exact hs
    · rw [List.getElem?_set_ne e] at h1 h2
      exact up _ _ (r.env j s' o h1 h2)
  · by_cases e : i = j
    · subst e
      have hi : i < ρ.length := by
        have := (List.getElem?_eq_some_iff.mp h1).1
        rwa [List.length_set] at this
      rw [List.getElem?_set_self (by rw [← r.len]; exact hi)] at h5
      cases h5
      rw [List.getElem?_set_ne hjk] at h2 h6
      exact noa k s2 h2 h4 h6
    · by_cases e' : i = k
      · subst e'
        have hi : i < ρ.length := by
          have := (List.getElem?_eq_some_iff.mp h2).1
          rwa [List.length_set] at this
        rw [List.getElem?_set_self (by rw [← r.len]; exact hi)] at h6
        cases h6
        rw [List.getElem?_set_ne e] at h1 h5
        exact noa j s1 h1 h3 h5
      · rw [List.getElem?_set_ne e] at h1 h5
        rw [List.getElem?_set_ne e'] at h2 h6
        exact r.own j k b s1 s2 hjk h1 h2 h3 h4 h5 h6
def sOwn (i : Nat) (fe : FE) : FS := fun ρ S => eS (fe ρ S) ρ fun d f S1 => (match d, f with
  | .lst ds, .fs => .nx (ρ.set i (.own ds)) S1
  | _, _ => .bad)
theorem mid {a : Addr} {B ω : List Addr} : ∀ x ∈ B ++ (a :: ω), x ∈ a :: (B ++ ω) := fun x h => by
  simp only [List.mem_append, List.mem_cons] at h ⊢
  rcases h with h | h | h
  · exact .inr (.inl h)
  · exact .inl h
  · exact .inr (.inr h)
theorem ss_own {i : Nat} {te : TE} {fe : FE} (he : SE G E te fe) : SS G E (tAsg te (gName i)) (sOwn i fe) := by
  intro F D ι ω ρ S σ H rel h
  refine he F ι ω ρ S σ H _ rel ?_
  unfold sOwn at h
  cases e : fe ρ S with
  | ok d f S1 =>
    rw [e] at h
    dsimp only [eS] at h
    intro ι1 v H1 e1 r1 rf
    split at h
    · have rf : Fs _ _ _ _ _ _ _ _ _ := rf
      cases rf with
      | l h1 h2 h3 h4 h5 h6 =>
        refine h ι1 (_ :: ω) _ H1 ⟨e1.pre, fun a o q n _ => e1.keep a o q n, e1.new, fun a q n => ?_, e1.dom⟩ (rel.own' e1 r1 i (.own List.mem_cons_self h4 (h5.per (Per.less mid))) h3 h1 (nn h4) (h6.less mid))
        rcases List.mem_cons.mp q with z | z
        · subst z; exact h3
        · exact absurd z n
    · exact h.elim
  | xc c' fs S1 =>
    rw [e] at h
    exact fun ι' dd fv H' x rel' n1 n2 h1 h2 => h ι' ω σ dd fv H' x.s rel' n1 n2 h1 h2
  | bad => rw [e] at h; exact h.elim
end
end
end Fx

namespace Fx
open PySem PySem.Spec PyProof.Rows L2 U
noncomputable section
section
variable {G : Gm} {E : WX} {F : Fr} {Dd : Ends} {ι ω ι1 ω1 : List Addr} {ρ : Ev} {S S1 : Sto} {σ : L2.St} {H H1 : Hp}
/-! ### a list of one's own is changed -/
theorem slot_own (rel : Rel G F ι ω ρ S σ H) {i : Nat} {ds : List D} (e : ρ[i]? = some (.own ds)) : ∃ a xs, σ[i]? = some (some (.ref a)) ∧ a ∈ ω ∧ H a = some (.lst xs) ∧ RAll G.K G.ca ι (F.B0 ++ ω) H xs ds := by
  have hi : i < σ.length := by rw [← rel.len]; exact (List.getElem?_eq_some_iff.mp e).1
  have q := rel.env i _ _ e (List.getElem?_eq_getElem hi)
  have e2 : σ[i]? = some σ[i] := List.getElem?_eq_getElem hi
  rw [e2]
  generalize σ[i] = o at q
  cases q with
  | own h1 h2 h3 => exact ⟨_, _, rfl, h1, h2, h3⟩
theorem slot_oob (rel : Rel G F ι ω ρ S σ H) {i : Nat} {c : Nat} {es : List (Str × D)} (e : ρ[i]? = some (.oob c es)) : ∃ a dx fs, σ[i]? = some (some (.ref a)) ∧ a ∈ ω ∧ G.me = some a ∧ H a = some (.ins (G.ca c) dx fs) ∧ RFs G.K G.ca ι (F.B0 ++ ω) H fs es := by
  have hi : i < σ.length := by rw [← rel.len]; exact (List.getElem?_eq_some_iff.mp e).1
  have q := rel.env i _ _ e (List.getElem?_eq_getElem hi)
  have e2 : σ[i]? = some σ[i] := List.getElem?_eq_getElem hi
  rw [e2]
  generalize σ[i] = o at q
  cases q with
  | oob h1 h0 h2 h3 => exact ⟨_, _, _, rfl, h1, h0, h2, h3⟩
theorem Per.upd {B : List Addr} {a : Addr} {o : HO} (h : a ∈ ι ∨ a ∈ B) : Per ι B H ι B (upd H a o) :=
  ⟨fun b u h1 h2 h3 => ⟨by rw [upd_ne (fun z => by subst z; exact h.elim h2 h3)]; exact h1, h2, h3⟩, fun _ _ z => z⟩
/-- what lies at an address of one's own is changed, the slot with it -/
theorem Rel.mut (r : Rel G F ι ω ρ S σ H) {i : Nat} {a : Addr} {s s' : Sl} {o : HO} (e : ρ[i]? = some s) (hs : isOwn s = true) (ea : σ[i]? = some (some (.ref a))) (ha : a ∈ ω) (hs' : RSl G ι (F.B0 ++ ω) ω (upd H a o) s' (some (.ref a))) (io : isOwn s' = true) :
    Rel G F ι ω (ρ.set i s') S σ (upd H a o) := by
  have pp : Per ι (F.B0 ++ ω) H ι (F.B0 ++ ω) (L2.upd H a o) := Per.upd (.inr (List.mem_append_right _ ha))
  have hi : i < ρ.length := (List.getElem?_eq_some_iff.mp e).1
  refine ⟨r.pre, fun b u h n => ?_, fun b h => ?_, r.fri, r.frw, r.b0, r.nd, r.dj, fun b hb => ?_, r.sto.per (fun b hb => upd_ne fun z => r.dj a ha (by rw [← z]; exact hb)) pp, by rw [List.length_set]; exact r.len, fun j t o' h1 h2 => ?_, fun j k b s1 s2 hjk h1 h2 h3 h4 h5 h6 => ?_⟩
  · rw [upd_ne (fun z => by subst z; rw [r.frw _ ha] at h; cases h)]; exact r.old b u h n
  · unfold L2.upd; split
    · simp
    · exact r.dom b h
  · unfold L2.upd; split
    · simp
    · exact r.dw b hb
  · by_cases e' : i = j
    · subst e'
      rw [List.getElem?_set_self hi] at h1
      rw [ea] at h2
      cases h1; cases h2
      exact hs'
    · rw [List.getElem?_set_ne e'] at h1
      have q := r.env j t o' h1 h2
      have ne : isOwn t = true → ∀ b, o' = some (.ref b) → b ≠ a := fun ht b hb z => by
        subst z; subst hb
        exact r.own i j _ s t e' e h1 hs ht ea h2
      cases q with
      | no => exact .no
      | val h => exact .val (h.per pp)
      | own q1 q2 q3 => exact .own q1 (by rw [upd_ne (ne rfl _ rfl)]; exact q2) (q3.per pp)
      | oob q1 q0 q2 q3 => exact .oob q1 q0 (by rw [upd_ne (ne rfl _ rfl)]; exact q2) (q3.per pp)
      | exn q1 q2 q3 q4 q5 =>
        obtain ⟨g1, g2, g3⟩ := pp.at' _ _ q4 q2 q3
        exact .exn q1 g2 g3 g1 (q5.per pp)
  · have go : ∀ (j : Nat) (t : Sl), (ρ.set i s')[j]? = some t → isOwn t = true → ∃ t', ρ[j]? = some t' ∧ isOwn t' = true := fun j t h1 h2 => by
      by_cases e' : i = j
      · subst e'; exact ⟨s, e, hs⟩
      · rw [List.getElem?_set_ne e'] at h1; exact ⟨t, h1, h2⟩
    obtain ⟨t1, q1, q2⟩ := go j s1 h1 h3
    obtain ⟨t2, q3, q4⟩ := go k s2 h2 h4
    exact r.own j k b t1 t2 hjk q1 q3 q2 q4 h5 h6
theorem ExtS.mut {a : Addr} {o : HO} (ha : a ∈ ω) : ExtS ι ω H ι ω (upd H a o) :=
  ⟨List.prefix_rfl, fun b u h _ n => by rw [upd_ne (fun z => by subst z; exact n ha)]; exact h, fun _ h n => absurd h n, fun _ h n => absurd h n, fun b h => by
    unfold L2.upd; split
    · simp
    · exact h⟩
theorem Rel.mutL (r : Rel G F ι ω ρ S σ H) {i : Nat} {a : Addr} {ds ds' : List D} {xs' : List V} (e : ρ[i]? = some (.own ds)) (ea : σ[i]? = some (some (.ref a))) (ha : a ∈ ω) (ra : RAll G.K G.ca ι (F.B0 ++ ω) H xs' ds') : Rel G F ι ω (ρ.set i (.own ds')) S σ (upd H a (.lst xs')) :=
  r.mut e rfl ea ha (.own ha upd_same (ra.per (Per.upd (.inr (List.mem_append_right _ ha))))) rfl
/-! ### a cell is changed -/
theorem RS.set {K : PySem.W.Frag} {ca : Nat → Addr} {B : List Addr} {k : Nat} {a : Addr} {o : HO} {c : Ce} (r : RS K ca ι B H S) (nd : ι.Nodup) (e : ι[k]? = some a) (hc : RC K ca ι B (upd H a o) a c) : RS K ca ι B (upd H a o) (S.set k c) := by
  have ha : a ∈ ι := List.mem_of_getElem? e
  have pp : Per ι B H ι B (L2.upd H a o) := Per.upd (.inl ha)
  refine ⟨by rw [List.length_set]; exact r.len, fun j b c' h1 h2 => ?_⟩
  by_cases ej : k = j
  · subst ej
    rw [e] at h1; cases h1
    have hk : k < S.length := by rw [← r.len]; exact (List.getElem?_eq_some_iff.mp e).1
    rw [List.getElem?_set_self hk] at h2; cases h2
    exact hc
  · rw [List.getElem?_set_ne ej] at h2
    refine (r.at' j b c' h1 h2).per (upd_ne fun z => ej ?_) pp
    subst z
    obtain ⟨l1, e1⟩ := List.getElem?_eq_some_iff.mp e
    obtain ⟨l2, e2⟩ := List.getElem?_eq_some_iff.mp h1
    have pw := List.pairwise_iff_getElem.mp nd
    rcases Nat.lt_trichotomy k j with z | z | z
    · exact absurd (e1.trans e2.symm) (pw k j l1 l2 z)
    · exact z
    · exact absurd (e2.trans e1.symm) (pw j k l2 l1 z)
theorem Ext.cel {a : Addr} {o : HO} (ha : a ∈ ι) : Ext ι H ι (upd H a o) :=
  ⟨List.prefix_rfl, fun b u h n => by rw [upd_ne (fun z => by subst z; exact n ha)]; exact h, fun _ h n => absurd h n, fun b h => by
    unfold L2.upd; split
    · simp
    · exact h⟩
theorem Rel.cel (r : Rel G F ι ω ρ S σ H) {k : Nat} {a : Addr} {ds' : List D} {xs' : List V} (e : ι[k]? = some a) (ra : RAll G.K G.ca ι (F.B0 ++ ω) H xs' ds') : Rel G F ι ω ρ (S.set k (.lst ds')) σ (upd H a (.lst xs')) := by
  have ha : a ∈ ι := List.mem_of_getElem? e
  exact r.ex (Ext.cel ha) r.nd (r.sto.set r.nd e (.lst upd_same (ra.per (Per.upd (.inl ha)))))
/-! ### append, extend, x[i] = v -/
/-- the list in slot i becomes ds' -/
def putL (i : Nat) (ρ : Ev) (S : Sto) (f : List D → Option (List D)) : RSt := match ρ[i]? with
  | some (.own ds) => (match f ds with
    | some es => .nx (ρ.set i (.own es)) S
    | none => .bad)
  | some (.val (.cel k)) => (match S[k]? with
    | some (.lst ds) => (match f ds with
      | some es => .nx ρ (S.set k (.lst es))
      | none => .bad)
    | _ => .bad)
  | _ => .bad
/-- the list in slot i, and how it may be changed -/
theorem put_ok {i : Nat} {f : List D → Option (List D)} (rel : Rel G F ι ω ρ S σ H) (h : PostS G E F Dd ι ω H (putL i ρ S f)) : ∃ a xs ds es, σ[i]? = some (some (.ref a)) ∧ H a = some (.lst xs) ∧ RAll G.K G.ca ι (F.B0 ++ ω) H xs ds ∧ f ds = some es ∧
    ∀ ys, RAll G.K G.ca ι (F.B0 ++ ω) H ys es → Dd.nx σ (upd H a (.lst ys)) := by
  unfold putL at h
  split at h
  · rename_i ds e
    obtain ⟨a, xs, e1, ha, e2, ra⟩ := slot_own rel e
    split at h
    · rename_i es ef
      exact ⟨a, xs, ds, es, e1, e2, ra, ef, fun ys ry => h ι ω σ _ (ExtS.mut ha) (rel.mutL e e1 ha ry)⟩
    · exact h.elim
  · rename_i k e
    obtain ⟨v, e1, rv⟩ := slot_val rel e
    cases rv with
    | @cel a k hk =>
      split at h
      · rename_i ds es
        obtain ⟨xs, e2, ra⟩ := cel_at rel.sto hk es
        split at h
        · rename_i es' ef
          exact ⟨a, xs, ds, es', e1, e2, ra, ef, fun ys ry => h ι ω σ _ (Ext.cel (List.mem_of_getElem? hk)).s (rel.cel hk ry)⟩
        · exact h.elim
      · exact h.elim
  · exact h.elim
def sApp (i : Nat) (fe : FE) : FS := fun ρ S => eS (fe ρ S) ρ fun d f S1 => if f.nop = true then putL i ρ S1 (fun ds => if ds.length < lim then some (ds ++ [d]) else none) else .bad
/-- slot i holds a list -/
def hasL (i : Nat) (ρ : Ev) (S : Sto) : Bool := match ρ[i]? with
  | some (.own _) => true
  | some (.val (.cel k)) => (match S[k]? with | some (.lst _) => true | _ => false)
  | _ => false
theorem has_ok {i : Nat} (rel : Rel G F ι ω ρ S σ H) (h : hasL i ρ S = true) : ∃ a xs, σ[i]? = some (some (.ref a)) ∧ H a = some (.lst xs) := by
  unfold hasL at h
  split at h
  · rename_i ds e
    obtain ⟨a, xs, e1, ha, e2, ra⟩ := slot_own rel e
    exact ⟨a, xs, e1, e2⟩
  · rename_i k e
    obtain ⟨v, e1, rv⟩ := slot_val rel e
    cases rv with
    | @cel a k hk =>
      split at h
      · rename_i ds es
        obtain ⟨xs, e2, ra⟩ := cel_at rel.sto hk es
        exact ⟨a, xs, e1, e2⟩
      · cases h
  · cases h
/-- ahead of a change the slot is looked at -/
def chk (i : Nat) (f : FS) : FS := fun ρ S => if hasL i ρ S = true then f ρ S else .bad
theorem ss_app {i : Nat} {te : TE} {fe : FE} (he : SE G E te fe) : SS G E (tDrop (tBM G.K "list" uAppend (uVar i) (tCons te tNil))) (chk i (sApp i fe)) := by
  intro F D ι ω ρ S σ H rel h
  unfold chk at h
  split at h
  · rename_i hh
    obtain ⟨a, xs, e1, e2⟩ := has_ok rel hh
    show uVar i σ H fun x H1 => tyV G.K "list" x H1 ∧ tCons te tNil σ H1 fun xs H2 => uAppend x xs H2 fun _ H3 => D.nx σ H3
    unfold uVar
    rw [e1]
    refine ⟨.inl ⟨rfl, xs, .inl (.inl e2)⟩, ?_⟩
    refine he.bindS rel h fun d f S1 ι1 v H1 x1 r1 rf h1 => ?_
    split at h1
    · rename_i hf
      obtain ⟨a', xs', ds, es, q1, q2, q3, q4, q5⟩ := put_ok r1 h1
      rw [e1] at q1; cases q1
      split at q4
      · rename_i hl
        cases q4
        exact oK_of (mutL_of q2) ⟨by rw [q3.len]; exact lim_lt hl, q5 _ (q3.app (.cons (rf.rv (by intro z; subst z; cases hf)) .nil))⟩
      · cases q4
    · exact h1.elim
  · exact h.elim
def sExtend (i : Nat) (fe : FE) : FS := fun ρ S => eS (fe ρ S) ρ fun d f S1 => if f.nop = true then (match lsOf S1 d with
  | some zs => putL i ρ S1 (fun ds => if ds.length + zs.length ≤ lim then some (ds ++ zs) else none)
  | none => .bad) else .bad
theorem ss_extend {i : Nat} {te : TE} {fe : FE} (he : SE G E te fe) : SS G E (tDrop (tBM G.K "list" uExtend (uVar i) (tCons te tNil))) (chk i (sExtend i fe)) := by
  intro F D ι ω ρ S σ H rel h
  unfold chk at h
  split at h
  · rename_i hh
    obtain ⟨a, xs, e1, e2⟩ := has_ok rel hh
    show uVar i σ H fun x H1 => tyV G.K "list" x H1 ∧ tCons te tNil σ H1 fun xs H2 => uExtend x xs H2 fun _ H3 => D.nx σ H3
    unfold uVar
    rw [e1]
    refine ⟨.inl ⟨rfl, xs, .inl (.inl e2)⟩, ?_⟩
    refine he.bindS rel h fun d f S1 ι1 v H1 x1 r1 rf h1 => ?_
    split at h1
    · rename_i hf
      split at h1
      · rename_i zs ez
        obtain ⟨b, ws, rfl, z1, z2⟩ := ls_at r1.sto (.v (rf.rv (by intro z; subst z; cases hf))) ez
        obtain ⟨a', xs', ds, es, q1, q2, q3, q4, q5⟩ := put_ok r1 h1
        rw [e1] at q1; cases q1
        split at q4
        · rename_i hl
          cases q4
          exact oK_of (mutL_of q2) (oK_of (mutL_of z1) ⟨by rw [q3.len, z2.len]; exact lim_le hl, q5 _ (q3.app z2)⟩)
        · cases q4
      · exact h1.elim
    · exact h1.elim
  · exact h.elim
def sSetI (i : Nat) (fi fe : FE) : FS := fun ρ S => eS (fe ρ S) ρ fun d f S1 => if f.nop = true then (if hasL i ρ S1 = true then eS (fi ρ S1) ρ fun e _ S2 => (match e with
  | .int k => putL i ρ S2 (fun ds => (ixN ds.length k).map fun j => ds.set j d)
  | _ => .bad) else .bad) else .bad
theorem ss_setI {i : Nat} {te ti : TE} {fe fi : FE} (he : SE G E te fe) (hi : SE G E ti fi) : SS G E (tAsg te (gSub (uVar i) ti uSetL)) (sSetI i fi fe) := by
  intro F D ι ω ρ S σ H rel h
  refine he.bindS rel h fun d f S1 ι1 v H1 x1 r1 rf h1 => ?_
  split at h1
  · rename_i hf
    split at h1
    · rename_i hh
      obtain ⟨a, xs, e1, e2⟩ := has_ok r1 hh
      show uVar i σ H1 _
      unfold uVar
      rw [e1]
      refine hi.bindS r1 h1 fun e f2 S2 ι2 w H2 x2 r2 rf2 h2 => ?_
      split at h2
      · rename_i k
        rw [rf2.rt.sInt]
        obtain ⟨a', xs', ds, es, q1, q2, q3, q4, q5⟩ := put_ok r2 h2
        rw [e1] at q1; cases q1
        rw [Option.map_eq_some_iff] at q4
        obtain ⟨j, q6, rfl⟩ := q4
        exact oK_of (mutL_of q2) (oK_of (by rw [q3.len]; exact q6) (q5 _ (q3.set j ((rf.rv (by intro z; subst z; cases hf)).ex x2))))
      · exact h2.elim
    · exact h1.elim
  · exact h1.elim
/-! ### a list of one's own becomes a value -/
def frz (i : Nat) (ρ : Ev) : Ev := match ρ[i]? with
  | some (.own ds) => ρ.set i (.val (.lst ds))
  | _ => ρ
def sFrz (i : Nat) (f : FS) : FS := fun ρ S => f (frz i ρ) S
theorem Rel.less (r : Rel G F ι ω ρ S σ H) {i : Nat} {a : Addr} {s : Sl} {d : D} (e : ρ[i]? = some s) (hs : isOwn s = true) (ea : σ[i]? = some (some (.ref a))) (rv : RV G.K G.ca ι (F.B0 ++ ω.filter (· ≠ a)) H (.ref a) d) :
    Rel G F ι (ω.filter (· ≠ a)) (ρ.set i (.val d)) S σ H := by
  have sub : ∀ b ∈ ω.filter (· ≠ a), b ∈ ω := fun b hb => (List.mem_filter.mp hb).1
  have subB : ∀ b ∈ F.B0 ++ ω.filter (· ≠ a), b ∈ F.B0 ++ ω := fun b hb => by
    rcases List.mem_append.mp hb with z | z
    · exact List.mem_append_left _ z
    · exact List.mem_append_right _ (sub b z)
  have pp : Per ι (F.B0 ++ ω) H ι (F.B0 ++ ω.filter (· ≠ a)) H := Per.less subB
  have hi : i < ρ.length := (List.getElem?_eq_some_iff.mp e).1
  refine ⟨r.pre, r.old, r.dom, r.fri, fun b hb => r.frw b (sub b hb), r.b0, r.nd, fun b hb => r.dj b (sub b hb), fun b hb => r.dw b (sub b hb), r.sto.less subB, by rw [List.length_set]; exact r.len, fun j t o' h1 h2 => ?_, fun j k b s1 s2 hjk h1 h2 h3 h4 h5 h6 => ?_⟩
  · by_cases e' : i = j
    · subst e'
      rw [List.getElem?_set_self hi] at h1
      rw [ea] at h2
      cases h1; cases h2
      exact .val rv
    · rw [List.getElem?_set_ne e'] at h1
      have q := r.env j t o' h1 h2
      have ne : isOwn t = true → ∀ b, o' = some (.ref b) → b ≠ a := fun ht b hb z => by
        subst z; subst hb
        exact r.own i j _ s t e' e h1 hs ht ea h2
      cases q with
      | no => exact .no
      | val h => exact .val (h.per pp)
      | own q1 q2 q3 => exact .own (List.mem_filter.mpr ⟨q1, by simpa using ne rfl _ rfl⟩) q2 (q3.per pp)
      | oob q1 q0 q2 q3 => exact .oob (List.mem_filter.mpr ⟨q1, by simpa using ne rfl _ rfl⟩) q0 q2 (q3.per pp)
      | exn q1 q2 q3 q4 q5 => exact .exn q1 q2 (fun z => q3 (subB _ z)) q4 (q5.per pp)
  · have go : ∀ (j : Nat) (t : Sl), (ρ.set i (.val d))[j]? = some t → isOwn t = true → ρ[j]? = some t := fun j t h1 h2 => by
      by_cases e' : i = j
      · subst e'
        rw [List.getElem?_set_self hi] at h1; cases h1; cases h2
      · rw [List.getElem?_set_ne e'] at h1; exact h1
    exact r.own j k b s1 s2 hjk (go j s1 h1 h3) (go k s2 h2 h4) h3 h4 h5 h6
theorem frz_rel (r : Rel G F ι ω ρ S σ H) (i : Nat) : ∃ ω', Rel G F ι ω' (frz i ρ) S σ H ∧ ∀ a ∈ ω', a ∈ ω := by
  unfold frz
  split
  · rename_i ds e
    obtain ⟨a, xs, e1, ha, e2, ra⟩ := slot_own r e
    have subB : ∀ b ∈ F.B0 ++ ω.filter (· ≠ a), b ∈ F.B0 ++ ω := fun b hb => by
      rcases List.mem_append.mp hb with z | z
      · exact List.mem_append_left _ z
      · exact List.mem_append_right _ (List.mem_filter.mp z).1
    refine ⟨_, r.less e rfl e1 (.lst (r.dj a ha) (fun z => ?_) e2 (ra.per (Per.less subB))), fun b hb => (List.mem_filter.mp hb).1⟩
    rcases List.mem_append.mp z with z | z
    · exact r.offb0 ha z
    · exact (by simpa using (List.mem_filter.mp z).2)
  · exact ⟨ω, r, fun _ h => h⟩
theorem ss_frz {t : TS} {f : FS} (i : Nat) (h : SS G E t f) : SS G E t (sFrz i f) := by
  intro F D ι ω ρ S σ H rel hp
  obtain ⟨ω', r', sub⟩ := frz_rel rel i
  refine h F D ι ω' (frz i ρ) S σ H r' ?_
  have hp : PostS G E F D ι ω H (f (frz i ρ) S) := hp
  exact PostS.ex hp ⟨List.prefix_rfl, fun _ _ q _ _ => q, fun _ q n => absurd q n, fun a q n => absurd (sub a q) n, fun _ q => q⟩
/-! ### a new list becomes a cell -/
def fAdo (fe : FE) : FE := fun ρ S => bE (fe ρ S) fun d f S1 => (match d, f with
  | .lst ds, .fs => .ok (.cel S1.length) .tr (S1 ++ [.lst ds])
  | .lst _, _ => .bad
  | d, f => .ok d f S1)
theorem rs_grow {K : PySem.W.Frag} {ca : Nat → Addr} {B : List Addr} {a : Addr} {c : Ce} (r : RS K ca ι (a :: B) H S) (hc : RC K ca (ι ++ [a]) B H a c) : RS K ca (ι ++ [a]) B H (S ++ [c]) := by
  have pp : Per ι (a :: B) H (ι ++ [a]) B H := ⟨fun b o h1 h2 h3 => by
    simp only [List.mem_cons, not_or] at h3
    exact ⟨h1, by simp only [List.mem_append, List.mem_singleton, not_or]; exact ⟨h2, h3.1⟩, h3.2⟩, fun k b h => by
      rw [List.getElem?_append_left (List.getElem?_eq_some_iff.mp h).1]; exact h⟩
  refine ⟨by rw [List.length_append, List.length_append, r.len]; rfl, fun k b c' h1 h2 => ?_⟩
  by_cases hk : k < ι.length
  · rw [List.getElem?_append_left hk] at h1
    rw [List.getElem?_append_left (by rw [← r.len]; exact hk)] at h2
    exact (r.at' k b c' h1 h2).per rfl pp
  · rw [List.getElem?_append_right (by omega)] at h1
    rw [List.getElem?_append_right (by rw [← r.len]; omega)] at h2
    have e0 : k - ι.length = 0 := by
      by_cases z : k - ι.length = 0
      · exact z
      · rw [List.getElem?_eq_none (by simp; omega)] at h1; cases h1
    rw [e0] at h1
    rw [show k - S.length = 0 by rw [← r.len]; exact e0] at h2
    cases h1; cases h2
    exact hc
theorem se_ado {te : TE} {fe : FE} (he : SE G E te fe) : SE G E te (fAdo fe) := by
  intro F ι ω ρ S σ H Q rel h
  refine he F ι ω ρ S σ H Q rel ?_
  unfold fAdo at h
  cases e : fe ρ S with
  | ok d f S1 =>
    rw [e] at h
    dsimp only [bE] at h
    split at h
    · intro ι1 v H1 e1 r1 rf
      have rf : Fs _ _ _ _ _ _ _ _ _ := rf
      cases rf with
      | @l a xs ds h1 h2 h3 h4 h5 h6 =>
        have pp : Per ι1 (a :: (F.B0 ++ ω)) H1 (ι1 ++ [a]) (F.B0 ++ ω) H1 := ⟨fun b o h1 h2 h3 => by
          simp only [List.mem_cons, not_or] at h3
          exact ⟨h1, by simp only [List.mem_append, List.mem_singleton, not_or]; exact ⟨h2, h3.1⟩, h3.2⟩, fun k b h => by
            rw [List.getElem?_append_left (List.getElem?_eq_some_iff.mp h).1]; exact h⟩
        have x2 : Ext ι H (ι1 ++ [a]) H1 := ⟨e1.pre.trans (List.prefix_append _ _), e1.keep, fun b hb n => by
          rcases List.mem_append.mp hb with z | z
          · exact e1.new b z n
          · rw [List.mem_singleton.mp z]; exact h3, e1.dom⟩
        refine h (ι1 ++ [a]) (.ref a) H1 x2 (rel.ex x2 ?_ (rs_grow h6 (.lst h4 (h5.per pp)))) (.cel ?_)
        · rw [List.nodup_append]
          refine ⟨r1.nd, by simp, fun b hb c hc => ?_⟩
          rw [List.mem_singleton.mp hc]
          intro z; subst z; exact h1 hb
        · rw [List.getElem?_append_right (by rw [h6.len]; exact Nat.le_refl _), h6.len]; simp
    · exact h.elim
    · exact h
  | xc c' fs S1 => rw [e] at h; exact h
  | bad => rw [e] at h; exact h
/-! ### raise -/
def sRaise (c : Nat) (f : Str) (fa : FA) : FS := fun ρ S => match fa ρ S with
  | .ok [d] true S1 => .xc c [(f, d)] ρ S1
  | .xc c' fs S1 => .xc c' fs ρ S1
  | _ => .bad
theorem ss_raise {c : Nat} {f : Str} {E' : XK} {ta : TA} {fa : FA} (hE : ∀ cls d σ H, E cls d σ H → E' cls d H) (ha : SA G E ta fa) : SS G E (uRaise (G.ca c) f E' ta) (sRaise c f fa) := by
  intro F D ι ω ρ S σ H rel h
  show uMk (G.ca c) f ta σ H E'
  unfold uMk
  refine ha F ι ω ρ S σ H _ rel ?_
  unfold sRaise at h
  split at h
  · rename_i d S1 ea
    rw [ea]
    intro ι1 vs H1 e1 r1 ra
    cases ra with
    | cons q1 q2 =>
      cases q2
      intro dd hd
      refine hE _ _ _ _ (h ι1 ω σ dd [(f, _)] _ ((e1.trans (Ext.new1 hd)).s) (r1.new hd) (r1.offi hd) (r1.offb hd) upd_same (.cons (q1.per (Per.new hd)) .nil))
  · rename_i c' fs S1 ea
    rw [ea]
    exact fun ι' dd fv H' x rel' n1 n2 h1 h2 => h ι' ω σ dd fv H' x.s rel' n1 n2 h1 h2
  · exact h.elim
/-! ### try -/
def isExn : Sl → Bool
  | .exn _ _ => true
  | _ => false
def noExn (ρ : Ev) : Bool := ρ.all fun s => !isExn s
theorem Rel.gm {G' : Gm} (r : Rel G F ι ω ρ S σ H) (hn : noExn ρ = true) (hK : G'.K = G.K) (hc : G'.ca = G.ca) (hm : G'.me = G.me) : Rel G' F ι ω ρ S σ H := by
  obtain ⟨K, ca, x, me⟩ := G
  obtain ⟨K', ca', x', me'⟩ := G'
  cases hK; cases hc; cases hm
  refine ⟨r.pre, r.old, r.dom, r.fri, r.frw, r.b0, r.nd, r.dj, r.dw, r.sto, r.len, fun i s o h1 h2 => ?_, r.own⟩
  have q := r.env i s o h1 h2
  have ns := List.all_eq_true.mp hn s (List.mem_of_getElem? h1)
  cases q with
  | no => exact .no
  | val h => exact .val h
  | own q1 q2 q3 => exact .own q1 q2 q3
  | oob q1 q0 q2 q3 => exact .oob q1 q0 q2 q3
  | exn => cases ns
/-- the clauses -/
def hand (em : Nat → Nat → Option Bool) (c : Nat) (fs : List (Str × D)) (ρ : Ev) (S : Sto) : List (Nat × Nat × FS) → RSt
  | [] => .xc c fs ρ S
  | (h, i, f) :: l => (match em c h with
    | some true => if noExn ρ = true then (match f (ρ.set i (.exn c fs)) S with
      | .nx ρ' S' => if noExn (ρ'.set i .no) = true then .nx (ρ'.set i .no) S' else .bad
      | .bk ρ' S' => if noExn (ρ'.set i .no) = true then .bk (ρ'.set i .no) S' else .bad
      | .ct ρ' S' => if noExn (ρ'.set i .no) = true then .ct (ρ'.set i .no) S' else .bad
      | .rt d fl S' => .rt d fl S'
      | _ => .bad) else .bad
    | some false => hand em c fs ρ S l
    | none => .bad)
def sTry (em : Nat → Nat → Option Bool) (fb : FS) (l : List (Nat × Nat × FS)) : FS := fun ρ S => match fb ρ S with
  | .xc c fs ρ' S' => hand em c fs ρ' S' l
  | r => r
inductive ClS (G : Gm) : List Cl → List (Nat × Nat × FS) → Prop
  | nil : ClS G [] []
  | cons {k : Cl} {h i : Nat} {f : FS} {l : List Cl} {m : List (Nat × Nat × FS)} : k.c = .ref (G.ca h) → k.i = i → (∀ (a dd : Addr) (c : Nat), SS ⟨G.K, G.ca, some (a, dd, c), G.me⟩ (fun _ _ _ _ => False) (k.ts a (.ref (G.ca c)) (some dd)) f) → ClS G l m → ClS G (k :: l) ((h, i, f) :: m)
theorem Rel.exn {a dd : Addr} {c i : Nat} {fv : List (Str × V)} {fs : List (Str × D)} (r : Rel G F ι ω ρ S σ H) (hn : noExn ρ = true) (n1 : dd ∉ ι) (n2 : dd ∉ F.B0 ++ ω) (h1 : H dd = some (.xd fv)) (h2 : RFs G.K G.ca ι (F.B0 ++ ω) H fv fs) :
    Rel ⟨G.K, G.ca, some (a, dd, c), G.me⟩ F ι ω (ρ.set i (.exn c fs)) S (σ.set i (some (.ref a))) H := by
  have r' : Rel ⟨G.K, G.ca, some (a, dd, c), G.me⟩ F ι ω ρ S σ H := r.gm hn rfl rfl rfl
  refine { r' with len := by rw [List.length_set, List.length_set]; exact r.len, env := fun j s o q1 q2 => ?_, own := fun j k b s s' hjk q1 q2 q3 q4 q5 q6 => ?_ }
  · by_cases e : i = j
    · subst e
      have hi : i < ρ.length := by
        have := (List.getElem?_eq_some_iff.mp q1).1
        rwa [List.length_set] at this
      rw [List.getElem?_set_self hi] at q1
      rw [List.getElem?_set_self (by rw [← r.len]; exact hi)] at q2
      cases q1; cases q2
      exact .exn rfl n1 n2 h1 h2
    · rw [List.getElem?_set_ne e] at q1 q2
      exact r'.env j s o q1 q2
  · by_cases e : i = j
    · subst e
      have hi : i < ρ.length := by
        have := (List.getElem?_eq_some_iff.mp q1).1
        rwa [List.length_set] at this
      rw [List.getElem?_set_self hi] at q1
      cases q1; cases q3
    · by_cases e' : i = k
      · subst e'
        have hi : i < ρ.length := by
          have := (List.getElem?_eq_some_iff.mp q2).1
          rwa [List.length_set] at this
        rw [List.getElem?_set_self hi] at q2
        cases q2; cases q4
      · rw [List.getElem?_set_ne e] at q1 q5
        rw [List.getElem?_set_ne e'] at q2 q6
        exact r.own j k b s s' hjk q1 q2 q3 q4 q5 q6
theorem hand_ok {em : Nat → Nat → Option Bool} (hem : ∀ c h b, em c h = some b → PySem.W.exmOne G.K (.ref (G.ca c)) (.ref (G.ca h)) = some b) {c : Nat} {fs : List (Str × D)} {W0 : WX} {dd : Addr} {fv : List (Str × V)}
    (rel : Rel G F ι ω ρ S σ H) (n1 : dd ∉ ι) (n2 : dd ∉ F.B0 ++ ω) (h1 : H dd = some (.xd fv)) (h2 : RFs G.K G.ca ι (F.B0 ++ ω) H fv fs) :
    ∀ {l : List Cl} {m : List (Nat × Nat × FS)}, ClS G l m → PostS G W0 F Dd ι ω H (hand em c fs ρ S m) → clW G.K W0 Dd l (.ref (G.ca c)) (some dd) σ H := by
  intro l m hc
  induction hc with
  | nil => exact fun h => h ι ω σ dd fv H ExtS.refl rel n1 n2 h1 h2
  | @cons k h i f l m e1 e2 hs hl ih =>
    intro hp
    unfold hand at hp
    split at hp
    · rename_i ee
      unfold clW
      rw [e1, e2]
      refine oK_of (hem _ _ _ ee) ?_
      show ∀ a, H a = none → _
      intro a ha
      split at hp
      · rename_i hn
        have r2 := rel.exn (a := a) (c := c) (i := i) hn n1 n2 h1 h2
        refine hs a dd c F (gone i Dd) ι ω (ρ.set i (.exn c fs)) S _ H r2 ?_
        cases er : f (ρ.set i (.exn c fs)) S with
        | nx ρ' S' =>
          rw [er] at hp
          dsimp only at hp
          split at hp
          · rename_i hn2
            exact fun ι' ω' σ' H' x r' => hp ι' ω' _ H' x ((r'.drop i none).gm hn2 rfl rfl rfl)
          · exact hp.elim
        | bk ρ' S' =>
          rw [er] at hp
          dsimp only at hp
          split at hp
          · rename_i hn2
            exact fun ι' ω' σ' H' x r' => hp ι' ω' _ H' x ((r'.drop i none).gm hn2 rfl rfl rfl)
          · exact hp.elim
        | ct ρ' S' =>
          rw [er] at hp
          dsimp only at hp
          split at hp
          · rename_i hn2
            exact fun ι' ω' σ' H' x r' => hp ι' ω' _ H' x ((r'.drop i none).gm hn2 rfl rfl rfl)
          · exact hp.elim
        | rt d fl S' => rw [er] at hp; exact hp
        | xc => rw [er] at hp; exact hp.elim
        | bad => rw [er] at hp; exact hp.elim
      · exact hp.elim
    · rename_i ee
      unfold clW
      rw [e1]
      refine oK_of (hem _ _ _ ee) ?_
      exact ih hp
    · exact hp.elim
theorem ss_try {em : Nat → Nat → Option Bool} (hem : ∀ c h b, em c h = some b → PySem.W.exmOne G.K (.ref (G.ca c)) (.ref (G.ca h)) = some b) {tb : WX → TS} {fb : FS} {l : List Cl} {m : List (Nat × Nat × FS)} (hb : ∀ W, SS G W (tb W) fb) (hl : ClS G l m) :
    SS G E (uTry G.K E l tb) (sTry em fb m) := by
  intro F D ι ω ρ S σ H rel h
  refine hb _ F D ι ω ρ S σ H rel ?_
  unfold sTry at h
  cases e : fb ρ S with
  | xc c fs ρ' S' =>
    rw [e] at h
    exact fun ι' ω' σ' dd fv H' x r' n1 n2 h1 h2 => hand_ok hem r' n1 n2 h1 h2 hl (PostS.ex h x)
  | nx ρ' S' => rw [e] at h; exact h
  | bk ρ' S' => rw [e] at h; exact h
  | ct ρ' S' => rw [e] at h; exact h
  | rt d fl S' => rw [e] at h; exact h
  | bad => rw [e] at h; exact h
def fXf (xf : Nat → Str → Bool) (i : Nat) (f : Str) : FE := fun ρ S => match ρ[i]? with
  | some (.exn c fs) => if xf c f = true then (match fs.lookup f with
    | some d => .ok d .tr S
    | none => .bad) else .bad
  | _ => .bad
theorem se_xf {xf : Nat → Str → Bool} {a dd : Addr} {c : Nat} (i : Nat) (f : Str) (hx : G.x = some (a, dd, c)) (hxf : ∀ c f, xf c f = true → XfC G.K (G.ca c) ∧ PySem.W.findIn G.K (.ref (G.ca c)) f = some none) : SE G E (uXf G.K a (.ref (G.ca c)) (some dd) i f) (fXf xf i f) := by
  intro F ι ω ρ S σ H Q rel h
  unfold fXf at h
  split at h
  · rename_i c' fs e
    have hi : i < σ.length := by rw [← rel.len]; exact (List.getElem?_eq_some_iff.mp e).1
    have q := rel.env i _ _ e (List.getElem?_eq_getElem hi)
    have e2 : σ[i]? = some σ[i] := List.getElem?_eq_getElem hi
    generalize σ[i] = o at q e2
    cases q with
    | exn q1 q2 q3 q4 q5 =>
      rw [hx] at q1
      cases q1
      split at h
      · rename_i hc
        split at h
        · rename_i d ed
          obtain ⟨x1, x2⟩ := hxf _ _ hc
          rcases q5.look (f := f) with ⟨d', v, g1, g2, g3⟩ | ⟨g1, g2⟩
          · rw [ed] at g1; cases g1
            exact ⟨_, dd, _, v, rfl, x1, x2, e2, rfl, q4, g2, PostE.now h rel g3⟩
          · rw [ed] at g1; cases g1
        · exact h.elim
      · exact h.elim
  · exact h.elim
end
/-! ### a def -/
def runF (n m : Nat) (b : FS) : FF := fun ds S => if ds.length = m then (match b (ds.map .val ++ List.replicate (n - m) .no) S with
  | .nx _ S' => .ok .non .tr S'
  | .rt d f S' => .ok d f S'
  | .xc c fs _ S' => .xc c fs S'
  | _ => .bad) else .bad
section
variable {K : PySem.W.Frag} {ca : Nat → Addr} {H : Hp} {Q : VK} {E : XK} {vs : List V}
theorem run_len {N P : List Str} {b : FS} (h : SpF K ca (runF N.length P.length b) vs H Q E) : vs.length = P.length := by
  obtain ⟨ι, B, S, ds, h1, h2, h3, h4, h5⟩ := h
  unfold runF at h5
  split at h5
  · rename_i e; rw [h4.len]; exact e
  · exact h5.elim
theorem start_rel {ι B : List Addr} {S : Sto} {ds : List D} {N : List Str} (h1 : ι.Nodup) (h2 : ∀ b ∈ B, H b ≠ none ∧ b ∉ ι) (h3 : RS K ca ι B H S) (h4 : RAll K ca ι B H vs ds) :
    Rel ⟨K, ca, none, none⟩ ⟨H, ι, B⟩ ι [] (ds.map .val ++ List.replicate (N.length - ds.length) .no) S (L2.start N vs) H := by
  refine ⟨List.prefix_rfl, fun _ _ h _ => h, fun _ h => h, fun _ h n => absurd h n, fun _ h => (nomatch h), h2, h1, fun _ h => (nomatch h), fun _ h => (nomatch h), ?_, ?_, fun i s o e1 e2 => ?_, fun i j a s s' hij e1 e2 e3 => ?_⟩
  · rw [List.append_nil]; exact h3
  · unfold L2.start; rw [List.length_append, List.length_append, List.length_map, List.length_map, List.length_replicate, List.length_replicate, h4.len]
  · unfold L2.start at e2
    rw [List.append_nil]
    by_cases hi : i < ds.length
    · rw [List.getElem?_append_left (by rw [List.length_map]; exact hi), List.getElem?_map, List.getElem?_eq_getElem hi] at e1
      cases e1
      obtain ⟨v, q1, q2⟩ := h4.at i (List.getElem?_eq_getElem hi)
      rw [List.getElem?_append_left (by rw [List.length_map, h4.len]; exact hi), List.getElem?_map, q1] at e2
      cases e2
      exact .val q2
    · rw [List.getElem?_append_right (by rw [List.length_map]; omega), List.getElem?_replicate] at e1
      split at e1
      · cases e1; exact .no
      · cases e1
  · exfalso
    by_cases hi : i < ds.length
    · rw [List.getElem?_append_left (by rw [List.length_map]; exact hi), List.getElem?_map, List.getElem?_eq_getElem hi] at e1
      cases e1; cases e3
    · rw [List.getElem?_append_right (by rw [List.length_map]; omega), List.getElem?_replicate] at e1
      split at e1
      · cases e1; cases e3
      · cases e1
theorem run_ok {N P : List Str} {t : TS} {b : FS} (hb : SS ⟨K, ca, none, none⟩ (fun cls d _ H => E cls d H) t b) (h : SpF K ca (runF N.length P.length b) vs H Q E) : t { nx := fun _ H' => Q .non H', rt := Q } (L2.start N vs) H := by
  obtain ⟨ι, B, S, ds, h1, h2, h3, h4, h5⟩ := h
  unfold runF at h5
  split at h5
  · rename_i el
    refine hb ⟨H, ι, B⟩ _ ι [] _ S _ H (start_rel h1 h2 h3 h4) ?_
    rw [el]
    cases e : b (ds.map .val ++ List.replicate (N.length - P.length) .no) S with
    | nx ρ' S' =>
      rw [e] at h5
      exact fun ι' ω' σ' H' x r => h5 ι' .non H' r.ext0 r.nd (r.sto.less fun a z => List.mem_append_left _ z) .non
    | rt d f S' => rw [e] at h5; exact h5
    | xc c fs ρ' S' =>
      rw [e] at h5
      exact fun ι' ω' σ' dd fv H' x r n1 n2 g1 g2 => h5 ι' dd fv H' r.ext0 r.nd (r.sto.less fun a z => List.mem_append_left _ z) n1 (fun z => n2 (List.mem_append_left _ z)) g1 (g2.per (Per.less fun a z => List.mem_append_left _ z))
    | bk => rw [e] at h5; exact h5.elim
    | ct => rw [e] at h5; exact h5.elim
    | bad => rw [e] at h5; exact h5.elim
  · exact h5.elim
end
end
end Fx

namespace Fx
open PySem PySem.Spec PyProof.Rows L2 U
noncomputable section
/-! ### what is walked -/
abbrev Gd := Option (Nat × List D)
/-- the walked cell is as it was -/
def gOk : Gd → Sto → Prop
  | none, _ => True
  | some (k, ds), S => S[k]? = some (.lst ds)
structure Wk (K : PySem.W.Frag) (ca : Nat → Addr) (ι1 B1 : List Addr) (H1 : Hp) (J : It) (ds : List D) (g : Gd) : Prop where
  go : ∀ ι2 B2 H2 S2 i, Per ι1 B1 H1 ι2 B2 H2 → RS K ca ι2 B2 H2 S2 → (∀ a ∈ B2, H2 a ≠ none) → gOk g S2 → i < ds.length → J.go i H2
  stop : ∀ ι2 B2 H2 S2, Per ι1 B1 H1 ι2 B2 H2 → RS K ca ι2 B2 H2 S2 → (∀ a ∈ B2, H2 a ≠ none) → gOk g S2 → J.stop ds.length H2
  yld : ∀ ι2 B2 H2 S2 i x H', Per ι1 B1 H1 ι2 B2 H2 → RS K ca ι2 B2 H2 S2 → (∀ a ∈ B2, H2 a ≠ none) → gOk g S2 → i < ds.length → J.yld i H2 x H' → (∀ a o, H2 a = some o → H' a = some o) ∧ ∃ d, ds[i]? = some d ∧ RV K ca ι2 B2 H' x d
inductive RI where
  | ok (ds : List D) (g : Gd) (S : Sto) | xc (c : Nat) (fs : List (Str × D)) (S : Sto) | bad
abbrev FI := Ev → Sto → RI
def PostI (G : Gm) (E : WX) (F : Fr) (ι ω : List Addr) (ρ : Ev) (σ : L2.St) (H : Hp) (R : It → Hp → Prop) : RI → Prop
  | .ok ds g S' => ∀ ι' J H', Ext ι H ι' H' → Rel G F ι' ω ρ S' σ H' → Wk G.K G.ca ι' (F.B0 ++ ω) H' J ds g → R J H'
  | .xc c fs S' => ∀ ι' dd fv H', Ext ι H ι' H' → Rel G F ι' ω ρ S' σ H' → dd ∉ ι' → dd ∉ F.B0 ++ ω → H' dd = some (.xd fv) → RFs G.K G.ca ι' (F.B0 ++ ω) H' fv fs → E (.ref (G.ca c)) (some dd) σ H'
  | .bad => False
def SI (G : Gm) (E : WX) (t : TI) (f : FI) : Prop := ∀ F ι ω ρ S σ H R, Rel G F ι ω ρ S σ H → PostI G E F ι ω ρ σ H R (f ρ S) → t σ H R
/-- the items of a value that is walked -/
def charsD (z : Str) : List D := (sl z).map fun c => .str ⟨#[c]⟩
def itemsD (S : Sto) : D → Option (List D × Gd)
  | .str z => some (charsD z, none)
  | .lst ds => some (ds, none)
  | .tup ds => some (ds, none)
  | .cel k => (match S[k]? with | some (.lst ds) => some (ds, some (k, ds)) | _ => none)
  | _ => none
def fIter (fe : FE) : FI := fun ρ S => match fe ρ S with
  | .ok d f S1 => if f.nop = true then (match itemsD S1 d with
    | some (ds, g) => .ok ds g S1
    | none => .bad) else .bad
  | .xc c fs S1 => .xc c fs S1
  | .bad => .bad
theorem rall_chars {K : PySem.W.Frag} {ca : Nat → Addr} {ι B : List Addr} {H : Hp} (z : Str) : RAll K ca ι B H (chars z) (charsD z) := by
  unfold chars charsD
  show RAll K ca ι B H ((sl z).map _) _
  generalize sl z = l
  induction l with
  | nil => exact .nil
  | cons c l ih => exact .cons (.str _) ih
def JK (K : PySem.W.Frag) : Kd → It
  | .l a => Itl K a
  | .t a => Itt K a
  | .s z _ => Its z
/-- a value with its items, now and later -/
structure Sq (K : PySem.W.Frag) (ca : Nat → Addr) (ι1 B1 : List Addr) (H1 : Hp) (v : V) (k : Kd) (ds : List D) (g : Gd) : Prop where
  now : ∀ (R : It → Hp → Prop), R (JK K k) H1 → goIt K v H1 R
  later : ∀ ι2 B2 H2 S2, Per ι1 B1 H1 ι2 B2 H2 → RS K ca ι2 B2 H2 S2 → gOk g S2 → ∃ xs, k.sq K H2 xs ∧ RAll K ca ι2 B2 H2 xs ds
  kd : ∀ a, v = .ref a → kdOf K H1 a = some k
section
variable {G : Gm} {E : WX} {F : Fr} {Dd : Ends} {ι ω ι1 ω1 : List Addr} {ρ : Ev} {S S1 : Sto} {σ : L2.St} {H H1 : Hp}
theorem sq_of {v : V} {d : D} {ds : List D} {g : Gd} (rs : RS G.K G.ca ι (F.B0 ++ ω) H S) (h : RV G.K G.ca ι (F.B0 ++ ω) H v d) (e : itemsD S d = some (ds, g)) : ∃ k, Sq G.K G.ca ι (F.B0 ++ ω) H v k ds g := by
  unfold itemsD at e
  split at e
  · cases e
    cases h
    refine ⟨.s _ 0, fun R h => h, fun ι2 B2 H2 S2 p rs g => ⟨_, rfl, rall_chars _⟩, fun a z => by cases z⟩
  · cases e
    cases h with
    | @lst a xs ds h1 h2 h3 h4 =>
      refine ⟨.l a, fun R h => ?_, fun ι2 B2 H2 S2 p rs g => ⟨xs, .inl (.inl (p.at' _ _ h3 h1 h2).1), h4.per p⟩, fun b z => ?_⟩
      · show match rdL G.K H a with | some _ => _ | none => _
        rw [rdL_of h3]; exact h
      · cases z; unfold kdOf; rw [rdL_of h3]
  · cases e
    cases h with
    | @tup a xs ds h1 h2 h3 h4 =>
      have e1 : rdL G.K H a = none := by unfold rdL; rw [h3]
      refine ⟨.t a, fun R h => ?_, fun ι2 B2 H2 S2 p rs g => ⟨xs, .inl (.inl (p.at' _ _ h3 h1 h2).1), h4.per p⟩, fun b z => ?_⟩
      · show match rdL G.K H a with | some _ => _ | none => _
        rw [e1]
        show match rdT G.K H a with | some _ => _ | none => _
        rw [rdT_of h3]; exact h
      · cases z; unfold kdOf; rw [e1]; dsimp only; rw [rdT_of h3]
  · rename_i k
    split at e
    · rename_i ds' es
      cases e
      cases h with
      | @cel a k hk =>
        obtain ⟨xs, e2, ra⟩ := cel_at rs hk es
        refine ⟨.l a, fun R h => ?_, fun ι2 B2 H2 S2 p rs2 g => ?_, fun b z => ?_⟩
        · show match rdL G.K H a with | some _ => _ | none => _
          rw [rdL_of e2]; exact h
        · have g : S2[k]? = some (.lst ds) := g
          cases rs2.at' k a _ (p.ix _ _ hk) g with
          | lst q1 q2 => exact ⟨_, .inl (.inl q1), q2⟩
        · cases z; unfold kdOf; rw [rdL_of e2]
    · cases e
  · cases e
theorem Sq.wk {K : PySem.W.Frag} {ca : Nat → Addr} {B1 : List Addr} {v : V} {k : Kd} {ds : List D} {g : Gd} (q : Sq K ca ι1 B1 H1 v k ds g) : Wk K ca ι1 B1 H1 (JK K k) ds g := by
  have key : ∀ ι2 B2 H2 S2, Per ι1 B1 H1 ι2 B2 H2 → RS K ca ι2 B2 H2 S2 → gOk g S2 → ∃ xs, RAll K ca ι2 B2 H2 xs ds ∧ ∃ Gx : Hp → Prop, Gx H2 ∧ Walk (JK K k) xs.length Gx (YAt xs) := fun ι2 B2 H2 S2 p rs g => by
    obtain ⟨xs, h1, h2⟩ := q.later ι2 B2 H2 S2 p rs g
    refine ⟨xs, h2, ?_⟩
    cases k with
    | l a => exact ⟨_, h1, walk_list⟩
    | t a => exact ⟨_, h1, walk_tup⟩
    | s z t => exact ⟨fun _ => True, trivial, by rw [show xs = chars z from h1]; exact walk_chars⟩
  refine ⟨fun ι2 B2 H2 S2 i p rs hb g hi => ?_, fun ι2 B2 H2 S2 p rs hb g => ?_, fun ι2 B2 H2 S2 i x H' p rs hb g hi y => ?_⟩
  · obtain ⟨xs, h1, Gx, h2, w⟩ := key ι2 B2 H2 S2 p rs g
    exact w.goes i H2 (by rw [h1.len]; exact hi) h2
  · obtain ⟨xs, h1, Gx, h2, w⟩ := key ι2 B2 H2 S2 p rs g
    rw [← h1.len]; exact w.stops H2 h2
  · obtain ⟨xs, h1, Gx, h2, w⟩ := key ι2 B2 H2 S2 p rs g
    obtain ⟨rfl, h3⟩ := w.yields i H2 x H' (by rw [h1.len]; exact hi) h2 y
    exact ⟨fun _ _ z => z, h1.atV i h3⟩
theorem si_iter {te : TE} {fe : FE} (he : SE G E te fe) : SI G E (uIter G.K te) (fIter fe) := by
  intro F ι ω ρ S σ H R rel h
  refine he F ι ω ρ S σ H _ rel ?_
  unfold fIter at h
  cases e : fe ρ S with
  | ok d f S1 =>
    rw [e] at h
    intro ι1 v H1 e1 r1 rf
    dsimp only at h
    split at h
    · rename_i hf
      split at h
      · rename_i ds g ei
        obtain ⟨k, q⟩ := sq_of r1.sto (rf.rv (by intro z; subst z; cases hf)) ei
        exact q.now _ (h ι1 _ H1 e1 r1 q.wk)
      · exact h.elim
    · exact h.elim
  | xc c fs S1 => rw [e] at h; exact h
  | bad => rw [e] at h; exact h
/-! ranges -/
def rngD (lo : Int) (n : Nat) : List D := (List.range n).map fun i => .int (lo + (i : Nat))
theorem wk_rng {K : PySem.W.Frag} {ca : Nat → Addr} {B1 : List Addr} (lo : Int) (n : Nat) : Wk K ca ι1 B1 H1 (Itr lo n) (rngD lo n) none := by
  have hl : (rngD lo n).length = n := by unfold rngD; rw [List.length_map, List.length_range]
  refine ⟨fun ι2 B2 H2 S2 i p rs hb g hi => ?_, fun ι2 B2 H2 S2 p rs hb g => ?_, fun ι2 B2 H2 S2 i x H' p rs hb g hi y => ?_⟩
  · rw [hl] at hi; exact hi
  · rw [hl]; exact Nat.le_refl n
  · rw [hl] at hi
    obtain ⟨rfl, rfl⟩ := (show H' = H2 ∧ x = .int (lo + (i : Nat)) from y)
    refine ⟨fun _ _ z => z, .int (lo + (i : Nat)), ?_, .int _⟩
    unfold rngD
    rw [List.getElem?_map, List.getElem?_range hi]; rfl
def fRng1 (fa : FA) : FI := fun ρ S => match fa ρ S with
  | .ok [.int j] _ S1 => if -(2 ^ 62) ≤ j ∧ j < 2 ^ 62 then .ok (rngD 0 j.toNat) none S1 else .bad
  | .xc c fs S1 => .xc c fs S1
  | _ => .bad
def fRng2 (fa : FA) : FI := fun ρ S => match fa ρ S with
  | .ok [.int i, .int j] _ S1 => if -(2 ^ 62) ≤ i ∧ i < 2 ^ 62 ∧ -(2 ^ 62) ≤ j ∧ j < 2 ^ 62 then .ok (rngD i (j - i).toNat) none S1 else .bad
  | .xc c fs S1 => .xc c fs S1
  | _ => .bad
theorem si_rng1 {ta : TA} {fa : FA} (ha : SA G E ta fa) : SI G E (iRng1 ta) (fRng1 fa) := by
  intro F ι ω ρ S σ H R rel h
  refine ha F ι ω ρ S σ H _ rel ?_
  unfold fRng1 at h
  split at h
  · rename_i j t S1 e
    rw [e]
    intro ι1 vs H1 e1 r1 ra
    obtain ⟨v, rfl, q⟩ := pair1 ra.pair
    rw [q.sInt]
    split at h
    · rename_i hc
      exact ⟨j, rfl, hc.1, hc.2, h ι1 _ H1 e1 r1 (wk_rng 0 _)⟩
    · exact h.elim
  · rename_i e; rw [e]; exact h
  · exact h.elim
theorem si_rng2 {ta : TA} {fa : FA} (ha : SA G E ta fa) : SI G E (iRng2 ta) (fRng2 fa) := by
  intro F ι ω ρ S σ H R rel h
  refine ha F ι ω ρ S σ H _ rel ?_
  unfold fRng2 at h
  split at h
  · rename_i i j t S1 e
    rw [e]
    intro ι1 vs H1 e1 r1 ra
    obtain ⟨v, w, rfl, q1, q2⟩ := pair2 ra.pair
    rw [q1.sInt, q2.sInt]
    split at h
    · rename_i hc
      exact ⟨i, j, rfl, hc, h ι1 _ H1 e1 r1 (wk_rng i _)⟩
    · exact h.elim
  · rename_i e; rw [e]; exact h
  · exact h.elim
/-! enumerate, zip -/
def enumD (ds : List D) : List D := ds.mapIdx fun i d => .tup [.int (i : Nat), d]
def fEnum (fa : FA) : FI := fun ρ S => match fa ρ S with
  | .ok [d] true S1 => (match d with
    | .str z => .ok (enumD (charsD z)) none S1
    | d => (match itemsD S1 d with
      | some (ds, g) => .ok (enumD ds) g S1
      | none => .bad))
  | .xc c fs S1 => .xc c fs S1
  | _ => .bad
theorem new_pair {K : PySem.W.Frag} {ca : Nat → Addr} {ι B : List Addr} {T : Addr} {xs : List V} {ds : List D} {S : Sto} (rs : RS K ca ι B H S) (hb : ∀ a ∈ B, H a ≠ none) (hT : H T = none) (ra : RAll K ca ι B H xs ds) : RV K ca ι B (upd H T (.tup xs)) (.ref T) (.tup ds) :=
  .tup (fun z => rs.here T z hT) (fun z => hb T z hT) upd_same (ra.per (Per.new hT))
theorem wk_enum {K : PySem.W.Frag} {ca : Nat → Addr} {B1 : List Addr} {k : Kd} {ds : List D} {g : Gd} (later : ∀ ι2 B2 H2 S2, Per ι1 B1 H1 ι2 B2 H2 → RS K ca ι2 B2 H2 S2 → gOk g S2 → ∃ xs, k.sq K H2 xs ∧ RAll K ca ι2 B2 H2 xs ds) : Wk K ca ι1 B1 H1 (JEnum (JKd K k)) (enumD ds) g := by
  have hl : (enumD ds).length = ds.length := by unfold enumD; simp
  refine ⟨fun ι2 B2 H2 S2 i p rs hb g hi => ?_, fun ι2 B2 H2 S2 p rs hb g => ?_, fun ι2 B2 H2 S2 i x H' p rs hb g hi y => ?_⟩
  · obtain ⟨xs, h1, h2⟩ := later ι2 B2 H2 S2 p rs g
    exact walk_enumK.goes i H2 (by rw [h2.len]; omega) h1
  · obtain ⟨xs, h1, h2⟩ := later ι2 B2 H2 S2 p rs g
    rw [hl, ← h2.len]; exact walk_enumK.stops H2 h1
  · obtain ⟨xs, h1, h2⟩ := later ι2 B2 H2 S2 p rs g
    obtain ⟨T, a, b, rfl, hT, rfl, e1, e2⟩ := walk_enumK.yields i H2 x H' (by rw [h2.len]; omega) h1 y
    cases e1
    obtain ⟨d, e3, rd⟩ := h2.atV i e2
    refine ⟨fun c o z => by rw [upd_ne (ne_of_none z hT)]; exact z, .tup [.int (i : Nat), d], ?_, new_pair rs hb hT (.cons (.int _) (.cons rd .nil))⟩
    unfold enumD
    rw [List.getElem?_mapIdx, e3]; rfl
theorem si_enum {ta : TA} {fa : FA} (ha : SA G E ta fa) : SI G E (uEnum G.K ta) (fEnum fa) := by
  intro F ι ω ρ S σ H R rel h
  refine ha F ι ω ρ S σ H _ rel ?_
  unfold fEnum at h
  split at h
  · rename_i d S1 e
    rw [e]
    intro ι1 vs H1 e1 r1 ra
    have ra : RAll G.K G.ca ι1 (F.B0 ++ ω) H1 vs [d] := ra
    cases ra with
    | cons rv r2 =>
      cases r2
      split at h
      · cases rv
        exact h ι1 _ H1 e1 r1 (wk_enum fun ι2 B2 H2 S2 p rs g => ⟨_, rfl, rall_chars _⟩)
      · rename_i hn
        split at h
        · rename_i ds g ei
          obtain ⟨k, q⟩ := sq_of r1.sto rv ei
          have hv : ∃ a, ‹V› = .ref a := by
            cases rv <;> first | exact ⟨_, rfl⟩ | (exact absurd rfl (hn _)) | (cases ei; done)
          obtain ⟨a, rfl⟩ := hv
          exact oK_of (q.kd a rfl) (h ι1 _ H1 e1 r1 (wk_enum q.later))
        · exact h.elim
  · rename_i e; rw [e]; exact h
  · exact h.elim
def fZip (fa : FA) : FI := fun ρ S => match fa ρ S with
  | .ok [.lst xs, .lst ys] true S1 => .ok (zipD xs ys) none S1
  | .ok [.lst xs, .tup ys] true S1 => .ok (zipD xs ys) none S1
  | .ok [.tup xs, .lst ys] true S1 => .ok (zipD xs ys) none S1
  | .ok [.tup xs, .tup ys] true S1 => .ok (zipD xs ys) none S1
  | .xc c fs S1 => .xc c fs S1
  | _ => .bad
theorem wk_zip {K : PySem.W.Frag} {ca : Nat → Addr} {B1 : List Addr} {k1 k2 : Kd} {xs ys : List D} (l1 : ∀ ι2 B2 H2 S2, Per ι1 B1 H1 ι2 B2 H2 → RS K ca ι2 B2 H2 S2 → gOk none S2 → ∃ us, k1.sq K H2 us ∧ RAll K ca ι2 B2 H2 us xs)
    (l2 : ∀ ι2 B2 H2 S2, Per ι1 B1 H1 ι2 B2 H2 → RS K ca ι2 B2 H2 S2 → gOk none S2 → ∃ us, k2.sq K H2 us ∧ RAll K ca ι2 B2 H2 us ys) : Wk K ca ι1 B1 H1 (JZip K k1 k2) (zipD xs ys) none := by
  refine ⟨fun ι2 B2 H2 S2 i p rs hb g hi => ?_, fun ι2 B2 H2 S2 p rs hb g => ?_, fun ι2 B2 H2 S2 i x H' p rs hb g hi y => ?_⟩
  · obtain ⟨us, h1, h2⟩ := l1 ι2 B2 H2 S2 p rs g
    obtain ⟨ws, h3, h4⟩ := l2 ι2 B2 H2 S2 p rs g
    rw [zipD_len, ← h2.len, ← h4.len] at hi
    exact (walk_zipK rfl).goes i H2 hi ⟨h1, h3⟩
  · obtain ⟨us, h1, h2⟩ := l1 ι2 B2 H2 S2 p rs g
    obtain ⟨ws, h3, h4⟩ := l2 ι2 B2 H2 S2 p rs g
    rw [zipD_len, ← h2.len, ← h4.len]
    exact (walk_zipK rfl).stops H2 ⟨h1, h3⟩
  · obtain ⟨us, h1, h2⟩ := l1 ι2 B2 H2 S2 p rs g
    obtain ⟨ws, h3, h4⟩ := l2 ι2 B2 H2 S2 p rs g
    rw [zipD_len, ← h2.len, ← h4.len] at hi
    obtain ⟨T, a, b, rfl, hT, rfl, e1, e2⟩ := (walk_zipK rfl).yields i H2 x H' hi ⟨h1, h3⟩ y
    obtain ⟨d1, e3, rd1⟩ := h2.atV i e1
    obtain ⟨d2, e4, rd2⟩ := h4.atV i e2
    exact ⟨fun c o z => by rw [upd_ne (ne_of_none z hT)]; exact z, .tup [d1, d2], zipD_at xs ys i d1 d2 e3 e4, new_pair rs hb hT (.cons rd1 (.cons rd2 .nil))⟩
theorem si_zip {ta : TA} {fa : FA} (ha : SA G E ta fa) : SI G E (uZip G.K ta) (fZip fa) := by
  intro F ι ω ρ S σ H R rel h
  have key : ∀ (d1 d2 : D) (xs ys : List D) (S1 : Sto), itemsD S1 d1 = some (xs, none) → itemsD S1 d2 = some (ys, none) → (∀ z, d1 ≠ .str z) → (∀ z, d2 ≠ .str z) → fa ρ S = .ok [d1, d2] true S1 → PostI G E F ι ω ρ σ H R (.ok (zipD xs ys) none S1) → uZip G.K ta σ H R := fun d1 d2 xs ys S1 i1 i2 n1 n2 e h => by
    refine ha F ι ω ρ S σ H _ rel ?_
    rw [e]
    intro ι1 vs H1 e1 r1 ra
    have ra : RAll G.K G.ca ι1 (F.B0 ++ ω) H1 vs [d1, d2] := ra
    cases ra with
    | cons rv1 r2 =>
      cases r2 with
      | cons rv2 r3 =>
        cases r3
        obtain ⟨k1, q1⟩ := sq_of r1.sto rv1 i1
        obtain ⟨k2, q2⟩ := sq_of r1.sto rv2 i2
        have hv : ∀ {v d ys}, RV G.K G.ca ι1 (F.B0 ++ ω) H1 v d → itemsD S1 d = some ys → (∀ z, d ≠ .str z) → ∃ a, v = .ref a := fun rv ei hn => by
          cases rv <;> first | exact ⟨_, rfl⟩ | (exact absurd rfl (hn _)) | (cases ei; done)
        obtain ⟨a, rfl⟩ := hv rv1 i1 n1
        obtain ⟨b, rfl⟩ := hv rv2 i2 n2
        exact oK_of (q1.kd a rfl) (oK_of (q2.kd b rfl) (h ι1 _ H1 e1 r1 (wk_zip q1.later q2.later)))
  unfold fZip at h
  split at h
  · exact key (.lst _) (.lst _) _ _ _ rfl rfl (fun z q => by cases q) (fun z q => by cases q) (by assumption) h
  · exact key (.lst _) (.tup _) _ _ _ rfl rfl (fun z q => by cases q) (fun z q => by cases q) (by assumption) h
  · exact key (.tup _) (.lst _) _ _ _ rfl rfl (fun z q => by cases q) (fun z q => by cases q) (by assumption) h
  · exact key (.tup _) (.tup _) _ _ _ rfl rfl (fun z q => by cases q) (fun z q => by cases q) (by assumption) h
  · rename_i e
    refine ha F ι ω ρ S σ H _ rel ?_
    rw [e]; exact h
  · exact h.elim
/-! ### for -/
open Classical in
def loopS (g : Gd) (set : FG) (body : FS) : List D → Ev → Sto → RSt
  | [], ρ, S => if gOk g S then .nx ρ S else .bad
  | d :: ds, ρ, S => if gOk g S then (match set d ρ S with
    | some ρ1 => (match body ρ1 S with
      | .nx ρ2 S2 => loopS g set body ds ρ2 S2
      | .ct ρ2 S2 => loopS g set body ds ρ2 S2
      | .bk ρ2 S2 => .nx ρ2 S2
      | r => r)
    | none => .bad) else .bad
def sFor (it : FI) (set : FG) (body : FS) : FS := fun ρ S => match it ρ S with
  | .ok ds g S1 => loopS g set body ds ρ S1
  | .xc c fs S1 => .xc c fs ρ S1
  | .bad => .bad
theorem ss_for {wi : TI} {fi : FI} {tg : TG} {fg : FG} {js : List Nat} {tb : TS} {fb : FS} (hi : SI G E wi fi) (hg : SG G tg js fg) (hb : SS G E tb fb) : SS G E (tFor wi tg tb) (sFor fi fg fb) := by
  intro F D ι ω ρ S σ H rel h
  refine hi F ι ω ρ S σ H _ rel ?_
  unfold sFor at h
  cases e : fi ρ S with
  | xc c fs S1 =>
    rw [e] at h
    exact fun ι' dd fv H' x rel' n1 n2 h1 h2 => h ι' ω σ dd fv H' x.s rel' n1 n2 h1 h2
  | bad => rw [e] at h; exact h
  | ok ds g S1 =>
    rw [e] at h
    intro ι1 J H1 e1 r1 wk
    refine ⟨fun i m σ' H' => m = ds.length - i ∧ i ≤ ds.length ∧ ∃ ι' ω' ρ' S', Rel G F ι' ω' ρ' S' σ' H' ∧ ExtS ι1 ω H1 ι' ω' H' ∧ PostS G E F D ι' ω' H' (loopS g fg fb (ds.drop i) ρ' S'),
      ⟨ds.length, by simp, Nat.zero_le _, ι1, ω, ρ, S1, r1, ExtS.refl, by rw [List.drop_zero]; exact PostS.ex h e1.s⟩, ?_⟩
    rintro i m σ' H' ⟨rfl, hle, ι', ω', ρ', S', r', x', p'⟩
    have pp := x'.per (B := F.B0)
    rcases Nat.lt_or_ge i ds.length with hlt | hge
    · rw [List.drop_eq_getElem_cons hlt] at p'
      unfold loopS at p'
      split at p'
      · rename_i gk
        refine .inr ⟨wk.go _ _ _ _ i pp r'.sto r'.bd gk hlt, fun σ2 H2 => ∃ ι2 ω2 ρ2 S2, Rel G F ι2 ω2 ρ2 S2 σ2 H2 ∧ ExtS ι1 ω H1 ι2 ω2 H2 ∧ PostS G E F D ι2 ω2 H2 (loopS g fg fb (ds.drop (i + 1)) ρ2 S2), fun σ2 H2 q => ⟨ds.length - (i + 1), by omega, rfl, hlt, q⟩, fun x H'' y => ?_⟩
        obtain ⟨gr, d, ed, rv⟩ := wk.yld _ _ _ _ i x H'' pp r'.sto r'.bd gk hlt y
        rw [List.getElem?_eq_getElem hlt] at ed
        cases ed
        have r2 := r'.gr gr
        have x2 : ExtS ι' ω' H' ι' ω' H'' := (Ext.gr gr).s
        refine hg F ι' ω' ρ' S' σ' H'' x _ _ r2 rv ?_
        split at p'
        · rename_i ρ1 eg
          try rw [eg]
          intro σ1 rel1 _
          refine hb F _ ι' ω' ρ1 S' σ1 H'' rel1 ?_
          have p2 := PostS.ex p' x2
          cases eb : fb ρ1 S' with
          | nx ρ2 S2 =>
            rw [eb] at p2
            exact fun ι2 ω2 σ2 H2 z rel2 => ⟨ι2, ω2, ρ2, S2, rel2, (x'.trans x2).trans z, PostS.ex p2 z⟩
          | ct ρ2 S2 =>
            rw [eb] at p2
            exact fun ι2 ω2 σ2 H2 z rel2 => ⟨ι2, ω2, ρ2, S2, rel2, (x'.trans x2).trans z, PostS.ex p2 z⟩
          | bk ρ2 S2 => rw [eb] at p2; exact p2
          | rt d fl S2 => rw [eb] at p2; exact p2
          | xc c fs ρ2 S2 => rw [eb] at p2; exact p2
          | bad => rw [eb] at p2; exact p2
        · exact p'.elim
      · exact p'.elim
    · obtain rfl : i = ds.length := by omega
      rw [List.drop_length] at p'
      unfold loopS at p'
      split at p'
      · rename_i gk
        exact .inl ⟨wk.stop _ _ _ _ pp r'.sto r'.bd gk, p' ι' ω' σ' H' ExtS.refl r'⟩
      · exact p'.elim
/-! ### while -/
def whileN (c : FE) (b : FS) : Nat → Ev → Sto → RSt
  | 0, _, _ => .bad
  | n + 1, ρ, S => eS (c ρ S) ρ fun d _ S1 => (match d with
    | .bl true => (match b ρ S1 with
      | .nx ρ2 S2 => whileN c b n ρ2 S2
      | .ct ρ2 S2 => whileN c b n ρ2 S2
      | .bk ρ2 S2 => .nx ρ2 S2
      | r => r)
    | .bl false => .nx ρ S1
    | _ => .bad)
open Classical in
def sWhile (c : FE) (b : FS) : FS := fun ρ S => if h : ∃ n, whileN c b n ρ S ≠ .bad then whileN c b (Classical.choose h) ρ S else .bad
theorem while_up {c : FE} {b : FS} : ∀ {n m : Nat} {ρ : Ev} {S : Sto}, n ≤ m → whileN c b n ρ S ≠ .bad → whileN c b m ρ S = whileN c b n ρ S
  | 0, _, _, _, _, h => absurd rfl h
  | n + 1, 0, _, _, hl, _ => by omega
  | n + 1, m + 1, ρ, S, hl, h => by
    unfold whileN at h ⊢
    cases ec : c ρ S with
    | ok d f S1 =>
      rw [ec] at h
      dsimp only [eS] at h ⊢
      cases d with
      | bl k =>
        cases k with
        | true =>
          dsimp only at h ⊢
          cases eb : b ρ S1 with
          | nx ρ2 S2 => rw [eb] at h; exact while_up (by omega) h
          | ct ρ2 S2 => rw [eb] at h; exact while_up (by omega) h
          | _ => rfl
        | false => rfl
      | _ => rfl
    | _ => rfl
theorem while_eq {c : FE} {b : FS} {ρ : Ev} {S : Sto} {r : RSt} (n : Nat) (h : whileN c b n ρ S = r) (hr : r ≠ .bad) : sWhile c b ρ S = r := by
  have hx : ∃ n, whileN c b n ρ S ≠ .bad := ⟨n, by rw [h]; exact hr⟩
  unfold sWhile
  rw [dif_pos hx]
  have h2 := Classical.choose_spec hx
  rcases Nat.le_total n (Classical.choose hx) with z | z
  · rw [while_up z (by rw [h]; exact hr), h]
  · rw [← h, while_up z h2]
theorem ss_while {tc : TT} {fc : FE} {tb : TS} {fb : FS} (hc : ST G E tc fc) (hb : SS G E tb fb) : SS G E (tWhile tc tb) (sWhile fc fb) := by
  intro F D ι ω ρ S σ H rel h
  unfold sWhile at h
  split at h
  · rename_i hx
    generalize Classical.choose hx = n at h
    refine ⟨fun m σ' H' => ∃ ι' ω' ρ' S', Rel G F ι' ω' ρ' S' σ' H' ∧ PostS G E F D ι' ω' H' (whileN fc fb m ρ' S'), ⟨n, ι, ω, ρ, S, rel, h⟩, ?_⟩
    rintro m σ' H' ⟨ι', ω', ρ', S', r', p'⟩
    cases m with
    | zero => exact p'.elim
    | succ m =>
      unfold whileN at p'
      refine hc.bindS r' p' (fun d f S1 hd => by cases d <;> first | rfl | exact absurd rfl (hd _)) fun k f S1 ι1 H1 e1 r1 p1 => ?_
      cases k with
      | true =>
        rw [if_pos rfl]
        refine ⟨fun σ2 H2 => ∃ ι2 ω2 ρ2 S2, Rel G F ι2 ω2 ρ2 S2 σ2 H2 ∧ PostS G E F D ι2 ω2 H2 (whileN fc fb m ρ2 S2), fun σ2 H2 q => ⟨m, by omega, q⟩, ?_⟩
        refine hb F _ ι1 ω' ρ' S1 σ' H1 r1 ?_
        dsimp only at p1
        cases eb : fb ρ' S1 with
        | nx ρ2 S2 =>
          rw [eb] at p1
          exact fun ι2 ω2 σ2 H2 z rel2 => ⟨ι2, ω2, ρ2, S2, rel2, PostS.ex p1 z⟩
        | ct ρ2 S2 =>
          rw [eb] at p1
          exact fun ι2 ω2 σ2 H2 z rel2 => ⟨ι2, ω2, ρ2, S2, rel2, PostS.ex p1 z⟩
        | bk ρ2 S2 => rw [eb] at p1; exact p1
        | rt d fl S2 => rw [eb] at p1; exact p1
        | xc c fs ρ2 S2 => rw [eb] at p1; exact p1
        | bad => rw [eb] at p1; exact p1
      | false =>
        rw [if_neg Bool.false_ne_true]
        exact p1 ι1 ω' σ' H1 ExtS.refl r1
  · exact h.elim
end
end
end Fx

namespace Fx
open PySem PySem.Spec PyProof.Rows L2 U
noncomputable section
/-! ### enumerate(zip(..)) -/
def fEnumZ (fa : FA) : FI := fun ρ S => match fa ρ S with
  | .ok [.lst xs, .lst ys] true S1 => .ok (enumD (zipD xs ys)) none S1
  | .ok [.lst xs, .tup ys] true S1 => .ok (enumD (zipD xs ys)) none S1
  | .ok [.tup xs, .lst ys] true S1 => .ok (enumD (zipD xs ys)) none S1
  | .ok [.tup xs, .tup ys] true S1 => .ok (enumD (zipD xs ys)) none S1
  | .xc c fs S1 => .xc c fs S1
  | _ => .bad
section
variable {G : Gm} {E : WX} {F : Fr} {Dd : Ends} {ι ω ι1 ω1 : List Addr} {ρ : Ev} {S S1 : Sto} {σ : L2.St} {H H1 : Hp}
theorem wk_enumZ {K : PySem.W.Frag} {ca : Nat → Addr} {B1 : List Addr} {k1 k2 : Kd} {xs ys : List D} (l1 : ∀ ι2 B2 H2 S2, Per ι1 B1 H1 ι2 B2 H2 → RS K ca ι2 B2 H2 S2 → gOk none S2 → ∃ us, k1.sq K H2 us ∧ RAll K ca ι2 B2 H2 us xs)
    (l2 : ∀ ι2 B2 H2 S2, Per ι1 B1 H1 ι2 B2 H2 → RS K ca ι2 B2 H2 S2 → gOk none S2 → ∃ us, k2.sq K H2 us ∧ RAll K ca ι2 B2 H2 us ys) : Wk K ca ι1 B1 H1 (JEnum (JZip K k1 k2)) (enumD (zipD xs ys)) none := by
  have hl : (enumD (zipD xs ys)).length = min xs.length ys.length := by unfold enumD; simp [zipD_len]
  refine ⟨fun ι2 B2 H2 S2 i p rs hb g hi => ?_, fun ι2 B2 H2 S2 p rs hb g => ?_, fun ι2 B2 H2 S2 i x H' p rs hb g hi y => ?_⟩
  · obtain ⟨us, h1, h2⟩ := l1 ι2 B2 H2 S2 p rs g
    obtain ⟨ws, h3, h4⟩ := l2 ι2 B2 H2 S2 p rs g
    rw [hl, ← h2.len, ← h4.len] at hi
    exact (walk_enumZ rfl).goes i H2 hi ⟨h1, h3⟩
  · obtain ⟨us, h1, h2⟩ := l1 ι2 B2 H2 S2 p rs g
    obtain ⟨ws, h3, h4⟩ := l2 ι2 B2 H2 S2 p rs g
    rw [hl, ← h2.len, ← h4.len]
    exact (walk_enumZ rfl).stops H2 ⟨h1, h3⟩
  · obtain ⟨us, h1, h2⟩ := l1 ι2 B2 H2 S2 p rs g
    obtain ⟨ws, h3, h4⟩ := l2 ι2 B2 H2 S2 p rs g
    rw [hl, ← h2.len, ← h4.len] at hi
    obtain ⟨T, T2, a, b, rfl, hT, hT2, hne, rfl, e1, e2⟩ := (walk_enumZ rfl).yields i H2 x H' hi ⟨h1, h3⟩ y
    obtain ⟨d1, e3, rd1⟩ := h2.atV i e1
    obtain ⟨d2, e4, rd2⟩ := h4.atV i e2
    have hT2' : upd H2 T (.tup [a, b]) T2 = none := by rw [upd_ne hne]; exact hT2
    have rp := new_pair rs hb hT (.cons rd1 (.cons rd2 .nil))
    have rs' : RS K ca ι2 B2 (upd H2 T (.tup [a, b])) S2 := rs.gr fun c o z => by rw [upd_ne (ne_of_none z hT)]; exact z
    refine ⟨fun c o z => ?_, .tup [.int (i : Nat), .tup [d1, d2]], ?_, new_pair rs' (fun c hc => ?_) hT2' (.cons (.int _) (.cons rp .nil))⟩
    · rw [upd_ne (ne_of_none z hT2), upd_ne (ne_of_none z hT)]; exact z
    · unfold enumD
      rw [List.getElem?_mapIdx, zipD_at xs ys i d1 d2 e3 e4]; rfl
    · unfold L2.upd; split
      · simp
      · exact hb c hc
theorem si_enumZ {ta : TA} {fa : FA} (ha : SA G E ta fa) : SI G E (uEnumZ G.K ta) (fEnumZ fa) := by
  intro F ι ω ρ S σ H R rel h
  have key : ∀ (d1 d2 : D) (xs ys : List D) (S1 : Sto), itemsD S1 d1 = some (xs, none) → itemsD S1 d2 = some (ys, none) → (∀ z, d1 ≠ .str z) → (∀ z, d2 ≠ .str z) → fa ρ S = .ok [d1, d2] true S1 → PostI G E F ι ω ρ σ H R (.ok (enumD (zipD xs ys)) none S1) → uEnumZ G.K ta σ H R := fun d1 d2 xs ys S1 i1 i2 n1 n2 e h => by
    refine ha F ι ω ρ S σ H _ rel ?_
    rw [e]
    intro ι1 vs H1 e1 r1 ra
    have ra : RAll G.K G.ca ι1 (F.B0 ++ ω) H1 vs [d1, d2] := ra
    cases ra with
    | cons rv1 r2 =>
      cases r2 with
      | cons rv2 r3 =>
        cases r3
        obtain ⟨k1, q1⟩ := sq_of r1.sto rv1 i1
        obtain ⟨k2, q2⟩ := sq_of r1.sto rv2 i2
        have hv : ∀ {v d ys}, RV G.K G.ca ι1 (F.B0 ++ ω) H1 v d → itemsD S1 d = some ys → (∀ z, d ≠ .str z) → ∃ a, v = .ref a := fun rv ei hn => by
          cases rv <;> first | exact ⟨_, rfl⟩ | (exact absurd rfl (hn _)) | (cases ei; done)
        obtain ⟨a, rfl⟩ := hv rv1 i1 n1
        obtain ⟨b, rfl⟩ := hv rv2 i2 n2
        exact oK_of (q1.kd a rfl) (oK_of (q2.kd b rfl) (h ι1 _ H1 e1 r1 (wk_enumZ q1.later q2.later)))
  unfold fEnumZ at h
  split at h
  · exact key (.lst _) (.lst _) _ _ _ rfl rfl (fun z q => by cases q) (fun z q => by cases q) (by assumption) h
  · exact key (.lst _) (.tup _) _ _ _ rfl rfl (fun z q => by cases q) (fun z q => by cases q) (by assumption) h
  · exact key (.tup _) (.lst _) _ _ _ rfl rfl (fun z q => by cases q) (fun z q => by cases q) (by assumption) h
  · exact key (.tup _) (.tup _) _ _ _ rfl rfl (fun z q => by cases q) (fun z q => by cases q) (by assumption) h
  · rename_i e
    refine ha F ι ω ρ S σ H _ rel ?_
    rw [e]; exact h
  · exact h.elim
/-! ### comprehensions -/
def wipeE (ρ : Ev) : List Nat → Ev
  | [] => ρ
  | v :: vs => (wipeE ρ vs).set v .no
theorem Rel.wipe (r : Rel G F ι ω ρ S σ H) : ∀ vs : List Nat, Rel G F ι ω (wipeE ρ vs) S (L2.wipe σ vs) H
  | [] => r
  | v :: vs => (r.wipe vs).drop v none
theorem wipe_idem (σ : L2.St) : ∀ vs : List Nat, L2.wipe (L2.wipe σ vs) vs = L2.wipe σ vs := by
  intro vs
  have key : ∀ us : List Nat, (∀ u ∈ us, u ∈ vs) → L2.wipe (L2.wipe σ us) vs = L2.wipe σ vs := by
    intro us
    induction us with
    | nil => intro _; rfl
    | cons u us ih =>
      intro h
      show L2.wipe ((L2.wipe σ us).set u none) vs = _
      rw [wipe_set (h u List.mem_cons_self), ih fun w hw => h w (List.mem_cons_of_mem _ hw)]
  exact key vs fun _ h => h
/-- one turn of a comprehension: what is held, what is in the store -/
abbrev StepC := D → List D → Sto → Option (List D × Sto)
open Classical in
def foldC (g : Gd) (step : StepC) : List D → List D → Sto → Option (List D × Sto)
  | [], acc, S => if gOk g S then some (acc, S) else none
  | d :: ds, acc, S => if gOk g S then (match step d acc S with
    | some (acc', S') => foldC g step ds acc' S'
    | none => none) else none
def step1 (set : FG) (tt te : FE) (ρ0 : Ev) : StepC := fun d acc S => match set d ρ0 S with
  | some ρ1 => (match tt ρ1 S with
    | .ok (.bl true) _ S1 => (match te ρ1 S1 with
      | .ok y f S2 => if (f.nop && decide (acc.length < lim)) = true then some (acc ++ [y], S2) else none
      | _ => none)
    | .ok (.bl false) _ S1 => some (acc, S1)
    | _ => none)
  | none => none
def step2 (set : FG) (tt : FE) (it1 : FI) (set1 : FG) (tt1 te : FE) (vs1 : List Nat) (ρ0 : Ev) : StepC := fun d acc S => match set d ρ0 S with
  | some ρ1 => (match tt ρ1 S with
    | .ok (.bl true) _ S1 => (match it1 ρ1 S1 with
      | .ok ds1 g1 S2 => foldC g1 (step1 set1 tt1 te (wipeE ρ1 vs1)) ds1 acc S2
      | _ => none)
    | .ok (.bl false) _ S1 => some (acc, S1)
    | _ => none)
  | none => none
def fLcG (it : FI) (step : Ev → StepC) (vs : List Nat) : FE := fun ρ S => match it ρ S with
  | .ok ds g S1 => (match foldC g (step (wipeE ρ vs)) ds [] S1 with
    | some (acc, S2) => .ok (.lst acc) .fs S2
    | none => .bad)
  | .xc c fs S1 => .xc c fs S1
  | .bad => .bad
def fLc (it : FI) (set : FG) (tt te : FE) (vs : List Nat) : FE := fLcG it (step1 set tt te) vs
def fLc2 (it : FI) (set : FG) (tt : FE) (it1 : FI) (set1 : FG) (tt1 te : FE) (vs vs1 : List Nat) : FE := fLcG it (step2 set tt it1 set1 tt1 te vs1) vs
/-- what holds at a turn: the new list at Dn, behind what stood at (ι1, H1) -/
structure Ci (G : Gm) (F : Fr) (ω : List Addr) (Dn : Addr) (ι1 : List Addr) (H1 : Hp) (ρ0 : Ev) (σ0 : L2.St) (ι' : List Addr) (acc : List D) (S : Sto) (H : Hp) : Prop where
  rel : Rel G F ι' (Dn :: ω) ρ0 S σ0 H
  ext : Ext ι1 H1 ι' H
  at' : ∃ xs, H Dn = some (.lst xs) ∧ RAll G.K G.ca ι' (F.B0 ++ (Dn :: ω)) H xs acc
  fre : ∀ (i : Nat) (s : Sl), ρ0[i]? = some s → isOwn s = true → σ0[i]? ≠ some (some (.ref Dn))
theorem Rel.mutD (r : Rel G F ι ω ρ S σ H) {a : Addr} {o : HO} (ha : a ∈ ω) (hn : ∀ (i : Nat) (s : Sl), ρ[i]? = some s → isOwn s = true → σ[i]? ≠ some (some (.ref a))) : Rel G F ι ω ρ S σ (upd H a o) := by
  have pp : Per ι (F.B0 ++ ω) H ι (F.B0 ++ ω) (L2.upd H a o) := Per.upd (.inr (List.mem_append_right _ ha))
  refine ⟨r.pre, fun b u h n => ?_, fun b h => ?_, r.fri, r.frw, r.b0, r.nd, r.dj, fun b hb => ?_, r.sto.per (fun b hb => upd_ne fun z => r.dj a ha (by rw [← z]; exact hb)) pp, r.len, fun j t o' h1 h2 => ?_, r.own⟩
  · rw [upd_ne (fun z => by subst z; rw [r.frw _ ha] at h; cases h)]; exact r.old b u h n
  · unfold L2.upd; split
    · simp
    · exact r.dom b h
  · unfold L2.upd; split
    · simp
    · exact r.dw b hb
  · have q := r.env j t o' h1 h2
    have ne : isOwn t = true → ∀ b, o' = some (.ref b) → b ≠ a := fun ht b hb z => by
      subst z; subst hb
      exact hn j t h1 ht h2
    cases q with
    | no => exact .no
    | val h => exact .val (h.per pp)
    | own q1 q2 q3 => exact .own q1 (by rw [upd_ne (ne rfl _ rfl)]; exact q2) (q3.per pp)
    | oob q1 q0 q2 q3 => exact .oob q1 q0 (by rw [upd_ne (ne rfl _ rfl)]; exact q2) (q3.per pp)
    | exn q1 q2 q3 q4 q5 =>
      obtain ⟨g1, g2, g3⟩ := pp.at' _ _ q4 q2 q3
      exact .exn q1 g2 g3 g1 (q5.per pp)
/-- a walk with what is held -/
theorem fold_ok {K : PySem.W.Frag} {ca : Nat → Addr} {B1 : List Addr} {J : It} {ds : List D} {g : Gd} (wk : Wk K ca ι1 B1 H1 J ds g) {step : StepC} {accF : List D} {SF : Sto} {Qd : Hp → Prop} (Body : V → Hp → (Hp → Prop) → Prop)
    (Pv : List D → Sto → Hp → Prop) (hP : ∀ acc S H, Pv acc S H → ∃ ι2 B2, Per ι1 B1 H1 ι2 B2 H ∧ RS K ca ι2 B2 H S ∧ ∀ a ∈ B2, H a ≠ none)
    (hs : ∀ (i : Nat) d acc acc' S S' H x H', Pv acc S H → gOk g S → i < ds.length → ds[i]? = some d → J.yld i H x H' → step d acc S = some (acc', S') → ∀ Nx : Hp → Prop, (∀ H2, Pv acc' S' H2 → Nx H2) → Body x H' Nx)
    {acc0 : List D} {S0 : Sto} {H0 : Hp} (h0 : Pv acc0 S0 H0) (hf : foldC g step ds acc0 S0 = some (accF, SF)) (hd : ∀ H, Pv accF SF H → Qd H) :
    ∃ W : Nat → Nat → Hp → Prop, (∃ m, W 0 m H0) ∧ ∀ i m H, W i m H → (J.stop i H ∧ Qd H) ∨ (J.go i H ∧ ∃ Nx : Hp → Prop, (∀ H', Nx H' → ∃ m', m' < m ∧ W (i + 1) m' H') ∧ ∀ x H', J.yld i H x H' → Body x H' Nx) := by
  refine ⟨fun i m H => m = ds.length - i ∧ i ≤ ds.length ∧ ∃ acc S, Pv acc S H ∧ foldC g step (ds.drop i) acc S = some (accF, SF), ⟨ds.length, by simp, Nat.zero_le _, acc0, S0, h0, by rw [List.drop_zero]; exact hf⟩, ?_⟩
  rintro i m H ⟨rfl, hle, acc, S, pv, hf⟩
  obtain ⟨ι2, B2, pp, rs, hb⟩ := hP acc S H pv
  rcases Nat.lt_or_ge i ds.length with hlt | hge
  · rw [List.drop_eq_getElem_cons hlt] at hf
    unfold foldC at hf
    split at hf
    · rename_i gk
      split at hf
      · rename_i acc' S' es
        refine .inr ⟨wk.go _ _ _ _ i pp rs hb gk hlt, fun H' => ∃ acc S, Pv acc S H' ∧ foldC g step (ds.drop (i + 1)) acc S = some (accF, SF), fun H' q => ⟨ds.length - (i + 1), by omega, rfl, hlt, q⟩, fun x H' y => ?_⟩
        exact hs i _ acc acc' S S' H x H' pv gk hlt (List.getElem?_eq_getElem hlt) y es _ fun H2 p2 => ⟨acc', S', p2, hf⟩
      · cases hf
    · cases hf
  · obtain rfl : i = ds.length := by omega
    rw [List.drop_length] at hf
    unfold foldC at hf
    split at hf
    · rename_i gk
      cases hf
      exact .inl ⟨wk.stop _ _ _ _ pp rs hb gk, hd H pv⟩
    · cases hf
theorem Ci.lat {Dn : Addr} {ρ0 : Ev} {σ0 : L2.St} {ι' : List Addr} {acc : List D} {ι0 : List Addr} {H0 : Hp} (c : Ci G F ω Dn ι0 H0 ρ0 σ0 ι' acc S H) (hD : H0 Dn = none) : Per ι0 (F.B0 ++ ω) H0 ι' (F.B0 ++ (Dn :: ω)) H := by
  refine ⟨fun a o h1 h2 h3 => ?_, fun _ _ h => ix_pre c.ext.pre h⟩
  rw [List.mem_append, not_or] at h3
  refine ⟨c.ext.keep a o h1 h2, c.ext.off h1 h2, fun z => ?_⟩
  rcases List.mem_append.mp z with z | z
  · exact h3.1 z
  · rcases List.mem_cons.mp z with z | z
    · subst z; rw [hD] at h1; cases h1
    · exact h3.2 z
/-- the new list gets an item -/
theorem Ci.push {Dn : Addr} {ρ0 : Ev} {σ0 : L2.St} {ι' ι2 : List Addr} {acc : List D} {ι0 : List Addr} {H0 H2 : Hp} {S2 : Sto} {y : V} {d : D} (c : Ci G F ω Dn ι0 H0 ρ0 σ0 ι' acc S H) (hD : H0 Dn = none) (x : Ext ι' H ι2 H2) (nd : ι2.Nodup) (rs : RS G.K G.ca ι2 (F.B0 ++ (Dn :: ω)) H2 S2)
    (rv : RV G.K G.ca ι2 (F.B0 ++ (Dn :: ω)) H2 y d) {xs : List V} (hx : H2 Dn = some (.lst xs)) (ra : RAll G.K G.ca ι2 (F.B0 ++ (Dn :: ω)) H2 xs acc) : Ci G F ω Dn ι0 H0 ρ0 σ0 ι2 (acc ++ [d]) S2 (upd H2 Dn (.lst (xs ++ [y]))) := by
  have hm : Dn ∈ Dn :: ω := List.mem_cons_self
  have r2 := c.rel.ex x nd rs
  have e2 := c.ext.trans x
  refine ⟨r2.mutD hm c.fre, ⟨e2.pre, fun a o h n => ?_, e2.new, fun a h => ?_⟩, ⟨_, upd_same, (ra.app (.cons rv .nil)).per (Per.upd (.inr (List.mem_append_right _ hm)))⟩, c.fre⟩
  · rw [upd_ne (fun z => by subst z; rw [hD] at h; cases h)]; exact e2.keep a o h n
  · unfold L2.upd; split
    · simp
    · exact e2.dom a h
theorem Ci.same {Dn : Addr} {ρ0 : Ev} {σ0 : L2.St} {ι' ι2 : List Addr} {acc : List D} {ι0 : List Addr} {H0 H2 : Hp} {S2 : Sto} (c : Ci G F ω Dn ι0 H0 ρ0 σ0 ι' acc S H) (x : Ext ι' H ι2 H2) (nd : ι2.Nodup) (rs : RS G.K G.ca ι2 (F.B0 ++ (Dn :: ω)) H2 S2) : Ci G F ω Dn ι0 H0 ρ0 σ0 ι2 acc S2 H2 := by
  obtain ⟨xs, h1, h2⟩ := c.at'
  have hD : Dn ∉ ι' := c.rel.dj Dn List.mem_cons_self
  exact ⟨c.rel.ex x nd rs, c.ext.trans x, ⟨xs, x.keep _ _ h1 hD, h2.ex x⟩, c.fre⟩
abbrev NoE : WX := fun _ _ _ _ => False
/-- one turn of a comprehension with one clause -/
theorem step1_ok {tg : TG} {fg : FG} {js : List Nat} {tt : TT} {ft : FE} {te : TE} {fe : FE} {vs : List Nat} (hg : SG G tg js fg) (ht : ST G NoE tt ft) (he : SE G NoE te fe) (hj : ∀ j ∈ js, j ∈ vs) {Dn : Addr} {ρ0 : Ev} {σ0 : L2.St} {ι' : List Addr} {acc acc' : List D} {ι0 : List Addr} {H0 H' : Hp} {S S' : Sto} {x : V} {d : D}
    (c : Ci G F ω Dn ι0 H0 ρ0 σ0 ι' acc S H) (hD : H0 Dn = none) (gr : ∀ a o, H a = some o → H' a = some o) (rv : RV G.K G.ca ι' (F.B0 ++ (Dn :: ω)) H' x d) (es : step1 fg ft fe ρ0 d acc S = some (acc', S')) (hw : L2.wipe σ0 vs = σ0)
    {Nx : Hp → Prop} (hn : ∀ ι2 H2, Ci G F ω Dn ι0 H0 ρ0 σ0 ι2 acc' S' H2 → Nx H2) :
    tg x σ0 H' fun σ2 H2 => L2.wipe σ2 vs = σ0 ∧ tt σ2 H2 fun b H3 => if b = true then te σ2 H3 fun y H4 => ∃ acc, H4 Dn = some (.lst acc) ∧ acc.length < sizeLine ∧ Nx (upd H4 Dn (.lst (acc ++ [y]))) else Nx H3 := by
  have c1 := c.same (Ext.gr gr) c.rel.nd (c.rel.sto.gr gr)
  refine hg F ι' (Dn :: ω) ρ0 S σ0 H' x d _ c1.rel rv ?_
  unfold step1 at es
  split at es
  · rename_i ρ1 eg
    try rw [eg]
    intro σ1 rel1 w1
    refine ⟨(w1.wp vs hj).trans hw, ?_⟩
    refine ht F ι' (Dn :: ω) ρ1 S σ1 H' _ rel1 ?_
    split at es
    · rename_i f1 S1 e1
      rw [e1]
      intro ι3 v3 H3 x3 r3 rf3
      rw [rf3.rt.sBl]
      dsimp only [kB]
      rw [if_pos rfl]
      refine he F ι3 (Dn :: ω) ρ1 S1 σ1 H3 _ r3 ?_
      split at es
      · rename_i y f2 S2 e2
        rw [e2]
        intro ι4 v4 H4 x4 r4 rf4
        split at es
        · rename_i hc
          rw [Bool.and_eq_true] at hc
          cases es
          obtain ⟨xs, g1, g2⟩ := c1.at'
          have hDi : Dn ∉ ι' := c1.rel.dj Dn List.mem_cons_self
          have x34 := x3.trans x4
          have k1 : H4 Dn = some (.lst xs) := x34.keep _ _ g1 hDi
          refine ⟨xs, k1, by rw [g2.len]; exact lim_lt (of_decide_eq_true hc.2), hn ι4 _ (c1.push hD x34 r4.nd r4.sto (rf4.rv (by intro z; subst z; exact absurd hc.1 (by decide))) k1 (g2.ex x34))⟩
        · cases es
      · cases es
    · rename_i f1 S1 e1
      cases es
      rw [e1]
      intro ι3 v3 H3 x3 r3 rf3
      rw [rf3.rt.sBl]
      dsimp only [kB]
      rw [if_neg Bool.false_ne_true]
      exact hn ι3 H3 (c1.same x3 r3.nd r3.sto)
    · cases es
  · cases es
/-- the start: the new list -/
theorem Ci.start {Dn : Addr} {vs : List Nat} (r1 : Rel G F ι1 ω ρ S σ H1) (hD : H1 Dn = none) : Ci G F ω Dn ι1 H1 (wipeE ρ vs) (L2.wipe σ vs) ι1 [] S (upd H1 Dn (.lst [])) := by
  have rw' := r1.wipe vs
  have noa : ∀ (i : Nat) (s : Sl), (wipeE ρ vs)[i]? = some s → isOwn s = true → (L2.wipe σ vs)[i]? ≠ some (some (.ref Dn)) := fun i s h1 h2 h3 => by
    cases rw'.env i s _ h1 h3 with
    | no => cases h2
    | val => cases h2
    | own q1 q2 q3 => rw [hD] at q2; cases q2
    | oob q1 q0 q2 q3 => rw [hD] at q2; cases q2
    | exn => cases h2
  have pp : Per ι1 (F.B0 ++ ω) H1 ι1 (F.B0 ++ (Dn :: ω)) (L2.upd H1 Dn (.lst [])) := ⟨fun a o h1 h2 h3 => by
    rw [List.mem_append, not_or] at h3
    refine ⟨by rw [upd_ne (ne_of_none h1 hD)]; exact h1, h2, fun z => ?_⟩
    rcases List.mem_append.mp z with z | z
    · exact h3.1 z
    · rcases List.mem_cons.mp z with z | z
      · exact ne_of_none h1 hD z
      · exact h3.2 z, fun _ _ h => h⟩
  have r2 := rw'.new (o := .lst []) hD
  refine ⟨⟨r2.pre, r2.old, r2.dom, r2.fri, fun b hb => ?_, r2.b0, r2.nd, fun b hb => ?_, fun b hb => ?_, r1.sto.per (fun a ha => upd_ne fun z => r1.sto.here a ha (by rw [z]; exact hD)) pp, r2.len, fun j s o h1 h2 => ?_, r2.own⟩, Ext.new1 hD, ⟨[], upd_same, .nil⟩, noa⟩
  · rcases List.mem_cons.mp hb with z | z
    · subst z; exact none_of r1.dom hD
    · exact r2.frw b z
  · rcases List.mem_cons.mp hb with z | z
    · subst z; exact r1.offi hD
    · exact r2.dj b z
  · rcases List.mem_cons.mp hb with z | z
    · subst z; exact nn upd_same
    · exact r2.dw b z
  · have q := rw'.env j s o h1 h2
    cases q with
    | no => exact .no
    | val h => exact .val (h.per pp)
    | own q1 q2 q3 => exact .own (List.mem_cons_of_mem _ q1) (by rw [upd_ne (ne_of_none q2 hD)]; exact q2) (q3.per pp)
    | oob q1 q0 q2 q3 => exact .oob (List.mem_cons_of_mem _ q1) q0 (by rw [upd_ne (ne_of_none q2 hD)]; exact q2) (q3.per pp)
    | exn q1 q2 q3 q4 q5 =>
      obtain ⟨g1, g2, g3⟩ := pp.at' _ _ q4 q2 q3
      exact .exn q1 g2 g3 g1 (q5.per pp)
/-- the end: the list is handed on -/
theorem Ci.fin {Dn : Addr} {ρ0 : Ev} {σ0 : L2.St} {ι' : List Addr} {acc : List D} {Q : VK} {S2 : Sto} {Hs : Hp} {ιs : List Addr} (rel : Rel G F ιs ω ρ S σ Hs) (e1 : Ext ιs Hs ι1 H1) (hD : H1 Dn = none) (c : Ci G F ω Dn ι1 H1 ρ0 σ0 ι' acc S2 H) (h : PostE G E F ιs ω ρ σ Hs Q (.ok (.lst acc) .fs S2)) : Q (.ref Dn) H := by
  obtain ⟨xs, h1, h2⟩ := c.at'
  have x := e1.trans c.ext
  have hm : Dn ∈ Dn :: ω := List.mem_cons_self
  have sub : ∀ b ∈ F.B0 ++ ω, b ∈ F.B0 ++ (Dn :: ω) := fun b hb => by
    rcases List.mem_append.mp hb with z | z
    · exact List.mem_append_left _ z
    · exact List.mem_append_right _ (List.mem_cons_of_mem _ z)
  have sub1 : ∀ b ∈ Dn :: (F.B0 ++ ω), b ∈ F.B0 ++ (Dn :: ω) := fun b hb => by
    rcases List.mem_cons.mp hb with z | z
    · subst z; exact List.mem_append_right _ hm
    · exact sub b z
  refine h ι' (.ref Dn) H x (rel.ex x c.rel.nd (c.rel.sto.less sub)) (.l (c.rel.dj Dn hm) (fun z => ?_) (none_of e1.dom hD) h1 (h2.per (Per.less sub1)) (c.rel.sto.less sub1))
  exact absurd (none_of e1.dom hD) (rel.bd Dn z)
theorem se_lcG {wi : TI} {fi : FI} {step : Ev → StepC} {vs : List Nat} {t : TE} {Body : L2.St → Addr → V → Hp → (Hp → Prop) → Prop} (hi : SI G E wi fi)
    (ht : ∀ σ H Q, (wi σ H fun J H1 => ∀ D, H1 D = none → ∃ W : Nat → Nat → Hp → Prop, (∃ m, W 0 m (upd H1 D (.lst []))) ∧ ∀ i m H, W i m H → (J.stop i H ∧ Q (.ref D) H) ∨ (J.go i H ∧ ∃ Nx : Hp → Prop, (∀ H', Nx H' → ∃ m', m' < m ∧ W (i + 1) m' H') ∧ ∀ x H', J.yld i H x H' → Body σ D x H' Nx)) → t σ H Q)
    (hs : ∀ {F : Fr} {ω : List Addr} {Dn : Addr} {ρ : Ev} {σ : L2.St} {ι' : List Addr} {acc acc' : List D} {ι0 : List Addr} {H0 H H' : Hp} {S S' : Sto} {x : V} {d : D}, Ci G F ω Dn ι0 H0 (wipeE ρ vs) (L2.wipe σ vs) ι' acc S H → H0 Dn = none → (∀ a o, H a = some o → H' a = some o) → RV G.K G.ca ι' (F.B0 ++ (Dn :: ω)) H' x d →
      step (wipeE ρ vs) d acc S = some (acc', S') → ∀ (Nx : Hp → Prop), (∀ ι2 H2, Ci G F ω Dn ι0 H0 (wipeE ρ vs) (L2.wipe σ vs) ι2 acc' S' H2 → Nx H2) → Body σ Dn x H' Nx) : SE G E t (fLcG fi step vs) := by
  intro F ι ω ρ S σ H Q rel h
  refine ht σ H Q (hi F ι ω ρ S σ H _ rel ?_)
  unfold fLcG at h
  cases e : fi ρ S with
  | xc c fs S1 => rw [e] at h; exact h
  | bad => rw [e] at h; exact h
  | ok ds g S1 =>
    rw [e] at h
    intro ι1 J H1 e1 r1 wk Dn hD
    dsimp only at h
    split at h
    · rename_i accF SF hf
      refine fold_ok wk (fun x H' Nx => Body σ Dn x H' Nx) (fun acc S H => ∃ ι', Ci G F ω Dn ι1 H1 (wipeE ρ vs) (L2.wipe σ vs) ι' acc S H) (fun acc S H ⟨ι', c⟩ => ⟨ι', F.B0 ++ (Dn :: ω), c.lat hD, c.rel.sto, c.rel.bd⟩) ?_ ⟨ι1, Ci.start r1 hD⟩ hf (fun H ⟨ι', c⟩ => c.fin rel e1 hD h)
      rintro i d acc acc' S2 S3 H2 x H' ⟨ι', c⟩ gk hlt ed y es Nx hN
      obtain ⟨gr, d', ed', rv⟩ := wk.yld _ _ _ _ i x H' (c.lat hD) c.rel.sto c.rel.bd gk hlt y
      rw [ed] at ed'; cases ed'
      exact hs c hD gr rv es _ fun ι2 H2 c2 => hN H2 ⟨ι2, c2⟩
    · exact h.elim
theorem se_lc {wi : TI} {fi : FI} {tg : TG} {fg : FG} {js : List Nat} {tt : TT} {ft : FE} {te : TE} {fe : FE} {vs : List Nat} (hi : SI G E wi fi) (hg : SG G tg js fg) (ht : ST G NoE tt ft) (he : SE G NoE te fe) (hj : ∀ j ∈ js, j ∈ vs := by decide) :
    SE G E (tLc wi tg tt te vs) (fLc fi fg ft fe vs) :=
  se_lcG (Body := fun σ D x H' Nx => tg x (L2.wipe σ vs) H' fun σ2 H2 => L2.wipe σ2 vs = L2.wipe σ vs ∧ tt σ2 H2 fun b H3 => if b = true then te σ2 H3 fun y H4 => ∃ acc, H4 D = some (.lst acc) ∧ acc.length < sizeLine ∧ Nx (upd H4 D (.lst (acc ++ [y]))) else Nx H3)
    hi (fun σ H Q h => h) fun c hD gr rv es _ hn => step1_ok hg ht he hj c hD gr rv es (wipe_idem _ _) hn
theorem wipeE_own {s : Sl} {i : Nat} : ∀ {vs : List Nat}, (wipeE ρ vs)[i]? = some s → isOwn s = true → ρ[i]? = some s
  | [], h, _ => h
  | v :: vs, h, h2 => by
    have h : ((wipeE ρ vs).set v .no)[i]? = some s := h
    by_cases e : v = i
    · subst e
      have hi : v < (wipeE ρ vs).length := by
        have := (List.getElem?_eq_some_iff.mp h).1
        rwa [List.length_set] at this
      rw [List.getElem?_set_self hi] at h; cases h; cases h2
    · rw [List.getElem?_set_ne e] at h
      exact wipeE_own h h2
theorem Ci.lat2 {Dn : Addr} {ρ0 : Ev} {σ0 : L2.St} {ι' : List Addr} {acc : List D} {ι4 : List Addr} {H4 : Hp} (c : Ci G F ω Dn ι4 (del H4 Dn) ρ0 σ0 ι' acc S H) : Per ι4 (F.B0 ++ (Dn :: ω)) H4 ι' (F.B0 ++ (Dn :: ω)) H := by
  have p := c.lat del_same
  refine ⟨fun a o h1 h2 h3 => ?_, p.ix⟩
  rw [List.mem_append, List.mem_cons, not_or, not_or] at h3
  exact p.at' a o (by rw [del_ne h3.2.1]; exact h1) h2 (by rw [List.mem_append, not_or]; exact ⟨h3.1, h3.2.2⟩)
theorem Ci.back {Dn : Addr} {ρ0 ρi : Ev} {σ0 σi : L2.St} {ι4 ι2 : List Addr} {acc acc' : List D} {ι0 : List Addr} {H0 H4 : Hp} {S' : Sto} (c : Ci G F ω Dn ι0 H0 ρ0 σ0 ι4 acc S H4) (ci : Ci G F ω Dn ι4 (del H4 Dn) ρi σi ι2 acc' S' H) (hD : H0 Dn = none) : Ci G F ω Dn ι0 H0 ρ0 σ0 ι2 acc' S' H := by
  obtain ⟨xs, h1, h2⟩ := ci.at'
  have hm : Dn ∈ Dn :: ω := List.mem_cons_self
  have r := c.rel.mutD (o := .lst xs) hm c.fre
  have x : Ext ι4 (L2.upd H4 Dn (.lst xs)) ι2 H := by
    refine ⟨ci.ext.pre, fun a o h n => ?_, fun a h n => ?_, fun a h => ?_⟩
    · by_cases z : a = Dn
      · subst z; rw [upd_same] at h; cases h; exact h1
      · rw [upd_ne z] at h
        exact ci.ext.keep a o (by rw [del_ne z]; exact h) n
    · have z : a ≠ Dn := fun z => by subst z; exact ci.rel.dj _ hm h
      have := ci.ext.new a h n
      rw [del_ne z] at this
      rw [upd_ne z]; exact this
    · by_cases z : a = Dn
      · subst z; exact nn h1
      · rw [upd_ne z] at h
        exact ci.ext.dom a (by rw [del_ne z]; exact h)
  have ext2 : Ext ι0 H0 ι2 H := by
    have e4 := c.ext
    refine ⟨e4.pre.trans ci.ext.pre, fun a o h n => ?_, fun a h n => ?_, fun a h => ?_⟩
    · have z : a ≠ Dn := fun z => by subst z; rw [hD] at h; cases h
      exact ci.ext.keep a o (by rw [del_ne z]; exact e4.keep a o h n) (e4.off h n)
    · by_cases hx : a ∈ ι4
      · exact e4.new a hx n
      · have q := ci.ext.new a h hx
        have z : a ≠ Dn := fun z => by subst z; exact ci.rel.dj _ hm h
        rw [del_ne z] at q
        exact none_of e4.dom q
    · have z : a ≠ Dn := fun z => by subst z; exact h hD
      exact ci.ext.dom a (by rw [del_ne z]; exact e4.dom a h)
  exact ⟨r.ex x ci.rel.nd ci.rel.sto, ext2, ⟨xs, h1, h2⟩, c.fre⟩
theorem se_lc2 {wi wi1 : TI} {fi fi1 : FI} {tg tg1 : TG} {fg fg1 : FG} {js js1 : List Nat} {tt tt1 : TT} {ft ft1 : FE} {te : TE} {fe : FE} {vs vs1 : List Nat} (hi : SI G E wi fi) (hg : SG G tg js fg) (ht : ST G NoE tt ft) (hi1 : SI G NoE wi1 fi1) (hg1 : SG G tg1 js1 fg1) (ht1 : ST G NoE tt1 ft1) (he : SE G NoE te fe)
    (hj : ∀ j ∈ js, j ∈ vs := by decide) (hj1 : ∀ j ∈ js1, j ∈ vs1 := by decide) (hv : ∀ j ∈ vs1, j ∈ vs := by decide) : SE G E (tLc2 wi tg tt wi1 tg1 tt1 te vs vs1) (fLc2 fi fg ft fi1 fg1 ft1 fe vs vs1) := by
  refine se_lcG (Body := fun σ D x H' Nx => tg x (L2.wipe σ vs) H' fun σ2 H2 => L2.wipe σ2 vs = L2.wipe σ vs ∧ tt σ2 H2 fun b H3 =>
    if b = true then wi1 σ2 H3 fun J1 H4 => ∃ W1 : Nat → Nat → Hp → Prop, (∃ m, W1 0 m H4) ∧ ∀ j k H, W1 j k H →
      (J1.stop j H ∧ Nx H) ∨ (J1.go j H ∧ ∃ Nx1 : Hp → Prop, (∀ H', Nx1 H' → ∃ k', k' < k ∧ W1 (j + 1) k' H') ∧ ∀ x H', J1.yld j H x H' → tg1 x (L2.wipe σ2 vs1) H' fun σ3 H5 => L2.wipe σ3 vs1 = L2.wipe σ2 vs1 ∧ tt1 σ3 H5 fun b H6 =>
        if b = true then te σ3 H6 fun y H7 => ∃ acc, H7 D = some (.lst acc) ∧ acc.length < sizeLine ∧ Nx1 (upd H7 D (.lst (acc ++ [y]))) else Nx1 H6)
    else Nx H3) hi (fun σ H Q h => h) ?_
  intro F ω Dn ρ σ ι' acc acc' ι0 H0 H H' S S' x d c hD gr rv es Nx hn
  have c1 := c.same (Ext.gr gr) c.rel.nd (c.rel.sto.gr gr)
  refine hg F ι' (Dn :: ω) (wipeE ρ vs) S (L2.wipe σ vs) H' x d _ c1.rel rv ?_
  unfold step2 at es
  split at es
  · rename_i ρ1 eg
    try rw [eg]
    intro σ1 rel1 w1
    refine ⟨(w1.wp vs hj).trans (wipe_idem _ _), ?_⟩
    refine ht F ι' (Dn :: ω) ρ1 S σ1 H' _ rel1 ?_
    split at es
    · rename_i f1 S1 e1
      rw [e1]
      intro ι3 v3 H3 x3 r3 rf3
      rw [rf3.rt.sBl]
      dsimp only [kB]
      rw [if_pos rfl]
      refine hi1 F ι3 (Dn :: ω) ρ1 S1 σ1 H3 _ r3 ?_
      split at es
      · rename_i ds1 g1 S2 e2
        rw [e2]
        intro ι4 J1 H4 x4 r4 wk1
        have c4 := c1.same (x3.trans x4) r4.nd r4.sto
        obtain ⟨xs, k1, k2⟩ := c4.at'
        have fre : ∀ (i : Nat) (s : Sl), (wipeE ρ1 vs1)[i]? = some s → isOwn s = true → (L2.wipe σ1 vs1)[i]? ≠ some (some (.ref Dn)) := fun i s q1 q2 q3 => by
          obtain ⟨z1, z2⟩ := w1.ow i s (wipeE_own q1 q2) q2
          exact c1.fre i s z1 q2 (z2.symm.trans (wipe_some q3).1)
        have ci : Ci G F ω Dn ι4 (del H4 Dn) (wipeE ρ1 vs1) (L2.wipe σ1 vs1) ι4 acc S2 H4 := ⟨r4.wipe vs1, ⟨List.prefix_rfl, fun a o h n => by
          by_cases z : a = Dn
          · subst z; rw [del_same] at h; cases h
          · rw [del_ne z] at h; exact h, fun _ h n => absurd h n, fun a h => by
          by_cases z : a = Dn
          · subst z; exact nn k1
          · rw [del_ne z] at h; exact h⟩, ⟨xs, k1, k2⟩, fre⟩
        have hDd : del H4 Dn Dn = none := del_same
        refine fold_ok wk1 (fun x H' Nx1 => tg1 x (L2.wipe σ1 vs1) H' fun σ3 H5 => L2.wipe σ3 vs1 = L2.wipe σ1 vs1 ∧ tt1 σ3 H5 fun b H6 => if b = true then te σ3 H6 fun y H7 => ∃ acc, H7 Dn = some (.lst acc) ∧ acc.length < sizeLine ∧ Nx1 (upd H7 Dn (.lst (acc ++ [y]))) else Nx1 H6)
          (fun acc S H => ∃ ι', Ci G F ω Dn ι4 (del H4 Dn) (wipeE ρ1 vs1) (L2.wipe σ1 vs1) ι' acc S H) ?_ ?_ ⟨ι4, ci⟩ es (fun H ⟨ι', c'⟩ => hn ι' H (c4.back c' hD))
        · rintro acc S H ⟨ι', c'⟩
          exact ⟨ι', F.B0 ++ (Dn :: ω), c'.lat2, c'.rel.sto, c'.rel.bd⟩
        · rintro i d acc acc' S2 S3 H2 x H' ⟨ι', c'⟩ gk hlt ed y es' Nx hN
          obtain ⟨gr, d', ed', rv⟩ := wk1.yld _ _ _ _ i x H' c'.lat2 c'.rel.sto c'.rel.bd gk hlt y
          rw [ed] at ed'; cases ed'
          exact step1_ok hg1 ht1 he hj1 c' hDd gr rv es' (wipe_idem _ _) fun ι2 H2 c2 => hN H2 ⟨ι2, c2⟩
      · cases es
    · rename_i f1 S1 e1
      cases es
      rw [e1]
      intro ι3 v3 H3 x3 r3 rf3
      rw [rf3.rt.sBl]
      dsimp only [kB]
      rw [if_neg Bool.false_ne_true]
      exact hn ι3 H3 (c1.same x3 r3.nd r3.sto)
    · cases es
  · cases es
end
end
end Fx

namespace Fx
open PySem PySem.Spec PyProof.Rows L2 U
noncomputable section
/-! ### defs that raise nothing; calls with keywords; the script -/
def noxF (f : FF) : FF := fun ds S => match f ds S with
  | .xc _ _ _ => .bad
  | r => r
def NoX (f : FF) : Prop := ∀ ds S c fs S', f ds S ≠ .xc c fs S'
theorem nox_no (f : FF) : NoX (noxF f) := fun ds S c fs S' e => by
  unfold noxF at e
  split at e
  · cases e
  · rename_i hn; exact hn _ _ _ e
section
variable {K : PySem.W.Frag} {ca : Nat → Addr} {H : Hp} {Q : VK} {E : XK} {vs : List V}
theorem nox_len {N P : List Str} {b : FS} (h : SpF K ca (noxF (runF N.length P.length b)) vs H Q E) : vs.length = P.length := by
  obtain ⟨ι, B, S, ds, h1, h2, h3, h4, h5⟩ := h
  unfold noxF runF at h5
  by_cases e : ds.length = P.length
  · rw [h4.len]; exact e
  · simp only [if_neg e] at h5; exact h5.elim
theorem nox_ok {N P : List Str} {t : TS} {b : FS} (hb : SS ⟨K, ca, none, none⟩ NoE t b) (h : SpF K ca (noxF (runF N.length P.length b)) vs H Q E) : t { nx := fun _ H' => Q .non H', rt := Q } (L2.start N vs) H := by
  obtain ⟨ι, B, S, ds, h1, h2, h3, h4, h5⟩ := h
  refine run_ok (E := E0) (b := b) (P := P) hb ⟨ι, B, S, ds, h1, h2, h3, h4, ?_⟩
  unfold noxF at h5
  cases e : runF N.length P.length b ds S with
  | ok d f S' => rw [e] at h5; exact h5
  | xc c fs S' => rw [e] at h5; exact h5.elim
  | bad => rw [e] at h5; exact h5
end
section
variable {G : Gm} {E : WX}
theorem spf_nox {f : FF} {F : Fr} {ι ω : List Addr} {ρ : Ev} {S : Sto} {σ : L2.St} {H : Hp} {Q : VK} {vs : List V} {ds : List D} {E' : XK} (hf : NoX f) (rel : Rel G F ι ω ρ S σ H) (ra : RAll G.K G.ca ι (F.B0 ++ ω) H vs ds) (h : PostE G E F ι ω ρ σ H Q (f ds S)) : SpF G.K G.ca f vs H Q E' := by
  refine ⟨ι, F.B0 ++ ω, S, ds, rel.nd, fun b hb => ⟨rel.bd b hb, rel.bi b hb⟩, rel.sto, ra, ?_⟩
  cases e : f ds S with
  | ok d fl S' =>
    rw [e] at h
    exact fun ι' v H' x nd rs rf => h ι' v H' x (rel.ex x nd rs) rf
  | xc c fs S' => exact absurd e (hf _ _ _ _ _)
  | bad => rw [e] at h; exact h
theorem se_callN {f : FF} {dvs : List V} {dd : List D} {E' : XK} {ta : TA} {fa : FA} (hf : NoX f) (ha : SA G E ta fa) (hd : dvs = dd.map vOf := by rfl) (hs : dd.all scalD = true := by rfl) : SE G E (tCall (SpF G.K G.ca f) dvs E' ta) (fCall f dd fa) := by
  intro F ι ω ρ S σ H Q rel h
  refine sa_then ha rel h fun ds t S1 ι1 vs H1 e1 r1 ra h1 => ?_
  split at h1
  · rename_i ht
    subst ht hd
    exact spf_nox hf r1 (RAll.app ra (dflt_all hs)) h1
  · exact h1.elim
/-- f(a, k=b) -/
def fCallK (n m : Nat) (f : FF) (gD : List D → List D → List D) (fa fk : FA) : FE := fun ρ S => match fa ρ S with
  | .ok ds true S1 => (match fk ρ S1 with
    | .ok es true S2 => if ds.length = n ∧ es.length = m then f (gD ds es) S2 else .bad
    | .xc c fs S2 => .xc c fs S2
    | _ => .bad)
  | .xc c fs S1 => .xc c fs S1
  | _ => .bad
theorem se_callK {n m : Nat} {f : FF} {gV : List V → List V → List V} {gD : List D → List D → List D} {E' : XK} {ta tk : TA} {fa fk : FA} (hE : NoX f ∨ ∀ cls d σ H, E cls d σ H → E' cls d H) (ha : SA G E ta fa) (hk : SA G E tk fk)
    (hg : ∀ {ι B : List Addr} {H : Hp} {vs zs : List V} {ds es : List D}, RAll G.K G.ca ι B H vs ds → RAll G.K G.ca ι B H zs es → RAll G.K G.ca ι B H (gV vs zs) (gD ds es)) : SE G E (tCallN n m (SpF G.K G.ca f) gV E' ta tk) (fCallK n m f gD fa fk) := by
  intro F ι ω ρ S σ H Q rel h
  refine ha F ι ω ρ S σ H _ rel ?_
  unfold fCallK at h
  split at h
  · rename_i ds S1 e1
    rw [e1]
    intro ι1 vs H1 x1 r1 ra
    refine hk F ι1 ω ρ S1 σ H1 _ r1 ?_
    split at h
    · rename_i es S2 e2
      rw [e2]
      intro ι2 zs H2 x2 r2 rz
      have ra : RAll G.K G.ca ι2 (F.B0 ++ ω) H2 vs ds := RAll.ex ra x2
      have rz : RAll G.K G.ca ι2 (F.B0 ++ ω) H2 zs es := rz
      split at h
      · rename_i hl
        refine ⟨by rw [ra.len]; exact hl.1, by rw [rz.len]; exact hl.2, ?_⟩
        have h2 := PostE.ex h (x1.trans x2)
        rcases hE with hE | hE
        · exact spf_nox hE r2 (hg ra rz) h2
        · exact spf_of (fun cls d H => hE cls d σ H) r2 (hg ra rz) h2
      · exact h.elim
    · rename_i c fs S2 e2
      rw [e2]
      exact fun ι' dd fv H' x rel' n1 n2 h1 h2 => h ι' dd fv H' (x1.trans x) rel' n1 n2 h1 h2
    · exact h.elim
  · rename_i c fs S1 e1
    rw [e1]; exact h
  · exact h.elim
end
/-- x in ([], '') -/
def dInE (d e : D) (S : Sto) : RE := match e with
  | .tup [.lst [], .str z] => (match d with
    | .non => .ok (.bl false) .tr S
    | .str w => .ok (.bl (decide (z = w))) .tr S
    | d => (match lsOf S d with
      | some ds => .ok (.bl ds.isEmpty) .tr S
      | none => .bad))
  | _ => .bad
section
variable {G : Gm} {E : WX}
theorem sr_inE : SR G E (uInE G.K) dInE := by
  intro F ι ω ρ S σ H Q x y d e rel hx hy h
  unfold dInE at h
  split at h
  · rename_i z
    cases hy with
    | v hy =>
      cases hy with
      | @tup a xs _ h1 h2 h3 h4 =>
        cases h4 with
        | cons g1 g2 =>
          cases g2 with
          | cons g2 g3 =>
            cases g3
            cases g2
            cases g1 with
            | @lst b ys _ k1 k2 k3 k4 =>
              cases k4
              refine oK_of (rdT_of h3) ⟨rdL_of k3, ?_⟩
              split at h
              · rw [hx.sNon]; exact PostE.now h rel (.bl _)
              · rw [hx.sStr]; exact PostE.now h rel (.bl _)
              · split at h
                · rename_i ds ed
                  obtain ⟨p, ws, rfl, q1, q2⟩ := ls_at rel.sto hx ed
                  refine oK_of (rdL_of q1) ?_
                  have : ws.isEmpty = ds.isEmpty := by
                    have := q2.len
                    cases ws <;> cases ds <;> simp_all
                  rw [this]
                  exact PostE.now h rel (.bl _)
                · exact h.elim
  · exact h.elim
end
/-- the law at the script -/
def intsD (ns : List Int) : List D := ns.map .int
theorem rall_ints {K : PySem.W.Frag} {ca : Nat → Addr} {ι B : List Addr} {H : Hp} : ∀ ns : List Int, RAll K ca ι B H (ns.map V.int) (intsD ns)
  | [] => .nil
  | n :: ns => .cons (.int n) (rall_ints ns)
theorem law_sp {K : PySem.W.Frag} {ca : Nat → Addr} {f : FF} {H : Hp} {a : Addr} {ns : List Int} (hO : Only H) (hS : SqL K H a (ns.map V.int)) (h : ∃ fl S', f [.fro true (intsD ns)] [] = .ok (.bl true) fl S') : SpF K ca f [.ref a] H (fun v _ => v = .bl true) fun _ _ _ => False := by
  obtain ⟨fl, S', e⟩ := h
  refine ⟨[], [], [], [.fro true (intsD ns)], List.nodup_nil, fun _ h => (nomatch h), ⟨rfl, fun k a c h => (nomatch h)⟩, .cons (.fro ?_ (rall_ints ns)) .nil, ?_⟩
  · rcases script_of hO hS with ⟨o, h⟩ | h
    · exact .inl ⟨by simp, by simp, o, h⟩
    · exact .inr (.inr h)
  · rw [e]
    exact fun ι' v H' _ _ _ rf => rf.rt.sBl
end
end Fx

namespace Fx
open PySem PySem.Spec PyProof.Rows L2 U
/-! ### comprehensions and loops, as functions -/
theorem gok_none (S : Sto) : gOk none S := trivial
theorem fold_flat {g : Gd} {step : StepC} {f : D → List D} {S : Sto} (hg : gOk g S) : ∀ {ds acc : List D}, (∀ d ∈ ds, ∀ acc : List D, acc.length < lim → step d acc S = some (acc ++ f d, S)) → (∀ d ∈ ds, (f d).length ≤ 1) → acc.length + ds.length ≤ lim →
    foldC g step ds acc S = some (acc ++ ds.flatMap f, S)
  | [], acc, _, _, _ => by unfold foldC; rw [if_pos hg]; simp
  | d :: ds, acc, h, h1, hl => by
    rw [List.length_cons] at hl
    unfold foldC
    rw [if_pos hg, h d List.mem_cons_self acc (by omega)]
    have := h1 d List.mem_cons_self
    dsimp only
    rw [fold_flat hg (fun e he => h e (List.mem_cons_of_mem _ he)) (fun e he => h1 e (List.mem_cons_of_mem _ he)) (by rw [List.length_append]; omega), List.append_assoc, List.flatMap_cons]
theorem lc_flat {it : FI} {set : FG} {tt te : FE} {vs : List Nat} {ρ : Ev} {S S1 : Sto} {ds : List D} {g : Gd} {c : D → Bool} {f : D → D} (hi : it ρ S = .ok ds g S1) (hg : gOk g S1) (hl : ds.length ≤ lim)
    (h : ∀ d ∈ ds, ∃ ρ1 f1, set d (wipeE ρ vs) S1 = some ρ1 ∧ tt ρ1 S1 = .ok (.bl (c d)) f1 S1 ∧ (c d = true → ∃ f2, te ρ1 S1 = .ok (f d) f2 S1 ∧ f2.nop = true)) :
    fLc it set tt te vs ρ S = .ok (.lst ((ds.filter c).map f)) .fs S1 := by
  have key : ds.flatMap (fun d => if c d = true then [f d] else []) = (ds.filter c).map f := by
    clear h hl hi
    induction ds with
    | nil => rfl
    | cons d ds ih =>
      rw [List.flatMap_cons, ih, List.filter_cons]
      cases c d <;> simp
  unfold fLc fLcG
  rw [hi]
  dsimp only
  rw [fold_flat (f := fun d => if c d = true then [f d] else []) hg (fun d hd acc ha => ?_) (fun d hd => by split <;> simp) (by simpa using hl), key, List.nil_append]
  obtain ⟨ρ1, f1, e1, e2, e3⟩ := h d hd
  unfold step1
  rw [e1]
  dsimp only
  rw [e2]
  cases hc : c d with
  | true =>
    obtain ⟨f2, e4, e5⟩ := e3 hc
    dsimp only
    rw [e4]
    dsimp only
    rw [e5, decide_eq_true ha]
    rfl
  | false => dsimp only; rw [if_neg Bool.false_ne_true, List.append_nil]
theorem lc_map {it : FI} {set : FG} {te : FE} {vs : List Nat} {ρ : Ev} {S S1 : Sto} {ds : List D} {g : Gd} {f : D → D} (hi : it ρ S = .ok ds g S1) (hg : gOk g S1) (hl : ds.length ≤ lim)
    (h : ∀ d ∈ ds, ∃ ρ1 f2, set d (wipeE ρ vs) S1 = some ρ1 ∧ te ρ1 S1 = .ok (f d) f2 S1 ∧ f2.nop = true) :
    fLc it set (fC (.bl true)) te vs ρ S = .ok (.lst (ds.map f)) .fs S1 := by
  have := lc_flat (tt := fC (.bl true)) (te := te) (c := fun _ => true) (f := f) hi hg hl fun d hd => by
    obtain ⟨ρ1, f2, e1, e2, e3⟩ := h d hd
    exact ⟨ρ1, .tr, e1, rfl, fun _ => ⟨f2, e2, e3⟩⟩
  rw [this, List.filter_eq_self.mpr (fun _ _ => rfl)]
theorem bools_map {α : Type} (f : α → Bool) : ∀ l : List α, bools (l.map fun x => .bl (f x)) = some (l.map f)
  | [] => rfl
  | x :: l => by simp only [List.map_cons, bools, bools_map f l, Option.map_some]
/-- a for without breaks: the state behind each item -/
theorem loop_step {g : Gd} {set : FG} {body : FS} {d : D} {ds : List D} {ρ ρ1 ρ2 : Ev} {S S2 : Sto} (hg : gOk g S) (h1 : set d ρ S = some ρ1) (h2 : body ρ1 S = .nx ρ2 S2) : loopS g set body (d :: ds) ρ S = loopS g set body ds ρ2 S2 := by
  conv => lhs; unfold loopS
  rw [if_pos hg, h1]
  dsimp only
  rw [h2]
theorem loop_cont {g : Gd} {set : FG} {body : FS} {d : D} {ds : List D} {ρ ρ1 ρ2 : Ev} {S S2 : Sto} (hg : gOk g S) (h1 : set d ρ S = some ρ1) (h2 : body ρ1 S = .ct ρ2 S2) : loopS g set body (d :: ds) ρ S = loopS g set body ds ρ2 S2 := by
  conv => lhs; unfold loopS
  rw [if_pos hg, h1]
  dsimp only
  rw [h2]
theorem loop_ret {g : Gd} {set : FG} {body : FS} {d e : D} {ds : List D} {ρ ρ1 : Ev} {S S2 : Sto} {f : Fl} (hg : gOk g S) (h1 : set d ρ S = some ρ1) (h2 : body ρ1 S = .rt e f S2) : loopS g set body (d :: ds) ρ S = .rt e f S2 := by
  conv => lhs; unfold loopS
  rw [if_pos hg, h1]
  dsimp only
  rw [h2]
theorem loop_end {g : Gd} {set : FG} {body : FS} {ρ : Ev} {S : Sto} (hg : gOk g S) : loopS g set body [] ρ S = .nx ρ S := by
  unfold loopS; rw [if_pos hg]
/-- a for whose state keeps a form: I i ρ S ahead of item i -/
theorem loop_inv {g : Gd} {set : FG} {body : FS} (I : Nat → Ev → Sto → Prop) {ds : List D} (hg : ∀ i ρ S, I i ρ S → gOk g S)
    (hs : ∀ i d ρ S, ds[i]? = some d → I i ρ S → ∃ ρ1 ρ2 S2, set d ρ S = some ρ1 ∧ (body ρ1 S = .nx ρ2 S2 ∨ body ρ1 S = .ct ρ2 S2) ∧ I (i + 1) ρ2 S2) {ρ : Ev} {S : Sto} (h0 : I 0 ρ S) : ∃ ρ' S', loopS g set body ds ρ S = .nx ρ' S' ∧ I ds.length ρ' S' := by
  have key : ∀ (n i : Nat) (ρ : Ev) (S : Sto), n = ds.length - i → i ≤ ds.length → I i ρ S → ∃ ρ' S', loopS g set body (ds.drop i) ρ S = .nx ρ' S' ∧ I ds.length ρ' S' := by
    intro n
    induction n with
    | zero =>
      intro i ρ S hn hi h
      obtain rfl : i = ds.length := by omega
      rw [List.drop_length, loop_end (hg _ _ _ h)]
      exact ⟨ρ, S, rfl, h⟩
    | succ n ih =>
      intro i ρ S hn hi h
      have hlt : i < ds.length := by omega
      rw [List.drop_eq_getElem_cons hlt]
      obtain ⟨ρ1, ρ2, S2, e1, e2, e3⟩ := hs i ds[i] ρ S (List.getElem?_eq_getElem hlt) h
      rcases e2 with e2 | e2
      · rw [loop_step (hg _ _ _ h) e1 e2]; exact ih (i + 1) ρ2 S2 (by omega) hlt e3
      · rw [loop_cont (hg _ _ _ h) e1 e2]; exact ih (i + 1) ρ2 S2 (by omega) hlt e3
  have := key ds.length 0 ρ S (by omega) (Nat.zero_le _) h0
  rwa [List.drop_zero] at this
/-! ### data of values -/
section
mutual
theorem tree_mono {c c' : Nat → Option PyData} (h : ∀ k p, c k = some p → c' k = some p) : ∀ (d : D) {p : PyData}, tree c d = some p → tree c' d = some p
  | .non, _, e => by simpa only [tree] using e
  | .bl _, _, e => by simpa only [tree] using e
  | .int _, _, e => by simpa only [tree] using e
  | .str _, _, e => by simpa only [tree] using e
  | .lst ds, _, e => by
    simp only [tree, Option.map_eq_some_iff] at e ⊢
    obtain ⟨ps, e1, e2⟩ := e
    exact ⟨ps, treeAll_mono h ds e1, e2⟩
  | .tup ds, _, e => by
    simp only [tree, Option.map_eq_some_iff] at e ⊢
    obtain ⟨ps, e1, e2⟩ := e
    exact ⟨ps, treeAll_mono h ds e1, e2⟩
  | .fro _ _, _, e => by simp only [tree] at e; cases e
  | .dct [], _, e => by simpa only [tree] using e
  | .dct (_ :: _), _, e => by simp only [tree] at e; cases e
  | .cel k, _, e => by simp only [tree] at e ⊢; exact h k _ e
  | .obj _ _, _, e => by simp only [tree] at e; cases e
theorem treeAll_mono {c c' : Nat → Option PyData} (h : ∀ k p, c k = some p → c' k = some p) : ∀ (ds : List D) {ps : List PyData}, treeAll c ds = some ps → treeAll c' ds = some ps
  | [], _, e => by simpa only [treeAll] using e
  | d :: ds, _, e => by
    simp only [treeAll] at e ⊢
    split at e
    · rename_i p ps e1 e2
      rw [tree_mono h d e1, treeAll_mono h ds e2]; exact e
    · cases e
end
theorem cells_mono {S : Sto} : ∀ (n : Nat) (k : Nat) (p : PyData), cells n S k = some p → cells (n + 1) S k = some p
  | 0, _, _, e => by unfold cells at e; cases e
  | n + 1, k, p, e => by
    unfold cells at e ⊢
    split at e
    · rename_i ds es
      rw [Option.map_eq_some_iff] at e ⊢
      obtain ⟨ps, e1, e2⟩ := e
      exact ⟨ps, treeAll_mono (cells_mono n) ds e1, e2⟩
    · cases e
/-- d is the data p in the store -/
def Py (S : Sto) (d : D) (p : PyData) : Prop := toP S d = some p
def PyAll (S : Sto) (ds : List D) (ps : List PyData) : Prop := treeAll (cells 4 S) ds = some ps
theorem PyAll.len {S : Sto} : ∀ {ds : List D} {ps : List PyData}, PyAll S ds ps → ds.length = ps.length
  | [], _, h => by unfold PyAll at h; simp only [treeAll] at h; cases h; rfl
  | d :: ds, _, h => by
    unfold PyAll at h
    simp only [treeAll] at h
    split at h
    · rename_i p ps e1 e2
      cases h
      rw [List.length_cons, List.length_cons, PyAll.len e2]
    · cases h
theorem PyAll.at {S : Sto} : ∀ {ds : List D} {ps : List PyData} {i : Nat} {d : D}, PyAll S ds ps → ds[i]? = some d → ∃ p, ps[i]? = some p ∧ Py S d p
  | [], _, i, _, h, e => by simp at e
  | d :: ds, _, i, _, h, e => by
    unfold PyAll at h
    simp only [treeAll] at h
    split at h
    · rename_i p ps e1 e2
      cases h
      cases i with
      | zero => simp at e; subst e; exact ⟨p, rfl, e1⟩
      | succ i => obtain ⟨q, h1, h2⟩ := PyAll.at (ds := ds) e2 (by simpa using e); exact ⟨q, by simpa using h1, h2⟩
    · cases h
theorem PyAll.mem {S : Sto} {ds : List D} {ps : List PyData} {d : D} (h : PyAll S ds ps) (hd : d ∈ ds) : ∃ p ∈ ps, Py S d p := by
  obtain ⟨i, hi, rfl⟩ := List.getElem_of_mem hd
  obtain ⟨p, h1, h2⟩ := h.at (List.getElem?_eq_getElem hi)
  exact ⟨p, List.mem_of_getElem? h1, h2⟩
theorem PyAll.cons {S : Sto} {d : D} {ds : List D} {p : PyData} {ps : List PyData} (h1 : Py S d p) (h2 : PyAll S ds ps) : PyAll S (d :: ds) (p :: ps) := by
  unfold PyAll; unfold Py toP at h1; unfold PyAll at h2
  simp only [treeAll, h1, h2]
theorem PyAll.nil {S : Sto} : PyAll S [] [] := by unfold PyAll; simp only [treeAll]
theorem PyAll.app {S : Sto} : ∀ {ds es : List D} {ps qs : List PyData}, PyAll S ds ps → PyAll S es qs → PyAll S (ds ++ es) (ps ++ qs)
  | [], _, _, _, h, g => by unfold PyAll at h; simp only [treeAll] at h; cases h; exact g
  | d :: ds, _, _, _, h, g => by
    unfold PyAll at h
    simp only [treeAll] at h
    split at h
    · rename_i p ps e1 e2
      cases h
      exact PyAll.cons e1 (PyAll.app e2 g)
    · cases h
theorem py_lst {S : Sto} {ds : List D} {ps : List PyData} (h : PyAll S ds ps) : Py S (.lst ds) (.list ps) := by unfold Py toP; unfold PyAll at h; simp only [tree, h, Option.map_some]
theorem py_tup {S : Sto} {ds : List D} {ps : List PyData} (h : PyAll S ds ps) : Py S (.tup ds) (.tuple ps) := by unfold Py toP; unfold PyAll at h; simp only [tree, h, Option.map_some]
theorem py_str (S : Sto) (z : Str) : Py S (.str z) (.str z) := by unfold Py toP; simp only [tree]
theorem py_int (S : Sto) (z : Int) : Py S (.int z) (.int z) := by unfold Py toP; simp only [tree]
theorem py_bl (S : Sto) (z : Bool) : Py S (.bl z) (.bool z) := by unfold Py toP; simp only [tree]
theorem py_non (S : Sto) : Py S .non .none := by unfold Py toP; simp only [tree]
theorem py_dct (S : Sto) : Py S (.dct []) (.dict []) := by unfold Py toP; simp only [tree]
/-- what a value can be, by its data -/
theorem py_inv {S : Sto} {d : D} {p : PyData} (h : Py S d p) : (p = .none ∧ d = .non) ∨ (∃ b, p = .bool b ∧ d = .bl b) ∨ (∃ i, p = .int i ∧ d = .int i) ∨ (∃ z, p = .str z ∧ d = .str z) ∨
    (∃ ps ds, p = .list ps ∧ PyAll S ds ps ∧ (d = .lst ds ∨ ∃ k, d = .cel k ∧ S[k]? = some (.lst ds))) ∨ (∃ ps ds, p = .tuple ps ∧ PyAll S ds ps ∧ d = .tup ds) ∨ (p = .dict [] ∧ d = .dct []) := by
  unfold Py toP at h
  cases d with
  | non => simp only [tree] at h; cases h; exact .inl ⟨rfl, rfl⟩
  | bl b => simp only [tree] at h; cases h; exact .inr (.inl ⟨b, rfl, rfl⟩)
  | int i => simp only [tree] at h; cases h; exact .inr (.inr (.inl ⟨i, rfl, rfl⟩))
  | str z => simp only [tree] at h; cases h; exact .inr (.inr (.inr (.inl ⟨z, rfl, rfl⟩)))
  | lst ds =>
    simp only [tree, Option.map_eq_some_iff] at h
    obtain ⟨ps, h1, h2⟩ := h
    exact .inr (.inr (.inr (.inr (.inl ⟨ps, ds, h2.symm, h1, .inl rfl⟩))))
  | tup ds =>
    simp only [tree, Option.map_eq_some_iff] at h
    obtain ⟨ps, h1, h2⟩ := h
    exact .inr (.inr (.inr (.inr (.inr (.inl ⟨ps, ds, h2.symm, h1, rfl⟩)))))
  | fro l ds => simp only [tree] at h; cases h
  | dct es =>
    cases es with
    | nil => simp only [tree] at h; cases h; exact .inr (.inr (.inr (.inr (.inr (.inr ⟨rfl, rfl⟩)))))
    | cons => simp only [tree] at h; cases h
  | cel k =>
    simp only [tree] at h
    unfold cells at h
    split at h
    · rename_i ds es
      rw [Option.map_eq_some_iff] at h
      obtain ⟨ps, h1, h2⟩ := h
      exact .inr (.inr (.inr (.inr (.inl ⟨ps, ds, h2.symm, treeAll_mono (cells_mono 3) ds h1, .inr ⟨k, rfl, es⟩⟩))))
    · cases h
  | obj => simp only [tree] at h; cases h
  | cls => simp only [tree] at h; cases h
theorem py_ty {S : Sto} {d : D} {p : PyData} (h : Py S d p) : tyDf S d = some (tyD p) := by
  rcases py_inv h with ⟨rfl, rfl⟩ | ⟨b, rfl, rfl⟩ | ⟨b, rfl, rfl⟩ | ⟨b, rfl, rfl⟩ | ⟨ps, ds, rfl, h1, h2⟩ | ⟨ps, ds, rfl, h1, rfl⟩ | ⟨rfl, rfl⟩
  · rfl
  · rfl
  · rfl
  · rfl
  · rcases h2 with rfl | ⟨k, rfl, e⟩
    · rfl
    · unfold tyDf; dsimp only; rw [e]; rfl
  · rfl
  · rfl
/-- a list or tuple by its data -/
theorem py_sq {S : Sto} {d : D} {p : PyData} {ps : List PyData} (h : Py S d p) (e : p = .list ps ∨ p = .tuple ps) : ∃ ds g, sqOf S d = some ds ∧ itemsD S d = some (ds, g) ∧ gOk g S ∧ PyAll S ds ps := by
  rcases py_inv h with ⟨rfl, rfl⟩ | ⟨b, rfl, rfl⟩ | ⟨b, rfl, rfl⟩ | ⟨b, rfl, rfl⟩ | ⟨qs, ds, rfl, h1, h2⟩ | ⟨qs, ds, rfl, h1, rfl⟩ | ⟨rfl, rfl⟩
  · rcases e with e | e <;> cases e
  · rcases e with e | e <;> cases e
  · rcases e with e | e <;> cases e
  · rcases e with e | e <;> cases e
  · rcases e with e | e <;> cases e
    rcases h2 with rfl | ⟨k, rfl, e⟩
    · exact ⟨ds, none, rfl, rfl, trivial, h1⟩
    · refine ⟨ds, some (k, ds), ?_, ?_, e, h1⟩
      · unfold sqOf; dsimp only; rw [e]
      · unfold itemsD; dsimp only; rw [e]
  · rcases e with e | e <;> cases e
    exact ⟨ds, none, rfl, rfl, trivial, h1⟩
  · rcases e with e | e <;> cases e
end
end Fx

namespace Fx
open PySem PySem.Spec PyProof.Rows L2 U
noncomputable section
/-! ### evaluation, step by step: each equation holds by definition -/
section
variable {d e : D} {f fl : Fl} {S S1 S2 : Sto} {ρ ρ1 : Ev} {c : Nat} {fs : List (Str × D)}
theorem bE_ok {k : D → Fl → Sto → RE} : bE (.ok d f S) k = k d f S := rfl
theorem bE_xc {k : D → Fl → Sto → RE} : bE (.xc c fs S) k = .xc c fs S := rfl
theorem bS_nx {k : Ev → Sto → RSt} : bS (.nx ρ S) k = k ρ S := rfl
theorem bS_rt {k : Ev → Sto → RSt} : bS (.rt d f S) k = .rt d f S := rfl
theorem bS_bk {k : Ev → Sto → RSt} : bS (.bk ρ S) k = .bk ρ S := rfl
theorem bS_ct {k : Ev → Sto → RSt} : bS (.ct ρ S) k = .ct ρ S := rfl
theorem bS_xc {k : Ev → Sto → RSt} : bS (.xc c fs ρ S) k = .xc c fs ρ S := rfl
theorem eS_ok {k : D → Fl → Sto → RSt} : eS (.ok d f S) ρ k = k d f S := rfl
theorem eS_xc {k : D → Fl → Sto → RSt} : eS (.xc c fs S) ρ k = .xc c fs ρ S := rfl
theorem v_seq {a b : FS} : sSeq a b ρ S = bS (a ρ S) b := rfl
theorem v_next : sNext ρ S = .nx ρ S := rfl
theorem v_break : sBreak ρ S = .bk ρ S := rfl
theorem v_cont : sCont ρ S = .ct ρ S := rfl
theorem v_c : fC d ρ S = .ok d .tr S := rfl
/-! names -/
def kVar (s : Option Sl) (S : Sto) : RE := match s with
  | some (.val d) => .ok d .tr S
  | some (.own ds) => .ok (.lst ds) .pk S
  | some (.oob c fs) => .ok (.obj c fs) .pk S
  | _ => .bad
theorem v_var {i : Nat} : fVar i ρ S = kVar ρ[i]? S := by
  unfold fVar kVar; rfl
theorem kVar_val : kVar (some (.val d)) S = .ok d .tr S := rfl
theorem kVar_own {ds : List D} : kVar (some (.own ds)) S = .ok (.lst ds) .pk S := rfl
theorem kVar_oob : kVar (some (.oob c fs)) S = .ok (.obj c fs) .pk S := rfl
/-! operators -/
def kOp2 (g : D → D → Sto → RE) (d e : D) (_ : Fl) (S : Sto) : RE := g d e S
def kOp1 (g : D → D → Sto → RE) (eb : FE) (ρ : Ev) (d : D) (_ : Fl) (S : Sto) : RE := bE (eb ρ S) (kOp2 g d)
theorem v_op {g : D → D → Sto → RE} {ea eb : FE} : fOp g ea eb ρ S = bE (ea ρ S) (kOp1 g eb ρ) := rfl
theorem v_op1 {g : D → D → Sto → RE} {eb : FE} : kOp1 g eb ρ d f S = bE (eb ρ S) (kOp2 g d) := rfl
theorem v_op2 {g : D → D → Sto → RE} : kOp2 g d e f S = g d e S := rfl
def kUn (g : D → Sto → RE) (d : D) (_ : Fl) (S : Sto) : RE := g d S
theorem v_un {g : D → Sto → RE} {ea : FE} : fUn g ea ρ S = bE (ea ρ S) (kUn g) := rfl
theorem v_un1 {g : D → Sto → RE} : kUn g d f S = g d S := rfl
def kNot (d : D) (_ : Fl) (S : Sto) : RE := match d with
  | .bl b => .ok (.bl (!b)) .tr S
  | _ => .bad
theorem v_not {ea : FE} : fNot ea ρ S = bE (ea ρ S) kNot := rfl
theorem v_not1 {b : Bool} : kNot (.bl b) f S = .ok (.bl (!b)) .tr S := rfl
def kAnd (eb : FE) (ρ : Ev) (d : D) (_ : Fl) (S : Sto) : RE := match d with
  | .bl true => eb ρ S
  | .bl false => .ok (.bl false) .tr S
  | _ => .bad
theorem v_and {ea eb : FE} : fAnd ea eb ρ S = bE (ea ρ S) (kAnd eb ρ) := rfl
theorem v_andT {eb : FE} : kAnd eb ρ (.bl true) f S = eb ρ S := rfl
theorem v_andF {eb : FE} : kAnd eb ρ (.bl false) f S = .ok (.bl false) .tr S := rfl
def kOr (eb : FE) (ρ : Ev) (d : D) (_ : Fl) (S : Sto) : RE := match d with
  | .bl true => .ok (.bl true) .tr S
  | .bl false => eb ρ S
  | _ => .bad
theorem v_or {ea eb : FE} : fOr ea eb ρ S = bE (ea ρ S) (kOr eb ρ) := rfl
theorem v_orT {eb : FE} : kOr eb ρ (.bl true) f S = .ok (.bl true) .tr S := rfl
theorem v_orF {eb : FE} : kOr eb ρ (.bl false) f S = eb ρ S := rfl
def kIf (ea eb : FE) (ρ : Ev) (d : D) (_ : Fl) (S : Sto) : RE := match d with
  | .bl true => ea ρ S
  | .bl false => eb ρ S
  | _ => .bad
theorem v_if {ec ea eb : FE} : fIf ec ea eb ρ S = bE (ec ρ S) (kIf ea eb ρ) := rfl
theorem v_ifT {ea eb : FE} : kIf ea eb ρ (.bl true) f S = ea ρ S := rfl
theorem v_ifF {ea eb : FE} : kIf ea eb ρ (.bl false) f S = eb ρ S := rfl
def kCh2 (g' : D → D → Sto → RE) (e w : D) (_ : Fl) (S : Sto) : RE := g' e w S
def kCh1 (g' : D → D → Sto → RE) (ec : FE) (ρ : Ev) (e z : D) (_ : Fl) (S : Sto) : RE := match z with
  | .bl true => bE (ec ρ S) (kCh2 g' e)
  | .bl false => .ok (.bl false) .tr S
  | _ => .bad
def kCh0 (g g' : D → D → Sto → RE) (ec : FE) (ρ : Ev) (d e : D) (_ : Fl) (S : Sto) : RE := bE (g d e S) (kCh1 g' ec ρ e)
def kCh (g g' : D → D → Sto → RE) (eb ec : FE) (ρ : Ev) (d : D) (_ : Fl) (S : Sto) : RE := bE (eb ρ S) (kCh0 g g' ec ρ d)
theorem v_chain {g g' : D → D → Sto → RE} {ea eb ec : FE} : fChain g g' ea eb ec ρ S = bE (ea ρ S) (kCh g g' eb ec ρ) := rfl
theorem v_ch {g g' : D → D → Sto → RE} {eb ec : FE} : kCh g g' eb ec ρ d f S = bE (eb ρ S) (kCh0 g g' ec ρ d) := rfl
theorem v_ch0 {g g' : D → D → Sto → RE} {ec : FE} : kCh0 g g' ec ρ d e f S = bE (g d e S) (kCh1 g' ec ρ e) := rfl
theorem v_ch1T {g' : D → D → Sto → RE} {ec : FE} : kCh1 g' ec ρ e (.bl true) f S = bE (ec ρ S) (kCh2 g' e) := rfl
theorem v_ch1F {g' : D → D → Sto → RE} {ec : FE} : kCh1 g' ec ρ e (.bl false) f S = .ok (.bl false) .tr S := rfl
theorem v_ch2 {g' : D → D → Sto → RE} {w : D} : kCh2 g' e w f S = g' e w S := rfl
/-! kinds -/
def rIsi (p : Ty → Bool) (t : Option Ty) (S : Sto) : RE := match t with
  | some t => .ok (.bl (p t)) .tr S
  | none => .bad
def kIsi (p : Ty → Bool) (d : D) (_ : Fl) (S : Sto) : RE := rIsi p (tyDf S d) S
theorem v_isi {t : Ty} {fe : FE} : fIsi t fe ρ S = bE (fe ρ S) (kIsi (fun x => isT x t)) := rfl
theorem v_isiT {cs : List Ty} {fe : FE} : fIsiT cs fe ρ S = bE (fe ρ S) (kIsi (fun x => cs.any (isT x))) := rfl
theorem v_isi1 {p : Ty → Bool} : kIsi p d f S = rIsi p (tyDf S d) S := rfl
theorem v_isi2 {p : Ty → Bool} {t : Ty} : rIsi p (some t) S = .ok (.bl (p t)) .tr S := rfl
theorem ty_non : tyDf S .non = some .non := rfl
theorem ty_bl {b : Bool} : tyDf S (.bl b) = some .bl := rfl
theorem ty_int {i : Int} : tyDf S (.int i) = some .int := rfl
theorem ty_str {z : Str} : tyDf S (.str z) = some .str := rfl
theorem ty_lst {ds : List D} : tyDf S (.lst ds) = some .lst := rfl
theorem ty_tup {ds : List D} : tyDf S (.tup ds) = some .tup := rfl
theorem ty_dct {ds : List (Key × D)} : tyDf S (.dct ds) = some .dct := rfl
theorem tyd_non : tyD .none = .non := rfl
theorem tyd_bl {b : Bool} : tyD (.bool b) = .bl := rfl
theorem tyd_int {i : Int} : tyD (.int i) = .int := rfl
theorem tyd_str {z : Str} : tyD (.str z) = .str := rfl
theorem tyd_lst {ps : List PyData} : tyD (.list ps) = .lst := rfl
theorem tyd_tup {ps : List PyData} : tyD (.tuple ps) = .tup := rfl
theorem tyd_dct {ps : List (PyData × PyData)} : tyD (.dict ps) = .dct := rfl
/-! rows -/
def bA (r : RA) (k : List D → Bool → Sto → RE) : RE := match r with
  | .ok ds t S1 => k ds t S1
  | .xc c fs S1 => .xc c fs S1
  | .bad => .bad
theorem v_cb {g : List D → Bool → Sto → RE} {fa : FA} : fCB g fa ρ S = bA (fa ρ S) g := rfl
theorem bA_ok {ds : List D} {t : Bool} {k : List D → Bool → Sto → RE} : bA (.ok ds t S) k = k ds t S := rfl
theorem bA_xc {k : List D → Bool → Sto → RE} : bA (.xc c fs S) k = .xc c fs S := rfl
def kCons2 (d : D) (f : Fl) (r : RA) : RA := match r with
  | .ok ds t S2 => .ok (d :: ds) (f.nop && t) S2
  | .xc c fs S2 => .xc c fs S2
  | .bad => .bad
def kCons1 (fr : FA) (ρ : Ev) (r : RE) : RA := match r with
  | .ok d f S1 => kCons2 d f (fr ρ S1)
  | .xc c fs S1 => .xc c fs S1
  | .bad => .bad
theorem v_nil : fNil ρ S = .ok [] true S := rfl
theorem v_cons {fa : FE} {fr : FA} : fCons fa fr ρ S = kCons1 fr ρ (fa ρ S) := by
  unfold fCons kCons1 kCons2
  rfl
theorem v_cons1 {fr : FA} : kCons1 fr ρ (.ok d f S) = kCons2 d f (fr ρ S) := rfl
theorem v_cons1x {fr : FA} : kCons1 fr ρ (.xc c fs S) = .xc c fs S := rfl
theorem v_cons2 {ds : List D} {t : Bool} : kCons2 d f (.ok ds t S) = .ok (d :: ds) (f.nop && t) S := rfl
theorem v_cons2x : kCons2 d f (.xc c fs S) = .xc c fs S := rfl
theorem nop_tr : Fl.nop .tr = true := rfl
theorem nop_fs : Fl.nop .fs = true := rfl
theorem nop_pk : Fl.nop .pk = false := rfl
theorem v_lst {fa : FA} : fLst fa ρ S = bA (fa ρ S) dLst := rfl
theorem v_tup {fa : FA} : fTup fa ρ S = bA (fa ρ S) dTup := rfl
theorem d_lst {ds : List D} (h : ds.length ≤ lim) : dLst ds true S = .ok (.lst ds) .fs S := by unfold dLst; simp [h]
theorem d_tup {ds : List D} (h : ds.length ≤ lim) : dTup ds true S = .ok (.tup ds) .tr S := by unfold dTup; simp [h]
theorem v_dnew : fDNew ρ S = .ok (.dct []) .tr S := rfl
/-! calls -/
def kCall (g : FF) (dd ds : List D) (t : Bool) (S : Sto) : RE := if t = true then g (ds ++ dd) S else .bad
theorem v_call {g : FF} {dd : List D} {fa : FA} : fCall g dd fa ρ S = bA (fa ρ S) (kCall g dd) := rfl
theorem v_call1 {g : FF} {dd ds : List D} : kCall g dd ds true S = g (ds ++ dd) S := rfl
def kM1b (g : Str → D → Sto → RE) (a : Str) (e : D) (_ : Fl) (S : Sto) : RE := g a e S
def kM1 (g : Str → D → Sto → RE) (fe : FE) (ρ : Ev) (d : D) (_ : Fl) (S : Sto) : RE := match d with
  | .str a => bE (fe ρ S) (kM1b g a)
  | _ => .bad
theorem v_m1 {g : Str → D → Sto → RE} {fo fe : FE} : fM1 g fo fe ρ S = bE (fo ρ S) (kM1 g fe ρ) := rfl
theorem v_m1a {g : Str → D → Sto → RE} {fe : FE} {a : Str} : kM1 g fe ρ (.str a) f S = bE (fe ρ S) (kM1b g a) := rfl
theorem v_m1b {g : Str → D → Sto → RE} {a : Str} : kM1b g a e f S = g a e S := rfl
/-! slices -/
def kPart (r : RE) : RO := match r with
  | .ok (.int i) _ S1 => .ok (some i) S1
  | .ok _ _ _ => .bad
  | .xc c fs S1 => .xc c fs S1
  | .bad => .bad
theorem v_part {fe : FE} : fPart fe ρ S = kPart (fe ρ S) := rfl
theorem v_part1 {i : Int} : kPart (.ok (.int i) f S) = .ok (some i) S := rfl
theorem v_nopart : fNoPart ρ S = .ok none S := rfl
def kSl2 (d : D) (l u : Option Int) (S : Sto) : RE := dSl d l u S
def kSl1 (d : D) (hi : FO) (ρ : Ev) (l : Option Int) (S : Sto) : RE := bO (hi ρ S) (kSl2 d l)
def kSl (lo hi : FO) (ρ : Ev) (d : D) (_ : Fl) (S : Sto) : RE := bO (lo ρ S) (kSl1 d hi ρ)
theorem v_sl {fe : FE} {lo hi : FO} : fSl fe lo hi ρ S = bE (fe ρ S) (kSl lo hi ρ) := rfl
theorem v_sl0 {lo hi : FO} : kSl lo hi ρ d f S = bO (lo ρ S) (kSl1 d hi ρ) := rfl
theorem v_sl1 {hi : FO} {l : Option Int} : kSl1 d hi ρ l S = bO (hi ρ S) (kSl2 d l) := rfl
theorem v_sl2 {l u : Option Int} : kSl2 d l u S = dSl d l u S := rfl
theorem bO_ok {o : Option Int} {k : Option Int → Sto → RE} : bO (.ok o S) k = k o S := rfl
def kRev (d : D) (_ : Fl) (S1 : Sto) : RE := match d with
  | .str z => if z.length ≤ lim then .ok (.str (revS z)) .tr S1 else .bad
  | d => (match lsOf S1 d with
    | some ds => .ok (.lst ds.reverse) .fs S1
    | none => .bad)
theorem v_rev {fe : FE} : fRev fe ρ S = bE (fe ρ S) kRev := rfl
/-! statements -/
def kExpr (ρ : Ev) (_ : D) (_ : Fl) (S : Sto) : RSt := .nx ρ S
theorem v_expr {fe : FE} : sExpr fe ρ S = eS (fe ρ S) ρ (kExpr ρ) := rfl
theorem v_expr1 : kExpr ρ d f S = .nx ρ S := rfl
def kIfS (fa fb : FS) (ρ : Ev) (d : D) (_ : Fl) (S : Sto) : RSt := match d with
  | .bl true => fa ρ S
  | .bl false => fb ρ S
  | _ => .bad
theorem v_ifs {fc : FE} {fa fb : FS} : sIf fc fa fb ρ S = eS (fc ρ S) ρ (kIfS fa fb ρ) := rfl
theorem v_ifsT {fa fb : FS} : kIfS fa fb ρ (.bl true) f S = fa ρ S := rfl
theorem v_ifsF {fa fb : FS} : kIfS fa fb ρ (.bl false) f S = fb ρ S := rfl
def kRet (d : D) (f : Fl) (S : Sto) : RSt := if f.nop = true then .rt d f S else .bad
theorem v_ret {fe : FE} : sRet fe ρ S = eS (fe ρ S) ρ kRet := rfl
theorem v_retT : kRet d .tr S = .rt d .tr S := rfl
theorem v_retS : kRet d .fs S = .rt d .fs S := rfl
theorem v_retN : sRetN ρ S = .rt .non .tr S := rfl
def kRetV (s : Option Sl) (S : Sto) : RSt := match s with
  | some (.val d) => .rt d .tr S
  | some (.own ds) => .rt (.lst ds) .fs S
  | _ => .bad
theorem v_retV {i : Nat} : sRetV i ρ S = kRetV ρ[i]? S := by unfold sRetV kRetV; rfl
theorem v_retV1 : kRetV (some (.val d)) S = .rt d .tr S := rfl
theorem v_retV2 {ds : List D} : kRetV (some (.own ds)) S = .rt (.lst ds) .fs S := rfl
def kAsg2 (r : Option Ev) (S : Sto) : RSt := match r with
  | some ρ' => .nx ρ' S
  | none => .bad
def kAsg (g : FG) (ρ : Ev) (d : D) (f : Fl) (S : Sto) : RSt := if f.nop = true then kAsg2 (g d ρ S) S else .bad
theorem v_asg {fe : FE} {g : FG} : sAsg fe g ρ S = eS (fe ρ S) ρ (kAsg g ρ) := rfl
theorem v_asgT {g : FG} : kAsg g ρ d .tr S = kAsg2 (g d ρ S) S := rfl
theorem v_asgS {g : FG} : kAsg g ρ d .fs S = kAsg2 (g d ρ S) S := rfl
theorem v_asgN {g : FG} (h : f.nop = true) : kAsg g ρ d f S = kAsg2 (g d ρ S) S := by unfold kAsg; rw [if_pos h]
theorem v_asg2 : kAsg2 (some ρ) S = .nx ρ S := rfl
theorem v_gn {i : Nat} : gN i d ρ S = some (ρ.set i (.val d)) := rfl
def kGs (g : FGs) (ds : List D) (S : Sto) (r : Option Ev) : Option Ev := match r with
  | some ρ1 => g ds ρ1 S
  | none => none
theorem v_gsNil : gsNil [] ρ S = some ρ := rfl
theorem v_gsCons {g : FG} {gs : FGs} {ds : List D} : gsCons g gs (d :: ds) ρ S = kGs gs ds S (g d ρ S) := by
  unfold gsCons kGs; rfl
theorem v_gs {g : FGs} {ds : List D} : kGs g ds S (some ρ) = g ds ρ S := rfl
theorem v_gt {n : Nat} {g : FGs} {ds : List D} (h : ds.length = n) : gT n g (.tup ds) ρ S = g ds ρ S := by unfold gT; simp [sqOf, h]
theorem v_gl {n : Nat} {g : FGs} {ds : List D} (h : ds.length = n) : gT n g (.lst ds) ρ S = g ds ρ S := by unfold gT; simp [sqOf, h]
def kPar (i j : Nat) (ρ : Ev) (r : RA) : RSt := match r with
  | .ok [d, e] true S1 => .nx ((ρ.set i (.val d)).set j (.val e)) S1
  | .xc c fs S1 => .xc c fs ρ S1
  | _ => .bad
theorem v_par {i j : Nat} {fa : FA} : sPar i j fa ρ S = kPar i j ρ (fa ρ S) := by unfold sPar kPar; rfl
theorem v_par1 {i j : Nat} : kPar i j ρ (.ok [d, e] true S) = .nx ((ρ.set i (.val d)).set j (.val e)) S := rfl
def kAug2 (i : Nat) (g : Int → Int → Int) (x : Int) (ρ : Ev) (d : D) (_ : Fl) (S1 : Sto) : RSt := match d with
  | .int y => .nx (ρ.set i (.val (.int (g x y)))) S1
  | _ => .bad
def kAug (i : Nat) (g : Int → Int → Int) (fe : FE) (ρ : Ev) (S : Sto) (s : Option Sl) : RSt := match s with
  | some (.val (.int x)) => eS (fe ρ S) ρ (kAug2 i g x ρ)
  | _ => .bad
theorem v_aug {i : Nat} {g : Int → Int → Int} {fe : FE} : sAug i g fe ρ S = kAug i g fe ρ S ρ[i]? := by unfold sAug kAug kAug2; rfl
theorem v_aug1 {i : Nat} {g : Int → Int → Int} {fe : FE} {x : Int} : kAug i g fe ρ S (some (.val (.int x))) = eS (fe ρ S) ρ (kAug2 i g x ρ) := rfl
theorem v_aug2 {i : Nat} {g : Int → Int → Int} {x y : Int} : kAug2 i g x ρ (.int y) f S = .nx (ρ.set i (.val (.int (g x y)))) S := rfl
def kOwn (i : Nat) (ρ : Ev) (d : D) (f : Fl) (S1 : Sto) : RSt := match d, f with
  | .lst ds, .fs => .nx (ρ.set i (.own ds)) S1
  | _, _ => .bad
theorem v_own {i : Nat} {fe : FE} : sOwn i fe ρ S = eS (fe ρ S) ρ (kOwn i ρ) := rfl
theorem v_own1 {i : Nat} {ds : List D} : kOwn i ρ (.lst ds) .fs S = .nx (ρ.set i (.own ds)) S := rfl
theorem v_frz {i : Nat} {g : FS} : sFrz i g ρ S = g (frz i ρ) S := rfl
def kFrz (i : Nat) (ρ : Ev) (s : Option Sl) : Ev := match s with
  | some (.own ds) => ρ.set i (.val (.lst ds))
  | _ => ρ
theorem v_frz0 {i : Nat} : frz i ρ = kFrz i ρ ρ[i]? := by unfold frz kFrz; rfl
theorem v_frz1 {i : Nat} {ds : List D} : kFrz i ρ (some (.own ds)) = ρ.set i (.val (.lst ds)) := rfl
theorem v_frz2 {i : Nat} : kFrz i ρ (some (.val d)) = ρ := rfl
theorem v_frz3 {i : Nat} : kFrz i ρ (some .no) = ρ := rfl
theorem v_chk {i : Nat} {g : FS} (h : hasL i ρ S = true) : chk i g ρ S = g ρ S := by unfold chk; rw [if_pos h]
def kApp (i : Nat) (ρ : Ev) (d : D) (f : Fl) (S1 : Sto) : RSt := if f.nop = true then putL i ρ S1 (fun ds => if ds.length < lim then some (ds ++ [d]) else none) else .bad
theorem v_app {i : Nat} {fe : FE} : sApp i fe ρ S = eS (fe ρ S) ρ (kApp i ρ) := rfl
theorem v_app1 {i : Nat} {ds : List D} (hf : f.nop = true) (h : ρ[i]? = some (.own ds)) (hl : ds.length < lim) : kApp i ρ d f S = .nx (ρ.set i (.own (ds ++ [d]))) S := by
  unfold kApp putL; rw [if_pos hf, h]; simp [hl]
theorem v_app2 {i k : Nat} {ds : List D} (hf : f.nop = true) (h : ρ[i]? = some (.val (.cel k))) (hs : S[k]? = some (.lst ds)) (hl : ds.length < lim) : kApp i ρ d f S = .nx ρ (S.set k (.lst (ds ++ [d]))) := by
  unfold kApp putL; rw [if_pos hf, h]; dsimp only; rw [hs]; simp [hl]
def kSet2 (i : Nat) (ρ : Ev) (d e : D) (_ : Fl) (S2 : Sto) : RSt := match e with
  | .int k => putL i ρ S2 (fun ds => (ixN ds.length k).map fun j => ds.set j d)
  | _ => .bad
def kSet (i : Nat) (fi : FE) (ρ : Ev) (d : D) (f : Fl) (S1 : Sto) : RSt := if f.nop = true then (if hasL i ρ S1 = true then eS (fi ρ S1) ρ (kSet2 i ρ d) else .bad) else .bad
theorem v_set {i : Nat} {fi fe : FE} : sSetI i fi fe ρ S = eS (fe ρ S) ρ (kSet i fi ρ) := rfl
theorem v_setC {i k : Nat} {fi : FE} {ds : List D} (hf : f.nop = true) (h : ρ[i]? = some (.val (.cel k))) (hs : S[k]? = some (.lst ds)) : kSet i fi ρ d f S = eS (fi ρ S) ρ (kSet2 i ρ d) := by
  unfold kSet hasL; rw [if_pos hf, h]; simp [hs]
theorem v_setO {i : Nat} {fi : FE} {ds : List D} (hf : f.nop = true) (h : ρ[i]? = some (.own ds)) : kSet i fi ρ d f S = eS (fi ρ S) ρ (kSet2 i ρ d) := by
  unfold kSet hasL; rw [if_pos hf, h]; simp
theorem v_setC2 {i k j : Nat} {n : Int} {ds : List D} (h : ρ[i]? = some (.val (.cel k))) (hs : S[k]? = some (.lst ds)) (hj : ixN ds.length n = some j) : kSet2 i ρ d (.int n) f S = .nx ρ (S.set k (.lst (ds.set j d))) := by
  unfold kSet2 putL; simp only; rw [h]; simp [hs, hj]
theorem v_setO2 {i j : Nat} {n : Int} {ds : List D} (h : ρ[i]? = some (.own ds)) (hj : ixN ds.length n = some j) : kSet2 i ρ d (.int n) f S = .nx (ρ.set i (.own (ds.set j d))) S := by
  unfold kSet2 putL; simp only; rw [h]; simp [hj]
def kAdo (d : D) (f : Fl) (S1 : Sto) : RE := match d, f with
  | .lst ds, .fs => .ok (.cel S1.length) .tr (S1 ++ [.lst ds])
  | .lst _, _ => .bad
  | d, f => .ok d f S1
theorem v_ado {fe : FE} : fAdo fe ρ S = bE (fe ρ S) kAdo := rfl
theorem v_ado1 {ds : List D} : kAdo (.lst ds) .fs S = .ok (.cel S.length) .tr (S ++ [.lst ds]) := rfl
theorem v_ado2 (h : ∀ ds, d ≠ .lst ds) : kAdo d f S = .ok d f S := by
  unfold kAdo
  cases d <;> first | exact absurd rfl (h _) | rfl
def kXf (xf : Nat → Str → Bool) (n : Str) (s : Option Sl) (S : Sto) : RE := match s with
  | some (.exn c fs) => if xf c n = true then (match fs.lookup n with
    | some d => .ok d .tr S
    | none => .bad) else .bad
  | _ => .bad
theorem v_xf {xf : Nat → Str → Bool} {i : Nat} {n : Str} : fXf xf i n ρ S = kXf xf n ρ[i]? S := by unfold fXf kXf; rfl
theorem v_xf1 {xf : Nat → Str → Bool} {n : Str} (h : xf c n = true) (hl : fs.lookup n = some d) : kXf xf n (some (.exn c fs)) S = .ok d .tr S := by
  unfold kXf; simp [h, hl]
def kLoop (g : FG) (b : FS) (ρ : Ev) (r : RI) : RSt := match r with
  | .ok ds gd S1 => loopS gd g b ds ρ S1
  | .xc c fs S1 => .xc c fs ρ S1
  | .bad => .bad
theorem v_for {it : FI} {g : FG} {b : FS} : sFor it g b ρ S = kLoop g b ρ (it ρ S) := rfl
theorem v_for1 {g : FG} {b : FS} {ds : List D} {gd : Gd} : kLoop g b ρ (.ok ds gd S) = loopS gd g b ds ρ S := rfl
theorem v_forx {g : FG} {b : FS} : kLoop g b ρ (.xc c fs S) = .xc c fs ρ S := rfl
def kIter2 (r : Option (List D × Gd)) (S : Sto) : RI := match r with
  | some (ds, g) => .ok ds g S
  | none => .bad
def kIter (r : RE) : RI := match r with
  | .ok d f S1 => if f.nop = true then kIter2 (itemsD S1 d) S1 else .bad
  | .xc c fs S1 => .xc c fs S1
  | .bad => .bad
theorem v_iter {fe : FE} : fIter fe ρ S = kIter (fe ρ S) := by unfold fIter kIter kIter2; rfl
theorem v_iter1 : kIter (.ok d .tr S) = kIter2 (itemsD S d) S := rfl
theorem v_iter1s : kIter (.ok d .fs S) = kIter2 (itemsD S d) S := rfl
theorem v_iter2 {ds : List D} {g : Gd} : kIter2 (some (ds, g)) S = .ok ds g S := rfl
theorem it_str {z : Str} : itemsD S (.str z) = some (charsD z, none) := rfl
theorem it_lst {ds : List D} : itemsD S (.lst ds) = some (ds, none) := rfl
theorem it_tup {ds : List D} : itemsD S (.tup ds) = some (ds, none) := rfl
def kRng1 (r : RA) : RI := match r with
  | .ok [.int j] _ S1 => if -(2 ^ 62) ≤ j ∧ j < 2 ^ 62 then .ok (rngD 0 j.toNat) none S1 else .bad
  | .xc c fs S1 => .xc c fs S1
  | _ => .bad
theorem v_rng1 {fa : FA} : fRng1 fa ρ S = kRng1 (fa ρ S) := by unfold fRng1 kRng1; rfl
theorem v_rng1a {j : Int} {t : Bool} (h1 : -(2 ^ 62) ≤ j) (h2 : j < 2 ^ 62) : kRng1 (.ok [.int j] t S) = .ok (rngD 0 j.toNat) none S := by unfold kRng1; exact if_pos ⟨h1, h2⟩
def kEnum (r : RA) : RI := match r with
  | .ok [d] true S1 => (match d with
    | .str z => .ok (enumD (charsD z)) none S1
    | d => (match itemsD S1 d with
      | some (ds, g) => .ok (enumD ds) g S1
      | none => .bad))
  | .xc c fs S1 => .xc c fs S1
  | _ => .bad
theorem v_enum {fa : FA} : fEnum fa ρ S = kEnum (fa ρ S) := by unfold fEnum kEnum; rfl
theorem v_enumL {ds : List D} : kEnum (.ok [.lst ds] true S) = .ok (enumD ds) none S := rfl
theorem v_enumT {ds : List D} : kEnum (.ok [.tup ds] true S) = .ok (enumD ds) none S := rfl
/-! raise, try -/
def kRaise (c : Nat) (n : Str) (ρ : Ev) (r : RA) : RSt := match r with
  | .ok [d] true S1 => .xc c [(n, d)] ρ S1
  | .xc c' fs S1 => .xc c' fs ρ S1
  | _ => .bad
theorem v_raise {n : Str} {fa : FA} : sRaise c n fa ρ S = kRaise c n ρ (fa ρ S) := by unfold sRaise kRaise; rfl
theorem v_raise1 {n : Str} : kRaise c n ρ (.ok [d] true S) = .xc c [(n, d)] ρ S := rfl
def kTry (em : Nat → Nat → Option Bool) (l : List (Nat × Nat × FS)) (r : RSt) : RSt := match r with
  | .xc c fs ρ' S' => hand em c fs ρ' S' l
  | r => r
theorem v_try {em : Nat → Nat → Option Bool} {b : FS} {l : List (Nat × Nat × FS)} : sTry em b l ρ S = kTry em l (b ρ S) := by unfold sTry kTry; rfl
theorem v_tryN {em : Nat → Nat → Option Bool} {l : List (Nat × Nat × FS)} : kTry em l (.nx ρ S) = .nx ρ S := rfl
theorem v_tryX {em : Nat → Nat → Option Bool} {l : List (Nat × Nat × FS)} : kTry em l (.xc c fs ρ S) = hand em c fs ρ S l := rfl
theorem v_handF {em : Nat → Nat → Option Bool} {h i : Nat} {b : FS} {l : List (Nat × Nat × FS)} (e : em c h = some false) : hand em c fs ρ S ((h, i, b) :: l) = hand em c fs ρ S l := by
  conv => lhs; unfold hand
  rw [e]
theorem v_handT {em : Nat → Nat → Option Bool} {h i : Nat} {b : FS} {l : List (Nat × Nat × FS)} {ρ2 : Ev} (e : em c h = some true) (hn : noExn ρ = true) (hb : b (ρ.set i (.exn c fs)) S = .nx ρ2 S2) (hn2 : noExn (ρ2.set i .no) = true) : hand em c fs ρ S ((h, i, b) :: l) = .nx (ρ2.set i .no) S2 := by
  conv => lhs; unfold hand
  rw [e]; dsimp only
  rw [if_pos hn, hb]; dsimp only
  rw [if_pos hn2]
/-! defs -/
def kRun (r : RSt) : RE := match r with
  | .nx _ S' => .ok .non .tr S'
  | .rt d f S' => .ok d f S'
  | .xc c fs _ S' => .xc c fs S'
  | _ => .bad
theorem v_run {n m : Nat} {b : FS} {ds : List D} (h : ds.length = m) : runF n m b ds S = kRun (b (ds.map .val ++ List.replicate (n - m) .no) S) := by
  unfold runF; rw [if_pos h]; rfl
theorem v_r0 {n : Nat} {b : FS} : runF n 0 b [] S = kRun (b (List.replicate n .no) S) := rfl
theorem v_r1 {n : Nat} {b : FS} {x : D} : runF n 1 b [x] S = kRun (b (.val x :: List.replicate (n - 1) .no) S) := rfl
theorem v_r2 {n : Nat} {b : FS} {x y : D} : runF n 2 b [x, y] S = kRun (b (.val x :: .val y :: List.replicate (n - 2) .no) S) := rfl
theorem v_r3 {n : Nat} {b : FS} {x y z : D} : runF n 3 b [x, y, z] S = kRun (b (.val x :: .val y :: .val z :: List.replicate (n - 3) .no) S) := rfl
theorem v_r4 {n : Nat} {b : FS} {x y z w : D} : runF n 4 b [x, y, z, w] S = kRun (b (.val x :: .val y :: .val z :: .val w :: List.replicate (n - 4) .no) S) := rfl
theorem v_r5 {n : Nat} {b : FS} {x y z w u : D} : runF n 5 b [x, y, z, w, u] S = kRun (b (.val x :: .val y :: .val z :: .val w :: .val u :: List.replicate (n - 5) .no) S) := rfl
def kNox (r : RE) : RE := match r with
  | .xc _ _ _ => .bad
  | r => r
theorem v_nx {g : FF} {ds : List D} : noxF g ds S = kNox (g ds S) := rfl
theorem v_nx1 : kNox (.ok d f S) = .ok d f S := rfl
theorem v_run1 : kRun (.rt d f S) = .ok d f S := rfl
theorem v_run2 : kRun (.nx ρ S) = .ok .non .tr S := rfl
theorem v_run3 : kRun (.xc c fs ρ S) = .xc c fs S := rfl
theorem v_nox {g : FF} {ds : List D} (h : g ds S = .ok d f S1) : noxF g ds S = .ok d f S1 := by unfold noxF; rw [h]
end
/-! values -/
section
variable {S : Sto}
theorem d_eq_str {neg : Bool} {a b : Str} : dEqv neg (.str a) (.str b) S = .ok (.bl (neg ^^ decide (a = b))) .tr S := by
  unfold dEqv toP; simp only [tree, scalP, Bool.true_or, if_true]
  have : PyData.eqv (.str a) (.str b) = decide (a = b) := by simp [PyData.eqv]; rw [Bool.eq_iff_iff]; simp
  rw [this]
theorem d_eq_int {neg : Bool} {a b : Int} : dEqv neg (.int a) (.int b) S = .ok (.bl (neg ^^ decide (a = b))) .tr S := by
  unfold dEqv toP; simp only [tree, scalP, Bool.true_or, if_true]
  have : PyData.eqv (.int a) (.int b) = decide (a = b) := by simp [PyData.eqv]; rw [Bool.eq_iff_iff]; simp
  rw [this]
theorem d_add_int {a b : Int} : dAdd (.int a) (.int b) S = .ok (.int (a + b)) .tr S := rfl
theorem d_add_str {a b : Str} (h : a.length + b.length ≤ lim) : dAdd (.str a) (.str b) S = .ok (.str (a ++ b)) .tr S := by unfold dAdd; simp [h]
theorem d_add_lst {a b : List D} (h : a.length + b.length ≤ lim) : dAdd (.lst a) (.lst b) S = .ok (.lst (a ++ b)) .fs S := by unfold dAdd; simp [h, lsOf]
theorem d_sub {a b : Int} : dSub (.int a) (.int b) S = .ok (.int (a - b)) .tr S := rfl
theorem d_mul {a b : Int} (h : CMul a b) : dMul (.int a) (.int b) S = .ok (.int (a * b)) .tr S := by unfold dMul; simp [h]
theorem d_fdiv {a b : Int} (h : CDiv a b) : dFdiv (.int a) (.int b) S = .ok (.int (a / b)) .tr S := by unfold dFdiv; simp [h]
theorem d_mod {a b : Int} (h : 0 < b) : dMod (.int a) (.int b) S = .ok (.int (a % b)) .tr S := by unfold dMod; simp [h]
theorem d_pow {a b : Int} (h : CPow a b) : dPow (.int a) (.int b) S = .ok (.int (a ^ b.toNat)) .tr S := by unfold dPow; simp [h]
theorem d_cmp {p : Int → Int → Bool} {q : List Nat → List Nat → Bool} {a b : Int} : dCmp p q (.int a) (.int b) S = .ok (.bl (p a b)) .tr S := rfl
theorem d_len_str {z : Str} {t : Bool} (h : z.length ≤ lim) : dLen [.str z] t S = .ok (.int z.length) .tr S := by unfold dLen; simp [h]
theorem d_len_lst {ds : List D} {t : Bool} : dLen [.lst ds] t S = .ok (.int ds.length) .tr S := rfl
theorem d_len_tup {ds : List D} {t : Bool} : dLen [.tup ds] t S = .ok (.int ds.length) .tr S := rfl
theorem d_len_fro {l : Bool} {ds : List D} {t : Bool} : dLen [.fro l ds] t S = .ok (.int ds.length) .tr S := rfl
theorem d_ix_tup {ds : List D} {i : Int} {x : D} (h : atI ds i = some x) : dIx (.tup ds) (.int i) S = .ok x .tr S := by unfold dIx; simp [sqOf, h]
theorem d_ix_lst {ds : List D} {i : Int} {x : D} (h : atI ds i = some x) : dIx (.lst ds) (.int i) S = .ok x .tr S := by unfold dIx; simp [sqOf, h]
theorem d_ix_fro {l : Bool} {ds : List D} {i : Int} {x : D} (h : atI ds i = some x) : dIx (.fro l ds) (.int i) S = .ok x .tr S := by unfold dIx; simp [sqOf, h]
theorem d_ix_cel {k : Nat} {ds : List D} {i : Int} {x : D} (hs : S[k]? = some (.lst ds)) (h : atI ds i = some x) : dIx (.cel k) (.int i) S = .ok x .tr S := by unfold dIx; simp [sqOf, hs, h]
theorem d_ix_str {z : Str} {i : Int} {c : Nat} (hl : z.length ≤ lim) (h : atI (sl z) i = some c) : dIx (.str z) (.int i) S = .ok (.str ⟨#[c]⟩) .tr S := by unfold dIx; simp [hl, h]
theorem d_in_str {neg : Bool} {w z : Str} {c : Nat} (h : sl w = [c]) : dIn neg (.str w) (.str z) S = .ok (.bl (if neg then !decide (c ∈ sl z) else decide (c ∈ sl z))) .tr S := by unfold dIn; simp [h]
theorem d_len_sq {d : D} {ds : List D} {t : Bool} (h : sqOf S d = some ds) : dLen [d] t S = .ok (.int ds.length) .tr S := by
  unfold dLen
  cases d <;> first | (cases h; done) | (simp only [h])
theorem d_ix_sq {d : D} {ds : List D} {i : Int} {x : D} (h : sqOf S d = some ds) (hx : atI ds i = some x) : dIx d (.int i) S = .ok x .tr S := by
  unfold dIx
  cases d <;> first | (cases h; done) | (simp only [h, hx])
theorem d_nil {neg : Bool} {ds : List D} : dNil neg (.lst ds) (.lst []) S = .ok (.bl (neg ^^ ds.isEmpty)) .tr S := rfl
theorem d_mul_str {z : Str} {k : Int} (h : MulOk z k) : dMul (.str z) (.int k) S = .ok (.str (Txt.mul z k)) .tr S := by unfold dMul; simp [h]
theorem d_mul_lst {a : List D} {k : Int} (h1 : -(2 ^ 63) ≤ k) (h2 : k < 2 ^ 63) (h3 : a.length * k.toNat ≤ lim) : dMul (.lst a) (.int k) S = .ok (.lst (List.replicate k.toNat a).flatten) .fs S := by unfold dMul; simp only [lsOf]; exact if_pos ⟨h1, h2, h3⟩
theorem d_max {i j : Int} {t : Bool} : dMax [.int i, .int j] t S = .ok (.int (if j > i then j else i)) .tr S := rfl
theorem d_min {i j : Int} {t : Bool} : dMin [.int i, .int j] t S = .ok (.int (if j < i then j else i)) .tr S := rfl
theorem d_all {es : List D} {bs : List Bool} {t : Bool} (h : bools es = some bs) : dAll [.lst es] t S = .ok (.bl (bs.all id)) .tr S := by unfold dAll dQu; simp [lsOf, h]
theorem d_any {es : List D} {bs : List Bool} {t : Bool} (h : bools es = some bs) : dAny [.lst es] t S = .ok (.bl (bs.any id)) .tr S := by unfold dAny dQu; simp [lsOf, h]
theorem d_sl_lst {ds : List D} {lo hi : Option Int} : dSl (.lst ds) lo hi S = .ok (.lst (cutD ds lo hi)) .fs S := rfl
theorem d_sl_str {z : Str} {lo hi : Option Int} (h : z.length ≤ lim) : dSl (.str z) lo hi S = .ok (.str (cutS z lo hi)) .tr S := by unfold dSl; simp [h]
theorem d_join {a : Str} {ds : List D} {ys : List Str} (h : strsD ds = some ys) (hl : (ys.map (·.length)).sum + ys.length * a.length ≤ lim) : dJoin a (.lst ds) S = .ok (.str (Txt.join a ys)) .tr S := by unfold dJoin; simp [sqOf, h, hl]
theorem d_repr {d : D} {p : PyData} {t : Bool} (h : Py S d p) (ok : Okd p) : dRepr [d] t S = .ok (.str p.shown) .tr S := by unfold dRepr; unfold Py at h; simp [h, ok]
theorem d_list {ds : List D} {t : Bool} : dList [.lst ds] t S = .ok (.lst ds) .fs S := rfl
theorem d_listT {ds : List D} {t : Bool} : dList [.tup ds] t S = .ok (.lst ds) .fs S := rfl
theorem d_tuple {ds : List D} {t : Bool} : dTuple [.lst ds] t S = .ok (.tup ds) .tr S := rfl
theorem d_isN {neg : Bool} {d : D} : dIsN neg d .non S = .ok (.bl (if neg then !Fx.isNon d else Fx.isNon d)) .tr S := rfl
theorem d_isB {neg j k : Bool} : dIs neg (.bl j) (.bl k) S = .ok (.bl (if neg then !decide (j = k) else decide (j = k))) .tr S := rfl
end
end
end Fx

/-! ### objects: fields, methods, making -/
namespace Fx
open PySem PySem.Spec PyProof.Rows L2 U
noncomputable section
/-- class c has fields of its own named f -/
def FldOk (K : PySem.W.Frag) (ca : Nat → Addr) (cf : Nat → Str → Bool) : Prop := ∀ c f, cf c f = true → Cls K (ca c) ∧ NoAttr K (ca c) f
def putD (f : Str) (d : D) : List (Str × D) → List (Str × D)
  | [] => [(f, d)]
  | (g, x) :: r => if g = f then (g, d) :: r else (g, x) :: putD f d r
section
variable {K : PySem.W.Frag} {ca : Nat → Addr} {ι B : List Addr} {H : Hp}
theorem RFs.put {f : Str} {d : D} {v : V} (r : RV K ca ι B H v d) : ∀ {es : List (Str × D)} {fs : List (Str × V)}, RFs K ca ι B H fs es → RFs K ca ι B H (putF f v fs) (putD f d es)
  | [], _, h => by cases h; exact .cons r .nil
  | (g, x) :: es, _, h => by
    cases h with
    | cons h1 h2 =>
      unfold putF putD
      split
      · exact .cons r h2
      · exact .cons h1 (RFs.put r h2)
theorem RFs.len : ∀ {es : List (Str × D)} {fs : List (Str × V)}, RFs K ca ι B H fs es → fs.length = es.length
  | [], _, h => by cases h; rfl
  | (g, x) :: es, _, h => by
    cases h with
    | cons h1 h2 => rw [List.length_cons, List.length_cons, RFs.len h2]
theorem RFs.look0 {es : List (Str × D)} {fs : List (Str × V)} {f : Str} (h : RFs K ca ι B H fs es) (e : es.lookup f = none) : fs.lookup f = none := by
  rcases h.look (f := f) with ⟨d, v, h1, _⟩ | ⟨_, h2⟩
  · rw [e] at h1; cases h1
  · exact h2
theorem RFs.look1 {es : List (Str × D)} {fs : List (Str × V)} {f : Str} {d : D} (h : RFs K ca ι B H fs es) (e : es.lookup f = some d) : ∃ v, fs.lookup f = some v ∧ RV K ca ι B H v d := by
  rcases h.look (f := f) with ⟨d', v, h1, h2, h3⟩ | ⟨h1, _⟩
  · rw [e] at h1; cases h1; exact ⟨v, h2, h3⟩
  · rw [e] at h1; cases h1
end
section
variable {G : Gm} {E : WX} {F : Fr} {Dd : Ends} {ι ω ι1 ω1 : List Addr} {ρ : Ev} {S S1 : Sto} {σ : L2.St} {H H1 : Hp} {Q : VK}
theorem ob_at {v : V} {c : Nat} {es : List (Str × D)} {B : List Addr} (h : RT G.K G.ca ι B H v (.obj c es)) : ∃ a dx fs, v = .ref a ∧ H a = some (.ins (G.ca c) dx fs) ∧ RFs G.K G.ca ι B H fs es := by
  cases h with
  | v h => cases h with | obj h1 h2 h3 h4 => exact ⟨_, _, _, rfl, h3, h4⟩
  | o h1 h2 h3 => exact ⟨_, _, _, rfl, h2, h3⟩
theorem se_cls (c : Nat) : SE G E (tC (.ref (G.ca c))) (fC (.cls c)) := fun F ι ω ρ S σ H Q r h => PostE.now h r (.cls c)
/-! ### e.f -/
def fFld (cf : Nat → Str → Bool) (f : Str) (fe : FE) : FE := fun ρ S => bE (fe ρ S) fun d _ S1 => (match d with
  | .obj c es => if cf c f = true then (match es.lookup f with
    | some x => .ok x .tr S1
    | none => .bad) else .bad
  | _ => .bad)
theorem se_fld {cf : Nat → Str → Bool} (hcf : FldOk G.K G.ca cf) {f : Str} {te : TE} {fe : FE} (he : SE G E te fe) : SE G E (tFld G.K te f) (fFld cf f fe) := by
  intro F ι ω ρ S σ H Q rel h
  refine he.bind rel h fun d fl S1 ι1 v H1 e1 r1 rf1 h1 => ?_
  split at h1
  · rename_i c es
    split at h1
    · rename_i hc
      split at h1
      · rename_i x ex
        obtain ⟨a, dx, fs, rfl, q1, q2⟩ := ob_at rf1.rt
        obtain ⟨w, q3, q4⟩ := q2.look1 ex
        exact ⟨a, _, dx, fs, w, rfl, q1, (hcf _ _ hc).1, (hcf _ _ hc).2, q3, PostE.now h1 r1 q4⟩
      · exact h1.elim
    · exact h1.elim
  · exact h1.elim
/-! ### self.f = e, within __init__ -/
def sSetF (cf : Nat → Str → Bool) (i : Nat) (f : Str) (fe : FE) : FS := fun ρ S => eS (fe ρ S) ρ fun d fl S1 => if fl.nop = true then (match ρ[i]? with
  | some (.oob c es) => if (cf c f && decide (es.length < 100)) = true then .nx (ρ.set i (.oob c (putD f d es))) S1 else .bad
  | _ => .bad) else .bad
theorem ss_setF {cf : Nat → Str → Bool} (hcf : FldOk G.K G.ca cf) {i : Nat} {f : Str} {te : TE} {fe : FE} (he : SE G E te fe) : SS G E (sFld G.K (uVar i) te f) (sSetF cf i f fe) := by
  intro F D ι ω ρ S σ H rel h
  refine he.bindS rel h fun d fl S1 ι1 v H1 e1 r1 rf h1 => ?_
  split at h1
  · rename_i hf
    split at h1
    · rename_i c es e
      split at h1
      · rename_i hc
        rw [Bool.and_eq_true] at hc
        obtain ⟨a, dx, fs, q1, q2, q0, q3, q4⟩ := slot_oob r1 e
        show uVar i σ H1 _
        unfold uVar
        rw [q1]
        refine ⟨a, _, dx, fs, rfl, q3, (hcf _ _ hc.1).1, (hcf _ _ hc.1).2, by rw [q4.len]; have := of_decide_eq_true hc.2; omega, ?_⟩
        have rv := rf.rv (by intro z; subst z; cases hf)
        refine h1 ι1 ω σ _ (ExtS.mut q2) (r1.mut e rfl q1 q2 (.oob q2 q0 upd_same ?_) rfl)
        exact (q4.put rv).per (Per.upd (.inr (List.mem_append_right _ q2)))
      · exact h1.elim
    · exact h1.elim
  · exact h1.elim
end
/-! ### o.m(..) -/
def lookF {α : Type} (c : Nat) : List (Nat × α) → Option α
  | [] => none
  | (k, f) :: l => if k = c then some f else lookF c l
theorem lookF_mem {α : Type} {c : Nat} {f : α} : ∀ {l : List (Nat × α)}, lookF c l = some f → (c, f) ∈ l
  | [], h => by cases h
  | (k, g) :: l, h => by
    unfold lookF at h
    split at h
    · rename_i e; subst e; cases h; exact List.mem_cons_self
    · exact List.mem_cons_of_mem _ (lookF_mem h)
def kMeth (tab : List (Nat × FF)) (m : Str) (fa : FA) (ρ : Ev) (d : D) (f : Fl) (S : Sto) : RE := match d with
  | .obj c es => if (f.nop && (es.lookup m).isNone) = true then (match lookF c tab with
    | some F => fCB (fun ds t S2 => if t = true then F (.obj c es :: ds) S2 else .bad) fa ρ S
    | none => .bad) else .bad
  | _ => .bad
def fMeth (tab : List (Nat × FF)) (m : Str) (fo : FE) (fa : FA) : FE := fun ρ S => bE (fo ρ S) (kMeth tab m fa ρ)
abbrev spTab (K : PySem.W.Frag) (ca : Nat → Addr) (tab : List (Nat × FF)) : List (Addr × Sp) := tab.map fun p => (ca p.1, SpF K ca p.2)
section
variable {G : Gm} {E : WX}
theorem se_meth {tab : List (Nat × FF)} {st : List (Addr × Sp)} {m : Str} {to : TE} {fo : FE} {ta : TA} {fa : FA} (ho : SE G E to fo) (ha : SA G E ta fa) (hst : st = spTab G.K G.ca tab := by rfl) : SE G E (uMeth m st (WE E) to ta) (fMeth tab m fo fa) := by
  subst hst
  intro F ι ω ρ S σ H Q rel h
  refine ho.bind rel h fun d f S1 ι1 v H1 e1 r1 rf1 h1 => ?_
  unfold kMeth at h1
  split at h1
  · rename_i c es
    split at h1
    · rename_i hc
      rw [Bool.and_eq_true] at hc
      split at h1
      · rename_i g eg
        have rv := rf1.rv (by intro z; subst z; cases hc.1)
        obtain ⟨a, dx, fs, rfl, q1, q2⟩ := ob_at rf1.rt
        refine ⟨_, _, a, dx, fs, List.mem_map.mpr ⟨_, lookF_mem eg, rfl⟩, rfl, q1, q2.look0 (Option.isNone_iff_eq_none.mp hc.2), ?_⟩
        refine sa_then ha r1 h1 fun ds t S2 ι2 vs H2 e2 r2 ra h2 => ?_
        split at h2
        · rename_i ht
          subst ht
          exact spf_of (fun cls d H z => z) r2 (.cons (rv.ex e2) ra) h2
        · exact h2.elim
      · exact h1.elim
    · exact h1.elim
  · exact h1.elim
end
/-! ### f(o) by a special method -/
def kSp1 (tab : List (Nat × FF)) (ok : D → Bool) (d : D) (f : Fl) (S : Sto) : RE := match d with
  | .obj c es => if f.nop = true then (match lookF c tab with
    | some F => bE (F [.obj c es] S) fun r fl S2 => if (ok r && fl.nop) = true then .ok r .tr S2 else .bad
    | none => .bad) else .bad
  | _ => .bad
def fSp1 (tab : List (Nat × FF)) (ok : D → Bool) (fo : FE) : FE := fun ρ S => bE (fo ρ S) (kSp1 tab ok)
def isStrD : D → Bool
  | .str _ => true
  | _ => false
def isLenD : D → Bool
  | .int n => decide (0 ≤ n ∧ n < 2 ^ 63)
  | _ => false
section
variable {G : Gm} {E : WX}
theorem se_sp1 {tab : List (Nat × FF)} {st : List (Addr × Sp)} {ok : D → Bool} {okV : V → Prop} {to : TE} {fo : FE} (ho : SE G E to fo) (hok : ∀ {ι B : List Addr} {H : Hp} {v : V} {d : D}, RT G.K G.ca ι B H v d → ok d = true → okV v) (hst : st = spTab G.K G.ca tab := by rfl) : SE G E (uSp1 st (WE E) okV to) (fSp1 tab ok fo) := by
  subst hst
  intro F ι ω ρ S σ H Q rel h
  refine ho.bind rel h fun d f S1 ι1 v H1 e1 r1 rf1 h1 => ?_
  unfold kSp1 at h1
  split at h1
  · rename_i c es
    split at h1
    · rename_i hc
      split at h1
      · rename_i g eg
        have rv := rf1.rv (by intro z; subst z; cases hc)
        obtain ⟨a, dx, fs, rfl, q1, q2⟩ := ob_at rf1.rt
        refine ⟨_, _, a, dx, fs, List.mem_map.mpr ⟨_, lookF_mem eg, rfl⟩, rfl, q1, ?_⟩
        refine spf_of (fun cls d H z => z) r1 (.cons rv .nil) (PostE.bind h1 fun r fl S2 ι2 w H2 e2 r2 rf2 h2 => ?_)
        split at h2
        · rename_i hr
          rw [Bool.and_eq_true] at hr
          exact ⟨hok rf2.rt hr.1, PostE.now h2 r2 (rf2.rv (by intro z; subst z; cases hr.2))⟩
        · exact h2.elim
      · exact h1.elim
    · exact h1.elim
  · exact h1.elim
theorem okS_str {ι B : List Addr} {H : Hp} {v : V} {d : D} (h : RT G.K G.ca ι B H v d) (e : isStrD d = true) : okStr v := by
  cases d with
  | str z => rw [h.sStr]; trivial
  | _ => cases e
theorem okS_len {ι B : List Addr} {H : Hp} {v : V} {d : D} (h : RT G.K G.ca ι B H v d) (e : isLenD d = true) : okLen v := by
  cases d with
  | int z => rw [h.sInt]; exact (show 0 ≤ z ∧ z < 2 ^ 63 from of_decide_eq_true e)
  | _ => cases e
end
/-! ### __init__ -/
/-- the heap without x -/
def hide (H : Hp) (x : Addr) : Hp := fun a => if a = x then none else H a
theorem hide_at {H : Hp} {x a : Addr} {o : HO} (h : hide H x a = some o) : a ≠ x ∧ H a = some o := by
  unfold hide at h
  split at h
  · cases h
  · rename_i n; exact ⟨n, h⟩
theorem hide_self {H : Hp} {x : Addr} : hide H x x = none := by unfold hide; rw [if_pos rfl]
theorem hide_ne {H : Hp} {x a : Addr} (h : a ≠ x) : hide H x a = H a := by unfold hide; rw [if_neg h]
inductive RIn where
  | ok (es : List (Str × D)) (S : Sto) | xc (c : Nat) (fs : List (Str × D)) (S : Sto) | bad
/-- class, fields so far, arguments behind self -/
abbrev FIn := Nat → List (Str × D) → List D → Sto → RIn
def PostIn (K : PySem.W.Frag) (ca : Nat → Addr) (ι B : List Addr) (x : Addr) (c : Nat) (H : Hp) (Q : VK) (E : XK) : RIn → Prop
  | .ok es' S' => ∀ ι' dx' fs' H', ExtS ι [x] H ι' [x] H' → ι'.Nodup → x ∉ ι' → H' x = some (.ins (ca c) dx' fs') → RFs K ca ι' (x :: B) H' fs' es' → RS K ca ι' (x :: B) H' S' → Q .non H'
  | .xc c' fs S' => ∀ ι' dd fv H', Ext ι (hide H x) ι' H' → ι'.Nodup → RS K ca ι' B H' S' → dd ∉ ι' → dd ∉ B → H' dd = some (.xd fv) → RFs K ca ι' B H' fv fs → E (.ref (ca c')) (some dd) H'
  | .bad => False
def SpI (K : PySem.W.Frag) (ca : Nat → Addr) (f : FIn) : Sp := fun vs H Q E => ∃ ι B S c x dx fs es ws ds, vs = .ref x :: ws ∧ ι.Nodup ∧ (∀ b ∈ B, H b ≠ none ∧ b ∉ ι ∧ b ≠ x) ∧ x ∉ ι ∧ H x = some (.ins (ca c) dx fs) ∧ RFs K ca ι (x :: B) H fs es ∧ RS K ca ι (x :: B) H S ∧ RAll K ca ι (x :: B) H ws ds ∧ PostIn K ca ι B x c H Q E (f c es ds S)
def kRunI (c : Nat) : RSt → RIn
  | .nx ρ' S' => (match ρ'[0]? with
    | some (Sl.oob c' es') => if c' = c then .ok es' S' else .bad
    | _ => .bad)
  | .xc c' fs _ S' => .xc c' fs S'
  | _ => .bad
def runI (n m : Nat) (b : FS) : FIn := fun c es ds S => if ds.length + 1 = m then kRunI c (b (.oob c es :: (ds.map .val ++ List.replicate (n - m) .no)) S) else .bad
section
variable {K : PySem.W.Frag} {ca : Nat → Addr} {H : Hp} {Q : VK} {E : XK} {vs : List V}
theorem runI_len {N P : List Str} {b : FS} (h : SpI K ca (runI N.length P.length b) vs H Q E) : vs.length = P.length := by
  obtain ⟨ι, B, S, c, x, dx, fs, es, ws, ds, rfl, h1, h2, h3, h4, h5, h6, h7, h8⟩ := h
  unfold runI at h8
  split at h8
  · rename_i e; rw [List.length_cons, h7.len]; exact e
  · exact h8.elim
theorem startI {ι B : List Addr} {S : Sto} {c : Nat} {x dx : Addr} {fs : List (Str × V)} {es : List (Str × D)} {ws : List V} {ds : List D} {N : List Str} (h1 : ι.Nodup) (h2 : ∀ b ∈ B, H b ≠ none ∧ b ∉ ι ∧ b ≠ x) (h3 : x ∉ ι) (h4 : H x = some (.ins (ca c) dx fs)) (h5 : RFs K ca ι (x :: B) H fs es)
    (h6 : RS K ca ι (x :: B) H S) (h7 : RAll K ca ι (x :: B) H ws ds) : Rel ⟨K, ca, none, some x⟩ ⟨hide H x, ι, B⟩ ι [x] (.oob c es :: (ds.map .val ++ List.replicate (N.length - (ds.length + 1)) .no)) S (L2.start N (.ref x :: ws)) H := by
  have sb : ∀ a ∈ B ++ [x], a ∈ x :: B := fun a ha => by
    rcases List.mem_append.mp ha with z | z
    · exact List.mem_cons_of_mem _ z
    · rw [List.mem_singleton.mp z]; exact List.mem_cons_self
  have pl : Per ι (x :: B) H ι (B ++ [x]) H := Per.less sb
  refine ⟨List.prefix_rfl, fun a o h _ => (hide_at h).2, fun a h => ?_, fun a h n => absurd h n, fun a h => ?_, fun a h => ⟨?_, (h2 a h).2.1⟩, h1, fun a h => ?_, fun a h => ?_, h6.less sb, ?_, fun i s o e1 e2 => ?_, fun i j a s s' hij e1 e2 e3 e4 => ?_⟩
  · cases e : hide H x a with
    | none => exact absurd e h
    | some o => rw [(hide_at e).2]; simp
  · rw [List.mem_singleton.mp h]; exact hide_self
  · show hide H x a ≠ none
    rw [hide_ne (h2 a h).2.2]; exact (h2 a h).1
  · rw [List.mem_singleton.mp h]; exact h3
  · rw [List.mem_singleton.mp h, h4]; simp
  · unfold L2.start; simp only [List.length_cons, List.length_append, List.length_map, List.length_replicate, h7.len]; omega
  · cases i with
    | zero =>
      unfold L2.start at e2
      simp only [List.getElem?_cons_zero, List.map_cons, List.cons_append] at e1 e2
      cases e1; cases e2
      exact .oob List.mem_cons_self rfl h4 (h5.per pl)
    | succ i =>
      unfold L2.start at e2
      simp only [List.getElem?_cons_succ, List.map_cons, List.cons_append] at e1 e2
      by_cases hi : i < ds.length
      · rw [List.getElem?_append_left (by rw [List.length_map]; exact hi), List.getElem?_map, List.getElem?_eq_getElem hi] at e1
        cases e1
        obtain ⟨v, q1, q2⟩ := h7.at i (List.getElem?_eq_getElem hi)
        rw [List.getElem?_append_left (by rw [List.length_map, h7.len]; exact hi), List.getElem?_map, q1] at e2
        cases e2
        exact .val (q2.per pl)
      · rw [List.getElem?_append_right (by rw [List.length_map]; omega), List.getElem?_replicate] at e1
        split at e1
        · cases e1; exact .no
        · cases e1
  · exfalso
    have no : ∀ (i : Nat) (s : Sl), (ds.map Sl.val ++ List.replicate (N.length - (ds.length + 1)) .no)[i]? = some s → isOwn s = true → False := fun i s e1 e3 => by
      by_cases hi : i < ds.length
      · rw [List.getElem?_append_left (by rw [List.length_map]; exact hi), List.getElem?_map, List.getElem?_eq_getElem hi] at e1
        cases e1; cases e3
      · rw [List.getElem?_append_right (by rw [List.length_map]; omega), List.getElem?_replicate] at e1
        split at e1
        · cases e1; cases e3
        · cases e1
    cases i with
    | zero =>
      cases j with
      | zero => exact hij rfl
      | succ j => rw [List.getElem?_cons_succ] at e2; exact no j _ e2 e4
    | succ i => rw [List.getElem?_cons_succ] at e1; exact no i _ e1 e3
theorem runI_ok {N P : List Str} {t : TS} {b : FS} (hb : ∀ x, SS ⟨K, ca, none, some x⟩ (fun cls d _ H => E cls d H) t b) (h : SpI K ca (runI N.length P.length b) vs H Q E) : t { nx := fun _ H' => Q .non H', rt := Q } (L2.start N vs) H := by
  obtain ⟨ι, B, S, c, x, dx, fs, es, ws, ds, rfl, h1, h2, h3, h4, h5, h6, h7, h8⟩ := h
  unfold runI at h8
  split at h8
  · rename_i el
    refine hb x ⟨hide H x, ι, B⟩ _ ι [x] _ S _ H (startI h1 h2 h3 h4 h5 h6 h7) ?_
    rw [el]
    have ext : ∀ {ι' ω' : List Addr} {ρ' : Ev} {S' : Sto} {σ' : L2.St} {H' : Hp}, ExtS ι [x] H ι' ω' H' → Rel ⟨K, ca, none, some x⟩ ⟨hide H x, ι, B⟩ ι' ω' ρ' S' σ' H' → x ∉ ι' → H' x ≠ none → ExtS ι [x] H ι' [x] H' := fun {ι' ω' ρ' S' σ' H'} e r n hx => by
      refine ⟨e.pre, e.keep, e.newi, fun a h n => absurd h n, e.dom⟩
    cases e : b (.oob c es :: (ds.map .val ++ List.replicate (N.length - P.length) .no)) S with
    | nx ρ' S' =>
      rw [e] at h8
      intro ι' ω' σ' H' ex r
      unfold kRunI at h8
      dsimp only at h8
      split at h8
      · rename_i c' es' e0
        split at h8
        · rename_i ec
          subst ec
          obtain ⟨a, dx', fs', q1, q2, q0, q3, q4⟩ := slot_oob r e0
          cases q0
          have sb : ∀ a ∈ x :: B, a ∈ B ++ ω' := fun a ha => by
            rcases List.mem_cons.mp ha with z | z
            · subst z; exact List.mem_append_right _ q2
            · exact List.mem_append_left _ z
          exact h8 ι' dx' fs' H' (ext ex r (r.dj _ q2) (nn q3)) r.nd (r.dj _ q2) q3 (q4.per (Per.less sb)) (r.sto.less sb)
        · exact h8.elim
      · exact h8.elim
    | xc c' fs' ρ' S' =>
      rw [e] at h8
      intro ι' ω' σ' dd fv H' ex r n1 n2 g1 g2
      have sb : ∀ a ∈ B, a ∈ B ++ ω' := fun a z => List.mem_append_left _ z
      exact h8 ι' dd fv H' r.ext0 r.nd (r.sto.less sb) n1 (fun z => n2 (sb _ z)) g1 (g2.per (Per.less sb))
    | rt d f S' => rw [e] at h8; exact h8.elim
    | bk => rw [e] at h8; exact h8.elim
    | ct => rw [e] at h8; exact h8.elim
    | bad => rw [e] at h8; exact h8.elim
  · exact h8.elim
end
/-- C(..) -/
def kMk (c : Nat) (f : FIn) (ds : List D) (S : Sto) : RE := match f c [] ds S with
  | .ok es S' => .ok (.obj c es) .fs S'
  | .xc c' fs S' => .xc c' fs S'
  | .bad => .bad
def fMk (c : Nat) (f : FIn) (dd : List D) (fa : FA) : FE := fCB (fun ds t S => if t = true then kMk c f (ds ++ dd) S else .bad) fa
section
variable {G : Gm} {E : WX} {F : Fr} {ι ω : List Addr} {ρ : Ev} {S : Sto} {σ : L2.St} {H : Hp} {Q : VK}
theorem mk_of {c : Nat} {f : FIn} {ws : List V} {ds : List D} {E' : XK} (hE : ∀ cls d H, E cls d σ H → E' cls d H) (rel : Rel G F ι ω ρ S σ H) (ra : RAll G.K G.ca ι (F.B0 ++ ω) H ws ds) (h : PostE G E F ι ω ρ σ H Q (kMk c f ds S)) (x dx : Addr) (hx : H x = none) (hd : H dx = none) (hne : dx ≠ x) :
    SpI G.K G.ca f (.ref x :: ws) (upd (upd H dx (.own x)) x (.ins (G.ca c) dx [])) (fun v H2 => v = .non ∧ Q (.ref x) H2) E' := by
  have hx1 : (upd H dx (.own x)) x = none := by rw [upd_ne hne.symm]; exact hx
  have e1 : Ext ι H ι (upd (upd H dx (.own x)) x (.ins (G.ca c) dx [])) := (Ext.new1 hd).trans (Ext.new1 hx1)
  have pp : Per ι (F.B0 ++ ω) H ι (x :: (F.B0 ++ ω)) (upd (upd H dx (.own x)) x (.ins (G.ca c) dx [])) := (Per.new hd).trans (Per.add hx1)
  have r1 := rel.new (o := .own x) hd
  have r2 := r1.new (o := .ins (G.ca c) dx []) hx1
  refine ⟨ι, F.B0 ++ ω, S, c, x, dx, [], [], ws, ds, rfl, rel.nd, fun b hb => ⟨r2.bd b hb, rel.bi b hb, fun z => ?_⟩, rel.offi hx, upd_same, .nil, ?_, ra.per pp, ?_⟩
  · subst z; exact rel.bd _ hb hx
  · exact rel.sto.per (fun a ha => by
      rw [upd_ne (fun z => rel.sto.here a ha (by rw [z]; exact hx)), upd_ne (fun z => rel.sto.here a ha (by rw [z]; exact hd))]) pp
  · have up : ∀ a o, H a = some o → (upd (upd H dx (.own x)) x (.ins (G.ca c) dx [])) a = some o ∧ a ≠ x := fun a o h => by
      have n1 : a ≠ x := ne_of_none h hx
      have n2 : a ≠ dx := ne_of_none h hd
      rw [upd_ne n1, upd_ne n2]; exact ⟨h, n1⟩
    unfold kMk at h
    cases e : f c [] ds S with
    | ok es S' =>
      rw [e] at h
      intro ι' dx' fs' H' ex nd nx hx' rf rs
      have x2 : Ext ι H ι' H' := ⟨ex.pre, fun a o h n => ex.keep a o (up a o h).1 n (by simpa using (up a o h).2), fun a h n => none_of e1.dom (ex.newi a h n), fun a h => ex.dom a (e1.dom a h)⟩
      have sb : ∀ a ∈ F.B0 ++ ω, a ∈ x :: (F.B0 ++ ω) := fun a z => List.mem_cons_of_mem _ z
      exact ⟨rfl, h ι' (.ref x) H' x2 (rel.ex x2 nd (rs.less sb)) (.o nx (rel.offb hx) hx hx' rf rs)⟩
    | xc c' fs S' =>
      rw [e] at h
      intro ι' dd fv H' ex nd rs n1 n2 g1 g2
      have x2 : Ext ι H ι' H' := by
        refine ⟨ex.pre, fun a o h n => ex.keep a o (by rw [hide_ne (up a o h).2]; exact (up a o h).1) n, fun a h n => ?_, fun a h => ?_⟩
        · have q := ex.new a h n
          cases z : H a with
          | none => rfl
          | some o => rw [hide_ne (up a o z).2, (up a o z).1] at q; cases q
        · cases z : H a with
          | none => exact absurd z h
          | some o => exact ex.dom a (by rw [hide_ne (up a o z).2, (up a o z).1]; simp)
      exact hE _ _ _ (h ι' dd fv H' x2 (rel.ex x2 nd rs) n1 n2 g1 g2)
    | bad => rw [e] at h; exact h
theorem se_mk {c : Nat} {f : FIn} {dvs : List V} {dd : List D} {ta : TA} {fa : FA} (ha : SA G E ta fa) (hd : dvs = dd.map vOf := by rfl) (hs : dd.all scalD = true := by rfl) : SE G E (uMake (G.ca c) (SpI G.K G.ca f) dvs (WE E) ta) (fMk c f dd fa) := by
  intro F ι ω ρ S σ H Q rel h
  refine sa_then ha rel h fun ds t S1 ι1 vs H1 e1 r1 ra h1 => ?_
  split at h1
  · rename_i ht
    subst ht hd
    exact fun x dx hx hdx hne => mk_of (fun cls d H z => z) r1 (RAll.app ra (dflt_all hs)) h1 x dx hx hdx hne
  · exact h1.elim
def fMkK (n m : Nat) (c : Nat) (f : FIn) (gD : List D → List D → List D) (fa fk : FA) : FE := fun ρ S => match fa ρ S with
  | .ok ds true S1 => (match fk ρ S1 with
    | .ok es true S2 => if ds.length = n ∧ es.length = m then kMk c f (gD ds es) S2 else .bad
    | .xc c fs S2 => .xc c fs S2
    | _ => .bad)
  | .xc c fs S1 => .xc c fs S1
  | _ => .bad
theorem se_mkK {n m c : Nat} {f : FIn} {gV : List V → List V → List V} {gD : List D → List D → List D} {ta tk : TA} {fa fk : FA} (ha : SA G E ta fa) (hk : SA G E tk fk)
    (hg : ∀ {ι B : List Addr} {H : Hp} {vs zs : List V} {ds es : List D} (x : Addr), RAll G.K G.ca ι B H vs ds → RAll G.K G.ca ι B H zs es → ∃ ws, gV (.ref x :: vs) zs = .ref x :: ws ∧ RAll G.K G.ca ι B H ws (gD ds es)) : SE G E (uMakeK (G.ca c) n m (SpI G.K G.ca f) gV (WE E) ta tk) (fMkK n m c f gD fa fk) := by
  intro F ι ω ρ S σ H Q rel h
  refine ha F ι ω ρ S σ H _ rel ?_
  unfold fMkK at h
  split at h
  · rename_i ds S1 e1
    rw [e1]
    intro ι1 vs H1 x1 r1 ra
    refine hk F ι1 ω ρ S1 σ H1 _ r1 ?_
    split at h
    · rename_i es S2 e2
      rw [e2]
      intro ι2 zs H2 x2 r2 rz
      have ra : RAll G.K G.ca ι2 (F.B0 ++ ω) H2 vs ds := RAll.ex ra x2
      have rz : RAll G.K G.ca ι2 (F.B0 ++ ω) H2 zs es := rz
      split at h
      · rename_i hl
        refine ⟨by rw [ra.len]; exact hl.1, by rw [rz.len]; exact hl.2, fun x dx hx hdx hne => ?_⟩
        obtain ⟨ws, ew, rw_⟩ := hg x ra rz
        rw [ew]
        exact mk_of (fun cls d H z => z) r2 rw_ (PostE.ex h (x1.trans x2)) x dx hx hdx hne
      · exact h.elim
    · rename_i c fs S2 e2
      rw [e2]
      exact fun ι' dd fv H' x rel' n1 n2 h1 h2 => h ι' dd fv H' (x1.trans x) rel' n1 n2 h1 h2
    · exact h.elim
  · rename_i c fs S1 e1
    rw [e1]; exact h
  · exact h.elim
/-- c(.., k = v, ..), the class in slot i -/
def fMkKL (i n m : Nat) (c : Nat) (f : FIn) (gD : List D → List D → List D) (fa fk : FA) : FE := fun ρ S => match ρ[i]? with
  | some (.val (.cls c')) => if c' = c then fMkK n m c f gD fa fk ρ S else .bad
  | _ => .bad
theorem se_mkKL {i n m c : Nat} {f : FIn} {gV : List V → List V → List V} {gD : List D → List D → List D} {ta tk : TA} {fa fk : FA} (ha : SA G E ta fa) (hk : SA G E tk fk)
    (hg : ∀ {ι B : List Addr} {H : Hp} {vs zs : List V} {ds es : List D} (x : Addr), RAll G.K G.ca ι B H vs ds → RAll G.K G.ca ι B H zs es → ∃ ws, gV (.ref x :: vs) zs = .ref x :: ws ∧ RAll G.K G.ca ι B H ws (gD ds es)) : SE G E (uMakeKL i (G.ca c) n m (SpI G.K G.ca f) gV (WE E) ta tk) (fMkKL i n m c f gD fa fk) := by
  intro F ι ω ρ S σ H Q rel h
  unfold fMkKL at h
  split at h
  · rename_i c' e
    split at h
    · rename_i ec
      subst ec
      obtain ⟨v, e1, rv⟩ := slot_val rel e
      cases rv
      exact ⟨e1, se_mkK ha hk hg F ι ω ρ S σ H Q rel h⟩
    · exact h.elim
  · exact h.elim
/-- C.m(..), m a classmethod -/
def fCMeth (c : Nat) (f : FF) (fa : FA) : FE := fCB (fun ds t S => if t = true then f (.cls c :: ds) S else .bad) fa
theorem se_cmeth {c : Nat} {f : FF} {ta : TA} {fa : FA} (ha : SA G E ta fa) : SE G E (uCMeth (G.ca c) (SpF G.K G.ca f) (WE E) (tC (.ref (G.ca c))) ta) (fCMeth c f fa) := by
  intro F ι ω ρ S σ H Q rel h
  refine ⟨rfl, ?_⟩
  refine sa_then ha rel h fun ds t S1 ι1 vs H1 e1 r1 ra h1 => ?_
  split at h1
  · rename_i ht
    subst ht
    exact spf_of (fun cls d H z => z) r1 (.cons (.cls c) ra) h1
  · exact h1.elim
/-! ### f-strings -/
def fFmt (fe : FE) : FE := fun ρ S => bE (fe ρ S) fun d _ S1 => (match d with
  | .str z => if z.length ≤ lim then .ok (.str z) .tr S1 else .bad
  | .int i => if i.natAbs.log2 < 1920 then .ok (.str (toString i)) .tr S1 else .bad
  | _ => .bad)
theorem se_fmt {te : TE} {fe : FE} (he : SE G E te fe) : SE G E (tFmt te) (fFmt fe) := by
  intro F ι ω ρ S σ H Q rel h
  refine he.bind rel h fun d f S1 ι1 v H1 e1 r1 rf1 h1 => ?_
  split at h1
  · rw [rf1.rt.sStr]
    split at h1
    · exact .inl ⟨_, rfl, lim_le (by assumption), PostE.now h1 r1 (.str _)⟩
    · exact h1.elim
  · rw [rf1.rt.sInt]
    split at h1
    · exact .inr ⟨_, rfl, by assumption, PostE.now h1 r1 (.str _)⟩
    · exact h1.elim
  · exact h1.elim
def fJs : List FE → Str → FE
  | [], acc => fun _ S => .ok (.str acc) .tr S
  | fe :: fs, acc => fun ρ S => bE (fe ρ S) fun d _ S1 => (match d with
    | .str y => if (acc ++ y).length ≤ lim then fJs fs (acc ++ y) ρ S1 else .bad
    | _ => .bad)
inductive SJ (G : Gm) (E : WX) : List TE → List FE → Prop
  | nil : SJ G E [] []
  | cons {t : TE} {f : FE} {ts : List TE} {fs : List FE} : SE G E t f → SJ G E ts fs → SJ G E (t :: ts) (f :: fs)
theorem sj_run {ts : List TE} {fs : List FE} (h : SJ G E ts fs) : ∀ (acc : Str) (F : Fr) (ι ω : List Addr) (ρ : Ev) (S : Sto) (σ : L2.St) (H : Hp) (Q : VK), Rel G F ι ω ρ S σ H → PostE G E F ι ω ρ σ H Q (fJs fs acc ρ S) → tJs ts acc σ H fun out H1 => Q (.str out) H1 := by
  induction h with
  | nil => exact fun acc F ι ω ρ S σ H Q rel h => PostE.now h rel (.str _)
  | @cons t f ts fs he r ih =>
    intro acc F ι ω ρ S σ H Q rel h
    refine he.bind rel h fun d fl S1 ι1 v H1 e1 r1 rf1 h1 => ?_
    split at h1
    · rw [rf1.rt.sStr]
      split at h1
      · rename_i hl
        exact ⟨_, rfl, lim_le hl, ih _ F ι1 ω ρ S1 σ H1 Q r1 h1⟩
      · exact h1.elim
    · exact h1.elim
theorem se_joined {ts : List TE} {fs : List FE} (h : SJ G E ts fs) : SE G E (fun σ H Q => tJs ts Str.empty σ H fun out H1 => Q (.str out) H1) (fJs fs Str.empty) := fun F ι ω ρ S σ H Q rel hp => sj_run h Str.empty F ι ω ρ S σ H Q rel hp
/-! ### list(range(a, b)) -/
def rgD (a b : Int) : List D := (List.range (b - a).toNat).map fun i => D.int (a + (i : Nat))
theorem rall_rg {K : PySem.W.Frag} {ca : Nat → Addr} {ι B : List Addr} {H : Hp} (a b : Int) : RAll K ca ι B H (rgV a b) (rgD a b) := by
  unfold rgV rgD
  generalize List.range (b - a).toNat = l
  induction l with
  | nil => exact .nil
  | cons i l ih => exact .cons (.int _) ih
def rgOk (a b : Int) : Bool := decide (-1000000 ≤ a ∧ a ≤ 1000000 ∧ -1000000 ≤ b ∧ b ≤ 1000000)
theorem rgOk_of {a b : Int} (h : rgOk a b = true) : RgOk a b := by
  have h := of_decide_eq_true h
  refine ⟨by omega, by omega, by omega, by omega, by omega⟩
def fLRg (fa fb : FE) : FE := fun ρ S => bE (fa ρ S) fun d _ S1 => (match d with
  | .int a => bE (fb ρ S1) fun e _ S2 => (match e with
    | .int b => if rgOk a b = true then .ok (.lst (rgD a b)) .fs S2 else .bad
    | _ => .bad)
  | _ => .bad)
theorem se_listRg {ta tb : TE} {fa fb : FE} (ha : SE G E ta fa) (hb : SE G E tb fb) : SE G E (tLstRg (tRg2 ta tb)) (fLRg fa fb) := by
  intro F ι ω ρ S σ H Q rel h
  refine ha.bind rel h fun d f S1 ι1 v H1 e1 r1 rf1 h1 => ?_
  split at h1
  · rename_i a
    refine hb.bind r1 h1 fun e f2 S2 ι2 w H2 e2 r2 rf2 h2 => ?_
    split at h2
    · rename_i b
      split at h2
      · rename_i hr
        refine ⟨a, b, rf1.rt.sInt, rf2.rt.sInt, rgOk_of hr, fun q hq => PostE.newL h2 r2 (rall_rg a b) q hq⟩
      · exact h2.elim
    · exact h2.elim
  · exact h1.elim
end
end
end Fx

/-! ### evaluation: objects -/
namespace Fx
open PySem PySem.Spec PyProof.Rows L2 U
noncomputable section
section
variable {ρ : Ev} {S S1 S2 : Sto} {d e : D} {f : Fl} {c : Nat} {fs es : List (Str × D)}
def kFld (cf : Nat → Str → Bool) (n : Str) (d : D) (_ : Fl) (S1 : Sto) : RE := match d with
  | .obj c es => if cf c n = true then (match es.lookup n with
    | some x => .ok x .tr S1
    | none => .bad) else .bad
  | _ => .bad
theorem v_fld {cf : Nat → Str → Bool} {n : Str} {fe : FE} : fFld cf n fe ρ S = bE (fe ρ S) (kFld cf n) := rfl
theorem v_fld1 {cf : Nat → Str → Bool} {n : Str} {x : D} (h : cf c n = true) (hl : es.lookup n = some x) : kFld cf n (.obj c es) f S = .ok x .tr S := by unfold kFld; simp only [h, hl, if_true]
def kSetF (cf : Nat → Str → Bool) (i : Nat) (n : Str) (ρ : Ev) (d : D) (fl : Fl) (S1 : Sto) : RSt := if fl.nop = true then (match ρ[i]? with
  | some (.oob c es) => if (cf c n && decide (es.length < 100)) = true then .nx (ρ.set i (.oob c (putD n d es))) S1 else .bad
  | _ => .bad) else .bad
theorem v_setF {cf : Nat → Str → Bool} {i : Nat} {n : Str} {fe : FE} : sSetF cf i n fe ρ S = eS (fe ρ S) ρ (kSetF cf i n ρ) := rfl
theorem v_setF1 {cf : Nat → Str → Bool} {n : Str} {r : Ev} (h : cf c n = true) (hl : es.length < 100) (hf : f.nop = true) : kSetF cf 0 n (.oob c es :: r) d f S = .nx (.oob c (putD n d es) :: r) S := by
  unfold kSetF; rw [if_pos hf]
  show (if (cf c n && decide (es.length < 100)) = true then _ else _) = _
  rw [h, decide_eq_true hl]
  rfl
theorem putD_lt {n : Str} {d : D} : ∀ {es : List (Str × D)} (k : Nat), es.length < k → (putD n d es).length < k + 1
  | [], k, h => by unfold putD; simp; exact h
  | (g, x) :: es, k, h => by
    unfold putD
    split
    · simp only [List.length_cons] at h ⊢; omega
    · simp only [List.length_cons] at h ⊢
      have := putD_lt (n := n) (d := d) (es := es) (k - 1) (by omega)
      omega
theorem v_meth {tab : List (Nat × FF)} {m : Str} {fo : FE} {fa : FA} : fMeth tab m fo fa ρ S = bE (fo ρ S) (kMeth tab m fa ρ) := rfl
def kMethA (g : FF) (d : D) (ds : List D) (t : Bool) (S2 : Sto) : RE := if t = true then g (d :: ds) S2 else .bad
theorem v_meth1 {tab : List (Nat × FF)} {m : Str} {fa : FA} {g : FF} (hf : f.nop = true) (hl : es.lookup m = none) (ht : lookF c tab = some g) : kMeth tab m fa ρ (.obj c es) f S = bA (fa ρ S) (kMethA g (.obj c es)) := by
  unfold kMeth; simp only [hf, hl, ht, Option.isNone_none, Bool.and_self, if_true]; rfl
theorem v_methA {g : FF} {ds : List D} : kMethA g d ds true S = g (d :: ds) S := rfl
theorem v_sp1 {tab : List (Nat × FF)} {ok : D → Bool} {fo : FE} : fSp1 tab ok fo ρ S = bE (fo ρ S) (kSp1 tab ok) := rfl
theorem v_sp1a {tab : List (Nat × FF)} {ok : D → Bool} {g : FF} {r : D} {fl : Fl} (hf : f.nop = true) (ht : lookF c tab = some g) (hg : g [.obj c es] S = .ok r fl S2) (hr : ok r = true) (hfl : fl.nop = true) : kSp1 tab ok (.obj c es) f S = .ok r .tr S2 := by
  unfold kSp1; simp only [hf, ht, hg, if_true, bE_ok, hr, hfl, Bool.and_self]
theorem v_mk {g : FIn} {dd : List D} {fa : FA} : fMk c g dd fa ρ S = bA (fa ρ S) (fun ds t S => if t = true then kMk c g (ds ++ dd) S else .bad) := rfl
theorem v_mk1 {g : FIn} {ds : List D} (h : g c [] ds S = .ok es S2) : kMk c g ds S = .ok (.obj c es) .fs S2 := by unfold kMk; rw [h]
theorem v_mkx {g : FIn} {ds : List D} {c' : Nat} (h : g c [] ds S = .xc c' fs S2) : kMk c g ds S = .xc c' fs S2 := by unfold kMk; rw [h]
def kMkK2 (n m c : Nat) (g : FIn) (gD : List D → List D → List D) (ds : List D) (r : RA) : RE := match r with
  | .ok es true S2 => if ds.length = n ∧ es.length = m then kMk c g (gD ds es) S2 else .bad
  | .xc c fs S2 => .xc c fs S2
  | _ => .bad
def kMkK (n m c : Nat) (g : FIn) (gD : List D → List D → List D) (fk : FA) (ρ : Ev) (r : RA) : RE := match r with
  | .ok ds true S1 => kMkK2 n m c g gD ds (fk ρ S1)
  | .xc c fs S1 => .xc c fs S1
  | _ => .bad
theorem v_mkK {n m : Nat} {g : FIn} {gD : List D → List D → List D} {fa fk : FA} : fMkK n m c g gD fa fk ρ S = kMkK n m c g gD fk ρ (fa ρ S) := by unfold fMkK kMkK kMkK2; rfl
theorem v_mkK1 {n m : Nat} {g : FIn} {gD : List D → List D → List D} {fk : FA} {ds : List D} : kMkK n m c g gD fk ρ (.ok ds true S) = kMkK2 n m c g gD ds (fk ρ S) := rfl
theorem v_mkK2 {n m : Nat} {g : FIn} {gD : List D → List D → List D} {ds zs : List D} (h1 : ds.length = n) (h2 : zs.length = m) : kMkK2 n m c g gD ds (.ok zs true S) = kMk c g (gD ds zs) S := by unfold kMkK2; exact if_pos ⟨h1, h2⟩
theorem v_mkKL {i n m : Nat} {g : FIn} {gD : List D → List D → List D} {fa fk : FA} (h : ρ[i]? = some (.val (.cls c))) : fMkKL i n m c g gD fa fk ρ S = kMkK n m c g gD fk ρ (fa ρ S) := by
  unfold fMkKL; rw [h]; dsimp only; rw [if_pos rfl]; exact v_mkK
theorem v_cmeth {g : FF} {fa : FA} : fCMeth c g fa ρ S = bA (fa ρ S) (kMethA g (.cls c)) := rfl
theorem v_runI {n m : Nat} {b : FS} {ds : List D} (h : ds.length + 1 = m) : runI n m b c es ds S = kRunI c (b (.oob c es :: (ds.map .val ++ List.replicate (n - m) .no)) S) := by unfold runI; rw [if_pos h]
theorem v_runI1 {r : Ev} : kRunI c (.nx (.oob c es :: r) S) = .ok es S := by unfold kRunI; simp
theorem v_runIx {c' : Nat} : kRunI c (.xc c' fs ρ S) = .xc c' fs S := rfl
def kFmt (d : D) (_ : Fl) (S1 : Sto) : RE := match d with
  | .str z => if z.length ≤ lim then .ok (.str z) .tr S1 else .bad
  | .int i => if i.natAbs.log2 < 1920 then .ok (.str (toString i)) .tr S1 else .bad
  | _ => .bad
theorem v_fmt {fe : FE} : fFmt fe ρ S = bE (fe ρ S) kFmt := rfl
theorem v_fmtS {z : Str} (h : z.length ≤ lim) : kFmt (.str z) f S = .ok (.str z) .tr S := if_pos h
theorem v_fmtI {i : Int} (h : i.natAbs.log2 < 1920) : kFmt (.int i) f S = .ok (.str (toString i)) .tr S := if_pos h
def kJs (fs : List FE) (acc : Str) (ρ : Ev) (d : D) (_ : Fl) (S1 : Sto) : RE := match d with
  | .str y => if (acc ++ y).length ≤ lim then fJs fs (acc ++ y) ρ S1 else .bad
  | _ => .bad
theorem v_js0 {acc : Str} : fJs [] acc ρ S = .ok (.str acc) .tr S := rfl
theorem v_js {fe : FE} {fs : List FE} {acc : Str} : fJs (fe :: fs) acc ρ S = bE (fe ρ S) (kJs fs acc ρ) := rfl
theorem v_js1 {fs : List FE} {acc y : Str} (h : (acc ++ y).length ≤ lim) : kJs fs acc ρ (.str y) f S = fJs fs (acc ++ y) ρ S := if_pos h
def kLRg2 (a : Int) (e : D) (_ : Fl) (S2 : Sto) : RE := match e with
  | .int b => if rgOk a b = true then .ok (.lst (rgD a b)) .fs S2 else .bad
  | _ => .bad
def kLRg (fb : FE) (ρ : Ev) (d : D) (_ : Fl) (S1 : Sto) : RE := match d with
  | .int a => bE (fb ρ S1) (kLRg2 a)
  | _ => .bad
theorem v_lrg {fa fb : FE} : fLRg fa fb ρ S = bE (fa ρ S) (kLRg fb ρ) := rfl
theorem v_lrg1 {fb : FE} {a : Int} : kLRg fb ρ (.int a) f S = bE (fb ρ S) (kLRg2 a) := rfl
theorem v_lrg2 {a b : Int} (h : rgOk a b = true) : kLRg2 a (.int b) f S = .ok (.lst (rgD a b)) .fs S := if_pos h
/-- keyword calls -/
def kCallK2 (n m : Nat) (g : FF) (gD : List D → List D → List D) (ds : List D) (r : RA) : RE := match r with
  | .ok es true S2 => if ds.length = n ∧ es.length = m then g (gD ds es) S2 else .bad
  | .xc c fs S2 => .xc c fs S2
  | _ => .bad
def kCallK (n m : Nat) (g : FF) (gD : List D → List D → List D) (fk : FA) (ρ : Ev) (r : RA) : RE := match r with
  | .ok ds true S1 => kCallK2 n m g gD ds (fk ρ S1)
  | .xc c fs S1 => .xc c fs S1
  | _ => .bad
theorem v_callK {n m : Nat} {g : FF} {gD : List D → List D → List D} {fa fk : FA} : fCallK n m g gD fa fk ρ S = kCallK n m g gD fk ρ (fa ρ S) := by unfold fCallK kCallK kCallK2; rfl
theorem v_callK1 {n m : Nat} {g : FF} {gD : List D → List D → List D} {fk : FA} {ds : List D} : kCallK n m g gD fk ρ (.ok ds true S) = kCallK2 n m g gD ds (fk ρ S) := rfl
theorem v_callK2 {n m : Nat} {g : FF} {gD : List D → List D → List D} {ds zs : List D} (h1 : ds.length = n) (h2 : zs.length = m) : kCallK2 n m g gD ds (.ok zs true S) = g (gD ds zs) S := by unfold kCallK2; exact if_pos ⟨h1, h2⟩
end
end
end Fx

namespace Fx
open PySem PySem.Spec PyProof.Rows L2 U
noncomputable section
/-! ### comprehensions with two fors; ranges from a to b -/
theorem fold_flat2 {step : StepC} {f : D → List D} {S : Sto} : ∀ {ds acc : List D}, (∀ d ∈ ds, ∀ acc : List D, acc.length + (f d).length ≤ lim → step d acc S = some (acc ++ f d, S)) → acc.length + (ds.flatMap f).length ≤ lim →
    foldC none step ds acc S = some (acc ++ ds.flatMap f, S)
  | [], acc, _, _ => by unfold foldC; rw [if_pos (gok_none S)]; simp
  | d :: ds, acc, h, hl => by
    rw [List.flatMap_cons, List.length_append] at hl
    unfold foldC
    rw [if_pos (gok_none S), h d List.mem_cons_self acc (by omega)]
    dsimp only
    rw [fold_flat2 (fun e he => h e (List.mem_cons_of_mem _ he)) (by rw [List.length_append]; omega), List.append_assoc, List.flatMap_cons]
theorem lc2_map {it it1 : FI} {set set1 : FG} {te : FE} {vs vs1 : List Nat} {ρ : Ev} {S : Sto} {ds : List D} {items : D → List D} {f : D → D → D} (hi : it ρ S = .ok ds none S)
    (h : ∀ d ∈ ds, ∃ ρ1, set d (wipeE ρ vs) S = some ρ1 ∧ it1 ρ1 S = .ok (items d) none S ∧ ∀ e ∈ items d, ∃ ρ2 fl, set1 e (wipeE ρ1 vs1) S = some ρ2 ∧ te ρ2 S = .ok (f d e) fl S ∧ fl.nop = true)
    (hl : (ds.flatMap fun d => (items d).map (f d)).length ≤ lim) : fLc2 it set (fC (.bl true)) it1 set1 (fC (.bl true)) te vs vs1 ρ S = .ok (.lst (ds.flatMap fun d => (items d).map (f d))) .fs S := by
  unfold fLc2 fLcG
  rw [hi]
  dsimp only
  rw [fold_flat2 (f := fun d => (items d).map (f d)) (fun d hd acc ha => ?_) (by simpa using hl), List.nil_append]
  obtain ⟨ρ1, e1, e2, e3⟩ := h d hd
  unfold step2
  rw [e1]
  dsimp only
  rw [v_c]
  dsimp only
  rw [e2]
  dsimp only
  rw [fold_flat2 (f := fun e => [f d e]) (fun e he acc' hb => ?_) (by
    have : ((items d).flatMap fun e => [f d e]) = (items d).map (f d) := by
      generalize items d = l
      induction l with
      | nil => rfl
      | cons x l ih => rw [List.flatMap_cons, ih]; rfl
    rw [this]; exact ha)]
  · congr 2
    congr 1
    generalize items d = l
    induction l with
    | nil => rfl
    | cons x l ih => rw [List.flatMap_cons, ih]; rfl
  · obtain ⟨ρ2, fl, g1, g2, g3⟩ := e3 e he
    unfold step1
    rw [g1]
    dsimp only
    rw [v_c]
    dsimp only
    rw [g2]
    dsimp only
    rw [g3, decide_eq_true (by have : ([f d e] : List D).length = 1 := rfl; omega)]
    rfl
section
variable {ρ : Ev} {S : Sto}
def kRng2 (r : RA) : RI := match r with
  | .ok [.int i, .int j] _ S1 => if -(2 ^ 62) ≤ i ∧ i < 2 ^ 62 ∧ -(2 ^ 62) ≤ j ∧ j < 2 ^ 62 then .ok (rngD i (j - i).toNat) none S1 else .bad
  | .xc c fs S1 => .xc c fs S1
  | _ => .bad
theorem v_rng2 {fa : FA} : fRng2 fa ρ S = kRng2 (fa ρ S) := by unfold fRng2 kRng2; rfl
theorem v_rng2a {i j : Int} {t : Bool} (h1 : -1000000 ≤ i) (h2 : i ≤ 1000000) (h3 : -1000000 ≤ j) (h4 : j ≤ 1000000) : kRng2 (.ok [.int i, .int j] t S) = .ok (rngD i (j - i).toNat) none S := by
  unfold kRng2; exact if_pos ⟨by omega, by omega, by omega, by omega⟩
theorem d_sl_tup {ds : List D} {lo hi : Option Int} (h : ¬ (HT.sIx ds.length 0 lo = 0 ∧ HT.sIx ds.length ds.length hi = ds.length)) : dSl (.tup ds) lo hi S = .ok (.tup (cutD ds lo hi)) .tr S := by unfold dSl; exact if_neg h
theorem d_split {a b : Str} (h : (b.length == 0) = false) (hl : a.length + 2 ≤ lim) : dSplit a (.str b) S = .ok (.lst ((Txt.split a b).map .str)) .fs S := by unfold dSplit; exact if_pos ⟨h, hl⟩
theorem d_str_int {i : Int} {t : Bool} (h : i.natAbs.log2 < 1920) : dStr [.int i] t S = .ok (.str (toString i)) .tr S := by unfold dStr; exact if_pos h
/-- x in a list of texts -/
theorem flat_strs : ∀ zs : List Str, flatAll (zs.map D.str) = some (zs.map V.str)
  | [] => rfl
  | z :: zs => by simp only [List.map_cons, flatAll, flat, flat_strs zs]
theorem inV_strs (z : Str) : ∀ zs : List Str, inV (.str z) (zs.map V.str) = decide (z ∈ zs)
  | [] => rfl
  | w :: zs => by
    have ih := inV_strs z zs
    have e : inV (.str z) ((w :: zs).map V.str) = (eqV (.str w) (.str z) || inV (.str z) (zs.map V.str)) := rfl
    rw [e, ih]
    have e2 : eqV (.str w) (.str z) = decide (w = z) := by
      show (w == z) = _
      rw [Bool.eq_iff_iff]; simp
    rw [e2, ← Bool.decide_or]
    apply decide_eq_decide.mpr
    rw [List.mem_cons]
    exact ⟨fun h => h.imp Eq.symm id, fun h => h.imp Eq.symm id⟩
theorem d_in_strs {z : Str} {zs : List Str} : dIn false (.str z) (.lst (zs.map D.str)) S = .ok (.bl (decide (z ∈ zs))) .tr S := by
  unfold dIn
  simp only [flat, sqOf, flat_strs, inV_strs]
  rfl
theorem d_nin_strs {z : Str} {zs : List Str} : dIn true (.str z) (.lst (zs.map D.str)) S = .ok (.bl (!decide (z ∈ zs))) .tr S := by
  unfold dIn
  simp only [flat, sqOf, flat_strs, inV_strs]
  rfl
theorem d_in_strsT {z : Str} {zs : List Str} : dIn false (.str z) (.tup (zs.map D.str)) S = .ok (.bl (decide (z ∈ zs))) .tr S := by
  unfold dIn
  simp only [flat, sqOf, flat_strs, inV_strs]
  rfl
end
/-- the last items -/
theorem at_neg {α : Type} {us : List α} {vs : List α} {j : Nat} {x : α} (h : vs[j]? = some x) (k : Int) (hk : k = -((vs.length - j : Nat) : Int)) : atI (us ++ vs) k = some x := by
  have hj := (List.getElem?_eq_some_iff.mp h).1
  unfold atI ixN
  rw [if_neg (by omega), if_pos (by rw [List.length_append]; omega)]
  show (us ++ vs)[_]? = _
  rw [show (k + ((us ++ vs).length : Int)).toNat = us.length + j by rw [List.length_append]; omega]
  rw [List.getElem?_append_right (by omega), Nat.add_sub_cancel_left]
  exact h
theorem cut_neg {us vs : List D} (k : Int) (hk : k = -((vs.length : Nat) : Int)) (hv : vs ≠ []) : cutD (us ++ vs) none (some k) = us := by
  have hl : 0 < vs.length := List.length_pos_iff.mpr hv
  have e : HT.sIx (us ++ vs).length (us ++ vs).length (some k) = us.length := by
    simp only [HT.sIx, List.length_append]
    rw [if_pos (by omega)]
    omega
  unfold cutD
  rw [e, show HT.sIx (us ++ vs).length 0 none = 0 from rfl, Nat.sub_zero, List.drop_zero]
  exact List.take_left
theorem cutD_upto (xs : List D) (j : Nat) : cutD xs none (some (j : Int)) = xs.take j := by
  unfold cutD
  rw [HT.sIx_nat, HT.sIx_none]
  have := cut_mid xs 0 j
  simp only [Nat.zero_min, List.drop_zero, Nat.sub_zero] at this ⊢
  exact this
theorem cutD_from (xs : List D) (i : Nat) : cutD xs (some (i : Int)) none = xs.drop i := by
  unfold cutD
  rw [HT.sIx_nat, HT.sIx_none]
  have := cut_mid xs i xs.length
  rw [Nat.min_self] at this
  rw [this]
  by_cases h : i ≤ xs.length
  · exact List.take_of_length_le (by rw [List.length_drop]; omega)
  · rw [List.drop_eq_nil_of_le (by omega)]; simp
theorem cutD_mid (xs : List D) (i j : Nat) : cutD xs (some (i : Int)) (some (j : Int)) = (xs.drop i).take (j - i) := by
  unfold cutD
  rw [HT.sIx_nat, HT.sIx_nat]; exact cut_mid xs i j
end
end Fx

namespace Lw
open PySem PySem.Spec PyProof.Rows L2 U Fx
noncomputable section
def em_ : Nat → Nat → Option Bool
  | 5, 3 => some false
  | 2, 3 => some false
  | 3, 3 => some true
  | _, _ => none
def xf_ : Nat → Str → Bool
  | 2, f => decide (f = "value")
  | 3, f => decide (f = "value")
  | 5, f => decide (f = "value")
  | _, _ => false
def cf_ : Nat → Str → Bool
  | 7, f => decide (f = "least") || decide (f = "most") || decide (f = "own_letters") || decide (f = "own_marks")
  | _, _ => false
def g_parse_integer_low_high {α : Type} (vs mz zs : List α) : List α := vs ++ ((zs.drop 0).take 1 ++ ((zs.drop 1).take 1))
abbrev gV_parse_integer_low_high (vs zs : List V) : List V := g_parse_integer_low_high vs [] zs
def g_Stock___init___shortest_longest {α : Type} (vs mz zs : List α) : List α := vs ++ ((zs.drop 0).take 1 ++ ((zs.drop 1).take 1))
abbrev gV_Stock___init___shortest_longest (vs zs : List V) : List V := g_Stock___init___shortest_longest vs [] zs
def b_is_integer : FS := sRet (fAnd (fIsi .int (fVar 0)) (fAnd (fNot (fIsi .bl (fVar 0))) (fChain dLe dLe (fVar 1) (fVar 0) (fVar 2))))
def F_is_integer : FF := noxF (runF 3 3 b_is_integer)
def b_is_mark : FS := sSeq (sIf (fNot (fIsi .str (fVar 0))) (sRet (fC (.bl false))) (sNext)) (sRet (fOr (fOp (dEqv false) (fVar 0) (fC (.str " "))) (fAnd (fOp (dEqv false) (fCB dLen (fCons (fVar 0) (fNil))) (fC (.int 2))) (fAnd (fOp (dIn false) (fOp dIx (fVar 0) (fC (.int 0))) (fC (.str "#|/"))) (fOp (dIn false) (fOp dIx (fVar 0) (fC (.int 1))) (fC (.str "0123")))))))
def F_is_mark : FF := noxF (runF 1 1 b_is_mark)
def b_all_marks : FS := sRet (fOp dAdd (fLst (fCons (fC (.str " ")) (fNil))) (fLc2 (fIter (fC (.str "#|/"))) (gN 0) (fC (.bl true)) (fRng1 (fCons (fOp dAdd (fC (.int 3)) (fC (.int 1))) (fNil))) (gN 1) (fC (.bl true)) (fOp dAdd (fVar 0) (fCB dStr (fCons (fVar 1) (fNil)))) [0, 1] [1]))
def F_all_marks : FF := noxF (runF 2 0 b_all_marks)
def b_parse_integer_5 : FS := sRet (fIf (fChain dLe dLe (fVar 1) (fVar 4) (fVar 2)) (fVar 4) (fC .non))
def b_parse_integer_4 : FS := sSeq (sAsg (fCB dInt (fCons (fVar 0) (fNil))) (gN 4)) b_parse_integer_5
def b_parse_integer_3 : FS := sSeq (sIf (fAnd (fOp (dEqv false) (fOp dIx (fVar 3) (fC (.int 0))) (fC (.str "0"))) (fOp (dEqv true) (fVar 0) (fC (.str "0")))) (sRet (fC .non)) (sNext)) b_parse_integer_4
def b_parse_integer_2 : FS := sSeq (sIf (fOr (fOp (dEqv false) (fVar 3) (fC (.str ""))) (fNot (fCB dAll (fCons (fLc (fIter (fVar 3)) (gN 5) (fC (.bl true)) (fOp (dIn false) (fVar 5) (fC (.str "0123456789"))) [5]) (fNil))))) (sRet (fC .non)) (sNext)) b_parse_integer_3
def b_parse_integer_1 : FS := sSeq (sAsg (fIf (fOp (dEqv false) (fOp dIx (fVar 0) (fC (.int 0))) (fC (.str "-"))) (fSl (fVar 0) (fPart (fC (.int 1))) (fNoPart)) (fVar 0)) (gN 3)) b_parse_integer_2
def b_parse_integer : FS := sSeq (sIf (fOr (fNot (fIsi .str (fVar 0))) (fOr (fOp (dEqv false) (fVar 0) (fC (.str ""))) (fOp dGt (fCB dLen (fCons (fVar 0) (fNil))) (fC (.int 31))))) (sRet (fC .non)) (sNext)) b_parse_integer_1
def F_parse_integer : FF := noxF (runF 6 3 b_parse_integer)
def b_split_words : FS := sSeq (sIf (fOr (fNot (fIsi .str (fVar 0))) (fOp (dIn false) (fC (.str "\n")) (fVar 0))) (sRet (fC .non)) (sNext)) (sSeq (sAsg (fM1 dSplit (fVar 0) (fC (.str " "))) (gN 1)) (sRet (fIf (fOp (dIn false) (fC (.str "")) (fVar 1)) (fC .non) (fVar 1))))
def F_split_words : FF := noxF (runF 2 1 b_split_words)
def b__law_cell : FS := sSeq (sIf (fOp dLt (fVar 1) (fCB dLen (fCons (fVar 0) (fNil)))) (sRet (fOp dIx (fVar 0) (fVar 1))) (sNext)) (sRet (fOp dAdd (fOp dMul (fC (.int 7919)) (fVar 1)) (fC (.int 31))))
def F__law_cell : FF := noxF (runF 2 2 b__law_cell)
def b__law_purse : FS := sRet (fLst (fCons (fCB dMax (fCons (fC (.int 0)) (fCons (fOp dSub (fVar 0) (fOp dPow (fC (.int 10)) (fC (.int 18)))) (fNil)))) (fCons (fOp dMod (fVar 0) (fC (.int 2147483629))) (fCons (fC (.int 0)) (fNil)))))
def F__law_purse : FF := noxF (runF 1 1 b__law_purse)
def b__law_take : FS := sSeq (sIf (fOp dGt (fOp dIx (fVar 0) (fC (.int 0))) (fC (.int 0))) (sSeq (sAsg (fOp dMod (fOp dIx (fVar 0) (fC (.int 0))) (fVar 1)) (gN 2)) (sSeq (sSetI 0 (fC (.int 0)) (fOp dFdiv (fOp dIx (fVar 0) (fC (.int 0))) (fVar 1))) (sRetV 2))) (sNext)) (sSeq (sSetI 0 (fC (.int 2)) (fOp dAdd (fOp dIx (fVar 0) (fC (.int 2))) (fC (.int 1)))) (sSeq (sAsg (fOp dMod (fOp dPow (fOp dAdd (fOp dAdd (fOp dIx (fVar 0) (fC (.int 1))) (fOp dMul (fC (.int 7919)) (fOp dIx (fVar 0) (fC (.int 2))))) (fC (.int 145))) (fC (.int 5))) (fC (.int 2147483647))) (gN 3)) (sSeq (sAsg (fOp dMod (fOp dPow (fOp dAdd (fVar 3) (fOp dMul (fC (.int 104729)) (fOp dIx (fVar 0) (fC (.int 2))))) (fC (.int 3))) (fC (.int 2147483587))) (gN 3)) (sRet (fOp dMod (fOp dFdiv (fVar 3) (fC (.int 16))) (fVar 1))))))
def F__law_take : FF := noxF (runF 4 2 b__law_take)
def b__law_all_marks : FS := sRet (fLst (fCons (fC (.str " ")) (fCons (fC (.str "#0")) (fCons (fC (.str "#1")) (fCons (fC (.str "#2")) (fCons (fC (.str "#3")) (fCons (fC (.str "|0")) (fCons (fC (.str "|1")) (fCons (fC (.str "|2")) (fCons (fC (.str "|3")) (fCons (fC (.str "/0")) (fCons (fC (.str "/1")) (fCons (fC (.str "/2")) (fCons (fC (.str "/3")) (fNil)))))))))))))))
def F__law_all_marks : FF := noxF (runF 0 0 b__law_all_marks)
def b__law_number : FS := sRet (fIf (fOp (dIn false) (fVar 0) (fLc (fRng2 (fCons (fC (.int 1)) (fCons (fC (.int 31)) (fNil)))) (gN 1) (fC (.bl true)) (fCB dStr (fCons (fVar 1) (fNil))) [1])) (fCB dInt (fCons (fVar 0) (fNil))) (fC .non))
def F__law_number : FF := noxF (runF 2 1 b__law_number)
def b_Stock___str__ : FS := sSeq (sAsg (fM1 dJoin (fC (.str " ")) (fLc (fIter (fFld cf_ "own_marks" (fVar 0))) (gN 2) (fC (.bl true)) (fIf (fOp (dEqv false) (fVar 2) (fC (.str " "))) (fC (.str "_")) (fVar 2)) [2])) (gN 1)) (sRet (fJs [fFmt (fVar 1), fC (.str " : "), fFmt (fFld cf_ "least" (fVar 0)), fC (.str " "), fFmt (fFld cf_ "most" (fVar 0))] Str.empty))
def F_Stock___str__ : FF := noxF (runF 3 1 b_Stock___str__)
def b_Stock_marks : FS := sRet (fCB dList (fCons (fFld cf_ "own_marks" (fVar 0)) (fNil)))
def F_Stock_marks : FF := noxF (runF 1 1 b_Stock_marks)
def b_Stock_lengths : FS := sRet (fLRg (fFld cf_ "least" (fVar 0)) (fOp dAdd (fFld cf_ "most" (fVar 0)) (fC (.int 1))))
def F_Stock_lengths : FF := noxF (runF 1 1 b_Stock_lengths)
def b_are_stock_marks : FS := sSeq (sIf (fOr (fNot (fIsiT [.lst, .tup] (fVar 0))) (fNot (fCB dAll (fCons (fLc (fIter (fVar 0)) (gN 1) (fC (.bl true)) (fCall F_is_mark [] (fCons (fVar 1) (fNil))) [1]) (fNil))))) (sRet (fC (.bl false))) (sNext)) (sRet (fCB dAny (fCons (fLc (fIter (fVar 0)) (gN 1) (fC (.bl true)) (fOp (dEqv false) (fOp dIx (fVar 1) (fC (.int 0))) (fC (.str "#"))) [1]) (fNil))))
def F_are_stock_marks : FF := noxF (runF 2 1 b_are_stock_marks)
def b__law_mark : FS := sSeq (sIf (fOp (dEqv false) (fCall F__law_take [] (fCons (fVar 0) (fCons (fC (.int 3)) (fNil)))) (fC (.int 0))) (sRet (fC (.str " "))) (sNext)) (sRet (fOp dAdd (fOp dIx (fC (.str "#|/")) (fCall F__law_take [] (fCons (fVar 0) (fCons (fC (.int 3)) (fNil))))) (fOp dIx (fC (.str "0123")) (fCall F__law_take [] (fCons (fVar 0) (fCons (fC (.int 4)) (fNil)))))))
def F__law_mark : FF := noxF (runF 1 1 b__law_mark)
def b__law_sorted : FS := sRet (fLc (fIter (fCall F__law_all_marks [] (fNil))) (gN 1) (fOp (dIn false) (fVar 1) (fVar 0)) (fVar 1) [1])
def F__law_sorted : FF := noxF (runF 2 1 b__law_sorted)
def b__law_changed_12 : FS := sRet (fOp dAdd (fOp dAdd (fSl (fVar 1) (fNoPart) (fPart (fVar 7))) (fVar 8)) (fSl (fVar 1) (fPart (fOp dAdd (fVar 7) (fCall F__law_take [] (fCons (fVar 0) (fCons (fC (.int 2)) (fNil)))))) (fNoPart)))
def b__law_changed_11 : FS := sSeq (sAsg (fOp dIx (fLst (fCons (fC (.str "")) (fCons (fC (.str "\n")) (fCons (fC (.str " ")) (fCons (fC (.str "0")) (fCons (fC (.str "_")) (fNil))))))) (fCall F__law_take [] (fCons (fVar 0) (fCons (fC (.int 5)) (fNil))))) (gN 8)) b__law_changed_12
def b__law_changed_10 : FS := sSeq (sAsg (fCall F__law_take [] (fCons (fVar 0) (fCons (fOp dAdd (fCB dLen (fCons (fVar 1) (fNil))) (fC (.int 1))) (fNil)))) (gN 7)) b__law_changed_11
def b__law_changed_9 : FS := sSeq (sIf (fOp (dEqv false) (fVar 6) (fC (.int 4))) (sRet (fM1 dJoin (fC (.str " ")) (fOp dAdd (fOp dAdd (fSl (fVar 2) (fNoPart) (fPart (fVar 3))) (fRev (fSl (fVar 2) (fPart (fVar 3)) (fPart (fOp dAdd (fVar 3) (fC (.int 2))))))) (fSl (fVar 2) (fPart (fOp dAdd (fVar 3) (fC (.int 2)))) (fNoPart))))) (sNext)) b__law_changed_10
def b__law_changed_8 : FS := sSeq (sIf (fOp (dEqv false) (fVar 6) (fC (.int 3))) (sRet (fM1 dJoin (fC (.str " ")) (fOp dAdd (fSl (fVar 2) (fPart (fVar 3)) (fNoPart)) (fSl (fVar 2) (fNoPart) (fPart (fVar 3)))))) (sNext)) b__law_changed_9
def b__law_changed_7 : FS := sSeq (sIf (fOp (dEqv false) (fVar 6) (fC (.int 2))) (sRet (fM1 dJoin (fC (.str " ")) (fOp dAdd (fOp dAdd (fSl (fVar 2) (fNoPart) (fPart (fVar 3))) (fLst (fCons (fVar 5) (fNil)))) (fSl (fVar 2) (fPart (fOp dAdd (fVar 3) (fC (.int 1)))) (fNoPart))))) (sNext)) b__law_changed_8
def b__law_changed_6 : FS := sSeq (sIf (fOp (dEqv false) (fVar 6) (fC (.int 1))) (sRet (fM1 dJoin (fC (.str " ")) (fOp dAdd (fSl (fVar 2) (fNoPart) (fPart (fVar 3))) (fSl (fVar 2) (fPart (fOp dAdd (fVar 3) (fC (.int 1)))) (fNoPart))))) (sNext)) b__law_changed_7
def b__law_changed_5 : FS := sSeq (sIf (fOp (dEqv false) (fVar 6) (fC (.int 0))) (sRet (fM1 dJoin (fC (.str " ")) (fOp dAdd (fOp dAdd (fSl (fVar 2) (fNoPart) (fPart (fVar 3))) (fLst (fCons (fVar 5) (fNil)))) (fSl (fVar 2) (fPart (fVar 3)) (fNoPart))))) (sNext)) b__law_changed_6
def b__law_changed_4 : FS := sSeq (sAsg (fCall F__law_take [] (fCons (fVar 0) (fCons (fC (.int 6)) (fNil)))) (gN 6)) b__law_changed_5
def b__law_changed_3 : FS := sSeq (sAsg (fOp dIx (fVar 4) (fCall F__law_take [] (fCons (fVar 0) (fCons (fC (.int 16)) (fNil))))) (gN 5)) b__law_changed_4
def b__law_changed_2 : FS := sSeq (sAsg (fLst (fCons (fC (.str "_")) (fCons (fC (.str "#0")) (fCons (fC (.str "#3")) (fCons (fC (.str "|2")) (fCons (fC (.str "/0")) (fCons (fC (.str ":")) (fCons (fC (.str "1")) (fCons (fC (.str "30")) (fCons (fC (.str "31")) (fCons (fC (.str "0")) (fCons (fC (.str "04")) (fCons (fC (.str "")) (fCons (fC (.str " ")) (fCons (fC (.str "#4")) (fCons (fC (.str "-1")) (fCons (fC (.str "a")) (fNil)))))))))))))))))) (gN 4)) b__law_changed_3
def b__law_changed_1 : FS := sSeq (sAsg (fCall F__law_take [] (fCons (fVar 0) (fCons (fCB dLen (fCons (fVar 2) (fNil))) (fNil)))) (gN 3)) b__law_changed_2
def b__law_changed : FS := sSeq (sAsg (fM1 dSplit (fVar 1) (fC (.str " "))) (gN 2)) b__law_changed_1
def F__law_changed : FF := noxF (runF 9 2 b__law_changed)
def b__law_marks : FS := sSeq (sAsg (fLc (fRng1 (fCons (fCall F__law_take [] (fCons (fVar 0) (fCons (fVar 1) (fNil)))) (fNil))) (gN 4) (fC (.bl true)) (fCall F__law_mark [] (fCons (fVar 0) (fNil))) [4]) (gN 2)) (sSeq (sAsg (fCall F__law_take [] (fCons (fVar 0) (fCons (fOp dAdd (fCB dLen (fCons (fVar 2) (fNil))) (fC (.int 1))) (fNil)))) (gN 3)) (sRet (fOp dAdd (fOp dAdd (fSl (fVar 2) (fNoPart) (fPart (fVar 3))) (fLst (fCons (fOp dAdd (fC (.str "#")) (fOp dIx (fC (.str "0123")) (fCall F__law_take [] (fCons (fVar 0) (fCons (fC (.int 4)) (fNil)))))) (fNil)))) (fSl (fVar 2) (fPart (fVar 3)) (fNoPart)))))
def F__law_marks : FF := noxF (runF 5 2 b__law_marks)
def b__law_read_5 : FS := sRet (fIf (fOp (dNil true) (fLc (fIter (fVar 2)) (gN 6) (fOp (dEqv false) (fOp dIx (fVar 6) (fC (.int 0))) (fC (.str "#"))) (fVar 6) [6]) (fLst (fNil))) (fLst (fCons (fVar 2) (fCons (fVar 3) (fCons (fVar 4) (fNil))))) (fC .non))
def b__law_read_4 : FS := sSeq (sIf (fOr (fOp (dIsN false) (fVar 3) (fC .non)) (fOr (fOp (dIsN false) (fVar 4) (fC .non)) (fOr (fOp dLt (fVar 4) (fVar 3)) (fOp (dEqv true) (fVar 2) (fCall F__law_sorted [] (fCons (fVar 2) (fNil))))))) (sRet (fC .non)) (sNext)) b__law_read_5
def b__law_read_3 : FS := sSeq (sPar 3 4 (fCons (fCall F__law_number [] (fCons (fOp dIx (fVar 1) (fUn dNeg (fC (.int 2)))) (fNil))) (fCons (fCall F__law_number [] (fCons (fOp dIx (fVar 1) (fUn dNeg (fC (.int 1)))) (fNil))) (fNil)))) b__law_read_4
def b__law_read_2 : FS := sSeq (sAsg (fLc (fIter (fSl (fVar 1) (fNoPart) (fPart (fUn dNeg (fC (.int 3)))))) (gN 5) (fC (.bl true)) (fIf (fOp (dEqv false) (fVar 5) (fC (.str "_"))) (fC (.str " ")) (fVar 5)) [5]) (gN 2)) b__law_read_3
def b__law_read_1 : FS := sSeq (sIf (fOr (fOp dLt (fCB dLen (fCons (fVar 1) (fNil))) (fC (.int 4))) (fOp (dEqv true) (fOp dIx (fVar 1) (fUn dNeg (fC (.int 3)))) (fC (.str ":")))) (sRet (fC .non)) (sNext)) b__law_read_2
def b__law_read : FS := sSeq (sAsg (fM1 dSplit (fVar 0) (fC (.str " "))) (gN 1)) b__law_read_1
def F__law_read : FF := noxF (runF 7 1 b__law_read)
def b_Stock___init___6 : FS := sSetF cf_ 0 "own_letters" (fLc2 (fIter (fFld cf_ "own_marks" (fVar 0))) (gN 4) (fC (.bl true)) (fRng2 (fCons (fVar 2) (fCons (fOp dAdd (fVar 3) (fC (.int 1))) (fNil)))) (gN 5) (fC (.bl true)) (fTup (fCons (fVar 4) (fCons (fVar 5) (fNil)))) [4, 5] [5])
def b_Stock___init___5 : FS := sSeq (sSetF cf_ 0 "most" (fVar 3)) b_Stock___init___6
def b_Stock___init___4 : FS := sSeq (sSetF cf_ 0 "least" (fVar 2)) b_Stock___init___5
def b_Stock___init___3 : FS := sSeq (sSetF cf_ 0 "own_marks" (fLc (fIter (fCall F_all_marks [] (fNil))) (gN 4) (fOp (dIn false) (fVar 4) (fVar 1)) (fVar 4) [4])) b_Stock___init___4
def b_Stock___init___2 : FS := sSeq (sIf (fNot (fCall F_is_integer [] (fCons (fVar 3) (fCons (fVar 2) (fCons (fC (.int 30)) (fNil)))))) (sRaise 5 "value" (fCons (fVar 3) (fNil))) (sNext)) b_Stock___init___3
def b_Stock___init___1 : FS := sSeq (sIf (fNot (fCall F_is_integer [] (fCons (fVar 2) (fCons (fC (.int 1)) (fCons (fC (.int 30)) (fNil)))))) (sRaise 5 "value" (fCons (fVar 2) (fNil))) (sNext)) b_Stock___init___2
def b_Stock___init__ : FS := sSeq (sIf (fNot (fCall F_are_stock_marks [] (fCons (fVar 1) (fNil)))) (sRaise 2 "value" (fCons (fVar 1) (fNil))) (sNext)) b_Stock___init___1
def F_Stock___init__ : FIn := runI 6 4 b_Stock___init__
def b_Stock_parse_8 : FS := sRetV 6
def b_Stock_parse_7 : FS := sSeq (sIf (fOp (dEqv true) (fSp1 [(7, F_Stock___str__)] isStrD (fVar 6)) (fVar 1)) (sRaise 3 "value" (fCons (fVar 1) (fNil))) (sNext)) b_Stock_parse_8
def b_Stock_parse_6 : FS := sSeq (sAsg (fMkKL 0 1 2 7 F_Stock___init__ (fun ds es => g_Stock___init___shortest_longest ds [] es) (fCons (fVar 3) (fNil)) (fCons (fVar 4) (fCons (fVar 5) (fNil)))) (gN 6)) b_Stock_parse_7
def b_Stock_parse_5 : FS := sSeq (sIf (fOr (fNot (fCall F_are_stock_marks [] (fCons (fVar 3) (fNil)))) (fOr (fOp (dIsN false) (fVar 4) (fC .non)) (fOr (fOp (dIsN false) (fVar 5) (fC .non)) (fOp dLt (fVar 5) (fVar 4))))) (sRaise 3 "value" (fCons (fVar 1) (fNil))) (sNext)) b_Stock_parse_6
def b_Stock_parse_4 : FS := sSeq (sAsg (fCallK 1 2 F_parse_integer (fun ds es => g_parse_integer_low_high ds [] es) (fCons (fOp dIx (fVar 2) (fUn dNeg (fC (.int 1)))) (fNil)) (fCons (fC (.int 1)) (fCons (fC (.int 30)) (fNil)))) (gN 5)) b_Stock_parse_5
def b_Stock_parse_3 : FS := sSeq (sAsg (fCallK 1 2 F_parse_integer (fun ds es => g_parse_integer_low_high ds [] es) (fCons (fOp dIx (fVar 2) (fUn dNeg (fC (.int 2)))) (fNil)) (fCons (fC (.int 1)) (fCons (fC (.int 30)) (fNil)))) (gN 4)) b_Stock_parse_4
def b_Stock_parse_2 : FS := sSeq (sAsg (fLc (fIter (fSl (fVar 2) (fNoPart) (fPart (fUn dNeg (fC (.int 3)))))) (gN 7) (fC (.bl true)) (fIf (fOp (dEqv false) (fVar 7) (fC (.str "_"))) (fC (.str " ")) (fVar 7)) [7]) (gN 3)) b_Stock_parse_3
def b_Stock_parse_1 : FS := sSeq (sIf (fOr (fOp (dIsN false) (fVar 2) (fC .non)) (fOr (fOp dLt (fCB dLen (fCons (fVar 2) (fNil))) (fC (.int 4))) (fOp (dEqv true) (fOp dIx (fVar 2) (fUn dNeg (fC (.int 3)))) (fC (.str ":"))))) (sRaise 3 "value" (fCons (fVar 1) (fNil))) (sNext)) b_Stock_parse_2
def b_Stock_parse : FS := sSeq (sAsg (fCall F_split_words [] (fCons (fVar 1) (fNil))) (gN 2)) b_Stock_parse_1
def F_Stock_parse : FF := runF 8 2 b_Stock_parse
def b__law_told : FS := sSeq (sAsg (fLst (fNil)) (gN 1)) (sSeq (sTry em_ (sSeq (sAsg (fCMeth 7 F_Stock_parse (fCons (fVar 0) (fNil))) (gN 2)) (sAsg (fLst (fCons (fMeth [(7, F_Stock_marks)] "marks" (fVar 2) (fNil)) (fCons (fMeth [(7, F_Stock_lengths)] "lengths" (fVar 2) (fNil)) (fCons (fSp1 [(7, F_Stock___str__)] isStrD (fVar 2)) (fNil))))) (gN 1))) [(3, 3, sAsg (fLst (fCons (fC (.str "text")) (fCons (fXf xf_ 3 "value") (fNil)))) (gN 1))]) (sRetV 1))
def F__law_told : FF := noxF (runF 4 1 b__law_told)
def b__law_right_14 : FS := sRet (fOp (dEqv false) (fCB dRepr (fCons (fCall F__law_told [] (fCons (fVar 10) (fNil))) (fNil))) (fCB dRepr (fCons (fLst (fCons (fC (.str "text")) (fCons (fVar 10) (fNil)))) (fNil))))
def b__law_right_13 : FS := sSeq (sAsg (fOp dIx (fLst (fCons (fC .non) (fCons (fC (.int 0)) (fCons (fC (.bl true)) (fCons (fLst (fCons (fVar 6) (fNil))) (fCons (fTup (fCons (fC (.str "#0")) (fNil))) (fCons (fDNew) (fCons (fLst (fNil)) (fNil))))))))) (fCall F__law_take [] (fCons (fVar 0) (fCons (fC (.int 7)) (fNil))))) (gN 10)) b__law_right_14
def b__law_right_12 : FS := sSeq (sIf (fOp (dEqv true) (fCB dRepr (fCons (fCall F__law_told [] (fCons (fVar 6) (fNil))) (fNil))) (fCB dRepr (fCons (fVar 9) (fNil)))) (sRet (fC (.bl false))) (sNext)) b__law_right_13
def b__law_right_11 : FS := sSeq (sIf (fOp (dIsN true) (fVar 8) (fC .non)) (sAsg (fLst (fCons (fOp dIx (fVar 8) (fC (.int 0))) (fCons (fLRg (fOp dIx (fVar 8) (fC (.int 1))) (fOp dAdd (fOp dIx (fVar 8) (fC (.int 2))) (fC (.int 1)))) (fCons (fVar 6) (fNil))))) (gN 9)) (sNext)) b__law_right_12
def b__law_right_10 : FS := sSeq (sAsg (fLst (fCons (fC (.str "text")) (fCons (fVar 6) (fNil)))) (gN 9)) b__law_right_11
def b__law_right_9 : FS := sSeq (sAsg (fCall F__law_read [] (fCons (fVar 6) (fNil))) (gN 8)) b__law_right_10
def b__law_right_8 : FS := sSeq (sFor (fRng1 (fCons (fOp dAdd (fC (.int 1)) (fCall F__law_take [] (fCons (fVar 0) (fCons (fC (.int 2)) (fNil))))) (fNil))) (gN 7) (sAsg (fCall F__law_changed [] (fCons (fVar 0) (fCons (fVar 6) (fNil)))) (gN 6))) b__law_right_9
def b__law_right_7 : FS := sSeq (sIf (fOp (dEqv true) (fCB dRepr (fCons (fCall F__law_told [] (fCons (fVar 6) (fNil))) (fNil))) (fCB dRepr (fCons (fLst (fCons (fVar 2) (fCons (fLRg (fVar 3) (fOp dAdd (fVar 4) (fC (.int 1)))) (fCons (fVar 6) (fNil))))) (fNil)))) (sRet (fC (.bl false))) (sNext)) b__law_right_8
def b__law_right_6 : FS := sSeq (sIf (fOp (dEqv true) (fSp1 [(7, F_Stock___str__)] isStrD (fMkK 1 2 7 F_Stock___init__ (fun ds es => g_Stock___init___shortest_longest ds [] es) (fCons (fVar 1) (fNil)) (fCons (fVar 3) (fCons (fVar 4) (fNil))))) (fVar 6)) (sRet (fC (.bl false))) (sNext)) b__law_right_7
def b__law_right_5 : FS := sSeq (sAsg (fM1 dJoin (fC (.str " ")) (fOp dAdd (fVar 5) (fLst (fCons (fC (.str ":")) (fCons (fCB dStr (fCons (fVar 3) (fNil))) (fCons (fCB dStr (fCons (fVar 4) (fNil))) (fNil))))))) (gN 6)) b__law_right_6
def b__law_right_4 : FS := sSeq (sAsg (fLc (fIter (fVar 2)) (gN 11) (fC (.bl true)) (fIf (fOp (dEqv false) (fVar 11) (fC (.str " "))) (fC (.str "_")) (fVar 11)) [11]) (gN 5)) b__law_right_5
def b__law_right_3 : FS := sSeq (sAsg (fOp dAdd (fVar 3) (fCall F__law_take [] (fCons (fVar 0) (fCons (fOp dSub (fC (.int 31)) (fVar 3)) (fNil))))) (gN 4)) b__law_right_4
def b__law_right_2 : FS := sSeq (sAsg (fOp dAdd (fC (.int 1)) (fCall F__law_take [] (fCons (fVar 0) (fCons (fC (.int 30)) (fNil))))) (gN 3)) b__law_right_3
def b__law_right_1 : FS := sSeq (sAsg (fCall F__law_sorted [] (fCons (fVar 1) (fNil))) (gN 2)) b__law_right_2
def b__law_right : FS := sSeq (sAsg (fCall F__law_marks [] (fCons (fVar 0) (fCons (fC (.int 9)) (fNil)))) (gN 1)) b__law_right_1
def F__law_right : FF := noxF (runF 12 1 b__law_right)
def b_law : FS := sSeq (sFor (fRng1 (fCons (fCB dMax (fCons (fC (.int 2)) (fCons (fCB dMin (fCons (fC (.int 20)) (fCons (fCB dLen (fCons (fVar 0) (fNil))) (fNil)))) (fNil)))) (fNil))) (gN 1) (sIf (fNot (fCall F__law_right [] (fCons (fAdo (fCall F__law_purse [] (fCons (fCall F__law_cell [] (fCons (fVar 0) (fCons (fVar 1) (fNil)))) (fNil)))) (fNil)))) (sRet (fC (.bl false))) (sNext))) (sRet (fC (.bl true)))
def F_law : FF := noxF (runF 2 1 b_law)
end
def topS (i : Nat) : Stmt := PySem.Challenge.pw_reflows_k45_stocks_as_texts.main.body.getD i (.Pass ⟨0, 0, 0, 0⟩)
abbrev s_is_integer : Stmt := topS 13
abbrev N_is_integer : List Str := ["value", "low", "high"]
abbrev P_is_integer : List Str := ["value", "low", "high"]
theorem sc_is_integer : FnScope N_is_integer P_is_integer (defScope s_is_integer) := ⟨rfl, rfl, rfl, by decide +kernel, rfl, by decide +kernel, by decide +kernel⟩
abbrev s_is_mark : Stmt := topS 14
abbrev N_is_mark : List Str := ["value"]
abbrev P_is_mark : List Str := ["value"]
theorem sc_is_mark : FnScope N_is_mark P_is_mark (defScope s_is_mark) := ⟨rfl, rfl, rfl, by decide +kernel, rfl, by decide +kernel, by decide +kernel⟩
abbrev s_all_marks : Stmt := topS 15
abbrev N_all_marks : List Str := ["kind", "indent"]
abbrev P_all_marks : List Str := []
theorem sc_all_marks : FnScope N_all_marks P_all_marks (defScope s_all_marks) := ⟨rfl, rfl, rfl, by decide +kernel, rfl, by decide +kernel, by decide +kernel⟩
abbrev s_parse_integer : Stmt := topS 16
abbrev N_parse_integer : List Str := ["text", "low", "high", "digits", "number", "sign"]
abbrev P_parse_integer : List Str := ["text", "low", "high"]
theorem sc_parse_integer : FnScope N_parse_integer P_parse_integer (defScope s_parse_integer) := ⟨rfl, rfl, rfl, by decide +kernel, rfl, by decide +kernel, by decide +kernel⟩
abbrev s_split_words : Stmt := topS 17
abbrev N_split_words : List Str := ["text", "words"]
abbrev P_split_words : List Str := ["text"]
theorem sc_split_words : FnScope N_split_words P_split_words (defScope s_split_words) := ⟨rfl, rfl, rfl, by decide +kernel, rfl, by decide +kernel, by decide +kernel⟩
abbrev s_are_stock_marks : Stmt := topS 20
abbrev N_are_stock_marks : List Str := ["value", "mark"]
abbrev P_are_stock_marks : List Str := ["value"]
theorem sc_are_stock_marks : FnScope N_are_stock_marks P_are_stock_marks (defScope s_are_stock_marks) := ⟨rfl, rfl, rfl, by decide +kernel, rfl, by decide +kernel, by decide +kernel⟩
abbrev s__law_cell : Stmt := topS 23
abbrev N__law_cell : List Str := ["_law_script", "_law_k"]
abbrev P__law_cell : List Str := ["_law_script", "_law_k"]
theorem sc__law_cell : FnScope N__law_cell P__law_cell (defScope s__law_cell) := ⟨rfl, rfl, rfl, by decide +kernel, rfl, by decide +kernel, by decide +kernel⟩
abbrev s__law_purse : Stmt := topS 24
abbrev N__law_purse : List Str := ["_law_cell_here"]
abbrev P__law_purse : List Str := ["_law_cell_here"]
theorem sc__law_purse : FnScope N__law_purse P__law_purse (defScope s__law_purse) := ⟨rfl, rfl, rfl, by decide +kernel, rfl, by decide +kernel, by decide +kernel⟩
abbrev s__law_take : Stmt := topS 25
abbrev N__law_take : List Str := ["_law_purse_here", "_law_many", "_law_digit", "_law_number_here"]
abbrev P__law_take : List Str := ["_law_purse_here", "_law_many"]
theorem sc__law_take : FnScope N__law_take P__law_take (defScope s__law_take) := ⟨rfl, rfl, rfl, by decide +kernel, rfl, by decide +kernel, by decide +kernel⟩
abbrev s__law_all_marks : Stmt := topS 26
abbrev N__law_all_marks : List Str := []
abbrev P__law_all_marks : List Str := []
theorem sc__law_all_marks : FnScope N__law_all_marks P__law_all_marks (defScope s__law_all_marks) := ⟨rfl, rfl, rfl, by decide +kernel, rfl, by decide +kernel, by decide +kernel⟩
abbrev s__law_mark : Stmt := topS 27
abbrev N__law_mark : List Str := ["_law_purse_here"]
abbrev P__law_mark : List Str := ["_law_purse_here"]
theorem sc__law_mark : FnScope N__law_mark P__law_mark (defScope s__law_mark) := ⟨rfl, rfl, rfl, by decide +kernel, rfl, by decide +kernel, by decide +kernel⟩
abbrev s__law_marks : Stmt := topS 30
abbrev N__law_marks : List Str := ["_law_purse_here", "_law_most", "_law_marks_here", "_law_at", "_law_k"]
abbrev P__law_marks : List Str := ["_law_purse_here", "_law_most"]
theorem sc__law_marks : FnScope N__law_marks P__law_marks (defScope s__law_marks) := ⟨rfl, rfl, rfl, by decide +kernel, rfl, by decide +kernel, by decide +kernel⟩
abbrev s__law_sorted : Stmt := topS 31
abbrev N__law_sorted : List Str := ["_law_marks_here", "_law_one"]
abbrev P__law_sorted : List Str := ["_law_marks_here"]
theorem sc__law_sorted : FnScope N__law_sorted P__law_sorted (defScope s__law_sorted) := ⟨rfl, rfl, rfl, by decide +kernel, rfl, by decide +kernel, by decide +kernel⟩
abbrev s__law_number : Stmt := topS 34
abbrev N__law_number : List Str := ["_law_word_here", "_law_number_here"]
abbrev P__law_number : List Str := ["_law_word_here"]
theorem sc__law_number : FnScope N__law_number P__law_number (defScope s__law_number) := ⟨rfl, rfl, rfl, by decide +kernel, rfl, by decide +kernel, by decide +kernel⟩
abbrev s__law_read : Stmt := topS 35
abbrev N__law_read : List Str := ["_law_shown", "_law_words", "_law_marks_here", "_law_low", "_law_high", "_law_word_here", "_law_mark_here"]
abbrev P__law_read : List Str := ["_law_shown"]
theorem sc__law_read : FnScope N__law_read P__law_read (defScope s__law_read) := ⟨rfl, rfl, rfl, by decide +kernel, rfl, by decide +kernel, by decide +kernel⟩
abbrev s__law_told : Stmt := topS 36
abbrev N__law_told : List Str := ["_law_value", "_law_found", "_law_stock", "e"]
abbrev P__law_told : List Str := ["_law_value"]
theorem sc__law_told : FnScope N__law_told P__law_told (defScope s__law_told) := ⟨rfl, rfl, rfl, by decide +kernel, rfl, by decide +kernel, by decide +kernel⟩
abbrev s__law_changed : Stmt := topS 37
abbrev N__law_changed : List Str := ["_law_purse_here", "_law_shown", "_law_words", "_law_at", "_law_some", "_law_word_here", "_law_way", "_law_spot", "_law_sign"]
abbrev P__law_changed : List Str := ["_law_purse_here", "_law_shown"]
theorem sc__law_changed : FnScope N__law_changed P__law_changed (defScope s__law_changed) := ⟨rfl, rfl, rfl, by decide +kernel, rfl, by decide +kernel, by decide +kernel⟩
abbrev s__law_right : Stmt := topS 38
abbrev N__law_right : List Str := ["_law_purse_here", "_law_given", "_law_marks_here", "_law_low", "_law_high", "_law_words", "_law_shown", "_law_turn", "_law_read_here", "_law_due", "_law_odd", "_law_mark_here"]
abbrev P__law_right : List Str := ["_law_purse_here"]
theorem sc__law_right : FnScope N__law_right P__law_right (defScope s__law_right) := ⟨rfl, rfl, rfl, by decide +kernel, rfl, by decide +kernel, by decide +kernel⟩
abbrev s_law : Stmt := topS 39
abbrev N_law : List Str := ["_law_script", "_law_k"]
abbrev P_law : List Str := ["_law_script"]
theorem sc_law : FnScope N_law P_law (defScope s_law) := ⟨rfl, rfl, rfl, by decide +kernel, rfl, by decide +kernel, by decide +kernel⟩
abbrev s_Stock___init__ : Stmt := inClass (topS 21) 0
abbrev N_Stock___init__ : List Str := ["self", "marks", "shortest", "longest", "mark", "length"]
abbrev P_Stock___init__ : List Str := ["self", "marks", "shortest", "longest"]
theorem sc_Stock___init__ : FnScope N_Stock___init__ P_Stock___init__ (defScope s_Stock___init__) := ⟨rfl, rfl, rfl, by decide +kernel, rfl, by decide +kernel, by decide +kernel⟩
abbrev s_Stock_parse : Stmt := inClass (topS 21) 1
abbrev N_Stock_parse : List Str := ["cls", "text", "words", "marks", "shortest", "longest", "found", "word"]
abbrev P_Stock_parse : List Str := ["cls", "text"]
theorem sc_Stock_parse : FnScope N_Stock_parse P_Stock_parse (defScope s_Stock_parse) := ⟨rfl, rfl, rfl, by decide +kernel, rfl, by decide +kernel, by decide +kernel⟩
abbrev s_Stock___str__ : Stmt := inClass (topS 21) 2
abbrev N_Stock___str__ : List Str := ["self", "marks", "mark"]
abbrev P_Stock___str__ : List Str := ["self"]
theorem sc_Stock___str__ : FnScope N_Stock___str__ P_Stock___str__ (defScope s_Stock___str__) := ⟨rfl, rfl, rfl, by decide +kernel, rfl, by decide +kernel, by decide +kernel⟩
abbrev s_Stock_marks : Stmt := inClass (topS 21) 9
abbrev N_Stock_marks : List Str := ["self"]
abbrev P_Stock_marks : List Str := ["self"]
theorem sc_Stock_marks : FnScope N_Stock_marks P_Stock_marks (defScope s_Stock_marks) := ⟨rfl, rfl, rfl, by decide +kernel, rfl, by decide +kernel, by decide +kernel⟩
abbrev s_Stock_lengths : Stmt := inClass (topS 21) 10
abbrev N_Stock_lengths : List Str := ["self"]
abbrev P_Stock_lengths : List Str := ["self"]
theorem sc_Stock_lengths : FnScope N_Stock_lengths P_Stock_lengths (defScope s_Stock_lengths) := ⟨rfl, rfl, rfl, by decide +kernel, rfl, by decide +kernel, by decide +kernel⟩
abbrev sI_InvalidMarks : Stmt := inClass (topS 4) 0
theorem scI_InvalidMarks : FnScope ["self", "value"] ["self", "value"] (defScope sI_InvalidMarks) := ⟨rfl, rfl, rfl, by decide +kernel, rfl, by decide +kernel, by decide +kernel⟩
abbrev sI_InvalidText : Stmt := inClass (topS 5) 0
theorem scI_InvalidText : FnScope ["self", "value"] ["self", "value"] (defScope sI_InvalidText) := ⟨rfl, rfl, rfl, by decide +kernel, rfl, by decide +kernel, by decide +kernel⟩
abbrev sI_InvalidInteger : Stmt := inClass (topS 7) 0
theorem scI_InvalidInteger : FnScope ["self", "value"] ["self", "value"] (defScope sI_InvalidInteger) := ⟨rfl, rfl, rfl, by decide +kernel, rfl, by decide +kernel, by decide +kernel⟩
def sp_is_integer (K : PySem.W.Frag) (ca : Nat → Addr) : Sp := SpF K ca F_is_integer
def sp_is_mark (K : PySem.W.Frag) (ca : Nat → Addr) : Sp := SpF K ca F_is_mark
def sp_all_marks (K : PySem.W.Frag) (ca : Nat → Addr) : Sp := SpF K ca F_all_marks
def sp_parse_integer (K : PySem.W.Frag) (ca : Nat → Addr) : Sp := SpF K ca F_parse_integer
def sp_split_words (K : PySem.W.Frag) (ca : Nat → Addr) : Sp := SpF K ca F_split_words
def sp_are_stock_marks (K : PySem.W.Frag) (ca : Nat → Addr) : Sp := SpF K ca F_are_stock_marks
def sp__law_cell (K : PySem.W.Frag) (ca : Nat → Addr) : Sp := SpF K ca F__law_cell
def sp__law_purse (K : PySem.W.Frag) (ca : Nat → Addr) : Sp := SpF K ca F__law_purse
def sp__law_take (K : PySem.W.Frag) (ca : Nat → Addr) : Sp := SpF K ca F__law_take
def sp__law_all_marks (K : PySem.W.Frag) (ca : Nat → Addr) : Sp := SpF K ca F__law_all_marks
def sp__law_mark (K : PySem.W.Frag) (ca : Nat → Addr) : Sp := SpF K ca F__law_mark
def sp__law_marks (K : PySem.W.Frag) (ca : Nat → Addr) : Sp := SpF K ca F__law_marks
def sp__law_sorted (K : PySem.W.Frag) (ca : Nat → Addr) : Sp := SpF K ca F__law_sorted
def sp__law_number (K : PySem.W.Frag) (ca : Nat → Addr) : Sp := SpF K ca F__law_number
def sp__law_read (K : PySem.W.Frag) (ca : Nat → Addr) : Sp := SpF K ca F__law_read
def sp__law_told (K : PySem.W.Frag) (ca : Nat → Addr) : Sp := SpF K ca F__law_told
def sp__law_changed (K : PySem.W.Frag) (ca : Nat → Addr) : Sp := SpF K ca F__law_changed
def sp__law_right (K : PySem.W.Frag) (ca : Nat → Addr) : Sp := SpF K ca F__law_right
def sp_law (K : PySem.W.Frag) (ca : Nat → Addr) : Sp := SpF K ca F_law
def sp_Stock___init__ (K : PySem.W.Frag) (ca : Nat → Addr) : Sp := SpI K ca F_Stock___init__
def sp_Stock_parse (K : PySem.W.Frag) (ca : Nat → Addr) : Sp := SpF K ca F_Stock_parse
def sp_Stock___str__ (K : PySem.W.Frag) (ca : Nat → Addr) : Sp := SpF K ca F_Stock___str__
def sp_Stock_marks (K : PySem.W.Frag) (ca : Nat → Addr) : Sp := SpF K ca F_Stock_marks
def sp_Stock_lengths (K : PySem.W.Frag) (ca : Nat → Addr) : Sp := SpF K ca F_Stock_lengths
def t_is_integer (K : PySem.W.Frag) (ca : Nat → Addr) : TS := tRet (uAndV (uIsi .int (uVar 0)) (uAndV (uNotV (uIsi .bl (uVar 0))) (uChain uLe uLe (uVar 1) (uVar 0) (uVar 2))))
def t_is_mark (K : PySem.W.Frag) (ca : Nat → Addr) : TS := tSeq (uIfS (uNot (uT (uIsi .str (uVar 0)))) (tRet (tC (.bl false))) (tNext)) (tRet (uOrV (tOp (uEq2 K) (uVar 0) (tC (.str " "))) (uAndV (tOp (uEq2 K) (tCB (uLen K) (tCons (uVar 0) (tNil))) (tC (.int 2))) (uAndV (tOp (uIn K false) (tOp (uIx K) (uVar 0) (tC (.int 0))) (tC (.str "#|/"))) (tOp (uIn K false) (tOp (uIx K) (uVar 0) (tC (.int 1))) (tC (.str "0123")))))))
def t_all_marks (K : PySem.W.Frag) (ca : Nat → Addr) : TS := tRet (tOp (uAdd K) (tLst (tCons (tC (.str " ")) (tNil))) (tLc2 (uIter K (tC (.str "#|/"))) (gName 0) (tYes) (iRng1 (tCons (tOp (uAdd K) (tC (.int 3)) (tC (.int 1))) (tNil))) (gName 1) (tYes) (tOp (uAdd K) (uVar 0) (tCB uStr (tCons (uVar 1) (tNil)))) [0, 1] [1]))
def t_parse_integer (K : PySem.W.Frag) (ca : Nat → Addr) : TS := tSeq (uIfS (uOr (uNot (uT (uIsi .str (uVar 0)))) (uOr (uT (tOp (uEq2 K) (uVar 0) (tC (.str "")))) (uT (tOp uGt (tCB (uLen K) (tCons (uVar 0) (tNil))) (tC (.int 31)))))) (tRet (tC .non)) (tNext)) (tSeq (tAsg (uIf (uT (tOp (uEq2 K) (tOp (uIx K) (uVar 0) (tC (.int 0))) (tC (.str "-")))) (L2.tSl (uSl K) (uVar 0) (uPart (tC (.int 1))) (tNoPart)) (uVar 0)) (gName 3)) (tSeq (uIfS (uOr (uT (tOp (uEq2 K) (uVar 3) (tC (.str "")))) (uNot (uT (tCB (uAll K) (tCons (tLc (uIter K (uVar 3)) (gName 5) (tYes) (tOp (uIn K false) (uVar 5) (tC (.str "0123456789"))) [5]) (tNil)))))) (tRet (tC .non)) (tNext)) (tSeq (uIfS (uAnd (uT (tOp (uEq2 K) (tOp (uIx K) (uVar 3) (tC (.int 0))) (tC (.str "0")))) (uT (tOp (uNe2 K) (uVar 0) (tC (.str "0"))))) (tRet (tC .non)) (tNext)) (tSeq (tAsg (tCB uInt (tCons (uVar 0) (tNil))) (gName 4)) (tRet (uIf (uT (uChain uLe uLe (uVar 1) (uVar 4) (uVar 2))) (uVar 4) (tC .non)))))))
def t_split_words (K : PySem.W.Frag) (ca : Nat → Addr) : TS := tSeq (uIfS (uOr (uNot (uT (uIsi .str (uVar 0)))) (uT (tOp (uIn K false) (tC (.str "\n")) (uVar 0)))) (tRet (tC .non)) (tNext)) (tSeq (tAsg (tM1 uSplit (uVar 0) (tC (.str " "))) (gName 1)) (tRet (uIf (uT (tOp (uIn K false) (tC (.str "")) (uVar 1))) (tC .non) (uVar 1))))
def t_are_stock_marks (K : PySem.W.Frag) (ca : Nat → Addr) : TS := tSeq (uIfS (uOr (uNot (uT (tCB (uIsiT [.lst, .tup]) (tCons (uVar 0) (tCons (tTup (tCons (tC (.ty "list")) (tCons (tC (.ty "tuple")) (tNil)))) tNil))))) (uNot (uT (tCB (uAll K) (tCons (tLc (uIter K (uVar 0)) (gName 1) (tYes) (tCall (sp_is_mark K ca) [] E0 (tCons (uVar 1) (tNil))) [1]) (tNil)))))) (tRet (tC (.bl false))) (tNext)) (tRet (tCB (uAny K) (tCons (tLc (uIter K (uVar 0)) (gName 1) (tYes) (tOp (uEq2 K) (tOp (uIx K) (uVar 1) (tC (.int 0))) (tC (.str "#"))) [1]) (tNil))))
def t__law_cell (K : PySem.W.Frag) (ca : Nat → Addr) : TS := tSeq (uIfS (uT (tOp uLt (uVar 1) (tCB (uLen K) (tCons (uVar 0) (tNil))))) (tRet (tOp (uIx K) (uVar 0) (uVar 1))) (tNext)) (tRet (tOp (uAdd K) (tOp uMul3 (tC (.int 7919)) (uVar 1)) (tC (.int 31))))
def t__law_purse (K : PySem.W.Frag) (ca : Nat → Addr) : TS := tRet (tLst (tCons (tCB uMax2 (tCons (tC (.int 0)) (tCons (tOp uSub (uVar 0) (tOp uPow (tC (.int 10)) (tC (.int 18)))) (tNil)))) (tCons (tOp uMod (uVar 0) (tC (.int 2147483629))) (tCons (tC (.int 0)) (tNil)))))
def t__law_take (K : PySem.W.Frag) (ca : Nat → Addr) : TS := tSeq (uIfS (uT (tOp uGt (tOp (uIx K) (uVar 0) (tC (.int 0))) (tC (.int 0)))) (tSeq (tAsg (tOp uMod (tOp (uIx K) (uVar 0) (tC (.int 0))) (uVar 1)) (gName 2)) (tSeq (tAsg (tOp uFdiv (tOp (uIx K) (uVar 0) (tC (.int 0))) (uVar 1)) (gSub (uVar 0) (tC (.int 0)) uSetL)) (tRet (uVar 2)))) (tNext)) (tSeq (tAsg (tOp (uAdd K) (tOp (uIx K) (uVar 0) (tC (.int 2))) (tC (.int 1))) (gSub (uVar 0) (tC (.int 2)) uSetL)) (tSeq (tAsg (tOp uMod (tOp uPow (tOp (uAdd K) (tOp (uAdd K) (tOp (uIx K) (uVar 0) (tC (.int 1))) (tOp uMul3 (tC (.int 7919)) (tOp (uIx K) (uVar 0) (tC (.int 2))))) (tC (.int 145))) (tC (.int 5))) (tC (.int 2147483647))) (gName 3)) (tSeq (tAsg (tOp uMod (tOp uPow (tOp (uAdd K) (uVar 3) (tOp uMul3 (tC (.int 104729)) (tOp (uIx K) (uVar 0) (tC (.int 2))))) (tC (.int 3))) (tC (.int 2147483587))) (gName 3)) (tRet (tOp uMod (tOp uFdiv (uVar 3) (tC (.int 16))) (uVar 1))))))
def t__law_all_marks (K : PySem.W.Frag) (ca : Nat → Addr) : TS := tRet (tLst (tCons (tC (.str " ")) (tCons (tC (.str "#0")) (tCons (tC (.str "#1")) (tCons (tC (.str "#2")) (tCons (tC (.str "#3")) (tCons (tC (.str "|0")) (tCons (tC (.str "|1")) (tCons (tC (.str "|2")) (tCons (tC (.str "|3")) (tCons (tC (.str "/0")) (tCons (tC (.str "/1")) (tCons (tC (.str "/2")) (tCons (tC (.str "/3")) (tNil)))))))))))))))
def t__law_mark (K : PySem.W.Frag) (ca : Nat → Addr) : TS := tSeq (uIfS (uT (tOp (uEq2 K) (tCall (sp__law_take K ca) [] E0 (tCons (uVar 0) (tCons (tC (.int 3)) (tNil)))) (tC (.int 0)))) (tRet (tC (.str " "))) (tNext)) (tRet (tOp (uAdd K) (tOp (uIx K) (tC (.str "#|/")) (tCall (sp__law_take K ca) [] E0 (tCons (uVar 0) (tCons (tC (.int 3)) (tNil))))) (tOp (uIx K) (tC (.str "0123")) (tCall (sp__law_take K ca) [] E0 (tCons (uVar 0) (tCons (tC (.int 4)) (tNil)))))))
def t__law_marks (K : PySem.W.Frag) (ca : Nat → Addr) : TS := tSeq (tAsg (tLc (iRng1 (tCons (tCall (sp__law_take K ca) [] E0 (tCons (uVar 0) (tCons (uVar 1) (tNil)))) (tNil))) (gName 4) (tYes) (tCall (sp__law_mark K ca) [] E0 (tCons (uVar 0) (tNil))) [4]) (gName 2)) (tSeq (tAsg (tCall (sp__law_take K ca) [] E0 (tCons (uVar 0) (tCons (tOp (uAdd K) (tCB (uLen K) (tCons (uVar 2) (tNil))) (tC (.int 1))) (tNil)))) (gName 3)) (tRet (tOp (uAdd K) (tOp (uAdd K) (L2.tSl (uSl K) (uVar 2) (tNoPart) (uPart (uVar 3))) (tLst (tCons (tOp (uAdd K) (tC (.str "#")) (tOp (uIx K) (tC (.str "0123")) (tCall (sp__law_take K ca) [] E0 (tCons (uVar 0) (tCons (tC (.int 4)) (tNil)))))) (tNil)))) (L2.tSl (uSl K) (uVar 2) (uPart (uVar 3)) (tNoPart)))))
def t__law_sorted (K : PySem.W.Frag) (ca : Nat → Addr) : TS := tRet (tLc (uIter K (tCall (sp__law_all_marks K ca) [] E0 tNil)) (gName 1) (uT (tOp (uIn K false) (uVar 1) (uVar 0))) (uVar 1) [1])
def t__law_number (K : PySem.W.Frag) (ca : Nat → Addr) : TS := tRet (uIf (uT (tOp (uIn K false) (uVar 0) (tLc (iRng2 (tCons (tC (.int 1)) (tCons (tC (.int 31)) (tNil)))) (gName 1) (tYes) (tCB uStr (tCons (uVar 1) (tNil))) [1]))) (tCB uInt (tCons (uVar 0) (tNil))) (tC .non))
def t__law_read (K : PySem.W.Frag) (ca : Nat → Addr) : TS := tSeq (tAsg (tM1 uSplit (uVar 0) (tC (.str " "))) (gName 1)) (tSeq (uIfS (uOr (uT (tOp uLt (tCB (uLen K) (tCons (uVar 1) (tNil))) (tC (.int 4)))) (uT (tOp (uNe2 K) (tOp (uIx K) (uVar 1) (tUn uNeg (tC (.int 3)))) (tC (.str ":"))))) (tRet (tC .non)) (tNext)) (tSeq (tAsg (tLc (uIter K (L2.tSl (uSl K) (uVar 1) (tNoPart) (uPart (tUn uNeg (tC (.int 3)))))) (gName 5) (tYes) (uIf (uT (tOp (uEq2 K) (uVar 5) (tC (.str "_")))) (tC (.str " ")) (uVar 5)) [5]) (gName 2)) (tSeq (tPar2 3 4 (tCons (tCall (sp__law_number K ca) [] E0 (tCons (tOp (uIx K) (uVar 1) (tUn uNeg (tC (.int 2)))) (tNil))) (tCons (tCall (sp__law_number K ca) [] E0 (tCons (tOp (uIx K) (uVar 1) (tUn uNeg (tC (.int 1)))) (tNil))) (tNil)))) (tSeq (uIfS (uOr (uT (tOp (uIs false) (uVar 3) (tC .non))) (uOr (uT (tOp (uIs false) (uVar 4) (tC .non))) (uOr (uT (tOp uLt (uVar 4) (uVar 3))) (uT (tOp (uNe2 K) (uVar 2) (tCall (sp__law_sorted K ca) [] E0 (tCons (uVar 2) (tNil)))))))) (tRet (tC .non)) (tNext)) (tRet (uIf (uT (tOp (uNe3 K) (tLc (uIter K (uVar 2)) (gName 6) (uT (tOp (uEq2 K) (tOp (uIx K) (uVar 6) (tC (.int 0))) (tC (.str "#")))) (uVar 6) [6]) (tLst (tNil)))) (tLst (tCons (uVar 2) (tCons (uVar 3) (tCons (uVar 4) (tNil))))) (tC .non)))))))
def t__law_told (K : PySem.W.Frag) (ca : Nat → Addr) : TS := tSeq (tAsg (tLst (tNil)) (gName 1)) (tSeq (uTry K (fun _ _ _ _ => False) [⟨.ref (ca 3), 3, fun a cls d => tAsg (tLst (tCons (tC (.str "text")) (tCons (uXf K a cls d 3 "value") (tNil)))) (gName 1)⟩] (fun W => tSeq (tAsg (uCMeth (ca 7) (sp_Stock_parse K ca) (WE W) (tC (.ref (ca 7))) (tCons (uVar 0) (tNil))) (gName 2)) (tAsg (tLst (tCons (uMeth "marks" [(ca 7, sp_Stock_marks K ca)] (WE W) (uVar 2) (tNil)) (tCons (uMeth "lengths" [(ca 7, sp_Stock_lengths K ca)] (WE W) (uVar 2) (tNil)) (tCons (uSp1 [(ca 7, sp_Stock___str__ K ca)] (WE W) okStr (uVar 2)) (tNil))))) (gName 1)))) (tRet (uVar 1)))
def t__law_changed (K : PySem.W.Frag) (ca : Nat → Addr) : TS := tSeq (tAsg (tM1 uSplit (uVar 1) (tC (.str " "))) (gName 2)) (tSeq (tAsg (tCall (sp__law_take K ca) [] E0 (tCons (uVar 0) (tCons (tCB (uLen K) (tCons (uVar 2) (tNil))) (tNil)))) (gName 3)) (tSeq (tAsg (tLst (tCons (tC (.str "_")) (tCons (tC (.str "#0")) (tCons (tC (.str "#3")) (tCons (tC (.str "|2")) (tCons (tC (.str "/0")) (tCons (tC (.str ":")) (tCons (tC (.str "1")) (tCons (tC (.str "30")) (tCons (tC (.str "31")) (tCons (tC (.str "0")) (tCons (tC (.str "04")) (tCons (tC (.str "")) (tCons (tC (.str " ")) (tCons (tC (.str "#4")) (tCons (tC (.str "-1")) (tCons (tC (.str "a")) (tNil)))))))))))))))))) (gName 4)) (tSeq (tAsg (tOp (uIx K) (uVar 4) (tCall (sp__law_take K ca) [] E0 (tCons (uVar 0) (tCons (tC (.int 16)) (tNil))))) (gName 5)) (tSeq (tAsg (tCall (sp__law_take K ca) [] E0 (tCons (uVar 0) (tCons (tC (.int 6)) (tNil)))) (gName 6)) (tSeq (uIfS (uT (tOp (uEq2 K) (uVar 6) (tC (.int 0)))) (tRet (tM1 (uJoin K) (tC (.str " ")) (tOp (uAdd K) (tOp (uAdd K) (L2.tSl (uSl K) (uVar 2) (tNoPart) (uPart (uVar 3))) (tLst (tCons (uVar 5) (tNil)))) (L2.tSl (uSl K) (uVar 2) (uPart (uVar 3)) (tNoPart))))) (tNext)) (tSeq (uIfS (uT (tOp (uEq2 K) (uVar 6) (tC (.int 1)))) (tRet (tM1 (uJoin K) (tC (.str " ")) (tOp (uAdd K) (L2.tSl (uSl K) (uVar 2) (tNoPart) (uPart (uVar 3))) (L2.tSl (uSl K) (uVar 2) (uPart (tOp (uAdd K) (uVar 3) (tC (.int 1)))) (tNoPart))))) (tNext)) (tSeq (uIfS (uT (tOp (uEq2 K) (uVar 6) (tC (.int 2)))) (tRet (tM1 (uJoin K) (tC (.str " ")) (tOp (uAdd K) (tOp (uAdd K) (L2.tSl (uSl K) (uVar 2) (tNoPart) (uPart (uVar 3))) (tLst (tCons (uVar 5) (tNil)))) (L2.tSl (uSl K) (uVar 2) (uPart (tOp (uAdd K) (uVar 3) (tC (.int 1)))) (tNoPart))))) (tNext)) (tSeq (uIfS (uT (tOp (uEq2 K) (uVar 6) (tC (.int 3)))) (tRet (tM1 (uJoin K) (tC (.str " ")) (tOp (uAdd K) (L2.tSl (uSl K) (uVar 2) (uPart (uVar 3)) (tNoPart)) (L2.tSl (uSl K) (uVar 2) (tNoPart) (uPart (uVar 3)))))) (tNext)) (tSeq (uIfS (uT (tOp (uEq2 K) (uVar 6) (tC (.int 4)))) (tRet (tM1 (uJoin K) (tC (.str " ")) (tOp (uAdd K) (tOp (uAdd K) (L2.tSl (uSl K) (uVar 2) (tNoPart) (uPart (uVar 3))) (uRev K (L2.tSl (uSl K) (uVar 2) (uPart (uVar 3)) (uPart (tOp (uAdd K) (uVar 3) (tC (.int 2))))))) (L2.tSl (uSl K) (uVar 2) (uPart (tOp (uAdd K) (uVar 3) (tC (.int 2)))) (tNoPart))))) (tNext)) (tSeq (tAsg (tCall (sp__law_take K ca) [] E0 (tCons (uVar 0) (tCons (tOp (uAdd K) (tCB (uLen K) (tCons (uVar 1) (tNil))) (tC (.int 1))) (tNil)))) (gName 7)) (tSeq (tAsg (tOp (uIx K) (tLst (tCons (tC (.str "")) (tCons (tC (.str "\n")) (tCons (tC (.str " ")) (tCons (tC (.str "0")) (tCons (tC (.str "_")) (tNil))))))) (tCall (sp__law_take K ca) [] E0 (tCons (uVar 0) (tCons (tC (.int 5)) (tNil))))) (gName 8)) (tRet (tOp (uAdd K) (tOp (uAdd K) (L2.tSl (uSl K) (uVar 1) (tNoPart) (uPart (uVar 7))) (uVar 8)) (L2.tSl (uSl K) (uVar 1) (uPart (tOp (uAdd K) (uVar 7) (tCall (sp__law_take K ca) [] E0 (tCons (uVar 0) (tCons (tC (.int 2)) (tNil)))))) (tNoPart)))))))))))))))
def t__law_right (K : PySem.W.Frag) (ca : Nat → Addr) : TS := tSeq (tAsg (tCall (sp__law_marks K ca) [] E0 (tCons (uVar 0) (tCons (tC (.int 9)) (tNil)))) (gName 1)) (tSeq (tAsg (tCall (sp__law_sorted K ca) [] E0 (tCons (uVar 1) (tNil))) (gName 2)) (tSeq (tAsg (tOp (uAdd K) (tC (.int 1)) (tCall (sp__law_take K ca) [] E0 (tCons (uVar 0) (tCons (tC (.int 30)) (tNil))))) (gName 3)) (tSeq (tAsg (tOp (uAdd K) (uVar 3) (tCall (sp__law_take K ca) [] E0 (tCons (uVar 0) (tCons (tOp uSub (tC (.int 31)) (uVar 3)) (tNil))))) (gName 4)) (tSeq (tAsg (tLc (uIter K (uVar 2)) (gName 11) (tYes) (uIf (uT (tOp (uEq2 K) (uVar 11) (tC (.str " ")))) (tC (.str "_")) (uVar 11)) [11]) (gName 5)) (tSeq (tAsg (tM1 (uJoin K) (tC (.str " ")) (tOp (uAdd K) (uVar 5) (tLst (tCons (tC (.str ":")) (tCons (tCB uStr (tCons (uVar 3) (tNil))) (tCons (tCB uStr (tCons (uVar 4) (tNil))) (tNil))))))) (gName 6)) (tSeq (uIfS (uT (tOp (uNe2 K) (uSp1 [(ca 7, sp_Stock___str__ K ca)] (WE (fun _ _ _ _ => False)) okStr (uMakeK (ca 7) 1 2 (sp_Stock___init__ K ca) gV_Stock___init___shortest_longest (WE (fun _ _ _ _ => False)) (tCons (uVar 1) (tNil)) (tCons (uVar 3) (tCons (uVar 4) (tNil))))) (uVar 6))) (tRet (tC (.bl false))) (tNext)) (tSeq (uIfS (uT (tOp (uNe2 K) (tCB (uRepr3 K) (tCons (tCall (sp__law_told K ca) [] E0 (tCons (uVar 6) (tNil))) (tNil))) (tCB (uRepr3 K) (tCons (tLst (tCons (uVar 2) (tCons (tLstRg (tRg2 (uVar 3) (tOp (uAdd K) (uVar 4) (tC (.int 1))))) (tCons (uVar 6) (tNil))))) (tNil))))) (tRet (tC (.bl false))) (tNext)) (tSeq (tFor (iRng1 (tCons (tOp (uAdd K) (tC (.int 1)) (tCall (sp__law_take K ca) [] E0 (tCons (uVar 0) (tCons (tC (.int 2)) (tNil))))) (tNil))) (gName 7) (tAsg (tCall (sp__law_changed K ca) [] E0 (tCons (uVar 0) (tCons (uVar 6) (tNil)))) (gName 6))) (tSeq (tAsg (tCall (sp__law_read K ca) [] E0 (tCons (uVar 6) (tNil))) (gName 8)) (tSeq (tAsg (tLst (tCons (tC (.str "text")) (tCons (uVar 6) (tNil)))) (gName 9)) (tSeq (uIfS (uT (tOp (uIs true) (uVar 8) (tC .non))) (tAsg (tLst (tCons (tOp (uIx K) (uVar 8) (tC (.int 0))) (tCons (tLstRg (tRg2 (tOp (uIx K) (uVar 8) (tC (.int 1))) (tOp (uAdd K) (tOp (uIx K) (uVar 8) (tC (.int 2))) (tC (.int 1))))) (tCons (uVar 6) (tNil))))) (gName 9)) (tNext)) (tSeq (uIfS (uT (tOp (uNe2 K) (tCB (uRepr3 K) (tCons (tCall (sp__law_told K ca) [] E0 (tCons (uVar 6) (tNil))) (tNil))) (tCB (uRepr3 K) (tCons (uVar 9) (tNil))))) (tRet (tC (.bl false))) (tNext)) (tSeq (tAsg (tOp (uIx K) (tLst (tCons (tC .non) (tCons (tC (.int 0)) (tCons (tC (.bl true)) (tCons (tLst (tCons (uVar 6) (tNil))) (tCons (tTup (tCons (tC (.str "#0")) (tNil))) (tCons (tDNewK) (tCons (tLst (tNil)) (tNil))))))))) (tCall (sp__law_take K ca) [] E0 (tCons (uVar 0) (tCons (tC (.int 7)) (tNil))))) (gName 10)) (tRet (tOp (uEq2 K) (tCB (uRepr3 K) (tCons (tCall (sp__law_told K ca) [] E0 (tCons (uVar 10) (tNil))) (tNil))) (tCB (uRepr3 K) (tCons (tLst (tCons (tC (.str "text")) (tCons (uVar 10) (tNil)))) (tNil))))))))))))))))))
def t_law (K : PySem.W.Frag) (ca : Nat → Addr) : TS := tSeq (tFor (iRng1 (tCons (tCB uMax2 (tCons (tC (.int 2)) (tCons (tCB uMin2 (tCons (tC (.int 20)) (tCons (tCB (uLen K) (tCons (uVar 0) (tNil))) (tNil)))) (tNil)))) (tNil))) (gName 1) (uIfS (uNot (uT (tCall (sp__law_right K ca) [] E0 (tCons (tCall (sp__law_purse K ca) [] E0 (tCons (tCall (sp__law_cell K ca) [] E0 (tCons (uVar 0) (tCons (uVar 1) (tNil)))) (tNil))) (tNil))))) (tRet (tC (.bl false))) (tNext))) (tRet (tC (.bl true)))
def t_Stock___init__ (K : PySem.W.Frag) (ca : Nat → Addr) (E : XK) : TS := tSeq (uIfS (uNot (uT (tCall (sp_are_stock_marks K ca) [] E0 (tCons (uVar 1) (tNil))))) (uRaise (ca 2) "value" E (tCons (uVar 1) (tNil))) (tNext)) (tSeq (uIfS (uNot (uT (tCall (sp_is_integer K ca) [] E0 (tCons (uVar 2) (tCons (tC (.int 1)) (tCons (tC (.int 30)) (tNil))))))) (uRaise (ca 5) "value" E (tCons (uVar 2) (tNil))) (tNext)) (tSeq (uIfS (uNot (uT (tCall (sp_is_integer K ca) [] E0 (tCons (uVar 3) (tCons (uVar 2) (tCons (tC (.int 30)) (tNil))))))) (uRaise (ca 5) "value" E (tCons (uVar 3) (tNil))) (tNext)) (tSeq (sFld K (uVar 0) (tLc (uIter K (tCall (sp_all_marks K ca) [] E0 tNil)) (gName 4) (uT (tOp (uIn K false) (uVar 4) (uVar 1))) (uVar 4) [4]) "own_marks") (tSeq (sFld K (uVar 0) (uVar 2) "least") (tSeq (sFld K (uVar 0) (uVar 3) "most") (sFld K (uVar 0) (tLc2 (uIter K (tFld K (uVar 0) "own_marks")) (gName 4) (tYes) (iRng2 (tCons (uVar 2) (tCons (tOp (uAdd K) (uVar 3) (tC (.int 1))) (tNil)))) (gName 5) (tYes) (tTup (tCons (uVar 4) (tCons (uVar 5) (tNil)))) [4, 5] [5]) "own_letters"))))))
def t_Stock_parse (K : PySem.W.Frag) (ca : Nat → Addr) (E : XK) : TS := tSeq (tAsg (tCall (sp_split_words K ca) [] E0 (tCons (uVar 1) (tNil))) (gName 2)) (tSeq (uIfS (uOr (uT (tOp (uIs false) (uVar 2) (tC .non))) (uOr (uT (tOp uLt (tCB (uLen K) (tCons (uVar 2) (tNil))) (tC (.int 4)))) (uT (tOp (uNe2 K) (tOp (uIx K) (uVar 2) (tUn uNeg (tC (.int 3)))) (tC (.str ":")))))) (uRaise (ca 3) "value" E (tCons (uVar 1) (tNil))) (tNext)) (tSeq (tAsg (tLc (uIter K (L2.tSl (uSl K) (uVar 2) (tNoPart) (uPart (tUn uNeg (tC (.int 3)))))) (gName 7) (tYes) (uIf (uT (tOp (uEq2 K) (uVar 7) (tC (.str "_")))) (tC (.str " ")) (uVar 7)) [7]) (gName 3)) (tSeq (tAsg (tCallN 1 2 (sp_parse_integer K ca) gV_parse_integer_low_high E0 (tCons (tOp (uIx K) (uVar 2) (tUn uNeg (tC (.int 2)))) (tNil)) (tCons (tC (.int 1)) (tCons (tC (.int 30)) (tNil)))) (gName 4)) (tSeq (tAsg (tCallN 1 2 (sp_parse_integer K ca) gV_parse_integer_low_high E0 (tCons (tOp (uIx K) (uVar 2) (tUn uNeg (tC (.int 1)))) (tNil)) (tCons (tC (.int 1)) (tCons (tC (.int 30)) (tNil)))) (gName 5)) (tSeq (uIfS (uOr (uNot (uT (tCall (sp_are_stock_marks K ca) [] E0 (tCons (uVar 3) (tNil))))) (uOr (uT (tOp (uIs false) (uVar 4) (tC .non))) (uOr (uT (tOp (uIs false) (uVar 5) (tC .non))) (uT (tOp uLt (uVar 5) (uVar 4)))))) (uRaise (ca 3) "value" E (tCons (uVar 1) (tNil))) (tNext)) (tSeq (tAsg (uMakeKL 0 (ca 7) 1 2 (sp_Stock___init__ K ca) gV_Stock___init___shortest_longest (WE (fun cls d _ H => E cls d H)) (tCons (uVar 3) (tNil)) (tCons (uVar 4) (tCons (uVar 5) (tNil)))) (gName 6)) (tSeq (uIfS (uT (tOp (uNe2 K) (uSp1 [(ca 7, sp_Stock___str__ K ca)] (WE (fun cls d _ H => E cls d H)) okStr (uVar 6)) (uVar 1))) (uRaise (ca 3) "value" E (tCons (uVar 1) (tNil))) (tNext)) (tRet (uVar 6)))))))))
def t_Stock___str__ (K : PySem.W.Frag) (ca : Nat → Addr) : TS := tSeq (tAsg (tM1 (uJoin K) (tC (.str " ")) (tLc (uIter K (tFld K (uVar 0) "own_marks")) (gName 2) (tYes) (uIf (uT (tOp (uEq2 K) (uVar 2) (tC (.str " ")))) (tC (.str "_")) (uVar 2)) [2])) (gName 1)) (tRet ((fun σ H Q => tJs [tFmt (uVar 1), tC (.str " : "), tFmt (tFld K (uVar 0) "least"), tC (.str " "), tFmt (tFld K (uVar 0) "most")] Str.empty σ H fun out H1 => Q (.str out) H1)))
def t_Stock_marks (K : PySem.W.Frag) (ca : Nat → Addr) : TS := tRet (tCB (uList K) (tCons (tFld K (uVar 0) "own_marks") (tNil)))
def t_Stock_lengths (K : PySem.W.Frag) (ca : Nat → Addr) : TS := tRet (tLstRg (tRg2 (tFld K (uVar 0) "least") (tOp (uAdd K) (tFld K (uVar 0) "most") (tC (.int 1)))))
structure Ct (K : PySem.W.Frag) (ca : Nat → Addr) : Prop where
  yes : True
  x_InvalidMarks : XfC K (ca 2)
  n_InvalidMarks : PySem.W.findIn K (.ref (ca 2)) "value" = some none
  x_InvalidText : XfC K (ca 3)
  n_InvalidText : PySem.W.findIn K (.ref (ca 3)) "value" = some none
  x_InvalidInteger : XfC K (ca 5)
  n_InvalidInteger : PySem.W.findIn K (.ref (ca 5)) "value" = some none
  e_InvalidInteger_InvalidText : PySem.W.exmOne K (.ref (ca 5)) (.ref (ca 3)) = some false
  e_InvalidMarks_InvalidText : PySem.W.exmOne K (.ref (ca 2)) (.ref (ca 3)) = some false
  e_InvalidText_InvalidText : PySem.W.exmOne K (.ref (ca 3)) (.ref (ca 3)) = some true
  cl_Stock : Cls K (ca 7)
  na_Stock_least : NoAttr K (ca 7) "least"
  na_Stock_most : NoAttr K (ca 7) "most"
  na_Stock_own_letters : NoAttr K (ca 7) "own_letters"
  na_Stock_own_marks : NoAttr K (ca 7) "own_marks"
structure Tx (K : PySem.W.Frag) (mg : Str → Option Value) (a : Nat → Addr) (d : Nat → FuncData) (ca : Nat → Addr) : Prop where
  ct : Ct K ca
  f_is_integer : Fun K "is_integer" "is_integer" s_is_integer (a 0) (d 0)
  b_is_integer : Binds K (d 0) P_is_integer []
  m_is_integer : mg "is_integer" = some (.ref (a 0))
  f_is_mark : Fun K "is_mark" "is_mark" s_is_mark (a 1) (d 1)
  b_is_mark : Binds K (d 1) P_is_mark []
  m_is_mark : mg "is_mark" = some (.ref (a 1))
  f_all_marks : Fun K "all_marks" "all_marks" s_all_marks (a 2) (d 2)
  b_all_marks : Binds K (d 2) P_all_marks []
  m_all_marks : mg "all_marks" = some (.ref (a 2))
  f_parse_integer : FunD K "parse_integer" "parse_integer" (defArgs s_parse_integer) (defBody s_parse_integer) (defScope s_parse_integer) [] [("low", .int 0), ("high", .int 999)] (a 3) (d 3)
  b_parse_integer : ∃ ds, Vals [.int 0, .int 999] ds ∧ Binds K (d 3) P_parse_integer ds
  k_parse_integer_low_high : ∃ gg, KBn K (d 3) P_parse_integer 1 ["low", "high"] gg gV_parse_integer_low_high
  m_parse_integer : mg "parse_integer" = some (.ref (a 3))
  f_split_words : Fun K "split_words" "split_words" s_split_words (a 4) (d 4)
  b_split_words : Binds K (d 4) P_split_words []
  m_split_words : mg "split_words" = some (.ref (a 4))
  f_are_stock_marks : Fun K "are_stock_marks" "are_stock_marks" s_are_stock_marks (a 5) (d 5)
  b_are_stock_marks : Binds K (d 5) P_are_stock_marks []
  m_are_stock_marks : mg "are_stock_marks" = some (.ref (a 5))
  f__law_cell : Fun K "_law_cell" "_law_cell" s__law_cell (a 6) (d 6)
  b__law_cell : Binds K (d 6) P__law_cell []
  m__law_cell : mg "_law_cell" = some (.ref (a 6))
  f__law_purse : Fun K "_law_purse" "_law_purse" s__law_purse (a 7) (d 7)
  b__law_purse : Binds K (d 7) P__law_purse []
  m__law_purse : mg "_law_purse" = some (.ref (a 7))
  f__law_take : Fun K "_law_take" "_law_take" s__law_take (a 8) (d 8)
  b__law_take : Binds K (d 8) P__law_take []
  m__law_take : mg "_law_take" = some (.ref (a 8))
  f__law_all_marks : Fun K "_law_all_marks" "_law_all_marks" s__law_all_marks (a 9) (d 9)
  b__law_all_marks : Binds K (d 9) P__law_all_marks []
  m__law_all_marks : mg "_law_all_marks" = some (.ref (a 9))
  f__law_mark : Fun K "_law_mark" "_law_mark" s__law_mark (a 10) (d 10)
  b__law_mark : Binds K (d 10) P__law_mark []
  m__law_mark : mg "_law_mark" = some (.ref (a 10))
  f__law_marks : Fun K "_law_marks" "_law_marks" s__law_marks (a 11) (d 11)
  b__law_marks : Binds K (d 11) P__law_marks []
  m__law_marks : mg "_law_marks" = some (.ref (a 11))
  f__law_sorted : Fun K "_law_sorted" "_law_sorted" s__law_sorted (a 12) (d 12)
  b__law_sorted : Binds K (d 12) P__law_sorted []
  m__law_sorted : mg "_law_sorted" = some (.ref (a 12))
  f__law_number : Fun K "_law_number" "_law_number" s__law_number (a 13) (d 13)
  b__law_number : Binds K (d 13) P__law_number []
  m__law_number : mg "_law_number" = some (.ref (a 13))
  f__law_read : Fun K "_law_read" "_law_read" s__law_read (a 14) (d 14)
  b__law_read : Binds K (d 14) P__law_read []
  m__law_read : mg "_law_read" = some (.ref (a 14))
  f__law_told : Fun K "_law_told" "_law_told" s__law_told (a 15) (d 15)
  b__law_told : Binds K (d 15) P__law_told []
  m__law_told : mg "_law_told" = some (.ref (a 15))
  f__law_changed : Fun K "_law_changed" "_law_changed" s__law_changed (a 16) (d 16)
  b__law_changed : Binds K (d 16) P__law_changed []
  m__law_changed : mg "_law_changed" = some (.ref (a 16))
  f__law_right : Fun K "_law_right" "_law_right" s__law_right (a 17) (d 17)
  b__law_right : Binds K (d 17) P__law_right []
  m__law_right : mg "_law_right" = some (.ref (a 17))
  f_law : Fun K "law" "law" s_law (a 18) (d 18)
  b_law : Binds K (d 18) P_law []
  m_law : mg "law" = some (.ref (a 18))
  f_Stock___init__ : FunD K "__init__" "Stock.__init__" (defArgs s_Stock___init__) (defBody s_Stock___init__) (defScope s_Stock___init__) [] [("shortest", .int 1), ("longest", .int 4)] (a 19) (d 19)
  b_Stock___init__ : ∃ ds, Vals [.int 1, .int 4] ds ∧ Binds K (d 19) P_Stock___init__ ds
  k_Stock___init___shortest_longest : ∃ gg, KBn K (d 19) P_Stock___init__ 2 ["shortest", "longest"] gg gV_Stock___init___shortest_longest
  f_Stock_parse : Fun K "parse" "Stock.parse" s_Stock_parse (a 20) (d 20)
  b_Stock_parse : Binds K (d 20) P_Stock_parse []
  f_Stock___str__ : Fun K "__str__" "Stock.__str__" s_Stock___str__ (a 21) (d 21)
  b_Stock___str__ : Binds K (d 21) P_Stock___str__ []
  f_Stock_marks : Fun K "marks" "Stock.marks" s_Stock_marks (a 22) (d 22)
  b_Stock_marks : Binds K (d 22) P_Stock_marks []
  f_Stock_lengths : Fun K "lengths" "Stock.lengths" s_Stock_lengths (a 23) (d 23)
  b_Stock_lengths : Binds K (d 23) P_Stock_lengths []
  me_Stock___str__ : Meth K (ca 7) "__str__" (a 21)
  me_Stock_lengths : Meth K (ca 7) "lengths" (a 23)
  me_Stock_marks : Meth K (ca 7) "marks" (a 22)
  mk_Stock : Mk K (ca 7) (a 19)
  m_Stock : mg "Stock" = some (.ref (ca 7))
  cr_Stock : ClX.CRead K (ca 7) (.type "type")
  cm_Stock_parse : ∃ pp, ClX.CMet K (ca 7) (.type "type") "parse" pp (a 20)
  x_InvalidMarks : U.ExcC K mg "InvalidMarks" "value" (ca 2) (a 24)
  F_InvalidMarks : Fun K "__init__" "InvalidMarks.__init__" sI_InvalidMarks (a 24) (d 24)
  i_InvalidMarks : Binds K (d 24) ["self", "value"] []
  m_InvalidMarks : mg "InvalidMarks" = some (.ref (ca 2))
  x_InvalidText : U.ExcC K mg "InvalidText" "value" (ca 3) (a 25)
  F_InvalidText : Fun K "__init__" "InvalidText.__init__" sI_InvalidText (a 25) (d 25)
  i_InvalidText : Binds K (d 25) ["self", "value"] []
  m_InvalidText : mg "InvalidText" = some (.ref (ca 3))
  x_InvalidInteger : U.ExcC K mg "InvalidInteger" "value" (ca 5) (a 26)
  F_InvalidInteger : Fun K "__init__" "InvalidInteger.__init__" sI_InvalidInteger (a 26) (d 26)
  i_InvalidInteger : Binds K (d 26) ["self", "value"] []
  m_InvalidInteger : mg "InvalidInteger" = some (.ref (ca 5))
  y_ReflowError : U.BaseC K (ca 0)
  w_ReflowError : mg "ReflowError" = some (.ref (ca 0))
  z_all : mg "all" = none
  z_any : mg "any" = none
  z_bool : mg "bool" = none
  z_int : mg "int" = none
  z_isinstance : mg "isinstance" = none
  z_len : mg "len" = none
  z_list : mg "list" = none
  z_max : mg "max" = none
  z_min : mg "min" = none
  z_range : mg "range" = none
  z_repr : mg "repr" = none
  z_str : mg "str" = none
  z_tuple : mg "tuple" = none
  c_BLANK : ∃ t, mg "BLANK" = some (.str "_" t)
  c_KINDS : ∃ t, mg "KINDS" = some (.str "#|/" t)
  c_MOST_INDENT : ∃ t, mg "MOST_INDENT" = some (.int (3) t)
  c_MOST_LETTERS : ∃ t, mg "MOST_LETTERS" = some (.int (30) t)
section
variable {K : PySem.W.Frag} {ca : Nat → Addr}
theorem hem_ (T : Ct K ca) : ∀ c h b, em_ c h = some b → PySem.W.exmOne K (.ref (ca c)) (.ref (ca h)) = some b := by
  intro c h b e; unfold em_ at e; split at e
  · cases e; exact T.e_InvalidInteger_InvalidText
  · cases e; exact T.e_InvalidMarks_InvalidText
  · cases e; exact T.e_InvalidText_InvalidText
  · cases e
theorem hxf_ (T : Ct K ca) : ∀ c f, xf_ c f = true → XfC K (ca c) ∧ PySem.W.findIn K (.ref (ca c)) f = some none := by
  intro c f e; unfold xf_ at e; split at e
  · have e := of_decide_eq_true e; subst e; exact ⟨T.x_InvalidMarks, T.n_InvalidMarks⟩
  · have e := of_decide_eq_true e; subst e; exact ⟨T.x_InvalidText, T.n_InvalidText⟩
  · have e := of_decide_eq_true e; subst e; exact ⟨T.x_InvalidInteger, T.n_InvalidInteger⟩
  · cases e
theorem hcf_ (T : Ct K ca) : FldOk K ca cf_ := by
  intro c f e; unfold cf_ at e; split at e
  · simp only [Bool.or_eq_true, decide_eq_true_eq] at e
    rcases e with ((e | e) | e) | e
    · subst e; exact ⟨T.cl_Stock, T.na_Stock_least⟩
    · subst e; exact ⟨T.cl_Stock, T.na_Stock_most⟩
    · subst e; exact ⟨T.cl_Stock, T.na_Stock_own_letters⟩
    · subst e; exact ⟨T.cl_Stock, T.na_Stock_own_marks⟩
  · cases e
theorem a_is_integer (T : Ct K ca) : SS ⟨K, ca, none, none⟩ NoE (t_is_integer K ca) b_is_integer :=
  ss_ret (se_and (se_isi .int (se_var 0)) (se_and (se_not (se_isi .bl (se_var 0))) (se_chain (sr_cmp _ _) (sr_cmp _ _) (se_var 1) (se_var 0) (se_var 2))))
theorem len_is_integer {vs : List V} {H : Hp} {Q : VK} {E : XK} (h : sp_is_integer K ca vs H Q E) : vs.length = P_is_integer.length := nox_len (N := N_is_integer) (P := P_is_integer) h
theorem p_is_integer (T : Ct K ca) {vs : List V} {H : Hp} {Q : VK} {E : XK} (h : sp_is_integer K ca vs H Q E) : t_is_integer K ca { nx := fun _ H' => Q .non H', rt := Q } (L2.start N_is_integer vs) H := nox_ok (N := N_is_integer) (P := P_is_integer) (a_is_integer T) h
theorem a_is_mark (T : Ct K ca) : SS ⟨K, ca, none, none⟩ NoE (t_is_mark K ca) b_is_mark :=
  ss_seq (ss_if (st_not (st_val (se_isi .str (se_var 0)))) (ss_ret (se_bl _)) (ss_next)) (ss_ret (se_or (se_op sr_eq (se_var 0) (se_str _)) (se_and (se_op sr_eq (se_cb sc_len (sa_cons (se_var 0) (sa_nil))) (se_int _)) (se_and (se_op (sr_in false) (se_op sr_ix (se_var 0) (se_int _)) (se_str _)) (se_op (sr_in false) (se_op sr_ix (se_var 0) (se_int _)) (se_str _))))))
theorem len_is_mark {vs : List V} {H : Hp} {Q : VK} {E : XK} (h : sp_is_mark K ca vs H Q E) : vs.length = P_is_mark.length := nox_len (N := N_is_mark) (P := P_is_mark) h
theorem p_is_mark (T : Ct K ca) {vs : List V} {H : Hp} {Q : VK} {E : XK} (h : sp_is_mark K ca vs H Q E) : t_is_mark K ca { nx := fun _ H' => Q .non H', rt := Q } (L2.start N_is_mark vs) H := nox_ok (N := N_is_mark) (P := P_is_mark) (a_is_mark T) h
theorem a_all_marks (T : Ct K ca) : SS ⟨K, ca, none, none⟩ NoE (t_all_marks K ca) b_all_marks :=
  ss_ret (se_op sr_add (se_lst (sa_cons (se_str _) (sa_nil))) (se_lc2 (si_iter (se_str _)) (sg_name 0) (st_yes) (si_rng1 (sa_cons (se_op sr_add (se_int _) (se_int _)) (sa_nil))) (sg_name 1) (st_yes) (se_op sr_add (se_var 0) (se_cb sc_str (sa_cons (se_var 1) (sa_nil))))))
theorem len_all_marks {vs : List V} {H : Hp} {Q : VK} {E : XK} (h : sp_all_marks K ca vs H Q E) : vs.length = P_all_marks.length := nox_len (N := N_all_marks) (P := P_all_marks) h
theorem p_all_marks (T : Ct K ca) {vs : List V} {H : Hp} {Q : VK} {E : XK} (h : sp_all_marks K ca vs H Q E) : t_all_marks K ca { nx := fun _ H' => Q .non H', rt := Q } (L2.start N_all_marks vs) H := nox_ok (N := N_all_marks) (P := P_all_marks) (a_all_marks T) h
theorem a_parse_integer (T : Ct K ca) : SS ⟨K, ca, none, none⟩ NoE (t_parse_integer K ca) b_parse_integer :=
  ss_seq (ss_if (st_or (st_not (st_val (se_isi .str (se_var 0)))) (st_or (st_val (se_op sr_eq (se_var 0) (se_str _))) (st_val (se_op (sr_cmp _ _) (se_cb sc_len (sa_cons (se_var 0) (sa_nil))) (se_int _))))) (ss_ret (se_non)) (ss_next)) (ss_seq (ss_asg (se_if (st_val (se_op sr_eq (se_op sr_ix (se_var 0) (se_int _)) (se_str _))) (se_sl (se_var 0) (so_some (se_int _)) (so_none)) (se_var 0)) (sg_name 3)) (ss_seq (ss_if (st_or (st_val (se_op sr_eq (se_var 3) (se_str _))) (st_not (st_val (se_cb sc_all (sa_cons (se_lc (si_iter (se_var 3)) (sg_name 5) (st_yes) (se_op (sr_in false) (se_var 5) (se_str _))) (sa_nil)))))) (ss_ret (se_non)) (ss_next)) (ss_seq (ss_if (st_and (st_val (se_op sr_eq (se_op sr_ix (se_var 3) (se_int _)) (se_str _))) (st_val (se_op sr_ne (se_var 0) (se_str _)))) (ss_ret (se_non)) (ss_next)) (ss_seq (ss_asg (se_cb sc_int (sa_cons (se_var 0) (sa_nil))) (sg_name 4)) (ss_ret (se_if (st_val (se_chain (sr_cmp _ _) (sr_cmp _ _) (se_var 1) (se_var 4) (se_var 2))) (se_var 4) (se_non)))))))
theorem len_parse_integer {vs : List V} {H : Hp} {Q : VK} {E : XK} (h : sp_parse_integer K ca vs H Q E) : vs.length = P_parse_integer.length := nox_len (N := N_parse_integer) (P := P_parse_integer) h
theorem p_parse_integer (T : Ct K ca) {vs : List V} {H : Hp} {Q : VK} {E : XK} (h : sp_parse_integer K ca vs H Q E) : t_parse_integer K ca { nx := fun _ H' => Q .non H', rt := Q } (L2.start N_parse_integer vs) H := nox_ok (N := N_parse_integer) (P := P_parse_integer) (a_parse_integer T) h
theorem a_split_words (T : Ct K ca) : SS ⟨K, ca, none, none⟩ NoE (t_split_words K ca) b_split_words :=
  ss_seq (ss_if (st_or (st_not (st_val (se_isi .str (se_var 0)))) (st_val (se_op (sr_in false) (se_str _) (se_var 0)))) (ss_ret (se_non)) (ss_next)) (ss_seq (ss_asg (se_m1 sm_split (se_var 0) (se_str _)) (sg_name 1)) (ss_ret (se_if (st_val (se_op (sr_in false) (se_str _) (se_var 1))) (se_non) (se_var 1))))
theorem len_split_words {vs : List V} {H : Hp} {Q : VK} {E : XK} (h : sp_split_words K ca vs H Q E) : vs.length = P_split_words.length := nox_len (N := N_split_words) (P := P_split_words) h
theorem p_split_words (T : Ct K ca) {vs : List V} {H : Hp} {Q : VK} {E : XK} (h : sp_split_words K ca vs H Q E) : t_split_words K ca { nx := fun _ H' => Q .non H', rt := Q } (L2.start N_split_words vs) H := nox_ok (N := N_split_words) (P := P_split_words) (a_split_words T) h
theorem a_are_stock_marks (T : Ct K ca) : SS ⟨K, ca, none, none⟩ NoE (t_are_stock_marks K ca) b_are_stock_marks :=
  ss_seq (ss_if (st_or (st_not (st_val (se_isiT [.lst, .tup] (se_var 0)))) (st_not (st_val (se_cb sc_all (sa_cons (se_lc (si_iter (se_var 0)) (sg_name 1) (st_yes) (se_callN (nox_no _) (sa_cons (se_var 1) (sa_nil)))) (sa_nil)))))) (ss_ret (se_bl _)) (ss_next)) (ss_ret (se_cb sc_any (sa_cons (se_lc (si_iter (se_var 0)) (sg_name 1) (st_yes) (se_op sr_eq (se_op sr_ix (se_var 1) (se_int _)) (se_str _))) (sa_nil))))
theorem len_are_stock_marks {vs : List V} {H : Hp} {Q : VK} {E : XK} (h : sp_are_stock_marks K ca vs H Q E) : vs.length = P_are_stock_marks.length := nox_len (N := N_are_stock_marks) (P := P_are_stock_marks) h
theorem p_are_stock_marks (T : Ct K ca) {vs : List V} {H : Hp} {Q : VK} {E : XK} (h : sp_are_stock_marks K ca vs H Q E) : t_are_stock_marks K ca { nx := fun _ H' => Q .non H', rt := Q } (L2.start N_are_stock_marks vs) H := nox_ok (N := N_are_stock_marks) (P := P_are_stock_marks) (a_are_stock_marks T) h
theorem a__law_cell (T : Ct K ca) : SS ⟨K, ca, none, none⟩ NoE (t__law_cell K ca) b__law_cell :=
  ss_seq (ss_if (st_val (se_op (sr_cmp _ _) (se_var 1) (se_cb sc_len (sa_cons (se_var 0) (sa_nil))))) (ss_ret (se_op sr_ix (se_var 0) (se_var 1))) (ss_next)) (ss_ret (se_op sr_add (se_op sr_mul (se_int _) (se_var 1)) (se_int _)))
theorem len__law_cell {vs : List V} {H : Hp} {Q : VK} {E : XK} (h : sp__law_cell K ca vs H Q E) : vs.length = P__law_cell.length := nox_len (N := N__law_cell) (P := P__law_cell) h
theorem p__law_cell (T : Ct K ca) {vs : List V} {H : Hp} {Q : VK} {E : XK} (h : sp__law_cell K ca vs H Q E) : t__law_cell K ca { nx := fun _ H' => Q .non H', rt := Q } (L2.start N__law_cell vs) H := nox_ok (N := N__law_cell) (P := P__law_cell) (a__law_cell T) h
theorem a__law_purse (T : Ct K ca) : SS ⟨K, ca, none, none⟩ NoE (t__law_purse K ca) b__law_purse :=
  ss_ret (se_lst (sa_cons (se_cb sc_max (sa_cons (se_int _) (sa_cons (se_op sr_sub (se_var 0) (se_op sr_pow (se_int _) (se_int _))) (sa_nil)))) (sa_cons (se_op sr_mod (se_var 0) (se_int _)) (sa_cons (se_int _) (sa_nil)))))
theorem len__law_purse {vs : List V} {H : Hp} {Q : VK} {E : XK} (h : sp__law_purse K ca vs H Q E) : vs.length = P__law_purse.length := nox_len (N := N__law_purse) (P := P__law_purse) h
theorem p__law_purse (T : Ct K ca) {vs : List V} {H : Hp} {Q : VK} {E : XK} (h : sp__law_purse K ca vs H Q E) : t__law_purse K ca { nx := fun _ H' => Q .non H', rt := Q } (L2.start N__law_purse vs) H := nox_ok (N := N__law_purse) (P := P__law_purse) (a__law_purse T) h
theorem a__law_take (T : Ct K ca) : SS ⟨K, ca, none, none⟩ NoE (t__law_take K ca) b__law_take :=
  ss_seq (ss_if (st_val (se_op (sr_cmp _ _) (se_op sr_ix (se_var 0) (se_int _)) (se_int _))) (ss_seq (ss_asg (se_op sr_mod (se_op sr_ix (se_var 0) (se_int _)) (se_var 1)) (sg_name 2)) (ss_seq (ss_setI (se_op sr_fdiv (se_op sr_ix (se_var 0) (se_int _)) (se_var 1)) (se_int _)) (ss_retV 2))) (ss_next)) (ss_seq (ss_setI (se_op sr_add (se_op sr_ix (se_var 0) (se_int _)) (se_int _)) (se_int _)) (ss_seq (ss_asg (se_op sr_mod (se_op sr_pow (se_op sr_add (se_op sr_add (se_op sr_ix (se_var 0) (se_int _)) (se_op sr_mul (se_int _) (se_op sr_ix (se_var 0) (se_int _)))) (se_int _)) (se_int _)) (se_int _)) (sg_name 3)) (ss_seq (ss_asg (se_op sr_mod (se_op sr_pow (se_op sr_add (se_var 3) (se_op sr_mul (se_int _) (se_op sr_ix (se_var 0) (se_int _)))) (se_int _)) (se_int _)) (sg_name 3)) (ss_ret (se_op sr_mod (se_op sr_fdiv (se_var 3) (se_int _)) (se_var 1))))))
theorem len__law_take {vs : List V} {H : Hp} {Q : VK} {E : XK} (h : sp__law_take K ca vs H Q E) : vs.length = P__law_take.length := nox_len (N := N__law_take) (P := P__law_take) h
theorem p__law_take (T : Ct K ca) {vs : List V} {H : Hp} {Q : VK} {E : XK} (h : sp__law_take K ca vs H Q E) : t__law_take K ca { nx := fun _ H' => Q .non H', rt := Q } (L2.start N__law_take vs) H := nox_ok (N := N__law_take) (P := P__law_take) (a__law_take T) h
theorem a__law_all_marks (T : Ct K ca) : SS ⟨K, ca, none, none⟩ NoE (t__law_all_marks K ca) b__law_all_marks :=
  ss_ret (se_lst (sa_cons (se_str _) (sa_cons (se_str _) (sa_cons (se_str _) (sa_cons (se_str _) (sa_cons (se_str _) (sa_cons (se_str _) (sa_cons (se_str _) (sa_cons (se_str _) (sa_cons (se_str _) (sa_cons (se_str _) (sa_cons (se_str _) (sa_cons (se_str _) (sa_cons (se_str _) (sa_nil)))))))))))))))
theorem len__law_all_marks {vs : List V} {H : Hp} {Q : VK} {E : XK} (h : sp__law_all_marks K ca vs H Q E) : vs.length = P__law_all_marks.length := nox_len (N := N__law_all_marks) (P := P__law_all_marks) h
theorem p__law_all_marks (T : Ct K ca) {vs : List V} {H : Hp} {Q : VK} {E : XK} (h : sp__law_all_marks K ca vs H Q E) : t__law_all_marks K ca { nx := fun _ H' => Q .non H', rt := Q } (L2.start N__law_all_marks vs) H := nox_ok (N := N__law_all_marks) (P := P__law_all_marks) (a__law_all_marks T) h
theorem a__law_mark (T : Ct K ca) : SS ⟨K, ca, none, none⟩ NoE (t__law_mark K ca) b__law_mark :=
  ss_seq (ss_if (st_val (se_op sr_eq (se_callN (nox_no _) (sa_cons (se_var 0) (sa_cons (se_int _) (sa_nil)))) (se_int _))) (ss_ret (se_str _)) (ss_next)) (ss_ret (se_op sr_add (se_op sr_ix (se_str _) (se_callN (nox_no _) (sa_cons (se_var 0) (sa_cons (se_int _) (sa_nil))))) (se_op sr_ix (se_str _) (se_callN (nox_no _) (sa_cons (se_var 0) (sa_cons (se_int _) (sa_nil)))))))
theorem len__law_mark {vs : List V} {H : Hp} {Q : VK} {E : XK} (h : sp__law_mark K ca vs H Q E) : vs.length = P__law_mark.length := nox_len (N := N__law_mark) (P := P__law_mark) h
theorem p__law_mark (T : Ct K ca) {vs : List V} {H : Hp} {Q : VK} {E : XK} (h : sp__law_mark K ca vs H Q E) : t__law_mark K ca { nx := fun _ H' => Q .non H', rt := Q } (L2.start N__law_mark vs) H := nox_ok (N := N__law_mark) (P := P__law_mark) (a__law_mark T) h
theorem a__law_marks (T : Ct K ca) : SS ⟨K, ca, none, none⟩ NoE (t__law_marks K ca) b__law_marks :=
  ss_seq (ss_asg (se_lc (si_rng1 (sa_cons (se_callN (nox_no _) (sa_cons (se_var 0) (sa_cons (se_var 1) (sa_nil)))) (sa_nil))) (sg_name 4) (st_yes) (se_callN (nox_no _) (sa_cons (se_var 0) (sa_nil)))) (sg_name 2)) (ss_seq (ss_asg (se_callN (nox_no _) (sa_cons (se_var 0) (sa_cons (se_op sr_add (se_cb sc_len (sa_cons (se_var 2) (sa_nil))) (se_int _)) (sa_nil)))) (sg_name 3)) (ss_ret (se_op sr_add (se_op sr_add (se_sl (se_var 2) (so_none) (so_some (se_var 3))) (se_lst (sa_cons (se_op sr_add (se_str _) (se_op sr_ix (se_str _) (se_callN (nox_no _) (sa_cons (se_var 0) (sa_cons (se_int _) (sa_nil)))))) (sa_nil)))) (se_sl (se_var 2) (so_some (se_var 3)) (so_none)))))
theorem len__law_marks {vs : List V} {H : Hp} {Q : VK} {E : XK} (h : sp__law_marks K ca vs H Q E) : vs.length = P__law_marks.length := nox_len (N := N__law_marks) (P := P__law_marks) h
theorem p__law_marks (T : Ct K ca) {vs : List V} {H : Hp} {Q : VK} {E : XK} (h : sp__law_marks K ca vs H Q E) : t__law_marks K ca { nx := fun _ H' => Q .non H', rt := Q } (L2.start N__law_marks vs) H := nox_ok (N := N__law_marks) (P := P__law_marks) (a__law_marks T) h
theorem a__law_sorted (T : Ct K ca) : SS ⟨K, ca, none, none⟩ NoE (t__law_sorted K ca) b__law_sorted :=
  ss_ret (se_lc (si_iter (se_callN (nox_no _) (sa_nil))) (sg_name 1) (st_val (se_op (sr_in false) (se_var 1) (se_var 0))) (se_var 1))
theorem len__law_sorted {vs : List V} {H : Hp} {Q : VK} {E : XK} (h : sp__law_sorted K ca vs H Q E) : vs.length = P__law_sorted.length := nox_len (N := N__law_sorted) (P := P__law_sorted) h
theorem p__law_sorted (T : Ct K ca) {vs : List V} {H : Hp} {Q : VK} {E : XK} (h : sp__law_sorted K ca vs H Q E) : t__law_sorted K ca { nx := fun _ H' => Q .non H', rt := Q } (L2.start N__law_sorted vs) H := nox_ok (N := N__law_sorted) (P := P__law_sorted) (a__law_sorted T) h
theorem a__law_number (T : Ct K ca) : SS ⟨K, ca, none, none⟩ NoE (t__law_number K ca) b__law_number :=
  ss_ret (se_if (st_val (se_op (sr_in false) (se_var 0) (se_lc (si_rng2 (sa_cons (se_int _) (sa_cons (se_int _) (sa_nil)))) (sg_name 1) (st_yes) (se_cb sc_str (sa_cons (se_var 1) (sa_nil)))))) (se_cb sc_int (sa_cons (se_var 0) (sa_nil))) (se_non))
theorem len__law_number {vs : List V} {H : Hp} {Q : VK} {E : XK} (h : sp__law_number K ca vs H Q E) : vs.length = P__law_number.length := nox_len (N := N__law_number) (P := P__law_number) h
theorem p__law_number (T : Ct K ca) {vs : List V} {H : Hp} {Q : VK} {E : XK} (h : sp__law_number K ca vs H Q E) : t__law_number K ca { nx := fun _ H' => Q .non H', rt := Q } (L2.start N__law_number vs) H := nox_ok (N := N__law_number) (P := P__law_number) (a__law_number T) h
theorem a__law_read (T : Ct K ca) : SS ⟨K, ca, none, none⟩ NoE (t__law_read K ca) b__law_read :=
  ss_seq (ss_asg (se_m1 sm_split (se_var 0) (se_str _)) (sg_name 1)) (ss_seq (ss_if (st_or (st_val (se_op (sr_cmp _ _) (se_cb sc_len (sa_cons (se_var 1) (sa_nil))) (se_int _))) (st_val (se_op sr_ne (se_op sr_ix (se_var 1) (se_neg (se_int _))) (se_str _)))) (ss_ret (se_non)) (ss_next)) (ss_seq (ss_asg (se_lc (si_iter (se_sl (se_var 1) (so_none) (so_some (se_neg (se_int _))))) (sg_name 5) (st_yes) (se_if (st_val (se_op sr_eq (se_var 5) (se_str _))) (se_str _) (se_var 5))) (sg_name 2)) (ss_seq (ss_par (sa_cons (se_callN (nox_no _) (sa_cons (se_op sr_ix (se_var 1) (se_neg (se_int _))) (sa_nil))) (sa_cons (se_callN (nox_no _) (sa_cons (se_op sr_ix (se_var 1) (se_neg (se_int _))) (sa_nil))) (sa_nil)))) (ss_seq (ss_if (st_or (st_val (se_op (sr_is false) (se_var 3) (se_non))) (st_or (st_val (se_op (sr_is false) (se_var 4) (se_non))) (st_or (st_val (se_op (sr_cmp _ _) (se_var 4) (se_var 3))) (st_val (se_op sr_ne (se_var 2) (se_callN (nox_no _) (sa_cons (se_var 2) (sa_nil)))))))) (ss_ret (se_non)) (ss_next)) (ss_ret (se_if (st_val (se_op sr_ne3 (se_lc (si_iter (se_var 2)) (sg_name 6) (st_val (se_op sr_eq (se_op sr_ix (se_var 6) (se_int _)) (se_str _))) (se_var 6)) (se_lst (sa_nil)))) (se_lst (sa_cons (se_var 2) (sa_cons (se_var 3) (sa_cons (se_var 4) (sa_nil))))) (se_non)))))))
theorem len__law_read {vs : List V} {H : Hp} {Q : VK} {E : XK} (h : sp__law_read K ca vs H Q E) : vs.length = P__law_read.length := nox_len (N := N__law_read) (P := P__law_read) h
theorem p__law_read (T : Ct K ca) {vs : List V} {H : Hp} {Q : VK} {E : XK} (h : sp__law_read K ca vs H Q E) : t__law_read K ca { nx := fun _ H' => Q .non H', rt := Q } (L2.start N__law_read vs) H := nox_ok (N := N__law_read) (P := P__law_read) (a__law_read T) h
theorem a__law_told (T : Ct K ca) : SS ⟨K, ca, none, none⟩ NoE (t__law_told K ca) b__law_told :=
  ss_seq (ss_asg (se_lst (sa_nil)) (sg_name 1)) (ss_seq (ss_try (hem_ T) (fun W => ss_seq (ss_asg (se_cmeth (sa_cons (se_var 0) (sa_nil))) (sg_name 2)) (ss_asg (se_lst (sa_cons (se_meth (se_var 2) (sa_nil)) (sa_cons (se_meth (se_var 2) (sa_nil)) (sa_cons (se_sp1 (se_var 2) okS_str) (sa_nil))))) (sg_name 1))) (.cons rfl rfl (fun a dd c => ss_asg (se_lst (sa_cons (se_str _) (sa_cons (se_xf 3 "value" rfl (hxf_ T)) (sa_nil)))) (sg_name 1)) (.nil))) (ss_retV 1))
theorem len__law_told {vs : List V} {H : Hp} {Q : VK} {E : XK} (h : sp__law_told K ca vs H Q E) : vs.length = P__law_told.length := nox_len (N := N__law_told) (P := P__law_told) h
theorem p__law_told (T : Ct K ca) {vs : List V} {H : Hp} {Q : VK} {E : XK} (h : sp__law_told K ca vs H Q E) : t__law_told K ca { nx := fun _ H' => Q .non H', rt := Q } (L2.start N__law_told vs) H := nox_ok (N := N__law_told) (P := P__law_told) (a__law_told T) h
theorem a__law_changed (T : Ct K ca) : SS ⟨K, ca, none, none⟩ NoE (t__law_changed K ca) b__law_changed :=
  ss_seq (ss_asg (se_m1 sm_split (se_var 1) (se_str _)) (sg_name 2)) (ss_seq (ss_asg (se_callN (nox_no _) (sa_cons (se_var 0) (sa_cons (se_cb sc_len (sa_cons (se_var 2) (sa_nil))) (sa_nil)))) (sg_name 3)) (ss_seq (ss_asg (se_lst (sa_cons (se_str _) (sa_cons (se_str _) (sa_cons (se_str _) (sa_cons (se_str _) (sa_cons (se_str _) (sa_cons (se_str _) (sa_cons (se_str _) (sa_cons (se_str _) (sa_cons (se_str _) (sa_cons (se_str _) (sa_cons (se_str _) (sa_cons (se_str _) (sa_cons (se_str _) (sa_cons (se_str _) (sa_cons (se_str _) (sa_cons (se_str _) (sa_nil)))))))))))))))))) (sg_name 4)) (ss_seq (ss_asg (se_op sr_ix (se_var 4) (se_callN (nox_no _) (sa_cons (se_var 0) (sa_cons (se_int _) (sa_nil))))) (sg_name 5)) (ss_seq (ss_asg (se_callN (nox_no _) (sa_cons (se_var 0) (sa_cons (se_int _) (sa_nil)))) (sg_name 6)) (ss_seq (ss_if (st_val (se_op sr_eq (se_var 6) (se_int _))) (ss_ret (se_m1 sm_join (se_str _) (se_op sr_add (se_op sr_add (se_sl (se_var 2) (so_none) (so_some (se_var 3))) (se_lst (sa_cons (se_var 5) (sa_nil)))) (se_sl (se_var 2) (so_some (se_var 3)) (so_none))))) (ss_next)) (ss_seq (ss_if (st_val (se_op sr_eq (se_var 6) (se_int _))) (ss_ret (se_m1 sm_join (se_str _) (se_op sr_add (se_sl (se_var 2) (so_none) (so_some (se_var 3))) (se_sl (se_var 2) (so_some (se_op sr_add (se_var 3) (se_int _))) (so_none))))) (ss_next)) (ss_seq (ss_if (st_val (se_op sr_eq (se_var 6) (se_int _))) (ss_ret (se_m1 sm_join (se_str _) (se_op sr_add (se_op sr_add (se_sl (se_var 2) (so_none) (so_some (se_var 3))) (se_lst (sa_cons (se_var 5) (sa_nil)))) (se_sl (se_var 2) (so_some (se_op sr_add (se_var 3) (se_int _))) (so_none))))) (ss_next)) (ss_seq (ss_if (st_val (se_op sr_eq (se_var 6) (se_int _))) (ss_ret (se_m1 sm_join (se_str _) (se_op sr_add (se_sl (se_var 2) (so_some (se_var 3)) (so_none)) (se_sl (se_var 2) (so_none) (so_some (se_var 3)))))) (ss_next)) (ss_seq (ss_if (st_val (se_op sr_eq (se_var 6) (se_int _))) (ss_ret (se_m1 sm_join (se_str _) (se_op sr_add (se_op sr_add (se_sl (se_var 2) (so_none) (so_some (se_var 3))) (se_rev (se_sl (se_var 2) (so_some (se_var 3)) (so_some (se_op sr_add (se_var 3) (se_int _)))))) (se_sl (se_var 2) (so_some (se_op sr_add (se_var 3) (se_int _))) (so_none))))) (ss_next)) (ss_seq (ss_asg (se_callN (nox_no _) (sa_cons (se_var 0) (sa_cons (se_op sr_add (se_cb sc_len (sa_cons (se_var 1) (sa_nil))) (se_int _)) (sa_nil)))) (sg_name 7)) (ss_seq (ss_asg (se_op sr_ix (se_lst (sa_cons (se_str _) (sa_cons (se_str _) (sa_cons (se_str _) (sa_cons (se_str _) (sa_cons (se_str _) (sa_nil))))))) (se_callN (nox_no _) (sa_cons (se_var 0) (sa_cons (se_int _) (sa_nil))))) (sg_name 8)) (ss_ret (se_op sr_add (se_op sr_add (se_sl (se_var 1) (so_none) (so_some (se_var 7))) (se_var 8)) (se_sl (se_var 1) (so_some (se_op sr_add (se_var 7) (se_callN (nox_no _) (sa_cons (se_var 0) (sa_cons (se_int _) (sa_nil)))))) (so_none)))))))))))))))
theorem len__law_changed {vs : List V} {H : Hp} {Q : VK} {E : XK} (h : sp__law_changed K ca vs H Q E) : vs.length = P__law_changed.length := nox_len (N := N__law_changed) (P := P__law_changed) h
theorem p__law_changed (T : Ct K ca) {vs : List V} {H : Hp} {Q : VK} {E : XK} (h : sp__law_changed K ca vs H Q E) : t__law_changed K ca { nx := fun _ H' => Q .non H', rt := Q } (L2.start N__law_changed vs) H := nox_ok (N := N__law_changed) (P := P__law_changed) (a__law_changed T) h
theorem a__law_right (T : Ct K ca) : SS ⟨K, ca, none, none⟩ NoE (t__law_right K ca) b__law_right :=
  ss_seq (ss_asg (se_callN (nox_no _) (sa_cons (se_var 0) (sa_cons (se_int _) (sa_nil)))) (sg_name 1)) (ss_seq (ss_asg (se_callN (nox_no _) (sa_cons (se_var 1) (sa_nil))) (sg_name 2)) (ss_seq (ss_asg (se_op sr_add (se_int _) (se_callN (nox_no _) (sa_cons (se_var 0) (sa_cons (se_int _) (sa_nil))))) (sg_name 3)) (ss_seq (ss_asg (se_op sr_add (se_var 3) (se_callN (nox_no _) (sa_cons (se_var 0) (sa_cons (se_op sr_sub (se_int _) (se_var 3)) (sa_nil))))) (sg_name 4)) (ss_seq (ss_asg (se_lc (si_iter (se_var 2)) (sg_name 11) (st_yes) (se_if (st_val (se_op sr_eq (se_var 11) (se_str _))) (se_str _) (se_var 11))) (sg_name 5)) (ss_seq (ss_asg (se_m1 sm_join (se_str _) (se_op sr_add (se_var 5) (se_lst (sa_cons (se_str _) (sa_cons (se_cb sc_str (sa_cons (se_var 3) (sa_nil))) (sa_cons (se_cb sc_str (sa_cons (se_var 4) (sa_nil))) (sa_nil))))))) (sg_name 6)) (ss_seq (ss_if (st_val (se_op sr_ne (se_sp1 (se_mkK (sa_cons (se_var 1) (sa_nil)) (sa_cons (se_var 3) (sa_cons (se_var 4) (sa_nil))) (fun x h1 h2 => ⟨_, rfl, by unfold g_Stock___init___shortest_longest; repeat (first | exact h1 | apply RAll.app | apply RAll.take | apply RAll.drop | exact h2 | exact dflt_all (by rfl))⟩)) okS_str) (se_var 6))) (ss_ret (se_bl _)) (ss_next)) (ss_seq (ss_if (st_val (se_op sr_ne (se_cb sc_repr (sa_cons (se_callN (nox_no _) (sa_cons (se_var 6) (sa_nil))) (sa_nil))) (se_cb sc_repr (sa_cons (se_lst (sa_cons (se_var 2) (sa_cons (se_listRg (se_var 3) (se_op sr_add (se_var 4) (se_int _))) (sa_cons (se_var 6) (sa_nil))))) (sa_nil))))) (ss_ret (se_bl _)) (ss_next)) (ss_seq (ss_for (si_rng1 (sa_cons (se_op sr_add (se_int _) (se_callN (nox_no _) (sa_cons (se_var 0) (sa_cons (se_int _) (sa_nil))))) (sa_nil))) (sg_name 7) (ss_asg (se_callN (nox_no _) (sa_cons (se_var 0) (sa_cons (se_var 6) (sa_nil)))) (sg_name 6))) (ss_seq (ss_asg (se_callN (nox_no _) (sa_cons (se_var 6) (sa_nil))) (sg_name 8)) (ss_seq (ss_asg (se_lst (sa_cons (se_str _) (sa_cons (se_var 6) (sa_nil)))) (sg_name 9)) (ss_seq (ss_if (st_val (se_op (sr_is true) (se_var 8) (se_non))) (ss_asg (se_lst (sa_cons (se_op sr_ix (se_var 8) (se_int _)) (sa_cons (se_listRg (se_op sr_ix (se_var 8) (se_int _)) (se_op sr_add (se_op sr_ix (se_var 8) (se_int _)) (se_int _))) (sa_cons (se_var 6) (sa_nil))))) (sg_name 9)) (ss_next)) (ss_seq (ss_if (st_val (se_op sr_ne (se_cb sc_repr (sa_cons (se_callN (nox_no _) (sa_cons (se_var 6) (sa_nil))) (sa_nil))) (se_cb sc_repr (sa_cons (se_var 9) (sa_nil))))) (ss_ret (se_bl _)) (ss_next)) (ss_seq (ss_asg (se_op sr_ix (se_lst (sa_cons (se_non) (sa_cons (se_int _) (sa_cons (se_bl _) (sa_cons (se_lst (sa_cons (se_var 6) (sa_nil))) (sa_cons (se_tup (sa_cons (se_str _) (sa_nil))) (sa_cons (se_dnew) (sa_cons (se_lst (sa_nil)) (sa_nil))))))))) (se_callN (nox_no _) (sa_cons (se_var 0) (sa_cons (se_int _) (sa_nil))))) (sg_name 10)) (ss_ret (se_op sr_eq (se_cb sc_repr (sa_cons (se_callN (nox_no _) (sa_cons (se_var 10) (sa_nil))) (sa_nil))) (se_cb sc_repr (sa_cons (se_lst (sa_cons (se_str _) (sa_cons (se_var 10) (sa_nil)))) (sa_nil))))))))))))))))))
theorem len__law_right {vs : List V} {H : Hp} {Q : VK} {E : XK} (h : sp__law_right K ca vs H Q E) : vs.length = P__law_right.length := nox_len (N := N__law_right) (P := P__law_right) h
theorem p__law_right (T : Ct K ca) {vs : List V} {H : Hp} {Q : VK} {E : XK} (h : sp__law_right K ca vs H Q E) : t__law_right K ca { nx := fun _ H' => Q .non H', rt := Q } (L2.start N__law_right vs) H := nox_ok (N := N__law_right) (P := P__law_right) (a__law_right T) h
theorem a_law (T : Ct K ca) : SS ⟨K, ca, none, none⟩ NoE (t_law K ca) b_law :=
  ss_seq (ss_for (si_rng1 (sa_cons (se_cb sc_max (sa_cons (se_int _) (sa_cons (se_cb sc_min (sa_cons (se_int _) (sa_cons (se_cb sc_len (sa_cons (se_var 0) (sa_nil))) (sa_nil)))) (sa_nil)))) (sa_nil))) (sg_name 1) (ss_if (st_not (st_val (se_callN (nox_no _) (sa_cons (se_ado (se_callN (nox_no _) (sa_cons (se_callN (nox_no _) (sa_cons (se_var 0) (sa_cons (se_var 1) (sa_nil)))) (sa_nil)))) (sa_nil))))) (ss_ret (se_bl _)) (ss_next))) (ss_ret (se_bl _))
theorem len_law {vs : List V} {H : Hp} {Q : VK} {E : XK} (h : sp_law K ca vs H Q E) : vs.length = P_law.length := nox_len (N := N_law) (P := P_law) h
theorem p_law (T : Ct K ca) {vs : List V} {H : Hp} {Q : VK} {E : XK} (h : sp_law K ca vs H Q E) : t_law K ca { nx := fun _ H' => Q .non H', rt := Q } (L2.start N_law vs) H := nox_ok (N := N_law) (P := P_law) (a_law T) h
theorem a_Stock___init__ (T : Ct K ca) {E : XK} (x : Addr) : SS ⟨K, ca, none, some x⟩ (fun cls d _ H => E cls d H) (t_Stock___init__ K ca E) b_Stock___init__ :=
  ss_seq (ss_if (st_not (st_val (se_callN (nox_no _) (sa_cons (se_var 1) (sa_nil))))) (ss_raise (fun _ _ _ _ h => h) (sa_cons (se_var 1) (sa_nil))) (ss_next)) (ss_seq (ss_if (st_not (st_val (se_callN (nox_no _) (sa_cons (se_var 2) (sa_cons (se_int _) (sa_cons (se_int _) (sa_nil))))))) (ss_raise (fun _ _ _ _ h => h) (sa_cons (se_var 2) (sa_nil))) (ss_next)) (ss_seq (ss_if (st_not (st_val (se_callN (nox_no _) (sa_cons (se_var 3) (sa_cons (se_var 2) (sa_cons (se_int _) (sa_nil))))))) (ss_raise (fun _ _ _ _ h => h) (sa_cons (se_var 3) (sa_nil))) (ss_next)) (ss_seq (ss_setF (hcf_ T) (se_lc (si_iter (se_callN (nox_no _) (sa_nil))) (sg_name 4) (st_val (se_op (sr_in false) (se_var 4) (se_var 1))) (se_var 4))) (ss_seq (ss_setF (hcf_ T) (se_var 2)) (ss_seq (ss_setF (hcf_ T) (se_var 3)) (ss_setF (hcf_ T) (se_lc2 (si_iter (se_fld (hcf_ T) (se_var 0))) (sg_name 4) (st_yes) (si_rng2 (sa_cons (se_var 2) (sa_cons (se_op sr_add (se_var 3) (se_int _)) (sa_nil)))) (sg_name 5) (st_yes) (se_tup (sa_cons (se_var 4) (sa_cons (se_var 5) (sa_nil)))))))))))
theorem len_Stock___init__ {vs : List V} {H : Hp} {Q : VK} {E : XK} (h : sp_Stock___init__ K ca vs H Q E) : vs.length = P_Stock___init__.length := runI_len (N := N_Stock___init__) (P := P_Stock___init__) h
theorem p_Stock___init__ (T : Ct K ca) {vs : List V} {H : Hp} {Q : VK} {E : XK} (h : sp_Stock___init__ K ca vs H Q E) : t_Stock___init__ K ca E { nx := fun _ H' => Q .non H', rt := Q } (L2.start N_Stock___init__ vs) H := runI_ok (N := N_Stock___init__) (P := P_Stock___init__) (a_Stock___init__ T) h
theorem a_Stock_parse (T : Ct K ca) {E : XK} : SS ⟨K, ca, none, none⟩ (fun cls d _ H => E cls d H) (t_Stock_parse K ca E) b_Stock_parse :=
  ss_seq (ss_asg (se_callN (nox_no _) (sa_cons (se_var 1) (sa_nil))) (sg_name 2)) (ss_seq (ss_if (st_or (st_val (se_op (sr_is false) (se_var 2) (se_non))) (st_or (st_val (se_op (sr_cmp _ _) (se_cb sc_len (sa_cons (se_var 2) (sa_nil))) (se_int _))) (st_val (se_op sr_ne (se_op sr_ix (se_var 2) (se_neg (se_int _))) (se_str _))))) (ss_raise (fun _ _ _ _ h => h) (sa_cons (se_var 1) (sa_nil))) (ss_next)) (ss_seq (ss_asg (se_lc (si_iter (se_sl (se_var 2) (so_none) (so_some (se_neg (se_int _))))) (sg_name 7) (st_yes) (se_if (st_val (se_op sr_eq (se_var 7) (se_str _))) (se_str _) (se_var 7))) (sg_name 3)) (ss_seq (ss_asg (se_callK (.inl (nox_no _)) (sa_cons (se_op sr_ix (se_var 2) (se_neg (se_int _))) (sa_nil)) (sa_cons (se_int _) (sa_cons (se_int _) (sa_nil))) (fun h1 h2 => by unfold gV_parse_integer_low_high g_parse_integer_low_high; repeat (first | exact h1 | apply RAll.app | apply RAll.take | apply RAll.drop | exact h2 | exact dflt_all (by rfl)))) (sg_name 4)) (ss_seq (ss_asg (se_callK (.inl (nox_no _)) (sa_cons (se_op sr_ix (se_var 2) (se_neg (se_int _))) (sa_nil)) (sa_cons (se_int _) (sa_cons (se_int _) (sa_nil))) (fun h1 h2 => by unfold gV_parse_integer_low_high g_parse_integer_low_high; repeat (first | exact h1 | apply RAll.app | apply RAll.take | apply RAll.drop | exact h2 | exact dflt_all (by rfl)))) (sg_name 5)) (ss_seq (ss_if (st_or (st_not (st_val (se_callN (nox_no _) (sa_cons (se_var 3) (sa_nil))))) (st_or (st_val (se_op (sr_is false) (se_var 4) (se_non))) (st_or (st_val (se_op (sr_is false) (se_var 5) (se_non))) (st_val (se_op (sr_cmp _ _) (se_var 5) (se_var 4)))))) (ss_raise (fun _ _ _ _ h => h) (sa_cons (se_var 1) (sa_nil))) (ss_next)) (ss_seq (ss_asg (se_mkKL (sa_cons (se_var 3) (sa_nil)) (sa_cons (se_var 4) (sa_cons (se_var 5) (sa_nil))) (fun x h1 h2 => ⟨_, rfl, by unfold g_Stock___init___shortest_longest; repeat (first | exact h1 | apply RAll.app | apply RAll.take | apply RAll.drop | exact h2 | exact dflt_all (by rfl))⟩)) (sg_name 6)) (ss_seq (ss_if (st_val (se_op sr_ne (se_sp1 (se_var 6) okS_str) (se_var 1))) (ss_raise (fun _ _ _ _ h => h) (sa_cons (se_var 1) (sa_nil))) (ss_next)) (ss_retV 6))))))))
theorem len_Stock_parse {vs : List V} {H : Hp} {Q : VK} {E : XK} (h : sp_Stock_parse K ca vs H Q E) : vs.length = P_Stock_parse.length := run_len (N := N_Stock_parse) (P := P_Stock_parse) h
theorem p_Stock_parse (T : Ct K ca) {vs : List V} {H : Hp} {Q : VK} {E : XK} (h : sp_Stock_parse K ca vs H Q E) : t_Stock_parse K ca E { nx := fun _ H' => Q .non H', rt := Q } (L2.start N_Stock_parse vs) H := run_ok (N := N_Stock_parse) (P := P_Stock_parse) (a_Stock_parse T) h
theorem a_Stock___str__ (T : Ct K ca) : SS ⟨K, ca, none, none⟩ NoE (t_Stock___str__ K ca) b_Stock___str__ :=
  ss_seq (ss_asg (se_m1 sm_join (se_str _) (se_lc (si_iter (se_fld (hcf_ T) (se_var 0))) (sg_name 2) (st_yes) (se_if (st_val (se_op sr_eq (se_var 2) (se_str _))) (se_str _) (se_var 2)))) (sg_name 1)) (ss_ret (se_joined (.cons (se_fmt (se_var 1)) (.cons (se_str _) (.cons (se_fmt (se_fld (hcf_ T) (se_var 0))) (.cons (se_str _) (.cons (se_fmt (se_fld (hcf_ T) (se_var 0))) (.nil))))))))
theorem len_Stock___str__ {vs : List V} {H : Hp} {Q : VK} {E : XK} (h : sp_Stock___str__ K ca vs H Q E) : vs.length = P_Stock___str__.length := nox_len (N := N_Stock___str__) (P := P_Stock___str__) h
theorem p_Stock___str__ (T : Ct K ca) {vs : List V} {H : Hp} {Q : VK} {E : XK} (h : sp_Stock___str__ K ca vs H Q E) : t_Stock___str__ K ca { nx := fun _ H' => Q .non H', rt := Q } (L2.start N_Stock___str__ vs) H := nox_ok (N := N_Stock___str__) (P := P_Stock___str__) (a_Stock___str__ T) h
theorem a_Stock_marks (T : Ct K ca) : SS ⟨K, ca, none, none⟩ NoE (t_Stock_marks K ca) b_Stock_marks :=
  ss_ret (se_cb sc_list (sa_cons (se_fld (hcf_ T) (se_var 0)) (sa_nil)))
theorem len_Stock_marks {vs : List V} {H : Hp} {Q : VK} {E : XK} (h : sp_Stock_marks K ca vs H Q E) : vs.length = P_Stock_marks.length := nox_len (N := N_Stock_marks) (P := P_Stock_marks) h
theorem p_Stock_marks (T : Ct K ca) {vs : List V} {H : Hp} {Q : VK} {E : XK} (h : sp_Stock_marks K ca vs H Q E) : t_Stock_marks K ca { nx := fun _ H' => Q .non H', rt := Q } (L2.start N_Stock_marks vs) H := nox_ok (N := N_Stock_marks) (P := P_Stock_marks) (a_Stock_marks T) h
theorem a_Stock_lengths (T : Ct K ca) : SS ⟨K, ca, none, none⟩ NoE (t_Stock_lengths K ca) b_Stock_lengths :=
  ss_ret (se_listRg (se_fld (hcf_ T) (se_var 0)) (se_op sr_add (se_fld (hcf_ T) (se_var 0)) (se_int _)))
theorem len_Stock_lengths {vs : List V} {H : Hp} {Q : VK} {E : XK} (h : sp_Stock_lengths K ca vs H Q E) : vs.length = P_Stock_lengths.length := nox_len (N := N_Stock_lengths) (P := P_Stock_lengths) h
theorem p_Stock_lengths (T : Ct K ca) {vs : List V} {H : Hp} {Q : VK} {E : XK} (h : sp_Stock_lengths K ca vs H Q E) : t_Stock_lengths K ca { nx := fun _ H' => Q .non H', rt := Q } (L2.start N_Stock_lengths vs) H := nox_ok (N := N_Stock_lengths) (P := P_Stock_lengths) (a_Stock_lengths T) h
end
section
variable {P : Program} {w : World} {K : PySem.W.Frag} {mg : Str → Option Value} {base : Heap} {a : Nat → Addr} {d : Nat → FuncData} {ca : Nat → Addr}
theorem okI_InvalidMarks (T : Tx K mg a d ca) : FnOk P w K mg base CX0 1 (a 24) (d 24) ["self", "value"] (U.spI (ca 2) "value") :=
  T.F_InvalidMarks.ok scI_InvalidMarks (fun vs H Q E h => U.len_spI h) (fun cdv A outer s H vs Q E hr h => ⟨U.tI K "value" "not a list of marks that is asked for", pss_cons (ps_expr (U.pe_binit T.y_ReflowError rfl T.w_ReflowError (pa_cons (U.pu 0) (pa_cons pe_str pa_nil)))) (pss_one (ps_ost (U.pu 0) (U.pu 1))), U.p_init T.x_InvalidMarks h⟩)
theorem okI_InvalidText (T : Tx K mg a d ca) : FnOk P w K mg base CX0 1 (a 25) (d 25) ["self", "value"] (U.spI (ca 3) "value") :=
  T.F_InvalidText.ok scI_InvalidText (fun vs H Q E h => U.len_spI h) (fun cdv A outer s H vs Q E hr h => ⟨U.tI K "value" "not a text, or not the writing of one", pss_cons (ps_expr (U.pe_binit T.y_ReflowError rfl T.w_ReflowError (pa_cons (U.pu 0) (pa_cons pe_str pa_nil)))) (pss_one (ps_ost (U.pu 0) (U.pu 1))), U.p_init T.x_InvalidText h⟩)
theorem okI_InvalidInteger (T : Tx K mg a d ca) : FnOk P w K mg base CX0 1 (a 26) (d 26) ["self", "value"] (U.spI (ca 5) "value") :=
  T.F_InvalidInteger.ok scI_InvalidInteger (fun vs H Q E h => U.len_spI h) (fun cdv A outer s H vs Q E hr h => ⟨U.tI K "value" "not an integer that is asked for", pss_cons (ps_expr (U.pe_binit T.y_ReflowError rfl T.w_ReflowError (pa_cons (U.pu 0) (pa_cons pe_str pa_nil)))) (pss_one (ps_ost (U.pu 0) (U.pu 1))), U.p_init T.x_InvalidInteger h⟩)
theorem v_is_integer (T : Tx K mg a d ca)   {fa : Addr} {cdv : Value} {A : Around} {outer : List Env} {s : Shared} {H : Hp} {E : XK} (hr : Room 0 (A.deeper (envOfC "is_integer" (defScope s_is_integer) s.heap.objs.size fa cdv))) :
    PSs ((cxOf CX0 P w K mg base N_is_integer "is_integer" (defScope s_is_integer) fa cdv A outer s H E).nox) (defBody s_is_integer) (t_is_integer K ca) :=
  pss_one (ps_ret (pue_and (pue_isi .int (pu 0) rfl T.z_isinstance rfl T.z_int (by decide +kernel)) (pue_and (pue_not (pue_isi .bl (pu 0) rfl T.z_isinstance rfl T.z_bool (by decide +kernel))) (pe_one (pue_chain ou_le ou_le (pu 1) (pu 0) (pu 2))))))
theorem v_is_mark (T : Tx K mg a d ca)   {fa : Addr} {cdv : Value} {A : Around} {outer : List Env} {s : Shared} {H : Hp} {E : XK} (hr : Room 0 (A.deeper (envOfC "is_mark" (defScope s_is_mark) s.heap.objs.size fa cdv))) :
    PSs ((cxOf CX0 P w K mg base N_is_mark "is_mark" (defScope s_is_mark) fa cdv A outer s H E).nox) (defBody s_is_mark) (t_is_mark K ca) :=
  pss_cons (pus_if (put_not (put_val (pue_isi .str (pu 0) rfl T.z_isinstance rfl T.z_str (by decide +kernel)))) (pss_one (ps_ret (pe_bl))) (pss_nil)) (pss_one (ps_ret (pue_or (pe_cmpR (ou_eq2 hr.units) (pu 0) (pe_str) (nomark _)) (pe_one (pue_and (pe_cmpR (ou_eq2 hr.units) (pe_callB cu_len rfl T.z_len (by decide +kernel) (pa_cons (pu 0) (pa_nil))) (pe_int) (nomark _)) (pue_and (pe_cmpR ou_in (pe_ix iu_ix (pu 0) (pe_int) (fun _ _ => rfl)) (pe_glob rfl T.c_KINDS.choose_spec ⟨_, rfl⟩) (by rfl)) (pe_one (pe_cmpR ou_in (pe_ix iu_ix (pu 0) (pe_int) (fun _ _ => rfl)) (pe_str) (by rfl)))))))))
theorem v_all_marks (T : Tx K mg a d ca)   {fa : Addr} {cdv : Value} {A : Around} {outer : List Env} {s : Shared} {H : Hp} {E : XK} (hr : Room 0 (A.deeper (envOfC "all_marks" (defScope s_all_marks) s.heap.objs.size fa cdv))) :
    PSs ((cxOf CX0 P w K mg base N_all_marks "all_marks" (defScope s_all_marks) fa cdv A outer s H E).nox) (defBody s_all_marks) (t_all_marks K ca) :=
  pss_one (ps_ret (pe_op ou_add (pe_lst (pa_cons (pe_str) (pa_nil))) (pe_lc2 (own := [("kind", 0), ("indent", 1)]) (vs1 := [1]) (g := gName 0) (tt := tYes) (wi1 := iRng1 (tCons (tOp (uAdd K) (tC (.int 3)) (tC (.int 1))) (tNil))) (g1 := gName 1) (tt1 := tYes) (te := tOp (uAdd K) (uVar 0) (tCB uStr (tCons (uVar 1) (tNil)))) rfl sc_all_marks.nd (piu (pe_glob rfl T.c_KINDS.choose_spec ⟨_, rfl⟩)) (blkOk_by (own := [("kind", 0), ("indent", 1)]) (N := N_all_marks) (sc := defScope s_all_marks) (by decide +kernel)) (by decide) (fun _ _ _ _ _ => pg_name (i := 0) sc_all_marks.nd rfl (Or.inl rfl)) (fun _ _ _ _ _ => pts_nil) (fun _ _ _ _ _ => pi_range1 rfl T.z_range (pa_cons (pe_op ou_add (pe_glob rfl T.c_MOST_INDENT.choose_spec ⟨_, rfl⟩) (pe_int)) (pa_nil))) (fun _ _ _ _ _ => pg_name (i := 1) sc_all_marks.nd rfl (Or.inl rfl)) (fun _ _ _ _ _ => pts_nil) (fun _ _ _ _ _ => pe_op ou_add (pu 0) (pe_callTy cu_str rfl T.z_str (by decide +kernel) (pa_cons (pu 1) (pa_nil)))))))
theorem v_parse_integer (T : Tx K mg a d ca)   {fa : Addr} {cdv : Value} {A : Around} {outer : List Env} {s : Shared} {H : Hp} {E : XK} (hr : Room 0 (A.deeper (envOfC "parse_integer" (defScope s_parse_integer) s.heap.objs.size fa cdv))) :
    PSs ((cxOf CX0 P w K mg base N_parse_integer "parse_integer" (defScope s_parse_integer) fa cdv A outer s H E).nox) (defBody s_parse_integer) (t_parse_integer K ca) :=
  pss_cons (pus_if (PW.pt (puw_or (put_not (put_val (pue_isi .str (pu 0) rfl T.z_isinstance rfl T.z_str (by decide +kernel)))) (puw_or (put_cmp (ou_eq2 hr.units) (pu 0) (pe_str) (nomark _)) (pw_or1 (put_cmp ou_gt (pe_callB cu_len rfl T.z_len (by decide +kernel) (pa_cons (pu 0) (pa_nil))) (pe_int) (nomark _)))))) (pss_one (ps_ret (pe_non))) (pss_nil)) (pss_cons (ps_set (i := 3) sc_parse_integer.nd rfl (Or.inl rfl) (pue_if (put_cmp (ou_eq2 hr.units) (pe_ix iu_ix (pu 0) (pe_int) (fun _ _ => rfl)) (pe_str) (nomark _)) (pe_slice su_sl (pu 0) (pou_some (pe_int)) (po_none)) (pu 0))) (pss_cons (pus_if (PW.pt (puw_or (put_cmp (ou_eq2 hr.units) (pu 3) (pe_str) (nomark _)) (pw_or1 (put_not (put_val (pe_callB (cu_all rfl) rfl T.z_all (by decide +kernel) (pa_cons (pe_lc (own := [("sign", 5)]) (g := gName 5) (tt := tYes) (te := tOp (uIn K false) (uVar 5) (tC (.str "0123456789"))) rfl sc_parse_integer.nd (piu (pu 3)) (blkOk_by (own := [("sign", 5)]) (N := N_parse_integer) (sc := defScope s_parse_integer) (by decide +kernel)) (fun _ _ _ _ _ => pg_name (i := 5) sc_parse_integer.nd rfl (Or.inl rfl)) (fun _ _ _ _ _ => pts_nil) (fun _ _ _ _ _ => pe_cmpR ou_in (pu 5) (pe_str) (by rfl))) (pa_nil)))))))) (pss_one (ps_ret (pe_non))) (pss_nil)) (pss_cons (pus_if (PW.pt (puw_and (put_cmp (ou_eq2 hr.units) (pe_ix iu_ix (pu 3) (pe_int) (fun _ _ => rfl)) (pe_str) (nomark _)) (pw_and1 (put_cmp (ou_ne2 hr.units) (pu 0) (pe_str) (nomark _))))) (pss_one (ps_ret (pe_non))) (pss_nil)) (pss_cons (ps_set (i := 4) sc_parse_integer.nd rfl (Or.inl rfl) (pe_callTy cu_int rfl T.z_int (by decide +kernel) (pa_cons (pu 0) (pa_nil)))) (pss_one (ps_ret (pue_if (put_chain ou_le ou_le (pu 1) (pu 4) (pu 2)) (pu 4) (pe_non))))))))
theorem v_split_words (T : Tx K mg a d ca)   {fa : Addr} {cdv : Value} {A : Around} {outer : List Env} {s : Shared} {H : Hp} {E : XK} (hr : Room 0 (A.deeper (envOfC "split_words" (defScope s_split_words) s.heap.objs.size fa cdv))) :
    PSs ((cxOf CX0 P w K mg base N_split_words "split_words" (defScope s_split_words) fa cdv A outer s H E).nox) (defBody s_split_words) (t_split_words K ca) :=
  pss_cons (pus_if (PW.pt (puw_or (put_not (put_val (pue_isi .str (pu 0) rfl T.z_isinstance rfl T.z_str (by decide +kernel)))) (pw_or1 (put_cmp ou_in (pe_str) (pu 0) (by rfl))))) (pss_one (ps_ret (pe_non))) (pss_nil)) (pss_cons (ps_set (i := 1) sc_split_words.nd rfl (Or.inl rfl) (pe_m1 F.slot_str_split F.type_str_split mu_split (pu 0) (pe_str))) (pss_one (ps_ret (pue_if (put_cmp ou_in (pe_str) (pu 1) (by rfl)) (pe_non) (pu 1)))))
theorem v_are_stock_marks (T : Tx K mg a d ca) (G_is_mark : FnOk P w K mg base CX0 1 (a 1) (d 1) P_is_mark (sp_is_mark K ca))  {fa : Addr} {cdv : Value} {A : Around} {outer : List Env} {s : Shared} {H : Hp} {E : XK} (hr : Room 1 (A.deeper (envOfC "are_stock_marks" (defScope s_are_stock_marks) s.heap.objs.size fa cdv))) :
    PSs ((cxOf CX0 P w K mg base N_are_stock_marks "are_stock_marks" (defScope s_are_stock_marks) fa cdv A outer s H E).nox) (defBody s_are_stock_marks) (t_are_stock_marks K ca) :=
  pss_cons (pus_if (PW.pt (puw_or (put_not (put_val (pe_callB (cu_isiT [.lst, .tup]) rfl T.z_isinstance (by decide +kernel) (pa_cons (pu 0) (pa_cons (pe_tup (pa_cons (pe_bltn rfl T.z_list (by decide +kernel) rfl) (pa_cons (pe_bltn rfl T.z_tuple (by decide +kernel) rfl) (pa_nil)))) pa_nil))))) (pw_or1 (put_not (put_val (pe_callB (cu_all rfl) rfl T.z_all (by decide +kernel) (pa_cons (pe_lc (own := [("mark", 1)]) (g := gName 1) (tt := tYes) (te := tCall (sp_is_mark K ca) [] E0 (tCons (uVar 1) (tNil))) rfl sc_are_stock_marks.nd (piu (pu 0)) (blkOk_by (own := [("mark", 1)]) (N := N_are_stock_marks) (sc := defScope s_are_stock_marks) (by decide +kernel)) (fun _ _ _ _ _ => pg_name (i := 1) sc_are_stock_marks.nd rfl (Or.inl rfl)) (fun _ _ _ _ _ => pts_nil) (fun _ _ _ _ _ => pe_call G_is_mark (hr.mono (by decide)) rfl T.m_is_mark T.f_is_mark.kp T.b_is_mark .nil pass0 (pa_cons (pu 1) (pa_nil)))) (pa_nil)))))))) (pss_one (ps_ret (pe_bl))) (pss_nil)) (pss_one (ps_ret (pe_callB (cu_any rfl) rfl T.z_any (by decide +kernel) (pa_cons (pe_lc (own := [("mark", 1)]) (g := gName 1) (tt := tYes) (te := tOp (uEq2 K) (tOp (uIx K) (uVar 1) (tC (.int 0))) (tC (.str "#"))) rfl sc_are_stock_marks.nd (piu (pu 0)) (blkOk_by (own := [("mark", 1)]) (N := N_are_stock_marks) (sc := defScope s_are_stock_marks) (by decide +kernel)) (fun _ _ _ _ _ => pg_name (i := 1) sc_are_stock_marks.nd rfl (Or.inl rfl)) (fun _ _ _ _ _ => pts_nil) (fun _ _ _ _ _ => pe_cmpR (ou_eq2 hr.units) (pe_ix iu_ix (pu 1) (pe_int) (fun _ _ => rfl)) (pe_str) (nomark _))) (pa_nil)))))
theorem v__law_cell (T : Tx K mg a d ca)   {fa : Addr} {cdv : Value} {A : Around} {outer : List Env} {s : Shared} {H : Hp} {E : XK} (hr : Room 0 (A.deeper (envOfC "_law_cell" (defScope s__law_cell) s.heap.objs.size fa cdv))) :
    PSs ((cxOf CX0 P w K mg base N__law_cell "_law_cell" (defScope s__law_cell) fa cdv A outer s H E).nox) (defBody s__law_cell) (t__law_cell K ca) :=
  pss_cons (pus_if (put_cmp ou_lt (pu 1) (pe_callB cu_len rfl T.z_len (by decide +kernel) (pa_cons (pu 0) (pa_nil))) (nomark _)) (pss_one (ps_ret (pe_ix iu_ix (pu 0) (pu 1) (fun _ _ => rfl)))) (pss_nil)) (pss_one (ps_ret (pe_op ou_add (pe_op ou_mul3 (pe_int) (pu 1)) (pe_int))))
theorem v__law_purse (T : Tx K mg a d ca)   {fa : Addr} {cdv : Value} {A : Around} {outer : List Env} {s : Shared} {H : Hp} {E : XK} (hr : Room 0 (A.deeper (envOfC "_law_purse" (defScope s__law_purse) s.heap.objs.size fa cdv))) :
    PSs ((cxOf CX0 P w K mg base N__law_purse "_law_purse" (defScope s__law_purse) fa cdv A outer s H E).nox) (defBody s__law_purse) (t__law_purse K ca) :=
  pss_one (ps_ret (pe_lst (pa_cons (pe_callB (cu_max rfl) rfl T.z_max (by decide +kernel) (pa_cons (pe_int) (pa_cons (pe_op ou_sub (pu 0) (pe_op ou_pow (pe_int) (pe_int))) (pa_nil)))) (pa_cons (pe_op ou_mod (pu 0) (pe_int)) (pa_cons (pe_int) (pa_nil))))))
theorem v__law_take (T : Tx K mg a d ca)   {fa : Addr} {cdv : Value} {A : Around} {outer : List Env} {s : Shared} {H : Hp} {E : XK} (hr : Room 0 (A.deeper (envOfC "_law_take" (defScope s__law_take) s.heap.objs.size fa cdv))) :
    PSs ((cxOf CX0 P w K mg base N__law_take "_law_take" (defScope s__law_take) fa cdv A outer s H E).nox) (defBody s__law_take) (t__law_take K ca) :=
  pss_cons (pus_if (put_cmp ou_gt (pe_ix iu_ix (pu 0) (pe_int) (fun _ _ => rfl)) (pe_int) (nomark _)) (pss_cons (ps_set (i := 2) sc__law_take.nd rfl (Or.inl rfl) (pe_op ou_mod (pe_ix iu_ix (pu 0) (pe_int) (fun _ _ => rfl)) (pu 1))) (pss_cons (ps_asg (pe_op ou_fdiv (pe_ix iu_ix (pu 0) (pe_int) (fun _ _ => rfl)) (pu 1)) (pg_sub (pu 0) (pe_int) setu)) (pss_one (ps_ret (pu 2))))) (pss_nil)) (pss_cons (ps_asg (pe_op ou_add (pe_ix iu_ix (pu 0) (pe_int) (fun _ _ => rfl)) (pe_int)) (pg_sub (pu 0) (pe_int) setu)) (pss_cons (ps_set (i := 3) sc__law_take.nd rfl (Or.inl rfl) (pe_op ou_mod (pe_op ou_pow (pe_op ou_add (pe_op ou_add (pe_ix iu_ix (pu 0) (pe_int) (fun _ _ => rfl)) (pe_op ou_mul3 (pe_int) (pe_ix iu_ix (pu 0) (pe_int) (fun _ _ => rfl)))) (pe_int)) (pe_int)) (pe_int))) (pss_cons (ps_set (i := 3) sc__law_take.nd rfl (Or.inl rfl) (pe_op ou_mod (pe_op ou_pow (pe_op ou_add (pu 3) (pe_op ou_mul3 (pe_int) (pe_ix iu_ix (pu 0) (pe_int) (fun _ _ => rfl)))) (pe_int)) (pe_int))) (pss_one (ps_ret (pe_op ou_mod (pe_op ou_fdiv (pu 3) (pe_int)) (pu 1)))))))
theorem v__law_all_marks (T : Tx K mg a d ca)   {fa : Addr} {cdv : Value} {A : Around} {outer : List Env} {s : Shared} {H : Hp} {E : XK} (hr : Room 0 (A.deeper (envOfC "_law_all_marks" (defScope s__law_all_marks) s.heap.objs.size fa cdv))) :
    PSs ((cxOf CX0 P w K mg base N__law_all_marks "_law_all_marks" (defScope s__law_all_marks) fa cdv A outer s H E).nox) (defBody s__law_all_marks) (t__law_all_marks K ca) :=
  pss_one (ps_ret (pe_lst (pa_cons (pe_str) (pa_cons (pe_str) (pa_cons (pe_str) (pa_cons (pe_str) (pa_cons (pe_str) (pa_cons (pe_str) (pa_cons (pe_str) (pa_cons (pe_str) (pa_cons (pe_str) (pa_cons (pe_str) (pa_cons (pe_str) (pa_cons (pe_str) (pa_cons (pe_str) (pa_nil))))))))))))))))
theorem v__law_mark (T : Tx K mg a d ca) (G__law_take : FnOk P w K mg base CX0 1 (a 8) (d 8) P__law_take (sp__law_take K ca))  {fa : Addr} {cdv : Value} {A : Around} {outer : List Env} {s : Shared} {H : Hp} {E : XK} (hr : Room 1 (A.deeper (envOfC "_law_mark" (defScope s__law_mark) s.heap.objs.size fa cdv))) :
    PSs ((cxOf CX0 P w K mg base N__law_mark "_law_mark" (defScope s__law_mark) fa cdv A outer s H E).nox) (defBody s__law_mark) (t__law_mark K ca) :=
  pss_cons (pus_if (put_cmp (ou_eq2 hr.units) (pe_call G__law_take (hr.mono (by decide)) rfl T.m__law_take T.f__law_take.kp T.b__law_take .nil pass0 (pa_cons (pu 0) (pa_cons (pe_int) (pa_nil)))) (pe_int) (nomark _)) (pss_one (ps_ret (pe_str))) (pss_nil)) (pss_one (ps_ret (pe_op ou_add (pe_ix iu_ix (pe_str) (pe_call G__law_take (hr.mono (by decide)) rfl T.m__law_take T.f__law_take.kp T.b__law_take .nil pass0 (pa_cons (pu 0) (pa_cons (pe_int) (pa_nil)))) (fun _ _ => rfl)) (pe_ix iu_ix (pe_str) (pe_call G__law_take (hr.mono (by decide)) rfl T.m__law_take T.f__law_take.kp T.b__law_take .nil pass0 (pa_cons (pu 0) (pa_cons (pe_int) (pa_nil)))) (fun _ _ => rfl)))))
theorem v__law_marks (T : Tx K mg a d ca) (G__law_take : FnOk P w K mg base CX0 1 (a 8) (d 8) P__law_take (sp__law_take K ca)) (G__law_mark : FnOk P w K mg base CX0 2 (a 10) (d 10) P__law_mark (sp__law_mark K ca))  {fa : Addr} {cdv : Value} {A : Around} {outer : List Env} {s : Shared} {H : Hp} {E : XK} (hr : Room 2 (A.deeper (envOfC "_law_marks" (defScope s__law_marks) s.heap.objs.size fa cdv))) :
    PSs ((cxOf CX0 P w K mg base N__law_marks "_law_marks" (defScope s__law_marks) fa cdv A outer s H E).nox) (defBody s__law_marks) (t__law_marks K ca) :=
  pss_cons (ps_setLc (i := 2) (own := [("_law_k", 4)]) (g := gName 4) (tt := tYes) (te := tCall (sp__law_mark K ca) [] E0 (tCons (uVar 0) (tNil))) rfl sc__law_marks.nd rfl rfl (sw_true rfl rfl rfl (by decide +kernel)) (pi_range1 rfl T.z_range (pa_cons (pe_call G__law_take (hr.mono (by decide)) rfl T.m__law_take T.f__law_take.kp T.b__law_take .nil pass0 (pa_cons (pu 0) (pa_cons (pu 1) (pa_nil)))) (pa_nil))) (blkOk_by (own := [("_law_k", 4)]) (N := N__law_marks) (sc := defScope s__law_marks) (by decide +kernel)) (fun _ _ _ _ _ => pg_name (i := 4) sc__law_marks.nd rfl (Or.inl rfl)) (fun _ _ _ _ _ => pts_nil) (fun _ _ _ _ _ => pe_call G__law_mark (hr.mono (by decide)) rfl T.m__law_mark T.f__law_mark.kp T.b__law_mark .nil pass0 (pa_cons (pu 0) (pa_nil)))) (pss_cons (ps_set (i := 3) sc__law_marks.nd rfl (Or.inl rfl) (pe_call G__law_take (hr.mono (by decide)) rfl T.m__law_take T.f__law_take.kp T.b__law_take .nil pass0 (pa_cons (pu 0) (pa_cons (pe_op ou_add (pe_callB cu_len rfl T.z_len (by decide +kernel) (pa_cons (pu 2) (pa_nil))) (pe_int)) (pa_nil))))) (pss_one (ps_ret (pe_op ou_add (pe_op ou_add (pe_slice su_sl (pu 2) (po_none) (pou_some (pu 3))) (pe_lst (pa_cons (pe_op ou_add (pe_str) (pe_ix iu_ix (pe_str) (pe_call G__law_take (hr.mono (by decide)) rfl T.m__law_take T.f__law_take.kp T.b__law_take .nil pass0 (pa_cons (pu 0) (pa_cons (pe_int) (pa_nil)))) (fun _ _ => rfl))) (pa_nil)))) (pe_slice su_sl (pu 2) (pou_some (pu 3)) (po_none))))))
theorem v__law_sorted (T : Tx K mg a d ca) (G__law_all_marks : FnOk P w K mg base CX0 1 (a 9) (d 9) P__law_all_marks (sp__law_all_marks K ca))  {fa : Addr} {cdv : Value} {A : Around} {outer : List Env} {s : Shared} {H : Hp} {E : XK} (hr : Room 1 (A.deeper (envOfC "_law_sorted" (defScope s__law_sorted) s.heap.objs.size fa cdv))) :
    PSs ((cxOf CX0 P w K mg base N__law_sorted "_law_sorted" (defScope s__law_sorted) fa cdv A outer s H E).nox) (defBody s__law_sorted) (t__law_sorted K ca) :=
  pss_one (ps_ret (pe_lc (own := [("_law_one", 1)]) (g := gName 1) (tt := uT (tOp (uIn K false) (uVar 1) (uVar 0))) (te := uVar 1) rfl sc__law_sorted.nd (piu (pe_call0 G__law_all_marks (hr.mono (by decide)) rfl T.m__law_all_marks T.f__law_all_marks.kp T.b__law_all_marks .nil pass0)) (blkOk_by (own := [("_law_one", 1)]) (N := N__law_sorted) (sc := defScope s__law_sorted) (by decide +kernel)) (fun _ _ _ _ _ => pg_name (i := 1) sc__law_sorted.nd rfl (Or.inl rfl)) (fun _ _ _ _ _ => pts_one (put_cmp ou_in (pu 1) (pu 0) (by rfl))) (fun _ _ _ _ _ => pu 1)))
theorem v__law_number (T : Tx K mg a d ca)   {fa : Addr} {cdv : Value} {A : Around} {outer : List Env} {s : Shared} {H : Hp} {E : XK} (hr : Room 0 (A.deeper (envOfC "_law_number" (defScope s__law_number) s.heap.objs.size fa cdv))) :
    PSs ((cxOf CX0 P w K mg base N__law_number "_law_number" (defScope s__law_number) fa cdv A outer s H E).nox) (defBody s__law_number) (t__law_number K ca) :=
  pss_one (ps_ret (pue_if (put_cmp ou_in (pu 0) (pe_lc (own := [("_law_number_here", 1)]) (g := gName 1) (tt := tYes) (te := tCB uStr (tCons (uVar 1) (tNil))) rfl sc__law_number.nd (pi_range2 rfl T.z_range (pa_cons (pe_int) (pa_cons (pe_int) (pa_nil)))) (blkOk_by (own := [("_law_number_here", 1)]) (N := N__law_number) (sc := defScope s__law_number) (by decide +kernel)) (fun _ _ _ _ _ => pg_name (i := 1) sc__law_number.nd rfl (Or.inl rfl)) (fun _ _ _ _ _ => pts_nil) (fun _ _ _ _ _ => pe_callTy cu_str rfl T.z_str (by decide +kernel) (pa_cons (pu 1) (pa_nil)))) (by rfl)) (pe_callTy cu_int rfl T.z_int (by decide +kernel) (pa_cons (pu 0) (pa_nil))) (pe_non)))
theorem v__law_read (T : Tx K mg a d ca) (G__law_sorted : FnOk P w K mg base CX0 2 (a 12) (d 12) P__law_sorted (sp__law_sorted K ca)) (G__law_number : FnOk P w K mg base CX0 1 (a 13) (d 13) P__law_number (sp__law_number K ca))  {fa : Addr} {cdv : Value} {A : Around} {outer : List Env} {s : Shared} {H : Hp} {E : XK} (hr : Room 2 (A.deeper (envOfC "_law_read" (defScope s__law_read) s.heap.objs.size fa cdv))) :
    PSs ((cxOf CX0 P w K mg base N__law_read "_law_read" (defScope s__law_read) fa cdv A outer s H E).nox) (defBody s__law_read) (t__law_read K ca) :=
  pss_cons (ps_set (i := 1) sc__law_read.nd rfl (Or.inl rfl) (pe_m1 F.slot_str_split F.type_str_split mu_split (pu 0) (pe_str))) (pss_cons (pus_if (PW.pt (puw_or (put_cmp ou_lt (pe_callB cu_len rfl T.z_len (by decide +kernel) (pa_cons (pu 1) (pa_nil))) (pe_int) (nomark _)) (pw_or1 (put_cmp (ou_ne2 hr.units) (pe_ix iu_ix (pu 1) (pe_un ou_neg (pe_int)) (fun _ _ => rfl)) (pe_str) (nomark _))))) (pss_one (ps_ret (pe_non))) (pss_nil)) (pss_cons (ps_setLc (i := 2) (own := [("_law_word_here", 5)]) (g := gName 5) (tt := tYes) (te := uIf (uT (tOp (uEq2 K) (uVar 5) (tC (.str "_")))) (tC (.str " ")) (uVar 5)) rfl sc__law_read.nd rfl rfl (sw_true rfl rfl rfl (by decide +kernel)) (piu (pe_slice su_sl (pu 1) (po_none) (pou_some (pe_un ou_neg (pe_int))))) (blkOk_by (own := [("_law_word_here", 5)]) (N := N__law_read) (sc := defScope s__law_read) (by decide +kernel)) (fun _ _ _ _ _ => pg_name (i := 5) sc__law_read.nd rfl (Or.inl rfl)) (fun _ _ _ _ _ => pts_nil) (fun _ _ _ _ _ => pue_if (put_cmp (ou_eq2 hr.units) (pu 5) (pe_str) (nomark _)) (pe_str) (pu 5))) (pss_cons (pus_par (i := 3) (j := 4) rfl sc__law_read.nd rfl rfl (by decide) rfl rfl (pa_cons (pe_call G__law_number (hr.mono (by decide)) rfl T.m__law_number T.f__law_number.kp T.b__law_number .nil pass0 (pa_cons (pe_ix iu_ix (pu 1) (pe_un ou_neg (pe_int)) (fun _ _ => rfl)) (pa_nil))) (pa_cons (pe_call G__law_number (hr.mono (by decide)) rfl T.m__law_number T.f__law_number.kp T.b__law_number .nil pass0 (pa_cons (pe_ix iu_ix (pu 1) (pe_un ou_neg (pe_int)) (fun _ _ => rfl)) (pa_nil))) (pa_nil))) (by rfl)) (pss_cons (pus_if (PW.pt (puw_or (put_cmp ou_is (pu 3) (pe_non) (nomark _)) (puw_or (put_cmp ou_is (pu 4) (pe_non) (nomark _)) (puw_or (put_cmp ou_lt (pu 4) (pu 3) (nomark _)) (pw_or1 (put_cmp (ou_ne2 hr.units) (pu 2) (pe_call G__law_sorted (hr.mono (by decide)) rfl T.m__law_sorted T.f__law_sorted.kp T.b__law_sorted .nil pass0 (pa_cons (pu 2) (pa_nil))) (nomark _))))))) (pss_one (ps_ret (pe_non))) (pss_nil)) (pss_one (ps_ret (pue_if (put_cmp (ou_ne3 hr.units) (pe_lc (own := [("_law_mark_here", 6)]) (g := gName 6) (tt := uT (tOp (uEq2 K) (tOp (uIx K) (uVar 6) (tC (.int 0))) (tC (.str "#")))) (te := uVar 6) rfl sc__law_read.nd (piu (pu 2)) (blkOk_by (own := [("_law_mark_here", 6)]) (N := N__law_read) (sc := defScope s__law_read) (by decide +kernel)) (fun _ _ _ _ _ => pg_name (i := 6) sc__law_read.nd rfl (Or.inl rfl)) (fun _ _ _ _ _ => pts_one (put_cmp (ou_eq2 hr.units) (pe_ix iu_ix (pu 6) (pe_int) (fun _ _ => rfl)) (pe_str) (nomark _))) (fun _ _ _ _ _ => pu 6)) (pe_lst (pa_nil)) (nomark _)) (pe_lst (pa_cons (pu 2) (pa_cons (pu 3) (pa_cons (pu 4) (pa_nil))))) (pe_non))))))))
theorem v__law_told (T : Tx K mg a d ca) (G_Stock_parse : FnOk P w K mg base (L2.CX P w) 5 (a 20) (d 20) P_Stock_parse (sp_Stock_parse K ca)) (G_Stock___str__ : FnOk P w K mg base CX0 1 (a 21) (d 21) P_Stock___str__ (sp_Stock___str__ K ca)) (G_Stock_marks : FnOk P w K mg base CX0 1 (a 22) (d 22) P_Stock_marks (sp_Stock_marks K ca)) (G_Stock_lengths : FnOk P w K mg base CX0 1 (a 23) (d 23) P_Stock_lengths (sp_Stock_lengths K ca))  {fa : Addr} {cdv : Value} {A : Around} {outer : List Env} {s : Shared} {H : Hp} {E : XK} (hr : Room 5 (A.deeper (envOfC "_law_told" (defScope s__law_told) s.heap.objs.size fa cdv))) :
    PSs ((cxOf CX0 P w K mg base N__law_told "_law_told" (defScope s__law_told) fa cdv A outer s H E).nox) (defBody s__law_told) (t__law_told K ca) :=
  pss_cons (ps_set (i := 1) sc__law_told.nd rfl (Or.inl rfl) (pe_lst (pa_nil))) (pss_cons (pus_try (W0 := (fun _ _ _ _ => False)) (tb := fun W => tSeq (tAsg (uCMeth (ca 7) (sp_Stock_parse K ca) (WE W) (tC (.ref (ca 7))) (tCons (uVar 0) (tNil))) (gName 2)) (tAsg (tLst (tCons (uMeth "marks" [(ca 7, sp_Stock_marks K ca)] (WE W) (uVar 2) (tNil)) (tCons (uMeth "lengths" [(ca 7, sp_Stock_lengths K ca)] (WE W) (uVar 2) (tNil)) (tCons (uSp1 [(ca 7, sp_Stock___str__ K ca)] (WE W) okStr (uVar 2)) (tNil))))) (gName 1))) rfl rfl sc__law_told.nd takes0 (fun W pn xe tk po => pss_cons (ps_set (i := 2) sc__law_told.nd rfl (Or.inl rfl) (pe_cmethS (pe_glob rfl T.m_Stock rfl) T.cr_Stock T.cm_Stock_parse.choose_spec (raw0 G_Stock_parse T.b_Stock_parse) (hr.mono (by decide)) (fun σ => passAt tk σ) (pa_cons (pu 0) (pa_nil)))) (pss_one (ps_set (i := 1) sc__law_told.nd rfl (Or.inl rfl) (pe_lst (pa_cons (pe_methT0 (pu 2) (.cons (ment T.ct.cl_Stock T.me_Stock_marks G_Stock_marks T.b_Stock_marks (fun σ => pas0)) (.nil)) hr) (pa_cons (pe_methT0 (pu 2) (.cons (ment T.ct.cl_Stock T.me_Stock_lengths G_Stock_lengths T.b_Stock_lengths (fun σ => pas0)) (.nil)) hr) (pa_cons (pe_strO (.cons (ment T.ct.cl_Stock T.me_Stock___str__ G_Stock___str__ T.b_Stock___str__ (fun σ => pas0)) (.nil)) hr rfl T.z_str (pu 2)) (pa_nil)))))))) (.more (k := ⟨.ref (ca 3), 3, fun a cls d => tAsg (tLst (tCons (tC (.str "text")) (tCons (uXf K a cls d 3 "value") (tNil)))) (gName 1)⟩) ⟨rfl, by decide, Or.inl T.m_InvalidText⟩ rfl rfl (fun a oe cls d pn hz hf => pss_one (ps_set (i := 1) sc__law_told.nd rfl (Or.inl rfl) (pe_lst (pa_cons (pe_str) (pa_cons (pue_xf 3 hz hf) (pa_nil)))))) (.rest))) (pss_one (ps_ret (pu 1))))
theorem v__law_changed (T : Tx K mg a d ca) (G__law_take : FnOk P w K mg base CX0 1 (a 8) (d 8) P__law_take (sp__law_take K ca))  {fa : Addr} {cdv : Value} {A : Around} {outer : List Env} {s : Shared} {H : Hp} {E : XK} (hr : Room 1 (A.deeper (envOfC "_law_changed" (defScope s__law_changed) s.heap.objs.size fa cdv))) :
    PSs ((cxOf CX0 P w K mg base N__law_changed "_law_changed" (defScope s__law_changed) fa cdv A outer s H E).nox) (defBody s__law_changed) (t__law_changed K ca) :=
  pss_cons (ps_set (i := 2) sc__law_changed.nd rfl (Or.inl rfl) (pe_m1 F.slot_str_split F.type_str_split mu_split (pu 1) (pe_str))) (pss_cons (ps_set (i := 3) sc__law_changed.nd rfl (Or.inl rfl) (pe_call G__law_take (hr.mono (by decide)) rfl T.m__law_take T.f__law_take.kp T.b__law_take .nil pass0 (pa_cons (pu 0) (pa_cons (pe_callB cu_len rfl T.z_len (by decide +kernel) (pa_cons (pu 2) (pa_nil))) (pa_nil))))) (pss_cons (ps_set (i := 4) sc__law_changed.nd rfl (Or.inl rfl) (pe_lst (pa_cons (pe_str) (pa_cons (pe_str) (pa_cons (pe_str) (pa_cons (pe_str) (pa_cons (pe_str) (pa_cons (pe_str) (pa_cons (pe_str) (pa_cons (pe_str) (pa_cons (pe_str) (pa_cons (pe_str) (pa_cons (pe_str) (pa_cons (pe_str) (pa_cons (pe_str) (pa_cons (pe_str) (pa_cons (pe_str) (pa_cons (pe_str) (pa_nil))))))))))))))))))) (pss_cons (ps_set (i := 5) sc__law_changed.nd rfl (Or.inl rfl) (pe_ix iu_ix (pu 4) (pe_call G__law_take (hr.mono (by decide)) rfl T.m__law_take T.f__law_take.kp T.b__law_take .nil pass0 (pa_cons (pu 0) (pa_cons (pe_int) (pa_nil)))) (fun _ _ => rfl))) (pss_cons (ps_set (i := 6) sc__law_changed.nd rfl (Or.inl rfl) (pe_call G__law_take (hr.mono (by decide)) rfl T.m__law_take T.f__law_take.kp T.b__law_take .nil pass0 (pa_cons (pu 0) (pa_cons (pe_int) (pa_nil))))) (pss_cons (pus_if (put_cmp (ou_eq2 hr.units) (pu 6) (pe_int) (nomark _)) (pss_one (ps_ret (pe_m1 F.slot_str_join F.type_str_join mu_join (pe_str) (pe_op ou_add (pe_op ou_add (pe_slice su_sl (pu 2) (po_none) (pou_some (pu 3))) (pe_lst (pa_cons (pu 5) (pa_nil)))) (pe_slice su_sl (pu 2) (pou_some (pu 3)) (po_none)))))) (pss_nil)) (pss_cons (pus_if (put_cmp (ou_eq2 hr.units) (pu 6) (pe_int) (nomark _)) (pss_one (ps_ret (pe_m1 F.slot_str_join F.type_str_join mu_join (pe_str) (pe_op ou_add (pe_slice su_sl (pu 2) (po_none) (pou_some (pu 3))) (pe_slice su_sl (pu 2) (pou_some (pe_op ou_add (pu 3) (pe_int))) (po_none)))))) (pss_nil)) (pss_cons (pus_if (put_cmp (ou_eq2 hr.units) (pu 6) (pe_int) (nomark _)) (pss_one (ps_ret (pe_m1 F.slot_str_join F.type_str_join mu_join (pe_str) (pe_op ou_add (pe_op ou_add (pe_slice su_sl (pu 2) (po_none) (pou_some (pu 3))) (pe_lst (pa_cons (pu 5) (pa_nil)))) (pe_slice su_sl (pu 2) (pou_some (pe_op ou_add (pu 3) (pe_int))) (po_none)))))) (pss_nil)) (pss_cons (pus_if (put_cmp (ou_eq2 hr.units) (pu 6) (pe_int) (nomark _)) (pss_one (ps_ret (pe_m1 F.slot_str_join F.type_str_join mu_join (pe_str) (pe_op ou_add (pe_slice su_sl (pu 2) (pou_some (pu 3)) (po_none)) (pe_slice su_sl (pu 2) (po_none) (pou_some (pu 3))))))) (pss_nil)) (pss_cons (pus_if (put_cmp (ou_eq2 hr.units) (pu 6) (pe_int) (nomark _)) (pss_one (ps_ret (pe_m1 F.slot_str_join F.type_str_join mu_join (pe_str) (pe_op ou_add (pe_op ou_add (pe_slice su_sl (pu 2) (po_none) (pou_some (pu 3))) (pe_revU (pe_slice su_sl (pu 2) (pou_some (pu 3)) (pou_some (pe_op ou_add (pu 3) (pe_int)))))) (pe_slice su_sl (pu 2) (pou_some (pe_op ou_add (pu 3) (pe_int))) (po_none)))))) (pss_nil)) (pss_cons (ps_set (i := 7) sc__law_changed.nd rfl (Or.inl rfl) (pe_call G__law_take (hr.mono (by decide)) rfl T.m__law_take T.f__law_take.kp T.b__law_take .nil pass0 (pa_cons (pu 0) (pa_cons (pe_op ou_add (pe_callB cu_len rfl T.z_len (by decide +kernel) (pa_cons (pu 1) (pa_nil))) (pe_int)) (pa_nil))))) (pss_cons (ps_set (i := 8) sc__law_changed.nd rfl (Or.inl rfl) (pe_ix iu_ix (pe_lst (pa_cons (pe_str) (pa_cons (pe_str) (pa_cons (pe_str) (pa_cons (pe_str) (pa_cons (pe_str) (pa_nil))))))) (pe_call G__law_take (hr.mono (by decide)) rfl T.m__law_take T.f__law_take.kp T.b__law_take .nil pass0 (pa_cons (pu 0) (pa_cons (pe_int) (pa_nil)))) (fun _ _ => rfl))) (pss_one (ps_ret (pe_op ou_add (pe_op ou_add (pe_slice su_sl (pu 1) (po_none) (pou_some (pu 7))) (pu 8)) (pe_slice su_sl (pu 1) (pou_some (pe_op ou_add (pu 7) (pe_call G__law_take (hr.mono (by decide)) rfl T.m__law_take T.f__law_take.kp T.b__law_take .nil pass0 (pa_cons (pu 0) (pa_cons (pe_int) (pa_nil)))))) (po_none))))))))))))))))
theorem v__law_right (T : Tx K mg a d ca) (G__law_take : FnOk P w K mg base CX0 1 (a 8) (d 8) P__law_take (sp__law_take K ca)) (G__law_marks : FnOk P w K mg base CX0 3 (a 11) (d 11) P__law_marks (sp__law_marks K ca)) (G__law_sorted : FnOk P w K mg base CX0 2 (a 12) (d 12) P__law_sorted (sp__law_sorted K ca)) (G__law_read : FnOk P w K mg base CX0 3 (a 14) (d 14) P__law_read (sp__law_read K ca)) (G__law_told : FnOk P w K mg base CX0 6 (a 15) (d 15) P__law_told (sp__law_told K ca)) (G__law_changed : FnOk P w K mg base CX0 2 (a 16) (d 16) P__law_changed (sp__law_changed K ca)) (G_Stock___init__ : FnOk P w K mg base (L2.CX P w) 3 (a 19) (d 19) P_Stock___init__ (sp_Stock___init__ K ca)) (G_Stock___str__ : FnOk P w K mg base CX0 1 (a 21) (d 21) P_Stock___str__ (sp_Stock___str__ K ca))  {fa : Addr} {cdv : Value} {A : Around} {outer : List Env} {s : Shared} {H : Hp} {E : XK} (hgd : (A.deeper (envOfC "_law_right" (defScope s__law_right) s.heap.objs.size fa cdv)).guards = some []) (hr : Room 6 (A.deeper (envOfC "_law_right" (defScope s__law_right) s.heap.objs.size fa cdv))) :
    PSs ((cxOf CX0 P w K mg base N__law_right "_law_right" (defScope s__law_right) fa cdv A outer s H E).nox) (defBody s__law_right) (t__law_right K ca) :=
  pss_cons (ps_set (i := 1) sc__law_right.nd rfl (Or.inl rfl) (pe_call G__law_marks (hr.mono (by decide)) rfl T.m__law_marks T.f__law_marks.kp T.b__law_marks .nil pass0 (pa_cons (pu 0) (pa_cons (pe_int) (pa_nil))))) (pss_cons (ps_set (i := 2) sc__law_right.nd rfl (Or.inl rfl) (pe_call G__law_sorted (hr.mono (by decide)) rfl T.m__law_sorted T.f__law_sorted.kp T.b__law_sorted .nil pass0 (pa_cons (pu 1) (pa_nil)))) (pss_cons (ps_set (i := 3) sc__law_right.nd rfl (Or.inl rfl) (pe_op ou_add (pe_int) (pe_call G__law_take (hr.mono (by decide)) rfl T.m__law_take T.f__law_take.kp T.b__law_take .nil pass0 (pa_cons (pu 0) (pa_cons (pe_int) (pa_nil)))))) (pss_cons (ps_set (i := 4) sc__law_right.nd rfl (Or.inl rfl) (pe_op ou_add (pu 3) (pe_call G__law_take (hr.mono (by decide)) rfl T.m__law_take T.f__law_take.kp T.b__law_take .nil pass0 (pa_cons (pu 0) (pa_cons (pe_op ou_sub (pe_int) (pu 3)) (pa_nil)))))) (pss_cons (ps_setLc (i := 5) (own := [("_law_mark_here", 11)]) (g := gName 11) (tt := tYes) (te := uIf (uT (tOp (uEq2 K) (uVar 11) (tC (.str " ")))) (tC (.str "_")) (uVar 11)) rfl sc__law_right.nd rfl rfl (sw_true rfl rfl rfl (by decide +kernel)) (piu (pu 2)) (blkOk_by (own := [("_law_mark_here", 11)]) (N := N__law_right) (sc := defScope s__law_right) (by decide +kernel)) (fun _ _ _ _ _ => pg_name (i := 11) sc__law_right.nd rfl (Or.inl rfl)) (fun _ _ _ _ _ => pts_nil) (fun _ _ _ _ _ => pue_if (put_cmp (ou_eq2 hr.units) (pu 11) (pe_str) (nomark _)) (pe_str) (pu 11))) (pss_cons (ps_set (i := 6) sc__law_right.nd rfl (Or.inl rfl) (pe_m1 F.slot_str_join F.type_str_join mu_join (pe_str) (pe_op ou_add (pu 5) (pe_lst (pa_cons (pe_str) (pa_cons (pe_callTy cu_str rfl T.z_str (by decide +kernel) (pa_cons (pu 3) (pa_nil))) (pa_cons (pe_callTy cu_str rfl T.z_str (by decide +kernel) (pa_cons (pu 4) (pa_nil))) (pa_nil)))))))) (pss_cons (pus_if (put_cmp (ou_ne2 hr.units) (pe_strO (.cons (ment T.ct.cl_Stock T.me_Stock___str__ G_Stock___str__ T.b_Stock___str__ (fun σ => pas0)) (.nil)) hr rfl T.z_str (pe_mkK T.mk_Stock G_Stock___init__ (hr.mono (by decide)) (by rfl) T.m_Stock T.k_Stock___init___shortest_longest (fun σ => pasL) (pa_cons (pu 1) (pa_nil)) (pk_cons (pu 3) (pk_cons (pu 4) (pk_nil))))) (pu 6) (nomark _)) (pss_one (ps_ret (pe_bl))) (pss_nil)) (pss_cons (pus_if (put_cmp (ou_ne2 hr.units) (pe_callB (cu_repr3 hgd hr.units) rfl T.z_repr (by decide +kernel) (pa_cons (pe_call G__law_told (hr.mono (by decide)) rfl T.m__law_told T.f__law_told.kp T.b__law_told .nil pass0 (pa_cons (pu 6) (pa_nil))) (pa_nil))) (pe_callB (cu_repr3 hgd hr.units) rfl T.z_repr (by decide +kernel) (pa_cons (pe_lst (pa_cons (pu 2) (pa_cons (pe_listRg rfl rfl T.z_list (prg_2 rfl T.z_range (pu 3) (pe_op ou_add (pu 4) (pe_int)))) (pa_cons (pu 6) (pa_nil))))) (pa_nil))) (nomark _)) (pss_one (ps_ret (pe_bl))) (pss_nil)) (pss_cons (ps_for PassesOwn.never rfl (pi_range1 rfl T.z_range (pa_cons (pe_op ou_add (pe_int) (pe_call G__law_take (hr.mono (by decide)) rfl T.m__law_take T.f__law_take.kp T.b__law_take .nil pass0 (pa_cons (pu 0) (pa_cons (pe_int) (pa_nil))))) (pa_nil))) (pg_name (i := 7) sc__law_right.nd rfl (Or.inl rfl)) (pss_one (ps_set (i := 6) sc__law_right.nd rfl (Or.inl rfl) (pe_call G__law_changed (hr.mono (by decide)) rfl T.m__law_changed T.f__law_changed.kp T.b__law_changed .nil pass0 (pa_cons (pu 0) (pa_cons (pu 6) (pa_nil))))))) (pss_cons (ps_set (i := 8) sc__law_right.nd rfl (Or.inl rfl) (pe_call G__law_read (hr.mono (by decide)) rfl T.m__law_read T.f__law_read.kp T.b__law_read .nil pass0 (pa_cons (pu 6) (pa_nil)))) (pss_cons (ps_set (i := 9) sc__law_right.nd rfl (Or.inl rfl) (pe_lst (pa_cons (pe_str) (pa_cons (pu 6) (pa_nil))))) (pss_cons (pus_if (put_cmp ou_isnot (pu 8) (pe_non) (nomark _)) (pss_one (ps_set (i := 9) sc__law_right.nd rfl (Or.inl rfl) (pe_lst (pa_cons (pe_ix iu_ix (pu 8) (pe_int) (fun _ _ => rfl)) (pa_cons (pe_listRg rfl rfl T.z_list (prg_2 rfl T.z_range (pe_ix iu_ix (pu 8) (pe_int) (fun _ _ => rfl)) (pe_op ou_add (pe_ix iu_ix (pu 8) (pe_int) (fun _ _ => rfl)) (pe_int)))) (pa_cons (pu 6) (pa_nil))))))) (pss_nil)) (pss_cons (pus_if (put_cmp (ou_ne2 hr.units) (pe_callB (cu_repr3 hgd hr.units) rfl T.z_repr (by decide +kernel) (pa_cons (pe_call G__law_told (hr.mono (by decide)) rfl T.m__law_told T.f__law_told.kp T.b__law_told .nil pass0 (pa_cons (pu 6) (pa_nil))) (pa_nil))) (pe_callB (cu_repr3 hgd hr.units) rfl T.z_repr (by decide +kernel) (pa_cons (pu 9) (pa_nil))) (nomark _)) (pss_one (ps_ret (pe_bl))) (pss_nil)) (pss_cons (ps_set (i := 10) sc__law_right.nd rfl (Or.inl rfl) (pe_ix iu_ix (pe_lst (pa_cons (pe_non) (pa_cons (pe_int) (pa_cons (pe_bl) (pa_cons (pe_lst (pa_cons (pu 6) (pa_nil))) (pa_cons (pe_tup (pa_cons (pe_str) (pa_nil))) (pa_cons (pe_dnewK) (pa_cons (pe_lst (pa_nil)) (pa_nil))))))))) (pe_call G__law_take (hr.mono (by decide)) rfl T.m__law_take T.f__law_take.kp T.b__law_take .nil pass0 (pa_cons (pu 0) (pa_cons (pe_int) (pa_nil)))) (fun _ _ => rfl))) (pss_one (ps_ret (pe_cmpR (ou_eq2 hr.units) (pe_callB (cu_repr3 hgd hr.units) rfl T.z_repr (by decide +kernel) (pa_cons (pe_call G__law_told (hr.mono (by decide)) rfl T.m__law_told T.f__law_told.kp T.b__law_told .nil pass0 (pa_cons (pu 10) (pa_nil))) (pa_nil))) (pe_callB (cu_repr3 hgd hr.units) rfl T.z_repr (by decide +kernel) (pa_cons (pe_lst (pa_cons (pe_str) (pa_cons (pu 10) (pa_nil)))) (pa_nil))) (nomark _)))))))))))))))))
theorem v_law (T : Tx K mg a d ca) (G__law_cell : FnOk P w K mg base CX0 1 (a 6) (d 6) P__law_cell (sp__law_cell K ca)) (G__law_purse : FnOk P w K mg base CX0 1 (a 7) (d 7) P__law_purse (sp__law_purse K ca)) (G__law_right : U.FnG P w K mg base CX0 7 (a 17) (d 17) P__law_right (sp__law_right K ca))  {fa : Addr} {cdv : Value} {A : Around} {outer : List Env} {s : Shared} {H : Hp} {E : XK} (hgd : (A.deeper (envOfC "law" (defScope s_law) s.heap.objs.size fa cdv)).guards = some []) (hr : Room 7 (A.deeper (envOfC "law" (defScope s_law) s.heap.objs.size fa cdv))) :
    PSs ((cxOf CX0 P w K mg base N_law "law" (defScope s_law) fa cdv A outer s H E).nox) (defBody s_law) (t_law K ca) :=
  pss_cons (ps_for PassesOwn.never rfl (pi_range1 rfl T.z_range (pa_cons (pe_callB (cu_max rfl) rfl T.z_max (by decide +kernel) (pa_cons (pe_int) (pa_cons (pe_callB (cu_min rfl) rfl T.z_min (by decide +kernel) (pa_cons (pe_int) (pa_cons (pe_callB cu_len rfl T.z_len (by decide +kernel) (pa_cons (pu 0) (pa_nil))) (pa_nil)))) (pa_nil)))) (pa_nil))) (pg_name (i := 1) sc_law.nd rfl (Or.inl rfl)) (pss_one (pus_if (put_not (put_val (pe_callG G__law_right hgd (hr.mono (by decide)) rfl T.m__law_right T.f__law_right.kp T.b__law_right pass0 (pa_cons (pe_call G__law_purse (hr.mono (by decide)) rfl T.m__law_purse T.f__law_purse.kp T.b__law_purse .nil pass0 (pa_cons (pe_call G__law_cell (hr.mono (by decide)) rfl T.m__law_cell T.f__law_cell.kp T.b__law_cell .nil pass0 (pa_cons (pu 0) (pa_cons (pu 1) (pa_nil)))) (pa_nil))) (pa_nil))))) (pss_one (ps_ret (pe_bl))) (pss_nil)))) (pss_one (ps_ret (pe_bl)))
theorem v_Stock___init__ (T : Tx K mg a d ca) (G_is_integer : FnOk P w K mg base CX0 1 (a 0) (d 0) P_is_integer (sp_is_integer K ca)) (G_all_marks : FnOk P w K mg base CX0 1 (a 2) (d 2) P_all_marks (sp_all_marks K ca)) (G_are_stock_marks : FnOk P w K mg base CX0 2 (a 5) (d 5) P_are_stock_marks (sp_are_stock_marks K ca)) (I_InvalidInteger : FnOk P w K mg base CX0 1 (a 26) (d 26) ["self", "value"] (U.spI (ca 5) "value")) (I_InvalidMarks : FnOk P w K mg base CX0 1 (a 24) (d 24) ["self", "value"] (U.spI (ca 2) "value")) {fa : Addr} {cdv : Value} {A : Around} {outer : List Env} {s : Shared} {H : Hp} {E : XK} (hr : Room 2 (A.deeper (envOfC "Stock.__init__" (defScope s_Stock___init__) s.heap.objs.size fa cdv))) :
    PSs (cxOf (L2.CX P w) P w K mg base N_Stock___init__ "Stock.__init__" (defScope s_Stock___init__) fa cdv A outer s H E) (defBody s_Stock___init__) (t_Stock___init__ K ca E) :=
  pss_cons (pus_if (put_not (put_val (pe_call G_are_stock_marks (hr.mono (by decide)) rfl T.m_are_stock_marks T.f_are_stock_marks.kp T.b_are_stock_marks .nil pass0 (pa_cons (pu 1) (pa_nil))))) (pss_one (ps_raiseu rfl (takes_of rfl rfl rfl rfl) (pmku T.x_InvalidMarks I_InvalidMarks (hr.mono (by decide)) T.i_InvalidMarks pass0 rfl (pa_cons (pu 1) (pa_nil))))) (pss_nil)) (pss_cons (pus_if (put_not (put_val (pe_call G_is_integer (hr.mono (by decide)) rfl T.m_is_integer T.f_is_integer.kp T.b_is_integer .nil pass0 (pa_cons (pu 2) (pa_cons (pe_int) (pa_cons (pe_glob rfl T.c_MOST_LETTERS.choose_spec ⟨_, rfl⟩) (pa_nil))))))) (pss_one (ps_raiseu rfl (takes_of rfl rfl rfl rfl) (pmku T.x_InvalidInteger I_InvalidInteger (hr.mono (by decide)) T.i_InvalidInteger pass0 rfl (pa_cons (pu 2) (pa_nil))))) (pss_nil)) (pss_cons (pus_if (put_not (put_val (pe_call G_is_integer (hr.mono (by decide)) rfl T.m_is_integer T.f_is_integer.kp T.b_is_integer .nil pass0 (pa_cons (pu 3) (pa_cons (pu 2) (pa_cons (pe_glob rfl T.c_MOST_LETTERS.choose_spec ⟨_, rfl⟩) (pa_nil))))))) (pss_one (ps_raiseu rfl (takes_of rfl rfl rfl rfl) (pmku T.x_InvalidInteger I_InvalidInteger (hr.mono (by decide)) T.i_InvalidInteger pass0 rfl (pa_cons (pu 3) (pa_nil))))) (pss_nil)) (pss_cons (ps_fld (pu 0) (pe_lc (own := [("mark", 4)]) (g := gName 4) (tt := uT (tOp (uIn K false) (uVar 4) (uVar 1))) (te := uVar 4) rfl sc_Stock___init__.nd (piu (pe_call0 G_all_marks (hr.mono (by decide)) rfl T.m_all_marks T.f_all_marks.kp T.b_all_marks .nil pass0)) (blkOk_by (own := [("mark", 4)]) (N := N_Stock___init__) (sc := defScope s_Stock___init__) (by decide +kernel)) (fun _ _ _ _ _ => pg_name (i := 4) sc_Stock___init__.nd rfl (Or.inl rfl)) (fun _ _ _ _ _ => pts_one (put_cmp ou_in (pu 4) (pu 1) (by rfl))) (fun _ _ _ _ _ => pu 4)) rfl) (pss_cons (ps_fld (pu 0) (pu 2) rfl) (pss_cons (ps_fld (pu 0) (pu 3) rfl) (pss_one (ps_fld (pu 0) (pe_lc2 (own := [("mark", 4), ("length", 5)]) (vs1 := [5]) (g := gName 4) (tt := tYes) (wi1 := iRng2 (tCons (uVar 2) (tCons (tOp (uAdd K) (uVar 3) (tC (.int 1))) (tNil)))) (g1 := gName 5) (tt1 := tYes) (te := tTup (tCons (uVar 4) (tCons (uVar 5) (tNil)))) rfl sc_Stock___init__.nd (piu (pe_fld (pu 0) rfl)) (blkOk_by (own := [("mark", 4), ("length", 5)]) (N := N_Stock___init__) (sc := defScope s_Stock___init__) (by decide +kernel)) (by decide) (fun _ _ _ _ _ => pg_name (i := 4) sc_Stock___init__.nd rfl (Or.inl rfl)) (fun _ _ _ _ _ => pts_nil) (fun _ _ _ _ _ => pi_range2 rfl T.z_range (pa_cons (pu 2) (pa_cons (pe_op ou_add (pu 3) (pe_int)) (pa_nil)))) (fun _ _ _ _ _ => pg_name (i := 5) sc_Stock___init__.nd rfl (Or.inl rfl)) (fun _ _ _ _ _ => pts_nil) (fun _ _ _ _ _ => pe_tup (pa_cons (pu 4) (pa_cons (pu 5) (pa_nil))))) rfl)))))))
theorem v_Stock_parse (T : Tx K mg a d ca) (G_parse_integer : FnOk P w K mg base CX0 1 (a 3) (d 3) P_parse_integer (sp_parse_integer K ca)) (G_split_words : FnOk P w K mg base CX0 1 (a 4) (d 4) P_split_words (sp_split_words K ca)) (G_are_stock_marks : FnOk P w K mg base CX0 2 (a 5) (d 5) P_are_stock_marks (sp_are_stock_marks K ca)) (G_Stock___init__ : FnOk P w K mg base (L2.CX P w) 3 (a 19) (d 19) P_Stock___init__ (sp_Stock___init__ K ca)) (G_Stock___str__ : FnOk P w K mg base CX0 1 (a 21) (d 21) P_Stock___str__ (sp_Stock___str__ K ca)) (I_InvalidText : FnOk P w K mg base CX0 1 (a 25) (d 25) ["self", "value"] (U.spI (ca 3) "value")) {fa : Addr} {cdv : Value} {A : Around} {outer : List Env} {s : Shared} {H : Hp} {E : XK} (hr : Room 4 (A.deeper (envOfC "Stock.parse" (defScope s_Stock_parse) s.heap.objs.size fa cdv))) :
    PSs (cxOf (L2.CX P w) P w K mg base N_Stock_parse "Stock.parse" (defScope s_Stock_parse) fa cdv A outer s H E) (defBody s_Stock_parse) (t_Stock_parse K ca E) :=
  pss_cons (ps_set (i := 2) sc_Stock_parse.nd rfl (Or.inl rfl) (pe_call G_split_words (hr.mono (by decide)) rfl T.m_split_words T.f_split_words.kp T.b_split_words .nil pass0 (pa_cons (pu 1) (pa_nil)))) (pss_cons (pus_if (PW.pt (puw_or (put_cmp ou_is (pu 2) (pe_non) (nomark _)) (puw_or (put_cmp ou_lt (pe_callB cu_len rfl T.z_len (by decide +kernel) (pa_cons (pu 2) (pa_nil))) (pe_int) (nomark _)) (pw_or1 (put_cmp (ou_ne2 hr.units) (pe_ix iu_ix (pu 2) (pe_un ou_neg (pe_int)) (fun _ _ => rfl)) (pe_str) (nomark _)))))) (pss_one (ps_raiseu rfl (takes_of rfl rfl rfl rfl) (pmku T.x_InvalidText I_InvalidText (hr.mono (by decide)) T.i_InvalidText pass0 rfl (pa_cons (pu 1) (pa_nil))))) (pss_nil)) (pss_cons (ps_setLc (i := 3) (own := [("word", 7)]) (g := gName 7) (tt := tYes) (te := uIf (uT (tOp (uEq2 K) (uVar 7) (tC (.str "_")))) (tC (.str " ")) (uVar 7)) rfl sc_Stock_parse.nd rfl rfl (sw_true rfl rfl rfl (by decide +kernel)) (piu (pe_slice su_sl (pu 2) (po_none) (pou_some (pe_un ou_neg (pe_int))))) (blkOk_by (own := [("word", 7)]) (N := N_Stock_parse) (sc := defScope s_Stock_parse) (by decide +kernel)) (fun _ _ _ _ _ => pg_name (i := 7) sc_Stock_parse.nd rfl (Or.inl rfl)) (fun _ _ _ _ _ => pts_nil) (fun _ _ _ _ _ => pue_if (put_cmp (ou_eq2 hr.units) (pu 7) (pe_glob rfl T.c_BLANK.choose_spec ⟨_, rfl⟩) (nomark _)) (pe_str) (pu 7))) (pss_cons (ps_set (i := 4) sc_Stock_parse.nd rfl (Or.inl rfl) (pe_callE G_parse_integer (hr.mono (by decide)) rfl T.m_parse_integer T.f_parse_integer.kp T.k_parse_integer_low_high pass0 (pa_cons (pe_ix iu_ix (pu 2) (pe_un ou_neg (pe_int)) (fun _ _ => rfl)) (pa_nil)) (pk_cons (pe_int) (pk_cons (pe_glob rfl T.c_MOST_LETTERS.choose_spec ⟨_, rfl⟩) (pk_nil))))) (pss_cons (ps_set (i := 5) sc_Stock_parse.nd rfl (Or.inl rfl) (pe_callE G_parse_integer (hr.mono (by decide)) rfl T.m_parse_integer T.f_parse_integer.kp T.k_parse_integer_low_high pass0 (pa_cons (pe_ix iu_ix (pu 2) (pe_un ou_neg (pe_int)) (fun _ _ => rfl)) (pa_nil)) (pk_cons (pe_int) (pk_cons (pe_glob rfl T.c_MOST_LETTERS.choose_spec ⟨_, rfl⟩) (pk_nil))))) (pss_cons (pus_if (PW.pt (puw_or (put_not (put_val (pe_call G_are_stock_marks (hr.mono (by decide)) rfl T.m_are_stock_marks T.f_are_stock_marks.kp T.b_are_stock_marks .nil pass0 (pa_cons (pu 3) (pa_nil))))) (puw_or (put_cmp ou_is (pu 4) (pe_non) (nomark _)) (puw_or (put_cmp ou_is (pu 5) (pe_non) (nomark _)) (pw_or1 (put_cmp ou_lt (pu 5) (pu 4) (nomark _))))))) (pss_one (ps_raiseu rfl (takes_of rfl rfl rfl rfl) (pmku T.x_InvalidText I_InvalidText (hr.mono (by decide)) T.i_InvalidText pass0 rfl (pa_cons (pu 1) (pa_nil))))) (pss_nil)) (pss_cons (ps_set (i := 6) sc_Stock_parse.nd rfl (Or.inl rfl) (pe_mkKL (i := 0) T.mk_Stock G_Stock___init__ (hr.mono (by decide)) rfl (.inl rfl) T.k_Stock___init___shortest_longest (fun σ => pasP (passes_call (takes_of rfl rfl rfl rfl) (fun _ _ _ _ h => h))) (pa_cons (pu 3) (pa_nil)) (pk_cons (pu 4) (pk_cons (pu 5) (pk_nil))))) (pss_cons (pus_if (put_cmp (ou_ne2 hr.units) (pe_strO (.cons (ment T.ct.cl_Stock T.me_Stock___str__ G_Stock___str__ T.b_Stock___str__ (fun σ => pas0)) (.nil)) hr rfl T.z_str (pu 6)) (pu 1) (nomark _)) (pss_one (ps_raiseu rfl (takes_of rfl rfl rfl rfl) (pmku T.x_InvalidText I_InvalidText (hr.mono (by decide)) T.i_InvalidText pass0 rfl (pa_cons (pu 1) (pa_nil))))) (pss_nil)) (pss_one (ps_ret (pu 6))))))))))
theorem v_Stock___str__ (T : Tx K mg a d ca)   {fa : Addr} {cdv : Value} {A : Around} {outer : List Env} {s : Shared} {H : Hp} {E : XK} (hr : Room 0 (A.deeper (envOfC "Stock.__str__" (defScope s_Stock___str__) s.heap.objs.size fa cdv))) :
    PSs ((cxOf CX0 P w K mg base N_Stock___str__ "Stock.__str__" (defScope s_Stock___str__) fa cdv A outer s H E).nox) (defBody s_Stock___str__) (t_Stock___str__ K ca) :=
  pss_cons (ps_set (i := 1) sc_Stock___str__.nd rfl (Or.inl rfl) (pe_m1 F.slot_str_join F.type_str_join mu_join (pe_str) (pe_lc (own := [("mark", 2)]) (g := gName 2) (tt := tYes) (te := uIf (uT (tOp (uEq2 K) (uVar 2) (tC (.str " ")))) (tC (.str "_")) (uVar 2)) rfl sc_Stock___str__.nd (piu (pe_fld (pu 0) rfl)) (blkOk_by (own := [("mark", 2)]) (N := N_Stock___str__) (sc := defScope s_Stock___str__) (by decide +kernel)) (fun _ _ _ _ _ => pg_name (i := 2) sc_Stock___str__.nd rfl (Or.inl rfl)) (fun _ _ _ _ _ => pts_nil) (fun _ _ _ _ _ => pue_if (put_cmp (ou_eq2 hr.units) (pu 2) (pe_str) (nomark _)) (pe_glob rfl T.c_BLANK.choose_spec ⟨_, rfl⟩) (pu 2))))) (pss_one (ps_ret (pe_joined (.cons (pe_fmt (pu 1)) (.cons (pe_str) (.cons (pe_fmt (pe_fld (pu 0) rfl)) (.cons (pe_str) (.cons (pe_fmt (pe_fld (pu 0) rfl)) (PJ.nil)))))))))
theorem v_Stock_marks (T : Tx K mg a d ca)   {fa : Addr} {cdv : Value} {A : Around} {outer : List Env} {s : Shared} {H : Hp} {E : XK} (hr : Room 0 (A.deeper (envOfC "Stock.marks" (defScope s_Stock_marks) s.heap.objs.size fa cdv))) :
    PSs ((cxOf CX0 P w K mg base N_Stock_marks "Stock.marks" (defScope s_Stock_marks) fa cdv A outer s H E).nox) (defBody s_Stock_marks) (t_Stock_marks K ca) :=
  pss_one (ps_ret (pe_callTy cu_list rfl T.z_list (by decide +kernel) (pa_cons (pe_fld (pu 0) rfl) (pa_nil))))
theorem v_Stock_lengths (T : Tx K mg a d ca)   {fa : Addr} {cdv : Value} {A : Around} {outer : List Env} {s : Shared} {H : Hp} {E : XK} (hr : Room 0 (A.deeper (envOfC "Stock.lengths" (defScope s_Stock_lengths) s.heap.objs.size fa cdv))) :
    PSs ((cxOf CX0 P w K mg base N_Stock_lengths "Stock.lengths" (defScope s_Stock_lengths) fa cdv A outer s H E).nox) (defBody s_Stock_lengths) (t_Stock_lengths K ca) :=
  pss_one (ps_ret (pe_listRg rfl rfl T.z_list (prg_2 rfl T.z_range (pe_fld (pu 0) rfl) (pe_op ou_add (pe_fld (pu 0) rfl) (pe_int)))))
end
section
variable {P : Program} {w : World} {K : PySem.W.Frag} {mg : Str → Option Value} {base : Heap} {a : Nat → Addr} {d : Nat → FuncData} {ca : Nat → Addr}
theorem ok_is_integer (T : Tx K mg a d ca) : FnOk P w K mg base CX0 1 (a 0) (d 0) P_is_integer (sp_is_integer K ca) :=
  T.f_is_integer.ok sc_is_integer (fun vs H Q E h => len_is_integer h) (fun cdv A outer s H vs Q E hr h => ⟨t_is_integer K ca, v_is_integer T  hr, p_is_integer T.ct h⟩)
theorem ok_is_mark (T : Tx K mg a d ca) : FnOk P w K mg base CX0 1 (a 1) (d 1) P_is_mark (sp_is_mark K ca) :=
  T.f_is_mark.ok sc_is_mark (fun vs H Q E h => len_is_mark h) (fun cdv A outer s H vs Q E hr h => ⟨t_is_mark K ca, v_is_mark T  hr, p_is_mark T.ct h⟩)
theorem ok_all_marks (T : Tx K mg a d ca) : FnOk P w K mg base CX0 1 (a 2) (d 2) P_all_marks (sp_all_marks K ca) :=
  T.f_all_marks.ok sc_all_marks (fun vs H Q E h => len_all_marks h) (fun cdv A outer s H vs Q E hr h => ⟨t_all_marks K ca, v_all_marks T  hr, p_all_marks T.ct h⟩)
theorem ok_parse_integer (T : Tx K mg a d ca) : FnOk P w K mg base CX0 1 (a 3) (d 3) P_parse_integer (sp_parse_integer K ca) :=
  T.f_parse_integer.ok sc_parse_integer (fun vs H Q E h => len_parse_integer h) (fun cdv A outer s H vs Q E hr h => ⟨t_parse_integer K ca, (v_parse_integer T  hr).nox, p_parse_integer T.ct h⟩)
theorem ok_split_words (T : Tx K mg a d ca) : FnOk P w K mg base CX0 1 (a 4) (d 4) P_split_words (sp_split_words K ca) :=
  T.f_split_words.ok sc_split_words (fun vs H Q E h => len_split_words h) (fun cdv A outer s H vs Q E hr h => ⟨t_split_words K ca, v_split_words T  hr, p_split_words T.ct h⟩)
theorem ok__law_cell (T : Tx K mg a d ca) : FnOk P w K mg base CX0 1 (a 6) (d 6) P__law_cell (sp__law_cell K ca) :=
  T.f__law_cell.ok sc__law_cell (fun vs H Q E h => len__law_cell h) (fun cdv A outer s H vs Q E hr h => ⟨t__law_cell K ca, v__law_cell T  hr, p__law_cell T.ct h⟩)
theorem ok__law_purse (T : Tx K mg a d ca) : FnOk P w K mg base CX0 1 (a 7) (d 7) P__law_purse (sp__law_purse K ca) :=
  T.f__law_purse.ok sc__law_purse (fun vs H Q E h => len__law_purse h) (fun cdv A outer s H vs Q E hr h => ⟨t__law_purse K ca, v__law_purse T  hr, p__law_purse T.ct h⟩)
theorem ok__law_take (T : Tx K mg a d ca) : FnOk P w K mg base CX0 1 (a 8) (d 8) P__law_take (sp__law_take K ca) :=
  T.f__law_take.ok sc__law_take (fun vs H Q E h => len__law_take h) (fun cdv A outer s H vs Q E hr h => ⟨t__law_take K ca, v__law_take T  hr, p__law_take T.ct h⟩)
theorem ok__law_all_marks (T : Tx K mg a d ca) : FnOk P w K mg base CX0 1 (a 9) (d 9) P__law_all_marks (sp__law_all_marks K ca) :=
  T.f__law_all_marks.ok sc__law_all_marks (fun vs H Q E h => len__law_all_marks h) (fun cdv A outer s H vs Q E hr h => ⟨t__law_all_marks K ca, v__law_all_marks T  hr, p__law_all_marks T.ct h⟩)
theorem ok__law_number (T : Tx K mg a d ca) : FnOk P w K mg base CX0 1 (a 13) (d 13) P__law_number (sp__law_number K ca) :=
  T.f__law_number.ok sc__law_number (fun vs H Q E h => len__law_number h) (fun cdv A outer s H vs Q E hr h => ⟨t__law_number K ca, v__law_number T  hr, p__law_number T.ct h⟩)
theorem ok_Stock___str__ (T : Tx K mg a d ca) : FnOk P w K mg base CX0 1 (a 21) (d 21) P_Stock___str__ (sp_Stock___str__ K ca) :=
  T.f_Stock___str__.ok sc_Stock___str__ (fun vs H Q E h => len_Stock___str__ h) (fun cdv A outer s H vs Q E hr h => ⟨t_Stock___str__ K ca, v_Stock___str__ T  hr, p_Stock___str__ T.ct h⟩)
theorem ok_Stock_marks (T : Tx K mg a d ca) : FnOk P w K mg base CX0 1 (a 22) (d 22) P_Stock_marks (sp_Stock_marks K ca) :=
  T.f_Stock_marks.ok sc_Stock_marks (fun vs H Q E h => len_Stock_marks h) (fun cdv A outer s H vs Q E hr h => ⟨t_Stock_marks K ca, v_Stock_marks T  hr, p_Stock_marks T.ct h⟩)
theorem ok_Stock_lengths (T : Tx K mg a d ca) : FnOk P w K mg base CX0 1 (a 23) (d 23) P_Stock_lengths (sp_Stock_lengths K ca) :=
  T.f_Stock_lengths.ok sc_Stock_lengths (fun vs H Q E h => len_Stock_lengths h) (fun cdv A outer s H vs Q E hr h => ⟨t_Stock_lengths K ca, v_Stock_lengths T  hr, p_Stock_lengths T.ct h⟩)
theorem ok_are_stock_marks (T : Tx K mg a d ca) : FnOk P w K mg base CX0 2 (a 5) (d 5) P_are_stock_marks (sp_are_stock_marks K ca) :=
  T.f_are_stock_marks.ok sc_are_stock_marks (fun vs H Q E h => len_are_stock_marks h) (fun cdv A outer s H vs Q E hr h => ⟨t_are_stock_marks K ca, v_are_stock_marks T (ok_is_mark T) hr, p_are_stock_marks T.ct h⟩)
theorem ok__law_mark (T : Tx K mg a d ca) : FnOk P w K mg base CX0 2 (a 10) (d 10) P__law_mark (sp__law_mark K ca) :=
  T.f__law_mark.ok sc__law_mark (fun vs H Q E h => len__law_mark h) (fun cdv A outer s H vs Q E hr h => ⟨t__law_mark K ca, v__law_mark T (ok__law_take T) hr, p__law_mark T.ct h⟩)
theorem ok__law_sorted (T : Tx K mg a d ca) : FnOk P w K mg base CX0 2 (a 12) (d 12) P__law_sorted (sp__law_sorted K ca) :=
  T.f__law_sorted.ok sc__law_sorted (fun vs H Q E h => len__law_sorted h) (fun cdv A outer s H vs Q E hr h => ⟨t__law_sorted K ca, v__law_sorted T (ok__law_all_marks T) hr, p__law_sorted T.ct h⟩)
theorem ok__law_changed (T : Tx K mg a d ca) : FnOk P w K mg base CX0 2 (a 16) (d 16) P__law_changed (sp__law_changed K ca) :=
  T.f__law_changed.ok sc__law_changed (fun vs H Q E h => len__law_changed h) (fun cdv A outer s H vs Q E hr h => ⟨t__law_changed K ca, v__law_changed T (ok__law_take T) hr, p__law_changed T.ct h⟩)
theorem ok__law_marks (T : Tx K mg a d ca) : FnOk P w K mg base CX0 3 (a 11) (d 11) P__law_marks (sp__law_marks K ca) :=
  T.f__law_marks.ok sc__law_marks (fun vs H Q E h => len__law_marks h) (fun cdv A outer s H vs Q E hr h => ⟨t__law_marks K ca, v__law_marks T (ok__law_take T) (ok__law_mark T) hr, p__law_marks T.ct h⟩)
theorem ok__law_read (T : Tx K mg a d ca) : FnOk P w K mg base CX0 3 (a 14) (d 14) P__law_read (sp__law_read K ca) :=
  T.f__law_read.ok sc__law_read (fun vs H Q E h => len__law_read h) (fun cdv A outer s H vs Q E hr h => ⟨t__law_read K ca, v__law_read T (ok__law_sorted T) (ok__law_number T) hr, p__law_read T.ct h⟩)
theorem ok_Stock___init__ (T : Tx K mg a d ca) : FnOk P w K mg base (L2.CX P w) 3 (a 19) (d 19) P_Stock___init__ (sp_Stock___init__ K ca) :=
  T.f_Stock___init__.ok sc_Stock___init__ (fun vs H Q E h => len_Stock___init__ h) (fun cdv A outer s H vs Q E hr h => ⟨t_Stock___init__ K ca E, v_Stock___init__ T (ok_is_integer T) (ok_all_marks T) (ok_are_stock_marks T) (okI_InvalidInteger T) (okI_InvalidMarks T) hr, p_Stock___init__ T.ct h⟩)
theorem ok_Stock_parse (T : Tx K mg a d ca) : FnOk P w K mg base (L2.CX P w) 5 (a 20) (d 20) P_Stock_parse (sp_Stock_parse K ca) :=
  T.f_Stock_parse.okX sc_Stock_parse (fun vs H Q E h => len_Stock_parse h) (fun cdv A outer s H vs Q E hr h => ⟨t_Stock_parse K ca E, v_Stock_parse T (ok_parse_integer T) (ok_split_words T) (ok_are_stock_marks T) (ok_Stock___init__ T) (ok_Stock___str__ T) (okI_InvalidText T) hr, p_Stock_parse T.ct h⟩)
theorem ok__law_told (T : Tx K mg a d ca) : FnOk P w K mg base CX0 6 (a 15) (d 15) P__law_told (sp__law_told K ca) :=
  T.f__law_told.ok sc__law_told (fun vs H Q E h => len__law_told h) (fun cdv A outer s H vs Q E hr h => ⟨t__law_told K ca, v__law_told T (ok_Stock_parse T) (ok_Stock___str__ T) (ok_Stock_marks T) (ok_Stock_lengths T) hr, p__law_told T.ct h⟩)
theorem ok__law_right (T : Tx K mg a d ca) : U.FnG P w K mg base CX0 7 (a 17) (d 17) P__law_right (sp__law_right K ca) :=
  U.okG T.f__law_right sc__law_right (fun vs H Q E h => len__law_right h) (fun cdv A outer s H vs Q E hg hr h => ⟨t__law_right K ca, v__law_right T (ok__law_take T) (ok__law_marks T) (ok__law_sorted T) (ok__law_read T) (ok__law_told T) (ok__law_changed T) (ok_Stock___init__ T) (ok_Stock___str__ T) hg hr, p__law_right T.ct h⟩)
theorem ok_law (T : Tx K mg a d ca) : U.FnG P w K mg base CX0 8 (a 18) (d 18) P_law (sp_law K ca) :=
  U.okG T.f_law sc_law (fun vs H Q E h => len_law h) (fun cdv A outer s H vs Q E hg hr h => ⟨t_law K ca, v_law T (ok__law_cell T) (ok__law_purse T) (ok__law_right T) hg hr, p_law T.ct h⟩)
end
/-! ### words of a line, put together and taken apart -/
theorem tlS (p : List Nat) : sl (SX.S p) = p := by
  show (SX.S p).cps.toList = p
  unfold SX.S; simp

theorem spl_free (s : Nat) : ∀ (l w : List Nat), s ∉ w → ∀ p ∈ spl s w l, s ∉ p
  | [], w, hw, p, hp => by rw [spl_nil, List.mem_singleton] at hp; subst hp; exact hw
  | c :: r, w, hw, p, hp => by
    rw [spl_cons] at hp
    split at hp
    · rcases List.mem_cons.mp hp with e | e
      · subst e; exact hw
      · exact spl_free s r [] (by simp) p e
    · rename_i hc
      refine spl_free s r (w ++ [c]) (fun h => ?_) p hp
      rcases List.mem_append.mp h with h | h
      · exact hw h
      · exact hc (List.mem_singleton.mp h).symm
theorem joinL_cons (s : Nat) (p : List Nat) {ps : List (List Nat)} (h : ps ≠ []) : TL.joinL [s] (p :: ps) = p ++ (s :: TL.joinL [s] ps) := by
  cases ps with
  | nil => exact absurd rfl h
  | cons q r => rfl
theorem join_spl (s : Nat) : ∀ (l w : List Nat), TL.joinL [s] (spl s w l) = w ++ l
  | [], w => by rw [spl_nil]; simp [TL.joinL]
  | c :: r, w => by
    rw [spl_cons]
    split
    · rename_i hc
      rw [joinL_cons s w (spl_ne s r []), join_spl s r [], hc]; simp
    · rw [join_spl s r (w ++ [c])]; simp
abbrev blank : Str := Str.ofString " "
theorem tl_blank : sl blank = [32] := cps_blank
theorem split_free {z w : Str} (h : w ∈ Txt.split z blank) : 32 ∉ sl w := by
  rw [split_S z " " cps_blank (by decide)] at h
  obtain ⟨p, hp, rfl⟩ := List.mem_map.mp h
  have := spl_free 32 (sl z) [] (by simp) p hp
  rwa [show sl (SX.S p) = p from tlS p]
theorem join_split (z : Str) : Txt.join blank (Txt.split z blank) = z := by
  apply sl_inj
  rw [sl_join, split_S z " " cps_blank (by decide), List.map_map]
  have : (spl 32 [] (sl z)).map (sl ∘ SX.S) = spl 32 [] (sl z) := by
    conv => rhs; rw [← List.map_id (spl 32 [] (sl z))]
    exact List.map_congr_left fun p _ => tlS p
  rw [this, tl_blank, join_spl]; rfl
theorem split_joined {ws : List Str} (h : ws ≠ []) (hw : ∀ w ∈ ws, 32 ∉ sl w) : Txt.split (Txt.join blank ws) blank = ws := by
  have e : sl (Txt.join blank ws) = TL.joinL [32] (ws.map sl) := by rw [sl_join, tl_blank]
  rw [split_S _ " " cps_blank (by decide), e]
  unfold spl
  rw [TL.spl_join (by simpa using h) (fun p hp => by
    obtain ⟨w, hw', rfl⟩ := List.mem_map.mp hp
    exact hw w hw'), List.map_map]
  conv => rhs; rw [← List.map_id ws]
  exact List.map_congr_left fun w _ => SX.S_tl w
theorem split_ne (z : Str) : Txt.split z blank ≠ [] := by
  rw [split_S z " " cps_blank (by decide)]
  intro h
  exact spl_ne 32 (sl z) [] (by simpa using h)
theorem split_len (z : Str) : (Txt.split z blank).length ≤ z.length + 1 := by
  rw [split_S z " " cps_blank (by decide), List.length_map, sl_len]
  have := spl_size 32 (sl z) []
  rw [List.length_nil] at this
  omega
theorem split_sum (z : Str) : ((Txt.split z blank).map (·.length)).sum + (Txt.split z blank).length = z.length + 1 := by
  rw [split_S z " " cps_blank (by decide), List.length_map, List.map_map, sl_len]
  have := spl_size 32 (sl z) []
  rw [show (fun x : Str => x.length) ∘ SX.S = fun p : List Nat => p.length from funext fun p => SX.S_len p]
  simpa using this
theorem split_wlen {z w : Str} (h : w ∈ Txt.split z blank) : w.length ≤ z.length := by
  rw [split_S z " " cps_blank (by decide)] at h
  obtain ⟨p, hp, rfl⟩ := List.mem_map.mp h
  rw [SX.S_len, sl_len]
  exact spl_mem hp
theorem split_sok {z w : Str} (hz : sok z) (h : w ∈ Txt.split z blank) : sok w := by
  rw [split_S z " " cps_blank (by decide)] at h
  obtain ⟨p, hp, rfl⟩ := List.mem_map.mp h
  intro c hc
  rw [show sl (SX.S p) = p from tlS p] at hc
  exact spl_sub 32 (P := fun c => c < 1114112) (sl z) [] hz (by simp) p hp c hc
theorem joinL_len (s : List Nat) : ∀ ps : List (List Nat), (TL.joinL s ps).length ≤ (ps.map (·.length)).sum + ps.length * s.length
  | [] => by simp [TL.joinL]
  | [p] => by simp [TL.joinL]
  | p :: q :: r => by
    have ih := joinL_len s (q :: r)
    show (p ++ (s ++ TL.joinL s (q :: r))).length ≤ _
    simp only [List.length_append, List.map_cons, List.sum_cons, List.length_cons, Nat.add_mul, Nat.one_mul] at ih ⊢
    omega
theorem joinL_mem (s : List Nat) {c : Nat} : ∀ ps : List (List Nat), c ∈ TL.joinL s ps → c ∈ s ∨ ∃ p ∈ ps, c ∈ p
  | [], h => by simp [TL.joinL] at h
  | [p], h => .inr ⟨p, List.mem_cons_self, by simpa [TL.joinL] using h⟩
  | p :: q :: r, h => by
    have h : c ∈ p ++ (s ++ TL.joinL s (q :: r)) := h
    simp only [List.mem_append] at h
    rcases h with h | h | h
    · exact .inr ⟨p, List.mem_cons_self, h⟩
    · exact .inl h
    · rcases joinL_mem s (q :: r) h with h | ⟨p', hp, h⟩
      · exact .inl h
      · exact .inr ⟨p', List.mem_cons_of_mem _ hp, h⟩
theorem slen_join (a : Str) (ps : List Str) : (Txt.join a ps).length ≤ (ps.map (·.length)).sum + ps.length * a.length := by
  rw [sl_len, sl_join]
  have := joinL_len (sl a) (ps.map sl)
  rw [List.map_map, List.length_map] at this
  exact this
theorem sok_join {a : Str} {ps : List Str} (ha : sok a) (h : ∀ p ∈ ps, sok p) : sok (Txt.join a ps) := fun c hc => by
  rw [sl_join] at hc
  rcases joinL_mem (sl a) (ps.map sl) hc with q | ⟨p, hp, q⟩
  · exact ha c q
  · obtain ⟨w, hw, rfl⟩ := List.mem_map.mp hp
    exact h w hw c q
/-! ### digits -/
def isDg (c : Nat) : Bool := decide (48 ≤ c) && decide (c ≤ 57)
def nums : List Str := (List.range 30).map fun i => Str.ofString (toString ((i + 1 : Nat) : Int))
/-- the number of a text 1 .. 30 -/
def pI (w : Str) : Option Int := (List.range 30).findSome? fun i => if w = Str.ofString (toString ((i + 1 : Nat) : Int)) then some ((i + 1 : Nat) : Int) else none
theorem findSome_range {α : Type} {n : Nat} {f : Nat → Option α} {a : α} (h : (List.range n).findSome? f = some a) : ∃ i, i < n ∧ f i = some a := by
  obtain ⟨l1, x, l2, h1, h2, _⟩ := List.findSome?_eq_some_iff.mp h
  exact ⟨x, by have : x ∈ List.range n := by rw [h1]; simp
               exact List.mem_range.mp this, h2⟩
theorem pI_some {w : Str} {n : Int} (h : pI w = some n) : 1 ≤ n ∧ n ≤ 30 ∧ w = Str.ofString (toString n) := by
  obtain ⟨i, hi, e⟩ := findSome_range h
  split at e
  · rename_i hw
    cases e
    exact ⟨by omega, by omega, hw⟩
  · cases e
theorem num_inj : ∀ i < 30, ∀ j < 30, Str.ofString (toString ((i + 1 : Nat) : Int)) = Str.ofString (toString ((j + 1 : Nat) : Int)) → i = j := by decide +kernel
theorem pI_num {n : Int} (h1 : 1 ≤ n) (h2 : n ≤ 30) : pI (Str.ofString (toString n)) = some n := by
  obtain ⟨i, rfl⟩ : ∃ i : Nat, n = ((i + 1 : Nat) : Int) := ⟨(n - 1).toNat, by omega⟩
  have hi : i < 30 := by omega
  cases e : pI (Str.ofString (toString ((i + 1 : Nat) : Int))) with
  | none =>
    unfold pI at e
    rw [List.findSome?_eq_none_iff] at e
    have := e i (List.mem_range.mpr hi)
    rw [if_pos rfl] at this
    cases this
  | some m =>
    obtain ⟨q1, q2, q3⟩ := pI_some e
    obtain ⟨j, rfl⟩ : ∃ j : Nat, m = ((j + 1 : Nat) : Int) := ⟨(m - 1).toNat, by omega⟩
    rw [num_inj i hi j (by omega) q3]
theorem pI_none {w : Str} (h : pI w = none) (n : Int) (h1 : 1 ≤ n) (h2 : n ≤ 30) : w ≠ Str.ofString (toString n) := fun e => by
  rw [e, pI_num h1 h2] at h; cases h

local macro_rules | `(tactic| walk_at "ev") => `(tactic| simp -implicitDefEqProofs only [Fx.v_fld, Fx.v_setF, Fx.v_meth, Fx.v_methA, Fx.v_sp1, Fx.v_mk, Fx.v_mkK, Fx.v_mkK1, Fx.v_cmeth, Fx.v_runI1, Fx.v_runIx, Fx.v_fmt, Fx.v_js0, Fx.v_js, Fx.v_lrg, Fx.v_lrg1, Fx.v_callK, Fx.v_callK1, Fx.bE_ok, Fx.bE_xc, Fx.bS_nx, Fx.bS_rt, Fx.bS_bk, Fx.bS_ct, Fx.bS_xc, Fx.eS_ok, Fx.eS_xc, Fx.v_seq, Fx.v_next, Fx.v_break, Fx.v_cont, Fx.v_c, Fx.v_var, Fx.kVar_val, Fx.kVar_own, Fx.kVar_oob, Fx.v_op, Fx.v_op1, Fx.v_op2, Fx.v_un, Fx.v_un1, Fx.v_not, Fx.v_not1, Fx.v_and, Fx.v_andT, Fx.v_andF, Fx.v_or, Fx.v_orT, Fx.v_orF, Fx.v_if, Fx.v_ifT, Fx.v_ifF, Fx.v_chain, Fx.v_ch, Fx.v_ch0, Fx.v_ch1T, Fx.v_ch1F, Fx.v_ch2, Fx.v_isi, Fx.v_isiT, Fx.v_isi1, Fx.v_isi2, Fx.ty_non, Fx.ty_bl, Fx.ty_int, Fx.ty_str, Fx.ty_lst, Fx.ty_tup, Fx.ty_dct, Fx.v_cb, Fx.bA_ok, Fx.bA_xc, Fx.v_nil, Fx.v_cons, Fx.v_cons1, Fx.v_cons1x, Fx.v_cons2, Fx.v_cons2x, Fx.nop_tr, Fx.nop_fs, Fx.nop_pk, Fx.v_lst, Fx.v_tup, Fx.v_dnew, Fx.v_call, Fx.v_call1, Fx.v_m1, Fx.v_m1a, Fx.v_m1b, Fx.v_part, Fx.v_part1, Fx.v_nopart, Fx.v_sl, Fx.v_sl0, Fx.v_sl1, Fx.v_sl2, Fx.bO_ok, Fx.v_rev, Fx.v_expr, Fx.v_expr1, Fx.v_ifs, Fx.v_ifsT, Fx.v_ifsF, Fx.v_ret, Fx.v_retT, Fx.v_retS, Fx.v_retN, Fx.v_retV, Fx.v_retV1, Fx.v_retV2, Fx.v_asg, Fx.v_asgT, Fx.v_asgS, Fx.v_asg2, Fx.v_gn, Fx.v_gsNil, Fx.v_gsCons, Fx.v_gs, Fx.v_par, Fx.v_par1, Fx.v_aug, Fx.v_aug1, Fx.v_aug2, Fx.v_own, Fx.v_own1, Fx.v_frz, Fx.v_frz0, Fx.v_frz1, Fx.v_frz2, Fx.v_frz3, Fx.v_app, Fx.v_ado, Fx.v_ado1, Fx.v_xf, Fx.v_set, Fx.v_for, Fx.v_for1, Fx.v_forx, Fx.v_iter, Fx.v_iter1, Fx.v_iter1s, Fx.v_iter2, Fx.it_str, Fx.it_lst, Fx.it_tup, Fx.v_rng1, Fx.v_enum, Fx.v_enumL, Fx.v_enumT, Fx.v_raise, Fx.v_raise1, Fx.v_try, Fx.v_tryN, Fx.v_tryX, Fx.v_run1, Fx.v_run2, Fx.v_run3, Fx.v_r0, Fx.v_r1, Fx.v_r2, Fx.v_r3, Fx.v_r4, Fx.v_r5, Fx.v_nx, Fx.v_nx1, Fx.d_eq_str, Fx.d_eq_int, Fx.d_add_int, Fx.d_sub, Fx.d_cmp, Fx.d_len_lst, Fx.d_len_tup, Fx.d_len_fro, Fx.d_nil, Fx.d_max, Fx.d_min, Fx.d_sl_lst, Fx.d_list, Fx.d_listT, Fx.d_tuple, Fx.d_isN, Fx.d_isB, List.map_cons, List.map_nil, List.length_cons, List.length_nil, List.replicate, List.cons_append, List.nil_append, List.append_nil, List.getElem?_cons_zero, List.getElem?_cons_succ, List.set, Nat.reduceAdd, Nat.reduceSub, Nat.zero_add, if_true, if_false, reduceIte, Bool.not_true, Bool.not_false, Bool.and_true, Bool.true_and, Bool.and_self, Bool.false_xor, Bool.true_xor, Bool.false_eq_true, isT, Fx.tyd_non, Fx.tyd_bl, Fx.tyd_int, Fx.tyd_str, Fx.tyd_lst, Fx.tyd_tup, Fx.tyd_dct, reduceCtorEq, decide_true, decide_false, Bool.or_false, Bool.or_true, Bool.false_or, Bool.true_or, Bool.and_false, Bool.false_and, List.any_cons, List.any_nil])
theorem py_istr {S : Sto} {d : D} {z : Str} (h : Py S d (.str z)) : d = .str z := by
  rcases py_inv h with ⟨e, _⟩ | ⟨b, e, _⟩ | ⟨b, e, _⟩ | ⟨b, e, r⟩ | ⟨ps, ds, e, _⟩ | ⟨ps, ds, e, _⟩ | ⟨e, _⟩ <;> cases e
  exact r
theorem py_iint {S : Sto} {d : D} {z : Int} (h : Py S d (.int z)) : d = .int z := by
  rcases py_inv h with ⟨e, _⟩ | ⟨b, e, _⟩ | ⟨b, e, r⟩ | ⟨b, e, r⟩ | ⟨ps, ds, e, _⟩ | ⟨ps, ds, e, _⟩ | ⟨e, _⟩ <;> cases e
  exact r
theorem py_itup {S : Sto} {d : D} {ps : List PyData} (h : Py S d (.tuple ps)) : ∃ ds, d = .tup ds ∧ PyAll S ds ps := by
  rcases py_inv h with ⟨e, _⟩ | ⟨b, e, _⟩ | ⟨b, e, r⟩ | ⟨b, e, r⟩ | ⟨ps, ds, e, _⟩ | ⟨ps, ds, e, h1, h2⟩ | ⟨e, _⟩ <;> cases e
  exact ⟨ds, h2, h1⟩
theorem lim_of {n : Nat} (h : n ≤ 200000) : n ≤ lim := Nat.le_trans h (by decide)
theorem eq_str (z : Str) (a : String) {l : List Nat} (h : sl (Str.ofString a) = l) : decide (z = Str.ofString a) = decide (sl z = l) := by
  have := eq_fix z a h
  rw [← this]
  simp
theorem pick0 {α : Type} (c : α) (r : List α) : atI (c :: r) 0 = some c := by
  unfold atI ixN
  rw [if_pos (by decide), if_pos (by show (0 : Int) < ((c :: r).length : Int); rw [List.length_cons]; omega)]
  rfl
theorem pick1 {α : Type} (b c : α) (r : List α) : atI (b :: c :: r) 1 = some c := by
  unfold atI ixN
  rw [if_pos (by decide), if_pos (by show (1 : Int) < ((b :: c :: r).length : Int); rw [List.length_cons, List.length_cons]; omega)]
  rfl
theorem pick_cons {α : Type} {b : α} {r : List α} {i : Nat} {x : α} (h : r[i]? = some x) : atI (b :: r) ((i : Nat) + 1 : Int) = some x := by
  have hi := (List.getElem?_eq_some_iff.mp h).1
  unfold atI ixN
  rw [if_pos (by omega), if_pos (by rw [List.length_cons]; omega)]
  show (b :: r)[((i : Int) + 1).toNat]? = _
  rw [show ((i : Int) + 1).toNat = i + 1 by omega, List.getElem?_cons_succ]
  exact h
theorem pick_at {α : Type} {r : List α} {i : Nat} {x : α} (h : r[i]? = some x) : atI r (i : Nat) = some x := by
  have hi := (List.getElem?_eq_some_iff.mp h).1
  unfold atI ixN
  rw [if_pos (by omega), if_pos (by omega)]
  exact h
theorem rng_len (lo : Int) (n : Nat) : (rngD lo n).length = n := by unfold rngD; rw [List.length_map, List.length_range]
theorem rng_at {lo : Int} {n i : Nat} (h : i < n) : (rngD lo n)[i]? = some (.int (lo + (i : Nat))) := by
  unfold rngD; rw [List.getElem?_map, List.getElem?_range h]; rfl
/-- a comprehension that changes the store: what holds of items and store, turn by turn -/
theorem fold_inv {g : Gd} {step : StepC} {ds : List D} (I : Nat → List D → Sto → Prop) (hg : ∀ i acc S, I i acc S → gOk g S)
    (hs : ∀ i d acc S, ds[i]? = some d → I i acc S → ∃ acc' S', step d acc S = some (acc', S') ∧ I (i + 1) acc' S') {acc : List D} {S : Sto} (h0 : I 0 acc S) : ∃ acc' S', foldC g step ds acc S = some (acc', S') ∧ I ds.length acc' S' := by
  have key : ∀ (n i : Nat) (acc : List D) (S : Sto), n = ds.length - i → i ≤ ds.length → I i acc S → ∃ acc' S', foldC g step (ds.drop i) acc S = some (acc', S') ∧ I ds.length acc' S' := by
    intro n
    induction n with
    | zero =>
      intro i acc S hn hi h
      obtain rfl : i = ds.length := by omega
      rw [List.drop_length]
      unfold foldC
      rw [if_pos (hg _ _ _ h)]
      exact ⟨acc, S, rfl, h⟩
    | succ n ih =>
      intro i acc S hn hi h
      have hlt : i < ds.length := by omega
      rw [List.drop_eq_getElem_cons hlt]
      obtain ⟨acc', S', e1, e2⟩ := hs i ds[i] acc S (List.getElem?_eq_getElem hlt) h
      unfold foldC
      rw [if_pos (hg _ _ _ h), e1]
      exact ih (i + 1) acc' S' (by omega) hlt e2
  have := key ds.length 0 acc S (by omega) (Nat.zero_le _) h0
  rwa [List.drop_zero] at this
theorem lc_inv {it : FI} {step : Ev → StepC} {vs : List Nat} {ρ : Ev} {S S1 : Sto} {ds : List D} {g : Gd} (hi : it ρ S = .ok ds g S1) (I : Nat → List D → Sto → Prop) (hg : ∀ i acc S, I i acc S → gOk g S)
    (hs : ∀ i d acc S, ds[i]? = some d → I i acc S → ∃ acc' S', step (wipeE ρ vs) d acc S = some (acc', S') ∧ I (i + 1) acc' S') (h0 : I 0 [] S1) : ∃ acc' S', fLcG it step vs ρ S = .ok (.lst acc') .fs S' ∧ I ds.length acc' S' := by
  obtain ⟨acc', S', e1, e2⟩ := fold_inv I hg hs h0
  refine ⟨acc', S', ?_, e2⟩
  unfold fLcG
  rw [hi]
  dsimp only
  rw [e1]
theorem step_one {set : FG} {te : FE} {ρ ρ1 : Ev} {d y : D} {acc : List D} {S S2 : Sto} {f : Fl} (h1 : set d ρ S = some ρ1) (h2 : te ρ1 S = .ok y f S2) (hf : f.nop = true) (hl : acc.length < lim) : step1 set (fC (.bl true)) te ρ d acc S = some (acc ++ [y], S2) := by
  unfold step1
  rw [h1]; dsimp only
  rw [v_c]; dsimp only
  rw [h2]; dsimp only
  rw [hf, decide_eq_true hl]; rfl
theorem strsD_map (zs : List Str) : strsD (zs.map D.str) = some zs := by
  induction zs with
  | nil => rfl
  | cons z zs ih => simp only [List.map_cons, strsD, ih, Option.map_some]
theorem bools_py {S : Sto} {f : PyData → Bool} : ∀ {ds : List D} {ps : List PyData}, PyAll S ds ps → bools (ds.map fun e => match toP S e with | some q => D.bl (f q) | none => .non) = some (ps.map f)
  | [], ps, h4 => by
    have := h4.len
    cases ps with
    | nil => rfl
    | cons => simp at this
  | x :: ds, ps, h4 => by
    have hl := h4.len
    cases ps with
    | nil => simp at hl
    | cons q ps =>
      unfold PyAll at h4
      simp only [treeAll] at h4
      split at h4
      · rename_i q' ps' e1 e2
        cases h4
        simp only [List.map_cons, bools]
        rw [show toP S x = some q from e1]
        simp only [bools]
        rw [bools_py (ds := ds) e2]
        rfl
      · cases h4
/-- [f(x) for x in v] where f looks at data -/
theorem lc_py {S : Sto} {d : D} {p : PyData} {ps : List PyData} {F : FF} {f : PyData → Bool} {ρ : Ev} {i j : Nat} (h : Py S d p) (hp : p = .list ps ∨ p = .tuple ps) (hw : PyData.weightAll ps ≤ 200000) (hF : ∀ e q, Py S e q → q.weight ≤ 200000 → F [e] S = .ok (.bl (f q)) .tr S)
    (hi : ρ[i]? = some (.val d)) (hj : ∀ e, ((wipeE ρ [j]).set j (.val e))[j]? = some (.val e)) : ∃ ds, sqOf S d = some ds ∧ PyAll S ds ps ∧ fLc (fIter (fVar i)) (gN j) (fC (.bl true)) (fCall F [] (fCons (fVar j) fNil)) [j] ρ S = .ok (.lst (ds.map fun e => match toP S e with | some q => D.bl (f q) | none => .non)) .fs S := by
  obtain ⟨ds, g, h1, h2, h3, h4⟩ := py_sq h hp
  refine ⟨ds, h1, h4, lc_map (S1 := S) (g := g) ?_ h3 (by rw [h4.len]; exact lim_of (Nat.le_trans (wt_len ps) hw)) fun e he => ?_⟩
  · rw [v_iter, Fx.v_var, hi, kVar_val, v_iter1, h2]; rfl
  · obtain ⟨q, hq, hp⟩ := h4.mem he
    refine ⟨_, .tr, rfl, ?_, rfl⟩
    rw [v_call, v_cons, Fx.v_var, hj e]
    walk_at "ev"
    rw [hF e q hp (by have := wt_mem hq; omega), show toP S e = some q from hp]
def tokV (t : Tk) : D := .tup [.str t.1, .str t.2]
theorem py_tok (S : Sto) (t : Tk) : Py S (tokV t) (tokD t) := py_tup (.cons (py_str S _) (.cons (py_str S _) .nil))
theorem py_toks (S : Sto) : ∀ ts : List Tk, PyAll S (ts.map tokV) (ts.map tokD)
  | [] => .nil
  | t :: ts => .cons (py_tok S t) (py_toks S ts)
theorem py_text (S : Sto) (ts : List Tk) : Py S (.lst (ts.map tokV)) (textD ts) := py_lst (py_toks S ts)
theorem py_textT (S : Sto) (ts : List Tk) : Py S (.tup (ts.map tokV)) (.tuple (ts.map tokD)) := py_tup (py_toks S ts)
theorem sign_pick {a : String} {l : List Nat} (hl : sl (Str.ofString a) = l) {r : Int} {S : Sto} (h0 : 0 ≤ r) (h1 : r < l.length) (hz : l.length ≤ 1000) : ∃ c, c ∈ l ∧ dIx (.str (Str.ofString a)) (.int r) S = .ok (.str ⟨#[c]⟩) .tr S := by
  obtain ⟨c, e, hm⟩ := pick (xs := sl (Str.ofString a)) h0 (by rw [hl]; exact h1)
  refine ⟨c, by rw [← hl]; exact hm, d_ix_str ?_ e⟩
  rw [sl_len, hl]; exact Nat.le_trans hz (by decide)
theorem two_mark {a b : Nat} (ha : a ∈ [35, 124, 47]) (hb : b ∈ [48, 49, 50, 51]) : isMark (⟨#[a]⟩ ++ ⟨#[b]⟩) = true := by
  have e : (⟨#[a]⟩ ++ ⟨#[b]⟩ : Str).cps.toList = [a, b] := sl_app ⟨#[a]⟩ ⟨#[b]⟩
  rw [isMark_two e, decide_eq_true ha, decide_eq_true hb]; rfl
theorem letters_word {zs : List Str} (h : ∀ z ∈ zs, ∃ c, z = ⟨#[c]⟩ ∧ letter c = true) (h1 : 1 ≤ zs.length) (h2 : zs.length ≤ 30) : isWord (Txt.join "" zs) = true ∧ (Txt.join "" zs).length = zs.length := by
  have hl : (Txt.join "" zs).length = zs.length := by
    rw [slen_join0]
    have : ∀ l : List Str, (∀ z ∈ l, ∃ c, z = ⟨#[c]⟩ ∧ letter c = true) → (l.map (·.length)).sum = l.length := by
      intro l
      induction l with
      | nil => intro _; rfl
      | cons z l ih =>
        intro h
        obtain ⟨c, rfl, _⟩ := h z List.mem_cons_self
        rw [List.map_cons, List.sum_cons, ih fun w hw => h w (List.mem_cons_of_mem _ hw), List.length_cons]
        show 1 + l.length = _
        omega
    exact this zs h
  refine ⟨?_, hl⟩
  unfold isWord
  rw [hl, decide_eq_true h1, decide_eq_true h2, Bool.true_and, Bool.true_and, List.all_eq_true]
  intro c hc
  have hc : c ∈ sl (Txt.join "" zs) := hc
  rw [sl_join] at hc
  have hc : c ∈ TL.joinL [] (zs.map sl) := hc
  rw [joinL_nil, List.mem_flatten] at hc
  obtain ⟨l, hl, hc⟩ := hc
  obtain ⟨p, hp, rfl⟩ := List.mem_map.mp hl
  obtain ⟨c', rfl, h'⟩ := h p hp
  have : c = c' := by simpa [sl] using hc
  rw [this]; exact h'
theorem good_snoc {ts : List Tk} {t : Tk} (h : GoodT ts) (hm : isMark t.1 = true) (hw : isWord t.2 = true) (h0 : ts = [] → (sl t.1).head? = some 35) : GoodT (ts ++ [t]) := by
  refine ⟨fun u hu => ?_, fun u hu => ?_⟩
  · rcases List.mem_append.mp hu with q | q
    · exact h.1 u q
    · rw [List.mem_singleton.mp q]; exact ⟨hm, hw⟩
  · cases ts with
    | nil => cases hu; exact h0 rfl
    | cons v vs => cases hu; exact h.2 _ rfl
def Box (S : Sto) (k n : Nat) : Prop := ∃ x y z : Int, S[k]? = some (.lst [.int x, .int y, .int z]) ∧ 0 ≤ x ∧ 0 ≤ y ∧ y < 2147483629 ∧ 0 ≤ z ∧ z ≤ n
/-- but for the cell k the store has grown -/
def Fk (k : Nat) (S S' : Sto) : Prop := S.length ≤ S'.length ∧ ∀ j c, j ≠ k → S[j]? = some c → S'[j]? = some c
theorem Fk.refl (k : Nat) (S : Sto) : Fk k S S := ⟨Nat.le_refl _, fun _ _ _ h => h⟩
theorem Fk.trans {k : Nat} {S S1 S2 : Sto} (a : Fk k S S1) (b : Fk k S1 S2) : Fk k S S2 := ⟨Nat.le_trans a.1 b.1, fun j c n h => b.2 j c n (a.2 j c n h)⟩
theorem Fk.set (k : Nat) (S : Sto) (c : Ce) : Fk k S (S.set k c) := ⟨by rw [List.length_set]; exact Nat.le_refl _, fun j e n h => by rw [List.getElem?_set_ne (Ne.symm n)]; exact h⟩
theorem Box.lt {S : Sto} {k n : Nat} (h : Box S k n) : k < S.length := by
  obtain ⟨x, y, z, e, _⟩ := h
  exact (List.getElem?_eq_some_iff.mp e).1
theorem Box.le {S : Sto} {k n m : Nat} (h : Box S k n) (e : n ≤ m) : Box S k m := by
  obtain ⟨x, y, z, h1, h2, h3, h4, h5, h6⟩ := h
  exact ⟨x, y, z, h1, h2, h3, h4, h5, by omega⟩
theorem f_is_mark {S : Sto} {d : D} {p : PyData} (h : Py S d p) (hw : p.weight ≤ 200000) : F_is_mark [d] S = .ok (.bl (markD p)) .tr S := by
  unfold F_is_mark b_is_mark
  walk_at "ev"
  rw [py_ty h]
  cases p with
  | str z =>
    cases py_istr h
    rw [wt_str] at hw
    walk_at "ev"
    show _ = RE.ok (.bl (isMark z)) _ _
    rw [eq_str z " " cps_blank]
    by_cases h1 : sl z = [32]
    · have e : isMark z = true := by unfold isMark; rw [show z.cps.toList = [32] from h1]; rfl
      rw [decide_eq_true h1, e]; walk_at "ev"
    · rw [decide_eq_false h1]
      walk_at "ev"
      rw [d_len_str (lim_of hw)]
      walk_at "ev"
      by_cases h2 : z.length = 2
      · have hl : (sl z).length = 2 := h2
        obtain ⟨a, b, hz⟩ : ∃ a b, sl z = [a, b] := by
          match hs : sl z, hl with
          | [a, b], _ => exact ⟨a, b, rfl⟩
        rw [decide_eq_true (show (z.length : Int) = 2 by omega)]
        walk_at "ev"
        rw [d_ix_str (lim_of hw) (show atI (sl z) 0 = some a by rw [hz]; exact pick0 _ _)]
        walk_at "ev"
        rw [d_in_str (c := a) rfl, isMark_two hz]
        walk_at "ev"
        rw [show sl (Str.ofString "#|/") = [35, 124, 47] from cps_kinds]
        by_cases h3 : a ∈ [35, 124, 47]
        · rw [decide_eq_true h3]
          walk_at "ev"
          rw [d_ix_str (lim_of hw) (show atI (sl z) 1 = some b by rw [hz]; exact pick1 _ _ _)]
          walk_at "ev"
          rw [d_in_str (c := b) rfl, show sl (Str.ofString "0123") = [48, 49, 50, 51] from cps_digits]
          walk_at "ev"
        · rw [decide_eq_false h3]
          walk_at "ev"
      · rw [decide_eq_false (show ¬ (z.length : Int) = 2 by omega), isMark_other h1 h2]
        walk_at "ev"
  | _ => walk_at "ev"; rfl
theorem f_cell {ns : List Int} {k : Int} {S : Sto} (h0 : 0 ≤ k) (h1 : k ≤ 1000) : ∃ n, F__law_cell [.fro true (intsD ns), .int k] S = .ok (.int n) .tr S := by
  unfold F__law_cell b__law_cell
  walk_at "ev"
  by_cases hk : k < (intsD ns).length
  · rw [decide_eq_true hk]
    walk_at "ev"
    obtain ⟨v, e, hm⟩ := pick h0 hk
    unfold intsD at hm
    obtain ⟨n, _, rfl⟩ := List.mem_map.mp hm
    rw [d_ix_fro e]
    walk_at "ev"
    exact ⟨n, rfl⟩
  · rw [decide_eq_false hk]
    walk_at "ev"
    rw [d_mul (.inl ⟨by decide, by decide⟩)]
    walk_at "ev"
    exact ⟨_, rfl⟩
theorem f_purse {c : Int} {S : Sto} : ∃ ds, F__law_purse [.int c] S = .ok (.lst ds) .fs S ∧ ∃ x y : Int, ds = [.int x, .int y, .int 0] ∧ 0 ≤ x ∧ 0 ≤ y ∧ y < 2147483629 := by
  unfold F__law_purse b__law_purse
  walk_at "ev"
  rw [d_pow ⟨by decide, by decide, by decide⟩]
  walk_at "ev"
  rw [d_mod (by decide)]
  walk_at "ev"
  rw [d_lst (by show 3 ≤ lim; decide)]
  walk_at "ev"
  refine ⟨_, rfl, _, _, rfl, ?_, Int.emod_nonneg _ (by decide), Int.emod_lt_of_pos _ (by decide)⟩
  split <;> omega
theorem f_take {S : Sto} {k n : Nat} {m : Int} (hb : Box S k n) (hn : n ≤ 1000000) (hm : 0 < m) (hm2 : m ≤ 100000000) : ∃ r S', F__law_take [.cel k, .int m] S = .ok (.int r) .tr S' ∧ 0 ≤ r ∧ r < m ∧ Box S' k (n + 1) ∧ Fk k S S' := by
  obtain ⟨x, y, z, hs, h1, h2, h3, h4, h5⟩ := hb
  have hk : k < S.length := (List.getElem?_eq_some_iff.mp hs).1
  unfold F__law_take b__law_take
  walk_at "ev"
  rw [d_ix_cel hs (pick0 _ _)]
  walk_at "ev"
  by_cases hx : 0 < x
  · rw [decide_eq_true hx]
    walk_at "ev"
    rw [d_ix_cel hs (pick0 _ _)]
    walk_at "ev"
    rw [d_mod hm]
    walk_at "ev"
    rw [d_ix_cel hs (pick0 _ _)]
    walk_at "ev"
    rw [d_fdiv ⟨hm, by omega⟩]
    walk_at "ev"
    rw [v_setC rfl rfl hs]
    walk_at "ev"
    rw [v_setC2 (j := 0) rfl hs rfl]
    walk_at "ev"
    refine ⟨_, _, rfl, Int.emod_nonneg _ (by omega), Int.emod_lt_of_pos _ hm, ⟨x / m, y, z, by rw [List.getElem?_set_self hk], Int.ediv_nonneg h1 (by omega), h2, h3, h4, by omega⟩, Fk.set _ _ _⟩
  · rw [decide_eq_false hx]
    walk_at "ev"
    rw [d_ix_cel hs (show atI [D.int x, .int y, .int z] 2 = some (.int z) from rfl)]
    walk_at "ev"
    rw [v_setC rfl rfl hs]
    walk_at "ev"
    rw [v_setC2 (j := 2) rfl hs rfl]
    walk_at "ev"
    have hs' : (S.set k (.lst [.int x, .int y, .int (z + 1)]))[k]? = some (.lst [.int x, .int y, .int (z + 1)]) := by rw [List.getElem?_set_self hk]
    rw [d_ix_cel hs' (show atI [D.int x, .int y, .int (z + 1)] 1 = some (.int y) from rfl)]
    walk_at "ev"
    rw [d_ix_cel hs' (show atI [D.int x, .int y, .int (z + 1)] 2 = some (.int (z + 1)) from rfl)]
    walk_at "ev"
    rw [d_mul (.inl ⟨by decide, by decide⟩)]
    walk_at "ev"
    rw [d_pow ⟨by decide, by decide, by omega⟩]
    walk_at "ev"
    rw [d_mod (by decide)]
    walk_at "ev"
    rw [d_ix_cel hs' (show atI [D.int x, .int y, .int (z + 1)] 2 = some (.int (z + 1)) from rfl)]
    walk_at "ev"
    rw [d_mul (.inl ⟨by decide, by decide⟩)]
    walk_at "ev"
    have b1 := Int.emod_nonneg ((y + 7919 * (z + 1) + 145) ^ (5 : Int).toNat) (show (2147483647 : Int) ≠ 0 by decide)
    have b2 := Int.emod_lt_of_pos ((y + 7919 * (z + 1) + 145) ^ (5 : Int).toNat) (show (0 : Int) < 2147483647 by decide)
    rw [d_pow ⟨by decide, by decide, by omega⟩]
    walk_at "ev"
    rw [d_mod (by decide)]
    walk_at "ev"
    rw [d_fdiv ⟨by decide, by decide⟩]
    walk_at "ev"
    rw [d_mod hm]
    walk_at "ev"
    exact ⟨_, _, rfl, Int.emod_nonneg _ (by omega), Int.emod_lt_of_pos _ hm, ⟨x, y, z + 1, hs', h1, h2, h3, by omega, by omega⟩, Fk.set _ _ _⟩
def allMarks : List Str := [" ", "#0", "#1", "#2", "#3", "|0", "|1", "|2", "|3", "/0", "/1", "/2", "/3"]
theorem f_all_marks {S : Sto} : F__law_all_marks [] S = .ok (.lst (allMarks.map D.str)) .fs S := by
  unfold F__law_all_marks b__law_all_marks
  walk_at "ev"
  rw [d_lst (by decide)]
  walk_at "ev"
  rfl
theorem f_mark {S : Sto} {k n : Nat} (hb : Box S k n) (hn : n ≤ 900000) : ∃ z S', F__law_mark [.cel k] S = .ok (.str z) .tr S' ∧ isMark z = true ∧ Box S' k (n + 3) ∧ Fk k S S' := by
  unfold F__law_mark b__law_mark
  walk_at "ev"
  obtain ⟨r, S1, e1, r0, r1, b1, f1⟩ := f_take (m := 3) hb (by omega) (by decide) (by decide)
  rw [e1]
  walk_at "ev"
  by_cases hr : r = 0
  · rw [decide_eq_true hr]
    walk_at "ev"
    exact ⟨_, _, rfl, by decide +kernel, b1.le (by omega), f1⟩
  · rw [decide_eq_false hr]
    walk_at "ev"
    obtain ⟨r2, S2, e2, p0, p1, b2, f2⟩ := f_take (m := 3) b1 (by omega) (by decide) (by decide)
    rw [e2]
    walk_at "ev"
    obtain ⟨c, hc, ec⟩ := sign_pick (S := S2) cps_kinds p0 p1 (by decide)
    rw [ec]
    walk_at "ev"
    obtain ⟨r3, S3, e3, q0, q1, b3, f3⟩ := f_take (m := 4) b2 (by omega) (by decide) (by decide)
    rw [e3]
    walk_at "ev"
    obtain ⟨i, hi, ei⟩ := sign_pick (S := S3) cps_digits q0 q1 (by decide)
    rw [ei]
    walk_at "ev"
    rw [d_add_str (a := ⟨#[c]⟩) (b := ⟨#[i]⟩) (show 1 + 1 ≤ lim by decide)]
    walk_at "ev"
    exact ⟨_, _, rfl, two_mark hc hi, b3, (f1.trans f2).trans f3⟩

/-! ### the writing of a stock -/
abbrev line : Str := Str.ofString "_"
abbrev colon : Str := Str.ofString ":"
def wd (z : Str) : Str := if z = blank then line else z
def uw (z : Str) : Str := if z = line then blank else z
def hasP (ms : List Str) : Bool := ms.any fun z => decide ((sl z).head? = some 35)
def sortM (ms : List Str) : List Str := allMarks.filter fun z => decide (z ∈ ms)
abbrev numS (n : Int) : Str := Str.ofString (toString n)
def wordsOf (ms : List Str) (lo hi : Int) : List Str := ms.map wd ++ [colon, numS lo, numS hi]
def shownS (ms : List Str) (lo hi : Int) : Str := Txt.join blank (wordsOf ms lo hi)
def readW (us : List Str) (a b c : Str) : Option (List Str × Int × Int) :=
  if a = colon then (match pI b, pI c with
    | some lo, some hi => if hi < lo then none else if us.map uw = sortM (us.map uw) ∧ hasP (us.map uw) = true then some (us.map uw, lo, hi) else none
    | _, _ => none) else none
def tailW (z : Str) (ms : List Str) (ol oh : Option Int) : Option (List Str × Int × Int) := match ol, oh with
  | some lo, some hi => if hi < lo then none else if (ms.all isMark && hasP ms) = true then (if shownS (sortM ms) lo hi = z then some (sortM ms, lo, hi) else none) else none
  | _, _ => none
def parseW (z : Str) (us : List Str) (a b c : Str) : Option (List Str × Int × Int) :=
  if 10 ∈ sl z ∨ Str.ofString "" ∈ us ++ [a, b, c] then none else if a = colon then tailW z (us.map uw) (pI b) (pI c) else none
theorem allM_mark : ∀ z ∈ allMarks, isMark z = true := by decide +kernel
theorem allM_wd : ∀ z ∈ allMarks, uw (wd z) = z ∧ 32 ∉ sl (wd z) ∧ 10 ∉ sl (wd z) ∧ wd z ≠ Str.ofString "" ∧ (wd z).length ≤ 2 := by decide +kernel
theorem num_ok : ∀ i < 30, 32 ∉ sl (numS ((i + 1 : Nat) : Int)) ∧ 10 ∉ sl (numS ((i + 1 : Nat) : Int)) ∧ numS ((i + 1 : Nat) : Int) ≠ Str.ofString "" ∧ (numS ((i + 1 : Nat) : Int)).length ≤ 2 := by decide +kernel
theorem num_ok' {n : Int} (h1 : 1 ≤ n) (h2 : n ≤ 30) : 32 ∉ sl (numS n) ∧ 10 ∉ sl (numS n) ∧ numS n ≠ Str.ofString "" ∧ (numS n).length ≤ 2 := by
  obtain ⟨i, rfl⟩ : ∃ i : Nat, n = ((i + 1 : Nat) : Int) := ⟨(n - 1).toNat, by omega⟩
  exact num_ok i (by omega)
theorem colon_ok : 32 ∉ sl colon ∧ 10 ∉ sl colon ∧ colon ≠ Str.ofString "" := by decide +kernel
theorem sortM_all {ms : List Str} {z : Str} (h : z ∈ sortM ms) : z ∈ allMarks := (List.mem_filter.mp h).1
theorem allM_mem : ∀ z : Str, isMark z = true → z ∈ allMarks := by
  intro z h
  rcases mark_forms h with e | ⟨k, i, e, hk, hi⟩
  · have : z = blank := sl_inj (by rw [show sl z = [32] from e]; exact cps_blank.symm)
    rw [this]; decide +kernel
  · have ez : z = ⟨#[k, i]⟩ := sl_inj (by rw [show sl z = [k, i] from e])
    rw [ez]
    simp only [List.mem_cons, List.not_mem_nil, or_false] at hk hi
    rcases hk with rfl | rfl | rfl <;> rcases hi with rfl | rfl | rfl | rfl <;> decide +kernel
theorem words_ok {ms : List Str} {lo hi : Int} (hm : ∀ z ∈ ms, z ∈ allMarks) (h1 : 1 ≤ lo) (h2 : lo ≤ 30) (h3 : 1 ≤ hi) (h4 : hi ≤ 30) : ∀ w ∈ wordsOf ms lo hi, 32 ∉ sl w ∧ 10 ∉ sl w ∧ w ≠ Str.ofString "" := by
  intro w hw
  unfold wordsOf at hw
  rcases List.mem_append.mp hw with h | h
  · obtain ⟨m, hm', rfl⟩ := List.mem_map.mp h
    have := allM_wd m (hm m hm')
    exact ⟨this.2.1, this.2.2.1, this.2.2.2.1⟩
  · simp only [List.mem_cons, List.not_mem_nil, or_false] at h
    rcases h with rfl | rfl | rfl
    · exact colon_ok
    · have := num_ok' h1 h2; exact ⟨this.1, this.2.1, this.2.2.1⟩
    · have := num_ok' h3 h4; exact ⟨this.1, this.2.1, this.2.2.1⟩
theorem words_ne (ms : List Str) (lo hi : Int) : wordsOf ms lo hi ≠ [] := by unfold wordsOf; simp
theorem tail3 {us vs : List Str} {a b c a' b' c' : Str} (h : us ++ [a, b, c] = vs ++ [a', b', c']) : us = vs ∧ a = a' ∧ b = b' ∧ c = c' := by
  have hl : us.length = vs.length := by have := congrArg List.length h; simp at this; omega
  obtain ⟨h1, h2⟩ := List.append_inj h hl
  injection h2 with h3 h4
  injection h4 with h4 h5
  injection h5 with h5 _
  exact ⟨h1, h3, h4, h5⟩
theorem uw_words {us : List Str} (h : ∀ w ∈ us, 32 ∉ sl w) : (us.map uw).map wd = us := by
  rw [List.map_map]
  conv => rhs; rw [← List.map_id us]
  refine List.map_congr_left fun w hw => ?_
  show wd (uw w) = w
  unfold uw
  split
  · rename_i e; rw [e]; rfl
  · unfold wd
    rw [if_neg (fun e => h w hw (by rw [e, tl_blank]; simp))]
theorem parse_read {z : Str} {us : List Str} {a b c : Str} (h : Txt.split z blank = us ++ [a, b, c]) : parseW z us a b c = readW us a b c := by
  unfold parseW readW tailW
  have ez : Txt.join blank (us ++ [a, b, c]) = z := by rw [← h]; exact join_split z
  have hu : ∀ w ∈ us, 32 ∉ sl w := fun w hw => split_free (z := z) (by rw [h]; exact List.mem_append_left _ hw)
  by_cases ha : a = colon
  · rw [if_pos ha]
    cases hb : pI b with
    | none => dsimp only; split <;> first | rfl | (rw [if_pos ha])
    | some lo =>
      cases hc : pI c with
      | none => dsimp only; split <;> first | rfl | (rw [if_pos ha])
      | some hi =>
        dsimp only
        obtain ⟨b1, b2, b3⟩ := pI_some hb
        obtain ⟨c1, c2, c3⟩ := pI_some hc
        have b4 : numS lo = b := b3.symm
        have c4 : numS hi = c := c3.symm
        rw [if_pos ha]
        by_cases hlt : hi < lo
        · simp only [if_pos hlt]; split <;> rfl
        · simp only [if_neg hlt]
          have uwe := uw_words hu
          have wz : ∀ {ms}, ms.map wd = us → shownS ms lo hi = z := fun {ms} e => by
            unfold shownS wordsOf; rw [e, ← ha, b4, c4, ez]
          by_cases hr : us.map uw = sortM (us.map uw) ∧ hasP (us.map uw) = true
          · rw [if_pos hr]
            have hm : ∀ m ∈ us.map uw, m ∈ allMarks := fun m hm => sortM_all (by rw [hr.1] at hm; exact hm)
            have hz : shownS (us.map uw) lo hi = z := wz uwe
            have wo := words_ok (lo := lo) (hi := hi) hm b1 b2 c1 c2
            have ews : wordsOf (us.map uw) lo hi = us ++ [a, b, c] := by unfold wordsOf; rw [uwe, ← ha, b4, c4]
            rw [if_neg, if_pos, ← hr.1, if_pos hz]
            · rw [hr.2, Bool.and_true, List.all_eq_true]; exact fun m h => allM_mark m (hm m h)
            · rintro (h10 | hne)
              · rw [← hz] at h10
                unfold shownS at h10
                rw [sl_join] at h10
                rcases joinL_mem _ _ h10 with q | ⟨p, hp, q⟩
                · rw [tl_blank] at q; simp at q
                · obtain ⟨w, hw, rfl⟩ := List.mem_map.mp hp
                  exact (wo w hw).2.1 q
              · rw [← ews] at hne
                exact (wo _ hne).2.2 rfl
          · rw [if_neg hr]
            split
            · rfl
            · split
              · rename_i hg
                rw [Bool.and_eq_true] at hg
                rw [if_neg]
                intro e
                apply hr
                have hm : ∀ m ∈ sortM (us.map uw), m ∈ allMarks := fun m h => sortM_all h
                have wo := words_ok (lo := lo) (hi := hi) hm b1 b2 c1 c2
                have e2 := split_joined (words_ne (sortM (us.map uw)) lo hi) fun w hw => (wo w hw).1
                rw [show Txt.join blank (wordsOf (sortM (us.map uw)) lo hi) = z from e, h] at e2
                unfold wordsOf at e2
                have e3 := (tail3 e2).1
                refine ⟨?_, hg.2⟩
                conv => lhs; rw [e3]
                rw [List.map_map]
                conv => rhs; rw [← List.map_id (sortM (us.map uw))]
                exact List.map_congr_left fun m h => (allM_wd m (hm m h)).1
              · rfl
  · rw [if_neg ha]; split <;> rfl
/-- a stock's own writing is read -/
theorem read_shown {ms : List Str} {lo hi : Int} (hs : ms = sortM ms) (hp : hasP ms = true) (h1 : 1 ≤ lo) (h2 : lo ≤ hi) (h3 : hi ≤ 30) : Txt.split (shownS ms lo hi) blank = ms.map wd ++ [colon, numS lo, numS hi] ∧ readW (ms.map wd) colon (numS lo) (numS hi) = some (ms, lo, hi) := by
  have hm : ∀ m ∈ ms, m ∈ allMarks := fun m hm => sortM_all (by rw [hs] at hm; exact hm)
  have wo := words_ok (lo := lo) (hi := hi) hm h1 (by omega) (by omega) h3
  refine ⟨split_joined (words_ne ms lo hi) fun w hw => (wo w hw).1, ?_⟩
  have e : (ms.map wd).map uw = ms := by
    rw [List.map_map]
    conv => rhs; rw [← List.map_id ms]
    exact List.map_congr_left fun m h => (allM_wd m (hm m h)).1
  unfold readW
  rw [if_pos rfl, pI_num h1 (by omega), pI_num (by omega) h3]
  dsimp only
  rw [if_neg (by omega), e, if_pos ⟨hs, hp⟩]
theorem sortM_idem (ms : List Str) : sortM (sortM ms) = sortM ms := by
  unfold sortM
  apply List.filter_congr
  intro z hz
  rw [Bool.eq_iff_iff]
  simp only [decide_eq_true_eq, List.mem_filter]
  exact ⟨fun h => h.2, fun h => ⟨hz, h⟩⟩
theorem hasP_sort {ms : List Str} (hm : ∀ z ∈ ms, isMark z = true) : hasP (sortM ms) = hasP ms := by
  unfold hasP
  rw [Bool.eq_iff_iff, List.any_eq_true, List.any_eq_true]
  constructor
  · rintro ⟨z, h1, h2⟩
    exact ⟨z, by simpa using (List.mem_filter.mp h1).2, h2⟩
  · rintro ⟨z, h1, h2⟩
    exact ⟨z, List.mem_filter.mpr ⟨allM_mem z (hm z h1), by simpa using h1⟩, h2⟩
theorem sortM_ne {ms : List Str} (h : hasP (sortM ms) = true) : sortM ms ≠ [] := fun e => by rw [e] at h; cases h
theorem sortM_len (ms : List Str) : (sortM ms).length ≤ 13 := List.length_filter_le _ _
theorem shown_len {ms : List Str} {lo hi : Int} (hm : ∀ z ∈ ms, z ∈ allMarks) (hl : ms.length ≤ 13) (h1 : 1 ≤ lo) (h2 : lo ≤ 30) (h3 : 1 ≤ hi) (h4 : hi ≤ 30) : (shownS ms lo hi).length ≤ 100 := by
  unfold shownS
  have := slen_join blank (wordsOf ms lo hi)
  have e1 : ∀ l : List Str, (∀ z ∈ l, z ∈ allMarks) → ((l.map wd).map (·.length)).sum ≤ 2 * l.length := by
    intro l
    induction l with
    | nil => intro _; simp
    | cons m l ih =>
      intro h
      have := ih fun z hz => h z (List.mem_cons_of_mem _ hz)
      have := (allM_wd m (h m List.mem_cons_self)).2.2.2.2
      simp only [List.map_cons, List.sum_cons, List.length_cons]
      omega
  have e2 := e1 ms hm
  have e3 := (num_ok' h1 h2).2.2.2
  have e4 := (num_ok' h3 h4).2.2.2
  have e5 : colon.length = 1 := by decide +kernel
  have e6 : blank.length = 1 := by decide +kernel
  unfold wordsOf at this
  simp only [List.map_append, List.sum_append, List.map_cons, List.map_nil, List.sum_cons, List.sum_nil, List.length_append, List.length_map, List.length_cons, List.length_nil, e5, e6] at this
  unfold wordsOf
  omega
/-- the f-string -/
theorem shown_join {ms : List Str} {lo hi : Int} (h : ms ≠ []) : ((((Str.empty ++ Txt.join blank (ms.map wd)) ++ Str.ofString " : ") ++ numS lo) ++ blank) ++ numS hi = shownS ms lo hi := by
  apply sl_inj
  unfold shownS wordsOf
  rw [sl_join]
  simp only [sl_app, sl_join, tl_blank, List.map_append, List.map_cons, List.map_nil]
  rw [show sl (Str.ofString " : ") = [32, 58, 32] by decide +kernel, show sl colon = [58] by decide +kernel, show sl Str.empty = [] by rfl]
  have key : ∀ (ps : List (List Nat)) (x y w : List Nat), ps ≠ [] → TL.joinL [32] (ps ++ [x, y, w]) = TL.joinL [32] ps ++ (32 :: (x ++ (32 :: (y ++ (32 :: w))))) := by
    intro ps x y w
    induction ps with
    | nil => intro h; exact absurd rfl h
    | cons p ps ih =>
      intro _
      cases ps with
      | nil => simp [TL.joinL]
      | cons q ps =>
        rw [List.cons_append, joinL_cons 32 p (by simp), ih (by simp), joinL_cons 32 p (by simp)]
        simp
  rw [key _ _ _ _ (by simpa using h)]
  simp

/-! ### texts of integers -/
theorem cps_minus : sl (Str.ofString "-") = [45] := by decide +kernel
theorem cps_zero : sl (Str.ofString "0") = [48] := by decide +kernel
theorem cps_none : sl (Str.ofString "") = [] := by decide +kernel
theorem cps_ten : sl (Str.ofString "0123456789") = [48, 49, 50, 51, 52, 53, 54, 55, 56, 57] := by decide +kernel
theorem mem_ten (c : Nat) : decide (c ∈ sl (Str.ofString "0123456789")) = isDg c := by
  rw [cps_ten]
  unfold isDg
  rw [Bool.eq_iff_iff]
  simp only [decide_eq_true_eq, Bool.and_eq_true, List.mem_cons, List.not_mem_nil, or_false]
  omega
theorem sl_from1 (z : Str) : sl (cutS z (some 1) none) = (sl z).drop 1 := sl_from z 1
def digs : List Nat → List Nat
  | 45 :: r => r
  | l => l
theorem digs_minus (r : List Nat) : digs (45 :: r) = r := rfl
theorem digs_other {c : Nat} {r : List Nat} (h : c ≠ 45) : digs (c :: r) = c :: r := by
  unfold digs
  split
  · rename_i e; injection e with e1 e2; exact absurd e1 h
  · rfl
/-- the integer that signs are the writing of -/
def valL (l : List Nat) : Option Int :=
  if digs l = [] then none else if (digs l).all isDg = false then none else if (digs l).head? = some 48 ∧ l ≠ [48] then none
  else some (if l.head? = some 45 then -(NumText.digitsVal (digs l) : Int) else (NumText.digitsVal (digs l) : Int))
def optI : Option Int → D
  | some n => .int n
  | none => .non
def within (v : Option Int) (lo hi : Int) : Option Int := match v with
  | some n => if lo ≤ n ∧ n ≤ hi then some n else none
  | none => none
theorem valL_no1 {l : List Nat} (h : digs l = []) : valL l = none := by unfold valL; rw [if_pos h]
theorem valL_no2 {l : List Nat} (h : (digs l).all isDg = false) : valL l = none := by
  unfold valL
  split
  · rfl
  · first | rfl | rw [if_pos h]
theorem valL_no3 {l : List Nat} (h1 : (digs l).head? = some 48) (h2 : l ≠ [48]) : valL l = none := by
  unfold valL
  split
  · rfl
  · split
    · rfl
    · rw [if_pos ⟨h1, h2⟩]
theorem valL_yes {l : List Nat} (h1 : digs l ≠ []) (h2 : (digs l).all isDg = true) (h3 : ¬ ((digs l).head? = some 48 ∧ l ≠ [48])) :
    valL l = some (if l.head? = some 45 then -(NumText.digitsVal (digs l) : Int) else (NumText.digitsVal (digs l) : Int)) := by
  unfold valL
  rw [if_neg h1, if_neg (by rw [h2]; decide), if_neg h3]
theorem allDig {l : List Nat} (h : l.all isDg = true) : NumText.AllDigits l := fun c hc => by
  have := List.all_eq_true.mp h c hc
  unfold isDg at this
  rw [Bool.and_eq_true, decide_eq_true_eq, decide_eq_true_eq] at this
  exact this
theorem int_val {z : Str} (hz : z.length ≤ 640) (h1 : digs (sl z) ≠ []) (h2 : (digs (sl z)).all isDg = true) :
    PySem.intText? z = some (if (sl z).head? = some 45 then -(NumText.digitsVal (digs (sl z)) : Int) else (NumText.digitsVal (digs (sl z)) : Int)) := by
  match e : sl z with
  | [] => rw [e] at h1; exact absurd rfl h1
  | c :: r =>
    rw [e] at h1 h2
    by_cases hc : c = 45
    · subst hc
      rw [digs_minus] at h1 h2 ⊢
      rw [if_pos (show (45 :: r).head? = some 45 from rfl)]
      exact intText_neg e (allDig h2) h1 (by omega)
    · rw [digs_other hc] at h1 h2 ⊢
      rw [if_neg (by simpa using hc)]
      have := intText_digits (x := z) (by show NumText.AllDigits (sl z); rw [e]; exact allDig h2) (by show sl z ≠ []; rw [e]; exact h1) (by omega)
      rw [this]
      show some ((NumText.digitsVal (sl z) : Nat) : Int) = _
      rw [e]
theorem dv_ge : ∀ (l : List Nat) (a : Nat), a * 10 ^ l.length ≤ l.foldl (fun acc c => acc * 10 + (c - 48)) a
  | [], a => by simp
  | c :: r, a => by
    have ih := dv_ge r (a * 10 + (c - 48))
    rw [List.foldl_cons, List.length_cons, Nat.pow_succ]
    refine Nat.le_trans ?_ ih
    rw [Nat.add_mul]
    have : a * (10 ^ r.length * 10) = a * 10 * 10 ^ r.length := by rw [Nat.mul_comm (10 ^ r.length) 10, Nat.mul_assoc]
    omega
theorem one_num : ∀ c < 58, 49 ≤ c → sl (Str.ofString (toString (((c - 48 : Nat)) : Int))) = [c] := by decide +kernel
theorem two_num : ∀ c < 52, ∀ d < 58, 49 ≤ c → 48 ≤ d → sl (Str.ofString (toString ((((c - 48) * 10 + (d - 48) : Nat)) : Int))) = [c, d] := by decide +kernel
theorem val_num : ∀ i < 30, valL (sl (Str.ofString (toString ((i + 1 : Nat) : Int)))) = some ((i + 1 : Nat) : Int) := by decide +kernel
/-- numbers of 1 to 30 -/
theorem pI_val (w : Str) : within (valL (sl w)) 1 30 = pI w := by
  cases hp : pI w with
  | some n =>
    obtain ⟨h1, h2, rfl⟩ := pI_some hp
    obtain ⟨i, rfl⟩ : ∃ i : Nat, n = ((i + 1 : Nat) : Int) := ⟨(n - 1).toNat, by omega⟩
    rw [val_num i (by omega)]
    unfold within
    dsimp only
    rw [if_pos ⟨by omega, by omega⟩]
  | none =>
    cases hv : valL (sl w) with
    | none => rfl
    | some n =>
      unfold within
      dsimp only
      split
      · rename_i hn
        exfalso
        refine pI_none hp n hn.1 hn.2 (sl_inj ?_)
        unfold valL at hv
        split at hv
        · cases hv
        · rename_i hd
          split at hv
          · cases hv
          · rename_i had
            split at hv
            · cases hv
            · rename_i hz
              have had : (digs (sl w)).all isDg = true := by simpa using had
              generalize sl w = l at *
              cases l with
              | nil => exact absurd rfl hd
              | cons c r =>
                by_cases hc : c = 45
                · subst hc
                  simp only [List.head?_cons, if_true, Option.some.injEq] at hv
                  omega
                · rw [digs_other hc] at hd had hz hv
                  rw [if_neg (by simpa using hc)] at hv
                  have hv : ((NumText.digitsVal (c :: r) : Nat) : Int) = n := Option.some.inj hv
                  rw [List.all_cons, Bool.and_eq_true] at had
                  have hcd : 48 ≤ c ∧ c ≤ 57 := by have := had.1; unfold isDg at this; simpa using this
                  have ge := dv_ge r (0 * 10 + (c - 48))
                  have ev : NumText.digitsVal (c :: r) = r.foldl (fun acc c => acc * 10 + (c - 48)) (0 * 10 + (c - 48)) := rfl
                  have h48 : c ≠ 48 ∨ r = [] := by
                    by_cases h : c = 48
                    · right
                      subst h
                      have : ¬ ((48 :: r) ≠ [48]) := fun q => hz ⟨rfl, q⟩
                      simpa using this
                    · exact .inl h
                  cases r with
                  | nil =>
                    have e : NumText.digitsVal [c] = c - 48 := by unfold NumText.digitsVal; simp
                    rw [e] at hv
                    rw [← hv]
                    exact (one_num c (by omega) (by omega)).symm
                  | cons d r =>
                    have h48 : c ≠ 48 := by rcases h48 with h | h; exact h; cases h
                    rw [List.all_cons, Bool.and_eq_true] at had
                    have hdd : 48 ≤ d ∧ d ≤ 57 := by have := had.2.1; unfold isDg at this; simpa using this
                    cases r with
                    | nil =>
                      have e : NumText.digitsVal [c, d] = (c - 48) * 10 + (d - 48) := by unfold NumText.digitsVal; simp
                      rw [e] at hv
                      rw [← hv]
                      exact (two_num c (by omega) d (by omega) (by omega) (by omega)).symm
                    | cons e r =>
                      exfalso
                      have h1 : 1 * 100 ≤ (0 * 10 + (c - 48)) * 10 ^ (d :: e :: r).length := by
                        refine Nat.mul_le_mul (by omega) ?_
                        rw [List.length_cons, List.length_cons, Nat.pow_succ, Nat.pow_succ]
                        have := Nat.one_le_pow r.length 10 (by decide)
                        omega
                      omega
      · rfl

/-! ### == of pure data -/
theorem d_eq_pure {neg b : Bool} {S : Sto} {d e : D} {p q : PyData} (hd : Py S d p) (he : Py S e q) (pd : pureD p = true) (pe : pureD q = true) (sd : SeqAt.shaped p = true) (se : SeqAt.shaped q = true) (hb : b = true ↔ p = q) : dEqv neg d e S = .ok (.bl (neg ^^ b)) .tr S := by
  unfold dEqv
  rw [show toP S d = some p from hd, show toP S e = some q from he]
  dsimp only
  rw [if_pos (by rw [sd, se, pure_nodict p pd, pure_nodict q pe]; simp)]
  congr 3
  rw [Bool.eq_iff_iff, eqv_iff p q pd pe, hb]
theorem py_strs (S : Sto) : ∀ zs : List Str, PyAll S (zs.map D.str) (zs.map PyData.str)
  | [] => .nil
  | z :: zs => .cons (py_str S z) (py_strs S zs)
theorem py_ints (S : Sto) : ∀ zs : List Int, PyAll S (zs.map D.int) (zs.map PyData.int)
  | [] => .nil
  | z :: zs => .cons (py_int S z) (py_ints S zs)
/-! ### == of rows -/
theorem map_inj {α β : Type} {f : α → β} (hf : ∀ a b, f a = f b → a = b) : ∀ {l m : List α}, l.map f = m.map f → l = m
  | [], [], _ => rfl
  | [], _ :: _, h => by cases h
  | _ :: _, [], h => by cases h
  | a :: l, b :: m, h => by
    rw [List.map_cons, List.map_cons] at h
    injection h with h1 h2
    rw [hf a b h1, map_inj hf h2]
theorem pure_ints (a : List Int) : pureD (.list (a.map PyData.int)) = true := by
  simp only [pureD]
  exact pureAll_of fun d hd => by obtain ⟨i, _, rfl⟩ := List.mem_map.mp hd; simp only [pureD]
theorem shaped_ints (a : List Int) : SeqAt.shaped (.list (a.map PyData.int)) = true := shaped_of (lay_list (n := 0) fun d hd => by obtain ⟨i, _, rfl⟩ := List.mem_map.mp hd; exact lay_int i) (by decide)
theorem d_eq_ints {neg : Bool} {S : Sto} (a b : List Int) : dEqv neg (.lst (a.map D.int)) (.lst (b.map D.int)) S = .ok (.bl (neg ^^ decide (a = b))) .tr S :=
  d_eq_pure (py_lst (py_ints S a)) (py_lst (py_ints S b)) (pure_ints a) (pure_ints b) (shaped_ints a) (shaped_ints b) (by
    rw [decide_eq_true_eq]
    exact ⟨fun h => by rw [h], fun h => map_inj (f := PyData.int) (fun _ _ e => by injection e) (by injection h)⟩)
theorem pure_strs (a : List Str) : pureD (.list (a.map PyData.str)) = true := by
  simp only [pureD]
  exact pureAll_of fun d hd => by obtain ⟨i, _, rfl⟩ := List.mem_map.mp hd; simp only [pureD]
theorem d_eq_strs {neg : Bool} {S : Sto} (a b : List Str) (ha : ∀ z ∈ a, sok z) (hb : ∀ z ∈ b, sok z) : dEqv neg (.lst (a.map D.str)) (.lst (b.map D.str)) S = .ok (.bl (neg ^^ decide (a = b))) .tr S :=
  d_eq_pure (py_lst (py_strs S a)) (py_lst (py_strs S b)) (pure_strs a) (pure_strs b) (shaped_strs a ha) (shaped_strs b hb) (by
    rw [decide_eq_true_eq]
    exact ⟨fun h => by rw [h], fun h => map_inj (f := PyData.str) (fun _ _ e => by injection e) (by injection h)⟩)
theorem shaped_text {ts : List Tk} (h : SokT ts) : SeqAt.shaped (textD ts) = true := shaped_of (lay_text h) (by decide)
theorem d_eq_toks {neg : Bool} {S : Sto} (a b : List Tk) (ha : SokT a) (hb : SokT b) : dEqv neg (.lst (a.map tokV)) (.lst (b.map tokV)) S = .ok (.bl (neg ^^ decide (a = b))) .tr S :=
  d_eq_pure (py_text S a) (py_text S b) (pure_text a) (pure_text b) (shaped_text ha) (shaped_text hb) (by
    rw [decide_eq_true_eq]
    exact ⟨fun h => by rw [h], fun h => map_tokD_inj (by unfold textD at h; injection h)⟩)

/-! ### the package: numbers, words, marks -/
theorem f_is_integer {S : Sto} {i lo hi : Int} : F_is_integer [.int i, .int lo, .int hi] S = .ok (.bl (decide (lo ≤ i) && decide (i ≤ hi))) .tr S := by
  unfold F_is_integer b_is_integer
  walk_at "ev"
  cases h : decide (lo ≤ i) with
  | false => walk_at "ev"
  | true => walk_at "ev"
theorem chars_kinds : charsD (Str.ofString "#|/") = [.str ⟨#[35]⟩, .str ⟨#[124]⟩, .str ⟨#[47]⟩] := by
  unfold charsD; rw [show (sl (Str.ofString "#|/")) = [35, 124, 47] from cps_kinds]; rfl
theorem log_nat {n : Nat} (h : n < 100) : ((n : Int)).natAbs.log2 < 1920 := by
  have : ((n : Int)).natAbs = n := by omega
  rw [this]
  by_cases h0 : n = 0
  · subst h0; decide
  · exact (Nat.log2_lt h0).mpr (Nat.lt_of_lt_of_le h (by
      calc 100 ≤ 2 ^ 7 := by decide
        _ ≤ 2 ^ 1920 := Nat.pow_le_pow_right (by decide) (by decide)))
theorem log_int {n : Int} (h0 : 0 ≤ n) (h : n < 100) : n.natAbs.log2 < 1920 := by
  obtain ⟨m, rfl⟩ : ∃ m : Nat, n = (m : Int) := ⟨n.toNat, by omega⟩
  exact log_nat (by omega)
def mkF (d e : D) : D := match d, e with
  | .str a, .int i => .str (a ++ Str.ofString (toString i))
  | _, _ => .non
theorem all_eq : [D.str (Str.ofString " ")] ++ ([D.str ⟨#[35]⟩, .str ⟨#[124]⟩, .str ⟨#[47]⟩].flatMap fun d => (rngD 0 4).map (mkF d)) = allMarks.map D.str := by
  rfl
theorem f_marks {S : Sto} : F_all_marks [] S = .ok (.lst (allMarks.map D.str)) .fs S := by
  unfold F_all_marks b_all_marks
  walk_at "ev"
  rw [d_lst (by decide)]
  walk_at "ev"
  rw [lc2_map (ds := [.str ⟨#[35]⟩, .str ⟨#[124]⟩, .str ⟨#[47]⟩]) (items := fun _ => rngD 0 4) (f := mkF) (by walk_at "ev"; rw [chars_kinds]) (fun d hd => by
    refine ⟨_, rfl, by walk_at "ev"; rfl, fun e he => ?_⟩
    unfold rngD at he
    obtain ⟨i, hi, rfl⟩ := List.mem_map.mp he
    have hi := List.mem_range.mp hi
    simp only [List.mem_cons, List.not_mem_nil, or_false] at hd
    refine ⟨_, .tr, rfl, ?_, rfl⟩
    rcases hd with rfl | rfl | rfl <;> (
      show fOp dAdd (fVar 0) (fCB dStr (fCons (fVar 1) fNil)) [.val _, .val _] S = _
      walk_at "ev"
      rw [d_str_int (by rw [Int.zero_add]; exact log_nat (by omega))]
      walk_at "ev"
      rw [d_add_str]
      · rfl
      · have : (toString (0 + (i : Int)) : Str).length ≤ 10 := by
          have : ∀ j : Nat, j < 4 → (Str.ofString (toString (0 + (j : Int)))).length ≤ 10 := by decide +kernel
          exact this i hi
        exact Nat.le_trans (Nat.add_le_add (Nat.le_refl 1) this) (by decide))) (by decide)]
  walk_at "ev"
  rw [d_add_lst (by decide), all_eq]
  walk_at "ev"
theorem f_split {S : Sto} {z : Str} (hz : z.length ≤ 100000) : F_split_words [.str z] S = .ok (if 10 ∈ sl z ∨ Str.ofString "" ∈ Txt.split z blank then .non else .lst ((Txt.split z blank).map .str)) .tr S := by
  unfold F_split_words b_split_words
  walk_at "ev"
  rw [d_in_str (c := 10) (by decide +kernel)]
  walk_at "ev"
  by_cases h : 10 ∈ sl z
  · rw [decide_eq_true h, if_pos (.inl h)]
    walk_at "ev"
  · rw [decide_eq_false h]
    walk_at "ev"
    rw [d_split (by decide +kernel) (Nat.le_trans (show z.length + 2 ≤ 100002 by omega) (by decide))]
    walk_at "ev"
    rw [d_in_strs]
    walk_at "ev"
    by_cases h2 : Str.ofString "" ∈ Txt.split z blank
    · rw [decide_eq_true h2, if_pos (.inr h2)]
      walk_at "ev"
    · rw [decide_eq_false h2, if_neg (by rintro (q | q); exact h q; exact h2 q)]
      walk_at "ev"
theorem f_split_odd {S : Sto} {d : D} {t : Ty} (h : tyDf S d = some t) (ht : t ≠ .str) : F_split_words [d] S = .ok .non .tr S := by
  unfold F_split_words b_split_words
  walk_at "ev"
  rw [h]
  walk_at "ev"
  rw [decide_eq_false ht]
  walk_at "ev"
theorem f_digits {S : Sto} {z : Str} {ρ : Ev} (h3 : ρ[3]? = some (.val (.str z))) (h5 : ∀ e, ((wipeE ρ [5]).set 5 (.val e))[5]? = some (.val e)) (hz : z.length ≤ 1000) : fCB dAll (fCons (fLc (fIter (fVar 3)) (gN 5) (fC (.bl true)) (fOp (dIn false) (fVar 5) (fC (.str "0123456789"))) [5]) fNil) ρ S = .ok (.bl ((sl z).all isDg)) .tr S := by
  have e := lc_map (it := fIter (fVar 3)) (set := gN 5) (te := fOp (dIn false) (fVar 5) (fC (.str "0123456789"))) (vs := [5]) (ρ := ρ) (S := S) (S1 := S) (ds := charsD z) (g := none) (f := fun d => match d with | .str w => .bl ((sl w).all isDg) | _ => .non)
    (by rw [v_iter, Fx.v_var, h3, kVar_val, v_iter1, it_str]; rfl) trivial (by unfold charsD; rw [List.length_map]; exact Nat.le_trans hz (by decide)) (fun d hd => by
      unfold charsD at hd
      obtain ⟨c, hc, rfl⟩ := List.mem_map.mp hd
      refine ⟨_, .tr, rfl, ?_, rfl⟩
      rw [v_op, Fx.v_var, h5, kVar_val]
      walk_at "ev"
      rw [d_in_str (c := c) rfl, mem_ten]
      simp [sl])
  rw [v_cb, v_cons, e]
  walk_at "ev"
  rw [d_all (bs := (sl z).map isDg) (by
    unfold charsD
    rw [List.map_map]
    have := bools_map isDg (sl z)
    rw [← this]
    congr 1
    apply List.map_congr_left
    intro c _
    simp [sl])]
  rw [List.all_map]
  rfl
theorem pi_4 {S : Sto} {z dz : Str} {lo hi : Int} (hl : z.length ≤ 31) (hd : sl dz = digs (sl z)) (h1 : sl dz ≠ []) (h2 : (sl dz).all isDg = true) (h3 : ¬ ((digs (sl z)).head? = some 48 ∧ sl z ≠ [48])) : kRun (b_parse_integer_4 [.val (.str z), .val (.int lo), .val (.int hi), .val (.str dz), .no, .no] S) = .ok (optI (within (valL (sl z)) lo hi)) .tr S := by
  unfold b_parse_integer_4 b_parse_integer_5
  have hne : digs (sl z) ≠ [] := by rw [← hd]; exact h1
  walk_at "ev"
  have iv := int_val (z := z) (by omega) hne (by rw [← hd]; exact h2)
  rw [show dInt [.str z] true S = .ok (.int (if (sl z).head? = some 45 then -(NumText.digitsVal (digs (sl z)) : Int) else (NumText.digitsVal (digs (sl z)) : Int))) .tr S by
    unfold dInt; dsimp only; rw [if_pos (by omega), iv]]
  rw [valL_yes hne (by rw [← hd]; exact h2) h3]
  generalize (if (sl z).head? = some 45 then -(NumText.digitsVal (digs (sl z)) : Int) else (NumText.digitsVal (digs (sl z)) : Int)) = n
  walk_at "ev"
  unfold within
  dsimp only
  by_cases q1 : lo ≤ n
  · rw [decide_eq_true q1]
    walk_at "ev"
    by_cases q2 : n ≤ hi
    · rw [decide_eq_true q2, if_pos ⟨q1, q2⟩]
      walk_at "ev"
      rfl
    · rw [decide_eq_false q2, if_neg (fun h => q2 h.2)]
      walk_at "ev"
      rfl
  · rw [decide_eq_false q1, if_neg (fun h => q1 h.1)]
    walk_at "ev"
    rfl
theorem pi_2 {S : Sto} {z dz : Str} {lo hi : Int} (hl : z.length ≤ 31) (hd : sl dz = digs (sl z)) (hdl : dz.length ≤ 31) : kRun (b_parse_integer_2 [.val (.str z), .val (.int lo), .val (.int hi), .val (.str dz), .no, .no] S) = .ok (optI (within (valL (sl z)) lo hi)) .tr S := by
  unfold b_parse_integer_2
  walk_at "ev"
  rw [eq_str dz "" cps_none]
  by_cases h1 : sl dz = []
  · rw [decide_eq_true h1, valL_no1 (by rw [← hd]; exact h1)]
    walk_at "ev"
    rfl
  · rw [decide_eq_false h1]
    walk_at "ev"
    have fd := f_digits (S := S) (z := dz) (ρ := [.val (.str z), .val (.int lo), .val (.int hi), .val (.str dz), .no, .no]) rfl (fun _ => rfl) (by omega)
    rw [v_cb, v_cons] at fd
    rw [fd]
    walk_at "ev"
    by_cases h2 : (sl dz).all isDg = true
    · rw [h2]
      walk_at "ev"
      unfold b_parse_integer_3
      walk_at "ev"
      obtain ⟨c', r', ed⟩ : ∃ c r, sl dz = c :: r := by
        match e : sl dz, h1 with
        | c :: r, _ => exact ⟨c, r, rfl⟩
      rw [d_ix_str (Nat.le_trans hdl (by decide)) (by rw [ed]; exact pick0 _ _)]
      walk_at "ev"
      rw [eq_str _ "0" cps_zero]
      by_cases h3 : c' = 48
      · subst h3
        rw [decide_eq_true (show sl (⟨#[48]⟩ : Str) = [48] from rfl)]
        walk_at "ev"
        rw [eq_str z "0" cps_zero]
        by_cases h4 : sl z = [48]
        · rw [decide_eq_true h4]
          walk_at "ev"
          exact pi_4 hl hd h1 h2 (fun h => h.2 h4)
        · rw [decide_eq_false h4, valL_no3 (by rw [← hd, ed]; rfl) h4]
          walk_at "ev"
          rfl
      · rw [decide_eq_false (show ¬ sl (⟨#[c']⟩ : Str) = [48] from fun h => h3 (by simpa [sl] using h))]
        walk_at "ev"
        exact pi_4 hl hd h1 h2 (fun h => h3 (by rw [← hd, ed] at h; simpa using h.1))
    · have h2 : (sl dz).all isDg = false := by simpa using h2
      rw [h2, valL_no2 (by rw [← hd]; exact h2)]
      walk_at "ev"
      rfl
theorem f_parse_integer {S : Sto} {z : Str} {lo hi : Int} (hz : z.length ≤ 100000) : F_parse_integer [.str z, .int lo, .int hi] S = .ok (optI (if z.length ≤ 31 then within (valL (sl z)) lo hi else none)) .tr S := by
  unfold F_parse_integer b_parse_integer
  walk_at "ev"
  rw [eq_str z "" cps_none]
  by_cases h0 : sl z = []
  · rw [decide_eq_true h0, valL_no1 (by rw [h0]; rfl)]
    walk_at "ev"
    rw [sl_len, h0]; rfl
  · rw [decide_eq_false h0]
    walk_at "ev"
    rw [d_len_str (Nat.le_trans hz (by decide))]
    walk_at "ev"
    by_cases hl : z.length ≤ 31
    · rw [decide_eq_false (by omega), if_pos hl]
      walk_at "ev"
      unfold b_parse_integer_1
      walk_at "ev"
      obtain ⟨c, r, ez⟩ : ∃ c r, sl z = c :: r := by
        match e : sl z, h0 with
        | c :: r, _ => exact ⟨c, r, rfl⟩
      rw [d_ix_str (Nat.le_trans hz (by decide)) (by rw [ez]; exact pick0 _ _)]
      walk_at "ev"
      rw [eq_str _ "-" cps_minus]
      by_cases hc : c = 45
      · subst hc
        rw [decide_eq_true (show sl (⟨#[45]⟩ : Str) = [45] from rfl)]
        walk_at "ev"
        rw [d_sl_str (Nat.le_trans hz (by decide))]
        walk_at "ev"
        rw [pi_2 hl (by rw [sl_from1, ez]; rfl) (by have := slen_cut z (some 1) none; omega)]
        walk_at "ev"
      · rw [decide_eq_false (show ¬ sl (⟨#[c]⟩ : Str) = [45] from fun h => hc (by simpa [sl] using h))]
        walk_at "ev"
        rw [pi_2 hl (by rw [ez, digs_other hc]) hl]
        walk_at "ev"
    · rw [decide_eq_true (by omega), if_neg hl]
      walk_at "ev"
      rfl


/-! ### stocks -/
theorem lst_strs {S : Sto} (ms : List Str) : PyAll S (ms.map D.str) (ms.map PyData.str) := by
  induction ms with
  | nil => exact .nil
  | cons m ms ih => exact .cons (py_str S m) ih
def headP (d : D) : D := match d with | .str z => .bl (decide ((sl z).head? = some 35)) | _ => .non
theorem f_stock_marks {S : Sto} {ms : List Str} (hl : ms.length ≤ 1000) (hw : ∀ m ∈ ms, m.length ≤ 100000) : F_are_stock_marks [.lst (ms.map D.str)] S = .ok (.bl (ms.all isMark && hasP ms)) .tr S := by
  unfold F_are_stock_marks b_are_stock_marks
  walk_at "ev"
  rw [lc_map (S1 := S) (ds := ms.map D.str) (g := none) (f := fun d => match d with | .str z => .bl (isMark z) | _ => .non) (by walk_at "ev") trivial (by rw [List.length_map]; exact Nat.le_trans hl (by decide)) (fun d hd => by
    obtain ⟨m, hm, rfl⟩ := List.mem_map.mp hd
    refine ⟨_, .tr, rfl, ?_, rfl⟩
    show fCall F_is_mark [] (fCons (fVar 1) fNil) [.val _, .val (.str m)] S = _
    walk_at "ev"
    rw [f_is_mark (py_str S m) (by rw [wt_str]; have := hw m hm; omega)]
    rfl)]
  walk_at "ev"
  rw [d_all (bs := ms.map isMark) (by
    rw [List.map_map, ← bools_map isMark ms]; rfl)]
  walk_at "ev"
  rw [List.all_map]
  cases ha : ms.all isMark with
  | false =>
    rw [show ms.all (id ∘ isMark) = false from ha]
    walk_at "ev"
  | true =>
    rw [show ms.all (id ∘ isMark) = true from ha]
    walk_at "ev"
    rw [lc_map (S1 := S) (ds := ms.map D.str) (g := none) (f := headP) (by walk_at "ev") trivial (by rw [List.length_map]; exact Nat.le_trans hl (by decide)) (fun d hd => by
      obtain ⟨m, hm, rfl⟩ := List.mem_map.mp hd
      refine ⟨_, .tr, rfl, ?_, rfl⟩
      show fOp (dEqv false) (fOp dIx (fVar 1) (fC (.int 0))) (fC (.str "#")) [.val _, .val (.str m)] S = _
      walk_at "ev"
      have hmk := List.all_eq_true.mp ha m hm
      obtain ⟨c, r, ez⟩ : ∃ c r, sl m = c :: r := by
        rcases mark_forms hmk with e | ⟨k, i, e, _⟩
        · exact ⟨_, _, e⟩
        · exact ⟨_, _, e⟩
      rw [d_ix_str (Nat.le_trans (hw m hm) (by decide)) (by rw [ez]; exact pick0 _ _)]
      walk_at "ev"
      rw [eq_str _ "#" (l := [35]) (by decide +kernel)]
      unfold headP
      dsimp only
      rw [ez]
      congr 2
      rw [Bool.eq_iff_iff]
      simp [sl])]
    walk_at "ev"
    rw [d_any (bs := ms.map fun z => decide ((sl z).head? = some 35)) (by
      rw [List.map_map, ← bools_map (fun z : Str => decide ((sl z).head? = some 35)) ms]; rfl)]
    walk_at "ev"
    rw [List.any_map]
    rfl
def lettersD (ms : List Str) (lo hi : Int) : List D := (ms.map D.str).flatMap fun d => (rngD lo (hi + 1 - lo).toNat).map fun e => .tup [d, e]
def stkF (ms : List Str) (lo hi : Int) : List (Str × D) := [("own_marks", .lst (ms.map .str)), ("least", .int lo), ("most", .int hi), ("own_letters", .lst (lettersD ms lo hi))]
abbrev stk (ms : List Str) (lo hi : Int) : D := .obj 7 (stkF ms lo hi)
theorem cf_m : cf_ 7 "own_marks" = true := by decide +kernel
theorem cf_l : cf_ 7 "least" = true := by decide +kernel
theorem cf_h : cf_ 7 "most" = true := by decide +kernel
theorem cf_o : cf_ 7 "own_letters" = true := by decide +kernel
theorem sk_m (ms : List Str) (lo hi : Int) : (stkF ms lo hi).lookup (Str.ofString "own_marks") = some (D.lst (ms.map .str)) := rfl
theorem sk_l (ms : List Str) (lo hi : Int) : (stkF ms lo hi).lookup (Str.ofString "least") = some (D.int lo) := rfl
theorem sk_h (ms : List Str) (lo hi : Int) : (stkF ms lo hi).lookup (Str.ofString "most") = some (D.int hi) := rfl
theorem flat_len {ds : List D} {f : D → List D} {n : Nat} (h : ∀ d, (f d).length = n) : (ds.flatMap f).length = ds.length * n := by
  induction ds with
  | nil => simp
  | cons d ds ih => rw [List.flatMap_cons, List.length_append, h, ih, List.length_cons, Nat.add_mul]; omega
theorem f_init {S : Sto} {ms : List Str} {lo hi : Int} (hl : ms.length ≤ 1000) (hm : ∀ m ∈ ms, isMark m = true) (hp : hasP ms = true) (h1 : 1 ≤ lo) (h2 : lo ≤ hi) (h3 : hi ≤ 30) : F_Stock___init__ 7 [] [.lst (ms.map D.str), .int lo, .int hi] S = .ok (stkF (sortM ms) lo hi) S := by
  unfold F_Stock___init__ b_Stock___init__
  rw [v_runI (m := 4) (ds := [_, _, _]) rfl]
  walk_at "ev"
  rw [f_stock_marks hl (fun m h => Nat.le_trans (mark_len (hm m h)) (by decide)), List.all_eq_true.mpr hm, hp]
  walk_at "ev"
  unfold b_Stock___init___1
  walk_at "ev"
  rw [f_is_integer, decide_eq_true h1, decide_eq_true (show lo ≤ 30 by omega)]
  walk_at "ev"
  unfold b_Stock___init___2
  walk_at "ev"
  rw [f_is_integer, decide_eq_true h2, decide_eq_true h3]
  walk_at "ev"
  unfold b_Stock___init___3
  walk_at "ev"
  rw [lc_flat (S1 := S) (ds := allMarks.map D.str) (g := none) (c := fun d => match d with | .str z => decide (z ∈ ms) | _ => false) (f := fun d => d) (by walk_at "ev"; rw [f_marks]; walk_at "ev") trivial (by decide) (fun d hd => by
    obtain ⟨m, hm, rfl⟩ := List.mem_map.mp hd
    refine ⟨_, .tr, rfl, ?_, fun _ => ⟨.tr, rfl, rfl⟩⟩
    show fOp (dIn false) (fVar 4) (fVar 1) [.oob 7 [], .val (.lst (ms.map D.str)), .val (.int lo), .val (.int hi), .val (.str m), .no] S = _
    walk_at "ev"
    rw [d_in_strs])]
  rw [show ((allMarks.map D.str).filter (fun d => match d with | .str z => decide (z ∈ ms) | _ => false)).map (fun d => d) = (sortM ms).map D.str by
    unfold sortM
    rw [List.map_id', List.filter_map]
    rfl]
  walk_at "ev"
  rw [v_setF1 cf_m (by decide) rfl]
  walk_at "ev"
  unfold b_Stock___init___4 b_Stock___init___5 b_Stock___init___6
  walk_at "ev"
  rw [v_setF1 cf_l (putD_lt 99 (by decide)) rfl]
  walk_at "ev"
  rw [v_setF1 cf_h (putD_lt 99 (putD_lt 98 (by decide))) rfl]
  walk_at "ev"
  rw [lc2_map (ds := (sortM ms).map D.str) (items := fun _ => rngD lo (hi + 1 - lo).toNat) (f := fun d e => .tup [d, e]) (by
    walk_at "ev"
    rw [v_fld1 (x := .lst ((sortM ms).map D.str)) cf_m rfl]
    walk_at "ev") (fun d hd => by
    refine ⟨_, rfl, ?_, fun e he => ?_⟩
    · show fRng2 (fCons (fVar 2) (fCons (fOp dAdd (fVar 3) (fC (.int 1))) fNil)) [.oob 7 _, .val _, .val (.int lo), .val (.int hi), .val d, .no] S = _
      rw [v_rng2]
      walk_at "ev"
      rw [v_rng2a (by omega) (by omega) (by omega) (by omega)]
    · refine ⟨_, .tr, rfl, ?_, rfl⟩
      show fTup (fCons (fVar 4) (fCons (fVar 5) fNil)) [.oob 7 _, .val _, .val _, .val _, .val d, .val e] S = _
      walk_at "ev"
      rw [d_tup (ds := [_, _]) (show 2 ≤ lim by decide)]) (by
    rw [flat_len (n := (hi + 1 - lo).toNat) (fun d => by rw [List.length_map]; exact rng_len _ _), List.length_map]
    have := sortM_len ms
    have : (sortM ms).length * (hi + 1 - lo).toNat ≤ 13 * 30 := Nat.mul_le_mul this (by omega)
    exact Nat.le_trans this (by decide))]
  walk_at "ev"
  rw [v_setF1 cf_o (putD_lt 99 (putD_lt 98 (putD_lt 97 (by decide)))) rfl]
  walk_at "ev"
  rfl
theorem f_str {S : Sto} {ms : List Str} {lo hi : Int} (hm : ∀ m ∈ ms, m ∈ allMarks) (hl : ms.length ≤ 13) (hne : ms ≠ []) (h1 : 1 ≤ lo) (h2 : lo ≤ 30) (h3 : 1 ≤ hi) (h4 : hi ≤ 30) : F_Stock___str__ [stk ms lo hi] S = .ok (.str (shownS ms lo hi)) .tr S := by
  unfold F_Stock___str__ b_Stock___str__
  walk_at "ev"
  rw [lc_map (S1 := S) (ds := ms.map D.str) (g := none) (f := fun d => match d with | .str z => .str (wd z) | _ => .non) (by
    walk_at "ev"
    rw [v_fld1 cf_m (sk_m _ _ _)]
    walk_at "ev") trivial (by rw [List.length_map]; exact Nat.le_trans hl (by decide)) (fun d hd => by
    obtain ⟨m, hm, rfl⟩ := List.mem_map.mp hd
    refine ⟨_, .tr, rfl, ?_, rfl⟩
    show fIf (fOp (dEqv false) (fVar 2) (fC (.str " "))) (fC (.str "_")) (fVar 2) [.val _, .no, .val (.str m)] S = _
    walk_at "ev"
    unfold wd
    by_cases e : m = blank
    · rw [decide_eq_true e, if_pos e]; walk_at "ev"
    · rw [decide_eq_false e, if_neg e]; walk_at "ev")]
  walk_at "ev"
  have ew : (ms.map D.str).map (fun d => match d with | .str z => D.str (wd z) | _ => .non) = (ms.map wd).map D.str := by
    rw [List.map_map, List.map_map]; rfl
  have sum2 : ∀ l : List Str, (∀ z ∈ l, z ∈ allMarks) → ((l.map wd).map (·.length)).sum ≤ 2 * l.length := by
    intro l
    induction l with
    | nil => intro _; simp
    | cons m l ih =>
      intro h
      have := ih fun z hz => h z (List.mem_cons_of_mem _ hz)
      have := (allM_wd m (h m List.mem_cons_self)).2.2.2.2
      simp only [List.map_cons, List.sum_cons, List.length_cons]
      omega
  have s2 := sum2 ms hm
  have e6 : blank.length = 1 := by decide +kernel
  have e7 : (Str.ofString " : ").length = 3 := by decide +kernel
  have e8 : Str.empty.length = 0 := rfl
  rw [ew, d_join (strsD_map _) (by
    rw [List.length_map, e6]
    exact Nat.le_trans (show _ ≤ 100 by omega) (by decide))]
  walk_at "ev"
  have jl : (Txt.join (Str.ofString " ") (ms.map wd)).length ≤ ((ms.map wd).map (·.length)).sum + ms.length * 1 := by
    have jl := slen_join blank (ms.map wd)
    rw [List.length_map, e6] at jl
    exact jl
  have n1 := (num_ok' h1 h2).2.2.2
  have n2 := (num_ok' h3 h4).2.2.2
  have lim100 : ∀ {n : Nat}, n ≤ 1000 → n ≤ lim := fun h => Nat.le_trans h (by decide)
  rw [v_fmtS (lim100 (by omega))]
  walk_at "ev"
  rw [v_js1 (lim100 (by rw [slen_app, e8]; omega))]
  walk_at "ev"
  rw [v_js1 (lim100 (by rw [slen_app, slen_app, e8, e7]; omega))]
  walk_at "ev"
  rw [v_fld1 cf_l (sk_l _ _ _)]
  walk_at "ev"
  rw [v_fmtI (log_int (by omega) (by omega))]
  walk_at "ev"
  rw [v_js1 (lim100 (by rw [slen_app, slen_app, slen_app, e8, e7]; show _ + (numS lo).length ≤ _; omega))]
  walk_at "ev"
  rw [v_js1 (lim100 (by rw [slen_app, slen_app, slen_app, slen_app, e8, e7]; show _ + (numS lo).length + blank.length ≤ _; omega))]
  walk_at "ev"
  rw [v_fld1 cf_h (sk_h _ _ _)]
  walk_at "ev"
  rw [v_fmtI (log_int (by omega) (by omega))]
  walk_at "ev"
  rw [v_js1 (lim100 (by rw [slen_app, slen_app, slen_app, slen_app, slen_app, e8, e7]; show _ + (numS lo).length + blank.length + (numS hi).length ≤ _; omega))]
  walk_at "ev"
  rw [← shown_join hne]
theorem f_stk_marks {S : Sto} {ms : List Str} {lo hi : Int} : F_Stock_marks [stk ms lo hi] S = .ok (.lst (ms.map .str)) .fs S := by
  unfold F_Stock_marks b_Stock_marks
  walk_at "ev"
  rw [v_fld1 cf_m (sk_m _ _ _)]
  walk_at "ev"
theorem f_stk_lengths {S : Sto} {ms : List Str} {lo hi : Int} (h1 : 1 ≤ lo) (h2 : lo ≤ 30) (h3 : 1 ≤ hi) (h4 : hi ≤ 30) : F_Stock_lengths [stk ms lo hi] S = .ok (.lst (rgD lo (hi + 1))) .fs S := by
  unfold F_Stock_lengths b_Stock_lengths
  walk_at "ev"
  rw [v_fld1 cf_l (sk_l _ _ _)]
  walk_at "ev"
  rw [v_fld1 cf_h (sk_h _ _ _)]
  walk_at "ev"
  rw [v_lrg2 (by unfold rgOk; simp only [decide_eq_true_eq]; omega)]
  walk_at "ev"


/-! ### parse -/
theorem f_pI {S : Sto} {w : Str} (hw : w.length ≤ 100000) : F_parse_integer [.str w, .int 1, .int 30] S = .ok (optI (pI w)) .tr S := by
  rw [f_parse_integer hw]
  by_cases h : w.length ≤ 31
  · rw [if_pos h, pI_val]
  · rw [if_neg h]
    cases e : pI w with
    | none => rfl
    | some n =>
      obtain ⟨h1, h2, h3⟩ := pI_some e
      have := (num_ok' h1 h2).2.2.2
      rw [show numS n = w from h3.symm] at this
      omega
def resP (S : Sto) (z : Str) : Option (List Str × Int × Int) → RE
  | some (ms, lo, hi) => .ok (stk ms lo hi) .tr S
  | none => .xc 3 [("value", .str z)] S
abbrev clsV : Sl := .val (.cls 7)
theorem sp_7 {S : Sto} {z : Str} {ms : List Str} {lo hi : Int} {s3 s4 s5 s2 s7 : Sl} (hm : ∀ m ∈ ms, m ∈ allMarks) (hl : ms.length ≤ 13) (hne : ms ≠ []) (h1 : 1 ≤ lo) (h2 : lo ≤ hi) (h3 : hi ≤ 30) : kRun (b_Stock_parse_7 [clsV, .val (.str z), s2, s3, s4, s5, .val (stk ms lo hi), s7] S) = resP S z (if shownS ms lo hi = z then some (ms, lo, hi) else none) := by
  unfold b_Stock_parse_7 b_Stock_parse_8
  walk_at "ev"
  rw [v_sp1a (g := F_Stock___str__) rfl rfl (f_str hm hl hne h1 (by omega) (by omega) h3) rfl rfl]
  walk_at "ev"
  by_cases h : shownS ms lo hi = z
  · rw [decide_eq_true h, if_pos h]
    walk_at "ev"
    rfl
  · rw [decide_eq_false h, if_neg h]
    walk_at "ev"
    rfl
theorem sp_5 {S : Sto} {z : Str} {ms : List Str} {ol oh : Option Int} {s2 s6 s7 : Sl} (hl : ms.length ≤ 1000) (hw : ∀ m ∈ ms, m.length ≤ 100000) (ho : ∀ n, ol = some n → 1 ≤ n ∧ n ≤ 30) (hh : ∀ n, oh = some n → 1 ≤ n ∧ n ≤ 30) :
    kRun (b_Stock_parse_5 [clsV, .val (.str z), s2, .val (.lst (ms.map D.str)), .val (optI ol), .val (optI oh), s6, s7] S) = resP S z (tailW z ms ol oh) := by
  unfold tailW
  unfold b_Stock_parse_5
  walk_at "ev"
  rw [f_stock_marks hl hw]
  cases hg : (ms.all isMark && hasP ms) with
  | false =>
    walk_at "ev"
    cases ol with
    | none => rfl
    | some lo =>
      cases oh with
      | none => rfl
      | some hi =>
        dsimp only
        split <;> rfl
  | true =>
    walk_at "ev"
    cases ol with
    | none => walk_at "ev"; rfl
    | some lo =>
      cases oh with
      | none => walk_at "ev"; rfl
      | some hi =>
        obtain ⟨l1, l2⟩ := ho lo rfl
        obtain ⟨u1, u2⟩ := hh hi rfl
        have e1 : Fx.isNon (optI (some lo)) = false := rfl
        have e2 : Fx.isNon (optI (some hi)) = false := rfl
        rw [e1]
        walk_at "ev"
        rw [e2]
        walk_at "ev"
        rw [show dLt (optI (some hi)) (optI (some lo)) S = .ok (.bl (decide (hi < lo))) .tr S from rfl]
        walk_at "ev"
        by_cases hlt : hi < lo
        · rw [decide_eq_true hlt, if_pos hlt]
          walk_at "ev"
          rfl
        · rw [decide_eq_false hlt, if_neg hlt]
          walk_at "ev"
          unfold b_Stock_parse_6
          walk_at "ev"
          rw [v_mkKL (c := 7) rfl]
          walk_at "ev"
          rw [v_mkK2 (n := 1) (m := 2) (ds := [_]) (zs := [_, _]) rfl rfl]
          rw [Bool.and_eq_true] at hg
          have hm : ∀ m ∈ ms, isMark m = true := List.all_eq_true.mp hg.1
          rw [show kMk 7 F_Stock___init__ (g_Stock___init___shortest_longest [D.lst (List.map D.str ms)] [] [optI (some lo), optI (some hi)]) S = .ok (stk (sortM ms) lo hi) .fs S from v_mk1 (f_init hl hm hg.2 l1 (by omega) u2)]
          walk_at "ev"
          exact sp_7 (fun m h => sortM_all h) (sortM_len ms) (sortM_ne (by rw [hasP_sort hm]; exact hg.2)) l1 (by omega) u2
theorem f_parse_core {S : Sto} {z : Str} {us : List Str} {a b c : Str} (hz : z.length ≤ 900) (h : Txt.split z blank = us ++ [a, b, c]) (hu : us ≠ []) : F_Stock_parse [.cls 7, .str z] S = resP S z (parseW z us a b c) := by
  unfold F_Stock_parse b_Stock_parse
  walk_at "ev"
  rw [f_split (by omega), h]
  unfold parseW
  by_cases h0 : 10 ∈ sl z ∨ Str.ofString "" ∈ us ++ [a, b, c]
  · rw [if_pos h0, if_pos h0]
    walk_at "ev"
    unfold b_Stock_parse_1
    walk_at "ev"
    rw [show Fx.isNon D.non = true from rfl]
    walk_at "ev"
    rfl
  · rw [if_neg h0, if_neg h0]
    walk_at "ev"
    unfold b_Stock_parse_1
    walk_at "ev"
    rw [show Fx.isNon (D.lst ((us ++ [a, b, c]).map D.str)) = false from rfl]
    walk_at "ev"
    have ul : 0 < us.length := List.length_pos_iff.mpr hu
    rw [decide_eq_false (by rw [List.length_map, List.length_append]; simp only [List.length_cons, List.length_nil]; omega)]
    walk_at "ev"
    have hul := split_len z
    rw [h, List.length_append] at hul
    simp only [List.length_cons, List.length_nil] at hul
    have hwl : ∀ w ∈ us ++ [a, b, c], w.length ≤ 900 := fun w hw => Nat.le_trans (split_wlen (z := z) (by rw [h]; exact hw)) hz
    have em : (us ++ [a, b, c]).map D.str = us.map D.str ++ [.str a, .str b, .str c] := by rw [List.map_append]; rfl
    rw [em, show dNeg (.int 3) S = .ok (.int (-3)) .tr S from rfl]
    walk_at "ev"
    rw [d_ix_lst (at_neg (j := 0) rfl (-3) rfl)]
    walk_at "ev"
    by_cases ha : a = colon
    · rw [decide_eq_true ha, if_pos ha]
      walk_at "ev"
      unfold b_Stock_parse_2
      walk_at "ev"
      rw [lc_map (S1 := S) (ds := us.map D.str) (g := none) (f := fun d => match d with | .str z => .str (uw z) | _ => .non) (by
        walk_at "ev"
        rw [show dNeg (.int 3) S = .ok (.int (-3)) .tr S from rfl]
        walk_at "ev"
        rw [cut_neg (vs := [_, _, _]) (-3) rfl (by simp)]) trivial (by rw [List.length_map]; exact Nat.le_trans (show _ ≤ 1000 by omega) (by decide)) (fun d hd => by
        obtain ⟨m, hm, rfl⟩ := List.mem_map.mp hd
        refine ⟨_, .tr, rfl, ?_, rfl⟩
        show fIf (fOp (dEqv false) (fVar 7) (fC (.str "_"))) (fC (.str " ")) (fVar 7) [clsV, .val _, .val _, .no, .no, .no, .no, .val (.str m)] S = _
        walk_at "ev"
        unfold uw
        by_cases e : m = line
        · rw [decide_eq_true e, if_pos e]; walk_at "ev"
        · rw [decide_eq_false e, if_neg e]; walk_at "ev")]
      have eu : (us.map D.str).map (fun d => match d with | .str z => D.str (uw z) | _ => .non) = (us.map uw).map D.str := by
        rw [List.map_map, List.map_map]; rfl
      rw [eu]
      walk_at "ev"
      unfold b_Stock_parse_3
      walk_at "ev"
      rw [show dNeg (.int 2) S = .ok (.int (-2)) .tr S from rfl]
      walk_at "ev"
      rw [d_ix_lst (at_neg (j := 1) rfl (-2) rfl)]
      walk_at "ev"
      rw [v_callK2 (n := 1) (m := 2) (ds := [_]) (zs := [_, _]) rfl rfl]
      rw [show F_parse_integer (g_parse_integer_low_high [D.str b] [] [D.int 1, D.int 30]) S = .ok (optI (pI b)) .tr S from f_pI (Nat.le_trans (hwl b (by simp)) (by decide))]
      walk_at "ev"
      unfold b_Stock_parse_4
      walk_at "ev"
      rw [show dNeg (.int 1) S = .ok (.int (-1)) .tr S from rfl]
      walk_at "ev"
      rw [d_ix_lst (at_neg (j := 2) rfl (-1) rfl)]
      walk_at "ev"
      rw [v_callK2 (n := 1) (m := 2) (ds := [_]) (zs := [_, _]) rfl rfl]
      rw [show F_parse_integer (g_parse_integer_low_high [D.str c] [] [D.int 1, D.int 30]) S = .ok (optI (pI c)) .tr S from f_pI (Nat.le_trans (hwl c (by simp)) (by decide))]
      walk_at "ev"
      refine sp_5 (ms := us.map uw) (by rw [List.length_map]; omega) (fun m hm => ?_) (fun n h => ⟨(pI_some h).1, (pI_some h).2.1⟩) (fun n h => ⟨(pI_some h).1, (pI_some h).2.1⟩)
      obtain ⟨w, hw, rfl⟩ := List.mem_map.mp hm
      unfold uw
      split
      · decide +kernel
      · exact Nat.le_trans (hwl w (List.mem_append_left _ hw)) (by decide)
    · rw [decide_eq_false ha, if_neg ha]
      walk_at "ev"
      rfl
/-- what is read, for any text -/
def rdS (z : Str) : Option (List Str × Int × Int) := match (Txt.split z blank).reverse with
  | c :: b :: a :: ru => if ru = [] then none else readW ru.reverse a b c
  | _ => none
theorem rdS_long {z : Str} {us : List Str} {a b c : Str} (h : Txt.split z blank = us ++ [a, b, c]) (hu : us ≠ []) : rdS z = readW us a b c := by
  unfold rdS
  rw [h, List.reverse_append]
  show (if us.reverse = [] then none else readW us.reverse.reverse a b c) = _
  rw [if_neg (by simpa using hu), List.reverse_reverse]
theorem rdS_short {z : Str} (h : (Txt.split z blank).length < 4) : rdS z = none := by
  unfold rdS
  split
  · rename_i c b a ru e
    have := congrArg List.length e
    rw [List.length_reverse] at this
    simp only [List.length_cons] at this
    rw [if_pos (List.eq_nil_of_length_eq_zero (by omega))]
  · rfl
theorem split4 {ws : List Str} (h : ¬ ws.length < 4) : ∃ us a b c, ws = us ++ [a, b, c] ∧ us ≠ [] := by
  refine ⟨ws.take (ws.length - 3), ws[ws.length - 3]'(by omega), ws[ws.length - 2]'(by omega), ws[ws.length - 1]'(by omega), ?_, fun e => ?_⟩
  · have : ws.drop (ws.length - 3) = [ws[ws.length - 3]'(by omega), ws[ws.length - 2]'(by omega), ws[ws.length - 1]'(by omega)] := by
      rw [List.drop_eq_getElem_cons (by omega)]
      congr 1
      rw [List.drop_eq_getElem_cons (by omega)]
      congr 1
      · congr 1; omega
      · rw [List.drop_eq_getElem_cons (by omega)]
        congr 1
        · congr 1; omega
        · exact List.drop_of_length_le (by omega)
    conv => lhs; rw [← List.take_append_drop (ws.length - 3) ws, this]
  · have := congrArg List.length e
    rw [List.length_take] at this
    simp only [List.length_nil] at this
    omega
theorem f_parse {S : Sto} {z : Str} (hz : z.length ≤ 900) : F_Stock_parse [.cls 7, .str z] S = resP S z (rdS z) := by
  by_cases h : (Txt.split z blank).length < 4
  · rw [rdS_short h]
    unfold F_Stock_parse b_Stock_parse
    walk_at "ev"
    rw [f_split (by omega)]
    by_cases h0 : 10 ∈ sl z ∨ Str.ofString "" ∈ Txt.split z blank
    · rw [if_pos h0]
      walk_at "ev"
      unfold b_Stock_parse_1
      walk_at "ev"
      rw [show Fx.isNon D.non = true from rfl]
      walk_at "ev"
      rfl
    · rw [if_neg h0]
      walk_at "ev"
      unfold b_Stock_parse_1
      walk_at "ev"
      rw [show Fx.isNon (D.lst ((Txt.split z blank).map D.str)) = false from rfl]
      walk_at "ev"
      rw [decide_eq_true (by rw [List.length_map]; omega)]
      walk_at "ev"
      rfl
  · obtain ⟨us, a, b, c, e, hu⟩ := split4 h
    rw [f_parse_core hz e hu, parse_read e, rdS_long e hu]
theorem f_parse_odd {S : Sto} {d : D} {t : Ty} (h : tyDf S d = some t) (ht : t ≠ .str) : F_Stock_parse [.cls 7, d] S = .xc 3 [("value", d)] S := by
  unfold F_Stock_parse b_Stock_parse
  walk_at "ev"
  rw [f_split_odd h ht]
  walk_at "ev"
  unfold b_Stock_parse_1
  walk_at "ev"
  rw [show Fx.isNon D.non = true from rfl]
  walk_at "ev"


/-! ### what the law does -/
theorem f_sorted {S : Sto} {ms : List Str} : F__law_sorted [.lst (ms.map D.str)] S = .ok (.lst ((sortM ms).map D.str)) .fs S := by
  unfold F__law_sorted b__law_sorted
  walk_at "ev"
  rw [lc_flat (S1 := S) (ds := allMarks.map D.str) (g := none) (c := fun d => match d with | .str z => decide (z ∈ ms) | _ => false) (f := fun d => d) (by walk_at "ev"; rw [f_all_marks]; walk_at "ev") trivial (by decide) (fun d hd => by
    obtain ⟨m, hm, rfl⟩ := List.mem_map.mp hd
    refine ⟨_, .tr, rfl, ?_, fun _ => ⟨.tr, rfl, rfl⟩⟩
    show fOp (dIn false) (fVar 1) (fVar 0) [.val (.lst (ms.map D.str)), .val (.str m)] S = _
    walk_at "ev"
    rw [d_in_strs])]
  rw [show ((allMarks.map D.str).filter (fun d => match d with | .str z => decide (z ∈ ms) | _ => false)).map (fun d => d) = (sortM ms).map D.str by
    unfold sortM
    rw [List.map_id', List.filter_map]
    rfl]
  walk_at "ev"
theorem nums_eq : (rngD 1 30).map (fun d => match d with | .int i => D.str (toString i) | _ => .non) = nums.map D.str := by
  unfold rngD nums
  rw [List.map_map, List.map_map]
  apply List.map_congr_left
  intro i _
  show D.str (Str.ofString (toString (1 + (i : Int)))) = D.str (Str.ofString (toString ((i + 1 : Nat) : Int)))
  rw [show (1 + (i : Int)) = ((i + 1 : Nat) : Int) by omega]
theorem pI_mem (w : Str) : w ∈ nums ↔ ∃ n, pI w = some n := by
  unfold nums
  constructor
  · intro h
    obtain ⟨i, hi, rfl⟩ := List.mem_map.mp h
    have := List.mem_range.mp hi
    exact ⟨_, pI_num (by omega) (by omega)⟩
  · rintro ⟨n, h⟩
    obtain ⟨h1, h2, rfl⟩ := pI_some h
    exact List.mem_map.mpr ⟨(n - 1).toNat, List.mem_range.mpr (by omega), by rw [show (((n - 1).toNat + 1 : Nat) : Int) = n by omega]⟩
theorem int_num : ∀ i < 30, PySem.intText? (Str.ofString (toString ((i + 1 : Nat) : Int))) = some ((i + 1 : Nat) : Int) := by decide +kernel
theorem f_number {S : Sto} {w : Str} : F__law_number [.str w] S = .ok (optI (pI w)) .tr S := by
  unfold F__law_number b__law_number
  walk_at "ev"
  rw [lc_map (S1 := S) (ds := rngD 1 30) (g := none) (f := fun d => match d with | .int i => D.str (toString i) | _ => .non) (by
    rw [v_rng2]
    walk_at "ev"
    rw [v_rng2a (by decide) (by decide) (by decide) (by decide)]
    rfl) trivial (by decide) (fun d hd => by
    unfold rngD at hd
    obtain ⟨i, hi, rfl⟩ := List.mem_map.mp hd
    have hi := List.mem_range.mp hi
    refine ⟨_, .tr, rfl, ?_, rfl⟩
    show fCB dStr (fCons (fVar 1) fNil) [.val (.str w), .val (.int (1 + (i : Int)))] S = _
    walk_at "ev"
    rw [d_str_int (log_int (by omega) (by omega))]), nums_eq]
  walk_at "ev"
  rw [d_in_strs]
  walk_at "ev"
  cases e : pI w with
  | none =>
    rw [decide_eq_false (fun h => by obtain ⟨n, hn⟩ := (pI_mem w).mp h; rw [e] at hn; cases hn)]
    walk_at "ev"
    rfl
  | some n =>
    rw [decide_eq_true ((pI_mem w).mpr ⟨n, e⟩)]
    walk_at "ev"
    obtain ⟨h1, h2, rfl⟩ := pI_some e
    obtain ⟨i, rfl⟩ : ∃ i : Nat, n = ((i + 1 : Nat) : Int) := ⟨(n - 1).toNat, by omega⟩
    rw [show dInt [.str (Str.ofString (toString ((i + 1 : Nat) : Int)))] true S = .ok (.int ((i + 1 : Nat) : Int)) .tr S by
      unfold dInt
      dsimp only
      rw [if_pos (Nat.le_trans (num_ok i (by omega)).2.2.2 (by decide)), int_num i (by omega)]]
    walk_at "ev"
    rfl
def rdD (S : Sto) : Option (List Str × Int × Int) → RE
  | some (ms, lo, hi) => .ok (.lst [.lst (ms.map .str), .int lo, .int hi]) .fs S
  | none => .ok .non .tr S
theorem rd_5 {S : Sto} {ms : List Str} {lo hi : Int} {s0 s1 s5 s6 : Sl} (hm : ∀ m ∈ ms, isMark m = true) (hl : ms.length ≤ 1000) : kNox (kRun (b__law_read_5 [s0, s1, .val (.lst (ms.map D.str)), .val (.int lo), .val (.int hi), s5, s6] S)) = rdD S (if hasP ms = true then some (ms, lo, hi) else none) := by
  unfold b__law_read_5
  walk_at "ev"
  rw [lc_flat (S1 := S) (ds := ms.map D.str) (g := none) (c := fun d => match d with | .str z => decide ((sl z).head? = some 35) | _ => false) (f := fun d => d) (by walk_at "ev") trivial (by rw [List.length_map]; exact Nat.le_trans hl (by decide)) (fun d hd => by
    obtain ⟨m, hmm, rfl⟩ := List.mem_map.mp hd
    refine ⟨_, .tr, rfl, ?_, fun _ => ⟨.tr, rfl, rfl⟩⟩
    show fOp (dEqv false) (fOp dIx (fVar 6) (fC (.int 0))) (fC (.str "#")) [s0, s1, .val _, .val _, .val _, s5, .val (.str m)] S = _
    walk_at "ev"
    obtain ⟨c, r, ez⟩ : ∃ c r, sl m = c :: r := by
      rcases mark_forms (hm m hmm) with e | ⟨k, i, e, _⟩
      · exact ⟨_, _, e⟩
      · exact ⟨_, _, e⟩
    rw [d_ix_str (Nat.le_trans (mark_len (hm m hmm)) (by decide)) (by rw [ez]; exact pick0 _ _)]
    walk_at "ev"
    rw [eq_str _ "#" (l := [35]) (by decide +kernel)]
    rw [ez]
    congr 2
    rw [Bool.eq_iff_iff]
    simp [sl])]
  walk_at "ev"
  rw [d_lst (by decide)]
  walk_at "ev"
  rw [List.map_id', show ((ms.map D.str).filter (fun d => match d with | .str z => decide ((sl z).head? = some 35) | _ => false)).isEmpty = !hasP ms by
    unfold hasP
    rw [List.filter_map, List.isEmpty_map]
    show (ms.filter fun z => decide ((sl z).head? = some 35)).isEmpty = _
    rw [Bool.eq_iff_iff]
    simp [List.isEmpty_iff, List.filter_eq_nil_iff]]
  cases hp : hasP ms with
  | true =>
    walk_at "ev"
    rw [d_lst (by show 3 ≤ lim; decide)]
    walk_at "ev"
    rfl
  | false =>
    walk_at "ev"
    rfl
theorem f_read {S : Sto} {z : Str} (hz : z.length ≤ 900) (so : sok z) : F__law_read [.str z] S = rdD S (rdS z) := by
  unfold F__law_read b__law_read
  walk_at "ev"
  rw [d_split (by decide +kernel) (Nat.le_trans (show z.length + 2 ≤ 1000 by omega) (by decide))]
  walk_at "ev"
  unfold b__law_read_1
  walk_at "ev"
  by_cases h : (Txt.split z blank).length < 4
  · rw [rdS_short h, decide_eq_true (by rw [List.length_map]; exact Int.ofNat_lt.mpr h)]
    walk_at "ev"
    rfl
  · rw [decide_eq_false (by rw [List.length_map]; intro q; exact h (Int.ofNat_lt.mp q))]
    walk_at "ev"
    obtain ⟨us, a, b, c, e, hu⟩ := split4 h
    rw [rdS_long e hu]
    have ev2 : (Txt.split z (Str.ofString " ")).map D.str = us.map D.str ++ [.str a, .str b, .str c] := by rw [show Txt.split z (Str.ofString " ") = us ++ [a, b, c] from e, List.map_append]; rfl
    rw [ev2, show dNeg (.int 3) S = .ok (.int (-3)) .tr S from rfl]
    walk_at "ev"
    rw [d_ix_lst (at_neg (j := 0) rfl (-3) rfl)]
    walk_at "ev"
    unfold readW
    by_cases ha : a = colon
    · rw [decide_eq_true ha, if_pos ha]
      walk_at "ev"
      unfold b__law_read_2
      walk_at "ev"
      have hul := split_len z
      rw [e, List.length_append] at hul
      simp only [List.length_cons, List.length_nil] at hul
      rw [lc_map (S1 := S) (ds := us.map D.str) (g := none) (f := fun d => match d with | .str z => .str (uw z) | _ => .non) (by
        walk_at "ev"
        rw [show dNeg (.int 3) S = .ok (.int (-3)) .tr S from rfl]
        walk_at "ev"
        rw [cut_neg (vs := [_, _, _]) (-3) rfl (by simp)]) trivial (by rw [List.length_map]; exact Nat.le_trans (show _ ≤ 1000 by omega) (by decide)) (fun d hd => by
        obtain ⟨m, hm, rfl⟩ := List.mem_map.mp hd
        refine ⟨_, .tr, rfl, ?_, rfl⟩
        show fIf (fOp (dEqv false) (fVar 5) (fC (.str "_"))) (fC (.str " ")) (fVar 5) [.val _, .val _, .no, .no, .no, .val (.str m), .no] S = _
        walk_at "ev"
        unfold uw
        by_cases e : m = line
        · rw [decide_eq_true e, if_pos e]; walk_at "ev"
        · rw [decide_eq_false e, if_neg e]; walk_at "ev")]
      have eu : (us.map D.str).map (fun d => match d with | .str z => D.str (uw z) | _ => .non) = (us.map uw).map D.str := by
        rw [List.map_map, List.map_map]; rfl
      rw [eu]
      walk_at "ev"
      unfold b__law_read_3
      walk_at "ev"
      rw [show dNeg (.int 2) S = .ok (.int (-2)) .tr S from rfl]
      walk_at "ev"
      rw [d_ix_lst (at_neg (j := 1) rfl (-2) rfl)]
      walk_at "ev"
      rw [f_number]
      walk_at "ev"
      rw [show dNeg (.int 1) S = .ok (.int (-1)) .tr S from rfl]
      walk_at "ev"
      rw [d_ix_lst (at_neg (j := 2) rfl (-1) rfl)]
      walk_at "ev"
      rw [f_number]
      walk_at "ev"
      unfold b__law_read_4
      walk_at "ev"
      cases hb : pI b with
      | none => walk_at "ev"; rfl
      | some lo =>
        rw [show Fx.isNon (optI (some lo)) = false from rfl]
        walk_at "ev"
        cases hc : pI c with
        | none => walk_at "ev"; rfl
        | some hi =>
          rw [show Fx.isNon (optI (some hi)) = false from rfl]
          walk_at "ev"
          rw [show dLt (optI (some hi)) (optI (some lo)) S = .ok (.bl (decide (hi < lo))) .tr S from rfl]
          walk_at "ev"
          by_cases hlt : hi < lo
          · rw [decide_eq_true hlt, if_pos hlt]
            walk_at "ev"
            rfl
          · rw [decide_eq_false hlt, if_neg hlt]
            walk_at "ev"
            rw [f_sorted]
            walk_at "ev"
            have sw : ∀ m ∈ us.map uw, sok m := fun m hm => by
              obtain ⟨w, hw, rfl⟩ := List.mem_map.mp hm
              unfold uw
              split
              · exact sok_of " "
              · exact split_sok so (by rw [e]; exact List.mem_append_left _ hw)
            rw [d_eq_strs _ _ sw (fun m hm => sok_mark (allM_mark m (sortM_all hm)))]
            walk_at "ev"
            by_cases hs : us.map uw = sortM (us.map uw)
            · rw [decide_eq_true hs]
              walk_at "ev"
              have hm : ∀ m ∈ us.map uw, isMark m = true := fun m hm => allM_mark m (sortM_all (by rw [hs] at hm; exact hm))
              rw [show optI (some lo) = .int lo from rfl, show optI (some hi) = .int hi from rfl, rd_5 hm (by rw [List.length_map]; omega)]
              congr 1
              by_cases hp : hasP (us.map uw) = true
              · rw [if_pos hp, if_pos ⟨hs, hp⟩]
              · rw [if_neg hp, if_neg (fun h => hp h.2)]
            · rw [decide_eq_false hs, if_neg (fun h => hs h.1)]
              walk_at "ev"
              rfl
    · rw [decide_eq_false ha, if_neg ha]
      walk_at "ev"
      rfl
/-- what is told of a text -/
def toldD (z : Str) : Option (List Str × Int × Int) → D
  | some (ms, lo, hi) => .lst [.lst (ms.map .str), .lst (rgD lo (hi + 1)), .str z]
  | none => .lst [.str "text", .str z]


/-! ### what is told -/
theorem rdS_some {z : Str} {ms : List Str} {lo hi : Int} (h : rdS z = some (ms, lo, hi)) : (∀ m ∈ ms, m ∈ allMarks) ∧ ms.length ≤ 13 ∧ ms ≠ [] ∧ 1 ≤ lo ∧ lo ≤ hi ∧ hi ≤ 30 ∧ shownS ms lo hi = z := by
  by_cases hs : (Txt.split z blank).length < 4
  · rw [rdS_short hs] at h; cases h
  · obtain ⟨us, a, b, c, e, hu⟩ := split4 hs
    rw [rdS_long e hu, ← parse_read e] at h
    unfold parseW at h
    split at h
    · cases h
    · split at h
      · unfold tailW at h
        split at h
        · rename_i l' h' e1 e2
          split at h
          · cases h
          · rename_i hlt
            split at h
            · rename_i hg
              split at h
              · rename_i hz
                cases h
                rw [Bool.and_eq_true] at hg
                have hm : ∀ m ∈ us.map uw, isMark m = true := List.all_eq_true.mp hg.1
                exact ⟨fun m h => sortM_all h, sortM_len _, sortM_ne (by rw [hasP_sort hm]; exact hg.2), (pI_some e1).1, by omega, (pI_some e2).2.1, hz⟩
              · cases h
            · cases h
        · cases h
      · cases h
theorem f_told {S : Sto} {z : Str} (hz : z.length ≤ 900) : F__law_told [.str z] S = .ok (toldD z (rdS z)) .tr S := by
  unfold F__law_told b__law_told
  walk_at "ev"
  rw [d_lst (by decide)]
  walk_at "ev"
  rw [f_parse hz]
  cases hr : rdS z with
  | none =>
    unfold resP
    walk_at "ev"
    rw [v_handT (ρ2 := [.val (.str z), .val (.lst [.str "text", .str z]), .no, .exn 3 [("value", .str z)]]) (S2 := S) (by decide +kernel) rfl (by
      show sAsg _ _ [.val (.str z), .val (.lst []), .no, .exn 3 [("value", .str z)]] S = _
      walk_at "ev"
      rw [v_xf1 (d := .str z) (by decide +kernel) rfl]
      walk_at "ev"
      rw [d_lst (by show 2 ≤ lim; decide)]
      walk_at "ev") rfl]
    walk_at "ev"
    rfl
  | some r =>
    obtain ⟨ms, lo, hi⟩ := r
    obtain ⟨hm, hl, hne, h1, h2, h3, hz'⟩ := rdS_some hr
    unfold resP
    walk_at "ev"
    rw [v_meth1 (g := F_Stock_marks) rfl rfl rfl]
    walk_at "ev"
    rw [f_stk_marks]
    walk_at "ev"
    rw [v_meth1 (g := F_Stock_lengths) rfl rfl rfl]
    walk_at "ev"
    rw [f_stk_lengths h1 (by omega) (by omega) h3]
    walk_at "ev"
    rw [v_sp1a (g := F_Stock___str__) rfl rfl (f_str hm hl hne h1 (by omega) (by omega) h3) rfl rfl]
    walk_at "ev"
    rw [d_lst (by show 3 ≤ lim; decide)]
    walk_at "ev"
    rw [hz']
    rfl
theorem f_told_odd {S : Sto} {d : D} {t : Ty} (h : tyDf S d = some t) (ht : t ≠ .str) : F__law_told [d] S = .ok (.lst [.str "text", d]) .tr S := by
  unfold F__law_told b__law_told
  walk_at "ev"
  rw [d_lst (by decide)]
  walk_at "ev"
  rw [f_parse_odd h ht]
  walk_at "ev"
  rw [v_handT (ρ2 := [.val d, .val (.lst [.str "text", d]), .no, .exn 3 [("value", d)]]) (S2 := S) (by decide +kernel) rfl (by
    show sAsg _ _ [.val d, .val (.lst []), .no, .exn 3 [("value", d)]] S = _
    walk_at "ev"
    rw [v_xf1 (d := d) (by decide +kernel) rfl]
    walk_at "ev"
    rw [d_lst (by show 2 ≤ lim; decide)]
    walk_at "ev") rfl]
  walk_at "ev"
/-! ### marks that are drawn -/
theorem f_drawn {S : Sto} {k n : Nat} (hb : Box S k n) (hn : n ≤ 1000) : ∃ ms S', F__law_marks [.cel k, .int 9] S = .ok (.lst (ms.map D.str)) .fs S' ∧ (∀ m ∈ ms, isMark m = true) ∧ hasP ms = true ∧ ms.length ≤ 10 ∧ Box S' k (n + 40) := by
  unfold F__law_marks b__law_marks
  walk_at "ev"
  obtain ⟨r, S1, e1, r0, r1, b1, f1⟩ := f_take (m := 9) hb (by omega) (by decide) (by decide)
  have hit : fRng1 (fCons (fCall F__law_take [] (fCons (fVar 0) (fCons (fVar 1) fNil))) fNil) [.val (.cel k), .val (.int 9), .no, .no, .no] S = .ok (rngD 0 r.toNat) none S1 := by
    walk_at "ev"
    rw [e1]
    walk_at "ev"
    rw [v_rng1a (by omega) (by omega)]
  obtain ⟨acc, S2, e2, ms, hacc, hz, hlen, b2⟩ := lc_inv (vs := [4]) (step := step1 (gN 4) (fC (.bl true)) (fCall F__law_mark [] (fCons (fVar 0) fNil))) hit
    (fun i acc S' => ∃ ms : List Str, acc = ms.map D.str ∧ (∀ m ∈ ms, isMark m = true) ∧ ms.length = i ∧ Box S' k (n + 1 + 3 * i)) (fun _ _ _ _ => trivial) (by
      rintro i d acc S' hd ⟨ms, rfl, hz, rfl, bz⟩
      have hi := (List.getElem?_eq_some_iff.mp hd).1
      rw [rng_len] at hi
      obtain ⟨z, S3, e3, hm, b3, f3⟩ := f_mark bz (by omega)
      refine ⟨_, S3, step_one (y := .str z) (f := .tr) rfl ?_ rfl (by rw [List.length_map]; exact Nat.lt_of_lt_of_le (show ms.length < 100 by omega) (by decide)), ms ++ [z], by rw [List.map_append]; rfl, fun m hm' => ?_, by rw [List.length_append]; rfl, b3.le (by omega)⟩
      · show fCall F__law_mark [] (fCons (fVar 0) fNil) [.val (.cel k), .val (.int 9), .no, .no, .val d] S' = _
        walk_at "ev"
        rw [e3]
      · rcases List.mem_append.mp hm' with q | q
        · exact hz m q
        · rw [List.mem_singleton.mp q]; exact hm) ⟨[], rfl, fun _ h => (nomatch h), rfl, b1⟩
  rw [rng_len] at hlen b2
  rw [show fLc (fRng1 (fCons (fCall F__law_take [] (fCons (fVar 0) (fCons (fVar 1) fNil))) fNil)) (gN 4) (fC (.bl true)) (fCall F__law_mark [] (fCons (fVar 0) fNil)) [4] [.val (.cel k), .val (.int 9), .no, .no, .no] S = .ok (.lst acc) .fs S2 from e2, hacc]
  walk_at "ev"
  rw [List.length_map]
  obtain ⟨q, S3, e3, q0, q1, b3, f3⟩ := f_take (m := (ms.length : Int) + 1) b2 (by omega) (by omega) (by omega)
  rw [e3]
  walk_at "ev"
  obtain ⟨j, rfl⟩ : ∃ j : Nat, q = (j : Int) := ⟨q.toNat, by omega⟩
  rw [cutD_upto]
  obtain ⟨r4, S4, e4, p0, p1, b4, f4⟩ := f_take (m := 4) b3 (by omega) (by decide) (by decide)
  rw [e4]
  walk_at "ev"
  obtain ⟨c, hc, ec⟩ := sign_pick (S := S4) cps_digits p0 p1 (by decide)
  rw [ec]
  walk_at "ev"
  rw [d_add_str (a := Str.ofString "#") (b := ⟨#[c]⟩) (show 1 + 1 ≤ lim by decide)]
  walk_at "ev"
  rw [d_lst (by show 1 ≤ lim; decide)]
  walk_at "ev"
  have lim100 : ∀ {n : Nat}, n ≤ 1000 → n ≤ lim := fun h => Nat.le_trans h (by decide)
  rw [d_add_lst (lim100 (by simp only [List.length_take, List.length_map, List.length_cons, List.length_nil]; omega))]
  walk_at "ev"
  rw [cutD_from, d_add_lst (lim100 (by simp only [List.length_append, List.length_take, List.length_drop, List.length_map, List.length_cons, List.length_nil]; omega))]
  walk_at "ev"
  have hp : isMark (Str.ofString "#" ++ ⟨#[c]⟩) = true := two_mark (a := 35) (by decide) hc
  refine ⟨ms.take j ++ [Str.ofString "#" ++ ⟨#[c]⟩] ++ ms.drop j, S4, by rw [List.map_append, List.map_append, List.map_take, List.map_drop]; rfl, fun m hm => ?_, ?_, ?_, b4.le (by omega)⟩
  · simp only [List.mem_append, List.mem_singleton] at hm
    rcases hm with (q | q) | q
    · exact hz m (List.mem_of_mem_take q)
    · rw [q]; exact hp
    · exact hz m (List.mem_of_mem_drop q)
  · unfold hasP
    rw [List.any_eq_true]
    exact ⟨Str.ofString "#" ++ ⟨#[c]⟩, by simp, by rw [sl_app, show sl (Str.ofString "#") = [35] by decide +kernel]; rfl⟩
  · simp only [List.length_append, List.length_take, List.length_drop, List.length_cons, List.length_nil]; omega


/-! ### a writing that is changed -/
def mu (ps : List Str) : Nat := (ps.map (·.length)).sum + ps.length
theorem mu_app (a b : List Str) : mu (a ++ b) = mu a + mu b := by
  unfold mu; rw [List.map_append, List.sum_append, List.length_append]; omega
theorem mu_cut (l : List Str) (i : Nat) : mu (l.take i) + mu (l.drop i) = mu l := by rw [← mu_app, List.take_append_drop]
theorem mu_one (w : Str) : mu [w] = w.length + 1 := by unfold mu; simp
theorem sum_rev : ∀ l : List Nat, l.reverse.sum = l.sum
  | [] => rfl
  | x :: l => by rw [List.reverse_cons, List.sum_append, sum_rev l]; simp; omega
theorem mu_rev (l : List Str) : mu l.reverse = mu l := by unfold mu; rw [List.map_reverse, sum_rev, List.length_reverse]
theorem mus_split (z : Str) : mu (Txt.split z blank) = z.length + 1 := split_sum z
theorem d_join_ok {S : Sto} {ps : List Str} {n : Nat} (h : mu ps ≤ n) (hn : n ≤ 1000) (hs : ∀ p ∈ ps, sok p) : ∃ z, dJoin (Str.ofString " ") (.lst (ps.map D.str)) S = .ok (.str z) .tr S ∧ z.length ≤ n ∧ sok z := by
  have e6 : blank.length = 1 := by decide +kernel
  unfold mu at h
  refine ⟨Txt.join blank ps, d_join (strsD_map ps) ?_, ?_, sok_join (sok_of " ") hs⟩
  · rw [show (Str.ofString " ").length = 1 from e6]
    exact Nat.le_trans (show _ ≤ 1000 by omega) (by decide)
  · have := slen_join blank ps
    rw [e6] at this
    omega
abbrev someW : List Str := ["_", "#0", "#3", "|2", "/0", ":", "1", "30", "31", "0", "04", "", " ", "#4", "-1", "a"]
abbrev someD : D := .lst [.str "_", .str "#0", .str "#3", .str "|2", .str "/0", .str ":", .str "1", .str "30", .str "31", .str "0", .str "04", .str "", .str " ", .str "#4", .str "-1", .str "a"]
theorem some_len : ∀ w ∈ someW, w.length ≤ 2 := by decide +kernel
theorem some_pick {r : Int} (h0 : 0 ≤ r) (h1 : r < 16) : ∃ w ∈ someW, atI (someW.map D.str) r = some (.str w) := by
  obtain ⟨v, e, hm⟩ := pick (xs := someW.map D.str) h0 (by simpa using h1)
  obtain ⟨w, hw, rfl⟩ := List.mem_map.mp hm
  exact ⟨w, hw, e⟩
section
variable {S : Sto} {k n : Nat} {z w : Str} {ws : List Str} {j : Nat} {way : Int}
theorem ch_10 (hb : Box S k n) (hn : n ≤ 5000) (hz : z.length ≤ 500) (so : sok z) {s2 s3 s4 s5 s6 : Sl} : ∃ z' S', kNox (kRun (b__law_changed_10 [.val (.cel k), .val (.str z), s2, s3, s4, s5, s6, .no, .no] S)) = .ok (.str z') .tr S' ∧ z'.length ≤ z.length + 10 ∧ sok z' ∧ Box S' k (n + 3) := by
  have lim100 : ∀ {n : Nat}, n ≤ 1000 → n ≤ lim := fun h => Nat.le_trans h (by decide)
  unfold b__law_changed_10
  walk_at "ev"
  rw [d_len_str (lim100 (by omega))]
  walk_at "ev"
  obtain ⟨r, S1, e1, r0, r1, b1, f1⟩ := f_take (m := (z.length : Int) + 1) hb (by omega) (by omega) (by omega)
  rw [e1]
  walk_at "ev"
  unfold b__law_changed_11
  walk_at "ev"
  rw [d_lst (by decide)]
  walk_at "ev"
  obtain ⟨q, S2, e2, q0, q1, b2, f2⟩ := f_take (m := 5) b1 (by omega) (by decide) (by decide)
  rw [e2]
  walk_at "ev"
  obtain ⟨v, ev, hv⟩ := pick (xs := ([Str.ofString "", Str.ofString "\n", Str.ofString " ", Str.ofString "0", Str.ofString "_"] : List Str).map D.str) q0 (by simpa using q1)
  obtain ⟨g, hg, rfl⟩ := List.mem_map.mp hv
  have gl : g.length ≤ 1 ∧ sok g := by
    simp only [List.mem_cons, List.not_mem_nil, or_false] at hg
    rcases hg with rfl | rfl | rfl | rfl | rfl
    · exact ⟨by decide +kernel, sok_of _⟩
    · exact ⟨by decide +kernel, sok_of _⟩
    · exact ⟨by decide +kernel, sok_of _⟩
    · exact ⟨by decide +kernel, sok_of _⟩
    · exact ⟨by decide +kernel, sok_of _⟩
  rw [d_ix_lst (ds := [_, _, _, _, _]) ev]
  walk_at "ev"
  unfold b__law_changed_12
  walk_at "ev"
  rw [d_sl_str (lim100 (by omega))]
  walk_at "ev"
  have c1 := slen_cut z none (some r)
  rw [d_add_str (lim100 (by omega))]
  walk_at "ev"
  obtain ⟨p, S3, e3, p0, p1, b3, f3⟩ := f_take (m := 2) b2 (by omega) (by decide) (by decide)
  rw [e3]
  walk_at "ev"
  rw [d_sl_str (lim100 (by omega))]
  walk_at "ev"
  obtain ⟨i, rfl⟩ : ∃ i : Nat, r = (i : Int) := ⟨r.toNat, by omega⟩
  have l1 : (cutS z none (some (i : Int))).length ≤ i := by rw [sl_len, sl_upto, List.length_take]; omega
  have l2 : (cutS z (some ((i : Int) + p)) none).length ≤ z.length - i := by
    obtain ⟨m, rfl⟩ : ∃ m : Nat, p = (m : Int) := ⟨p.toNat, by omega⟩
    rw [sl_len, show ((i : Int) + (m : Int)) = ((i + m : Nat) : Int) by omega, sl_from, List.length_drop, ← sl_len]; omega
  rw [d_add_str (lim100 (by rw [slen_app]; omega))]
  walk_at "ev"
  refine ⟨_, S3, rfl, ?_, sok_app (sok_app (sok_cut so _ _) gl.2) (sok_cut so _ _), b3⟩
  rw [slen_app, slen_app]; omega
theorem ch_5 (hb : Box S k n) (hn : n ≤ 5000) (hz : z.length ≤ 500) (so : sok z) (hw : w ∈ someW) (hws : Txt.split z blank = ws) (hj : j < ws.length) (hway : 0 ≤ way) :
    ∃ z' S', kNox (kRun (b__law_changed_5 [.val (.cel k), .val (.str z), .val (.lst (ws.map D.str)), .val (.int j), .val someD, .val (.str w), .val (.int way), .no, .no] S)) = .ok (.str z') .tr S' ∧ z'.length ≤ z.length + 10 ∧ sok z' ∧ Box S' k (n + 3) := by
  have lim100 : ∀ {n : Nat}, n ≤ 1000 → n ≤ lim := fun h => Nat.le_trans h (by decide)
  have ms := mus_split z
  rw [hws] at ms
  have mj := mu_cut ws j
  have mj1 := mu_cut ws (j + 1)
  have mj2 := mu_cut ws (j + 2)
  have wl := some_len w hw
  have sw : sok w := by
    simp only [someW, List.mem_cons, List.not_mem_nil, or_false] at hw
    rcases hw with rfl | rfl | rfl | rfl | rfl | rfl | rfl | rfl | rfl | rfl | rfl | rfl | rfl | rfl | rfl | rfl <;> exact sok_of _
  have sws : ∀ p ∈ ws, sok p := fun p hp => split_sok so (by rw [hws]; exact hp)
  have wlen : ws.length ≤ z.length + 1 := by have := split_len z; rw [hws] at this; exact this
  have st : ∀ i, ∀ p ∈ ws.take i, sok p := fun i p hp => sws p (List.mem_of_mem_take hp)
  have sd : ∀ i, ∀ p ∈ ws.drop i, sok p := fun i p hp => sws p (List.mem_of_mem_drop hp)
  have k1 : ((j : Int) + 1) = ((j + 1 : Nat) : Int) := by omega
  have k2 : ((j : Int) + 2) = ((j + 2 : Nat) : Int) := by omega
  have fin : ∀ ps : List Str, mu ps ≤ z.length + 5 → (∀ p ∈ ps, sok p) → ∃ z', dJoin (Str.ofString " ") (.lst (ps.map D.str)) S = .ok (.str z') .tr S ∧ z'.length ≤ z.length + 10 ∧ sok z' := fun ps h1 h2 => by
    obtain ⟨z', e, l, s⟩ := d_join_ok (S := S) h1 (by omega) h2
    exact ⟨z', e, by omega, s⟩
  unfold b__law_changed_5
  walk_at "ev"
  by_cases h0 : way = 0
  · rw [decide_eq_true h0]
    walk_at "ev"
    rw [cutD_upto, d_lst (by show 1 ≤ lim; decide)]
    walk_at "ev"
    rw [d_add_lst (lim100 (by simp only [List.length_take, List.length_map, List.length_cons, List.length_nil]; omega))]
    walk_at "ev"
    rw [cutD_from, d_add_lst (lim100 (by simp only [List.length_append, List.length_take, List.length_drop, List.length_map, List.length_cons, List.length_nil]; omega))]
    walk_at "ev"
    obtain ⟨z', e, l, s⟩ := fin (ws.take j ++ [w] ++ ws.drop j) (by rw [mu_app, mu_app, mu_one]; omega) (fun p hp => by
      simp only [List.mem_append, List.mem_singleton] at hp
      rcases hp with (q | q) | q
      · exact st j p q
      · rw [q]; exact sw
      · exact sd j p q)
    rw [show (ws.map D.str).take j ++ [D.str w] ++ (ws.map D.str).drop j = (ws.take j ++ [w] ++ ws.drop j).map D.str by rw [List.map_append, List.map_append, List.map_take, List.map_drop]; rfl, e]
    walk_at "ev"
    exact ⟨z', S, rfl, l, s, hb.le (by omega)⟩
  · rw [decide_eq_false h0]
    walk_at "ev"
    unfold b__law_changed_6
    walk_at "ev"
    by_cases h1 : way = 1
    · rw [decide_eq_true h1]
      walk_at "ev"
      rw [cutD_upto, k1, cutD_from, d_add_lst (lim100 (by simp only [List.length_append, List.length_take, List.length_drop, List.length_map, List.length_cons, List.length_nil]; omega))]
      walk_at "ev"
      obtain ⟨z', e, l, s⟩ := fin (ws.take j ++ ws.drop (j + 1)) (by
        rw [mu_app]
        have : mu (ws.drop (j + 1)) ≤ mu (ws.drop j) := by
          have := mu_cut (ws.drop j) 1
          rw [List.drop_drop] at this
          omega
        omega) (fun p hp => by
        rcases List.mem_append.mp hp with q | q
        · exact st j p q
        · exact sd _ p q)
      rw [show (ws.map D.str).take j ++ (ws.map D.str).drop (j + 1) = (ws.take j ++ ws.drop (j + 1)).map D.str by rw [List.map_append, List.map_take, List.map_drop], e]
      walk_at "ev"
      exact ⟨z', S, rfl, l, s, hb.le (by omega)⟩
    · rw [decide_eq_false h1]
      walk_at "ev"
      unfold b__law_changed_7
      walk_at "ev"
      by_cases h2 : way = 2
      · rw [decide_eq_true h2]
        walk_at "ev"
        rw [cutD_upto, d_lst (by show 1 ≤ lim; decide)]
        walk_at "ev"
        rw [d_add_lst (lim100 (by simp only [List.length_take, List.length_map, List.length_cons, List.length_nil]; omega))]
        walk_at "ev"
        rw [k1, cutD_from, d_add_lst (lim100 (by simp only [List.length_append, List.length_take, List.length_drop, List.length_map, List.length_cons, List.length_nil]; omega))]
        walk_at "ev"
        obtain ⟨z', e, l, s⟩ := fin (ws.take j ++ [w] ++ ws.drop (j + 1)) (by
          rw [mu_app, mu_app, mu_one]
          have : mu (ws.drop (j + 1)) ≤ mu (ws.drop j) := by
            have := mu_cut (ws.drop j) 1
            rw [List.drop_drop] at this
            omega
          omega) (fun p hp => by
          simp only [List.mem_append, List.mem_singleton] at hp
          rcases hp with (q | q) | q
          · exact st j p q
          · rw [q]; exact sw
          · exact sd _ p q)
        rw [show (ws.map D.str).take j ++ [D.str w] ++ (ws.map D.str).drop (j + 1) = (ws.take j ++ [w] ++ ws.drop (j + 1)).map D.str by rw [List.map_append, List.map_append, List.map_take, List.map_drop]; rfl, e]
        walk_at "ev"
        exact ⟨z', S, rfl, l, s, hb.le (by omega)⟩
      · rw [decide_eq_false h2]
        walk_at "ev"
        unfold b__law_changed_8
        walk_at "ev"
        by_cases h3 : way = 3
        · rw [decide_eq_true h3]
          walk_at "ev"
          rw [cutD_from, cutD_upto, d_add_lst (lim100 (by simp only [List.length_append, List.length_take, List.length_drop, List.length_map, List.length_cons, List.length_nil]; omega))]
          walk_at "ev"
          obtain ⟨z', e, l, s⟩ := fin (ws.drop j ++ ws.take j) (by rw [mu_app]; omega) (fun p hp => by
            rcases List.mem_append.mp hp with q | q
            · exact sd j p q
            · exact st j p q)
          rw [show (ws.map D.str).drop j ++ (ws.map D.str).take j = (ws.drop j ++ ws.take j).map D.str by rw [List.map_append, List.map_take, List.map_drop], e]
          walk_at "ev"
          exact ⟨z', S, rfl, l, s, hb.le (by omega)⟩
        · rw [decide_eq_false h3]
          walk_at "ev"
          unfold b__law_changed_9
          walk_at "ev"
          by_cases h4 : way = 4
          · rw [decide_eq_true h4]
            walk_at "ev"
            rw [cutD_upto, k2, cutD_mid, show j + 2 - j = 2 by omega]
            rw [show ∀ (l : List D) (f : Fl), kRev (.lst l) f S = .ok (.lst l.reverse) .fs S from fun _ _ => rfl]
            walk_at "ev"
            rw [d_add_lst (lim100 (by simp only [List.length_append, List.length_reverse, List.length_take, List.length_drop, List.length_map, List.length_cons, List.length_nil]; omega))]
            walk_at "ev"
            rw [k2, cutD_from, d_add_lst (lim100 (by simp only [List.length_append, List.length_reverse, List.length_take, List.length_drop, List.length_map, List.length_cons, List.length_nil]; omega))]
            walk_at "ev"
            obtain ⟨z', e, l, s⟩ := fin (ws.take j ++ ((ws.drop j).take 2).reverse ++ ws.drop (j + 2)) (by
              rw [mu_app, mu_app, mu_rev]
              have := mu_cut (ws.drop j) 2
              rw [List.drop_drop] at this
              omega) (fun p hp => by
              simp only [List.mem_append, List.mem_reverse] at hp
              rcases hp with (q | q) | q
              · exact st j p q
              · exact sd j p (List.mem_of_mem_take q)
              · exact sd _ p q)
            rw [show (ws.map D.str).take j ++ (((ws.map D.str).drop j).take 2).reverse ++ (ws.map D.str).drop (j + 2) = (ws.take j ++ ((ws.drop j).take 2).reverse ++ ws.drop (j + 2)).map D.str by
              rw [List.map_append, List.map_append, List.map_take, List.map_drop, List.map_reverse, List.map_take, List.map_drop], e]
            walk_at "ev"
            exact ⟨z', S, rfl, l, s, hb.le (by omega)⟩
          · rw [decide_eq_false h4]
            walk_at "ev"
            exact ch_10 hb hn hz so
theorem f_changed (hb : Box S k n) (hn : n ≤ 4000) (hz : z.length ≤ 500) (so : sok z) : ∃ z' S', F__law_changed [.cel k, .str z] S = .ok (.str z') .tr S' ∧ z'.length ≤ z.length + 10 ∧ sok z' ∧ Box S' k (n + 10) := by
  have lim100 : ∀ {n : Nat}, n ≤ 1000 → n ≤ lim := fun h => Nat.le_trans h (by decide)
  unfold F__law_changed b__law_changed
  walk_at "ev"
  rw [d_split (by decide +kernel) (lim100 (by omega))]
  walk_at "ev"
  unfold b__law_changed_1
  walk_at "ev"
  rw [List.length_map]
  have hlen := split_len z
  have hne : 0 < (Txt.split z blank).length := List.length_pos_iff.mpr (split_ne z)
  obtain ⟨r, S1, e1, r0, r1, b1, f1⟩ := f_take (m := ((Txt.split z blank).length : Int)) hb (by omega) (by omega) (by omega)
  rw [e1]
  walk_at "ev"
  unfold b__law_changed_2
  walk_at "ev"
  rw [d_lst (by decide)]
  walk_at "ev"
  unfold b__law_changed_3
  walk_at "ev"
  obtain ⟨q, S2, e2, q0, q1, b2, f2⟩ := f_take (m := 16) b1 (by omega) (by decide) (by decide)
  rw [e2]
  walk_at "ev"
  obtain ⟨w, hw, ew⟩ := some_pick q0 q1
  rw [d_ix_lst (ds := [_, _, _, _, _, _, _, _, _, _, _, _, _, _, _, _]) ew]
  walk_at "ev"
  unfold b__law_changed_4
  walk_at "ev"
  obtain ⟨p, S3, e3, p0, p1, b3, f3⟩ := f_take (m := 6) b2 (by omega) (by decide) (by decide)
  rw [e3]
  walk_at "ev"
  obtain ⟨j, rfl⟩ : ∃ j : Nat, r = (j : Int) := ⟨r.toNat, by omega⟩
  obtain ⟨z', S4, e4, l, s, b4⟩ := ch_5 (w := w) (j := j) (way := p) b3 (by omega) hz so hw rfl (by omega) p0
  exact ⟨z', S4, e4, l, s, b4.le (by omega)⟩
end


/-! ### the law -/
theorem rg_ints (a b : Int) : rgD a b = ((List.range (b - a).toNat).map fun i => a + (i : Nat)).map D.int := by unfold rgD; rw [List.map_map]; rfl
theorem wt_strs : ∀ (l : List Str) (n : Nat), (∀ z ∈ l, z.length ≤ n) → PyData.weightAll (l.map PyData.str) ≤ (n + 1) * l.length
  | [], n, _ => by rw [List.map_nil, wt_nil]; omega
  | z :: l, n, h => by
    have ih := wt_strs l n fun w hw => h w (List.mem_cons_of_mem _ hw)
    have := h z List.mem_cons_self
    rw [List.map_cons, wt_cons, wt_str, List.length_cons, Nat.mul_add]; omega
theorem wt_ints : ∀ (l : List Int), (∀ i ∈ l, -(10 ^ 40) < i ∧ i < 10 ^ 40) → PyData.weightAll (l.map PyData.int) ≤ 2001 * l.length
  | [], _ => by rw [List.map_nil, wt_nil]; omega
  | i :: l, h => by
    have ih := wt_ints l fun w hw => h w (List.mem_cons_of_mem _ hw)
    have h0 := h i List.mem_cons_self
    have := wt_int h0.1 h0.2
    rw [List.map_cons, wt_cons, List.length_cons]; omega
theorem repr_told {z : Str} {ms : List Str} {lo hi : Int} (hz : z.length ≤ 900) (so : sok z) (hm : ∀ m ∈ ms, m ∈ allMarks) (hl : ms.length ≤ 13) (h1 : 1 ≤ lo) (h2 : lo ≤ hi) (h3 : hi ≤ 30) : ∃ w, ∀ (t : Bool) (S : Sto), dRepr [toldD z (some (ms, lo, hi))] t S = .ok (.str w) .tr S := by
  refine ⟨_, fun t S => d_repr (p := .list [.list (ms.map PyData.str), .list (((List.range (hi + 1 - lo).toNat).map fun i => lo + (i : Nat)).map PyData.int), .str z]) ?_ ?_⟩
  · unfold toldD
    refine py_lst (.cons (py_lst (lst_strs ms)) (.cons (py_lst ?_) (.cons (py_str S z) .nil)))
    rw [rg_ints]
    exact py_ints S _
  · have hr : ∀ i ∈ (List.range (hi + 1 - lo).toNat).map (fun i => lo + (i : Nat)), -(10 ^ 40) < i ∧ i < 10 ^ 40 := fun i hi' => by
      obtain ⟨j, hj, rfl⟩ := List.mem_map.mp hi'
      have := List.mem_range.mp hj
      constructor <;> omega
    refine Shp.okd (.lst (n := 1) (fun e he => ?_)) (by decide) ?_
    · simp only [List.mem_cons, List.not_mem_nil, or_false] at he
      rcases he with rfl | rfl | rfl
      · exact .lst (n := 0) fun d hd => by
          obtain ⟨m, hm', rfl⟩ := List.mem_map.mp hd
          exact .str (sok_mark (allM_mark m (hm m hm')))
      · exact .lst (n := 0) fun d hd => by
          obtain ⟨i, hi', rfl⟩ := List.mem_map.mp hd
          exact .int (hr i hi').1 (hr i hi').2
      · exact .str so
    · have w1 := wt_strs ms 2 fun m h => mark_len (allM_mark m (hm m h))
      have w2 := wt_ints _ hr
      rw [List.length_map, List.length_range] at w2
      rw [wt_list, wt_cons, wt_cons, wt_cons, wt_nil, wt_str, wt_list, wt_list]
      omega
theorem repr_two {d : D} {p : PyData} {S : Sto} (hd : Py S d p) (hs : Shp 5 p) (hw : p.weight ≤ 190000) (t : Bool) : ∃ w, dRepr [.lst [.str "text", d]] t S = .ok (.str w) .tr S :=
  ⟨_, d_repr (p := .list [.str "text", p]) (py_lst (.cons (py_str S _) (.cons hd .nil))) (Okd.two (sok_of "text") (by decide +kernel) hs hw)⟩
section
variable {S : Sto} {k n : Nat} {z : Str} {s1 s2 s3 s4 s5 s7 s8 s9 s10 s11 : Sl}
theorem r_14 {d : D} {p : PyData} {t : Ty} (hd : Py S d p) (hs : Shp 5 p) (hw : p.weight ≤ 190000) (ht : tyDf S d = some t) (hn : t ≠ .str) : kNox (kRun (b__law_right_14 [.val (.cel k), s1, s2, s3, s4, s5, .val (.str z), s7, s8, s9, .val d, s11] S)) = .ok (.bl true) .tr S := by
  unfold b__law_right_14
  walk_at "ev"
  rw [f_told_odd ht hn]
  walk_at "ev"
  obtain ⟨w, ew⟩ := repr_two hd hs hw true
  rw [ew]
  walk_at "ev"
  rw [d_lst (by show 2 ≤ lim; decide)]
  walk_at "ev"
  rw [ew]
  walk_at "ev"
theorem r_13 (hb : Box S k n) (hn : n ≤ 5000) (hz : z.length ≤ 400) (so : sok z) : ∃ S', kNox (kRun (b__law_right_13 [.val (.cel k), s1, s2, s3, s4, s5, .val (.str z), s7, s8, s9, s10, s11] S)) = .ok (.bl true) .tr S' := by
  unfold b__law_right_13
  walk_at "ev"
  rw [d_lst (ds := [.str z]) (by show 1 ≤ lim; decide)]
  walk_at "ev"
  rw [d_tup (by decide)]
  walk_at "ev"
  rw [d_lst (by decide)]
  walk_at "ev"
  rw [d_lst (by show 7 ≤ lim; decide)]
  walk_at "ev"
  obtain ⟨r, S1, e1, r0, r1, b1, f1⟩ := f_take (m := 7) hb (by omega) (by decide) (by decide)
  rw [e1]
  walk_at "ev"
  have pk : ∀ (i : Nat) (d : D), ([D.non, .int 0, .bl true, .lst [.str z], .tup [.str "#0"], .dct [], .lst []] : List D)[i]? = some d → r = (i : Int) → dIx (.lst [D.non, .int 0, .bl true, .lst [.str z], .tup [.str "#0"], .dct [], .lst []]) (.int r) S1 = .ok d .tr S1 := fun i d h e => by
    rw [e]; exact d_ix_lst (pick_at h)
  have : r = 0 ∨ r = 1 ∨ r = 2 ∨ r = 3 ∨ r = 4 ∨ r = 5 ∨ r = 6 := by omega
  rcases this with h | h | h | h | h | h | h
  · rw [pk 0 _ rfl (by rw [h]; rfl)]; walk_at "ev"
    exact ⟨S1, r_14 (py_non S1) .non (by rw [wt_non]; omega) rfl (by decide)⟩
  · rw [pk 1 _ rfl (by rw [h]; rfl)]; walk_at "ev"
    exact ⟨S1, r_14 (py_int S1 0) (.int (by decide) (by decide)) (Nat.le_trans (wt_int (by decide) (by decide)) (by decide)) rfl (by decide)⟩
  · rw [pk 2 _ rfl (by rw [h]; rfl)]; walk_at "ev"
    exact ⟨S1, r_14 (py_bl S1 true) (.bl true) (by rw [wt_bl]; omega) rfl (by decide)⟩
  · rw [pk 3 _ rfl (by rw [h]; rfl)]; walk_at "ev"
    exact ⟨S1, r_14 (py_lst (.cons (py_str S1 z) .nil)) (.lst (n := 4) fun d hd => by rw [List.mem_singleton.mp hd]; exact .str so) (by rw [wt_list, wt_cons, wt_nil, wt_str]; omega) rfl (by decide)⟩
  · rw [pk 4 _ rfl (by rw [h]; rfl)]; walk_at "ev"
    exact ⟨S1, r_14 (py_tup (.cons (py_str S1 _) .nil)) (.tup (n := 4) fun d hd => by rw [List.mem_singleton.mp hd]; exact .str (sok_of "#0")) (by rw [wt_tup, wt_cons, wt_nil, wt_str]; decide +kernel) rfl (by decide)⟩
  · rw [pk 5 _ rfl (by rw [h]; rfl)]; walk_at "ev"
    exact ⟨S1, r_14 (py_dct S1) (.dct (n := 4)) (by rw [wt_dct]; omega) rfl (by decide)⟩
  · rw [pk 6 _ rfl (by rw [h]; rfl)]; walk_at "ev"
    exact ⟨S1, r_14 (py_lst .nil) (.lst (n := 4) fun d hd => (nomatch hd)) (by rw [wt_list, wt_nil]; omega) rfl (by decide)⟩
theorem r_9 (hb : Box S k n) (hn : n ≤ 5000) (hz : z.length ≤ 400) (so : sok z) : ∃ S', kNox (kRun (b__law_right_9 [.val (.cel k), s1, s2, s3, s4, s5, .val (.str z), s7, s8, s9, s10, s11] S)) = .ok (.bl true) .tr S' := by
  unfold b__law_right_9
  walk_at "ev"
  rw [f_read (by omega) so]
  have fin : ∀ (d8 d9 : D), d9 = toldD z (rdS z) → (∃ w, ∀ (t : Bool), dRepr [toldD z (rdS z)] t S = .ok (.str w) .tr S) → ∃ S', kNox (kRun (b__law_right_12 [.val (.cel k), s1, s2, s3, s4, s5, .val (.str z), s7, .val d8, .val d9, s10, s11] S)) = .ok (.bl true) .tr S' := by
    rintro d8 d9 rfl ⟨w, hw⟩
    unfold b__law_right_12
    walk_at "ev"
    rw [f_told (by omega)]
    walk_at "ev"
    rw [hw]
    walk_at "ev"
    rw [hw]
    walk_at "ev"
    exact r_13 hb hn hz so
  cases hr : rdS z with
  | none =>
    unfold rdD
    walk_at "ev"
    unfold b__law_right_10
    walk_at "ev"
    rw [d_lst (by show 2 ≤ lim; decide)]
    walk_at "ev"
    unfold b__law_right_11
    walk_at "ev"
    rw [show Fx.isNon D.non = true from rfl]
    walk_at "ev"
    refine fin _ _ (by rw [hr]; rfl) ?_
    rw [hr]
    obtain ⟨w, hw⟩ := repr_two (d := .str z) (S := S) (py_str S z) (.str so) (by rw [wt_str]; omega) true
    exact ⟨w, fun t => by cases t <;> exact hw⟩
  | some r =>
    obtain ⟨ms, lo, hi⟩ := r
    obtain ⟨hm, hl, hne, h1, h2, h3, hz'⟩ := rdS_some hr
    unfold rdD
    walk_at "ev"
    unfold b__law_right_10
    walk_at "ev"
    rw [d_lst (by show 2 ≤ lim; decide)]
    walk_at "ev"
    unfold b__law_right_11
    walk_at "ev"
    rw [show Fx.isNon (D.lst [D.lst (ms.map D.str), .int lo, .int hi]) = false from rfl]
    walk_at "ev"
    rw [d_ix_lst (pick0 _ _)]
    walk_at "ev"
    rw [d_ix_lst (pick1 _ _ _)]
    walk_at "ev"
    rw [d_ix_lst (show atI [D.lst (ms.map D.str), .int lo, .int hi] 2 = some (.int hi) from rfl)]
    walk_at "ev"
    rw [v_lrg2 (by unfold rgOk; simp only [decide_eq_true_eq]; omega)]
    walk_at "ev"
    rw [d_lst (by show 3 ≤ lim; decide)]
    walk_at "ev"
    refine fin _ _ (by rw [hr]; rfl) ?_
    rw [hr]
    obtain ⟨w, hw⟩ := repr_told (z := z) (by omega) so hm hl h1 h2 h3
    exact ⟨w, fun t => hw t S⟩
theorem r_8 (hb : Box S k n) (hn : n ≤ 3000) (hz : z.length ≤ 100) (so : sok z) : ∃ S', kNox (kRun (b__law_right_8 [.val (.cel k), s1, s2, s3, s4, s5, .val (.str z), s7, s8, s9, s10, s11] S)) = .ok (.bl true) .tr S' := by
  unfold b__law_right_8
  walk_at "ev"
  obtain ⟨r, S1, e1, r0, r1, b1, f1⟩ := f_take (m := 2) hb (by omega) (by decide) (by decide)
  rw [e1]
  walk_at "ev"
  rw [v_rng1a (by omega) (by omega)]
  walk_at "ev"
  obtain ⟨ρ', S', e, z', s7', rfl, hz', so', b2⟩ := loop_inv (g := none) (set := gN 7) (ds := rngD 0 (1 + r).toNat)
    (body := sAsg (fCall F__law_changed [] (fCons (fVar 0) (fCons (fVar 6) (fNil)))) (gN 6))
    (fun i ρ S' => ∃ z' s7', ρ = [.val (.cel k), s1, s2, s3, s4, s5, .val (.str z'), s7', s8, s9, s10, s11] ∧ z'.length ≤ 100 + 10 * i ∧ sok z' ∧ Box S' k (n + 1 + 10 * i)) (fun _ _ _ _ => trivial) (by
      rintro i d ρ S2 hd ⟨z', s7', rfl, hz', so', b2⟩
      have hi := (List.getElem?_eq_some_iff.mp hd).1
      rw [rng_len] at hi
      obtain ⟨z2, S3, e3, l3, so3, b3⟩ := f_changed b2 (by omega) (by omega) so'
      refine ⟨[.val (.cel k), s1, s2, s3, s4, s5, .val (.str z'), .val d, s8, s9, s10, s11], [.val (.cel k), s1, s2, s3, s4, s5, .val (.str z2), .val d, s8, s9, s10, s11], S3, rfl, .inl ?_, z2, _, rfl, by omega, so3, b3.le (by omega)⟩
      walk_at "ev"
      rw [e3]
      walk_at "ev") (ρ := [.val (.cel k), s1, s2, s3, s4, s5, .val (.str z), s7, s8, s9, s10, s11]) (S := S1) ⟨z, s7, rfl, by omega, so, b1⟩
  rw [e]
  walk_at "ev"
  rw [rng_len] at hz' b2
  exact r_9 b2 (by omega) (by omega) so'
theorem f_right (hb : Box S k n) (hn : n ≤ 100) : ∃ S', F__law_right [.cel k] S = .ok (.bl true) .tr S' := by
  have lim100 : ∀ {n : Nat}, n ≤ 1000 → n ≤ lim := fun h => Nat.le_trans h (by decide)
  unfold F__law_right b__law_right
  walk_at "ev"
  obtain ⟨ms, S1, e1, hm, hp, hl, b1⟩ := f_drawn hb (by omega)
  rw [e1]
  walk_at "ev"
  unfold b__law_right_1
  walk_at "ev"
  rw [f_sorted]
  walk_at "ev"
  unfold b__law_right_2
  walk_at "ev"
  obtain ⟨r, S2, e2, r0, r1, b2, f2⟩ := f_take (m := 30) b1 (by omega) (by decide) (by decide)
  rw [e2]
  walk_at "ev"
  unfold b__law_right_3
  walk_at "ev"
  obtain ⟨q, S3, e3, q0, q1, b3, f3⟩ := f_take (m := 31 - (1 + r)) b2 (by omega) (by omega) (by omega)
  rw [e3]
  walk_at "ev"
  generalize hlo : 1 + r = lo at *
  generalize hhi : lo + q = hi at *
  have l1 : 1 ≤ lo := by omega
  have l2 : lo ≤ hi := by omega
  have l3 : hi ≤ 30 := by omega
  have hsa : ∀ m ∈ sortM ms, m ∈ allMarks := fun m h => sortM_all h
  have hsl := sortM_len ms
  have hsp : hasP (sortM ms) = true := by rw [hasP_sort hm]; exact hp
  have hne := sortM_ne hsp
  unfold b__law_right_4
  walk_at "ev"
  rw [lc_map (S1 := S3) (ds := (sortM ms).map D.str) (g := none) (f := fun d => match d with | .str z => .str (wd z) | _ => .non) (by walk_at "ev") trivial (by rw [List.length_map]; exact lim100 (by omega)) (fun d hd => by
    obtain ⟨m, hm, rfl⟩ := List.mem_map.mp hd
    refine ⟨_, .tr, rfl, ?_, rfl⟩
    show fIf (fOp (dEqv false) (fVar 11) (fC (.str " "))) (fC (.str "_")) (fVar 11) [.val _, .val _, .val _, .val _, .val _, .no, .no, .no, .no, .no, .no, .val (.str m)] S3 = _
    walk_at "ev"
    unfold wd
    by_cases e : m = blank
    · rw [decide_eq_true e, if_pos e]; walk_at "ev"
    · rw [decide_eq_false e, if_neg e]; walk_at "ev")]
  rw [show ((sortM ms).map D.str).map (fun d => match d with | .str z => D.str (wd z) | _ => .non) = ((sortM ms).map wd).map D.str by rw [List.map_map, List.map_map]; rfl]
  walk_at "ev"
  unfold b__law_right_5
  walk_at "ev"
  rw [d_str_int (log_int (by omega) (by omega))]
  walk_at "ev"
  rw [d_str_int (log_int (by omega) (by omega))]
  walk_at "ev"
  rw [d_lst (by show 3 ≤ lim; decide)]
  walk_at "ev"
  rw [d_add_lst (lim100 (by simp only [List.length_map, List.length_cons, List.length_nil]; omega))]
  walk_at "ev"
  have sl0 : (shownS (sortM ms) lo hi).length ≤ 100 := shown_len hsa hsl l1 (by omega) (by omega) l3
  have so0 : sok (shownS (sortM ms) lo hi) := by
    unfold shownS
    refine sok_join (sok_of " ") fun p hp => ?_
    unfold wordsOf at hp
    rcases List.mem_append.mp hp with h | h
    · obtain ⟨m, hm', rfl⟩ := List.mem_map.mp h
      unfold wd
      split
      · exact sok_of "_"
      · exact sok_mark (allM_mark m (hsa m hm'))
    · simp only [List.mem_cons, List.not_mem_nil, or_false] at h
      rcases h with rfl | rfl | rfl
      · exact sok_of ":"
      · exact sok_of _
      · exact sok_of _
  have sum2 : ∀ l : List Str, (∀ z ∈ l, z ∈ allMarks) → ((l.map wd).map (·.length)).sum ≤ 2 * l.length := by
    intro l
    induction l with
    | nil => intro _; simp
    | cons m l ih =>
      intro h
      have := ih fun z hz => h z (List.mem_cons_of_mem _ hz)
      have := (allM_wd m (h m List.mem_cons_self)).2.2.2.2
      simp only [List.map_cons, List.sum_cons, List.length_cons]
      omega
  rw [show ((sortM ms).map wd).map D.str ++ [D.str (Str.ofString ":"), D.str (Str.ofString (toString lo)), D.str (Str.ofString (toString hi))] = (wordsOf (sortM ms) lo hi).map D.str by unfold wordsOf; rw [List.map_append]; rfl]
  rw [d_join (strsD_map _) (lim100 (by
    have := sum2 _ hsa
    have e3 := (num_ok' (n := lo) l1 (by omega)).2.2.2
    have e4 := (num_ok' (n := hi) (by omega) l3).2.2.2
    have e5 : colon.length = 1 := by decide +kernel
    have e6 : (Str.ofString " ").length = 1 := by decide +kernel
    unfold wordsOf
    simp only [List.map_append, List.sum_append, List.map_cons, List.map_nil, List.sum_cons, List.sum_nil, List.length_append, List.length_map, List.length_cons, List.length_nil, e5, e6]
    omega))]
  rw [show Txt.join (Str.ofString " ") (wordsOf (sortM ms) lo hi) = shownS (sortM ms) lo hi from rfl]
  walk_at "ev"
  unfold b__law_right_6
  walk_at "ev"
  rw [v_mkK2 (n := 1) (m := 2) (ds := [_]) (zs := [_, _]) rfl rfl]
  rw [show kMk 7 F_Stock___init__ (g_Stock___init___shortest_longest [D.lst (List.map D.str ms)] [] [D.int lo, D.int hi]) S3 = .ok (stk (sortM ms) lo hi) .fs S3 from v_mk1 (f_init (by omega) hm hp l1 l2 l3)]
  walk_at "ev"
  rw [v_sp1a (g := F_Stock___str__) rfl rfl (f_str hsa hsl hne l1 (by omega) (by omega) l3) rfl rfl]
  walk_at "ev"
  unfold b__law_right_7
  walk_at "ev"
  rw [f_told (by omega)]
  obtain ⟨q1, q2⟩ := read_shown (ms := sortM ms) (sortM_idem ms).symm hsp l1 l2 l3
  rw [rdS_long q1 (by simpa using hne), q2]
  walk_at "ev"
  obtain ⟨w, hw⟩ := repr_told (z := shownS (sortM ms) lo hi) (by omega) so0 hsa hsl l1 l2 l3
  rw [hw]
  walk_at "ev"
  rw [v_lrg2 (by unfold rgOk; simp only [decide_eq_true_eq]; omega)]
  walk_at "ev"
  rw [d_lst (by show 3 ≤ lim; decide)]
  walk_at "ev"
  rw [show dRepr [D.lst [D.lst ((sortM ms).map D.str), D.lst (rgD lo (hi + 1)), D.str (shownS (sortM ms) lo hi)]] true S3 = .ok (.str w) .tr S3 from hw true S3]
  walk_at "ev"
  exact r_8 b3 (by omega) sl0 so0
end
theorem law_true (ns : List Int) (hl : ns.length ≤ 63) : ∃ fl S', F_law [.fro true (intsD ns)] [] = .ok (.bl true) fl S' := by
  unfold F_law b_law
  walk_at "ev"
  have hil : (intsD ns).length ≤ 63 := by unfold intsD; rw [List.length_map]; exact hl
  generalize hN : (if (if ((intsD ns).length : Int) < 20 then ((intsD ns).length : Int) else 20) > 2 then (if ((intsD ns).length : Int) < 20 then ((intsD ns).length : Int) else 20) else 2) = N
  have hN' : 0 ≤ N ∧ N ≤ 20 := by rw [← hN]; split <;> split <;> omega
  rw [v_rng1a (by omega) (by omega)]
  walk_at "ev"
  obtain ⟨ρ', S', e, s1, rfl⟩ := loop_inv (g := none) (set := gN 1) (ds := rngD 0 N.toNat)
    (body := sIf (fNot (fCall F__law_right [] (fCons (fAdo (fCall F__law_purse [] (fCons (fCall F__law_cell [] (fCons (fVar 0) (fCons (fVar 1) (fNil)))) (fNil)))) (fNil)))) (sRet (fC (.bl false))) (sNext))
    (fun i ρ S' => ∃ s1, ρ = [.val (.fro true (intsD ns)), s1]) (fun _ _ _ _ => trivial) (by
      rintro i d ρ S1 hd ⟨s1, rfl⟩
      have hi := (List.getElem?_eq_some_iff.mp hd).1
      rw [rng_len] at hi
      rw [rng_at hi] at hd
      cases hd
      rw [Int.zero_add]
      obtain ⟨c, ec⟩ := f_cell (ns := ns) (k := ((i : Nat) : Int)) (S := S1) (by omega) (by omega)
      obtain ⟨ds, ep, x, y, rfl, hx, hy, hy2⟩ := f_purse (c := c) (S := S1)
      have hb : Box (S1 ++ [.lst [.int x, .int y, .int 0]]) S1.length 0 := ⟨x, y, 0, by rw [List.getElem?_append_right (Nat.le_refl _), Nat.sub_self]; rfl, hx, hy, hy2, by decide, by decide⟩
      obtain ⟨S2, e2⟩ := f_right hb (by decide)
      refine ⟨[.val (.fro true (intsD ns)), .val (.int ((i : Nat) : Int))], [.val (.fro true (intsD ns)), .val (.int ((i : Nat) : Int))], S2, rfl, .inl ?_, .val (.int ((i : Nat) : Int)), rfl⟩
      walk_at "ev"
      rw [ec]
      walk_at "ev"
      rw [ep]
      walk_at "ev"
      rw [e2]
      walk_at "ev") (ρ := [.val (.fro true (intsD ns)), .no]) (S := []) ⟨_, rfl⟩
  rw [e]
  walk_at "ev"
  exact ⟨_, _, rfl⟩


theorem all_mk {l : PySem.W.OpenLaw} {w : World} {K : PySem.W.Frag} {h : Heap} {mg : Str → Option Value} {fa : Addr} (X : K.In h) (G : h.Ns mainGlobals mg) (hfa : mg "law" = some (.ref fa))
    {C0 : Addr}
    {C2 : Addr}
    {C3 : Addr}
    {C5 : Addr}
    {C7 : Addr}
    {f0 : Addr} {od0 an0 : Option Addr} {sl0 : Array (Option Value)} {oc0 dc0 pm0 cd0 ct0 : Value} {kV0 : Value}
    {f1 : Addr} {od1 an1 : Option Addr} {sl1 : Array (Option Value)} {oc1 dc1 pm1 cd1 ct1 : Value} {kV1 : Value}
    {f2 : Addr} {od2 an2 : Option Addr} {sl2 : Array (Option Value)} {oc2 dc2 pm2 cd2 ct2 : Value} {kV2 : Value}
    {f3 : Addr} {od3 an3 : Option Addr} {sl3 : Array (Option Value)} {oc3 dc3 pm3 cd3 ct3 : Value} {D3 : Addr}
    {kt3_0 : Tok}
    {kt3_1 : Tok}
    {f4 : Addr} {od4 an4 : Option Addr} {sl4 : Array (Option Value)} {oc4 dc4 pm4 cd4 ct4 : Value} {kV4 : Value}
    {f5 : Addr} {od5 an5 : Option Addr} {sl5 : Array (Option Value)} {oc5 dc5 pm5 cd5 ct5 : Value} {kV5 : Value}
    {f6 : Addr} {od6 an6 : Option Addr} {sl6 : Array (Option Value)} {oc6 dc6 pm6 cd6 ct6 : Value} {kV6 : Value}
    {f7 : Addr} {od7 an7 : Option Addr} {sl7 : Array (Option Value)} {oc7 dc7 pm7 cd7 ct7 : Value} {kV7 : Value}
    {f8 : Addr} {od8 an8 : Option Addr} {sl8 : Array (Option Value)} {oc8 dc8 pm8 cd8 ct8 : Value} {kV8 : Value}
    {f9 : Addr} {od9 an9 : Option Addr} {sl9 : Array (Option Value)} {oc9 dc9 pm9 cd9 ct9 : Value} {kV9 : Value}
    {f10 : Addr} {od10 an10 : Option Addr} {sl10 : Array (Option Value)} {oc10 dc10 pm10 cd10 ct10 : Value} {kV10 : Value}
    {f11 : Addr} {od11 an11 : Option Addr} {sl11 : Array (Option Value)} {oc11 dc11 pm11 cd11 ct11 : Value} {kV11 : Value}
    {f12 : Addr} {od12 an12 : Option Addr} {sl12 : Array (Option Value)} {oc12 dc12 pm12 cd12 ct12 : Value} {kV12 : Value}
    {f13 : Addr} {od13 an13 : Option Addr} {sl13 : Array (Option Value)} {oc13 dc13 pm13 cd13 ct13 : Value} {kV13 : Value}
    {f14 : Addr} {od14 an14 : Option Addr} {sl14 : Array (Option Value)} {oc14 dc14 pm14 cd14 ct14 : Value} {kV14 : Value}
    {f15 : Addr} {od15 an15 : Option Addr} {sl15 : Array (Option Value)} {oc15 dc15 pm15 cd15 ct15 : Value} {kV15 : Value}
    {f16 : Addr} {od16 an16 : Option Addr} {sl16 : Array (Option Value)} {oc16 dc16 pm16 cd16 ct16 : Value} {kV16 : Value}
    {f17 : Addr} {od17 an17 : Option Addr} {sl17 : Array (Option Value)} {oc17 dc17 pm17 cd17 ct17 : Value} {kV17 : Value}
    {f18 : Addr} {od18 an18 : Option Addr} {sl18 : Array (Option Value)} {oc18 dc18 pm18 cd18 ct18 : Value} {kV18 : Value}
    {f19 : Addr} {od19 an19 : Option Addr} {sl19 : Array (Option Value)} {oc19 dc19 pm19 cd19 ct19 : Value} {D19 : Addr}
    {kt19_0 : Tok}
    {kt19_1 : Tok}
    {f20 : Addr} {od20 an20 : Option Addr} {sl20 : Array (Option Value)} {oc20 dc20 pm20 cd20 ct20 : Value} {kV20 : Value}
    {pp20 : Addr} {rs20 : List Value}
    {f21 : Addr} {od21 an21 : Option Addr} {sl21 : Array (Option Value)} {oc21 dc21 pm21 cd21 ct21 : Value} {kV21 : Value}
    {f22 : Addr} {od22 an22 : Option Addr} {sl22 : Array (Option Value)} {oc22 dc22 pm22 cd22 ct22 : Value} {kV22 : Value}
    {f23 : Addr} {od23 an23 : Option Addr} {sl23 : Array (Option Value)} {oc23 dc23 pm23 cd23 ct23 : Value} {kV23 : Value}
    {nm2 q2 : Str} {NN2 : Addr} {bs2 : List Value} {sn2 : List Str} {sub2 : List Value} {ab2 : Bool} {col2 : Option Bool} {dd2 : Option Addr} {m02 m12 m22 m32 m52 : Option Value}
    {f24 : Addr} {od24 an24 : Option Addr} {sl24 : Array (Option Value)} {oc24 kV24 dc24 pm24 cd24 ct24 : Value}
    {nm3 q3 : Str} {NN3 : Addr} {bs3 : List Value} {sn3 : List Str} {sub3 : List Value} {ab3 : Bool} {col3 : Option Bool} {dd3 : Option Addr} {m03 m13 m23 m33 m53 : Option Value}
    {f25 : Addr} {od25 an25 : Option Addr} {sl25 : Array (Option Value)} {oc25 kV25 dc25 pm25 cd25 ct25 : Value}
    {nm5 q5 : Str} {NN5 : Addr} {bs5 : List Value} {sn5 : List Str} {sub5 : List Value} {ab5 : Bool} {col5 : Option Bool} {dd5 : Option Addr} {m05 m15 m25 m35 m55 : Option Value}
    {f26 : Addr} {od26 an26 : Option Addr} {sl26 : Array (Option Value)} {oc26 kV26 dc26 pm26 cd26 ct26 : Value}
    {tk0 : Tok}
    {tk1 : Tok}
    {tk2 : Tok}
    {tk3 : Tok}
    (gC0 : PySem.W.nsIn K mainGlobals "ReflowError" = some (some (.ref C0)))
    (gC2 : PySem.W.nsIn K mainGlobals "InvalidMarks" = some (some (.ref C2)))
    (gC3 : PySem.W.nsIn K mainGlobals "InvalidText" = some (some (.ref C3)))
    (gC5 : PySem.W.nsIn K mainGlobals "InvalidInteger" = some (some (.ref C5)))
    (gC7 : PySem.W.nsIn K mainGlobals "Stock" = some (some (.ref C7)))
    (a0 : PySem.W.nsIn K mainGlobals "is_integer" = some (some (.ref f0)))
    (l0 : K.lookup f0 = some ⟨oc0, od0, .func (PySem.W.fnOf "is_integer" "is_integer" (defArgs s_is_integer) (defBody s_is_integer) (defScope s_is_integer) .none kV0 dc0 pm0 an0 cd0 ct0), sl0⟩)
    (c0 : PySem.W.codeIn K cd0 "is_integer" = true)
    (k0 : PySem.W.keepIn K (.ref f0) = true)
    (a1 : PySem.W.nsIn K mainGlobals "is_mark" = some (some (.ref f1)))
    (l1 : K.lookup f1 = some ⟨oc1, od1, .func (PySem.W.fnOf "is_mark" "is_mark" (defArgs s_is_mark) (defBody s_is_mark) (defScope s_is_mark) .none kV1 dc1 pm1 an1 cd1 ct1), sl1⟩)
    (c1 : PySem.W.codeIn K cd1 "is_mark" = true)
    (k1 : PySem.W.keepIn K (.ref f1) = true)
    (a2 : PySem.W.nsIn K mainGlobals "all_marks" = some (some (.ref f2)))
    (l2 : K.lookup f2 = some ⟨oc2, od2, .func (PySem.W.fnOf "all_marks" "all_marks" (defArgs s_all_marks) (defBody s_all_marks) (defScope s_all_marks) .none kV2 dc2 pm2 an2 cd2 ct2), sl2⟩)
    (c2 : PySem.W.codeIn K cd2 "all_marks" = true)
    (k2 : PySem.W.keepIn K (.ref f2) = true)
    (a3 : PySem.W.nsIn K mainGlobals "parse_integer" = some (some (.ref f3)))
    (l3 : K.lookup f3 = some ⟨oc3, od3, .func (PySem.W.fnOf "parse_integer" "parse_integer" (defArgs s_parse_integer) (defBody s_parse_integer) (defScope s_parse_integer) .none (.ref D3) dc3 pm3 an3 cd3 ct3), sl3⟩)
    (c3 : PySem.W.codeIn K cd3 "parse_integer" = true)
    (k3 : PySem.W.keepIn K (.ref f3) = true)
    (d3_0 : PySem.W.nsIn K D3 "low" = some (some (.int 0 kt3_0)))
    (d3_1 : PySem.W.nsIn K D3 "high" = some (some (.int 999 kt3_1)))
    (a4 : PySem.W.nsIn K mainGlobals "split_words" = some (some (.ref f4)))
    (l4 : K.lookup f4 = some ⟨oc4, od4, .func (PySem.W.fnOf "split_words" "split_words" (defArgs s_split_words) (defBody s_split_words) (defScope s_split_words) .none kV4 dc4 pm4 an4 cd4 ct4), sl4⟩)
    (c4 : PySem.W.codeIn K cd4 "split_words" = true)
    (k4 : PySem.W.keepIn K (.ref f4) = true)
    (a5 : PySem.W.nsIn K mainGlobals "are_stock_marks" = some (some (.ref f5)))
    (l5 : K.lookup f5 = some ⟨oc5, od5, .func (PySem.W.fnOf "are_stock_marks" "are_stock_marks" (defArgs s_are_stock_marks) (defBody s_are_stock_marks) (defScope s_are_stock_marks) .none kV5 dc5 pm5 an5 cd5 ct5), sl5⟩)
    (c5 : PySem.W.codeIn K cd5 "are_stock_marks" = true)
    (k5 : PySem.W.keepIn K (.ref f5) = true)
    (a6 : PySem.W.nsIn K mainGlobals "_law_cell" = some (some (.ref f6)))
    (l6 : K.lookup f6 = some ⟨oc6, od6, .func (PySem.W.fnOf "_law_cell" "_law_cell" (defArgs s__law_cell) (defBody s__law_cell) (defScope s__law_cell) .none kV6 dc6 pm6 an6 cd6 ct6), sl6⟩)
    (c6 : PySem.W.codeIn K cd6 "_law_cell" = true)
    (k6 : PySem.W.keepIn K (.ref f6) = true)
    (a7 : PySem.W.nsIn K mainGlobals "_law_purse" = some (some (.ref f7)))
    (l7 : K.lookup f7 = some ⟨oc7, od7, .func (PySem.W.fnOf "_law_purse" "_law_purse" (defArgs s__law_purse) (defBody s__law_purse) (defScope s__law_purse) .none kV7 dc7 pm7 an7 cd7 ct7), sl7⟩)
    (c7 : PySem.W.codeIn K cd7 "_law_purse" = true)
    (k7 : PySem.W.keepIn K (.ref f7) = true)
    (a8 : PySem.W.nsIn K mainGlobals "_law_take" = some (some (.ref f8)))
    (l8 : K.lookup f8 = some ⟨oc8, od8, .func (PySem.W.fnOf "_law_take" "_law_take" (defArgs s__law_take) (defBody s__law_take) (defScope s__law_take) .none kV8 dc8 pm8 an8 cd8 ct8), sl8⟩)
    (c8 : PySem.W.codeIn K cd8 "_law_take" = true)
    (k8 : PySem.W.keepIn K (.ref f8) = true)
    (a9 : PySem.W.nsIn K mainGlobals "_law_all_marks" = some (some (.ref f9)))
    (l9 : K.lookup f9 = some ⟨oc9, od9, .func (PySem.W.fnOf "_law_all_marks" "_law_all_marks" (defArgs s__law_all_marks) (defBody s__law_all_marks) (defScope s__law_all_marks) .none kV9 dc9 pm9 an9 cd9 ct9), sl9⟩)
    (c9 : PySem.W.codeIn K cd9 "_law_all_marks" = true)
    (k9 : PySem.W.keepIn K (.ref f9) = true)
    (a10 : PySem.W.nsIn K mainGlobals "_law_mark" = some (some (.ref f10)))
    (l10 : K.lookup f10 = some ⟨oc10, od10, .func (PySem.W.fnOf "_law_mark" "_law_mark" (defArgs s__law_mark) (defBody s__law_mark) (defScope s__law_mark) .none kV10 dc10 pm10 an10 cd10 ct10), sl10⟩)
    (c10 : PySem.W.codeIn K cd10 "_law_mark" = true)
    (k10 : PySem.W.keepIn K (.ref f10) = true)
    (a11 : PySem.W.nsIn K mainGlobals "_law_marks" = some (some (.ref f11)))
    (l11 : K.lookup f11 = some ⟨oc11, od11, .func (PySem.W.fnOf "_law_marks" "_law_marks" (defArgs s__law_marks) (defBody s__law_marks) (defScope s__law_marks) .none kV11 dc11 pm11 an11 cd11 ct11), sl11⟩)
    (c11 : PySem.W.codeIn K cd11 "_law_marks" = true)
    (k11 : PySem.W.keepIn K (.ref f11) = true)
    (a12 : PySem.W.nsIn K mainGlobals "_law_sorted" = some (some (.ref f12)))
    (l12 : K.lookup f12 = some ⟨oc12, od12, .func (PySem.W.fnOf "_law_sorted" "_law_sorted" (defArgs s__law_sorted) (defBody s__law_sorted) (defScope s__law_sorted) .none kV12 dc12 pm12 an12 cd12 ct12), sl12⟩)
    (c12 : PySem.W.codeIn K cd12 "_law_sorted" = true)
    (k12 : PySem.W.keepIn K (.ref f12) = true)
    (a13 : PySem.W.nsIn K mainGlobals "_law_number" = some (some (.ref f13)))
    (l13 : K.lookup f13 = some ⟨oc13, od13, .func (PySem.W.fnOf "_law_number" "_law_number" (defArgs s__law_number) (defBody s__law_number) (defScope s__law_number) .none kV13 dc13 pm13 an13 cd13 ct13), sl13⟩)
    (c13 : PySem.W.codeIn K cd13 "_law_number" = true)
    (k13 : PySem.W.keepIn K (.ref f13) = true)
    (a14 : PySem.W.nsIn K mainGlobals "_law_read" = some (some (.ref f14)))
    (l14 : K.lookup f14 = some ⟨oc14, od14, .func (PySem.W.fnOf "_law_read" "_law_read" (defArgs s__law_read) (defBody s__law_read) (defScope s__law_read) .none kV14 dc14 pm14 an14 cd14 ct14), sl14⟩)
    (c14 : PySem.W.codeIn K cd14 "_law_read" = true)
    (k14 : PySem.W.keepIn K (.ref f14) = true)
    (a15 : PySem.W.nsIn K mainGlobals "_law_told" = some (some (.ref f15)))
    (l15 : K.lookup f15 = some ⟨oc15, od15, .func (PySem.W.fnOf "_law_told" "_law_told" (defArgs s__law_told) (defBody s__law_told) (defScope s__law_told) .none kV15 dc15 pm15 an15 cd15 ct15), sl15⟩)
    (c15 : PySem.W.codeIn K cd15 "_law_told" = true)
    (k15 : PySem.W.keepIn K (.ref f15) = true)
    (a16 : PySem.W.nsIn K mainGlobals "_law_changed" = some (some (.ref f16)))
    (l16 : K.lookup f16 = some ⟨oc16, od16, .func (PySem.W.fnOf "_law_changed" "_law_changed" (defArgs s__law_changed) (defBody s__law_changed) (defScope s__law_changed) .none kV16 dc16 pm16 an16 cd16 ct16), sl16⟩)
    (c16 : PySem.W.codeIn K cd16 "_law_changed" = true)
    (k16 : PySem.W.keepIn K (.ref f16) = true)
    (a17 : PySem.W.nsIn K mainGlobals "_law_right" = some (some (.ref f17)))
    (l17 : K.lookup f17 = some ⟨oc17, od17, .func (PySem.W.fnOf "_law_right" "_law_right" (defArgs s__law_right) (defBody s__law_right) (defScope s__law_right) .none kV17 dc17 pm17 an17 cd17 ct17), sl17⟩)
    (c17 : PySem.W.codeIn K cd17 "_law_right" = true)
    (k17 : PySem.W.keepIn K (.ref f17) = true)
    (a18 : PySem.W.nsIn K mainGlobals "law" = some (some (.ref f18)))
    (l18 : K.lookup f18 = some ⟨oc18, od18, .func (PySem.W.fnOf "law" "law" (defArgs s_law) (defBody s_law) (defScope s_law) .none kV18 dc18 pm18 an18 cd18 ct18), sl18⟩)
    (c18 : PySem.W.codeIn K cd18 "law" = true)
    (k18 : PySem.W.keepIn K (.ref f18) = true)
    (a19 : PySem.W.findIn K (.ref C7) "__init__" = some (some (.ref f19)))
    (l19 : K.lookup f19 = some ⟨oc19, od19, .func (PySem.W.fnOf "__init__" "Stock.__init__" (defArgs s_Stock___init__) (defBody s_Stock___init__) (defScope s_Stock___init__) .none (.ref D19) dc19 pm19 an19 cd19 ct19), sl19⟩)
    (c19 : PySem.W.codeIn K cd19 "Stock.__init__" = true)
    (k19 : PySem.W.keepIn K (.ref f19) = true)
    (y19 : PySem.W.isFn K (.ref f19) = true)
    (d19_0 : PySem.W.nsIn K D19 "shortest" = some (some (.int 1 kt19_0)))
    (d19_1 : PySem.W.nsIn K D19 "longest" = some (some (.int 4 kt19_1)))
    (a20 : PySem.W.findCls K (.ref C7) (.type "type") "parse" = some (.get (.builtin "classmethod.__get__") (.ref pp20) .none (.ref C7)))
    (r20 : PySem.W.recIn K pp20 "classmethod" = some (.ref f20 :: rs20))
    (fi20 : PySem.W.fnIn K f20 = true)
    (l20 : K.lookup f20 = some ⟨oc20, od20, .func (PySem.W.fnOf "parse" "Stock.parse" (defArgs s_Stock_parse) (defBody s_Stock_parse) (defScope s_Stock_parse) .none kV20 dc20 pm20 an20 cd20 ct20), sl20⟩)
    (c20 : PySem.W.codeIn K cd20 "Stock.parse" = true)
    (k20 : PySem.W.keepIn K (.ref f20) = true)
    (a21 : PySem.W.findIn K (.ref C7) "__str__" = some (some (.ref f21)))
    (l21 : K.lookup f21 = some ⟨oc21, od21, .func (PySem.W.fnOf "__str__" "Stock.__str__" (defArgs s_Stock___str__) (defBody s_Stock___str__) (defScope s_Stock___str__) .none kV21 dc21 pm21 an21 cd21 ct21), sl21⟩)
    (c21 : PySem.W.codeIn K cd21 "Stock.__str__" = true)
    (k21 : PySem.W.keepIn K (.ref f21) = true)
    (y21 : PySem.W.isFn K (.ref f21) = true)
    (a22 : PySem.W.findIn K (.ref C7) "marks" = some (some (.ref f22)))
    (l22 : K.lookup f22 = some ⟨oc22, od22, .func (PySem.W.fnOf "marks" "Stock.marks" (defArgs s_Stock_marks) (defBody s_Stock_marks) (defScope s_Stock_marks) .none kV22 dc22 pm22 an22 cd22 ct22), sl22⟩)
    (c22 : PySem.W.codeIn K cd22 "Stock.marks" = true)
    (k22 : PySem.W.keepIn K (.ref f22) = true)
    (y22 : PySem.W.isFn K (.ref f22) = true)
    (a23 : PySem.W.findIn K (.ref C7) "lengths" = some (some (.ref f23)))
    (l23 : K.lookup f23 = some ⟨oc23, od23, .func (PySem.W.fnOf "lengths" "Stock.lengths" (defArgs s_Stock_lengths) (defBody s_Stock_lengths) (defScope s_Stock_lengths) .none kV23 dc23 pm23 an23 cd23 ct23), sl23⟩)
    (c23 : PySem.W.codeIn K cd23 "Stock.lengths" = true)
    (k23 : PySem.W.keepIn K (.ref f23) = true)
    (y23 : PySem.W.isFn K (.ref f23) = true)
    (op7 : PySem.W.plainGet K C7 Str.empty = true)
    (oh7 : PySem.W.hasDictIn K C7 = true)
    (oo7 : PySem.W.plainOver K C7 = true)
    (os7 : PySem.W.findIn K (.ref C7) "__setattr__" = some (some (.builtin "object.__setattr__")))
    (nf0 : PySem.W.findIn K (.ref C7) "least" = some none)
    (nf1 : PySem.W.findIn K (.ref C7) "most" = some none)
    (nf2 : PySem.W.findIn K (.ref C7) "own_letters" = some none)
    (nf3 : PySem.W.findIn K (.ref C7) "own_marks" = some none)
    (mt0 : PySem.W.findIn K (.ref C7) "__str__" = some (some (.ref f21)))
    (mt1 : PySem.W.findIn K (.ref C7) "lengths" = some (some (.ref f23)))
    (mt2 : PySem.W.findIn K (.ref C7) "marks" = some (some (.ref f22)))
    (mm0 : PySem.W.makesIn K C7 = true)
    (mi0 : PySem.W.findIn K (.ref C7) "__init__" = some (some (.ref f19)))
    (mp0 : PySem.W.keepIn K (.ref C7) = true)
    (rd7 : PySem.W.readsIn K C7 (.type "type") = true)
    (rg7 : PySem.W.specialIn K (.ref C7) "__getattribute__" = some (some (.builtin "type.__getattribute__")))
    (bg0 : PySem.W.specialIn K (.ref C0) "__getattribute__" = some (some (.builtin "type.__getattribute__")))
    (br0 : PySem.W.readsIn K C0 (.type "type") = true)
    (bf0 : PySem.W.findCls K (.ref C0) (.type "type") "__init__" = some (.val (.builtin "ValueError.__init__")))
    (xL2 : K.lookup C2 = some (excClassObj nm2 q2 C2 NN2 bs2 [.ref C0, .type "ValueError", .type "Exception", .type "BaseException", .type "object"] true sn2 sub2 ab2 col2 dd2 m02 m12 m22 m32 m52 "ValueError.__new__"))
    (sa2 : PySem.W.findIn K (.ref C2) "__setattr__" = some (some (.builtin "object.__setattr__")))
    (ga2 : PySem.W.findIn K (.ref C2) "__getattribute__" = some (some (.builtin "BaseException.__getattribute__")))
    (gg2 : PySem.W.findIn K (.ref C2) "__getattr__" = some none)
    (nb2 : PySem.W.findIn K (.ref C2) "value" = some none)
    (ai2 : PySem.W.findIn K (.ref C2) "__init__" = some (some (.ref f24)))
    (ti2 : PySem.W.typeIn K (.ref f24) = some (.type "function"))
    (l24 : K.lookup f24 = some ⟨oc24, od24, .func (PySem.W.fnOf "__init__" "InvalidMarks.__init__" (defArgs sI_InvalidMarks) (defBody sI_InvalidMarks) (defScope sI_InvalidMarks) .none kV24 dc24 pm24 an24 cd24 ct24), sl24⟩)
    (c24 : PySem.W.codeIn K cd24 "InvalidMarks.__init__" = true)
    (k24 : PySem.W.keepIn K (.ref f24) = true)
    (kC2 : PySem.W.keepIn K (.ref C2) = true)
    (eC2 : PySem.W.subIn K (.ref C2) (.type "BaseException") = some true)
    (tC2 : PySem.W.typeIn K (.ref C2) = some (.type "type"))
    (hC2 : PySem.W.hasDictIn K C2 = true)
    (iC2 : PySem.W.isClsIn K C2 = true)
    (xL3 : K.lookup C3 = some (excClassObj nm3 q3 C3 NN3 bs3 [.ref C0, .type "ValueError", .type "Exception", .type "BaseException", .type "object"] true sn3 sub3 ab3 col3 dd3 m03 m13 m23 m33 m53 "ValueError.__new__"))
    (sa3 : PySem.W.findIn K (.ref C3) "__setattr__" = some (some (.builtin "object.__setattr__")))
    (ga3 : PySem.W.findIn K (.ref C3) "__getattribute__" = some (some (.builtin "BaseException.__getattribute__")))
    (gg3 : PySem.W.findIn K (.ref C3) "__getattr__" = some none)
    (nb3 : PySem.W.findIn K (.ref C3) "value" = some none)
    (ai3 : PySem.W.findIn K (.ref C3) "__init__" = some (some (.ref f25)))
    (ti3 : PySem.W.typeIn K (.ref f25) = some (.type "function"))
    (l25 : K.lookup f25 = some ⟨oc25, od25, .func (PySem.W.fnOf "__init__" "InvalidText.__init__" (defArgs sI_InvalidText) (defBody sI_InvalidText) (defScope sI_InvalidText) .none kV25 dc25 pm25 an25 cd25 ct25), sl25⟩)
    (c25 : PySem.W.codeIn K cd25 "InvalidText.__init__" = true)
    (k25 : PySem.W.keepIn K (.ref f25) = true)
    (kC3 : PySem.W.keepIn K (.ref C3) = true)
    (eC3 : PySem.W.subIn K (.ref C3) (.type "BaseException") = some true)
    (tC3 : PySem.W.typeIn K (.ref C3) = some (.type "type"))
    (hC3 : PySem.W.hasDictIn K C3 = true)
    (iC3 : PySem.W.isClsIn K C3 = true)
    (xL5 : K.lookup C5 = some (excClassObj nm5 q5 C5 NN5 bs5 [.ref C0, .type "ValueError", .type "Exception", .type "BaseException", .type "object"] true sn5 sub5 ab5 col5 dd5 m05 m15 m25 m35 m55 "ValueError.__new__"))
    (sa5 : PySem.W.findIn K (.ref C5) "__setattr__" = some (some (.builtin "object.__setattr__")))
    (ga5 : PySem.W.findIn K (.ref C5) "__getattribute__" = some (some (.builtin "BaseException.__getattribute__")))
    (gg5 : PySem.W.findIn K (.ref C5) "__getattr__" = some none)
    (nb5 : PySem.W.findIn K (.ref C5) "value" = some none)
    (ai5 : PySem.W.findIn K (.ref C5) "__init__" = some (some (.ref f26)))
    (ti5 : PySem.W.typeIn K (.ref f26) = some (.type "function"))
    (l26 : K.lookup f26 = some ⟨oc26, od26, .func (PySem.W.fnOf "__init__" "InvalidInteger.__init__" (defArgs sI_InvalidInteger) (defBody sI_InvalidInteger) (defScope sI_InvalidInteger) .none kV26 dc26 pm26 an26 cd26 ct26), sl26⟩)
    (c26 : PySem.W.codeIn K cd26 "InvalidInteger.__init__" = true)
    (k26 : PySem.W.keepIn K (.ref f26) = true)
    (kC5 : PySem.W.keepIn K (.ref C5) = true)
    (eC5 : PySem.W.subIn K (.ref C5) (.type "BaseException") = some true)
    (tC5 : PySem.W.typeIn K (.ref C5) = some (.type "type"))
    (hC5 : PySem.W.hasDictIn K C5 = true)
    (iC5 : PySem.W.isClsIn K C5 = true)
    (s5_3 : PySem.W.subIn K (.ref C5) (.ref C3) = some false)
    (s2_3 : PySem.W.subIn K (.ref C2) (.ref C3) = some false)
    (s3_3 : PySem.W.subIn K (.ref C3) (.ref C3) = some true)
    (z0 : PySem.W.nsIn K mainGlobals "all" = some none)
    (z1 : PySem.W.nsIn K mainGlobals "any" = some none)
    (z2 : PySem.W.nsIn K mainGlobals "bool" = some none)
    (z3 : PySem.W.nsIn K mainGlobals "int" = some none)
    (z4 : PySem.W.nsIn K mainGlobals "isinstance" = some none)
    (z5 : PySem.W.nsIn K mainGlobals "len" = some none)
    (z6 : PySem.W.nsIn K mainGlobals "list" = some none)
    (z7 : PySem.W.nsIn K mainGlobals "max" = some none)
    (z8 : PySem.W.nsIn K mainGlobals "min" = some none)
    (z9 : PySem.W.nsIn K mainGlobals "range" = some none)
    (z10 : PySem.W.nsIn K mainGlobals "repr" = some none)
    (z11 : PySem.W.nsIn K mainGlobals "str" = some none)
    (z12 : PySem.W.nsIn K mainGlobals "tuple" = some none)
    (q_0 : PySem.W.nsIn K mainGlobals "BLANK" = some (some (.str "_" tk0)))
    (q_1 : PySem.W.nsIn K mainGlobals "KINDS" = some (some (.str "#|/" tk1)))
    (q_2 : PySem.W.nsIn K mainGlobals "MOST_INDENT" = some (some (.int (3) tk2)))
    (q_3 : PySem.W.nsIn K mainGlobals "MOST_LETTERS" = some (some (.int (30) tk3)))
    : ∃ (ca : Nat → Addr) (fd : FuncData), (∀ (s : Shared) (v : Value), BindsTo s fd ⟨[v], []⟩ [("_law_script", v)]) ∧ ∀ base : Heap, K.In base → base.Ns mainGlobals mg → U.FnG l.prog w K mg base CX0 8 fa fd ["_law_script"] (sp_law K ca) := by
  have e := hfa.symm.trans (PySem.W.mg_of X G a18)
  cases e
  have F0 := fun_mk (st := s_is_integer) l0 c0 k0
  have b0 := F0.binds (ps := P_is_integer) fun _ _ _ _ _ _ us hl => match us, hl with | [_, _, _], _ => rfl
  have F1 := fun_mk (st := s_is_mark) l1 c1 k1
  have b1 := F1.binds (ps := P_is_mark) fun _ _ _ _ _ _ us hl => match us, hl with | [_], _ => rfl
  have F2 := fun_mk (st := s_all_marks) l2 c2 k2
  have b2 := F2.binds (ps := P_all_marks) fun _ _ _ _ _ _ us hl => match us, hl with | [], _ => rfl
  have F3 : FunD K "parse_integer" "parse_integer" (defArgs s_parse_integer) (defBody s_parse_integer) (defScope s_parse_integer) [] [("low", .int 0), ("high", .int 999)] f3 (PySem.W.fnOf "parse_integer" "parse_integer" (defArgs s_parse_integer) (defBody s_parse_integer) (defScope s_parse_integer) .none (.ref D3) dc3 pm3 an3 cd3 ct3) := ⟨⟨oc3, od3, .none, .ref D3, dc3, pm3, an3, cd3, ct3, sl3, rfl, l3, c3, .inl ⟨rfl, rfl⟩, .inr ⟨D3, rfl, List.forall_mem_cons.mpr ⟨⟨_, d3_0, ⟨_, rfl⟩⟩, List.forall_mem_cons.mpr ⟨⟨_, d3_1, ⟨_, rfl⟩⟩, fun _ hh => nomatch hh⟩⟩⟩⟩, k3⟩
  have b3 := F3.binds0 (ps := P_parse_integer) 1 (by decide) rfl fun _ _ _ _ _ _ us ks h1 h2 => match us, ks, h1, h2 with | [_], [_, _], _, _ => ⟨_, _, _, _, _, _, rfl, rfl, _, _, _, _, _, _, rfl, rfl, rfl⟩
  have kb3_low_high := F3.kbinds0 (ps := P_parse_integer) 1 ["low", "high"] [] (fun {α} => g_parse_integer_low_high (α := α)) (by decide) (by decide) (fun r1 r2 r3 => by unfold g_parse_integer_low_high; repeat (first | exact r1 | apply Vals.append | apply Vals.take | apply Vals.drop | exact r2 | exact r3)) fun _ _ _ _ _ _ us mv ws h1 h2 h3 => match us, mv, ws, h1, h2, h3 with | [_], [], [_, _], _, _, _ => rfl
  have F4 := fun_mk (st := s_split_words) l4 c4 k4
  have b4 := F4.binds (ps := P_split_words) fun _ _ _ _ _ _ us hl => match us, hl with | [_], _ => rfl
  have F5 := fun_mk (st := s_are_stock_marks) l5 c5 k5
  have b5 := F5.binds (ps := P_are_stock_marks) fun _ _ _ _ _ _ us hl => match us, hl with | [_], _ => rfl
  have F6 := fun_mk (st := s__law_cell) l6 c6 k6
  have b6 := F6.binds (ps := P__law_cell) fun _ _ _ _ _ _ us hl => match us, hl with | [_, _], _ => rfl
  have F7 := fun_mk (st := s__law_purse) l7 c7 k7
  have b7 := F7.binds (ps := P__law_purse) fun _ _ _ _ _ _ us hl => match us, hl with | [_], _ => rfl
  have F8 := fun_mk (st := s__law_take) l8 c8 k8
  have b8 := F8.binds (ps := P__law_take) fun _ _ _ _ _ _ us hl => match us, hl with | [_, _], _ => rfl
  have F9 := fun_mk (st := s__law_all_marks) l9 c9 k9
  have b9 := F9.binds (ps := P__law_all_marks) fun _ _ _ _ _ _ us hl => match us, hl with | [], _ => rfl
  have F10 := fun_mk (st := s__law_mark) l10 c10 k10
  have b10 := F10.binds (ps := P__law_mark) fun _ _ _ _ _ _ us hl => match us, hl with | [_], _ => rfl
  have F11 := fun_mk (st := s__law_marks) l11 c11 k11
  have b11 := F11.binds (ps := P__law_marks) fun _ _ _ _ _ _ us hl => match us, hl with | [_, _], _ => rfl
  have F12 := fun_mk (st := s__law_sorted) l12 c12 k12
  have b12 := F12.binds (ps := P__law_sorted) fun _ _ _ _ _ _ us hl => match us, hl with | [_], _ => rfl
  have F13 := fun_mk (st := s__law_number) l13 c13 k13
  have b13 := F13.binds (ps := P__law_number) fun _ _ _ _ _ _ us hl => match us, hl with | [_], _ => rfl
  have F14 := fun_mk (st := s__law_read) l14 c14 k14
  have b14 := F14.binds (ps := P__law_read) fun _ _ _ _ _ _ us hl => match us, hl with | [_], _ => rfl
  have F15 := fun_mk (st := s__law_told) l15 c15 k15
  have b15 := F15.binds (ps := P__law_told) fun _ _ _ _ _ _ us hl => match us, hl with | [_], _ => rfl
  have F16 := fun_mk (st := s__law_changed) l16 c16 k16
  have b16 := F16.binds (ps := P__law_changed) fun _ _ _ _ _ _ us hl => match us, hl with | [_, _], _ => rfl
  have F17 := fun_mk (st := s__law_right) l17 c17 k17
  have b17 := F17.binds (ps := P__law_right) fun _ _ _ _ _ _ us hl => match us, hl with | [_], _ => rfl
  have F18 := fun_mk (st := s_law) l18 c18 k18
  have b18 := F18.binds (ps := P_law) fun _ _ _ _ _ _ us hl => match us, hl with | [_], _ => rfl
  have F19 : FunD K "__init__" "Stock.__init__" (defArgs s_Stock___init__) (defBody s_Stock___init__) (defScope s_Stock___init__) [] [("shortest", .int 1), ("longest", .int 4)] f19 (PySem.W.fnOf "__init__" "Stock.__init__" (defArgs s_Stock___init__) (defBody s_Stock___init__) (defScope s_Stock___init__) .none (.ref D19) dc19 pm19 an19 cd19 ct19) := ⟨⟨oc19, od19, .none, .ref D19, dc19, pm19, an19, cd19, ct19, sl19, rfl, l19, c19, .inl ⟨rfl, rfl⟩, .inr ⟨D19, rfl, List.forall_mem_cons.mpr ⟨⟨_, d19_0, ⟨_, rfl⟩⟩, List.forall_mem_cons.mpr ⟨⟨_, d19_1, ⟨_, rfl⟩⟩, fun _ hh => nomatch hh⟩⟩⟩⟩, k19⟩
  have b19 := F19.binds0 (ps := P_Stock___init__) 2 (by decide) rfl fun _ _ _ _ _ _ us ks h1 h2 => match us, ks, h1, h2 with | [_, _], [_, _], _, _ => ⟨_, _, _, _, _, _, rfl, rfl, _, _, _, _, _, _, rfl, rfl, rfl⟩
  have kb19_shortest_longest := F19.kbinds0 (ps := P_Stock___init__) 2 ["shortest", "longest"] [] (fun {α} => g_Stock___init___shortest_longest (α := α)) (by decide) (by decide) (fun r1 r2 r3 => by unfold g_Stock___init___shortest_longest; repeat (first | exact r1 | apply Vals.append | apply Vals.take | apply Vals.drop | exact r2 | exact r3)) fun _ _ _ _ _ _ us mv ws h1 h2 h3 => match us, mv, ws, h1, h2, h3 with | [_, _], [], [_, _], _, _, _ => rfl
  have F20 := fun_mk (st := s_Stock_parse) l20 c20 k20
  have b20 := F20.binds (ps := P_Stock_parse) fun _ _ _ _ _ _ us hl => match us, hl with | [_, _], _ => rfl
  have F21 := fun_mk (st := s_Stock___str__) l21 c21 k21
  have b21 := F21.binds (ps := P_Stock___str__) fun _ _ _ _ _ _ us hl => match us, hl with | [_], _ => rfl
  have F22 := fun_mk (st := s_Stock_marks) l22 c22 k22
  have b22 := F22.binds (ps := P_Stock_marks) fun _ _ _ _ _ _ us hl => match us, hl with | [_], _ => rfl
  have F23 := fun_mk (st := s_Stock_lengths) l23 c23 k23
  have b23 := F23.binds (ps := P_Stock_lengths) fun _ _ _ _ _ _ us hl => match us, hl with | [_], _ => rfl
  have F24 := fun_mk (st := sI_InvalidMarks) l24 c24 k24
  have b24 := F24.binds (ps := ["self", "value"]) fun _ _ _ _ _ _ us hl => match us, hl with | [_, _], _ => rfl
  have F25 := fun_mk (st := sI_InvalidText) l25 c25 k25
  have b25 := F25.binds (ps := ["self", "value"]) fun _ _ _ _ _ _ us hl => match us, hl with | [_, _], _ => rfl
  have F26 := fun_mk (st := sI_InvalidInteger) l26 c26 k26
  have b26 := F26.binds (ps := ["self", "value"]) fun _ _ _ _ _ _ us hl => match us, hl with | [_, _], _ => rfl
  have T : Tx K mg (fun i => ([f0, f1, f2, f3, f4, f5, f6, f7, f8, f9, f10, f11, f12, f13, f14, f15, f16, f17, fa, f19, f20, f21, f22, f23, f24, f25, f26] : List Addr).getD i 0) (fun i => ([PySem.W.fnOf "is_integer" "is_integer" (defArgs s_is_integer) (defBody s_is_integer) (defScope s_is_integer) .none kV0 dc0 pm0 an0 cd0 ct0, PySem.W.fnOf "is_mark" "is_mark" (defArgs s_is_mark) (defBody s_is_mark) (defScope s_is_mark) .none kV1 dc1 pm1 an1 cd1 ct1, PySem.W.fnOf "all_marks" "all_marks" (defArgs s_all_marks) (defBody s_all_marks) (defScope s_all_marks) .none kV2 dc2 pm2 an2 cd2 ct2, PySem.W.fnOf "parse_integer" "parse_integer" (defArgs s_parse_integer) (defBody s_parse_integer) (defScope s_parse_integer) .none (.ref D3) dc3 pm3 an3 cd3 ct3, PySem.W.fnOf "split_words" "split_words" (defArgs s_split_words) (defBody s_split_words) (defScope s_split_words) .none kV4 dc4 pm4 an4 cd4 ct4, PySem.W.fnOf "are_stock_marks" "are_stock_marks" (defArgs s_are_stock_marks) (defBody s_are_stock_marks) (defScope s_are_stock_marks) .none kV5 dc5 pm5 an5 cd5 ct5, PySem.W.fnOf "_law_cell" "_law_cell" (defArgs s__law_cell) (defBody s__law_cell) (defScope s__law_cell) .none kV6 dc6 pm6 an6 cd6 ct6, PySem.W.fnOf "_law_purse" "_law_purse" (defArgs s__law_purse) (defBody s__law_purse) (defScope s__law_purse) .none kV7 dc7 pm7 an7 cd7 ct7, PySem.W.fnOf "_law_take" "_law_take" (defArgs s__law_take) (defBody s__law_take) (defScope s__law_take) .none kV8 dc8 pm8 an8 cd8 ct8, PySem.W.fnOf "_law_all_marks" "_law_all_marks" (defArgs s__law_all_marks) (defBody s__law_all_marks) (defScope s__law_all_marks) .none kV9 dc9 pm9 an9 cd9 ct9, PySem.W.fnOf "_law_mark" "_law_mark" (defArgs s__law_mark) (defBody s__law_mark) (defScope s__law_mark) .none kV10 dc10 pm10 an10 cd10 ct10, PySem.W.fnOf "_law_marks" "_law_marks" (defArgs s__law_marks) (defBody s__law_marks) (defScope s__law_marks) .none kV11 dc11 pm11 an11 cd11 ct11, PySem.W.fnOf "_law_sorted" "_law_sorted" (defArgs s__law_sorted) (defBody s__law_sorted) (defScope s__law_sorted) .none kV12 dc12 pm12 an12 cd12 ct12, PySem.W.fnOf "_law_number" "_law_number" (defArgs s__law_number) (defBody s__law_number) (defScope s__law_number) .none kV13 dc13 pm13 an13 cd13 ct13, PySem.W.fnOf "_law_read" "_law_read" (defArgs s__law_read) (defBody s__law_read) (defScope s__law_read) .none kV14 dc14 pm14 an14 cd14 ct14, PySem.W.fnOf "_law_told" "_law_told" (defArgs s__law_told) (defBody s__law_told) (defScope s__law_told) .none kV15 dc15 pm15 an15 cd15 ct15, PySem.W.fnOf "_law_changed" "_law_changed" (defArgs s__law_changed) (defBody s__law_changed) (defScope s__law_changed) .none kV16 dc16 pm16 an16 cd16 ct16, PySem.W.fnOf "_law_right" "_law_right" (defArgs s__law_right) (defBody s__law_right) (defScope s__law_right) .none kV17 dc17 pm17 an17 cd17 ct17, PySem.W.fnOf "law" "law" (defArgs s_law) (defBody s_law) (defScope s_law) .none kV18 dc18 pm18 an18 cd18 ct18, PySem.W.fnOf "__init__" "Stock.__init__" (defArgs s_Stock___init__) (defBody s_Stock___init__) (defScope s_Stock___init__) .none (.ref D19) dc19 pm19 an19 cd19 ct19, PySem.W.fnOf "parse" "Stock.parse" (defArgs s_Stock_parse) (defBody s_Stock_parse) (defScope s_Stock_parse) .none kV20 dc20 pm20 an20 cd20 ct20, PySem.W.fnOf "__str__" "Stock.__str__" (defArgs s_Stock___str__) (defBody s_Stock___str__) (defScope s_Stock___str__) .none kV21 dc21 pm21 an21 cd21 ct21, PySem.W.fnOf "marks" "Stock.marks" (defArgs s_Stock_marks) (defBody s_Stock_marks) (defScope s_Stock_marks) .none kV22 dc22 pm22 an22 cd22 ct22, PySem.W.fnOf "lengths" "Stock.lengths" (defArgs s_Stock_lengths) (defBody s_Stock_lengths) (defScope s_Stock_lengths) .none kV23 dc23 pm23 an23 cd23 ct23, PySem.W.fnOf "__init__" "InvalidMarks.__init__" (defArgs sI_InvalidMarks) (defBody sI_InvalidMarks) (defScope sI_InvalidMarks) .none kV24 dc24 pm24 an24 cd24 ct24, PySem.W.fnOf "__init__" "InvalidText.__init__" (defArgs sI_InvalidText) (defBody sI_InvalidText) (defScope sI_InvalidText) .none kV25 dc25 pm25 an25 cd25 ct25, PySem.W.fnOf "__init__" "InvalidInteger.__init__" (defArgs sI_InvalidInteger) (defBody sI_InvalidInteger) (defScope sI_InvalidInteger) .none kV26 dc26 pm26 an26 cd26 ct26] : List FuncData).getD i (PySem.W.fnOf "law" "law" (defArgs s_law) (defBody s_law) (defScope s_law) .none kV18 dc18 pm18 an18 cd18 ct18)) (fun i => ([C0, 0, C2, C3, 0, C5, 0, C7] : List Addr).getD i 0) := {
    ct := { yes := trivial, x_InvalidMarks := ⟨ga2, gg2, eC2, hC2⟩, n_InvalidMarks := nb2, x_InvalidText := ⟨ga3, gg3, eC3, hC3⟩, n_InvalidText := nb3, x_InvalidInteger := ⟨ga5, gg5, eC5, hC5⟩, n_InvalidInteger := nb5, e_InvalidInteger_InvalidText := U.exm_of eC3 iC3 tC3 s5_3, e_InvalidMarks_InvalidText := U.exm_of eC3 iC3 tC3 s2_3, e_InvalidText_InvalidText := U.exm_of eC3 iC3 tC3 s3_3, cl_Stock := ⟨op7, oh7, oo7, os7⟩, na_Stock_least := nf0, na_Stock_most := nf1, na_Stock_own_letters := nf2, na_Stock_own_marks := nf3 },
    f_is_integer := F0, b_is_integer := b0, m_is_integer := PySem.W.mg_of X G a0,
    f_is_mark := F1, b_is_mark := b1, m_is_mark := PySem.W.mg_of X G a1,
    f_all_marks := F2, b_all_marks := b2, m_all_marks := PySem.W.mg_of X G a2,
    f_parse_integer := F3, b_parse_integer := b3, m_parse_integer := PySem.W.mg_of X G a3,
    k_parse_integer_low_high := kb3_low_high.elim fun _ h => ⟨_, h⟩,
    f_split_words := F4, b_split_words := b4, m_split_words := PySem.W.mg_of X G a4,
    f_are_stock_marks := F5, b_are_stock_marks := b5, m_are_stock_marks := PySem.W.mg_of X G a5,
    f__law_cell := F6, b__law_cell := b6, m__law_cell := PySem.W.mg_of X G a6,
    f__law_purse := F7, b__law_purse := b7, m__law_purse := PySem.W.mg_of X G a7,
    f__law_take := F8, b__law_take := b8, m__law_take := PySem.W.mg_of X G a8,
    f__law_all_marks := F9, b__law_all_marks := b9, m__law_all_marks := PySem.W.mg_of X G a9,
    f__law_mark := F10, b__law_mark := b10, m__law_mark := PySem.W.mg_of X G a10,
    f__law_marks := F11, b__law_marks := b11, m__law_marks := PySem.W.mg_of X G a11,
    f__law_sorted := F12, b__law_sorted := b12, m__law_sorted := PySem.W.mg_of X G a12,
    f__law_number := F13, b__law_number := b13, m__law_number := PySem.W.mg_of X G a13,
    f__law_read := F14, b__law_read := b14, m__law_read := PySem.W.mg_of X G a14,
    f__law_told := F15, b__law_told := b15, m__law_told := PySem.W.mg_of X G a15,
    f__law_changed := F16, b__law_changed := b16, m__law_changed := PySem.W.mg_of X G a16,
    f__law_right := F17, b__law_right := b17, m__law_right := PySem.W.mg_of X G a17,
    f_law := F18, b_law := b18, m_law := PySem.W.mg_of X G a18,
    f_Stock___init__ := F19, b_Stock___init__ := b19,
    k_Stock___init___shortest_longest := kb19_shortest_longest.elim fun _ h => ⟨_, h⟩,
    f_Stock_parse := F20, b_Stock_parse := b20,
    f_Stock___str__ := F21, b_Stock___str__ := b21,
    f_Stock_marks := F22, b_Stock_marks := b22,
    f_Stock_lengths := F23, b_Stock_lengths := b23,
    me_Stock___str__ := ⟨mt0, y21, k21⟩,
    me_Stock_lengths := ⟨mt1, y23, k23⟩,
    me_Stock_marks := ⟨mt2, y22, k22⟩,
    mk_Stock := ⟨mm0, mi0, y19, mp0⟩,
    m_Stock := PySem.W.mg_of X G gC7,
    cr_Stock := ⟨rd7, rg7⟩,
    cm_Stock_parse := ⟨_, a20, ⟨_, r20⟩, fi20⟩,
    x_InvalidMarks := ⟨PySem.W.mg_of X G gC2, ⟨⟨_, _, _, _, _, _, _, _, _, _, _, _, _, _, _, xL2, rfl⟩, sa2, eC2, tC2, kC2⟩, ai2, ti2, nb2, ⟨ga2, gg2, eC2, hC2⟩, iC2⟩,
    F_InvalidMarks := F24, i_InvalidMarks := b24, m_InvalidMarks := PySem.W.mg_of X G gC2,
    x_InvalidText := ⟨PySem.W.mg_of X G gC3, ⟨⟨_, _, _, _, _, _, _, _, _, _, _, _, _, _, _, xL3, rfl⟩, sa3, eC3, tC3, kC3⟩, ai3, ti3, nb3, ⟨ga3, gg3, eC3, hC3⟩, iC3⟩,
    F_InvalidText := F25, i_InvalidText := b25, m_InvalidText := PySem.W.mg_of X G gC3,
    x_InvalidInteger := ⟨PySem.W.mg_of X G gC5, ⟨⟨_, _, _, _, _, _, _, _, _, _, _, _, _, _, _, xL5, rfl⟩, sa5, eC5, tC5, kC5⟩, ai5, ti5, nb5, ⟨ga5, gg5, eC5, hC5⟩, iC5⟩,
    F_InvalidInteger := F26, i_InvalidInteger := b26, m_InvalidInteger := PySem.W.mg_of X G gC5,
    y_ReflowError := ⟨bg0, _, br0, bf0⟩, w_ReflowError := PySem.W.mg_of X G gC0,
    z_all := PySem.W.mg_none_of X G z0,
    z_any := PySem.W.mg_none_of X G z1,
    z_bool := PySem.W.mg_none_of X G z2,
    z_int := PySem.W.mg_none_of X G z3,
    z_isinstance := PySem.W.mg_none_of X G z4,
    z_len := PySem.W.mg_none_of X G z5,
    z_list := PySem.W.mg_none_of X G z6,
    z_max := PySem.W.mg_none_of X G z7,
    z_min := PySem.W.mg_none_of X G z8,
    z_range := PySem.W.mg_none_of X G z9,
    z_repr := PySem.W.mg_none_of X G z10,
    z_str := PySem.W.mg_none_of X G z11,
    z_tuple := PySem.W.mg_none_of X G z12,
    c_BLANK := ⟨_, PySem.W.mg_of X G q_0⟩,
    c_KINDS := ⟨_, PySem.W.mg_of X G q_1⟩,
    c_MOST_INDENT := ⟨_, PySem.W.mg_of X G q_2⟩,
    c_MOST_LETTERS := ⟨_, PySem.W.mg_of X G q_3⟩ }
  exact ⟨_, _, fun s v => .of_eq rfl, fun base _ _ => ok_law T⟩
theorem walk {l : PySem.W.OpenLaw} {q : Program} {loose : List Str} {XP : (Str → Option Value) → Heap → Prop} {YP : World → Heap → Prop} {d : DefRec} {K : Params → PySem.W.Frag} (hn : l.most = some 63) (hdf : d.params.defaults = [])
    (hY : ∀ (w : World) (h : Heap), YP w h → (K w.params).In h)
    (F : ∀ (w : World) (mg : Str → Option Value) (fa : Addr) (h : Heap), (K w.params).In h → h.Ns mainGlobals mg → mg d.name = some (.ref fa) →
      ∃ (ca : Nat → Addr) (fd : FuncData), (∀ (s : Shared) (u : Value), BindsTo s fd ⟨[u], []⟩ [("_law_script", u)]) ∧ ∀ base : Heap, (K w.params).In base → base.Ns mainGlobals mg → U.FnG l.prog w (K w.params) mg base CX0 8 fa fd ["_law_script"] (sp_law (K w.params) ca)) :
    PySem.W.WalkO q loose XP YP l.row.toRowW d [] (fun f vs => PySem.call f vs) :=
  U.walk_ofG (n := 63) (k := 8) (x := "_law_script") (sp := fun w ca => sp_law (K w.params) ca) hn (by decide) hdf ⟨rfl, by decide, by decide⟩ hY F (fun _ _ _ a ns hl hO hS => law_sp hO hS (law_true ns hl))
end Lw
open PySem PySem.W PyProof.Rows
set_option maxRecDepth 100000 in
set_option maxHeartbeats 0 in
theorem PySem.Challenge.cw_reflows_k45_stocks_as_texts_holds : PySem.Challenge.rw_reflows_k45_stocks_as_texts.Holds := by
  w_on; o_law; k_head; (case hw => w_witness2)
  k_fill
  refine Lw.walk (l := PySem.Challenge.rw_reflows_k45_stocks_as_texts) rfl rfl (fun w h Y => PySem.W.kIn_of Y) ?F
  case F =>
    intro w mg fa h KX G hmg
    refine' Lw.all_mk KX G hmg ?gC0 ?gC2 ?gC3 ?gC5 ?gC7 ?a0 ?l0 ?c0 ?k0 ?a1 ?l1 ?c1 ?k1 ?a2 ?l2 ?c2 ?k2 ?a3 ?l3 ?c3 ?k3 ?d3_0 ?d3_1 ?a4 ?l4 ?c4 ?k4 ?a5 ?l5 ?c5 ?k5 ?a6 ?l6 ?c6 ?k6 ?a7 ?l7 ?c7 ?k7 ?a8 ?l8 ?c8 ?k8 ?a9 ?l9 ?c9 ?k9 ?a10 ?l10 ?c10 ?k10 ?a11 ?l11 ?c11 ?k11 ?a12 ?l12 ?c12 ?k12 ?a13 ?l13 ?c13 ?k13 ?a14 ?l14 ?c14 ?k14 ?a15 ?l15 ?c15 ?k15 ?a16 ?l16 ?c16 ?k16 ?a17 ?l17 ?c17 ?k17 ?a18 ?l18 ?c18 ?k18 ?a19 ?l19 ?c19 ?k19 ?y19 ?d19_0 ?d19_1 ?a20 ?r20 ?fi20 ?l20 ?c20 ?k20 ?a21 ?l21 ?c21 ?k21 ?y21 ?a22 ?l22 ?c22 ?k22 ?y22 ?a23 ?l23 ?c23 ?k23 ?y23 ?op7 ?oh7 ?oo7 ?os7 ?nf0 ?nf1 ?nf2 ?nf3 ?mt0 ?mt1 ?mt2 ?mm0 ?mi0 ?mp0 ?rd7 ?rg7 ?bg0 ?br0 ?bf0 ?xL2 ?sa2 ?ga2 ?gg2 ?nb2 ?ai2 ?ti2 ?l24 ?c24 ?k24 ?kC2 ?eC2 ?tC2 ?hC2 ?iC2 ?xL3 ?sa3 ?ga3 ?gg3 ?nb3 ?ai3 ?ti3 ?l25 ?c25 ?k25 ?kC3 ?eC3 ?tC3 ?hC3 ?iC3 ?xL5 ?sa5 ?ga5 ?gg5 ?nb5 ?ai5 ?ti5 ?l26 ?c26 ?k26 ?kC5 ?eC5 ?tC5 ?hC5 ?iC5 ?s5_3 ?s2_3 ?s3_3 ?z0 ?z1 ?z2 ?z3 ?z4 ?z5 ?z6 ?z7 ?z8 ?z9 ?z10 ?z11 ?z12 ?q_0 ?q_1 ?q_2 ?q_3
    (case gC0 => first | k_is | rfl)
    (case gC2 => first | k_is | rfl)
    (case gC3 => first | k_is | rfl)
    (case gC5 => first | k_is | rfl)
    (case gC7 => first | k_is | rfl)
    (case a0 => first | k_is | rfl)
    (case l0 => first | k_is | rfl)
    (case c0 => first | k_is | rfl)
    (case k0 => first | k_is | rfl)
    (case a1 => first | k_is | rfl)
    (case l1 => first | k_is | rfl)
    (case c1 => first | k_is | rfl)
    (case k1 => first | k_is | rfl)
    (case a2 => first | k_is | rfl)
    (case l2 => first | k_is | rfl)
    (case c2 => first | k_is | rfl)
    (case k2 => first | k_is | rfl)
    (case a3 => first | k_is | rfl)
    (case l3 => first | k_is | rfl)
    (case c3 => first | k_is | rfl)
    (case k3 => first | k_is | rfl)
    (case d3_0 => first | k_is | rfl)
    (case d3_1 => first | k_is | rfl)
    (case a4 => first | k_is | rfl)
    (case l4 => first | k_is | rfl)
    (case c4 => first | k_is | rfl)
    (case k4 => first | k_is | rfl)
    (case a5 => first | k_is | rfl)
    (case l5 => first | k_is | rfl)
    (case c5 => first | k_is | rfl)
    (case k5 => first | k_is | rfl)
    (case a6 => first | k_is | rfl)
    (case l6 => first | k_is | rfl)
    (case c6 => first | k_is | rfl)
    (case k6 => first | k_is | rfl)
    (case a7 => first | k_is | rfl)
    (case l7 => first | k_is | rfl)
    (case c7 => first | k_is | rfl)
    (case k7 => first | k_is | rfl)
    (case a8 => first | k_is | rfl)
    (case l8 => first | k_is | rfl)
    (case c8 => first | k_is | rfl)
    (case k8 => first | k_is | rfl)
    (case a9 => first | k_is | rfl)
    (case l9 => first | k_is | rfl)
    (case c9 => first | k_is | rfl)
    (case k9 => first | k_is | rfl)
    (case a10 => first | k_is | rfl)
    (case l10 => first | k_is | rfl)
    (case c10 => first | k_is | rfl)
    (case k10 => first | k_is | rfl)
    (case a11 => first | k_is | rfl)
    (case l11 => first | k_is | rfl)
    (case c11 => first | k_is | rfl)
    (case k11 => first | k_is | rfl)
    (case a12 => first | k_is | rfl)
    (case l12 => first | k_is | rfl)
    (case c12 => first | k_is | rfl)
    (case k12 => first | k_is | rfl)
    (case a13 => first | k_is | rfl)
    (case l13 => first | k_is | rfl)
    (case c13 => first | k_is | rfl)
    (case k13 => first | k_is | rfl)
    (case a14 => first | k_is | rfl)
    (case l14 => first | k_is | rfl)
    (case c14 => first | k_is | rfl)
    (case k14 => first | k_is | rfl)
    (case a15 => first | k_is | rfl)
    (case l15 => first | k_is | rfl)
    (case c15 => first | k_is | rfl)
    (case k15 => first | k_is | rfl)
    (case a16 => first | k_is | rfl)
    (case l16 => first | k_is | rfl)
    (case c16 => first | k_is | rfl)
    (case k16 => first | k_is | rfl)
    (case a17 => first | k_is | rfl)
    (case l17 => first | k_is | rfl)
    (case c17 => first | k_is | rfl)
    (case k17 => first | k_is | rfl)
    (case a18 => first | k_is | rfl)
    (case l18 => first | k_is | rfl)
    (case c18 => first | k_is | rfl)
    (case k18 => first | k_is | rfl)
    (case a19 => first | k_is | rfl)
    (case l19 => first | k_is | rfl)
    (case c19 => first | k_is | rfl)
    (case k19 => first | k_is | rfl)
    (case y19 => first | k_is | rfl)
    (case d19_0 => first | k_is | rfl)
    (case d19_1 => first | k_is | rfl)
    (case a20 => first | k_is | rfl)
    (case r20 => first | k_is | rfl)
    (case fi20 => first | k_is | rfl)
    (case l20 => first | k_is | rfl)
    (case c20 => first | k_is | rfl)
    (case k20 => first | k_is | rfl)
    (case a21 => first | k_is | rfl)
    (case l21 => first | k_is | rfl)
    (case c21 => first | k_is | rfl)
    (case k21 => first | k_is | rfl)
    (case y21 => first | k_is | rfl)
    (case a22 => first | k_is | rfl)
    (case l22 => first | k_is | rfl)
    (case c22 => first | k_is | rfl)
    (case k22 => first | k_is | rfl)
    (case y22 => first | k_is | rfl)
    (case a23 => first | k_is | rfl)
    (case l23 => first | k_is | rfl)
    (case c23 => first | k_is | rfl)
    (case k23 => first | k_is | rfl)
    (case y23 => first | k_is | rfl)
    (case op7 => first | k_is | rfl)
    (case oh7 => first | k_is | rfl)
    (case oo7 => first | k_is | rfl)
    (case os7 => first | k_is | rfl)
    (case nf0 => first | k_is | rfl)
    (case nf1 => first | k_is | rfl)
    (case nf2 => first | k_is | rfl)
    (case nf3 => first | k_is | rfl)
    (case mt0 => first | k_is | rfl)
    (case mt1 => first | k_is | rfl)
    (case mt2 => first | k_is | rfl)
    (case mm0 => first | k_is | rfl)
    (case mi0 => first | k_is | rfl)
    (case mp0 => first | k_is | rfl)
    (case rd7 => first | k_is | rfl)
    (case rg7 => first | k_is | rfl)
    (case bg0 => first | k_is | rfl)
    (case br0 => first | k_is | rfl)
    (case bf0 => first | k_is | rfl)
    (case xL2 => first | k_is | rfl)
    (case sa2 => first | k_is | rfl)
    (case ga2 => first | k_is | rfl)
    (case gg2 => first | k_is | rfl)
    (case nb2 => first | k_is | rfl)
    (case ai2 => first | k_is | rfl)
    (case ti2 => first | k_is | rfl)
    (case l24 => first | k_is | rfl)
    (case c24 => first | k_is | rfl)
    (case k24 => first | k_is | rfl)
    (case kC2 => first | k_is | rfl)
    (case eC2 => first | k_is | rfl)
    (case tC2 => first | k_is | rfl)
    (case hC2 => first | k_is | rfl)
    (case iC2 => first | k_is | rfl)
    (case xL3 => first | k_is | rfl)
    (case sa3 => first | k_is | rfl)
    (case ga3 => first | k_is | rfl)
    (case gg3 => first | k_is | rfl)
    (case nb3 => first | k_is | rfl)
    (case ai3 => first | k_is | rfl)
    (case ti3 => first | k_is | rfl)
    (case l25 => first | k_is | rfl)
    (case c25 => first | k_is | rfl)
    (case k25 => first | k_is | rfl)
    (case kC3 => first | k_is | rfl)
    (case eC3 => first | k_is | rfl)
    (case tC3 => first | k_is | rfl)
    (case hC3 => first | k_is | rfl)
    (case iC3 => first | k_is | rfl)
    (case xL5 => first | k_is | rfl)
    (case sa5 => first | k_is | rfl)
    (case ga5 => first | k_is | rfl)
    (case gg5 => first | k_is | rfl)
    (case nb5 => first | k_is | rfl)
    (case ai5 => first | k_is | rfl)
    (case ti5 => first | k_is | rfl)
    (case l26 => first | k_is | rfl)
    (case c26 => first | k_is | rfl)
    (case k26 => first | k_is | rfl)
    (case kC5 => first | k_is | rfl)
    (case eC5 => first | k_is | rfl)
    (case tC5 => first | k_is | rfl)
    (case hC5 => first | k_is | rfl)
    (case iC5 => first | k_is | rfl)
    (case s5_3 => first | k_is | rfl)
    (case s2_3 => first | k_is | rfl)
    (case s3_3 => first | k_is | rfl)
    (case z0 => first | k_is | rfl)
    (case z1 => first | k_is | rfl)
    (case z2 => first | k_is | rfl)
    (case z3 => first | k_is | rfl)
    (case z4 => first | k_is | rfl)
    (case z5 => first | k_is | rfl)
    (case z6 => first | k_is | rfl)
    (case z7 => first | k_is | rfl)
    (case z8 => first | k_is | rfl)
    (case z9 => first | k_is | rfl)
    (case z10 => first | k_is | rfl)
    (case z11 => first | k_is | rfl)
    (case z12 => first | k_is | rfl)
    (case q_0 => first | k_is | rfl)
    (case q_1 => first | k_is | rfl)
    (case q_2 => first | k_is | rfl)
    (case q_3 => first | k_is | rfl)
