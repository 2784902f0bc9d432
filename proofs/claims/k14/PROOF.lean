import PyProof.Rows.All
import Wide.All
import OpenK.AllK
import Wide.FinOn
import HandS.ForMost
import HandS.IsInst
import HandS.Walk
import HandS.Flow
import HandS.Zip
import PyProof.NeKinds
import HandS.Exc
import HandS.ExcOwn
import HandS.ExcInit
import HandS.ExcField
import HandS.WordsExc
import HandS.Defaults
import HandS.MakeKwOnly
import HandS.DeepEq
import HandS.Replace
import HandS.RaiseMore
import HandS.Text
import PyProof.ReprRoads
import PyProof.ReprLen
import HandS.Codes
import KE.IntTextLaws
import PyProof.ReprDict
import PyProof.StrBlock2
import HandS.NoneIn
import PySem.Challenge.RW_reflows_k14_pages_refused
set_option Elab.async false
set_option linter.all false
set_option maxRecDepth 100000
set_option maxHeartbeats 4000000
namespace PySem.SeqAt
open AutoSeq1 (wpAny_loadPart')
open MeetsSeq
theorem dict_ne_declines_tuple (l b : Addr) (es : Array DictEntry) (items2 : Array Value) (n n2 : Nat) (dd2 : Option Addr) (sl2 : Array (Option Value)) :
    Meets (Builtin.«dict.__ne__» ⟨[.ref l, .ref b], []⟩) (fun _ R s => s.heap.get? l = some { cls := .type "dict", dict := none, data := .dict es n, slots := #[] } ∧ s.heap.get? b = some { cls := .type "tuple", dict := dd2, data := .seq items2 n2, slots := sl2 } ∧ R (.ok (.ret .notImplemented)) s) :=
  .of_wp fun prog w A R s h => by
    obtain ⟨hp, g, d, tk, os⟩ := s; obtain ⟨hl, hb, h⟩ := h; have f1 := F.sub_tuple_dict
    unfold Builtin.«dict.__ne__»
    wp_walk using wpAny_loadPart' hl, wpAny_loadPart' hb
    exact ⟨_, rfl, h⟩
theorem tuple_ne_declines_dict (l b : Addr) (es : Array DictEntry) (items : Array Value) (n n2 : Nat) (dd : Option Addr) (sl : Array (Option Value)) :
    Meets (Builtin.«tuple.__ne__» ⟨[.ref l, .ref b], []⟩) (fun _ R s => s.heap.get? l = some { cls := .type "tuple", dict := dd, data := .seq items n, slots := sl } ∧ s.heap.get? b = some { cls := .type "dict", dict := none, data := .dict es n2, slots := #[] } ∧ R (.ok (.ret .notImplemented)) s) :=
  .of_wp fun prog w A R s h => by obtain ⟨hp, g, d, tk, os⟩ := s; obtain ⟨hl, hb, h⟩ := h; have f1 := F.sub_dict_tuple; wp_walk using wpAny_loadPart' hl, wpAny_loadPart' hb; exact ⟨_, rfl, h⟩
theorem RcNeAt.dict_tuple {A : Around} {s : Shared} {l b : Addr} {o : Obj} {es : Array DictEntry} {ep : Nat} {items2 : Array Value} (ho : s.heap.get? l = some o) (hx : o.ExactDict) (hd : o.data = .dict es ep) (hb : s.heap.IsTuple b items2) (hu : A.units < cLine) : RcNeAt A s (.ref l) (.ref b) true := fun prog w E Q h => by
  obtain ⟨cls, dd, data, sl⟩ := o
  obtain ⟨⟨cls2, dd2, data2, sl2⟩, ho2, hc2, n2, hd2⟩ := id hb
  obtain ⟨h1, h2, h3⟩ := hx
  simp only at h1 h2 h3 hd hc2 hd2
  subst h1 h2 h3 hd hc2 hd2
  have hne : l ≠ b := fun e => by
    subst e
    have e := Option.some.inj (ho.symm.trans ho2)
    injection e with e1
    injection e1 with e1
    exact absurd e1 (by decide)
  exact (rc_ne_decline_or (k := false) ⟨_, ho, rfl⟩ ⟨_, ho2, rfl⟩ (by decide) F.sub_tuple_dict F.slot_dict_ne F.slot_tuple_ne_refl
    (fun _ hq => call_meets F.slot_dict_ne ⟨_, ho, rfl⟩ F.entry_dict_ne (F.args_dict_ne_2 _ _) (dict_ne_declines_tuple l b es items2 ep n2 dd2 sl2) ⟨ho, ho2, hq⟩)
    (fun _ hq => call_meets F.slot_tuple_ne_refl ⟨_, ho2, rfl⟩ F.entry_tuple_ne (F.args_tuple_ne_2 _ _) (tuple_ne_declines_dict b l es items2 n2 ep dd2 sl2) ⟨ho2, ho, hq⟩)
    (fun _ hq => wpAny_isSame_ref_other hne ho ho2 (by simp) hq) (.inr hu) h)
end PySem.SeqAt
namespace U
open PySem L2

/-! ### weakening of judgements -/
section
variable {X : Cx}
theorem PEi {e : Expr} {t u : TE} (h : PE X e t) (i : ∀ σ H Q, u σ H Q → t σ H Q) : PE X e u := ⟨fun pins s σ H Q I k => h.run pins s σ H Q I (i σ H Q k)⟩
theorem PTi {e : Expr} {t u : TT} (h : PT X e t) (i : ∀ σ H Q, u σ H Q → t σ H Q) : PT X e u := ⟨fun pins s σ H Q I k => h.run pins s σ H Q I (i σ H Q k)⟩
theorem PWi {e : Expr} {t u : TT} (h : PW X e t) (i : ∀ σ H Q, u σ H Q → t σ H Q) : PW X e u := ⟨fun wh pins s σ H Q I k => h.run wh pins s σ H Q I (i σ H Q k)⟩
theorem PSi {e : Stmt} {t u : TS} (h : PS X e t) (i : ∀ D σ H, u D σ H → t D σ H) : PS X e u := ⟨fun pins s σ H D I k => h.run pins s σ H D I (i D σ H k)⟩
theorem OpRi {f : Value → Value → Sem Value} {r r' : R2} (h : OpR X f r) (i : ∀ x y H Q, r' x y H Q → r x y H Q) : OpR X f r' := fun pins s σ H x y v u Q I rx ry k => h pins s σ H x y v u Q I rx ry (i x y H Q k)
theorem CallRi {f : Value} {r r' : List V → Hp → VK → Prop} (h : CallR X f r) (i : ∀ xs H Q, r' xs H Q → r xs H Q) : CallR X f r' := fun pins s σ H xs us Q I r k => h pins s σ H xs us Q I r (i xs H Q k)
theorem IxRi {r r' : R2} (h : IxR X r) (i : ∀ x y H Q, r' x y H Q → r x y H Q) : IxR X r' := fun value slice pins s σ H x y v u Q I rx ry q hs => h value slice pins s σ H x y v u Q I rx ry (i x y H Q q) hs
theorem SlRi {r r' : V → Option Int → Option Int → Hp → VK → Prop} (h : L2.SlR X r) (i : ∀ x lo hi H Q, r' x lo hi H Q → r x lo hi H Q) : L2.SlR X r' := fun pins s σ H x v vl vu lo hi sl Q I rx hs pl pu q => h pins s σ H x v vl vu lo hi sl Q I rx hs pl pu (i x lo hi H Q q)
theorem MtRi {id : String} {r r' : V → List V → Hp → VK → Prop} (h : MtR X id r) (i : ∀ x xs H Q, r' x xs H Q → r x xs H Q) : MtR X id r' := fun pins s σ H x xs v us Q I rx rs q => h pins s σ H x xs v us Q I rx rs (i x xs H Q q)
theorem PIi {tg iter : Expr} {t u : TI} (h : PI X tg iter t) (i : ∀ σ H R, u σ H R → t σ H R) : PI X tg iter u := ⟨fun pins s σ H R I k => h.run pins s σ H R I (i σ H R k)⟩
theorem POi {e : Option Expr} {t u : TO} (h : PO X e t) (i : ∀ σ H Q, u σ H Q → t σ H Q) : PO X e u := ⟨fun pins s σ H Q I k => h.run pins s σ H Q I (i σ H Q k)⟩
end

/-! ### branches by name -/
def bV (x : V) (A B : Prop) : Prop := match x with | .bl true => A | .bl false => B | _ => False
def bB (c : Bool) (A B : Prop) : Prop := match c with | true => A | false => B
def oK {α : Type} (o : Option α) (f : α → Prop) : Prop := match o with | some x => f x | none => False
section
variable {A B : Prop} {α : Type}
theorem bV_of {c : Bool} (h1 : c = true → A) (h2 : c = false → B) : bV (.bl c) A B := by
  cases c
  · exact h2 rfl
  · exact h1 rfl
theorem bB_of {c : Bool} (h1 : c = true → A) (h2 : c = false → B) : bB c A B := by
  cases c
  · exact h2 rfl
  · exact h1 rfl
theorem bV_t {c : Bool} (hc : c = true) (h : A) : bV (.bl c) A B := by subst hc; exact h
theorem bV_f {c : Bool} (hc : c = false) (h : B) : bV (.bl c) A B := by subst hc; exact h
theorem bB_t {c : Bool} (hc : c = true) (h : A) : bB c A B := by subst hc; exact h
theorem bB_f {c : Bool} (hc : c = false) (h : B) : bB c A B := by subst hc; exact h
theorem bV_d {p : Prop} [Decidable p] (h1 : p → A) (h2 : ¬ p → B) : bV (.bl (decide p)) A B := bV_of (fun h => h1 (of_decide_eq_true h)) fun h => h2 (of_decide_eq_false h)
theorem bB_d {p : Prop} [Decidable p] (h1 : p → A) (h2 : ¬ p → B) : bB (decide p) A B := bB_of (fun h => h1 (of_decide_eq_true h)) fun h => h2 (of_decide_eq_false h)
theorem bB_n {p : Prop} [Decidable p] (h1 : ¬ p → A) (h2 : p → B) : bB (!decide p) A B := bB_of (fun h => h1 (by simpa using h)) fun h => h2 (by simpa using h)
theorem bB_if (c : Bool) (A B : Prop) : bB c A B = if c = true then A else B := by
  cases c <;> simp [bB]
theorem oK_of {o : Option α} {f : α → Prop} {x : α} (h : o = some x) (k : f x) : oK o f := by subst h; exact k
theorem oK_ex {o : Option α} {f : α → Prop} (h : oK o f) : ∃ x, o = some x ∧ f x := by
  cases o with
  | none => exact h.elim
  | some x => exact ⟨x, rfl, h⟩
end

/-! ### names, tests -/
def uVar (i : Nat) : TE := fun σ H Q => match σ[i]? with | some (some v) => Q v H | _ => False
def uT (t : TE) : TT := fun σ H Q => t σ H fun x H1 => match x with | .bl k => Q k H1 | _ => False
def uAndV (ta tb : TE) : TE := fun σ H Q => ta σ H fun x H1 => bV x (tb σ H1 Q) (Q (.bl false) H1)
def uOrV (ta tb : TE) : TE := fun σ H Q => ta σ H fun x H1 => bV x (Q (.bl true) H1) (tb σ H1 Q)
def uNotV (ta : TE) : TE := fun σ H Q => ta σ H fun x H1 => match x with | .bl k => Q (.bl (!k)) H1 | _ => False
def uAnd (t u : TT) : TT := fun σ H Q => t σ H fun c H1 => bB c (u σ H1 Q) (Q false H1)
def uOr (t u : TT) : TT := fun σ H Q => t σ H fun c H1 => bB c (Q true H1) (u σ H1 Q)
def uNot (t : TT) : TT := fun σ H Q => t σ H fun c H1 => Q (!c) H1
def uIf (t : TT) (ta tb : TE) : TE := fun σ H Q => t σ H fun c H1 => bB c (ta σ H1 Q) (tb σ H1 Q)
def uIfS (t : TT) (a b : TS) : TS := fun D σ H => t σ H fun c H1 => bB c (a D σ H1) (b D σ H1)
section
variable {X : Cx} {a b : Expr} {ta tb : TE} {pos : Pos} {tA tB' : TT} {rest : List Expr}
theorem pu (i : Nat) {x : Str} {pos : Pos} (hN : X.N[i]? = some x := by rfl) (hv : Vis X.env.scope x := by first | exact Or.inl rfl | exact Or.inr (Or.inl rfl) | exact Or.inr (Or.inr rfl)) (hd : (x == ("__debug__" : Str)) = false := by decide)
    (hcd : (x == ("__classdict__" : Str)) = false := by decide) : PE X (.Name x pos) (uVar i) := PEi (pe_var hN hv hd hcd) fun σ H Q h => by
  unfold uVar at h
  split at h
  · exact ⟨_, by assumption, h⟩
  · exact h.elim
theorem uT_tB {t : TE} {σ H Q} (h : uT t σ H Q) : ∃ (R : VK), t σ H R ∧ ∀ x H1, R x H1 → ∃ c, x = V.bl c ∧ Q c H1 := by
  refine ⟨_, h, fun x H1 r => ?_⟩
  split at r
  · exact ⟨_, rfl, r⟩
  · exact r.elim
end
/-- readings are monotone in what follows (needed to pass from the computing form to the layer's) -/
theorem t_iff {p q : VK} (e : p = q) {t : TE} {σ H} (h : t σ H p) : t σ H q := e ▸ h
theorem k_bl (Q : Bool → Hp → Prop) : (fun (x : V) (H1 : Hp) => match x with | .bl k => Q k H1 | _ => False) = (fun x H1 => ∃ c, x = V.bl c ∧ Q c H1) := by
  funext x H1
  cases x <;> simp
theorem k_and (f : Hp → Prop) (g : Hp → Prop) : (fun (x : V) (H1 : Hp) => bV x (f H1) (g H1)) = (fun x H1 => ∃ c, x = V.bl c ∧ if c = true then f H1 else g H1) := by
  funext x H1
  unfold bV
  cases x with
  | bl b => cases b <;> simp
  | _ => simp
theorem k_b (f : Hp → Prop) (g : Hp → Prop) : (fun (c : Bool) (H1 : Hp) => bB c (f H1) (g H1)) = (fun c H1 => if c = true then f H1 else g H1) := by
  funext c H1
  unfold bB
  cases c <;> simp
section
variable {X : Cx} {a b : Expr} {ta tb : TE} {pos : Pos} {tA tB' : TT} {rest : List Expr}
theorem uT_eq (t : TE) : uT t = tB t := by funext σ H Q; unfold uT tB; rw [k_bl]
theorem uT_eq' (t : TE) : uT t = tTest t := by funext σ H Q; unfold uT tTest; rw [k_bl]
theorem uAndV_eq (ta tb : TE) : uAndV ta tb = tAndV ta tb := by funext σ H Q; unfold uAndV tAndV; rw [k_and]
theorem uOrV_eq (ta tb : TE) : uOrV ta tb = tOrV ta tb := by funext σ H Q; unfold uOrV tOrV; rw [k_and]
theorem uNotV_eq (ta : TE) : uNotV ta = tNotV ta := by
  funext σ H Q; unfold uNotV tNotV
  exact congrArg (ta σ H) (k_bl fun c H1 => Q (.bl (!c)) H1)
theorem uAnd_eq (t u : TT) : uAnd t u = tAnd t u := by funext σ H Q; unfold uAnd tAnd; rw [k_b]
theorem uOr_eq (t u : TT) : uOr t u = tOr t u := by funext σ H Q; unfold uOr tOr; rw [k_b]
theorem uIf_eq (t : TT) (ta tb : TE) : uIf t ta tb = tIf t ta tb := by funext σ H Q; unfold uIf tIf; rw [k_b]
theorem uIfS_eq (t : TT) (a b : TS) : uIfS t a b = tIfS t a b := by funext D σ H; unfold uIfS tIfS; rw [k_b]
theorem put_val {e : Expr} {t : TE} (h : PE X e t) (he : ∀ whole, isTrue e X.env whole = (do let v ← whole; standAt e.pos; holding [v] (truthy v)) := by intro _; rfl) : PT X e (uT t) := by
  rw [uT_eq]; exact pt_val h he
theorem put_cmp {op : CmpOp} {r : R2} (ho : OpR X (compareOp op) r) (ha : PE X a ta) (hb : PE X b tb) (hm : behindInMarks op b = false) : PT X (.Compare a [op] [b] pos) (uT (tOp r ta tb)) := by
  rw [uT_eq']; exact pt_cmpR ho ha hb hm
theorem pue_and (ha : PE X a ta) (hb : PE X (.BoolOp .And (b :: rest) pos) tb) : PE X (.BoolOp .And (a :: b :: rest) pos) (uAndV ta tb) := by rw [uAndV_eq]; exact pe_and ha hb
theorem pue_or (ha : PE X a ta) (hb : PE X (.BoolOp .Or (b :: rest) pos) tb) : PE X (.BoolOp .Or (a :: b :: rest) pos) (uOrV ta tb) := by rw [uOrV_eq]; exact pe_or ha hb
theorem pue_not (ha : PE X a ta) : PE X (.UnaryOp .Not a pos) (uNotV ta) := by rw [uNotV_eq]; exact pe_not ha
theorem puw_and (ha : PT X a tA) (hb : PW X (.BoolOp .And (b :: rest) pos) tB') : PW X (.BoolOp .And (a :: b :: rest) pos) (uAnd tA tB') := by rw [uAnd_eq]; exact pw_and ha hb
theorem puw_or (ha : PT X a tA) (hb : PW X (.BoolOp .Or (b :: rest) pos) tB') : PW X (.BoolOp .Or (a :: b :: rest) pos) (uOr tA tB') := by rw [uOr_eq]; exact pw_or ha hb
theorem put_not (ha : PT X a tA) : PT X (.UnaryOp .Not a pos) (uNot tA) := pt_not ha
theorem pue_if {c : Expr} (hc : PT X c tA) (ha : PE X a ta) (hb : PE X b tb) : PE X (.IfExp c a b pos) (uIf tA ta tb) := by rw [uIf_eq]; exact pe_ifExp hc ha hb
theorem pus_if {c : Expr} {p q : List Stmt} {t u : TS} (hc : PT X c tA) (ha : PSs X p t) (hb : PSs X q u) : PS X (.If c p q pos) (uIfS tA t u) := by rw [uIfS_eq]; exact ps_if hc ha hb
end

/-! ### operators -/
def uAdd (K : PySem.W.Frag) : R2 := fun x y H Q => match x, y with
  | .int i, .int j => Q (.int (i + j)) H
  | .str i, .str j => i.length + j.length ≤ sizeLine ∧ Q (.str (i ++ j)) H
  | .ref l, .ref b => ∃ xs zs, H l = some (.lst xs) ∧ H b = some (.lst zs) ∧ xs.length + zs.length ≤ sizeLine ∧ ∀ p, H p = none → Q (.ref p) (upd H p (.lst (xs ++ zs)))
  | _, _ => False
def uSub : R2 := fun x y H Q => match x, y with
  | .int i, .int j => Q (.int (i - j)) H
  | _, _ => False
def uMul : R2 := fun x y H Q => match x, y with
  | .int i, .int j => CMul i j ∧ Q (.int (i * j)) H
  | _, _ => False
def uFdiv : R2 := fun x y H Q => match x, y with
  | .int i, .int j => CDiv i j ∧ Q (.int (i / j)) H
  | _, _ => False
def uMod : R2 := fun x y H Q => match x, y with
  | .int i, .int j => 0 < j ∧ Q (.int (i % j)) H
  | _, _ => False
def uPow : R2 := fun x y H Q => match x, y with
  | .int i, .int j => CPow i j ∧ Q (.int (i ^ j.toNat)) H
  | _, _ => False
def uCmpI (p : Int → Int → Bool) (q : List Nat → List Nat → Bool) : R2 := fun x y H Q => match x, y with
  | .int i, .int j => Q (.bl (p i j)) H
  | .str i, .str j => Q (.bl (q i.cps.toList j.cps.toList)) H
  | _, _ => False
abbrev uLt : R2 := uCmpI (fun i j => decide (i < j)) (fun i j => decide (i < j))
abbrev uLe : R2 := uCmpI (fun i j => decide (i ≤ j)) (fun i j => !decide (j < i))
abbrev uGt : R2 := uCmpI (fun i j => decide (j < i)) (fun i j => decide (j < i))
abbrev uGe : R2 := uCmpI (fun i j => decide (j ≤ i)) (fun i j => !decide (i < j))
section
variable {X : Cx}
theorem ou_add : OpR X (binaryOp .Add) (uAdd X.K) := OpRi (op_add.or (op_add_str.or op_cat)) fun x y H Q h => by
  unfold uAdd at h
  split at h
  · exact .inl ⟨_, _, rfl, rfl, h⟩
  · exact .inr (.inl ⟨_, _, rfl, rfl, h⟩)
  · obtain ⟨xs, zs, h1, h2, h3, h4⟩ := h
    exact .inr (.inr ⟨_, _, xs, zs, rfl, rfl, h1, h2, h3, h4⟩)
  · exact h.elim
theorem ou_sub : OpR X (binaryOp .Sub) uSub := OpRi op_sub fun x y H Q h => by
  unfold uSub at h
  split at h
  · exact ⟨_, _, rfl, rfl, h⟩
  · exact h.elim
theorem ou_mul : OpR X (binaryOp .Mult) uMul := OpRi op_mul fun x y H Q h => by
  unfold uMul at h
  split at h
  · exact ⟨_, _, rfl, rfl, h⟩
  · exact h.elim
theorem ou_fdiv : OpR X (binaryOp .FloorDiv) uFdiv := OpRi op_fdiv fun x y H Q h => by
  unfold uFdiv at h
  split at h
  · exact ⟨_, _, rfl, rfl, h⟩
  · exact h.elim
theorem ou_mod : OpR X (binaryOp .Mod) uMod := OpRi op_mod fun x y H Q h => by
  unfold uMod at h
  split at h
  · exact ⟨_, _, rfl, rfl, h⟩
  · exact h.elim
theorem ou_pow : OpR X (binaryOp .Pow) uPow := OpRi op_pow fun x y H Q h => by
  unfold uPow at h
  split at h
  · exact ⟨_, _, rfl, rfl, h⟩
  · exact h.elim
theorem uCmp_or {p : Int → Int → Bool} {q : List Nat → List Nat → Bool} {f : Value → Value → Sem Value} (h1 : OpR X f (rI0 fun i j => .bl (p i j))) (h2 : OpR X f (fun x y H Q => ∃ i j, x = .str i ∧ y = .str j ∧ Q (.bl (q i.cps.toList j.cps.toList)) H)) : OpR X f (uCmpI p q) :=
  OpRi (h1.or h2) fun x y H Q h => by
  unfold uCmpI at h
  split at h
  · exact .inl ⟨_, _, rfl, rfl, h⟩
  · exact .inr ⟨_, _, rfl, rfl, h⟩
  · exact h.elim
theorem ou_lt : OpR X (compareOp .Lt) uLt := uCmp_or op_lt op_lt_str
theorem ou_le : OpR X (compareOp .LtE) uLe := uCmp_or op_le op_le_str
theorem ou_gt : OpR X (compareOp .Gt) uGt := uCmp_or op_gt op_gt_str
theorem ou_ge : OpR X (compareOp .GtE) uGe := uCmp_or op_ge op_ge_str
end

/-! ### what is read at an address -/
def seqOf (c : String) (o : Obj) : Option (List V) := match o with
  | ⟨.type d, none, .seq its _, _⟩ => if c = d ∧ its.size ≤ sizeLine then its.toList.mapM absV else none
  | _ => none
def kS (K : PySem.W.Frag) (c : String) (a : Addr) : Option (List V) := match K.lookup a with
  | some o => seqOf c o
  | none => none
def rdL (K : PySem.W.Frag) (H : Hp) (a : Addr) : Option (List V) := match H a with
  | some (.lst xs) => some xs
  | some (.frz _ (.lst xs)) => some xs
  | some _ => none
  | none => kS K "list" a
def rdT (K : PySem.W.Frag) (H : Hp) (a : Addr) : Option (List V) := match H a with
  | some (.tup xs) => some xs
  | some (.frz _ (.tup xs)) => some xs
  | some _ => none
  | none => kS K "tuple" a
def rdS (K : PySem.W.Frag) (H : Hp) (a : Addr) : Option (List V) := match rdL K H a with
  | some xs => some xs
  | none => rdT K H a
theorem mapM_vals : ∀ {us : List Value} {xs : List V}, us.mapM absV = some xs → Vals xs us := by
  intro us
  induction us with
  | nil => intro xs h; simp at h; subst h; exact .nil
  | cons u r ih =>
    intro xs h
    rw [List.mapM_cons] at h
    cases e1 : absV u with
    | none => rw [e1] at h; cases h
    | some x =>
      cases e2 : r.mapM absV with
      | none => rw [e1, e2] at h; cases h
      | some ys =>
        rw [e1, e2] at h
        cases h
        refine .cons ?_ (ih e2)
        cases u <;> simp [absV] at e1 <;> subst e1 <;> first | rfl | exact ⟨_, rfl⟩
theorem kS_spec {K : PySem.W.Frag} {c : String} {a : Addr} {xs : List V} (h : kS K c a = some xs) : ∃ (o : Obj) (its : Array Value) (n : Nat), K.lookup a = some o ∧ o.cls = .type c ∧ o.dict = none ∧ o.data = .seq its n ∧ its.size ≤ sizeLine ∧ Vals xs its.toList := by
  unfold kS at h
  split at h
  · rename_i o e
    unfold seqOf at h
    split at h
    · split at h
      · rename_i hc
        obtain ⟨rfl, hz⟩ := hc
        exact ⟨_, _, _, e, rfl, rfl, rfl, hz, mapM_vals h⟩
      · cases h
    · cases h
  · cases h
theorem rdL_sq {K : PySem.W.Frag} {H : Hp} {a : Addr} {xs : List V} (h : rdL K H a = some xs) : SqL K H a xs := by
  unfold rdL at h
  split at h
  · cases h; exact .inl (.inl (by assumption))
  · cases h; exact .inl (.inr ⟨_, by assumption⟩)
  · cases h
  · exact .inr (kS_spec h)
theorem rdT_sq {K : PySem.W.Frag} {H : Hp} {a : Addr} {xs : List V} (h : rdT K H a = some xs) : SqT K H a xs := by
  unfold rdT at h
  split at h
  · cases h; exact .inl (.inl (by assumption))
  · cases h; exact .inl (.inr ⟨_, by assumption⟩)
  · cases h
  · obtain ⟨o, its, n, h1, h2, h3, h4, h5, h6⟩ := kS_spec h
    exact .inr ⟨o, its, n, h1, h2, h4, h5, h6⟩
theorem rdS_sq {K : PySem.W.Frag} {H : Hp} {a : Addr} {xs : List V} (h : rdS K H a = some xs) : SqL K H a xs ∨ SqT K H a xs := by
  unfold rdS at h
  split at h
  · cases h; exact .inl (rdL_sq (by assumption))
  · exact .inr (rdT_sq h)
theorem rdL_of {K : PySem.W.Frag} {H : Hp} {a : Addr} {xs : List V} (h : H a = some (.lst xs)) : rdL K H a = some xs := by unfold rdL; rw [h]
theorem rdT_of {K : PySem.W.Frag} {H : Hp} {a : Addr} {xs : List V} (h : H a = some (.tup xs)) : rdT K H a = some xs := by unfold rdT; rw [h]
theorem rdS_ofL {K : PySem.W.Frag} {H : Hp} {a : Addr} {xs : List V} (h : rdL K H a = some xs) : rdS K H a = some xs := by unfold rdS; rw [h]
theorem rdS_l {K : PySem.W.Frag} {H : Hp} {a : Addr} {xs : List V} (h : H a = some (.lst xs)) : rdS K H a = some xs := rdS_ofL (rdL_of h)
theorem rdS_t {K : PySem.W.Frag} {H : Hp} {a : Addr} {xs : List V} (h : H a = some (.tup xs)) : rdS K H a = some xs := by
  unfold rdS rdL rdT; rw [h]

/-- a list or a tuple is read -/
def oS (K : PySem.W.Frag) (H : Hp) (p : Addr) (f : List V → Prop) : Prop := ∃ xs, (SqL K H p xs ∨ SqT K H p xs) ∧ f xs
theorem oS_of {K : PySem.W.Frag} {H : Hp} {p : Addr} {f : List V → Prop} {xs : List V} (h : rdS K H p = some xs) (k : f xs) : oS K H p f := ⟨xs, rdS_sq h, k⟩
theorem oS_l {K : PySem.W.Frag} {H : Hp} {p : Addr} {f : List V → Prop} {xs : List V} (h : SqL K H p xs) (k : f xs) : oS K H p f := ⟨xs, .inl h, k⟩

/-! ### growth of heaps -/
abbrev Ex (H H' : Hp) : Prop := ∀ a o, H a = some o → H' a = some o
theorem Ex.refl (H : Hp) : Ex H H := fun _ _ h => h
theorem Ex.trans {H H1 H2 : Hp} (a : Ex H H1) (b : Ex H1 H2) : Ex H H2 := fun x o h => b x o (a x o h)
theorem Ex.new {H : Hp} {p : Addr} {o : HO} (h : H p = none) : Ex H (upd H p o) := fun a u e => by
  rw [upd_ne (ne_of_none e h)]
  exact e
theorem Ex.mut {H H' : Hp} {p : Addr} {o : HO} (e : Ex H H') (h : H p = none) : Ex H (upd H' p o) := fun a u ha => by
  rw [upd_ne (ne_of_none ha h)]
  exact e a u ha
theorem Ex.free {H H' : Hp} (e : Ex H H') {p : Addr} (h : H' p = none) : H p = none := by
  cases h1 : H p with
  | none => rfl
  | some o => rw [e p o h1] at h; cases h
/-- all but b stays -/
def Fr (b : Addr) (H H' : Hp) : Prop := ∀ a o, H a = some o → a ≠ b → H' a = some o
theorem Fr.refl (b : Addr) (H : Hp) : Fr b H H := fun _ _ h _ => h
theorem Fr.trans {b : Addr} {H H1 H2 : Hp} (x : Fr b H H1) (y : Fr b H1 H2) : Fr b H H2 := fun a o h n => y a o (x a o h n) n
theorem Fr.ex {b : Addr} {H H1 : Hp} (x : Ex H H1) : Fr b H H1 := fun a o h _ => x a o h
theorem Fr.new {b p : Addr} {H : Hp} {o : HO} (h : H p = none) : Fr b H (upd H p o) := Fr.ex (Ex.new h)

/-! ### equality, membership -/
def uEq (K : PySem.W.Frag) : R2 := fun x y H Q => match scal x y with
  | true => Q (.bl (decide (x = y))) H
  | false => ∃ d e, Dp K H x d ∧ Dp K H y e ∧ SeqAt.shaped d = true ∧ SeqAt.shaped e = true ∧ Q (.bl (PyData.eqv d e)) H
def uNe (K : PySem.W.Frag) : R2 := fun x y H Q => match scal x y with
  | true => Q (.bl (!decide (x = y))) H
  | false => (∃ d e, Dp K H x d ∧ Dp K H y e ∧ SeqAt.shaped d = true ∧ SeqAt.shaped e = true ∧ Q (.bl (!PyData.eqv d e)) H) ∨
      ∃ a b kvs ys, x = .ref a ∧ y = .ref b ∧ H a = some (.dK kvs) ∧ H b = some (.tup ys) ∧ Q (.bl true) H
def uIn (K : PySem.W.Frag) (neg : Bool) : R2 := fun x y H Q => match y with
  | .str z => (match x with
    | .str w => (match w.cps.toList with
      | [c] => Q (.bl (if neg then !decide (c ∈ z.cps.toList) else decide (c ∈ z.cps.toList))) H
      | _ => False)
    | _ => False)
  | .ref p => oS K H p fun xs => flatV x = true ∧ xs.all flatV = true ∧ Q (.bl (if neg then !inV x xs else inV x xs)) H
  | _ => False
theorem str_one {w : Str} {c : Nat} (h : w.cps.toList = [c]) : w = ⟨#[c]⟩ := by
  obtain ⟨⟨l⟩⟩ := w
  have h : l = [c] := h
  subst h
  rfl
theorem uIn_sp {K : PySem.W.Frag} {neg : Bool} {x y : V} {H : Hp} {Q : VK} (h : uIn K neg x y H Q) :
    (∃ (c : Nat) (z : Str), x = .str ⟨#[c]⟩ ∧ y = .str z ∧ Q (.bl (if neg then !decide (c ∈ z.cps.toList) else decide (c ∈ z.cps.toList))) H) ∨ rIn K neg x y H Q := by
  unfold uIn at h
  split at h
  · split at h
    · split at h
      · rename_i e
        exact .inl ⟨_, _, by rw [str_one e], rfl, h⟩
      · exact h.elim
    · exact h.elim
  · obtain ⟨xs, e, h1, h2, h3⟩ := h
    exact .inr ⟨_, _, rfl, e, h1, h2, h3⟩
  · exact h.elim
section
variable {X : Cx}
theorem ou_eq (hu : X.A.units + 64 < cLine) : OpR X (compareOp .Eq) (uEq X.K) := OpRi (op_eq.or (op_eqD hu)) fun x y H Q h => by
  unfold uEq at h
  split at h
  · exact .inl ⟨by assumption, h⟩
  · exact .inr h
theorem op_ne_dt (hu : X.A.units + 64 < cLine) : OpR X (compareOp .NotEq) (fun x y H Q => ∃ a b kvs ys, x = V.ref a ∧ y = .ref b ∧ H a = some (.dK kvs) ∧ H b = some (.tup ys) ∧ Q (.bl true) H) := by
  intro pins s σ H x y v u Q I rx ry h
  obtain ⟨a, b, kvs, ys, rfl, rfl, ha, hb, q⟩ := h
  cases rx
  cases ry
  obtain ⟨_, _, vs, _, o, es, ep, h1, h2, h3, _⟩ := (show ObjOk X.prog X.w H s.heap a (.dK kvs) from I.hok a _ ha)
  obtain ⟨_, its, _, ht⟩ := (show ObjOk X.prog X.w H s.heap b (.tup ys) from I.hok b _ hb)
  exact SeqAt.RcNeAt.dict_tuple h1 h2 h3 ht (by omega) X.prog X.w X.xe _ ⟨.bl true, H, I, rfl, q⟩
theorem ou_ne (hu : X.A.units + 64 < cLine) : OpR X (compareOp .NotEq) (uNe X.K) := OpRi (op_ne.or ((op_neD hu).or (op_ne_dt hu))) fun x y H Q h => by
  unfold uNe at h
  split at h
  · exact .inl ⟨by assumption, h⟩
  · exact .inr h
theorem ou_in : OpR X (compareOp .In) (uIn X.K false) := OpRi (op_in_sign.or op_in_seq) fun x y H Q h => uIn_sp h
theorem ou_notin : OpR X (compareOp .NotIn) (uIn X.K true) := OpRi (op_notIn_sign.or op_notIn_seq) fun x y H Q h => uIn_sp h
end
/-- a < b < c -/
def uChain (r r' : R2) (ta tb tc : TE) : TE := fun σ H Q => ta σ H fun x H1 => tb σ H1 fun y H2 => r x y H2 fun z H3 => bV z (tc σ H3 fun w H4 => r' y w H4 Q) (Q (.bl false) H3)
theorem uChain_eq (r r' : R2) (ta tb tc : TE) : uChain r r' ta tb tc = tChain r r' ta tb tc := by
  funext σ H Q; unfold uChain tChain
  congr 1; funext x H1; congr 1; funext y H2
  rw [k_and]
section
variable {X : Cx} {a b c : Expr} {ta tb tc : TE} {pos : Pos}
theorem pue_chain {op op' : CmpOp} {r r' : R2} (ho : OpR X (compareOp op) r) (ho' : OpR X (compareOp op') r') (ha : PE X a ta) (hb : PE X b tb) (hc : PE X c tc) (hl : lastMarks [op, op'] [b, c] = false := by rfl) :
    PE X (.Compare a [op, op'] [b, c] pos) (uChain r r' ta tb tc) := by rw [uChain_eq]; exact pe_chain ho ho' ha hb hc hl
theorem put_chain {op op' : CmpOp} {r r' : R2} (ho : OpR X (compareOp op) r) (ho' : OpR X (compareOp op') r') (ha : PE X a ta) (hb : PE X b tb) (hc : PE X c tc) (hl : lastMarks [op, op'] [b, c] = false := by rfl) :
    PT X (.Compare a [op, op'] [b, c] pos) (uT (uChain r r' ta tb tc)) := by rw [uT_eq', uChain_eq]; exact pt_chain ho ho' ha hb hc hl
end

/-! ### items and slices -/
def uIx (K : PySem.W.Frag) : R2 := fun x y H Q => match x, y with
  | .str z, .int i => z.length ≤ sizeLine ∧ oK (atI z.cps.toList i) fun c => Q (.str ⟨#[c]⟩) H
  | .ref p, .int i => oS K H p fun xs => oK (atI xs i) fun v => Q v H
  | _, _ => False
theorem iu_ix {X : Cx} : IxR X (uIx X.K) := IxRi ix_seq fun x y H Q h => by
  unfold uIx at h
  split at h
  · obtain ⟨h1, h2⟩ := h
    obtain ⟨c, e, h2⟩ := oK_ex h2
    exact .inr (.inr ⟨_, _, _, rfl, rfl, h1, e, h2⟩)
  · obtain ⟨xs, e, h⟩ := h
    obtain ⟨v, e2, h⟩ := oK_ex h
    rcases e with q | q
    · exact .inl ⟨_, _, _, _, rfl, rfl, q, e2, h⟩
    · exact .inr (.inl ⟨_, _, _, _, rfl, rfl, q, e2, h⟩)
  · exact h.elim
def uPart (t : TE) : TO := fun σ H Q => t σ H fun x H1 => match x with | .int i => Q (some i) H1 | _ => False
theorem pou_some {X : Cx} {e : Expr} {te : TE} (h : PE X e te) : PO X (some e) (uPart te) := by
  have : uPart te = tPart te := by
    funext σ H Q; unfold uPart tPart; congr 1; funext x H1
    cases x <;> simp
  rw [this]; exact po_some h
/-- texts and lists -/
def uSl (K : PySem.W.Frag) : V → Option Int → Option Int → Hp → VK → Prop := fun x lo hi H Q => match x with
  | .str z => z.length ≤ sizeLine ∧ Q (.str (cutS z lo hi)) H
  | .ref a => (match rdL K H a with
    | some xs => ∀ p, H p = none → Q (.ref p) (upd H p (.lst (cutV xs lo hi)))
    | none => (match rdT K H a with
      | some xs => ¬ (HT.sIx xs.length 0 lo = 0 ∧ HT.sIx xs.length xs.length hi = xs.length) ∧ ∀ p, H p = none → Q (.ref p) (upd H p (.tup (cutV xs lo hi)))
      | none => False))
  | _ => False
theorem su_sl {X : Cx} : L2.SlR X (uSl X.K) := SlRi (sl_str.or (sl_list.or sl_tup)) fun x lo hi H Q h => by
  unfold uSl at h
  split at h
  · exact .inl ⟨_, rfl, h.1, h.2⟩
  · split at h
    · exact .inr (.inl ⟨_, _, rfl, rdL_sq (by assumption), h⟩)
    · split at h
      · exact .inr (.inr ⟨_, _, rfl, rdT_sq (by assumption), h.1, h.2⟩)
      · exact h.elim
  · exact h.elim

/-! ### builtins -/
def uLen (K : PySem.W.Frag) : List V → Hp → VK → Prop := fun xs H Q => match xs with
  | [.str z] => z.length ≤ sizeLine ∧ Q (.int z.length) H
  | [.ref p] => oS K H p fun ys => Q (.int ys.length) H
  | _ => False
def uMax2 : List V → Hp → VK → Prop := fun xs H Q => match xs with
  | [.int i, .int j] => Q (.int (if j > i then j else i)) H
  | _ => False
def uMin2 : List V → Hp → VK → Prop := fun xs H Q => match xs with
  | [.int i, .int j] => Q (.int (if j < i then j else i)) H
  | _ => False
def uStr : List V → Hp → VK → Prop := fun xs H Q => match xs with
  | [.int i] => i.natAbs.log2 < 1920 ∧ Q (.str (toString i)) H
  | _ => False
section
variable {X : Cx}
theorem cu_len : CallR X (.builtin "len") (uLen X.K) := CallRi call_len fun xs H Q h => by
  unfold uLen at h
  split at h
  · exact ⟨_, _, rfl, ⟨h.1, rfl⟩, h.2⟩
  · obtain ⟨ys, e, h⟩ := h
    rcases e with q | q
    · exact ⟨_, _, rfl, .inl ⟨_, q, rfl⟩, h⟩
    · exact ⟨_, _, rfl, .inr ⟨_, q, rfl⟩, h⟩
  · exact h.elim
theorem cu_max (hc : X.calm = true) : CallR X (.builtin "max") uMax2 := CallRi (call_max2 hc) fun xs H Q h => by
  unfold uMax2 at h
  split at h
  · exact ⟨_, _, rfl, h⟩
  · exact h.elim
theorem cu_min (hc : X.calm = true) : CallR X (.builtin "min") uMin2 := CallRi (call_min2 hc) fun xs H Q h => by
  unfold uMin2 at h
  split at h
  · exact ⟨_, _, rfl, h⟩
  · exact h.elim
theorem cu_str : CallR X (.type "str") uStr := CallRi call_str_int fun xs H Q h => by
  unfold uStr at h
  split at h
  · exact ⟨_, rfl, h⟩
  · exact h.elim
end
/-! ### kinds of values -/
inductive Ty | non | bl | int | str | lst | tup | dct
  deriving DecidableEq
def Ty.nm : Ty → String | .non => "NoneType" | .bl => "bool" | .int => "int" | .str => "str" | .lst => "list" | .tup => "tuple" | .dct => "dict"
def tyO : HO → Option Ty
  | .lst _ => some .lst
  | .tup _ => some .tup
  | .dK _ => some .dct
  | .dT _ => some .dct
  | .frz _ (.lst _) => some .lst
  | .frz _ (.tup _) => some .tup
  | _ => none
def tyOf (H : Hp) : V → Option Ty
  | .non => some .non | .bl _ => some .bl | .int _ => some .int | .str _ => some .str
  | .ref a => (H a).bind tyO
  | _ => none
theorem tyOf_x {K : PySem.W.Frag} {H : Hp} {v : V} {t : Ty} (h : tyOf H v = some t) : TyX K H v (.type t.nm) := by
  cases v with
  | non => cases h; exact .base .non
  | bl b => cases h; exact .base (.bl b)
  | int i => cases h; exact .base (.int i)
  | str x => cases h; exact .base (.str x)
  | byt b => cases h
  | flt b => cases h
  | ty n => cases h
  | ref a =>
    have h : (H a).bind tyO = some t := h
    cases e : H a with
    | none => rw [e] at h; cases h
    | some o =>
      rw [e] at h
      have h : tyO o = some t := h
      unfold tyO at h
      split at h <;> first | (cases h; done) | (cases h; first | exact .base (.lst e) | exact .base (.tup e) | exact .base (.dK e) | exact .base (.dT e) | exact .base (.frz e) | exact .fTuple e)
/-- is a thing of the one kind a thing of the other -/
def isT (t c : Ty) : Bool := decide (t = c) || (decide (t = .bl) && decide (c = .int))
theorem isT_kit (t c : Ty) : kitB t.nm c.nm = some (isT t c) := by cases t <;> cases c <;> decide +kernel
def uIsi (c : Ty) (te : TE) : TE := fun σ H Q => te σ H fun x H1 => oK (tyOf H1 x) fun t => Q (.bl (isT t c)) H1
def rIsiC (c : Ty) : List V → Hp → VK → Prop := fun xs H Q => match xs with
  | [x, y] => y = .ty c.nm ∧ oK (tyOf H x) fun t => Q (.bl (isT t c)) H
  | _ => False
def uIsiT (cs : List Ty) : List V → Hp → VK → Prop := fun xs H Q => match xs with
  | [x, .ref p] => H p = some (.tup (cs.map fun c => .ty c.nm)) ∧ oK (tyOf H x) fun t => Q (.bl (cs.any (isT t))) H
  | _ => False
theorem kitAny_any {K : PySem.W.Frag} (t : Ty) : ∀ cs : List Ty, PySem.W.kitAny K (.type t.nm) (cs.map fun c => Value.type c.nm) = some (cs.any (isT t))
  | [] => rfl
  | c :: cs => by
    have ih := kitAny_any (K := K) t cs
    have h1 := kit_ty (K := K) (isT_kit t c)
    rw [List.map_cons, List.any_cons]
    cases hb : isT t c with
    | true => exact kitAny_cons (h1.trans (by rw [hb])) (fun z => Bool.noConfusion z) fun _ => rfl
    | false => exact kitAny_cons (h1.trans (by rw [hb])) (fun _ => by rw [Bool.false_or]; exact ih) fun z => Bool.noConfusion z
theorem pairedCls : ∀ cs : List Ty, Paired ClsV (cs.map fun c => V.ty c.nm) (cs.map fun c => Value.type c.nm)
  | [] => .nil
  | c :: cs => .cons (.ty _) (pairedCls cs)
theorem uIsi_eq (c : Ty) (te : TE) : uIsi c te = tCB (rIsiC c) (tCons te (tCons (tC (.ty c.nm)) tNil)) := by
  funext σ H Q
  show te σ H _ = te σ H _
  congr 1; funext x H1
  show _ = (V.ty c.nm = V.ty c.nm ∧ _)
  simp
section
variable {X : Cx} {e : Expr} {te : TE} {p pos q : Pos}
theorem cu_isi (c : Ty) : CallR X (.builtin "isinstance") (rIsiC c) := CallRi call_isi fun xs H Q h => by
  unfold rIsiC at h
  split at h
  · obtain ⟨rfl, h⟩ := h
    obtain ⟨t, e, h⟩ := oK_ex h
    exact ⟨_, _, _, _, _, rfl, .ty _, tyOf_x e, kit_ty (isT_kit _ _), h⟩
  · exact h.elim
theorem cu_isiT (cs : List Ty) : CallR X (.builtin "isinstance") (uIsiT cs) := CallRi call_isiT fun xs H Q h => by
  unfold uIsiT at h
  split at h
  · obtain ⟨h1, h⟩ := h
    obtain ⟨t, e, h⟩ := oK_ex h
    exact ⟨_, _, _, _, _, _, rfl, h1, pairedCls cs, tyOf_x e, kitAny_any _ _, h⟩
  · exact h.elim
theorem pue_isi {n : Str} (c : Ty) (he : PE X e te) (hg : Gl X "isinstance") (hm : X.mg "isinstance" = none) (hn : Gl X n) (hmn : X.mg n = none) (hv : bootBuiltins n = some (.type c.nm)) (hnn : n ≠ "__name__" := by decide) (hnd : (n == ("__debug__" : Str)) = false := by decide)
    (hs1 : starEach [e, .Name n q] X.env = (false, eval e X.env) :: starEach [.Name n q] X.env := by rfl) (hs2 : starEach [.Name n q] X.env = (false, eval (.Name n q) X.env) :: starEach [] X.env := by rfl) (hs3 : ((backTo pos (starEach [.Name n q] X.env)).any fun x => x.fst) = false := by rfl) :
    PE X (.Call (.Name "isinstance" p) [e, .Name n q] [] pos) (uIsi c te) := by
  rw [uIsi_eq]
  have h2 : PE X (.Name n q) (tC (.ty c.nm)) := pe_bltn hn hmn hv rfl hnn hnd
  exact pe_callB (cu_isi c) hg hm (by decide +kernel) (pa_cons he (pa_cons h2 pa_nil hs2) hs1) (by decide) (by decide) hs1 hs3
end

/-! ### loops -/
def chars (z : Str) : List V := z.cps.toList.map fun c => V.str ⟨#[c]⟩
/-- what a walk over a value gives -/
def items (K : PySem.W.Frag) (H : Hp) : V → Option (List V)
  | .str z => some (chars z)
  | .ref a => rdS K H a
  | _ => none
/-- the walk over x at H1 -/
def goIt (K : PySem.W.Frag) (x : V) (H1 : Hp) (R : It → Hp → Prop) : Prop := match x with
  | .str z => R (Its z) H1
  | .ref a => (match rdL K H1 a with
    | some _ => R (Itl K a) H1
    | none => (match rdT K H1 a with
      | some _ => R (Itt K a) H1
      | none => False))
  | _ => False
def uIter (K : PySem.W.Frag) (te : TE) : TI := fun σ H R => te σ H fun x H1 => goIt K x H1 R
theorem piu {X : Cx} {tg e : Expr} {te : TE} (he : PE X e te) : PI X tg e (uIter X.K te) := by
  refine ⟨fun pins s σ H R I h => ?_⟩
  refine thn (he.run pins s σ H _ I h) fun v s1 ⟨y, H1, I1, r1, q⟩ => ?_
  dsimp only at q
  unfold goIt at q
  split at q
  · rename_i x
    obtain ⟨t, rfl⟩ := r1
    cases ha : x.cps.all (· < 128)
    · exact wpAny_pyIter_wide ha (pi_one (tk := s1.toks) I1 _ (turn_str _ x t "str_iterator" (.inr rfl)) ⟨_, Heap.get?_push_size _ rfl, rfl, rfl⟩ q)
    · exact wpAny_pyIter_ascii ha (pi_one (tk := s1.toks) I1 _ (turn_str _ x t "str_ascii_iterator" (.inl rfl)) ⟨_, Heap.get?_push_size _ rfl, rfl, rfl⟩ q)
  · rename_i a
    split at q
    · rename_i xs hx
      have hq := rdL_sq hx
      cases r1
      obtain ⟨its, rv, p, hz⟩ := I1.list hq
      refine wpAny_pyIter_list p.isList ?_
      refine ⟨s1.heap.objs.size, [s1.heap.objs.size], _, _, H1, rfl, I1.kept (t' := s1.toks) fun b o e => Heap.get?_push_of_some _ e, turn_list a _, ⟨_, Heap.get?_push_size _ rfl, rfl, rfl⟩, fun b hb => ?_, q⟩
      have e : b = s1.heap.objs.size := by simpa using hb
      subst e
      exact I1.fpOk (Nat.le_refl _) (I1.hok.fresh (Nat.le_refl _))
    · split at q
      · rename_i xs hx
        have hq := rdT_sq hx
        cases r1
        obtain ⟨its, rv, p, hz⟩ := I1.tuple hq
        refine wpAny_pyIter_tuple (show s1.heap.IsTuple a its.toArray from p) ?_
        refine ⟨s1.heap.objs.size, [s1.heap.objs.size], _, _, H1, rfl, I1.kept (t' := s1.toks) fun b o e => Heap.get?_push_of_some _ e, turn_tuple a _, ⟨_, Heap.get?_push_size _ rfl, rfl, rfl⟩, fun b hb => ?_, q⟩
        have e : b = s1.heap.objs.size := by simpa using hb
        subst e
        exact I1.fpOk (Nat.le_refl _) (I1.hok.fresh (Nat.le_refl _))
      · exact q.elim
  · exact q.elim
theorem walk_chars {z : Str} : Walk (Its z) (chars z).length (fun _ => True) (YAt (chars z)) := by
  have hl : (chars z).length = z.cps.size := by unfold chars; simp
  rw [hl]
  refine ⟨fun _ _ hi _ => hi, fun _ _ => Nat.le_refl _, fun i H v H' hi _ y => ?_⟩
  obtain ⟨e, c, hc, rfl⟩ := y
  refine ⟨e, ?_⟩
  unfold chars
  rw [List.getElem?_map, Array.getElem?_toList, hc]
  rfl
/-- what is walked: the value, its items, what must stay -/
inductive Src (K : PySem.W.Frag) : V → It → List V → (Hp → Prop) → Prop
  | str (z : Str) : Src K (.str z) (Its z) (chars z) (fun _ => True)
  | lst (a : Addr) (xs : List V) : Src K (.ref a) (Itl K a) xs (fun H => rdL K H a = some xs)
  | tup (a : Addr) (xs : List V) : Src K (.ref a) (Itt K a) xs (fun H => rdL K H a = none ∧ rdT K H a = some xs)
theorem Src.walk {K : PySem.W.Frag} {x : V} {J : It} {xs : List V} {G : Hp → Prop} (S : Src K x J xs G) : Walk J xs.length G (YAt xs) := by
  cases S with
  | str z => exact walk_chars
  | lst a => exact walk_list.mono (fun _ g => rdL_sq g) fun _ _ _ _ _ _ y => y
  | tup a => exact walk_tup.mono (fun _ g => rdT_sq g.2) fun _ _ _ _ _ _ y => y
theorem Src.go {K : PySem.W.Frag} {x : V} {J : It} {xs : List V} {G : Hp → Prop} (S : Src K x J xs G) {H1 : Hp} (g : G H1) {R : It → Hp → Prop} (h : R J H1) : goIt K x H1 R := by
  cases S with
  | str z => exact h
  | lst a => show match rdL K H1 a with | some _ => _ | none => _; rw [show rdL K H1 a = some xs from g]; exact h
  | tup a =>
    show match rdL K H1 a with | some _ => _ | none => _
    rw [g.1]
    show match rdT K H1 a with | some _ => _ | none => _
    rw [g.2]; exact h
theorem for_src {K : PySem.W.Frag} {x : V} {J : It} {xs : List V} {G : Hp → Prop} (S : Src K x J xs G) {g : TG} {tb : TS} {D : Ends} {σ : St} {H : Hp} (hG : G H) (Pv : Nat → St → Hp → Prop) (h0 : Pv 0 σ H) (hst : ∀ i σ H, i ≤ xs.length → Pv i σ H → G H)
    (hs : ∀ i y σ H, xs[i]? = some y → Pv i σ H → g y σ H fun σ2 H2 => tb { D with nx := Pv (i + 1), ct := Pv (i + 1), bk := D.nx } σ2 H2) (hd : ∀ σ H, Pv xs.length σ H → D.nx σ H) :
    goIt K x H fun J H1 => ∃ W : Nat → Nat → St → Hp → Prop, (∃ m, W 0 m σ H1) ∧ ∀ i m σ H, W i m σ H →
      (J.stop i H ∧ D.nx σ H) ∨ (J.go i H ∧ ∃ N : St → Hp → Prop, (∀ σ' H', N σ' H' → ∃ m', m' < m ∧ W (i + 1) m' σ' H') ∧ ∀ x H', J.yld i H x H' → g x σ H' fun σ2 H2 => tb { D with nx := N, ct := N, bk := D.nx } σ2 H2) :=
  S.go hG (for_it S.walk Pv h0 hst (fun i y σ H H' hi p q => by obtain ⟨e, hy⟩ := q; subst e; exact hs i y σ _ hy p) hd)
/-- a comprehension over it -/
theorem lc_src {K : PySem.W.Frag} {x : V} {J : It} {xs : List V} {G : Hp → Prop} (S : Src K x J xs G) {g : TG} {tt : TT} {te : TE} {vs : List Nat} {σ : St} {H1 : Hp} {Q : VK} (hG : G H1) (Pv : Addr → Nat → Hp → Prop)
    (h0 : ∀ D, H1 D = none → Pv D 0 (upd H1 D (.lst []))) (hst : ∀ D i H, i ≤ xs.length → Pv D i H → G H)
    (hs : ∀ D i y H, xs[i]? = some y → Pv D i H → g y (wipe σ vs) H fun σ2 H2 => wipe σ2 vs = wipe σ vs ∧ tt σ2 H2 fun b H3 =>
      if b = true then te σ2 H3 fun y H4 => ∃ acc, H4 D = some (.lst acc) ∧ acc.length < sizeLine ∧ Pv D (i + 1) (upd H4 D (.lst (acc ++ [y]))) else Pv D (i + 1) H3) (hd : ∀ D H, H1 D = none → Pv D xs.length H → Q (.ref D) H) :
    goIt K x H1 fun J H1 => ∀ D, H1 D = none → ∃ W : Nat → Nat → Hp → Prop, (∃ m, W 0 m (upd H1 D (.lst []))) ∧ ∀ i m H, W i m H →
      (J.stop i H ∧ Q (.ref D) H) ∨ (J.go i H ∧ ∃ Nx : Hp → Prop, (∀ H', Nx H' → ∃ m', m' < m ∧ W (i + 1) m' H') ∧ ∀ x H', J.yld i H x H' → g x (wipe σ vs) H' fun σ2 H2 => wipe σ2 vs = wipe σ vs ∧ tt σ2 H2 fun b H3 =>
        if b = true then te σ2 H3 fun y H4 => ∃ acc, H4 D = some (.lst acc) ∧ acc.length < sizeLine ∧ Nx (upd H4 D (.lst (acc ++ [y]))) else Nx H3) :=
  S.go hG fun D hD => lc_it S.walk (Pv D) (h0 D hD) (hst D) (fun i y H H' hi p q => by obtain ⟨e, hy⟩ := q; subst e; exact hs D i y _ hy p) fun H p => hd D H hD p
/-- .. whose items are flat: f x where c x -/
theorem take_map {α : Type} {c : V → Bool} {f : V → α} {xs : List V} {i : Nat} {y : V} (h : xs[i]? = some y) :
    (((xs.take (i + 1)).filter c).map f) = ((xs.take i).filter c).map f ++ (if c y then [f y] else []) := by
  rw [List.take_add_one, h, List.filter_append, List.map_append]
  show _ ++ List.map f (List.filter c [y]) = _
  rw [List.filter_cons]
  cases hc : c y <;> simp
theorem lc_flat {K : PySem.W.Frag} {x : V} {J : It} {xs : List V} {G : Hp → Prop} (S : Src K x J xs G) {j : Nat} {tt : TT} {te : TE} {vs : List Nat} {σ : St} {H1 : Hp} {Q : VK} (hG : G H1) (hGx : ∀ H', Ex H1 H' → G H') (c : V → Bool) (f : V → V) (hz : xs.length < sizeLine)
    (hw : ∀ y, wipe ((wipe σ vs).set j (some y)) vs = wipe σ vs)
    (ht : ∀ (i : Nat) y H', xs[i]? = some y → Ex H1 H' → ∀ R : Bool → Hp → Prop, (∀ H2, Ex H' H2 → R (c y) H2) → tt ((wipe σ vs).set j (some y)) H' R)
    (he : ∀ (i : Nat) y H', xs[i]? = some y → c y = true → Ex H1 H' → ∀ R : VK, (∀ H2, Ex H' H2 → R (f y) H2) → te ((wipe σ vs).set j (some y)) H' R)
    (hd : ∀ D H, H1 D = none → Ex H1 H → H D = some (.lst ((xs.filter c).map f)) → Q (.ref D) H) :
    goIt K x H1 fun J H1 => ∀ D, H1 D = none → ∃ W : Nat → Nat → Hp → Prop, (∃ m, W 0 m (upd H1 D (.lst []))) ∧ ∀ i m H, W i m H →
      (J.stop i H ∧ Q (.ref D) H) ∨ (J.go i H ∧ ∃ Nx : Hp → Prop, (∀ H', Nx H' → ∃ m', m' < m ∧ W (i + 1) m' H') ∧ ∀ x H', J.yld i H x H' → gName j x (wipe σ vs) H' fun σ2 H2 => wipe σ2 vs = wipe σ vs ∧ tt σ2 H2 fun b H3 =>
        if b = true then te σ2 H3 fun y H4 => ∃ acc, H4 D = some (.lst acc) ∧ acc.length < sizeLine ∧ Nx (upd H4 D (.lst (acc ++ [y]))) else Nx H3) := by
  refine lc_src S hG (fun D i H => H1 D = none ∧ Ex H1 H ∧ H D = some (.lst (((xs.take i).filter c).map f))) (fun D hD => ⟨hD, Ex.new hD, upd_same⟩) (fun D i H _ p => hGx H p.2.1) ?_ ?_
  · intro D i y H hy ⟨hD, e, hl⟩
    have hi : i < xs.length := (List.getElem?_eq_some_iff.mp hy).1
    refine ⟨hw y, ht i y H hy e _ fun H3 e3 => ?_⟩
    have tm := take_map (c := c) (f := f) hy
    cases hc : c y with
    | false =>
      rw [hc] at tm
      rw [if_neg (by decide)]
      refine ⟨hD, e.trans e3, ?_⟩
      rw [tm]; simp only [Bool.false_eq_true, if_false, List.append_nil]; exact e3 D _ hl
    | true =>
      rw [hc] at tm
      rw [if_pos rfl]
      refine he i y H3 hy hc (e.trans e3) _ fun H4 e4 => ⟨_, e4 D _ (e3 D _ hl), ?_, hD, Ex.mut ((e.trans e3).trans e4) hD, ?_⟩
      · rw [List.length_map]
        have := List.length_filter_le c (xs.take i)
        rw [List.length_take] at this
        omega
      · rw [tm]; simp only [if_true]; exact upd_same
  · intro D H hD ⟨_, e, hl⟩
    rw [List.take_length] at hl
    exact hd D H hD e hl

/-! ### further builtins -/
def uAll (K : PySem.W.Frag) : List V → Hp → VK → Prop := fun xs H Q => match xs with
  | [.ref a] => oK (rdL K H a) fun ys => ∃ bs : List Bool, ys = bs.map V.bl ∧ Q (.bl (bs.all id)) H
  | _ => False
def uAny (K : PySem.W.Frag) : List V → Hp → VK → Prop := fun xs H Q => match xs with
  | [.ref a] => oK (rdL K H a) fun ys => ∃ bs : List Bool, ys = bs.map V.bl ∧ Q (.bl (bs.any id)) H
  | _ => False
def uList (K : PySem.W.Frag) : List V → Hp → VK → Prop := fun xs H Q => match xs with
  | [.ref a] => oS K H a fun ys => ∀ l, H l = none → Q (.ref l) (upd H l (.lst ys))
  | _ => False
def uTuple (K : PySem.W.Frag) : List V → Hp → VK → Prop := fun xs H Q => match xs with
  | [.ref a] => (match rdL K H a with
    | some ys => ∀ l, H l = none → Q (.ref l) (upd H l (.tup ys))
    | none => (match rdT K H a with
      | some _ => Q (.ref a) H
      | none => False))
  | _ => False
def uJoin (K : PySem.W.Frag) : V → List V → Hp → VK → Prop := fun x xs H Q => match x, xs with
  | .str a, [.ref p] => oS K H p fun vs => ∃ ys : List Str, vs = ys.map V.str ∧ (ys.map (·.length)).sum + ys.length * a.length ≤ 16777216 ∧ Q (.str (Txt.join a ys)) H
  | _, _ => False
/-- a list that may be changed -/
def mutL (H : Hp) (l : Addr) : Option (List V) := match H l with
  | some (.lst xs) => some xs
  | _ => none
theorem mutL_of {H : Hp} {l : Addr} {xs : List V} (h : H l = some (.lst xs)) : mutL H l = some xs := by unfold mutL; rw [h]
theorem of_mutL {H : Hp} {l : Addr} {xs : List V} (h : mutL H l = some xs) : H l = some (.lst xs) := by
  unfold mutL at h
  split at h
  · cases h; assumption
  · cases h
def uAppend : V → List V → Hp → VK → Prop := fun x vs H Q => match x, vs with
  | .ref l, [y] => oK (mutL H l) fun xs => xs.length < sizeLine ∧ Q .non (upd H l (.lst (xs ++ [y])))
  | _, _ => False
def uSetL : V → V → V → Hp → (Hp → Prop) → Prop := fun o i v H Q => match o, i with
  | .ref p, .int k => oK (mutL H p) fun xs => oK (ixN xs.length k) fun j => Q (upd H p (.lst (xs.set j v)))
  | _, _ => False
def tPar2 (i j : Nat) (ta : TA) : TS := fun D σ H => ta σ H fun vs H1 => match vs with
  | [v, w] => D.nx ((σ.set i (some v)).set j (some w)) H1
  | _ => False
def uNeg : V → Hp → VK → Prop := fun x H Q => match x with
  | .int i => Q (.int (-i)) H
  | _ => False
section
variable {X : Cx}
theorem cu_all (hc : X.calm = true) : CallR X (.builtin "all") (uAll X.K) := CallRi (cr_all hc) fun xs H Q h => by
  unfold uAll at h
  split at h
  · obtain ⟨ys, e, bs, rfl, h⟩ := oK_ex h
    exact ⟨_, bs, rfl, rdL_sq e, h⟩
  · exact h.elim
theorem cu_any (hc : X.calm = true) : CallR X (.builtin "any") (uAny X.K) := CallRi (cr_any hc) fun xs H Q h => by
  unfold uAny at h
  split at h
  · obtain ⟨ys, e, bs, rfl, h⟩ := oK_ex h
    exact ⟨_, bs, rfl, rdL_sq e, h⟩
  · exact h.elim
theorem cu_list : CallR X (.type "list") (uList X.K) := CallRi call_list_of fun xs H Q h => by
  unfold uList at h
  split at h
  · obtain ⟨ys, e, h⟩ := h
    exact ⟨_, _, rfl, e, h⟩
  · exact h.elim
theorem cu_tuple : CallR X (.type "tuple") (uTuple X.K) := CallRi call_tuple_of fun xs H Q h => by
  unfold uTuple at h
  split at h
  · split at h
    · exact ⟨_, _, rfl, .inl ⟨rdL_sq (by assumption), h⟩⟩
    · split at h
      · exact ⟨_, _, rfl, .inr ⟨rdT_sq (by assumption), h⟩⟩
      · exact h.elim
  · exact h.elim
theorem mu_join : MtR X "str.join" (uJoin X.K) := MtRi mt_join fun x xs H Q h => by
  unfold uJoin at h
  split at h
  · obtain ⟨vs, e, ys, rfl, h1, h2⟩ := h
    exact ⟨_, _, ys, rfl, rfl, e, h1, h2⟩
  · exact h.elim
theorem mu_append : MtR X "list.append" uAppend := MtRi (r := rAppend) mt_append fun x xs H Q h => by
  unfold uAppend at h
  split at h
  · obtain ⟨xs, e, h1, h2⟩ := oK_ex h
    exact ⟨_, _, _, rfl, rfl, of_mutL e, h1, h2⟩
  · exact h.elim
theorem setu : PSet X uSetL := fun pins s σ H o i v ov iv u Q I ro ri rv h => set_list pins s σ H o i v ov iv u Q I ro ri rv (by
  unfold uSetL at h
  split at h
  · obtain ⟨xs, e, h⟩ := oK_ex h
    obtain ⟨j, e2, h⟩ := oK_ex h
    exact ⟨_, _, _, _, rfl, rfl, of_mutL e, e2, h⟩
  · exact h.elim)
theorem tPar2_eq (i j : Nat) (ta : TA) : tPar2 i j ta = tPar i j ta := by
  funext D σ H
  unfold tPar2 tPar
  congr 1; funext vs H1
  match vs with
  | [] => simp
  | [_] => simp
  | [v, w] => exact propext ⟨fun h => ⟨v, w, rfl, h⟩, fun ⟨_, _, e, h⟩ => by cases e; exact h⟩
  | _ :: _ :: _ :: _ => simp
theorem pus_par {i j : Nat} {x y : Str} {a b : Expr} {ta : TA} {px py pt pos : Pos} {kt k2 pt2} (hc : X.calm = true) (hN : X.N.Nodup) (hi : X.N[i]? = some x) (hj : X.N[j]? = some y) (hij : i ≠ j)
    (hx : X.env.scope.names.lookup x = some .local) (hy : X.env.scope.names.lookup y = some .local) (ha : PA X [a, b] ta)
    (hw : swappedStores [.Tuple [.Name x px, .Name y py] kt pt] (.Tuple [a, b] k2 pt2) X.env = pure (some [x, y]))
    (hs : swapsWithSole [.Tuple [.Name x px, .Name y py] kt pt] (.Tuple [a, b] k2 pt2) pos.line X.env = pure false := by rfl) :
    PS X (.Assign [.Tuple [.Name x px, .Name y py] kt pt] (.Tuple [a, b] k2 pt2) pos) (tPar2 i j ta) := by
  rw [tPar2_eq]; exact ps_par hc hN hi hj hij hx hy ha hw hs
theorem ou_neg : UnR X (unaryOp .USub) uNeg := fun pins s σ H x v Q I r h => un_neg pins s σ H x v Q I r (by
  unfold uNeg at h
  split at h
  · exact ⟨_, rfl, h⟩
  · exact h.elim)
end

/-! ### loops and comprehensions, the walked thing evaluated -/
section
variable {K : PySem.W.Frag} {x : V} {J : It} {xs : List V} {G : Hp → Prop} {tx : TE} {σ : St} {H H1 : Hp}
theorem lcf (S : Src K x J xs G) {j : Nat} {tt : TT} {te : TE} {vs : List Nat} {Q : VK} (hx : ∀ R : VK, R x H1 → tx σ H R) (hG : G H1) (hGx : ∀ H', Ex H1 H' → G H') (c : V → Bool) (f : V → V) (hz : xs.length < sizeLine)
    (hw : ∀ y, wipe ((wipe σ vs).set j (some y)) vs = wipe σ vs)
    (ht : ∀ (i : Nat) y H', xs[i]? = some y → Ex H1 H' → ∀ R : Bool → Hp → Prop, (∀ H2, Ex H' H2 → R (c y) H2) → tt ((wipe σ vs).set j (some y)) H' R)
    (he : ∀ (i : Nat) y H', xs[i]? = some y → c y = true → Ex H1 H' → ∀ R : VK, (∀ H2, Ex H' H2 → R (f y) H2) → te ((wipe σ vs).set j (some y)) H' R)
    (hd : ∀ D H, H1 D = none → Ex H1 H → H D = some (.lst ((xs.filter c).map f)) → Q (.ref D) H) :
    tLc (uIter K tx) (gName j) tt te vs σ H Q := hx _ (lc_flat S hG hGx c f hz hw ht he hd)
theorem lcs (S : Src K x J xs G) {g : TG} {tt : TT} {te : TE} {vs : List Nat} {Q : VK} (hx : ∀ R : VK, R x H1 → tx σ H R) (hG : G H1) (Pv : Addr → Nat → Hp → Prop)
    (h0 : ∀ D, H1 D = none → Pv D 0 (upd H1 D (.lst []))) (hst : ∀ D i H, i ≤ xs.length → Pv D i H → G H)
    (hs : ∀ D i y H, xs[i]? = some y → Pv D i H → g y (wipe σ vs) H fun σ2 H2 => wipe σ2 vs = wipe σ vs ∧ tt σ2 H2 fun b H3 =>
      bB b (te σ2 H3 fun y H4 => ∃ acc, H4 D = some (.lst acc) ∧ acc.length < sizeLine ∧ Pv D (i + 1) (upd H4 D (.lst (acc ++ [y])))) (Pv D (i + 1) H3)) (hd : ∀ D H, H1 D = none → Pv D xs.length H → Q (.ref D) H) :
    tLc (uIter K tx) g tt te vs σ H Q := hx _ (lc_src S hG Pv h0 hst (by simp only [bB_if] at hs; exact hs) hd)
theorem fors (S : Src K x J xs G) {g : TG} {tb : TS} {D : Ends} (hx : ∀ R : VK, R x H1 → tx σ H R) (hG : G H1) (Pv : Nat → St → Hp → Prop) (h0 : Pv 0 σ H1) (hst : ∀ i σ H, i ≤ xs.length → Pv i σ H → G H)
    (hs : ∀ i y σ H, xs[i]? = some y → Pv i σ H → g y σ H fun σ2 H2 => tb { D with nx := Pv (i + 1), ct := Pv (i + 1), bk := D.nx } σ2 H2) (hd : ∀ σ H, Pv xs.length σ H → D.nx σ H) :
    tFor (uIter K tx) g tb D σ H := hx _ (for_src S hG Pv h0 hst hs hd)
end
/-- for over range(n) -/
theorem forr {ta : TA} {j : Nat} {tb : TS} {D : Ends} {σ : St} {H H1 : Hp} {n : Int} (hx : ∀ R : List V → Hp → Prop, R [.int n] H1 → ta σ H R) (hn : n < 2 ^ 62) (hn0 : -(2 ^ 62) ≤ n) (Pv : Nat → St → Hp → Prop) (h0 : Pv 0 σ H1)
    (hs : ∀ (i : Nat) σ H, (i : Int) < n → Pv i σ H → tb { D with nx := Pv (i + 1), ct := Pv (i + 1), bk := D.nx } (σ.set j (some (.int (i : Int)))) H) (hd : ∀ σ H, Pv n.toNat σ H → D.nx σ H) :
    tFor (iRng1 ta) (gName j) tb D σ H := hx _ ⟨n, rfl, hn0, hn, for_it walk_range Pv h0 (fun _ _ _ _ _ => trivial) (fun i y σ H H' hi p q => by
      obtain ⟨e, ey⟩ := q
      subst e; subst ey
      have e0 : (0 : Int) + (i : Int) = (i : Int) := Int.zero_add _
      show tb _ (σ.set j (some (.int ((0 : Int) + (i : Int))))) _
      rw [e0]
      exact hs i σ _ (by omega) p) hd⟩
/-- [e for k in range(n)] -/
theorem lcr {ta : TA} {j : Nat} {tt : TT} {te : TE} {vs : List Nat} {σ : St} {H H1 : Hp} {Q : VK} {n : Int} (hx : ∀ R : List V → Hp → Prop, R [.int n] H1 → ta σ H R) (hn : n < 2 ^ 62) (hn0 : -(2 ^ 62) ≤ n) (Pv : Addr → Nat → Hp → Prop)
    (h0 : ∀ D, H1 D = none → Pv D 0 (upd H1 D (.lst [])))
    (hw : ∀ y, wipe ((wipe σ vs).set j (some y)) vs = wipe σ vs)
    (hs : ∀ D (i : Nat) H, (i : Int) < n → Pv D i H → tt ((wipe σ vs).set j (some (.int (i : Int)))) H fun b H3 =>
      bB b (te ((wipe σ vs).set j (some (.int (i : Int)))) H3 fun y H4 => ∃ acc, H4 D = some (.lst acc) ∧ acc.length < sizeLine ∧ Pv D (i + 1) (upd H4 D (.lst (acc ++ [y])))) (Pv D (i + 1) H3)) (hd : ∀ D H, H1 D = none → Pv D n.toNat H → Q (.ref D) H) :
    tLc (iRng1 ta) (gName j) tt te vs σ H Q := hx _ ⟨n, rfl, hn0, hn, fun D hD => lc_it walk_range (Pv D) (h0 D hD) (fun _ _ _ _ => trivial) (fun i y H H' hi p q => by
      obtain ⟨e, ey⟩ := q
      subst e; subst ey
      have e0 : (0 : Int) + (i : Int) = (i : Int) := Int.zero_add _
      dsimp only
      rw [e0]
      simp only [bB_if] at hs
      exact ⟨hw _, hs D i _ (by omega) p⟩) fun H p => hd D H hD p⟩

/-! ### texts -/
abbrev sl (z : Str) : List Nat := z.cps.toList
theorem sl_inj {a b : Str} (h : sl a = sl b) : a = b := by
  obtain ⟨⟨l⟩⟩ := a
  obtain ⟨⟨m⟩⟩ := b
  have h : l = m := h
  subst h; rfl
theorem sl_len (z : Str) : z.length = (sl z).length := rfl
theorem sl_app (a b : Str) : sl (a ++ b) = sl a ++ sl b := TL.tl_append a b
theorem slen_app (a b : Str) : (a ++ b).length = a.length + b.length := by rw [sl_len, sl_app, List.length_append]; rfl
theorem sl_cut (z : Str) (lo hi : Option Int) : sl (cutS z lo hi) = ((sl z).drop (HT.sIx z.length 0 lo)).take (HT.sIx z.length z.length hi - HT.sIx z.length 0 lo) := rfl
theorem slen_cut (z : Str) (lo hi : Option Int) : (cutS z lo hi).length ≤ z.length := by
  rw [sl_len, sl_cut, List.length_take, List.length_drop, sl_len]
  omega
theorem sl_join (y : Str) (ps : List Str) : sl (Txt.join y ps) = TL.joinL (sl y) (ps.map sl) := by
  rw [TL.join_eq]; exact TL.tl_join y ps
theorem joinL_nil : ∀ ps : List (List Nat), TL.joinL [] ps = ps.flatten
  | [] => rfl
  | [p] => by simp [TL.joinL]
  | p :: q :: r => by
    show p ++ ([] ++ TL.joinL [] (q :: r)) = _
    rw [joinL_nil (q :: r)]; simp
theorem slen_join0 (ps : List Str) : (Txt.join "" ps).length = (ps.map (·.length)).sum := by
  rw [sl_len, sl_join]
  show (TL.joinL [] _).length = _
  rw [joinL_nil, List.length_flatten, List.map_map]
  rfl
/-- small sizes -/
theorem szl {n : Nat} (h : n ≤ 100000) : n ≤ sizeLine := Nat.le_trans h (by decide)
theorem szt {n : Nat} (h : n < 100000) : n < sizeLine := Nat.lt_of_lt_of_le h (by decide)
/-- an item of a list at a drawn place -/
theorem pick {α : Type} {xs : List α} {r : Int} (h0 : 0 ≤ r) (h1 : r < xs.length) : ∃ v, atI xs r = some v ∧ v ∈ xs := by
  have hj : r.toNat < xs.length := by omega
  refine ⟨xs[r.toNat], ?_, List.getElem_mem hj⟩
  unfold atI ixN
  rw [if_pos h0, if_pos h1]
  simp [hj]

/-! ### the script -/
def ScriptAt (K : PySem.W.Frag) (H : Hp) (a : Addr) (ns : List Int) : Prop :=
  (∃ o, H a = some (.frz o (.lst (ns.map V.int)))) ∨
    ∃ (o : Obj) (its : Array Value) (n : Nat), K.lookup a = some o ∧ o.cls = .type "list" ∧ o.dict = none ∧ o.data = .seq its n ∧ its.size ≤ sizeLine ∧ Vals (ns.map V.int) its.toList
theorem script_of {K : PySem.W.Frag} {H : Hp} {a : Addr} {ns : List Int} (hO : Only H) (hS : SqL K H a (ns.map V.int)) : ScriptAt K H a ns := by
  rcases hS with (h | ⟨o, h⟩) | h
  · rcases hO a with z | ⟨o, xs, z⟩
    · rw [h] at z; cases z
    · rw [h] at z; cases z
  · exact .inl ⟨o, h⟩
  · exact .inr h
theorem ScriptAt.sq {K : PySem.W.Frag} {H : Hp} {a : Addr} {ns : List Int} (h : ScriptAt K H a ns) : SqL K H a (ns.map V.int) := by
  rcases h with ⟨o, h⟩ | h
  · exact .inl (.inr ⟨o, h⟩)
  · exact .inr h
theorem ScriptAt.ex {K : PySem.W.Frag} {H H' : Hp} {a : Addr} {ns : List Int} (h : ScriptAt K H a ns) (e : Ex H H') : ScriptAt K H' a ns := by
  rcases h with ⟨o, h⟩ | h
  · exact .inl ⟨o, e _ _ h⟩
  · exact .inr h
theorem ScriptAt.fr {K : PySem.W.Frag} {H H' : Hp} {a b : Addr} {ns : List Int} {xs : List V} (h : ScriptAt K H a ns) (e : Fr b H H') (hb : H b = some (.lst xs)) : ScriptAt K H' a ns := by
  rcases h with ⟨o, h⟩ | h
  · exact .inl ⟨o, e _ _ h (ne_of h hb (by intro z; cases z))⟩
  · exact .inr h
/-- data of flat things -/
theorem dpAll_str {K : PySem.W.Frag} {H : Hp} : ∀ zs : List Str, DpAll K H (zs.map V.str) (zs.map PyData.str)
  | [] => .nil
  | z :: zs => .cons (.str z) (dpAll_str zs)
/-- all signs are code points -/
def sok (z : Str) : Prop := ∀ c ∈ sl z, c < 1114112
theorem sok_ok {z : Str} (h : sok z) : PyData.strOk z = true := by
  unfold PyData.strOk
  rw [← Array.all_toList, List.all_eq_true]
  intro c hc
  exact decide_eq_true (h c hc)
instance (z : Str) : Decidable (sok z) := inferInstanceAs (Decidable (∀ c ∈ sl z, c < 1114112))
theorem sok_app {a b : Str} (ha : sok a) (hb : sok b) : sok (a ++ b) := fun c hc => by
  rw [sl_app, List.mem_append] at hc
  exact hc.elim (ha c) (hb c)
theorem sok_cut {z : Str} (h : sok z) (lo hi : Option Int) : sok (cutS z lo hi) := fun c hc => h c (by
  rw [sl_cut] at hc
  exact List.mem_of_mem_drop (List.mem_of_mem_take hc))
theorem sok_one {c : Nat} (h : c < 1114112) : sok ⟨#[c]⟩ := fun d hd => by
  have : d = c := by simpa [sl] using hd
  omega
theorem sok_join0 {ps : List Str} (h : ∀ p ∈ ps, sok p) : sok (Txt.join "" ps) := fun c hc => by
  rw [sl_join] at hc
  have hc : c ∈ TL.joinL [] (ps.map sl) := hc
  rw [joinL_nil, List.mem_flatten] at hc
  obtain ⟨l, hl, hc⟩ := hc
  obtain ⟨p, hp, rfl⟩ := List.mem_map.mp hl
  exact h p hp c hc
theorem canLay_strs : ∀ zs : List Str, (∀ z ∈ zs, sok z) → PyData.canLayAll0 (zs.map PyData.str) = true
  | [], _ => rfl
  | z :: zs, h => by
    show (PyData.canLay0 (.str z) && PyData.canLayAll0 (zs.map PyData.str)) = true
    rw [canLay_strs zs fun y hy => h y (List.mem_cons_of_mem _ hy)]
    simp only [PyData.canLay0, Bool.and_true]
    exact sok_ok (h z List.mem_cons_self)
theorem depth_strs : ∀ zs : List Str, PyData.depthAll (zs.map PyData.str) ≤ 1
  | [] => by simp [PyData.depthAll]
  | z :: zs => by
    have := depth_strs zs
    simp only [List.map_cons, PyData.depthAll, PyData.depth]
    omega
theorem shaped_strs (zs : List Str) (h : ∀ z ∈ zs, sok z) : SeqAt.shaped (.list (zs.map PyData.str)) = true := by
  unfold SeqAt.shaped
  have h1 := canLay_strs zs h
  have h2 := depth_strs zs
  simp only [PyData.canLay0, h1, Bool.true_and, decide_eq_true_eq]
  simp only [PyData.depth]
  omega
theorem eqv_nil (ds : List PyData) : PyData.eqv (.list ds) (.list []) = ds.isEmpty := by
  cases ds <;> simp [PyData.eqv, PyData.eqvAll]
end U

namespace U
open PySem PySem.Spec PyProof.Rows L2

/-! ### the base's __init__, called by the class's name -/
structure BaseC (K : PySem.W.Frag) (C0 : Addr) : Prop where
  ga : PySem.W.specialIn K (.ref C0) "__getattribute__" = some (some (.builtin "type.__getattribute__"))
  rd : ∃ mc, PySem.W.readsIn K C0 mc = true ∧ PySem.W.findCls K (.ref C0) mc "__init__" = some (.val (.builtin "ValueError.__init__"))
theorem pe_binit {X : Cx} {x : Str} {C0 : Addr} {e : Expr} {es : List Expr} {ta : TA} {p1 p2 pos : Pos} {pl : Sem Bool} (T0 : BaseC X.K C0) (hg : Gl X x) (hm : X.mg x = some (.ref C0)) (ha : PA X (e :: es) ta)
    (hc : eval (.Call (.Attribute (.Name x p1) "__init__" p2) (e :: es) [] pos) X.env = (do
      let ov ← eval (.Name x p1) X.env
      standAt p2.atName
      let (f, first) ← holding [ov] (getMethod ov "__init__" pl)
      callWith pos f first (backTo pos (starEach (e :: es) X.env)) (backToKw pos (keywordEach [] X.env))) := by rfl)
    (hdb : (x == ("__debug__" : Str)) = false := by decide) (he : starEach (e :: es) X.env = (false, eval e X.env) :: starEach es X.env := by rfl) (hpl : (backTo pos (starEach es X.env)).any (·.1) = false := by rfl) :
    PE X (.Call (.Attribute (.Name x p1) "__init__" p2) (e :: es) [] pos) (tVeI X.K ta) := by
  obtain ⟨mc, hrd, hf⟩ := T0.rd
  constructor
  intro pins s σ H Q I h
  refine PySem.W.methodCall_KW (ld_glob I hg hm ?_ hdb) hc
  refine PySem.W.method_cls I.kIn T0.ga (PySem.W.cls_value I.kIn hrd hf (by decide +kernel) ?_)
  refine PyProof.Rows.callWith_method1 (thn (ha.run pos pins _ σ H _ (I.tok _) h) ?_) he hpl
  rintro us s1 ⟨vs, H1, I1, r1, a, C, ws, rfl, hl, T, ea, q⟩
  match us, r1 with
  | _ :: ur, .cons ra rw' =>
    cases ra
    exact oinit_ok T I1 ea (by rw [← Paired.length rw']; exact szl (by omega)) fun s' J => ⟨.non, H1, J, rfl, q⟩

/-! ### an exception with one field -/
/-- what the text says of the class x at C with one field f, its __init__ at fI -/
structure ExcC (K : PySem.W.Frag) (mg : Str → Option Value) (x f : Str) (C fI : Addr) : Prop where
  g : mg x = some (.ref C)
  o : OexC K C
  i : PySem.W.findIn K (.ref C) "__init__" = some (some (.ref fI))
  t : PySem.W.typeIn K (.ref fI) = some (.type "function")
  n : PySem.W.findIn K (.ref C) f = some none
  xf : XfC K C
  cl : PySem.W.isClsIn K C = true
/-- the promise of such an __init__ -/
def spI (C : Addr) (f : Str) : Sp := fun vs H Q _ => ∃ (a : Addr) (v : V), vs = [.ref a, v] ∧ H a = some (exo a C none) ∧ ∀ dx, H dx = none → dx ≠ a → Q .non (upd (upd H dx (exd dx [(f, v)])) a (exo a C (some dx)))
theorem len_spI {C : Addr} {f : Str} {vs : List V} {H : Hp} {Q : VK} {E : XK} (h : spI C f vs H Q E) : vs.length = 2 := by
  obtain ⟨a, v, rfl, _⟩ := h; rfl
/-- its body: Base.__init__(self, text); self.f = value -/
def tI (K : PySem.W.Frag) (f : Str) (msg : Str) : TS := tSeq (tDrop (tVeI K (tCons (uVar 0) (tCons (tC (.str msg)) tNil)))) (tOst K f (uVar 0) (uVar 1))
theorem p_init {K : PySem.W.Frag} {mg : Str → Option Value} {x f msg p0 p1 : Str} {C fI : Addr} (T : ExcC K mg x f C fI) {vs : List V} {H : Hp} {Q : VK} {E : XK} (h : spI C f vs H Q E) :
    tI K f msg { nx := fun _ H' => Q .non H', rt := Q } (start [p0, p1] vs) H := by
  obtain ⟨a, v, rfl, ha, k⟩ := h
  refine ⟨a, C, [.str msg], rfl, by show 1 ≤ 1000; decide, T.o, ha, ?_⟩
  exact ⟨a, C, rfl, T.o, T.n, .inl ⟨ha, fun dx hd hne => k dx hd hne⟩⟩
/-- a reading closed under what follows: for rules whose own continuation is to be weakened -/
def mA (t : TA) : TA := fun σ H Q => ∃ R : List V → Hp → Prop, t σ H R ∧ ∀ vs H1, R vs H1 → Q vs H1
theorem pa_m {X : Cx} {es : List Expr} {t : TA} (h : PA X es t) : PA X es (mA t) := ⟨fun pos pins s σ H Q I k => by
  obtain ⟨R, k1, k2⟩ := k
  refine wpAny_mono (h.run pos pins s σ H R I k1) (fun us s1 q => ?_) fun _ _ z => z
  obtain ⟨vs, H1, I1, r1, q1⟩ := q
  exact ⟨vs, H1, I1, r1, k2 _ _ q1⟩⟩
/-- C(e): a new exception with its field -/
def uMk (C : Addr) (f : Str) (ta : TA) : L2.St → Hp → XK → Prop := fun σ H Q => ta σ H fun vs H1 => match vs with
  | [v] => ∀ d, H1 d = none → Q (.ref C) (some d) (upd H1 d (.xd [(f, v)]))
  | _ => False
theorem mk_heap {H1 : Hp} {a dx C : Addr} {f : Str} {v : V} (ha : H1 a = none) (hne : dx ≠ a) :
    upd (del (upd (upd (upd H1 a (exo a C none)) dx (exd dx [(f, v)])) a (exo a C (some dx))) a) dx (.xd [(f, v)]) = upd H1 dx (.xd [(f, v)]) := by
  funext b
  by_cases h1 : b = dx
  · subst h1; rw [upd_same, upd_same]
  · rw [upd_ne h1, upd_ne h1]
    by_cases h2 : b = a
    · subst h2; rw [del_same, ha]
    · rw [del_ne h2, upd_ne h2, upd_ne h1, upd_ne h2]
theorem pmku {X : Cx} {CX : CXT} {x f : Str} {C fI : Addr} {k : Nat} {fd : FuncData} {ps : List Str} {e : Expr} {ta : TA} {p pos : Pos} (T : ExcC X.K X.mg x f C fI) (F1 : FnOk X.prog X.w X.K X.mg X.base CX k fI fd ps (spI C f)) (hr : Room (k + 1) X.A) (hb : Binds X.K fd ps [])
    (hx : Passes CX X (fun _ _ _ => False)) (hg : Gl X x) (ha : PA X [e] ta)
    (hdb : (x == ("__debug__" : Str)) = false := by decide) (he : starEach (e :: []) X.env = (false, eval e X.env) :: starEach [] X.env := by rfl) (hpl : (backTo pos (starEach [] X.env)).any (·.1) = false := by rfl) :
    PMk X (.Call (.Name x p) [e] [] pos) (uMk C f ta) := by
  intro pins s σ H Q I h
  refine pmk_oex T.o T.i T.t F1 hr hb .nil hx hg T.g (pa_m ha) hdb he hpl pins s σ H Q I ⟨_, h, fun vs H1 r => ?_⟩
  match vs, r with
  | [v], r =>
    refine ⟨by show 1 ≤ 1000; decide, fun a hn => ⟨a, v, rfl, upd_same, fun dx hd hne => ⟨rfl, dx, [(f, v)], upd_same, ?_, ?_, ?_⟩⟩⟩
    · rw [upd_ne hne, upd_same]
    · rw [upd_ne hne] at hd; exact hd
    · rw [mk_heap hn hne]
      rw [upd_ne hne] at hd
      exact r dx hd
/-- raise C(e), the wish E of the def -/
def uRaise (C : Addr) (f : Str) (E : XK) (ta : TA) : TS := fun _ σ H => uMk C f ta σ H E
theorem ps_raiseu {X : Cx} {E : XK} {e : Expr} {C : Addr} {f : Str} {ta : TA} {pos : Pos} (hc : X.calm = true) (tk : Takes X (fun cls d _ H => E cls d H)) (he : PMk X e (uMk C f ta)) : PS X (.Raise (some e) none pos) (uRaise C f E ta) := ps_raise hc tk he

/-! ### try with several clauses «except C as n», perhaps others behind that nothing reaches -/
structure Cl where
  c : Value
  i : Nat
  ts : Addr → Value → Option Addr → TS
def gone (i : Nat) (D : Ends) : Ends := { nx := fun σ H => D.nx (σ.set i none) H, rt := D.rt, bk := fun σ H => D.bk (σ.set i none) H, ct := fun σ H => D.ct (σ.set i none) H }
def clW (K : PySem.W.Frag) (W0 : WX) (D : Ends) : List Cl → WX
  | [] => W0
  | k :: r => fun cls d σ H => oK (PySem.W.exmOne K cls k.c) fun b => bB b (∀ a, H a = none → k.ts a cls d (gone k.i D) (σ.set k.i (some (.ref a))) H) (clW K W0 D r cls d σ H)
def uTry (K : PySem.W.Frag) (W0 : WX) (l : List Cl) (tb : WX → TS) : TS := fun D σ H => tb (clW K W0 D l) D σ H
inductive ClsOk (X : Cx) : WX → List ExceptHandler → List Cl → Prop
  | none {W0 : WX} : ClsOk X W0 [] []
  | rest {hs : List ExceptHandler} : ClsOk X (fun _ _ _ _ => False) hs []
  | more {W0 : WX} {x n : Str} {k : Cl} {st : Stmt} {su : List Stmt} {p1 p2 : Pos} {hs : List ExceptHandler} {l : List Cl} (hc : Names X x k.c) (hi : X.N[k.i]? = some n) (hn : X.env.kindOf n = some .local)
      (hsu : ∀ (a : Addr) (o : Obj) (cls : Value) (d : Option Addr) (pn : List (Addr × Obj)), Zc cls d o → (∃ vs, o.data = .fields vs) → PSs (X.suite a ((a, o) :: pn)) (st :: su) (k.ts a cls d)) (r : ClsOk X W0 hs l) :
      ClsOk X W0 (.ExceptHandler (some (.Name x p1)) (some n) (st :: su) p2 :: hs) (k :: l)
section
variable {X : Cx} {W0 : WX} {pins : List (Addr × Obj)} {a : Addr}
/-- the clauses, one behind another, with the exception at a -/
theorem clauses_run {B : Heap} {s' sI : Shared} {h3 : Heap} {σ : L2.St} {H : Hp} {cls : Value} {d : Option Addr} {D : Ends} (ok : X.Ok) (hN : X.N.Nodup) (hst : X.stack = X.env :: X.outer) (hf : X.env.frame = some X.env.locals) (tk : Takes X W0)
    (J : Inv X pins σ H sI) (nb : ∀ b o, sI.heap.get? b = some o → b ∉ frs X.stack → B.get? b = some o) (up : sI.heap.UpToSlots h3) (os : s'.os = sI.os) (ag : AllBare s'.gens) (na : H a = none)
    (fl : HandSPX.FlyingZ B (X.env :: X.outer) a (Zc cls d) h3) : ∀ {hs : List ExceptHandler} {l : List Cl}, ClsOk X W0 hs l → clW X.K W0 D l cls d σ H →
      wpAny (model X.prog X.w) X.A (handleBy (.ref a) X.env hs) (SP X pins D) X.xe { s' with heap := h3 } := by
  intro hs l hk
  obtain ⟨o1, v1, g1, z1, d1⟩ := fl.there
  have J1 : Inv X pins σ H { s' with heap := h3 } := J.landed nb fl.1 up os ag
  have off : a ∉ frs (X.env :: X.outer) := fun hm => by
    obtain ⟨_, o, e, nf⟩ := fl.2.2.1.mem hm
    rw [g1] at e; cases e
    exact nf _ d1
  have offL : a ≠ X.env.locals := fun z => off (List.mem_filterMap.mpr ⟨X.env, List.mem_cons_self, by rw [hf, z]⟩)
  have offF : a ∉ X.fs := fun hm => by
    obtain ⟨v, hv, q⟩ := List.mem_filterMap.mp hm
    exact off (List.mem_filterMap.mpr ⟨v, List.mem_cons_of_mem _ hv, q⟩)
  induction hk with
  | rest => intro w; exact w.elim
  | none =>
    intro w
    refine wpAny_handleBy_nil ?_
    obtain ⟨_, _, _, o2, v2, T, _, _, g2, _, d2, t1, _⟩ := id fl
    unfold PySem.passOn
    refine wpAny_bind (wpAny_field g2 d2 t1 ?_)
    rw [if_neg (show ¬ ((Value.ref T == Value.none) = true) from by simp)]
    have out : wpAny (model X.prog X.w) X.A (setFlight (.ref a) X.env.frame) (fun _ s4 => wpAny (model X.prog X.w) X.A (throw (.ref a) : Sem Flow) (SP X pins D) X.xe s4) X.xe { s' with heap := h3 } := by
      rw [hf]
      exact HandSPX.setFlight_upZ fl fun h4 q4 u4 => wpAny_throw (tk _ _ ⟨a, B, sI, pins, σ, H, cls, d, rfl, J, nb, up.trans u4, .inr (.inr (by rw [hst]; exact q4)), na, os, ag, w⟩)
    first
      | exact wpAny_bind (wpAny_pure (wpAny_bind out))
      | exact wpAny_bind out
  | @more W0 x n k st su p1 p2 hs2 l2 hc hi hn hsu r ih =>
    intro w
    obtain ⟨b, hb, w⟩ := oK_ex w
    refine wpAny_handleBy_cons (codeAny_handlers_test ?_) (by intro q; cases q)
    have S1 := J1.suite g1 d1 na offL offF
    have LM := PySem.W.exm_one (M := model X.prog X.w) J1.kIn (fun A Q E s k q => wpAny_typeOf_ref (k _ _ g1) (by rw [z1.1]; exact q)) hb
    have look : ∀ {Q E : Value → Shared → Prop}, Q k.c { s' with heap := h3 } → wpAny (model X.prog X.w) (X.A.mark (some (.ref a))) (eval (.Name x p1) X.env) Q E { s' with heap := h3 } := fun {Q E} q => by
      obtain ⟨y1, y2, y3 | ⟨y3, y4, y5⟩⟩ := hc
      · exact ld_glob (X := X.suite a ((a, o1) :: (X.pn ++ pins))) S1 y1 y3 q y2
      · exact ld_blt (X := X.suite a ((a, o1) :: (X.pn ++ pins))) S1 y1 y3 y4 q y5 y2
    refine look (LM.here ?_)
    cases b with
    | false =>
      show wpAny _ X.A (handleBy (.ref a) X.env hs2) _ _ _
      exact ih tk w
    | true =>
      have w : ∀ a, H a = Option.none → k.ts a cls d (gone k.i D) (σ.set k.i (some (.ref a))) H := w
      refine codeAny_handlers_suite_as (HandSPX.lands_againZ fl fun h4 fl4 u4 => ?_)
      obtain ⟨o4, v4, g4, z4, d4⟩ := fl4.there
      have S4 := (show Inv X pins σ H { s' with heap := h4 } from J.landed nb fl4.1 (up.trans u4) os ag).suite g4 d4 na offL offF
      refine store_ok (X := X.suite a ((a, o4) :: (X.pn ++ pins))) (v := .ref a) S4 hN hi (.inl hn) rfl (fun s5 S5 => ?_) (.inr hn)
      refine wpAny_mono ((hsu a o4 cls d (X.pn ++ pins) z4 ⟨_, d4⟩).run [] s5 _ H _ S5 (w a na)) (fun fl s6 q => ?_) (fun _ _ z => z.elim)
      have leave : ∀ {σ6 : L2.St} {H6 : Hp} {R : Shared → Prop}, Inv (X.suite a ((a, o4) :: (X.pn ++ pins))) [] σ6 H6 s6 → (∀ s7, Inv X pins (σ6.set k.i Option.none) H6 s7 → R s7) →
          wpAny (model X.prog X.w) X.A (do bindName X.env n .none; unbindBehindTheSuite X.env n p2) (fun _ s7 => R s7) X.xe s6 := fun {σ6 H6 R} S6 hq => gone_ok (S6.unsuite ok) hN hi hn hq
      cases fl with
      | ret u =>
        obtain ⟨v6, σ6, H6, S6, r6, q6⟩ := q
        exact leave S6 fun s7 J7 => ⟨v6, _, H6, J7, r6, q6⟩
      | next =>
        obtain ⟨σ6, H6, S6, q6⟩ := q
        exact leave S6 fun s7 J7 => ⟨_, H6, J7, q6⟩
      | brk =>
        obtain ⟨σ6, H6, S6, q6⟩ := q
        exact leave S6 fun s7 J7 => ⟨_, H6, J7, q6⟩
      | cont =>
        obtain ⟨σ6, H6, S6, q6⟩ := q
        exact leave S6 fun s7 J7 => ⟨_, H6, J7, q6⟩
theorem pus_try {body : List Stmt} {h0 : ExceptHandler} {hs : List ExceptHandler} {l : List Cl} {pos : Pos} {tb : WX → TS} (hst : X.stack = X.env :: X.outer) (hf : X.env.frame = some X.env.locals) (hN : X.N.Nodup) (tk : Takes X W0)
    (hb : ∀ (W : WX) (pn : List (Addr × Obj)) (xe : Value → Shared → Prop), Takes (X.tr pn xe) W → PassesOwn (model X.prog X.w) X.A X.env xe → PSs (X.tr pn xe) body (tb W)) (hk : ClsOk X W0 (h0 :: hs) l) :
    PS X (.Try body (h0 :: hs) [] [] pos) (uTry X.K W0 l tb) := ⟨fun pins s σ H D I h => by
  have ok := I.ok
  have fr : X.A.frames = some (X.env :: X.outer) := by rw [ok.frames, hst]
  refine wpAny_Try_except (wpAny_mono ((hb (clW X.K W0 D l) (X.pn ++ pins) _ (fun u s' y => ?_) PassesOwn.looking).run [] s σ H D (I.toTry _) h) (fun f s1 q => ?_) fun e s1 q => q)
  · obtain ⟨a, B, sI, _, σ', H', cls, d, rfl, J, nb, up, sky, na, os, ag, w⟩ := y
    show wpAny (model X.prog X.w) X.A (noteFrame (.ref a) X.env) _ _ _
    exact Sky.land Zc.steady fr hf (by rw [← hst]; exact sky) fun h3 fl3 u3 => clauses_run ok hN hst hf tk (J.ofTry ok) nb (up.trans u3) os ag na fl3 hk w
  · cases f with
    | next =>
      obtain ⟨σ', H', J, q⟩ := q
      exact wpAny_execs_nil ⟨σ', H', J.ofTry ok, q⟩
    | ret u =>
      obtain ⟨v, σ', H', J, r, q⟩ := q
      exact ⟨v, σ', H', J.ofTry ok, r, q⟩
    | brk =>
      obtain ⟨σ', H', J, q⟩ := q
      exact ⟨σ', H', J.ofTry ok, q⟩
    | cont =>
      obtain ⟨σ', H', J, q⟩ := q
      exact ⟨σ', H', J.ofTry ok, q⟩⟩
end
/-- n.f in a suite, n in slot i -/
def uXf (K : PySem.W.Frag) (a : Addr) (cls : Value) (d : Option Addr) (i : Nat) (f : Str) : TE := fun σ H Q => ∃ (C dd : Addr) (fs : List (Str × V)) (v : V), cls = .ref C ∧ XfC K C ∧ PySem.W.findIn K (.ref C) f = some none ∧ σ[i]? = some (some (.ref a)) ∧
  d = some dd ∧ H dd = some (.xd fs) ∧ fs.lookup f = some v ∧ Q v H
theorem pue_xf {X : Cx} {a : Addr} {oe : Obj} {cls : Value} {d : Option Addr} {pn : List (Addr × Obj)} (i : Nat) {x n : Str} {p pos : Pos} (hz : Zc cls d oe) (hf : ∃ vs, oe.data = .fields vs) (hN : X.N[i]? = some x := by rfl)
    (hv : Vis X.env.scope x := by exact Or.inl rfl) (hd : (x == ("__debug__" : Str)) = false := by decide) (hcd : (x == ("__classdict__" : Str)) = false := by decide)
    (hb : attributeBase (.Name x p) n X.env (eval (.Name x p) X.env) = eval (.Name x p) X.env := by rfl) : PE (X.suite a ((a, oe) :: pn)) (.Attribute (.Name x p) n pos) (uXf X.K a cls d i n) := ⟨fun pins s σ H Q I h => by
  obtain ⟨C, dd, fs, v, rfl, T, hno, e, rfl, h1, h2, q⟩ := h
  exact (pe_xf T hno hz hf (pe_var (X := X.suite a ((a, oe) :: pn)) hN hv hd hcd) hb).run pins s σ H Q I ⟨_, e, rfl, rfl, dd, fs, v, rfl, h1, h2, q⟩⟩
/-- whether a clause takes an exception -/
theorem exm_of {K : PySem.W.Frag} {S C : Addr} {b : Bool} (h1 : PySem.W.subIn K (.ref C) (.type "BaseException") = some true) (h2 : PySem.W.isClsIn K C = true) (h3 : PySem.W.typeIn K (.ref C) = some (.type "type")) (h4 : PySem.W.subIn K (.ref S) (.ref C) = some b) :
    PySem.W.exmOne K (.ref S) (.ref C) = some b := by
  have y : (PySem.W.clsIn K C).isSome = true := h2
  unfold PySem.W.exmOne
  rw [h1]
  show (if ((PySem.W.clsIn K C).isSome && PySem.W.typeIn K (.ref C) == some (.type "type")) = true then PySem.W.subIn K (.ref S) (.ref C) else none) = some b
  rw [y, h3]
  exact h4
end U

namespace U
open PySem PySem.Spec PyProof.Rows L2

/-! ### defs that are run where no repr is under way -/
structure FnG (P : Program) (w : World) (K : PySem.W.Frag) (mg : Str → Option Value) (base : Heap) (CX : CXT) (k : Nat) (f : Addr) (fd : FuncData) (ps : List Str) (sp : Sp) : Prop where
  len : ∀ vs H Q E, sp vs H Q E → vs.length = ps.length
  run : ∀ (A : Around) (outer : List Env) (s : Shared) (H : Hp) (args : Args) (us : List Value) (vs : List V) (Q : VK) (E : XK), A.guards = some [] → Room k A → Env0 P w K mg base A outer s H →
    BindsTo s fd args (ps.zip us) → Vals vs us → sp vs H Q E → codeAny (model P w) A (.call (.ref f) args) (CR CX outer P w H s Q E) s
theorem fn_g {P : Program} {w : World} {K : PySem.W.Frag} {mg : Str → Option Value} {base : Heap} {CX : CXT} {k : Nat} {f : Addr} {fd : FuncData} {ps : List Str} {sp : Sp} (F : FnOk P w K mg base CX k f fd ps sp) : FnG P w K mg base CX k f fd ps sp :=
  ⟨F.len, fun A outer s H args us vs Q E _ hr => F.run A outer s H args us vs Q E hr⟩
section
variable {P : Program} {w : World} {K : PySem.W.Frag} {mg : Str → Option Value} {base : Heap}
theorem fn_ofG {CX : CXT} {k : Nat} {f : Addr} {x qual : Str} {st : Stmt} {fd : FuncData} {N ps : List Str} {sp : Sp} (F : Fun K x qual st f fd) (S : FnScope N ps (defScope st)) (len : ∀ vs H Q E, sp vs H Q E → vs.length = ps.length)
    (body : ∀ (cdv : Value) (A : Around) (outer : List Env) (s : Shared) (H : Hp) (vs : List V) (Q : VK) (E : XK), A.guards = some [] → Room k (A.deeper (envOfC qual (defScope st) s.heap.objs.size f cdv)) → sp vs H Q E →
      ∃ t, PSs (cxOf CX P w K mg base N qual (defScope st) f cdv A outer s H E) (defBody st) t ∧ t { nx := fun _ H' => Q .non H', rt := Q } (start N vs) H) : FnG P w K mg base CX (k + 1) f fd ps sp := by
  obtain ⟨oc, od, kV, doc, pm, an, cdv, ct, osl, rfl, lk, hcd⟩ := F.ex
  refine ⟨len, fun A outer s H args us vs Q E hg hr e0 hb rv h => ?_⟩
  have kin : K.In s.heap := e0.mod.kin.keeps fun b o z => (e0.bs b o z).1
  have nl : s.heap.NoLimit := e0.mod.nolimit.keeps fun b o z => (e0.bs b o z).1
  obtain ⟨t, ht, hq⟩ := body cdv A outer s H vs Q E hg (hr.deeper _) h
  refine codeAny_call_function hr.depth (kin _ _ lk) rfl S.co S.gen rfl (PySem.W.codeRec_of kin hcd) (hb _ _ _ _ (wpAny_newFunctionEnv_cells S.kind (fun ⟨n, v⟩ hy => ?_) fun env he s1 y => ?_))
  · rcases S.par n (List.of_mem_zip hy).1 with q | q
    · exact .inl q
    · exact .inr ⟨q, PySem.W.cellsFrom_some _ _ _ (.inl q)⟩
  subst he
  refine ⟨nl.keeps y.toInCall.keep, codeAny_func (wpAny_mono (ht.run [] s1 (start N vs) H _ (inv_start S hr.hd e0 (len _ _ _ _ h) rv y) hq) (fun fl s' q => ?_) fun _ _ q => q)⟩
  cases fl with
  | next =>
    obtain ⟨_, H', J, q⟩ := q
    exact ⟨V.non, H', J.os, J.bare, J.base, J.hok, rfl, q⟩
  | ret u =>
    obtain ⟨v, _, H', J, r, q⟩ := q
    exact ⟨v, H', J.os, J.bare, J.base, J.hok, r, q⟩
  | brk =>
    obtain ⟨_, _, _, q⟩ := q
    exact q.elim
  | cont =>
    obtain ⟨_, _, _, q⟩ := q
    exact q.elim
theorem okG {k : Nat} {f : Addr} {x qual : Str} {st : Stmt} {fd : FuncData} {N ps : List Str} {sp : Sp} (F : Fun K x qual st f fd) (S : FnScope N ps (defScope st)) (len : ∀ vs H Q E, sp vs H Q E → vs.length = ps.length)
    (body : ∀ (cdv : Value) (A : Around) (outer : List Env) (s : Shared) (H : Hp) (vs : List V) (Q : VK) (E : XK), A.guards = some [] → Room k (A.deeper (envOfC qual (defScope st) s.heap.objs.size f cdv)) → sp vs H Q E →
      ∃ t, PSs (cxOf CX0 P w K mg base N qual (defScope st) f cdv A outer s H E).nox (defBody st) t ∧ t { nx := fun _ H' => Q .non H', rt := Q } (start N vs) H) : FnG P w K mg base CX0 (k + 1) f fd ps sp :=
  fn_ofG F S len fun cdv A outer s H vs Q E hg hr h => by
    obtain ⟨t, h1, h2⟩ := body cdv A outer s H vs Q E hg hr h
    exact ⟨t, h1.nox, h2⟩
end
section
variable {X : Cx} {CX : CXT} {k : Nat} {f : Addr} {fd : FuncData} {ps : List Str} {sp : Sp} {E : XK} {x : Str} {p pos : Pos} {e : Expr} {es : List Expr} {t : TA}
theorem run_fnG {pins : List (Addr × Obj)} {σ : L2.St} {H : Hp} {s : Shared} {Q : VK} {us : List Value} {vs : List V} (F : FnG X.prog X.w X.K X.mg X.base CX k f fd ps sp) (hg : X.A.guards = some []) (hr : Room k X.A) (hb : Binds X.K fd ps []) (hx : Passes CX X E)
    (I : Inv X pins σ H s) (r : Vals vs us) (h : sp (vs ++ []) H Q E) : wpAny (model X.prog X.w) X.A (call (.ref f) us) (EP X pins σ Q) X.xe s := by
  rw [List.append_nil] at h
  have hl : us.length = ps.length := by rw [← r.length]; exact F.len _ _ _ _ h
  have b := hb s us I.kIn (by rw [List.append_nil]; exact hl)
  rw [List.append_nil] at b
  refine wpAny_call (codeAny_mono (F.run X.A X.stack s H ⟨us, []⟩ us vs Q E hg hr I.env0 b r h) fun r s' q => ?_)
  match r, q with
  | .error er, q => exact hx pins σ H s er s' I q
  | .ok (.ret u), q => exact I.after q
theorem pe_callG (F : FnG X.prog X.w X.K X.mg X.base CX k f fd ps sp) (hgd : X.A.guards = some []) (hr : Room k X.A) (hg : Gl X x) (hm : X.mg x = some (.ref f)) (hk : PySem.W.keepIn X.K (.ref f) = true) (hb : Binds X.K fd ps []) (hx : Passes CX X E)
    (ha : PA X (e :: es) t) (hdb : (x == ("__debug__" : Str)) = false := by decide) (he : starEach (e :: es) X.env = (false, eval e X.env) :: starEach es X.env := by rfl) (hpl : (backTo pos (starEach es X.env)).any (·.1) = false := by rfl) :
    PE X (.Call (.Name x p) (e :: es) [] pos) (tCall sp [] E t) := ⟨fun pins s σ H Q I h => wpAny_Call_Name_kw (ld_glob I hg hm (PySem.W.callWith_K (h₀ := X.base) I.ok.mod.kin hk
      (thn (ha.run pos pins s σ H _ I h) fun us s1 ⟨vs, H1, I1, r, q⟩ => ⟨I1.kIn, run_fnG F hgd hr hb hx I1 r q⟩) he hpl) hdb)⟩
theorem pe_call0G (F : FnG X.prog X.w X.K X.mg X.base CX k f fd ps sp) (hgd : X.A.guards = some []) (hr : Room k X.A) (hg : Gl X x) (hm : X.mg x = some (.ref f)) (hk : PySem.W.keepIn X.K (.ref f) = true) (hb : Binds X.K fd ps []) (hx : Passes CX X E)
    (hdb : (x == ("__debug__" : Str)) = false := by decide) : PE X (.Call (.Name x p) [] [] pos) (tCall sp [] E tNil) :=
  ⟨fun pins s σ H Q I h => wpAny_Call_Name_kw (ld_glob I hg hm (PySem.W.callWith_K0 I.kIn hk (run_fnG (us := []) F hgd hr hb hx I .nil h)) hdb)⟩
end

/-! ### the law's def at the top -/
theorem law_callG {P : Program} {w : World} {K : PySem.W.Frag} {mg mb : Str → Option Value} {CX : CXT} {k : Nat} {fa a : Addr} {fd : FuncData} {x : Str} {sp : Sp} {s₁ : Shared} {vs : List Value} {ns : List Int}
    (KX : K.In s₁.heap) (hns : s₁.heap.Ns mainGlobals mg) (hb : s₁.heap.Ns builtinsNs mb) (hbb : ∀ x : Str, x ≠ "__name__" → mb x = bootBuiltins x) (nl : s₁.heap.NoLimit) (hg : s₁.gens = #[])
    (ha : s₁.heap.get? a = some { cls := .type "list", data := .seq vs.toArray }) (hi : IntsAre vs ns) (hl : ns.length ≤ sizeLine) (hr : Room k callerA)
    (F : ∀ base : Heap, K.In base → base.Ns mainGlobals mg → FnG P w K mg base CX k fa fd [x] sp) (bind : ∀ (s : Shared) (u : Value), BindsTo s fd ⟨[u], []⟩ [(x, u)])
    (hsp : ∀ H : Hp, Only H → SqL K H a (ns.map V.int) → sp [.ref a] H (fun v _ => v = .bl true) fun _ _ _ => False)
    (hCX : ∀ H e s', CX [] H s₁ (fun _ _ _ => False) e s' → False) :
    codeAny (model P w) callerA (.call (.ref fa) ⟨[.ref a], []⟩) (fun r s' => r = .ok (.ret (.bool true)) ∧ OldK s₁.heap s'.heap ∧ s'.os = s₁.os ∧ AllBare s'.gens) s₁ := by
  have start : ∀ H : Hp, Only H → SqL K H a (ns.map V.int) → HOk P w H s₁.heap → (∀ b, H b ≠ none → b = a) → (H a ≠ none → K.lookup a = none) →
      codeAny (model P w) callerA (.call (.ref fa) ⟨[.ref a], []⟩) (fun r s' => r = .ok (.ret (.bool true)) ∧ OldK s₁.heap s'.heap ∧ s'.os = s₁.os ∧ AllBare s'.gens) s₁ := fun H hO hS hok only free => by
    have atA : ∀ {b : Addr} {u : HO}, H b = some u → b = a := fun {b u} q => only b (by rw [q]; simp)
    have nsH : ∀ {b : Addr} {m : Str → Option Value}, s₁.heap.Ns b m → (hidT s₁.heap H).Ns b m := fun {b m} ⟨o, es, ep, e, d, r⟩ => ⟨o, es, ep, hidT_get e (by
      cases q : H b with
      | none => rfl
      | some u =>
        rw [atA q, ha] at e; cases e
        exact nomatch d), d, r⟩
    have kinH : K.In (hidT s₁.heap H) := fun b o e => hidT_get (KX b o e) (by
      cases q : H b with
      | none => rfl
      | some u =>
        have z := atA q
        subst z
        rw [free (by rw [q]; simp)] at e; cases e)
    have env : Env0 P w K mg (hidT s₁.heap H) callerA [] s₁ H := ⟨rfl, ⟨kinH, nsH hns, ⟨mb, nsH hb, hbb⟩, let ⟨mc, h1, h2⟩ := nl; ⟨mc, nsH h1, h2⟩⟩, fun b o e => of_hidT e, Nat.le_of_eq (hidT_size _ _), trivial,
      fun b hb => absurd (show b ∈ ([] : List Addr) from hb) (by simp), hok, .of_eq hg⟩
    refine codeAny_mono ((F _ kinH (nsH hns)).run callerA [] s₁ H ⟨[.ref a], []⟩ [.ref a] [.ref a] _ _ rfl hr env (bind s₁ (.ref a)) (.cons rfl .nil) (hsp H hO hS)) fun r s' h => ?_
    match r, h with
    | .error er, h => exact (hCX H er s' h).elim
    | .ok (.ret u), h =>
      obtain ⟨v, H', os, bare, un, hok', r', q⟩ := h
      obtain rfl : v = .bl true := q
      obtain rfl : u = Value.bool true := r'
      refine ⟨rfl, OldK.of_keep fun b o e => ?_, os, bare⟩
      cases q : H b with
      | none => exact un.keep b o e q (by intro z; exact absurd (show b ∈ ([] : List Addr) from z) (by simp)) (by simp)
      | some u =>
        rcases hO b with z | ⟨ob, xs, z⟩
        · rw [q] at z; cases z
        · obtain ⟨e1, _⟩ := hok b _ z
          obtain ⟨e2, _⟩ := hok' b _ (un.frzs b ob _ z)
          rw [e] at e1; cases e1
          exact e2
  cases hk : K.lookup a with
  | some o =>
    have e := KX a o hk
    rw [ha] at e
    cases e
    exact start (fun _ => none) (fun _ => .inl rfl) (.inr ⟨_, vs.toArray, _, hk, rfl, rfl, rfl, by rw [List.size_toArray, hi.length]; exact hl, by simpa using vals_ints hi⟩) (fun b u z => nomatch (show (none : Option HO) = some u from z)) (fun b z => absurd rfl z) fun z => absurd rfl z
  | none =>
    let ob : Obj := { cls := .type "list", data := .seq vs.toArray }
    refine start (fun b => if b = a then some (.frz ob (.lst (ns.map V.int))) else none) (fun b => ?_) (.inl (.inr ⟨ob, if_pos rfl⟩)) (fun b u z => ?_) (fun b z => ?_) fun _ => hk
    · by_cases hb : b = a
      · exact .inr ⟨_, _, if_pos hb⟩
      · exact .inl (if_neg hb)
    · by_cases hb : b = a
      · have y := (if_pos hb).symm.trans z
        cases y
        subst hb
        exact ⟨ha, by rw [List.length_map]; exact hl, vs, _, vals_ints hi, ha⟩
      · exact nomatch (if_neg hb).symm.trans z
    · by_cases hb : b = a
      · exact hb
      · exact absurd (if_neg hb) z
theorem walk_ofG {l : PySem.W.OpenLaw} {n k : Nat} {q : Program} {loose : List Str} {XP : (Str → Option Value) → Heap → Prop} {YP : World → Heap → Prop} {d : DefRec} {K : Params → PySem.W.Frag} {x : Str} {sp : World → (Nat → Addr) → Sp}
    (hn : l.most = some n) (hn2 : n ≤ sizeLine) (hdf : d.params.defaults = []) (hr : Room k callerA) (hY : ∀ (w : World) (h : Heap), YP w h → (K w.params).In h)
    (F : ∀ (w : World) (mg : Str → Option Value) (fa : Addr) (h : Heap), (K w.params).In h → h.Ns mainGlobals mg → mg d.name = some (.ref fa) →
      ∃ (ca : Nat → Addr) (fd : FuncData), (∀ (s : Shared) (u : Value), BindsTo s fd ⟨[u], []⟩ [(x, u)]) ∧ ∀ base : Heap, (K w.params).In base → base.Ns mainGlobals mg → FnG l.prog w (K w.params) mg base CX0 k fa fd [x] (sp w ca))
    (hsp : ∀ (w : World) (ca : Nat → Addr) (H : Hp) (a : Addr) (ns : List Int), ns.length ≤ n → Only H → SqL (K w.params) H a (ns.map V.int) → sp w ca [.ref a] H (fun v _ => v = .bl true) fun _ _ _ => False) :
    PySem.W.WalkO q loose XP YP l.row.toRowW d [] (fun f vs => PySem.call f vs) := by
  refine Att.attach_call hn hdf fun w s₀ s₁ mg mb fa o pm cd doc a vs ns G Y ho hd hcd hmg hobj hints hlen hg => ?_
  obtain ⟨ca, fd, hb, hF⟩ := F w mg fa _ (hY w _ Y) G.T.g hmg
  exact law_callG (hY w _ Y) G.T.g G.T.b G.T.builtins G.T.nolimit hg hobj hints (Nat.le_trans hlen hn2) hr hF hb (fun H hO hS => hsp w ca H a ns hlen hO hS) fun _ _ _ z => z

/-! ### repr -/
mutual
theorem dp_nodict {K : PySem.W.Frag} {H : Hp} : ∀ (d : PyData) {v : V}, Dp K H v d → d.hasDict = false
  | .none, _, _ => by simp only [PyData.hasDict]
  | .bool _, _, _ => by simp only [PyData.hasDict]
  | .int _, _, _ => by simp only [PyData.hasDict]
  | .str _, _, _ => by simp only [PyData.hasDict]
  | .list ds, _, h => by
    cases h with
    | lst _ h => simp only [PyData.hasDict]; exact dpAll_nodict ds h
  | .tuple ds, _, h => by
    cases h with
    | tup _ h => simp only [PyData.hasDict]; exact dpAll_nodict ds h
  | .dict _, _, h => nomatch h
theorem dpAll_nodict {K : PySem.W.Frag} {H : Hp} : ∀ (ds : List PyData) {vs : List V}, DpAll K H vs ds → PyData.hasDictAll ds = false
  | [], _, _ => by simp only [PyData.hasDictAll]
  | d :: ds, _, h => by
    cases h with
    | cons h1 h2 => simp only [PyData.hasDictAll, dp_nodict d h1, dpAll_nodict ds h2, Bool.or_self]
end
def uRepr (K : PySem.W.Frag) : List V → Hp → VK → Prop := fun xs H Q => match xs with
  | [v] => ∃ d, Dp K H v d ∧ d.showable = true ∧ d.shown.length ≤ sizeLine ∧ d.depth ≤ 40 ∧ Q (.str d.shown) H
  | _ => False
theorem cu_repr {X : Cx} (hg : X.A.guards = some []) (hu : X.A.units + 64 < cLine) : CallR X (.builtin "repr") (uRepr X.K) := fun pins s σ H xs us Q I r h => by
  match xs, h with
  | [v], h =>
    obtain ⟨d, hd, h1, h2, h3, q⟩ := h
    match us, r with
    | [u], .cons ru .nil =>
      obtain ⟨as, rd⟩ := Dp.reads I d v u hd ru
      have fin : ∀ h' tk u', (∀ b o, s.heap.get? b = some o → h'.get? b = some o) → EP X pins σ Q (.str d.shown u') { s with heap := h', toks := tk } := fun h' tk u' kp =>
        ⟨.str d.shown, H, I.un (Un.kept kp) (I.hok.kept kp), ⟨_, rfl⟩, q⟩
      have stay : ∀ tk u', EP X pins σ Q (.str d.shown u') { s with toks := tk } := fun tk u' => fin s.heap tk u' fun _ _ z => z
      cases rd with
      | none => exact PySem.P.repr_of_none (by have e : PyData.shown .none = ("None" : Str) := by simp [PyData.shown]
                                               exact e ▸ stay _ _)
      | bool b => exact PySem.P.repr_of_bool (by have e : PyData.shown (.bool b) = (if b then "True" else "False" : Str) := by simp [PyData.shown]
                                                 exact e ▸ stay _ _)
      | int i t => exact PySem.P.repr_of_int (by simpa [PyData.showable] using h1) (by have e : PyData.shown (.int i) = (toString i : Str) := by simp [PyData.shown]
                                                                                       exact e ▸ stay _ _)
      | str z t =>
        have e : PyData.shown (.str z) = reprText z := by simp [PyData.shown]
        exact PySem.P.repr_of_str (by exact e ▸ stay _ _) (e ▸ h2)
      | list k1 k2 k3 k4 => exact repr_of_reads' (.list k1 k2 k3 k4) h1 (PyData.noDict_hsm (dp_nodict _ hd)) hg (by omega) (fun _ _ z => z) (fun h' u' tk kp => fin h' tk u' kp) h2
      | tuple k1 k2 k3 k4 => exact repr_of_reads' (.tuple k1 k2 k3 k4) h1 (PyData.noDict_hsm (dp_nodict _ hd)) hg (by omega) (fun _ _ z => z) (fun h' u' tk kp => fin h' tk u' kp) h2
      | dict _ _ _ _ _ => exact nomatch hd
end U

namespace U
open PySem PySem.Spec PyProof.Rows L2

/-! ### the same thing, by == -/
def Sm (K : PySem.W.Frag) (H : Hp) : Nat → V → V → Prop
  | 0 => fun _ _ => False
  | n + 1 => fun x y => (x = y ∧ flatB x = true) ∨ (∃ a, x = .ref a ∧ y = .ref a) ∨ ∃ a b xs ys, x = .ref a ∧ y = .ref b ∧ SqL K H a xs ∧ SqL K H b ys ∧ Paired (Sm K H n) xs ys
section
variable {X : Cx} {pins : List (Addr × Obj)} {σ : L2.St} {H : Hp} {s : Shared}
theorem sm_items {A : Around} {F : V → V → Prop} (ih : ∀ x y v u, F x y → RelV x v → RelV y u → SeqAt.EqAt A s v u true) : ∀ {xs ys : List V} {us ws : List Value}, Paired F xs ys → Vals xs us → Vals ys ws →
    us.length = ws.length ∧ ∀ j (h1 : j < us.length) (h2 : j < ws.length), SeqAt.EqAt A s us[j] ws[j] true
  | _, _, _, _, .nil, .nil, .nil => ⟨rfl, fun j h1 _ => absurd h1 (Nat.not_lt_zero j)⟩
  | _, _, _, _, .cons h t, .cons a1 b1, .cons a2 b2 => by
    obtain ⟨e, k⟩ := sm_items ih t b1 b2
    refine ⟨congrArg Nat.succ e, fun j h1 h2 => ?_⟩
    cases j with
    | zero => exact ih _ _ _ _ h a1 a2
    | succ j => exact k j (Nat.lt_of_succ_lt_succ h1) (Nat.lt_of_succ_lt_succ h2)
theorem sm_lists (I : Inv X pins σ H s) {A : Around} {F : V → V → Prop} (ih : ∀ x y v u, F x y → RelV x v → RelV y u → SeqAt.EqAt A s v u true) {a b : Addr} {xs ys : List V} (ha : SqL X.K H a xs) (hb : SqL X.K H b ys) (p : Paired F xs ys) :
    ∃ us ws : List Value, s.heap.IsList a us.toArray ∧ s.heap.IsList b ws.toArray ∧ us.toArray.size = ws.toArray.size ∧ ∀ j (h1 : j < us.toArray.size) (h2 : j < ws.toArray.size), SeqAt.EqAt A s us.toArray[j] ws.toArray[j] true := by
  obtain ⟨us, r1, p1, _⟩ := I.list ha
  obtain ⟨ws, r2, p2, _⟩ := I.list hb
  obtain ⟨e, k⟩ := sm_items ih p r1 r2
  exact ⟨us, ws, p1.isList, p2.isList, by simpa using e, fun j h1 h2 => by simpa using k j (by simpa using h1) (by simpa using h2)⟩
theorem allT (n : Nat) : ((List.range n).all fun _ => true) = true := List.all_eq_true.mpr fun _ _ => rfl
theorem sm_run (I : Inv X pins σ H s) : ∀ (n : Nat) (A : Around), A.units + n < cLine → ∀ (x y : V) (v u : Value), Sm X.K H n x y → RelV x v → RelV y u → SeqAt.EqAt A s v u true
  | 0, _, _, _, _, _, _, h, _, _ => (show False from h).elim
  | n + 1, A, hu, x, y, v, u, h, rx, ry => by
    rcases h with ⟨rfl, f⟩ | ⟨a, rfl, rfl⟩ | ⟨a, b, xs, ys, rfl, rfl, ha, hb, p⟩
    · exact eqAt_same rx ry f
    · cases (show v = Value.ref a from rx)
      cases (show u = Value.ref a from ry)
      exact SeqAt.EqAt.same _
    · cases (show v = Value.ref a from rx)
      cases (show u = Value.ref b from ry)
      by_cases e : a = b
      · subst e; exact SeqAt.EqAt.same _
      · obtain ⟨us, ws, p1, p2, hz, k⟩ := sm_lists I (A := A.in1) (sm_run I n A.in1 (by show A.units + 1 + n < cLine; omega)) ha hb p
        have r := SeqAt.RcAt.lists (A := A) (e := fun _ => true) p1 p2 hz (by omega) k
        rw [allT] at r
        exact SeqAt.EqAt.of_refs e r
/-- two lists of the same things -/
def SmL (K : PySem.W.Frag) (H : Hp) (x y : V) : Prop := ∃ a b xs ys, x = .ref a ∧ y = .ref b ∧ SqL K H a xs ∧ SqL K H b ys ∧ Paired (Sm K H 40) xs ys
theorem op_eqS (hu : X.A.units + 64 < cLine) : OpR X (compareOp .Eq) (fun x y H Q => SmL X.K H x y ∧ Q (.bl true) H) := fun pins s σ H x y v u Q I rx ry h => by
  obtain ⟨⟨a, b, xs, ys, rfl, rfl, ha, hb, p⟩, q⟩ := h
  cases (show v = Value.ref a from rx)
  cases (show u = Value.ref b from ry)
  obtain ⟨us, ws, p1, p2, hz, k⟩ := sm_lists I (A := X.A.in1) (sm_run I 40 X.A.in1 (by show X.A.units + 1 + 40 < cLine; omega)) ha hb p
  have r := SeqAt.RcAt.lists (A := X.A) (e := fun _ => true) p1 p2 hz (by omega) k
  rw [allT] at r
  exact r X.prog X.w _ _ ⟨.bl true, H, I, rfl, q⟩
theorem op_neS (hu : X.A.units + 64 < cLine) : OpR X (compareOp .NotEq) (fun x y H Q => SmL X.K H x y ∧ Q (.bl false) H) := fun pins s σ H x y v u Q I rx ry h => by
  obtain ⟨⟨a, b, xs, ys, rfl, rfl, ha, hb, p⟩, q⟩ := h
  cases (show v = Value.ref a from rx)
  cases (show u = Value.ref b from ry)
  obtain ⟨us, ws, p1, p2, hz, k⟩ := sm_lists I (A := X.A.in1) (sm_run I 40 X.A.in1 (by show X.A.units + 1 + 40 < cLine; omega)) ha hb p
  have r := SeqAt.RcNeAt.lists (A := X.A) (e := fun _ => true) p1 p2 hz (by omega) k
  rw [allT] at r
  exact r X.prog X.w _ _ ⟨.bl false, H, I, rfl, q⟩
end
theorem Paired.sm_refl {K : PySem.W.Frag} {H : Hp} {n : Nat} : ∀ {xs : List V}, (∀ x ∈ xs, Sm K H n x x) → Paired (Sm K H n) xs xs
  | [], _ => .nil
  | x :: xs, h => .cons (h x List.mem_cons_self) (Paired.sm_refl fun y hy => h y (List.mem_cons_of_mem _ hy))
/-- a value is the same as itself -/
theorem sm_self {K : PySem.W.Frag} {H : Hp} {n : Nat} {v : V} (h : flatB v = true ∨ ∃ a, v = .ref a) : Sm K H (n + 1) v v := by
  rcases h with h | ⟨a, rfl⟩
  · exact .inl ⟨rfl, h⟩
  · exact .inr (.inl ⟨a, rfl, rfl⟩)
def uEq2 (K : PySem.W.Frag) : R2 := fun x y H Q => match scal x y with
  | true => Q (.bl (decide (x = y))) H
  | false => (∃ d e, Dp K H x d ∧ Dp K H y e ∧ SeqAt.shaped d = true ∧ SeqAt.shaped e = true ∧ Q (.bl (PyData.eqv d e)) H) ∨ (SmL K H x y ∧ Q (.bl true) H)
def uNe2 (K : PySem.W.Frag) : R2 := fun x y H Q => match scal x y with
  | true => Q (.bl (!decide (x = y))) H
  | false => (∃ d e, Dp K H x d ∧ Dp K H y e ∧ SeqAt.shaped d = true ∧ SeqAt.shaped e = true ∧ Q (.bl (!PyData.eqv d e)) H) ∨ (SmL K H x y ∧ Q (.bl false) H)
/-- int, text or list times int -/
def uMul2 : R2 := fun x y H Q => match x, y with
  | .int i, .int j => CMul i j ∧ Q (.int (i * j)) H
  | .ref l, .int k => oK (mutL H l) fun xs => -(2 ^ 63) ≤ k ∧ k < 2 ^ 63 ∧ xs.length * k.toNat ≤ sizeLine ∧ ∀ p, H p = none → Q (.ref p) (upd H p (.lst (List.replicate k.toNat xs).flatten))
  | _, _ => False
/-- x is None -/
def uIs (neg : Bool) : R2 := fun x y H Q => match y with
  | .non => Q (.bl (if neg then !decide (x = .non) else decide (x = .non))) H
  | _ => False
def uInt : List V → Hp → VK → Prop := fun xs H Q => match xs with
  | [.int i] => Q (.int i) H
  | [.bl k] => Q (.int (if k then 1 else 0)) H
  | [.str a] => a.length ≤ 640 ∧ oK (PySem.intText? a) fun n => Q (.int n) H
  | _ => False
def uIndex : V → List V → Hp → VK → Prop := fun x xs H Q => match x, xs with
  | .str a, [.str b] => ∃ i rest, Builtin.Str.occurrences a b 0 a.length 1 = i :: rest ∧ Q (.int (i : Nat)) H
  | _, _ => False
def uSplit : V → List V → Hp → VK → Prop := fun x xs H Q => match x, xs with
  | .str a, [.str b] => (b.length == 0) = false ∧ a.length + 2 ≤ sizeLine ∧ ∀ p, H p = none → Q (.ref p) (upd H p (.lst ((Txt.split a b).map V.str)))
  | _, _ => False
section
variable {X : Cx}
theorem ou_eq2 (hu : X.A.units + 64 < cLine) : OpR X (compareOp .Eq) (uEq2 X.K) := OpRi (op_eq.or ((op_eqD hu).or (op_eqS hu))) fun x y H Q h => by
  unfold uEq2 at h
  split at h
  · exact .inl ⟨by assumption, h⟩
  · exact .inr h
theorem ou_ne2 (hu : X.A.units + 64 < cLine) : OpR X (compareOp .NotEq) (uNe2 X.K) := OpRi (op_ne.or ((op_neD hu).or (op_neS hu))) fun x y H Q h => by
  unfold uNe2 at h
  split at h
  · exact .inl ⟨by assumption, h⟩
  · exact .inr h
theorem ou_mul2 : OpR X (binaryOp .Mult) uMul2 := OpRi (op_mul.or op_rep) fun x y H Q h => by
  unfold uMul2 at h
  split at h
  · exact .inl ⟨_, _, rfl, rfl, h⟩
  · obtain ⟨xs, e, h1, h2, h3, h4⟩ := oK_ex h
    exact .inr ⟨_, _, xs, rfl, rfl, of_mutL e, h1, h2, h3, h4⟩
  · exact h.elim
theorem ou_is : OpR X (compareOp .Is) (uIs false) := OpRi op_isN fun x y H Q h => by
  unfold uIs at h
  split at h
  · exact ⟨rfl, h⟩
  · exact h.elim
theorem ou_isnot : OpR X (compareOp .IsNot) (uIs true) := OpRi op_notN fun x y H Q h => by
  unfold uIs at h
  split at h
  · exact ⟨rfl, h⟩
  · exact h.elim
theorem callR_or {f : Value} {r r' : List V → Hp → VK → Prop} (h : CallR X f r) (h' : CallR X f r') : CallR X f (fun xs H Q => r xs H Q ∨ r' xs H Q) := fun pins s σ H xs us Q I rv q => q.elim (h pins s σ H xs us Q I rv) (h' pins s σ H xs us Q I rv)
theorem cu_int : CallR X (.type "int") uInt := CallRi (callR_or call_int1 call_int_str) fun xs H Q h => by
  unfold uInt at h
  split at h
  · exact .inl (.inl ⟨_, rfl, h⟩)
  · exact .inl (.inr ⟨_, rfl, h⟩)
  · obtain ⟨h1, h⟩ := h
    obtain ⟨n, e, h⟩ := oK_ex h
    exact .inr ⟨_, n, rfl, e, h1, h⟩
  · exact h.elim
theorem mu_index : MtR X "str.index" uIndex := MtRi mt_sindex fun x xs H Q h => by
  unfold uIndex at h
  split at h
  · obtain ⟨i, rest, e, h⟩ := h
    exact ⟨_, _, i, rest, rfl, rfl, e, h⟩
  · exact h.elim
theorem mu_split : MtR X "str.split" uSplit := MtRi mt_split fun x xs H Q h => by
  unfold uSplit at h
  split at h
  · exact ⟨_, _, rfl, rfl, h.1, h.2.1, h.2.2⟩
  · exact h.elim
end

/-! ### calls with keywords and defaults -/
section
variable {X : Cx} {CX : CXT} {k n m : Nat} {f : Addr} {fd : FuncData} {ps ks : List Str} {sp : Sp} {E : XK} {x : Str} {p pos : Pos} {e : Expr} {es : List Expr} {kws : List Keyword} {t tk : TA} {gV : List V → List V → List V} {dvs : List V}
theorem pe_callE (F : FnOk X.prog X.w X.K X.mg X.base CX k f fd ps sp) (hr : Room k X.A) (hg : Gl X x) (hm : X.mg x = some (.ref f)) (hk : PySem.W.keepIn X.K (.ref f) = true) (hb : ∃ g, KBn X.K fd ps n ks g gV) (hx : Passes CX X E)
    (ha : PA X (e :: es) t) (hkw : PK X kws tk) (hl : ks.length = m := by rfl) (hall : (backToKw pos (keywordEach kws X.env)).all (·.1.isSome) = true := by rfl) (hks : (backToKw pos (keywordEach kws X.env)).filterMap (·.1) = ks := by rfl)
    (hdb : (x == ("__debug__" : Str)) = false := by decide) (he : starEach (e :: es) X.env = (false, eval e X.env) :: starEach es X.env := by rfl)
    (hpl : ((backTo pos (starEach (e :: es) X.env)).any (·.1) || (backToKw pos (keywordEach kws X.env)).any (·.1.isNone)) = false := by rfl) :
    PE X (.Call (.Name x p) (e :: es) kws pos) (tCallN n m sp gV E t tk) := hb.elim fun _ h => by
  subst hl
  exact pe_callN F hr hg hm hk h hx ha hkw hall hks hdb he hpl
theorem pe_callD (F : FnOk X.prog X.w X.K X.mg X.base CX k f fd ps sp) (hr : Room k X.A) (hg : Gl X x) (hm : X.mg x = some (.ref f)) (hk : PySem.W.keepIn X.K (.ref f) = true) (hb : ∃ ds, Vals dvs ds ∧ Binds X.K fd ps ds) (hx : Passes CX X E)
    (ha : PA X (e :: es) t) (hdb : (x == ("__debug__" : Str)) = false := by decide) (he : starEach (e :: es) X.env = (false, eval e X.env) :: starEach es X.env := by rfl) (hpl : (backTo pos (starEach es X.env)).any (·.1) = false := by rfl) :
    PE X (.Call (.Name x p) (e :: es) [] pos) (tCall sp dvs E t) := hb.elim fun _ h => pe_call F hr hg hm hk h.2 h.1 hx ha hdb he hpl
end

/-! ### two fors in a comprehension -/
theorem in_it {J : It} {n : Nat} {G : Hp → Prop} {Y : Nat → Hp → V → Hp → Prop} (w : Walk J n G Y) {g : TG} {tt : TT} {te : TE} {vs : List Nat} {σ : L2.St} {H1 : Hp} {D : Addr} {Qd : Hp → Prop} (Pv : Nat → Hp → Prop) (h0 : Pv 0 H1) (hG : ∀ i H, i ≤ n → Pv i H → G H)
    (hs : ∀ i x H H', i < n → Pv i H → Y i H x H' → g x (wipe σ vs) H' fun σ2 H2 => wipe σ2 vs = wipe σ vs ∧ tt σ2 H2 fun b H3 =>
      bB b (te σ2 H3 fun y H4 => ∃ acc, H4 D = some (.lst acc) ∧ acc.length < sizeLine ∧ Pv (i + 1) (upd H4 D (.lst (acc ++ [y])))) (Pv (i + 1) H3)) (hd : ∀ H, Pv n H → Qd H) :
    ∃ W : Nat → Nat → Hp → Prop, (∃ m, W 0 m H1) ∧ ∀ i m H, W i m H → (J.stop i H ∧ Qd H) ∨ (J.go i H ∧ ∃ Nx : Hp → Prop, (∀ H', Nx H' → ∃ m', m' < m ∧ W (i + 1) m' H') ∧ ∀ x H', J.yld i H x H' →
      g x (wipe σ vs) H' fun σ2 H2 => wipe σ2 vs = wipe σ vs ∧ tt σ2 H2 fun b H3 => if b = true then te σ2 H3 fun y H4 => ∃ acc, H4 D = some (.lst acc) ∧ acc.length < sizeLine ∧ Nx (upd H4 D (.lst (acc ++ [y]))) else Nx H3) := by
  simp only [bB_if] at hs
  refine ⟨fun i m H => m = n - i ∧ i ≤ n ∧ Pv i H, ⟨n, by simp, Nat.zero_le _, h0⟩, fun i m H => ?_⟩
  rintro ⟨rfl, hi, p⟩
  have q := hG i H hi p
  rcases Nat.lt_or_ge i n with hlt | hge
  · exact .inr ⟨w.goes i H hlt q, Pv (i + 1), fun H' p' => ⟨n - (i + 1), by omega, rfl, hlt, p'⟩, fun x H' y => hs i x H H' hlt p (w.yields i H x H' hlt q y)⟩
  · obtain rfl : i = n := by omega
    exact .inl ⟨w.stops H q, hd H p⟩
theorem lc2s {K : PySem.W.Frag} {x : V} {J : It} {xs : List V} {G : Hp → Prop} (S : Src K x J xs G) {tx : TE} {g g1 : TG} {tt tt1 : TT} {wi1 : TI} {te : TE} {vs vs1 : List Nat} {σ : L2.St} {H H1 : Hp} {Q : VK} (hx : ∀ R : VK, R x H1 → tx σ H R) (hG : G H1) (Pv : Addr → Nat → Hp → Prop)
    (h0 : ∀ D, H1 D = none → Pv D 0 (upd H1 D (.lst []))) (hst : ∀ D i H, i ≤ xs.length → Pv D i H → G H)
    (hs : ∀ D i y H, xs[i]? = some y → Pv D i H → g y (wipe σ vs) H fun σ2 H2 => wipe σ2 vs = wipe σ vs ∧ tt σ2 H2 fun b H3 =>
      if b = true then wi1 σ2 H3 fun J1 H4 => ∃ W1 : Nat → Nat → Hp → Prop, (∃ m, W1 0 m H4) ∧ ∀ j k H, W1 j k H →
        (J1.stop j H ∧ Pv D (i + 1) H) ∨ (J1.go j H ∧ ∃ Nx1 : Hp → Prop, (∀ H', Nx1 H' → ∃ k', k' < k ∧ W1 (j + 1) k' H') ∧ ∀ x H', J1.yld j H x H' → g1 x (wipe σ2 vs1) H' fun σ3 H5 => wipe σ3 vs1 = wipe σ2 vs1 ∧ tt1 σ3 H5 fun b H6 =>
          if b = true then te σ3 H6 fun y H7 => ∃ acc, H7 D = some (.lst acc) ∧ acc.length < sizeLine ∧ Nx1 (upd H7 D (.lst (acc ++ [y]))) else Nx1 H6)
      else Pv D (i + 1) H3) (hd : ∀ D H, H1 D = none → Pv D xs.length H → Q (.ref D) H) :
    tLc2 (uIter K tx) g tt wi1 g1 tt1 te vs vs1 σ H Q := hx _ (S.go hG fun D hD => by
  refine ⟨fun i m H => m = xs.length - i ∧ i ≤ xs.length ∧ Pv D i H, ⟨xs.length, by simp, Nat.zero_le _, h0 D hD⟩, fun i m H => ?_⟩
  rintro ⟨rfl, hi, p⟩
  have q := hst D i H hi p
  rcases Nat.lt_or_ge i xs.length with hlt | hge
  · refine .inr ⟨S.walk.goes i H hlt q, Pv D (i + 1), fun H' p' => ⟨xs.length - (i + 1), by omega, rfl, hlt, p'⟩, fun x H' y => ?_⟩
    obtain ⟨e, hy⟩ := S.walk.yields i H x H' hlt q y
    subst e
    exact hs D i x _ hy p
  · obtain rfl : i = xs.length := by omega
    exact .inl ⟨S.walk.stops H q, hd D H hD p⟩)
end U

namespace U
open PySem PySem.Spec PyProof.Rows L2

/-! ### what the laws of this package share: words, marks, boxes -/
def letter (c : Nat) : Bool := decide (97 ≤ c) && decide (c ≤ 122)
def isWord (z : Str) : Bool := decide (1 ≤ z.length) && decide (z.length ≤ 30) && z.cps.toList.all letter
def isMarkL : List Nat → Bool
  | [c] => decide (c = 32)
  | [k, i] => (decide (k = 35) || decide (k = 124) || decide (k = 47)) && (decide (48 ≤ i) && decide (i ≤ 51))
  | _ => false
def isMark (z : Str) : Bool := isMarkL z.cps.toList
def wordV (v : V) : Bool := match v with | .str z => isWord z | _ => false
def markV (v : V) : Bool := match v with | .str z => isMark z | _ => false
def small (v : V) : Prop := match v with | .str z => z.length ≤ 1000 | _ => True
/-- a value of a known kind, no long text -/
def Kn (H : Hp) (v : V) : Prop := (tyOf H v).isSome = true ∧ small v
def BoxAt (H : Hp) (b : Addr) (n : Nat) : Prop := ∃ x y z : Int, H b = some (.lst [.int x, .int y, .int z]) ∧ 0 ≤ x ∧ 0 ≤ y ∧ y < 2147483629 ∧ 0 ≤ z ∧ z ≤ n
/-- the exception of the class i with its field -/
def Rs (ca : Nat → Addr) (i : Nat) (v : V) (H : Hp) (E : XK) : Prop := ∀ d, H d = none → E (.ref (ca i)) (some d) (upd H d (.xd [("value", v)]))
theorem BoxAt.new {H : Hp} {b p : Addr} {n : Nat} {o : HO} (h : BoxAt H b n) (hp : H p = none) : BoxAt (upd H p o) b n := by
  obtain ⟨x, y, z, e, r⟩ := h
  exact ⟨x, y, z, by rw [upd_ne (ne_of_none e hp)]; exact e, r⟩
theorem BoxAt.ex {H H' : Hp} {b : Addr} {n : Nat} (h : BoxAt H b n) (e : Ex H H') : BoxAt H' b n := by
  obtain ⟨x, y, z, h, r⟩ := h
  exact ⟨x, y, z, e _ _ h, r⟩
theorem BoxAt.le {H : Hp} {b : Addr} {n m : Nat} (h : BoxAt H b n) (e : n ≤ m) : BoxAt H b m := by
  obtain ⟨x, y, z, h, a, b, c, d, f⟩ := h
  exact ⟨x, y, z, h, a, b, c, d, by omega⟩
theorem BoxAt.ne {H : Hp} {b p : Addr} {n : Nat} (h : BoxAt H b n) (hp : H p = none) : p ≠ b := by
  obtain ⟨_, _, _, e, _⟩ := h
  exact (ne_of_none e hp).symm
/-- something else at an address that is no box -/
theorem BoxAt.off {H : Hp} {b p : Addr} {n : Nat} {o : HO} (h : BoxAt H b n) (hp : H p = some o) (ho : ∀ x y z, o ≠ .lst [.int x, .int y, .int z]) : p ≠ b := by
  obtain ⟨x, y, z, e, _⟩ := h
  exact ne_of hp e (ho x y z)
theorem ScriptAt.box {K : PySem.W.Frag} {H H' : Hp} {a b : Addr} {ns : List Int} {n : Nat} (h : ScriptAt K H a ns) (B : BoxAt H b n) (f : Fr b H H') : ScriptAt K H' a ns := by
  obtain ⟨x, y, z, e, _⟩ := B
  exact h.fr f e
theorem tyOf_ref {H : Hp} {a : Addr} (h : (tyOf H (.ref a)).isSome = true) : ∃ t, tyOf H (.ref a) = some t ∧ (t = .lst ∨ t = .tup ∨ t = .dct) := by
  have h : ((H a).bind tyO).isSome = true := h
  cases e : H a with
  | none => rw [e] at h; cases h
  | some o =>
    rw [e] at h
    have h : (tyO o).isSome = true := h
    cases e2 : tyO o with
    | none => rw [e2] at h; cases h
    | some t =>
      refine ⟨t, ?_, ?_⟩
      · show (H a).bind tyO = some t
        rw [e]; exact e2
      · unfold tyO at e2
        split at e2 <;> first | (cases e2; done) | (cases e2; simp)
theorem kn_ref {H : Hp} {p : Addr} {o : HO} (h : H p = some o) (ho : (tyO o).isSome = true) : Kn H (.ref p) := ⟨by show ((H p).bind tyO).isSome = true; rw [h]; exact ho, trivial⟩
theorem kn_str {H : Hp} {z : Str} (h : z.length ≤ 1000) : Kn H (.str z) := ⟨rfl, h⟩
theorem kn_int {H : Hp} (i : Int) : Kn H (.int i) := ⟨rfl, trivial⟩
theorem kn_non {H : Hp} : Kn H .non := ⟨rfl, trivial⟩
theorem kn_bl {H : Hp} (b : Bool) : Kn H (.bl b) := ⟨rfl, trivial⟩
theorem tyOf_ex {H H' : Hp} {v : V} {t : Ty} (h : tyOf H v = some t) (e : Ex H H') : tyOf H' v = some t := by
  cases v with
  | ref a =>
    have h : (H a).bind tyO = some t := h
    cases q : H a with
    | none => rw [q] at h; cases h
    | some o =>
      rw [q] at h
      show (H' a).bind tyO = some t
      rw [e _ _ q]; exact h
  | _ => exact h
theorem Kn.ex {H H' : Hp} {v : V} (h : Kn H v) (e : Ex H H') : Kn H' v := by
  obtain ⟨h1, h2⟩ := h
  obtain ⟨t, ht⟩ := Option.isSome_iff_exists.mp h1
  exact ⟨by rw [tyOf_ex ht e]; rfl, h2⟩
theorem tyOf_fr {H H' : Hp} {b : Addr} {v : V} {t : Ty} (h : tyOf H v = some t) (e : Fr b H H') (hb : v ≠ .ref b) : tyOf H' v = some t := by
  cases v with
  | ref a =>
    have h : (H a).bind tyO = some t := h
    cases q : H a with
    | none => rw [q] at h; cases h
    | some o =>
      rw [q] at h
      show (H' a).bind tyO = some t
      rw [e _ _ q (fun z => hb (by rw [z]))]; exact h
  | _ => exact h
theorem Kn.fr {H H' : Hp} {b : Addr} {v : V} (h : Kn H v) (e : Fr b H H') (hb : v ≠ .ref b) : Kn H' v := by
  obtain ⟨h1, h2⟩ := h
  obtain ⟨t, ht⟩ := Option.isSome_iff_exists.mp h1
  exact ⟨by rw [tyOf_fr ht e hb]; rfl, h2⟩
theorem log_small {i : Int} (h1 : -(10 ^ 40) < i) (h2 : i < 10 ^ 40) : i.natAbs.log2 < 1920 := by
  by_cases h : i.natAbs = 0
  · rw [h]; decide
  · rw [Nat.log2_lt h]
    have : i.natAbs < 10 ^ 40 := by omega
    exact Nat.lt_of_lt_of_le this (by decide +kernel)
theorem len_small {i : Int} (h1 : -(10 ^ 40) < i) (h2 : i < 10 ^ 40) : (Str.ofString (toString i)).length ≤ 41 := by
  have h := int_text_length_le10 (a := i) (k := 40) (by decide) (by omega)
  rw [PySem.ofString_length]
  omega
/-! texts by their signs -/
theorem toList_inj {a b : Str} (h : a.cps.toList = b.cps.toList) : a = b := by
  obtain ⟨⟨l⟩⟩ := a
  obtain ⟨⟨m⟩⟩ := b
  have h : l = m := h
  subst h; rfl
theorem str_len (z : Str) : z.length = z.cps.toList.length := rfl
theorem cps_blank : (Str.ofString " ").cps.toList = [32] := by decide +kernel
theorem cps_kinds : (Str.ofString "#|/").cps.toList = [35, 124, 47] := by decide +kernel
theorem cps_digits : (Str.ofString "0123").cps.toList = [48, 49, 50, 51] := by decide +kernel
theorem cps_ten : (Str.ofString "0123456789").cps.toList = List.range' 48 10 := by decide +kernel
theorem cps_letters : (Str.ofString "abcdefghijklmnopqrstuvwxyz").cps.toList = List.range' 97 26 := by decide +kernel
theorem mem_letters (c : Nat) : decide (c ∈ (Str.ofString "abcdefghijklmnopqrstuvwxyz").cps.toList) = letter c := by
  rw [cps_letters]
  unfold letter
  rw [← Bool.decide_and]
  apply decide_eq_decide.mpr
  rw [List.mem_range'_1]
  omega
def isDig (c : Nat) : Bool := decide (48 ≤ c) && decide (c ≤ 57)
theorem mem_ten (c : Nat) : decide (c ∈ (Str.ofString "0123456789").cps.toList) = isDig c := by
  rw [cps_ten]
  unfold isDig
  rw [← Bool.decide_and]
  apply decide_eq_decide.mpr
  rw [List.mem_range'_1]
  omega
/-- a text against a fixed one -/
theorem eq_fix (z : Str) (a : String) {l : List Nat} (h : (Str.ofString a).cps.toList = l) : decide (V.str z = V.str (Str.ofString a)) = decide (z.cps.toList = l) := by
  apply decide_eq_decide.mpr
  constructor
  · intro e; injection e with e; rw [e]; exact h
  · intro e; rw [toList_inj (e.trans h.symm)]
theorem eq_blank (z : Str) : decide (V.str z = V.str (Str.ofString " ")) = decide (z.cps.toList = [32]) := eq_fix z _ cps_blank
theorem isMark_two {z : Str} {k i : Nat} (h : z.cps.toList = [k, i]) : isMark z = (decide (k ∈ [35, 124, 47]) && decide (i ∈ [48, 49, 50, 51])) := by
  unfold isMark
  rw [h]
  unfold isMarkL
  rw [Bool.eq_iff_iff]
  simp
  omega
theorem isMark_other {z : Str} (h1 : z.cps.toList ≠ [32]) (h2 : z.length ≠ 2) : isMark z = false := by
  unfold isMark
  rw [str_len] at h2
  generalize z.cps.toList = l at *
  match l with
  | [] => rfl
  | [c] => simp at h1; simp [isMarkL, h1]
  | [_, _] => exact absurd rfl h2
  | _ :: _ :: _ :: _ => rfl
/-- the forms of a mark -/
theorem mark_forms {z : Str} (h : isMark z = true) : z.cps.toList = [32] ∨ ∃ k i, z.cps.toList = [k, i] ∧ k ∈ [35, 124, 47] ∧ i ∈ [48, 49, 50, 51] := by
  by_cases h1 : z.cps.toList = [32]
  · exact .inl h1
  · by_cases h2 : z.length = 2
    · have h3 : z.cps.toList.length = 2 := h2
      match hz : z.cps.toList, h3 with
      | [k, i], _ =>
        rw [isMark_two hz, Bool.and_eq_true, decide_eq_true_eq, decide_eq_true_eq] at h
        exact .inr ⟨k, i, rfl, h.1, h.2⟩
    · rw [isMark_other h1 h2] at h; cases h
end U

namespace U
open PySem PySem.Spec PyProof.Rows L2

/-! ### data that lie in the heap of the run, away from an address -/
mutual
inductive Dn (b : Addr) (H : Hp) : V → PyData → Prop
  | non : Dn b H .non .none
  | bl (k : Bool) : Dn b H (.bl k) (.bool k)
  | int (i : Int) : Dn b H (.int i) (.int i)
  | str (z : Str) : Dn b H (.str z) (.str z)
  | lst {a : Addr} {xs : List V} {ds : List PyData} : a ≠ b → H a = some (.lst xs) → DnAll b H xs ds → Dn b H (.ref a) (.list ds)
  | tup {a : Addr} {xs : List V} {ds : List PyData} : a ≠ b → H a = some (.tup xs) → DnAll b H xs ds → Dn b H (.ref a) (.tuple ds)
  | dct {a : Addr} : a ≠ b → H a = some (.dK []) → Dn b H (.ref a) (.dict [])
inductive DnAll (b : Addr) (H : Hp) : List V → List PyData → Prop
  | nil : DnAll b H [] []
  | cons {v : V} {vs : List V} {d : PyData} {ds : List PyData} : Dn b H v d → DnAll b H vs ds → DnAll b H (v :: vs) (d :: ds)
end
mutual
theorem Dn.fr {b : Addr} {H H' : Hp} (f : Fr b H H') : ∀ (d : PyData) {v : V}, Dn b H v d → Dn b H' v d
  | .none, _, h => by cases h; exact .non
  | .bool _, _, h => by cases h; exact .bl _
  | .int _, _, h => by cases h; exact .int _
  | .str _, _, h => by cases h; exact .str _
  | .list ds, _, h => by
    cases h with
    | lst h1 h2 h3 => exact .lst h1 (f _ _ h2 h1) (DnAll.fr f ds h3)
  | .tuple ds, _, h => by
    cases h with
    | tup h1 h2 h3 => exact .tup h1 (f _ _ h2 h1) (DnAll.fr f ds h3)
  | .dict _, _, h => by
    cases h with
    | dct h1 h2 => exact .dct h1 (f _ _ h2 h1)
theorem DnAll.fr {b : Addr} {H H' : Hp} (f : Fr b H H') : ∀ (ds : List PyData) {vs : List V}, DnAll b H vs ds → DnAll b H' vs ds
  | [], _, h => by cases h; exact .nil
  | d :: ds, _, h => by
    cases h with
    | cons h1 h2 => exact .cons (Dn.fr f d h1) (DnAll.fr f ds h2)
end
theorem Dn.go {b : Addr} {H H' : Hp} {d : PyData} {v : V} (h : Dn b H v d) (f : Fr b H H') : Dn b H' v d := Dn.fr f d h
theorem Dn.ex {b : Addr} {H H' : Hp} {d : PyData} {v : V} (h : Dn b H v d) (e : Ex H H') : Dn b H' v d := Dn.fr (Fr.ex e) d h
theorem DnAll.go {b : Addr} {H H' : Hp} {ds : List PyData} {vs : List V} (h : DnAll b H vs ds) (f : Fr b H H') : DnAll b H' vs ds := DnAll.fr f ds h
theorem DnAll.ex {b : Addr} {H H' : Hp} {ds : List PyData} {vs : List V} (h : DnAll b H vs ds) (e : Ex H H') : DnAll b H' vs ds := DnAll.fr (Fr.ex e) ds h
theorem DnAll.len {b : Addr} {H : Hp} : ∀ {vs : List V} {ds : List PyData}, DnAll b H vs ds → vs.length = ds.length
  | _, _, .nil => rfl
  | _, _, .cons _ h => by rw [List.length_cons, List.length_cons, h.len]
theorem DnAll.app {b : Addr} {H : Hp} : ∀ {vs ws : List V} {ds es : List PyData}, DnAll b H vs ds → DnAll b H ws es → DnAll b H (vs ++ ws) (ds ++ es)
  | _, _, _, _, .nil, h => h
  | _, _, _, _, .cons h1 h2, h => .cons h1 (h2.app h)
theorem DnAll.drop {b : Addr} {H : Hp} : ∀ (n : Nat) {vs : List V} {ds : List PyData}, DnAll b H vs ds → DnAll b H (vs.drop n) (ds.drop n)
  | 0, _, _, h => by simpa using h
  | n + 1, _, _, .nil => by simpa using DnAll.nil
  | n + 1, _, _, .cons _ h => by simpa using h.drop n
theorem DnAll.take {b : Addr} {H : Hp} : ∀ (n : Nat) {vs : List V} {ds : List PyData}, DnAll b H vs ds → DnAll b H (vs.take n) (ds.take n)
  | 0, _, _, h => by simpa using DnAll.nil
  | n + 1, _, _, .nil => by simpa using DnAll.nil
  | n + 1, _, _, .cons h1 h => by simpa using DnAll.cons h1 (h.take n)
theorem DnAll.at {b : Addr} {H : Hp} : ∀ {vs : List V} {ds : List PyData}, DnAll b H vs ds → ∀ (i : Nat) {v : V}, vs[i]? = some v → ∃ d, ds[i]? = some d ∧ Dn b H v d
  | _, _, .nil, i, v, e => by simp at e
  | _, _, .cons h1 h2, 0, v, e => by
    simp at e; subst e
    exact ⟨_, rfl, h1⟩
  | _, _, .cons h1 h2, i + 1, v, e => by
    obtain ⟨d, h3, h4⟩ := h2.at i (by simpa using e)
    exact ⟨d, by simpa using h3, h4⟩
mutual
theorem Dn.dp {b : Addr} {H : Hp} {K : PySem.W.Frag} : ∀ (d : PyData) {v : V}, Dn b H v d → d.hasDict = false → Dp K H v d
  | .none, _, h, _ => by cases h; exact .non
  | .bool _, _, h, _ => by cases h; exact .bl _
  | .int _, _, h, _ => by cases h; exact .int _
  | .str _, _, h, _ => by cases h; exact .str _
  | .list ds, _, h, g => by
    cases h with
    | lst h1 h2 h3 => exact .lst (.inl (.inl h2)) (DnAll.dp ds h3 (by simpa only [PyData.hasDict] using g))
  | .tuple ds, _, h, g => by
    cases h with
    | tup h1 h2 h3 => exact .tup (.inl (.inl h2)) (DnAll.dp ds h3 (by simpa only [PyData.hasDict] using g))
  | .dict _, _, _, g => by simp only [PyData.hasDict] at g; cases g
theorem DnAll.dp {b : Addr} {H : Hp} {K : PySem.W.Frag} : ∀ (ds : List PyData) {vs : List V}, DnAll b H vs ds → PyData.hasDictAll ds = false → DpAll K H vs ds
  | [], _, h, _ => by cases h; exact .nil
  | d :: ds, _, h, g => by
    cases h with
    | cons h1 h2 =>
      simp only [PyData.hasDictAll, Bool.or_eq_false_iff] at g
      exact .cons (Dn.dp d h1 g.1) (DnAll.dp ds h2 g.2)
end
section
variable {X : Cx} {pins : List (Addr × Obj)} {σ : L2.St} {H : Hp} {s : Shared} {b : Addr}
theorem dk_empty_at (I : Inv X pins σ H s) {a : Addr} (h : H a = some (.dK [])) : (a == sysModules) = false ∧ ∃ (o : Obj) (n : Nat), s.heap.get? a = some o ∧ o.cls = .type "dict" ∧ o.data = .dict #[] n := by
  obtain ⟨_, h2, vs, kv, o, es, ep, g1, g2, g3, _, g5, _⟩ := (show ObjOk X.prog X.w H s.heap a (.dK []) from I.hok a _ h)
  cases kv
  obtain ⟨l⟩ := es
  cases (show Pairs (mixKind X.prog X.w) l [] from g5)
  exact ⟨h2, o, ep, g1, g2.1, g3⟩
mutual
theorem Dn.reads (I : Inv X pins σ H s) : ∀ (d : PyData) {v : V} {u : Value}, Dn b H v d → RelV v u → ∃ as, Reads s.heap u d as
  | .none, _, _, h, r => by cases h; cases r; exact ⟨_, .none⟩
  | .bool _, _, _, h, r => by cases h; cases r; exact ⟨_, .bool _⟩
  | .int _, _, _, h, r => by cases h; obtain ⟨t, rfl⟩ := r; exact ⟨_, .int _ t⟩
  | .str _, _, _, h, r => by cases h; obtain ⟨t, rfl⟩ := r; exact ⟨_, .str _ t⟩
  | .list ds, _, _, h, r => by
    cases h with
    | lst h1 h2 h3 =>
      cases r
      obtain ⟨us, rv, ⟨o, n, e1, e2, _, e3⟩, _⟩ := I.list (.inl (.inl h2))
      obtain ⟨as, q⟩ := DnAll.reads I ds h3 rv
      exact ⟨_, .list e1 e2 e3 q⟩
  | .tuple ds, _, _, h, r => by
    cases h with
    | tup h1 h2 h3 =>
      cases r
      obtain ⟨us, rv, ⟨o, e1, e2, n, e3⟩, _⟩ := I.tuple (.inl (.inl h2))
      obtain ⟨as, q⟩ := DnAll.reads I ds h3 rv
      exact ⟨_, .tuple e1 e2 e3 q⟩
  | .dict _, _, _, h, r => by
    cases h with
    | dct h1 h2 =>
      cases r
      obtain ⟨_, o, n, e1, e2, e3⟩ := dk_empty_at I h2
      exact ⟨_, .dict e1 e2 e3 .nil .nil⟩
theorem DnAll.reads (I : Inv X pins σ H s) : ∀ (ds : List PyData) {vs : List V} {us : List Value}, DnAll b H vs ds → Vals vs us → ∃ as, ReadsAll s.heap us ds as
  | [], _, _, h, r => by cases h; cases r; exact ⟨_, .nil⟩
  | d :: ds, _, _, h, r => by
    cases h with
    | cons h1 h2 =>
      cases r with
      | cons r1 r2 =>
        obtain ⟨as, q1⟩ := Dn.reads I d h1 r1
        obtain ⟨cs, q2⟩ := DnAll.reads I ds h2 r2
        exact ⟨_, .cons q1 q2⟩
end
mutual
theorem Dn.shows (I : Inv X pins σ H s) : ∀ (d : PyData) {v : V} {u : Value}, Dn b H v d → RelV v u → d.showable = true → d.shown.length ≤ sizeLine →
    ∃ bs, ReadAtMost s.heap d.depth bs ∧ ReprK X.prog X.w bs s.heap d.depth u d.shown
  | .none, _, _, h, r, _, _ => by
    cases h; cases r
    refine ⟨[], fun _ q => (nomatch q), ?_⟩
    simp only [PyData.shown]; exact .of_is ReprIs.none _ _ _
  | .bool k, _, _, h, r, _, _ => by
    cases h; cases r
    refine ⟨[], fun _ q => (nomatch q), ?_⟩
    simp only [PyData.shown]; exact .of_is (ReprIs.bool k) _ _ _
  | .int i, _, _, h, r, hs, _ => by
    cases h; obtain ⟨t, rfl⟩ := r
    refine ⟨[], fun _ q => (nomatch q), ?_⟩
    have g : i.natAbs.log2 < 1920 := by simpa [PyData.showable] using hs
    simp only [PyData.shown]; exact .of_is (ReprIs.int t g) _ _ _
  | .str z, _, _, h, r, _, hz => by
    cases h; obtain ⟨t, rfl⟩ := r
    refine ⟨[], fun _ q => (nomatch q), ?_⟩
    simp only [PyData.shown] at hz ⊢; exact .of_is (ReprIs.str z t hz) _ _ _
  | .list ds, _, u, h, r, hs, hz => by
    obtain ⟨as, rd⟩ := Dn.reads I (.list ds) h r
    cases h with
    | @lst a xs _ h1 h2 h3 =>
      cases r
      obtain ⟨us, rv, ⟨o, n, e1, e2, _, e3⟩, _⟩ := I.list (.inl (.inl h2))
      simp only [PyData.shown] at hz
      obtain ⟨bs, k1, k2⟩ := DnAll.shows I ds h3 rv (by simpa only [PyData.showable] using hs) (fun t ht => Nat.le_trans (listText_mem_le ht) hz)
      have no : a ∉ bs := not_mem_of_deeper rd (by simp only [PyData.depth]; omega) k1
      refine ⟨a :: bs, ReadAtMost.cons rd (by simp only [PyData.depth]; omega) k1, ?_⟩
      simp only [PyData.depth, PyData.shown]
      cases us with
      | nil =>
        cases rv
        cases h3
        simp only [PyData.shownAll, listText_nil]
        exact .listEmpty e1 e2 e3
      | cons x l => exact .list e1 e2 e3 no (by simpa using k2.length_eq) fun i y e => k2.item i y (by simpa using e)
  | .tuple ds, _, u, h, r, hs, hz => by
    obtain ⟨as, rd⟩ := Dn.reads I (.tuple ds) h r
    cases h with
    | @tup a xs _ h1 h2 h3 =>
      cases r
      obtain ⟨us, rv, ⟨o, e1, e2, n, e3⟩, _⟩ := I.tuple (.inl (.inl h2))
      simp only [PyData.shown] at hz
      obtain ⟨bs, k1, k2⟩ := DnAll.shows I ds h3 rv (by simpa only [PyData.showable] using hs) (fun t ht => Nat.le_trans (tupleText_mem_le ht) hz)
      have no : a ∉ bs := not_mem_of_deeper rd (by simp only [PyData.depth]; omega) k1
      refine ⟨a :: bs, ReadAtMost.cons rd (by simp only [PyData.depth]; omega) k1, ?_⟩
      simp only [PyData.depth, PyData.shown]
      exact .tuple e1 e2 e3 no (by simpa using k2)
  | .dict kvs, _, u, h, r, hs, hz => by
    obtain ⟨as, rd⟩ := Dn.reads I (.dict kvs) h r
    cases h with
    | @dct a h1 h2 =>
      cases r
      obtain ⟨g, o, n, e1, e2, e3⟩ := dk_empty_at I h2
      refine ⟨[a], ReadAtMost.cons (n := 0) rd (Nat.zero_le _) (fun _ q => (nomatch q)), ?_⟩
      simp only [PyData.depth, PyData.shown, PyData.depthKv, PyData.shownKv]
      exact .dict (ps := []) e1 e2 e3 g (by simp) .nil
theorem DnAll.shows (I : Inv X pins σ H s) : ∀ (ds : List PyData) {vs : List V} {us : List Value}, DnAll b H vs ds → Vals vs us → PyData.showableAll ds = true → (∀ t ∈ PyData.shownAll ds, t.length ≤ sizeLine) →
    ∃ bs, ReadAtMost s.heap (PyData.depthAll ds) bs ∧ ReprAllK X.prog X.w bs s.heap (PyData.depthAll ds) us (PyData.shownAll ds)
  | [], _, _, h, r, _, _ => by
    cases h; cases r
    refine ⟨[], fun _ q => (nomatch q), ?_⟩
    simp only [PyData.shownAll]; exact .nil
  | d :: ds, _, _, h, r, hs, hz => by
    cases h with
    | cons h1 h2 =>
      cases r with
      | cons r1 r2 =>
        simp only [PyData.showableAll, Bool.and_eq_true] at hs
        simp only [PyData.shownAll] at hz
        obtain ⟨b1, a1, k1⟩ := Dn.shows I d h1 r1 hs.1 (hz _ List.mem_cons_self)
        obtain ⟨b2, a2, k2⟩ := DnAll.shows I ds h2 r2 hs.2 fun t ht => hz t (List.mem_cons_of_mem _ ht)
        refine ⟨b1 ++ b2, ?_, ?_⟩
        · simp only [PyData.depthAll]
          exact (a1.mono (Nat.le_max_left _ _)).append (a2.mono (Nat.le_max_right _ _))
        · simp only [PyData.depthAll, PyData.shownAll]
          refine .cons ((k1.more fun c hc => List.mem_append_left _ hc).level_le (Nat.le_max_left _ _)) ?_
          exact k2.more_le (fun c hc => List.mem_append_right _ hc) (Nat.le_max_right _ _)
end
end
/-- data that repr takes -/
structure Okd (d : PyData) : Prop where
  sh : d.showable = true
  lv : d.leavesShort 41 = true
  dp : d.depth ≤ 20
  wt : d.weight ≤ 200000
theorem Okd.size {d : PyData} (h : Okd d) : d.shown.length ≤ sizeLine := by
  have := PyData.shown_le 41 (by decide) d h.lv
  have h2 := h.wt
  have h3 : 43 * d.weight ≤ 43 * 200000 := Nat.mul_le_mul_left _ h2
  rw [sizeLine_eq]; omega
def uRepr2 : List V → Hp → VK → Prop := fun xs H Q => match xs with
  | [v] => ∃ b d, Dn b H v d ∧ Okd d ∧ Q (.str d.shown) H
  | _ => False
theorem cu_repr2 {X : Cx} (hg : X.A.guards = some []) (hu : X.A.units + 64 < cLine) : CallR X (.builtin "repr") uRepr2 := fun pins s σ H xs us Q I r h => by
  match xs, h with
  | [v], h =>
    obtain ⟨b, d, hd, ok, q⟩ := h
    match us, r with
    | [u], .cons ru .nil =>
      have fin : ∀ h' tk u', (∀ b o, s.heap.get? b = some o → h'.get? b = some o) → EP X pins σ Q (.str d.shown u') { s with heap := h', toks := tk } := fun h' tk u' kp =>
        ⟨.str d.shown, H, I.un (Un.kept kp) (I.hok.kept kp), ⟨_, rfl⟩, q⟩
      have stay : ∀ tk u', EP X pins σ Q (.str d.shown u') { s with toks := tk } := fun tk u' => fin s.heap tk u' fun _ _ z => z
      obtain ⟨as, rd⟩ := Dn.reads I d hd ru
      have h2 := ok.size
      have hdp := ok.dp
      cases hd with
      | non =>
        cases ru
        exact PySem.P.repr_of_none (by have e : PyData.shown .none = ("None" : Str) := by simp [PyData.shown]
                                       exact e ▸ stay _ _)
      | bl k =>
        cases ru
        exact PySem.P.repr_of_bool (by have e : PyData.shown (.bool k) = (if k then "True" else "False" : Str) := by simp [PyData.shown]
                                       exact e ▸ stay _ _)
      | int i =>
        obtain ⟨t, rfl⟩ := ru
        have g : i.natAbs.log2 < 1920 := by simpa [PyData.showable] using ok.sh
        exact PySem.P.repr_of_int g (by have e : PyData.shown (.int i) = (toString i : Str) := by simp [PyData.shown]
                                        exact e ▸ stay _ _)
      | str z =>
        obtain ⟨t, rfl⟩ := ru
        have e : PyData.shown (.str z) = reprText z := by simp [PyData.shown]
        exact PySem.P.repr_of_str (by exact e ▸ stay _ _) (e ▸ h2)
      | @lst a ys ds h1 h2' h3 =>
        cases ru
        obtain ⟨us, rv, ⟨o, n, e1, e2, _, e3⟩, _⟩ := I.list (.inl (.inl h2'))
        simp only [PyData.shown] at h2
        obtain ⟨bs, k1, k2⟩ := DnAll.shows I ds h3 rv (by simpa only [PyData.showable] using ok.sh) (fun t ht => Nat.le_trans (listText_mem_le ht) h2)
        have no : a ∉ bs := not_mem_of_deeper rd (by simp only [PyData.depth]; omega) k1
        simp only [PyData.depth] at hdp
        refine call_repr_slot (by omega) ⟨o, e1, e2⟩ F.slot_list_repr.toG ?_
        simp only [PyData.shown] at fin
        cases us with
        | nil =>
          cases rv
          cases h3
          simp only [PyData.shownAll, listText_nil] at fin
          exact call_list_repr_empty ⟨o, e1, e2⟩ e1 e3 ⟨_, _, rfl, fin s.heap _ _ fun _ _ z => z⟩
        | cons x l =>
          exact call_list_reprK e1 e2 e3 no (by simpa using k2.length_eq) (fun i y e => k2.item i y (by simpa using e)) (A := X.A.in1) hg (fun c _ => Clear.nil c) (by show X.A.units + 1 + _ < cLine; omega) (fun _ _ z => z) (fun h' u' tk kp => ⟨_, _, rfl, fin h' tk u' kp⟩) h2
      | @tup a ys ds h1 h2' h3 =>
        cases ru
        obtain ⟨us, rv, ⟨o, e1, e2, n, e3⟩, _⟩ := I.tuple (.inl (.inl h2'))
        simp only [PyData.shown] at h2
        obtain ⟨bs, k1, k2⟩ := DnAll.shows I ds h3 rv (by simpa only [PyData.showable] using ok.sh) (fun t ht => Nat.le_trans (tupleText_mem_le ht) h2)
        have no : a ∉ bs := not_mem_of_deeper rd (by simp only [PyData.depth]; omega) k1
        simp only [PyData.depth] at hdp
        refine call_repr_slot (by omega) ⟨o, e1, e2⟩ F.slot_tuple_repr ?_
        simp only [PyData.shown] at fin
        exact call_tuple_reprK e1 e2 e3 no (by simpa using k2) (A := X.A.in1) hg (fun c _ => Clear.nil c) (by show X.A.units + 1 + _ < cLine; omega) (fun _ _ z => z) (fun h' u' tk kp => ⟨_, _, rfl, fin h' tk u' kp⟩) h2
      | @dct a h1 h2' =>
        cases ru
        obtain ⟨g, o, n, e1, e2, e3⟩ := dk_empty_at I h2'
        simp only [PyData.shown, PyData.shownKv] at h2 fin
        refine call_repr_slot (by omega) ⟨o, e1, e2⟩ F.slot_dict_repr ?_
        exact call_dict_reprK (as := []) (d := 0) (ps := []) e1 e2 e3 g (by simp) .nil (A := X.A.in1) hg (fun c _ => Clear.nil c) (by show X.A.units + 1 + _ < cLine; omega) (fun _ _ z => z) (fun h' u' tk kp => ⟨_, _, rfl, fin h' tk u' kp⟩) h2
end U

namespace U
open PySem PySem.Spec PyProof.Rows L2

/-! ### int, text or list times int -/
def uMul3 : R2 := fun x y H Q => match x, y with
  | .int i, .int j => CMul i j ∧ Q (.int (i * j)) H
  | .str z, .int k => MulOk z k ∧ Q (.str (Txt.mul z k)) H
  | .ref l, .int k => oK (mutL H l) fun xs => -(2 ^ 63) ≤ k ∧ k < 2 ^ 63 ∧ xs.length * k.toNat ≤ sizeLine ∧ ∀ p, H p = none → Q (.ref p) (upd H p (.lst (List.replicate k.toNat xs).flatten))
  | _, _ => False
section
variable {X : Cx}
theorem op_mulS : OpR X (binaryOp .Mult) (fun x y H Q => ∃ z k, x = V.str z ∧ y = .int k ∧ MulOk z k ∧ Q (.str (Txt.mul z k)) H) := fun pins s σ H x y v u Q I rx ry h => by
  obtain ⟨z, k, rfl, rfl, h1, h2⟩ := h
  obtain ⟨t, rfl⟩ := rx
  obtain ⟨t', rfl⟩ := ry
  exact SB.mul h1 fun t2 k2 => ⟨.str _, H, I.tok k2, ⟨_, rfl⟩, h2⟩
theorem ou_mul3 : OpR X (binaryOp .Mult) uMul3 := OpRi (op_mul.or (op_mulS.or op_rep)) fun x y H Q h => by
  unfold uMul3 at h
  split at h
  · exact .inl ⟨_, _, rfl, rfl, h⟩
  · exact .inr (.inl ⟨_, _, rfl, rfl, h⟩)
  · obtain ⟨xs, e, h1, h2, h3, h4⟩ := oK_ex h
    exact .inr (.inr ⟨_, _, xs, rfl, rfl, of_mutL e, h1, h2, h3, h4⟩)
  · exact h.elim
end
/-! ### a tuple or a list is parted -/
def gTs (K : PySem.W.Frag) (n : Nat) (t : TGs) : TG := fun v σ H Q => match v with
  | .ref a => ∃ xs, (SqT K H a xs ∨ SqL K H a xs) ∧ xs.length = n ∧ t xs σ H Q
  | _ => False
theorem pg_ts {X : Cx} {pos : Pos} {es : List Expr} {k : Nat} {t : TGs} {n : Nat} (hc : X.calm = true) (h : PGs X es t)
    (hn : (assignEach es X.env).length = n := by rfl) (hst : (assignEach es X.env).findIdx? (·.1) = none := by rfl) : PG X (.Tuple es k pos) (gTs X.K n t) := ⟨fun pins s σ H v u Q I r hw => by
  cases v with
  | ref a =>
    obtain ⟨xs, h1, h2, h3⟩ := hw
    rcases h1 with h1 | h1
    · exact (pg_tup hc h hn hst).run pins s σ H _ u Q I r ⟨_, _, rfl, h1, h2, h3⟩
    · exact (pg_unl hc h hn hst).run pins s σ H _ u Q I r ⟨_, _, rfl, h1, h2, h3⟩
  | _ => exact hw.elim⟩
theorem ts_t {K : PySem.W.Frag} {H : Hp} {a : Addr} {xs : List V} {n : Nat} {t : TGs} {σ : L2.St} {Q : L2.St → Hp → Prop} (h : H a = some (.tup xs)) (hn : xs.length = n) (k : t xs σ H Q) : gTs K n t (.ref a) σ H Q := ⟨xs, .inl (.inl (.inl h)), hn, k⟩
theorem ts_l {K : PySem.W.Frag} {H : Hp} {a : Addr} {xs : List V} {n : Nat} {t : TGs} {σ : L2.St} {Q : L2.St → Hp → Prop} (h : H a = some (.lst xs)) (hn : xs.length = n) (k : t xs σ H Q) : gTs K n t (.ref a) σ H Q := ⟨xs, .inr (.inl (.inl h)), hn, k⟩
/-- two names -/
theorem ts_two {K : PySem.W.Frag} {H : Hp} {a : Addr} {x y : V} {i j : Nat} {σ : L2.St} {Q : L2.St → Hp → Prop} (h : H a = some (.tup [x, y]) ∨ H a = some (.lst [x, y])) (k : Q ((σ.set i (some x)).set j (some y)) H) :
    gTs K 2 (gCons (gName i) (gCons (gName j) gNil)) (.ref a) σ H Q := by
  rcases h with h | h
  · exact ts_t h rfl ⟨_, _, rfl, _, _, rfl, rfl, k⟩
  · exact ts_l h rfl ⟨_, _, rfl, _, _, rfl, rfl, k⟩
/-! ### x += y -/
def ipu_add : TIp := fun x y H Q => match x, y with
  | .int i, .int j => Q (.int (i + j)) H
  | _, _ => False
theorem ip_uadd {X : Cx} : PIp X .Add ipu_add := fun pins s σ H x y v u Q I r1 r2 h => ip_add pins s σ H x y v u Q I r1 r2 (by
  unfold ipu_add at h
  split at h
  · exact ⟨_, _, rfl, rfl, h⟩
  · exact h.elim)
/-! ### further methods -/
def uExtend : V → List V → Hp → VK → Prop := fun x vs H Q => match x, vs with
  | .ref l, [.ref b] => oK (mutL H l) fun xs => oK (mutL H b) fun zs => xs.length + zs.length ≤ sizeLine ∧ Q .non (upd H l (.lst (xs ++ zs)))
  | _, _ => False
def uFind : V → List V → Hp → VK → Prop := fun x vs H Q => match x, vs with
  | .str a, [.str b] => Q (.int (Txt.find a b)) H
  | _, _ => False
section
variable {X : Cx}
theorem mu_extend : MtR X "list.extend" uExtend := MtRi (r := rExtend) mt_extend fun x xs H Q h => by
  unfold uExtend at h
  split at h
  · obtain ⟨xs, e, h⟩ := oK_ex h
    obtain ⟨zs, e2, h⟩ := oK_ex h
    exact ⟨_, _, _, _, rfl, rfl, of_mutL e, of_mutL e2, h.1, h.2⟩
  · exact h.elim
theorem mu_find : MtR X "str.find" uFind := MtRi mt_find fun x xs H Q h => by
  unfold uFind at h
  split at h
  · exact ⟨_, _, rfl, rfl, h⟩
  · exact h.elim
end
/-! ### while -/
theorem whl {c : TT} {tb : TS} {D : Ends} {σ : L2.St} {H : Hp} (Pv : Nat → L2.St → Hp → Prop) (m : Nat) (h0 : Pv m σ H)
    (hs : ∀ m σ H, Pv m σ H → c σ H fun b H1 => bB b (∃ N : L2.St → Hp → Prop, (∀ σ' H', N σ' H' → ∃ m', m' < m ∧ Pv m' σ' H') ∧ tb { D with nx := N, ct := N, bk := D.nx } σ H1) (D.nx σ H1)) : tWhile c tb D σ H := by
  simp only [bB_if] at hs
  exact ⟨Pv, ⟨m, h0⟩, hs⟩
/-! ### for over enumerate(list) -/
theorem fore {K : PySem.W.Frag} {ta : TA} {g : TG} {tb : TS} {D : Ends} {σ : L2.St} {H H1 : Hp} {a : Addr} {xs : List V} (hx : ∀ R : List V → Hp → Prop, R [.ref a] H1 → ta σ H R) (hG : SqL K H1 a xs) (Pv : Nat → L2.St → Hp → Prop) (h0 : Pv 0 σ H1)
    (hst : ∀ i σ H, i ≤ xs.length → Pv i σ H → SqL K H a xs)
    (hs : ∀ (i : Nat) y σ H T, xs[i]? = some y → Pv i σ H → H T = none → g (.ref T) σ (upd H T (.tup [.int (i : Nat), y])) fun σ2 H2 => tb { D with nx := Pv (i + 1), ct := Pv (i + 1), bk := D.nx } σ2 H2) (hd : ∀ σ H, Pv xs.length σ H → D.nx σ H) :
    tFor (iEnum K ta) g tb D σ H := hx _ ⟨a, xs, rfl, hG, for_it walk_enum Pv h0 hst (fun i v σ H H' hi p q => by
  obtain ⟨T, x, y, rfl, hT, rfl, e1, e2⟩ := q
  cases e1
  exact hs i y σ _ T e2 p hT) hd⟩
/-! ### comprehensions whose items are flat -/
theorem take_fm {α β : Type} {ys : List (Option α)} {i : Nat} {o : Option α} (h : ys[i]? = some o) : (ys.take (i + 1)).filterMap id = (ys.take i).filterMap id ++ o.toList := by
  rw [List.take_add_one, h, List.filterMap_append]
  show _ ++ List.filterMap id [o] = _
  cases o <;> simp
theorem lcy {K : PySem.W.Frag} {x : V} {J : It} {xs : List V} {G : Hp → Prop} (S : Src K x J xs G) {tx : TE} {g : TG} {tt : TT} {te : TE} {vs : List Nat} {σ : L2.St} {H H1 : Hp} {Q : VK} (hx : ∀ R : VK, R x H1 → tx σ H R) (hG : G H1) (hGx : ∀ H', Ex H1 H' → G H') (hz : xs.length < sizeLine)
    (ys : List (Option V)) (hl : ys.length = xs.length)
    (hs : ∀ (i : Nat) y o H' (A : V → Hp → Prop) (B : Hp → Prop), xs[i]? = some y → ys[i]? = some o → Ex H1 H' → (∀ w H2, o = some w → Ex H' H2 → A w H2) → (o = none → ∀ H2, Ex H' H2 → B H2) →
      g y (wipe σ vs) H' fun σ2 H2 => wipe σ2 vs = wipe σ vs ∧ tt σ2 H2 fun b H3 => bB b (te σ2 H3 A) (B H3))
    (hd : ∀ D H, H1 D = none → Ex H1 H → H D = some (.lst (ys.filterMap id)) → Q (.ref D) H) : tLc (uIter K tx) g tt te vs σ H Q := by
  refine lcs S hx hG (fun D i H => H1 D = none ∧ Ex H1 H ∧ H D = some (.lst ((ys.take i).filterMap id))) (fun D hD => ⟨hD, Ex.new hD, by rw [upd_same]; simp⟩) (fun D i H _ p => hGx H p.2.1) ?_ ?_
  · rintro D i y H' hy ⟨hD, e, hl'⟩
    have hi : i < xs.length := (List.getElem?_eq_some_iff.mp hy).1
    obtain ⟨o, ho⟩ : ∃ o, ys[i]? = some o := ⟨ys[i], List.getElem?_eq_getElem (by omega)⟩
    have tm := take_fm (β := Unit) ho
    refine hs i y o H' _ _ hy ho e (fun w H2 hw e2 => ⟨_, e2 D _ hl', ?_, hD, Ex.mut (e.trans e2) hD, ?_⟩) (fun hw H2 e2 => ⟨hD, e.trans e2, ?_⟩)
    · have := List.length_filterMap_le id (ys.take i)
      rw [List.length_take] at this
      omega
    · rw [upd_same, tm, hw]; rfl
    · rw [e2 D _ hl', tm, hw]; simp
  · rintro D H' hD ⟨_, e, hl'⟩
    rw [← hl, List.take_length] at hl'
    exact hd D H' hD e hl'
theorem fm_some {α β : Type} (f : α → β) : ∀ xs : List α, (xs.map fun x => some (f x)).filterMap id = xs.map f
  | [] => rfl
  | x :: xs => by simp [List.filterMap_cons, fm_some f xs]
end U

namespace U
open PySem PySem.Spec PyProof.Rows L2

/-! ### tokens and texts as data -/
abbrev Tk := Str × Str
def tokD (t : Tk) : PyData := .tuple [.str t.1, .str t.2]
def textD (ts : List Tk) : PyData := .list (ts.map tokD)
def markD : PyData → Bool
  | .str z => isMark z
  | _ => false
def wordD : PyData → Bool
  | .str z => isWord z
  | _ => false
def tokenD : PyData → Bool
  | .tuple [x, y] => markD x && wordD y
  | _ => false
def hashD : PyData → Bool
  | .tuple (.str z :: _) => decide ((sl z).head? = some 35)
  | _ => false
def firstD : List PyData → Bool
  | [] => true
  | d :: _ => hashD d
def isTextD : PyData → Bool
  | .list ds => ds.all tokenD && firstD ds
  | .tuple ds => ds.all tokenD && firstD ds
  | _ => false
def GoodT (ts : List Tk) : Prop := (∀ t ∈ ts, isMark t.1 = true ∧ isWord t.2 = true) ∧ ∀ t, ts.head? = some t → (sl t.1).head? = some 35
theorem markD_str {d : PyData} (h : markD d = true) : ∃ z, d = .str z ∧ isMark z = true := by
  cases d <;> first | exact ⟨_, rfl, h⟩ | cases h
theorem wordD_str {d : PyData} (h : wordD d = true) : ∃ z, d = .str z ∧ isWord z = true := by
  cases d <;> first | exact ⟨_, rfl, h⟩ | cases h
theorem tokenD_form {d : PyData} (h : tokenD d = true) : ∃ t : Tk, d = tokD t ∧ isMark t.1 = true ∧ isWord t.2 = true := by
  unfold tokenD at h
  split at h
  · rw [Bool.and_eq_true] at h
    obtain ⟨m, rfl, hm⟩ := markD_str h.1
    obtain ⟨w, rfl, hw⟩ := wordD_str h.2
    exact ⟨(m, w), rfl, hm, hw⟩
  · cases h
theorem toks_form : ∀ {ds : List PyData}, ds.all tokenD = true → ∃ ts : List Tk, ds = ts.map tokD ∧ ∀ t ∈ ts, isMark t.1 = true ∧ isWord t.2 = true
  | [], _ => ⟨[], rfl, fun _ h => by cases h⟩
  | d :: ds, h => by
    rw [List.all_cons, Bool.and_eq_true] at h
    obtain ⟨t, rfl, h1⟩ := tokenD_form h.1
    obtain ⟨ts, rfl, h2⟩ := toks_form h.2
    exact ⟨t :: ts, rfl, fun u hu => by
      rcases List.mem_cons.mp hu with rfl | hu
      · exact h1
      · exact h2 u hu⟩
theorem row_good (ts : List Tk) : ((ts.map tokD).all tokenD && firstD (ts.map tokD)) = true ↔ GoodT ts := by
  rw [Bool.and_eq_true]
  unfold GoodT
  constructor
  · rintro ⟨h1, h2⟩
    refine ⟨fun t ht => ?_, fun t ht => ?_⟩
    · have := List.all_eq_true.mp h1 (tokD t) (List.mem_map_of_mem ht)
      have : (isMark t.1 && isWord t.2) = true := this
      rwa [Bool.and_eq_true] at this
    · cases ts with
      | nil => cases ht
      | cons u us =>
        cases ht
        exact of_decide_eq_true h2
  · rintro ⟨h1, h2⟩
    refine ⟨List.all_eq_true.mpr fun d hd => ?_, ?_⟩
    · obtain ⟨t, ht, rfl⟩ := List.mem_map.mp hd
      show (isMark t.1 && isWord t.2) = true
      rw [Bool.and_eq_true]; exact h1 t ht
    · cases ts with
      | nil => rfl
      | cons u us => exact decide_eq_true (h2 u rfl)
theorem good_list (ts : List Tk) : isTextD (.list (ts.map tokD)) = true ↔ GoodT ts := row_good ts
theorem good_tuple (ts : List Tk) : isTextD (.tuple (ts.map tokD)) = true ↔ GoodT ts := row_good ts
theorem isTextD_form {d : PyData} (h : isTextD d = true) : ∃ ts, (d = .list (ts.map tokD) ∨ d = .tuple (ts.map tokD)) ∧ GoodT ts := by
  cases d with
  | list ds =>
    have h' : (ds.all tokenD && firstD ds) = true := h
    rw [Bool.and_eq_true] at h'
    obtain ⟨ts, rfl, _⟩ := toks_form h'.1
    exact ⟨ts, .inl rfl, (row_good ts).mp h⟩
  | tuple ds =>
    have h' : (ds.all tokenD && firstD ds) = true := h
    rw [Bool.and_eq_true] at h'
    obtain ⟨ts, rfl, _⟩ := toks_form h'.1
    exact ⟨ts, .inr rfl, (row_good ts).mp h⟩
  | _ => cases h
/-! kinds -/
def tyD : PyData → Ty
  | .none => .non | .bool _ => .bl | .int _ => .int | .str _ => .str | .list _ => .lst | .tuple _ => .tup | .dict _ => .dct
theorem Dn.ty {b : Addr} {H : Hp} {v : V} {d : PyData} (h : Dn b H v d) : tyOf H v = some (tyD d) := by
  cases h with
  | lst _ h _ => show (H _).bind tyO = _; rw [h]; rfl
  | tup _ h _ => show (H _).bind tyO = _; rw [h]; rfl
  | dct _ h => show (H _).bind tyO = _; rw [h]; rfl
  | _ => rfl
/-! weights -/
theorem wt_mem : ∀ {ds : List PyData} {d : PyData}, d ∈ ds → d.weight + 1 ≤ PyData.weightAll ds
  | d :: ds, e, h => by
    rw [PyData.weightAll]
    rcases List.mem_cons.mp h with rfl | h
    · omega
    · have := wt_mem h; omega
theorem wt_len : ∀ ds : List PyData, ds.length ≤ PyData.weightAll ds
  | [] => Nat.zero_le _
  | d :: ds => by
    have := wt_len ds
    rw [PyData.weightAll, List.length_cons]; omega
theorem wt_list (ds : List PyData) : (PyData.list ds).weight = PyData.weightAll ds := by rw [PyData.weight]
theorem wt_tup (ds : List PyData) : (PyData.tuple ds).weight = PyData.weightAll ds := by rw [PyData.weight]
theorem wt_str (z : Str) : (PyData.str z).weight = z.length := by rw [PyData.weight]; rfl
theorem wt_tok (t : Tk) : (tokD t).weight = t.1.length + t.2.length + 2 := by
  unfold tokD
  rw [wt_tup, PyData.weightAll, PyData.weightAll, PyData.weightAll, wt_str, wt_str]; omega
/-- a row of tokens in the heap -/
def ToksAt (b : Addr) (H : Hp) (vs : List V) (ts : List Tk) : Prop := DnAll b H vs (ts.map tokD)
theorem dn_tok {b : Addr} {H : Hp} {v : V} {t : Tk} (h : Dn b H v (tokD t)) : ∃ r, v = .ref r ∧ r ≠ b ∧ H r = some (.tup [.str t.1, .str t.2]) := by
  unfold tokD at h
  cases h with
  | @tup a xs _ h1 h2 h3 =>
    cases h3 with
    | cons g1 g2 =>
      cases g1
      cases g2 with
      | cons g3 g4 =>
        cases g3
        cases g4
        exact ⟨a, rfl, h1, h2⟩
theorem tok_dn {b : Addr} {H : Hp} {r : Addr} {t : Tk} (h1 : r ≠ b) (h : H r = some (.tup [.str t.1, .str t.2])) : Dn b H (.ref r) (tokD t) := .tup h1 h (.cons (.str _) (.cons (.str _) .nil))
theorem ToksAt.at {b : Addr} {H : Hp} {vs : List V} {ts : List Tk} (h : ToksAt b H vs ts) {i : Nat} {v : V} (e : vs[i]? = some v) : ∃ t r, ts[i]? = some t ∧ v = .ref r ∧ r ≠ b ∧ H r = some (.tup [.str t.1, .str t.2]) := by
  obtain ⟨d, h1, h2⟩ := DnAll.at h i e
  rw [List.getElem?_map] at h1
  cases e2 : ts[i]? with
  | none => rw [e2] at h1; cases h1
  | some t =>
    rw [e2] at h1; cases h1
    obtain ⟨r, h3, h4, h5⟩ := dn_tok h2
    exact ⟨t, r, rfl, h3, h4, h5⟩
theorem ToksAt.len {b : Addr} {H : Hp} {vs : List V} {ts : List Tk} (h : ToksAt b H vs ts) : vs.length = ts.length := by
  have := DnAll.len h
  rwa [List.length_map] at this
/-- a text lies at p -/
def TextAt (b : Addr) (H : Hp) (p : Addr) (ts : List Tk) : Prop := p ≠ b ∧ ∃ vs, H p = some (.lst vs) ∧ ToksAt b H vs ts
theorem TextAt.dn {b : Addr} {H : Hp} {p : Addr} {ts : List Tk} (h : TextAt b H p ts) : Dn b H (.ref p) (textD ts) := by
  obtain ⟨h1, vs, h2, h3⟩ := h
  exact .lst h1 h2 h3
theorem TextAt.go {b : Addr} {H H' : Hp} {p : Addr} {ts : List Tk} (h : TextAt b H p ts) (f : Fr b H H') : TextAt b H' p ts := by
  obtain ⟨h1, vs, h2, h3⟩ := h
  exact ⟨h1, vs, f _ _ h2 h1, DnAll.go h3 f⟩
theorem ToksAt.go {b : Addr} {H H' : Hp} {vs : List V} {ts : List Tk} (h : ToksAt b H vs ts) (f : Fr b H H') : ToksAt b H' vs ts := DnAll.go h f
theorem ToksAt.ex {b : Addr} {H H' : Hp} {vs : List V} {ts : List Tk} (h : ToksAt b H vs ts) (f : Ex H H') : ToksAt b H' vs ts := DnAll.ex h f
/-- tokens stay where a list is changed -/
theorem ToksAt.set {b : Addr} {H : Hp} {p : Addr} {xs ys : List V} : ∀ {vs : List V} {ts : List Tk}, ToksAt b H vs ts → H p = some (.lst xs) → ToksAt b (upd H p (.lst ys)) vs ts
  | [], [], _, _ => .nil
  | [], t :: ts, h, _ => nomatch h
  | v :: vs, [], h, _ => nomatch h
  | v :: vs, t :: ts, h, hp => by
    cases h with
    | cons h1 h2 =>
      obtain ⟨r, rfl, hr, e⟩ := dn_tok h1
      refine .cons (tok_dn hr ?_) (ToksAt.set (ts := ts) h2 hp)
      rw [upd_ne (ne_of e hp (by intro z; cases z))]
      exact e
theorem ToksAt.snoc {b : Addr} {H : Hp} {vs : List V} {ts : List Tk} {v : V} {t : Tk} (h : ToksAt b H vs ts) (h1 : Dn b H v (tokD t)) : ToksAt b H (vs ++ [v]) (ts ++ [t]) := by
  show DnAll b H (vs ++ [v]) ((ts ++ [t]).map tokD)
  rw [List.map_append]
  exact DnAll.app h (.cons h1 .nil)
/-! cuts -/
theorem cut_mid {α : Type} (l : List α) (i j : Nat) : (l.drop (min i l.length)).take (min j l.length - min i l.length) = (l.drop i).take (j - i) := by
  by_cases h : i ≤ l.length
  · rw [Nat.min_eq_left h, List.take_eq_take_iff, List.length_drop]; omega
  · rw [show min i l.length = l.length by omega, List.drop_length, List.drop_eq_nil_of_le (show l.length ≤ i by omega)]; simp
theorem sl_mid (z : Str) (i j : Nat) : sl (cutS z (some (i : Int)) (some (j : Int))) = ((sl z).drop i).take (j - i) := by
  rw [sl_cut, HT.sIx_nat, HT.sIx_nat]; exact cut_mid (sl z) i j
theorem sl_upto (z : Str) (j : Nat) : sl (cutS z none (some (j : Int))) = (sl z).take j := by
  rw [sl_cut, HT.sIx_nat, HT.sIx_none]
  have := cut_mid (sl z) 0 j
  simp only [Nat.zero_min, List.drop_zero, Nat.sub_zero] at this ⊢
  exact this
theorem sl_from (z : Str) (i : Nat) : sl (cutS z (some (i : Int)) none) = (sl z).drop i := by
  rw [sl_cut, HT.sIx_nat, HT.sIx_none]
  have := cut_mid (sl z) i z.length
  rw [sl_len, Nat.min_self] at this
  rw [sl_len, this]
  by_cases h : i ≤ (sl z).length
  · exact List.take_of_length_le (by rw [List.length_drop]; omega)
  · rw [List.drop_eq_nil_of_le (by omega)]; simp
theorem cutV_upto (xs : List V) (j : Nat) : cutV xs none (some (j : Int)) = xs.take j := by
  unfold cutV
  rw [HT.sIx_nat, HT.sIx_none]
  have := cut_mid xs 0 j
  simp only [Nat.zero_min, List.drop_zero, Nat.sub_zero] at this ⊢
  exact this
theorem cutV_from (xs : List V) (i : Nat) : cutV xs (some (i : Int)) none = xs.drop i := by
  unfold cutV
  rw [HT.sIx_nat, HT.sIx_none]
  have := cut_mid xs i xs.length
  rw [Nat.min_self] at this
  rw [this]
  by_cases h : i ≤ xs.length
  · exact List.take_of_length_le (by rw [List.length_drop]; omega)
  · rw [List.drop_eq_nil_of_le (by omega)]; simp
end U

namespace U
open PySem PySem.Spec PyProof.Rows L2
/-! ### data that can be shown -/
structure Shp (n : Nat) (d : PyData) : Prop where
  sh : d.showable = true
  lv : d.leavesShort 41 = true
  dp : d.depth ≤ n
theorem Shp.okd {n : Nat} {d : PyData} (h : Shp n d) (hn : n ≤ 20) (hw : d.weight ≤ 200000) : Okd d := ⟨h.sh, h.lv, Nat.le_trans h.dp hn, hw⟩
theorem Shp.le {n m : Nat} {d : PyData} (h : Shp n d) (e : n ≤ m) : Shp m d := ⟨h.sh, h.lv, Nat.le_trans h.dp e⟩
theorem Shp.all {n : Nat} : ∀ {ds : List PyData}, (∀ d ∈ ds, Shp n d) → PyData.showableAll ds = true ∧ PyData.leavesShortAll 41 ds = true ∧ PyData.depthAll ds ≤ n
  | [], _ => ⟨by simp only [PyData.showableAll], by simp only [PyData.leavesShortAll], by simp only [PyData.depthAll]; omega⟩
  | d :: ds, h => by
    obtain ⟨h1, h2, h3⟩ := Shp.all fun e he => h e (List.mem_cons_of_mem _ he)
    have h0 := h d List.mem_cons_self
    refine ⟨?_, ?_, ?_⟩
    · simp only [PyData.showableAll, h0.sh, h1, Bool.and_self]
    · simp only [PyData.leavesShortAll, h0.lv, h2, Bool.and_self]
    · simp only [PyData.depthAll]; have := h0.dp; omega
theorem Shp.lst {n : Nat} {ds : List PyData} (h : ∀ d ∈ ds, Shp n d) : Shp (n + 1) (.list ds) := by
  obtain ⟨h1, h2, h3⟩ := Shp.all h
  exact ⟨by simp only [PyData.showable, h1], by simp only [PyData.leavesShort, h2], by simp only [PyData.depth]; omega⟩
theorem Shp.tup {n : Nat} {ds : List PyData} (h : ∀ d ∈ ds, Shp n d) : Shp (n + 1) (.tuple ds) := by
  obtain ⟨h1, h2, h3⟩ := Shp.all h
  exact ⟨by simp only [PyData.showable, h1], by simp only [PyData.leavesShort, h2], by simp only [PyData.depth]; omega⟩
theorem Shp.str {n : Nat} {z : Str} (h : sok z) : Shp n (.str z) := by
  refine ⟨by simp only [PyData.showable], ?_, by simp only [PyData.depth]; omega⟩
  simp only [PyData.leavesShort, List.all_eq_true, decide_eq_true_eq]
  intro c hc
  have := h c hc
  omega
theorem Shp.non {n : Nat} : Shp n .none := ⟨by simp only [PyData.showable], by simp only [PyData.leavesShort], by simp only [PyData.depth]; omega⟩
theorem Shp.bl {n : Nat} (b : Bool) : Shp n (.bool b) := ⟨by simp only [PyData.showable], by simp only [PyData.leavesShort], by simp only [PyData.depth]; omega⟩
theorem Shp.dct {n : Nat} : Shp (n + 1) (.dict []) := ⟨by simp only [PyData.showable, PyData.showableKv], by simp only [PyData.leavesShort, PyData.leavesShortKv], by simp only [PyData.depth, PyData.depthKv]; omega⟩
theorem Shp.int {n : Nat} {i : Int} (h1 : -(10 ^ 40) < i) (h2 : i < 10 ^ 40) : Shp n (.int i) := by
  refine ⟨?_, ?_, by simp only [PyData.depth]; omega⟩
  · simp only [PyData.showable, decide_eq_true_eq]; exact log_small h1 h2
  · simp only [PyData.leavesShort, decide_eq_true_eq]
    have e : PyData.shown (.int i) = Str.ofString (toString i) := by simp [PyData.shown]
    rw [e]; exact len_small h1 h2
theorem wt_int {i : Int} (h1 : -(10 ^ 40) < i) (h2 : i < 10 ^ 40) : (PyData.int i).weight ≤ 2000 := by
  rw [PyData.weight]
  have := log_small h1 h2
  split <;> omega
theorem wt_non : PyData.none.weight = 0 := by rw [PyData.weight]
theorem wt_bl (b : Bool) : (PyData.bool b).weight = 0 := by rw [PyData.weight]
theorem wt_dct : (PyData.dict []).weight = 0 := by rw [PyData.weight, PyData.weightKv]
theorem wt_cons (d : PyData) (ds : List PyData) : PyData.weightAll (d :: ds) = d.weight + 1 + PyData.weightAll ds := by rw [PyData.weightAll]
theorem wt_nil : PyData.weightAll [] = 0 := by rw [PyData.weightAll]
theorem wt_app : ∀ ds es : List PyData, PyData.weightAll (ds ++ es) = PyData.weightAll ds + PyData.weightAll es
  | [], es => by rw [wt_nil]; simp
  | d :: ds, es => by rw [List.cons_append, wt_cons, wt_cons, wt_app ds es]; omega
def SokT (ts : List Tk) : Prop := ∀ t ∈ ts, sok t.1 ∧ sok t.2
theorem Shp.tok {t : Tk} (h : sok t.1 ∧ sok t.2) : Shp 1 (tokD t) := .tup (n := 0) (by
  intro d hd
  simp only [List.mem_cons, List.not_mem_nil, or_false] at hd
  rcases hd with rfl | rfl
  · exact .str h.1
  · exact .str h.2)
theorem Shp.text {ts : List Tk} (h : SokT ts) : Shp 2 (textD ts) := .lst (n := 1) (by
  intro d hd
  obtain ⟨t, ht, rfl⟩ := List.mem_map.mp hd
  exact .tok (h t ht))
theorem Shp.textT {ts : List Tk} (h : SokT ts) : Shp 2 (.tuple (ts.map tokD)) := .tup (n := 1) (by
  intro d hd
  obtain ⟨t, ht, rfl⟩ := List.mem_map.mp hd
  exact .tok (h t ht))
theorem sok_mark {z : Str} (h : isMark z = true) : sok z := by
  intro c hc
  rcases mark_forms h with e | ⟨k, i, e, hk, hi⟩
  · rw [show sl z = [32] from e] at hc; simp at hc; omega
  · rw [show sl z = [k, i] from e] at hc
    simp only [List.mem_cons, List.not_mem_nil, or_false] at hc hk hi
    omega
theorem sok_word {z : Str} (h : isWord z = true) : sok z := by
  intro c hc
  unfold isWord at h
  rw [Bool.and_eq_true] at h
  have := List.all_eq_true.mp h.2 c hc
  unfold letter at this
  simp at this
  omega
theorem mark_len {z : Str} (h : isMark z = true) : z.length ≤ 2 := by
  rw [sl_len]
  rcases mark_forms h with e | ⟨k, i, e, hk, hi⟩
  · rw [show sl z = [32] from e]; decide
  · rw [show sl z = [k, i] from e]; exact Nat.le_refl 2
theorem word_len {z : Str} (h : isWord z = true) : 1 ≤ z.length ∧ z.length ≤ 30 := by
  unfold isWord at h
  simp only [Bool.and_eq_true, decide_eq_true_eq] at h
  exact ⟨h.1.1, h.1.2⟩
theorem GoodT.sok {ts : List Tk} (h : GoodT ts) : SokT ts := fun t ht => ⟨sok_mark (h.1 t ht).1, sok_word (h.1 t ht).2⟩
theorem wt_good : ∀ {ts : List Tk}, (∀ t ∈ ts, isMark t.1 = true ∧ isWord t.2 = true) → PyData.weightAll (ts.map tokD) ≤ 35 * ts.length
  | [], _ => by rw [List.map_nil, wt_nil]; omega
  | t :: ts, h => by
    have ih := wt_good fun u hu => h u (List.mem_cons_of_mem _ hu)
    have h1 := h t List.mem_cons_self
    have := mark_len h1.1
    have := (word_len h1.2).2
    rw [List.map_cons, wt_cons, wt_tok, List.length_cons]; omega
theorem wt_text (ts : List Tk) : (textD ts).weight = PyData.weightAll (ts.map tokD) := by unfold textD; rw [wt_list]
theorem tokD_inj {t u : Tk} (h : tokD t = tokD u) : t = u := by
  unfold tokD at h
  injection h with h
  injection h with h1 h2
  injection h2 with h2 _
  injection h1 with h1
  injection h2 with h2
  exact Prod.ext h1 h2
theorem map_tokD_inj : ∀ {ts us : List Tk}, ts.map tokD = us.map tokD → ts = us
  | [], [], _ => rfl
  | [], _ :: _, h => by cases h
  | _ :: _, [], h => by cases h
  | t :: ts, u :: us, h => by
    rw [List.map_cons, List.map_cons] at h
    injection h with h1 h2
    rw [tokD_inj h1, map_tokD_inj h2]
/-- a row of two -/
theorem Okd.two {tag : Str} {d : PyData} (ht : sok tag) (hl : tag.length ≤ 1000) (h : Shp 5 d) (hw : d.weight ≤ 190000) : Okd (.list [.str tag, d]) := by
  refine Shp.okd (.lst (n := 5) (fun e he => ?_)) (by decide) ?_
  · simp only [List.mem_cons, List.not_mem_nil, or_false] at he
    rcases he with rfl | rfl
    · exact .str ht
    · exact h
  · rw [wt_list, wt_cons, wt_cons, wt_nil, wt_str]; omega
theorem sok_of (s : String) : sok (Str.ofString s) := fun c hc => by
  rw [show sl (Str.ofString s) = s.toList.map Char.toNat from by rw [Str.ofString_eq_toList]] at hc
  obtain ⟨ch, _, rfl⟩ := List.mem_map.mp hc
  have h := ch.valid
  have e : ch.toNat = ch.val.toNat := rfl
  rw [e]
  rcases h with h | h
  · have : ch.val.toNat < 55296 := h
    omega
  · have : ch.val.toNat < 1114112 := h.2
    exact this
end U

namespace U
open PySem PySem.Spec PyProof.Rows L2
/-! ### lines of pages, as lists of signs -/
abbrev TkL := List Nat × List Nat
def toTk (t : TkL) : Tk := (SX.S t.1, SX.S t.2)
def wordL (w : List Nat) : Bool := decide (1 ≤ w.length) && decide (w.length ≤ 30) && w.all letter
theorem isWord_S (w : List Nat) : isWord (SX.S w) = wordL w := by
  unfold isWord wordL
  rw [SX.S_len]
/-- split at a sign -/
def spl (s : Nat) (w l : List Nat) : List (List Nat) := TL.spl [s] 0 w l
theorem spl_nil (s : Nat) (w : List Nat) : spl s w [] = [w] := rfl
theorem spl_cons (s : Nat) (w : List Nat) (c : Nat) (r : List Nat) : spl s w (c :: r) = if c = s then w :: spl s [] r else spl s (w ++ [c]) r := by
  unfold spl
  show (if TL.pre [s] (c :: r) = true then w :: TL.spl [s] 0 [] r else TL.spl [s] 0 (w ++ [c]) r) = _
  have e : TL.pre [s] (c :: r) = decide (c = s) := by
    simp [TL.pre]
    try (constructor <;> intro h <;> omega)
  rw [e]
  simp
theorem split_S (z : Str) (a : String) {s : Nat} (h : (Str.ofString a).cps.toList = [s]) (hs : s < 256) : Txt.split z (Str.ofString a) = (spl s [] (sl z)).map SX.S := by
  have e2 : Str.ofString a = SX.S [s] := toList_inj h
  rw [e2]
  have := SX.split_S (a := sl z) (b := [s]) (by simp) (by simp [hs])
  rw [SX.S_tl z] at this
  exact this
theorem spl_ne (s : Nat) : ∀ (l w : List Nat), spl s w l ≠ []
  | [], w => by rw [spl_nil]; simp
  | c :: r, w => by
    rw [spl_cons]
    split
    · simp
    · exact spl_ne s r _
theorem spl_last (s : Nat) : ∀ (l w : List Nat), (spl s w l).getLast? = some [] ↔ (l = [] ∧ w = []) ∨ l.getLast? = some s
  | [], w => by rw [spl_nil]; simp
  | c :: r, w => by
    rw [spl_cons]
    by_cases hc : c = s
    · rw [if_pos hc]
      have ih := spl_last s r []
      have hn := spl_ne s r []
      have e : (w :: spl s [] r).getLast? = (spl s [] r).getLast? := by
        cases h : spl s [] r with
        | nil => exact absurd h hn
        | cons x xs => simp [List.getLast?_cons]
      rw [e, ih]
      cases r with
      | nil => simp [hc]
      | cons d r => simp [List.getLast?_cons]
    · rw [if_neg hc]
      have ih := spl_last s r (w ++ [c])
      rw [ih]
      cases r with
      | nil => simp; exact fun h => hc h
      | cons d r => simp [List.getLast?_cons]
theorem spl_size (s : Nat) : ∀ (l w : List Nat), ((spl s w l).map (·.length)).sum + (spl s w l).length = l.length + w.length + 1
  | [], w => by rw [spl_nil]; simp
  | c :: r, w => by
    rw [spl_cons]
    split
    · have := spl_size s r []
      simp at this ⊢; omega
    · have := spl_size s r (w ++ [c])
      simp at this ⊢; omega
theorem mem_sum : ∀ {ps : List (List Nat)} {p : List Nat}, p ∈ ps → p.length ≤ (ps.map (·.length)).sum
  | q :: ps, p, h => by
    rw [List.map_cons, List.sum_cons]
    rcases List.mem_cons.mp h with rfl | h
    · omega
    · have := mem_sum h; omega
theorem spl_mem {s : Nat} {l p : List Nat} (h : p ∈ spl s [] l) : p.length ≤ l.length := by
  have h1 := spl_size s l []
  have h2 := mem_sum h
  have h3 : 0 < (spl s [] l).length := List.length_pos_of_mem h
  simp at h1; omega
theorem spl_sub (s : Nat) {P : Nat → Prop} : ∀ (l w : List Nat), (∀ c ∈ l, P c) → (∀ c ∈ w, P c) → ∀ p ∈ spl s w l, ∀ c ∈ p, P c
  | [], w, _, h2 => by rw [spl_nil]; intro p hp; have : p = w := by simpa using hp
                       subst this; exact h2
  | c :: r, w, h1, h2 => by
    have h1' : ∀ d ∈ r, P d := fun d hd => h1 d (List.mem_cons_of_mem _ hd)
    rw [spl_cons]
    split
    · intro p hp
      rcases List.mem_cons.mp hp with rfl | hp
      · exact h2
      · exact spl_sub s r [] h1' (fun _ h => by cases h) p hp
    · refine spl_sub s r _ h1' (fun d hd => ?_)
      rcases List.mem_append.mp hd with hd | hd
      · exact h2 d hd
      · have : d = c := by simpa using hd
        subst this; exact h1 d List.mem_cons_self
/-- the parts of a line -/
def blanks (row : List Nat) : Nat := (row.takeWhile (fun c => decide (c = 32))).length
def prt (row : List Nat) : List (List Nat) := spl 32 [] (row.drop (blanks row))
def fol (row : List Nat) : Bool := decide (1 < (prt row).length) && decide ((prt row).getLast? = some [])
def wds (row : List Nat) : List (List Nat) := if fol row = true then (prt row).dropLast else prt row
def okl (row : List Nat) : Bool := decide (blanks row ≤ 3) && (wds row).all wordL
theorem take_blanks : ∀ row : List Nat, row.takeWhile (fun c => decide (c = 32)) = List.replicate (blanks row) 32
  | [] => rfl
  | c :: r => by
    unfold blanks
    rw [List.takeWhile_cons]
    by_cases h : c = 32
    · have ih := take_blanks r
      unfold blanks at ih
      rw [decide_eq_true h]
      show c :: List.takeWhile _ r = List.replicate (c :: List.takeWhile _ r).length 32
      rw [List.length_cons, List.replicate_succ, ← ih, h]
    · rw [decide_eq_false h]; rfl
theorem row_cut (row : List Nat) : row = List.replicate (blanks row) 32 ++ row.drop (blanks row) := by
  rw [← take_blanks]
  conv => lhs; rw [← List.takeWhile_append_dropWhile (p := fun c => decide (c = 32)) (l := row)]
  congr 1
  unfold blanks
  conv => rhs; rw [← List.takeWhile_append_dropWhile (p := fun c => decide (c = 32)) (l := row)]
  rw [List.takeWhile_append_dropWhile]
  have := List.drop_left (l₁ := row.takeWhile (fun c => decide (c = 32))) (l₂ := row.dropWhile (fun c => decide (c = 32)))
  rw [List.takeWhile_append_dropWhile] at this
  exact this.symm
theorem blanks_le (row : List Nat) : blanks row ≤ row.length := by
  unfold blanks
  exact (List.takeWhile_sublist _).length_le
/-- a line that is right ends with a blank just where a soft break follows -/
theorem fol_last {row : List Nat} (h : okl row = true) : fol row = true ↔ row.getLast? = some 32 := by
  unfold okl at h
  rw [Bool.and_eq_true] at h
  have hw := h.2
  have hl := spl_last 32 (row.drop (blanks row)) []
  have hne : row.drop (blanks row) ≠ [] := fun e => by
    have ep : prt row = [[]] := by unfold prt; rw [e, spl_nil]
    have ef : fol row = false := by unfold fol; rw [ep]; rfl
    unfold wds at hw
    rw [ef, ep] at hw
    revert hw; decide
  have e1 : row.getLast? = (row.drop (blanks row)).getLast? := by
    conv => lhs; rw [row_cut row]
    rw [List.getLast?_append]
    cases hh : (row.drop (blanks row)).getLast? with
    | none => exact absurd (List.getLast?_eq_none_iff.mp hh) hne
    | some c => rfl
  rw [e1]
  constructor
  · intro hf
    unfold fol at hf
    rw [Bool.and_eq_true, decide_eq_true_eq, decide_eq_true_eq] at hf
    rcases hl.mp hf.2 with ⟨e, _⟩ | e
    · exact absurd e hne
    · exact e
  · intro hb
    have h2 := hl.mpr (.inr hb)
    unfold fol
    rw [Bool.and_eq_true, decide_eq_true_eq, decide_eq_true_eq]
    refine ⟨?_, h2⟩
    rcases Nat.lt_or_ge 1 (prt row).length with h3 | h3
    · exact h3
    · exfalso
      have h4 : fol row = false := by unfold fol; rw [decide_eq_false (by omega)]; rfl
      unfold wds at hw
      rw [h4] at hw
      have hp : (prt row).getLast? = some [] := h2
      have := List.all_eq_true.mp hw [] (List.mem_of_getLast? hp)
      revert this; decide
/-! rows of lines -/
def aheadR (rows : List (List Nat)) (i : Nat) : List Nat := if 0 < i then rows.getD (i - 1) [] else []
def behindR (rows : List (List Nat)) (i : Nat) : List Nat := if i + 1 < rows.length then rows.getD (i + 1) [] else []
def rightR (rows : List (List Nat)) (i : Nat) : Bool :=
  if rows.getD i [] = [] then !decide (aheadR rows i = []) && !decide (behindR rows i = [])
  else okl (rows.getD i []) && (!fol (rows.getD i []) || !decide (behindR rows i = []))
def kindR (rows : List (List Nat)) (i : Nat) : Nat := if 0 < i ∧ rows.getD (i - 1) [] ≠ [] then (if (rows.getD (i - 1) []).getLast? = some 32 then 47 else 124) else 35
def rowT (k : Nat) (row : List Nat) : List TkL := if row = [] then [] else match wds row with
  | [] => []
  | w :: r => ([k, 48 + blanks row], w) :: r.map fun v => ([32], v)
def textR (rows : List (List Nat)) : Nat → List TkL
  | 0 => []
  | i + 1 => textR rows i ++ rowT (kindR rows i) (rows.getD i [])
theorem kind_next {rows : List (List Nat)} {i : Nat} (h : rightR rows i = true) : kindR rows (i + 1) = if rows.getD i [] = [] then 35 else if fol (rows.getD i []) = true then 47 else 124 := by
  unfold kindR
  rw [Nat.add_sub_cancel]
  by_cases h1 : rows.getD i [] = []
  · rw [if_pos h1, if_neg (fun z => z.2 h1)]
  · rw [if_neg h1, if_pos ⟨by omega, h1⟩]
    unfold rightR at h
    rw [if_neg h1, Bool.and_eq_true] at h
    have := fol_last h.1
    by_cases hf : fol (rows.getD i []) = true
    · rw [if_pos hf, if_pos (this.mp hf)]
    · rw [if_neg hf, if_neg (fun z => hf (this.mpr z))]
theorem wds_ne {row : List Nat} : wds row ≠ [] := by
  unfold wds
  split
  · rename_i h
    unfold fol at h
    rw [Bool.and_eq_true, decide_eq_true_eq] at h
    intro e
    have := congrArg List.length e
    rw [List.length_dropLast] at this
    simp at this; omega
  · exact spl_ne 32 _ _
theorem wds_len (row : List Nat) : (wds row).length ≤ row.length + 1 := by
  have h := spl_size 32 (row.drop (blanks row)) []
  have h1 : (wds row).length ≤ (prt row).length := by
    unfold wds
    split
    · rw [List.length_dropLast]; omega
    · exact Nat.le_refl _
  have h2 : (prt row).length ≤ (row.drop (blanks row)).length + 1 := by unfold prt; simp at h ⊢; omega
  rw [List.length_drop] at h2
  omega
theorem wds_mem {row w : List Nat} (h : w ∈ wds row) : w ∈ prt row := by
  unfold wds at h
  split at h
  · exact List.dropLast_subset _ h
  · exact h
theorem rowT_len (k : Nat) (row : List Nat) : (rowT k row).length ≤ row.length + 1 := by
  unfold rowT
  split
  · simp
  · have := wds_len row
    split
    · simp
    · rename_i w r e
      rw [e] at this
      simp at this ⊢; omega
def tot (rows : List (List Nat)) (i : Nat) : Nat := ((rows.take i).map (fun r => r.length + 1)).sum
theorem tot_succ (rows : List (List Nat)) (i : Nat) (h : i < rows.length) : tot rows (i + 1) = tot rows i + ((rows.getD i []).length + 1) := by
  unfold tot
  rw [List.take_add_one, List.getElem?_eq_getElem h, List.map_append, List.sum_append, List.getD_eq_getElem?_getD, List.getElem?_eq_getElem h]
  simp
theorem textR_len (rows : List (List Nat)) : ∀ i, i ≤ rows.length → (textR rows i).length ≤ tot rows i
  | 0, _ => by simp [textR]
  | i + 1, h => by
    have ih := textR_len rows i (by omega)
    have h2 := rowT_len (kindR rows i) (rows.getD i [])
    rw [textR, List.length_append, tot_succ rows i (by omega)]; omega
theorem tot_spl (l : List Nat) : tot (spl 10 [] l) (spl 10 [] l).length = l.length + 1 := by
  have h := spl_size 10 l []
  unfold tot
  rw [List.take_length]
  have e : ∀ ps : List (List Nat), (ps.map fun r => r.length + 1).sum = (ps.map (·.length)).sum + ps.length := by
    intro ps
    induction ps with
    | nil => rfl
    | cons p ps ih => rw [List.map_cons, List.sum_cons, ih, List.map_cons, List.sum_cons, List.length_cons]; omega
  rw [e]; simp at h ⊢; omega
/-- the tokens of lines that are right are tokens -/
theorem kindR_in (rows : List (List Nat)) (i : Nat) : kindR rows i = 35 ∨ kindR rows i = 124 ∨ kindR rows i = 47 := by
  unfold kindR; split
  · split <;> simp
  · simp
theorem rowT_ok {k : Nat} {row : List Nat} (hk : k = 35 ∨ k = 124 ∨ k = 47) (h : row ≠ [] → okl row = true) : ∀ t ∈ rowT k row, isMarkL t.1 = true ∧ wordL t.2 = true := by
  unfold rowT
  split
  · intro t ht; cases ht
  · rename_i hr
    have h := h hr
    unfold okl at h
    rw [Bool.and_eq_true, decide_eq_true_eq] at h
    split
    · intro t ht; cases ht
    · rename_i w r e
      rw [e, List.all_cons, Bool.and_eq_true] at h
      intro t ht
      rcases List.mem_cons.mp ht with rfl | ht
      · refine ⟨?_, h.2.1⟩
        show ((decide (k = 35) || decide (k = 124) || decide (k = 47)) && (decide (48 ≤ 48 + blanks row) && decide (48 + blanks row ≤ 51))) = true
        rw [decide_eq_true (show 48 ≤ 48 + blanks row by omega), decide_eq_true (show 48 + blanks row ≤ 51 by omega)]
        rcases hk with rfl | rfl | rfl <;> rfl
      · obtain ⟨v, hv, rfl⟩ := List.mem_map.mp ht
        exact ⟨rfl, List.all_eq_true.mp h.2.2 v hv⟩
theorem textR_ok {rows : List (List Nat)} : ∀ i, (∀ j < i, rightR rows j = true) → ∀ t ∈ textR rows i, isMarkL t.1 = true ∧ wordL t.2 = true
  | 0, _ => fun t ht => by cases ht
  | i + 1, h => by
    have ih := textR_ok i fun j hj => h j (by omega)
    intro t ht
    rw [textR] at ht
    rcases List.mem_append.mp ht with ht | ht
    · exact ih t ht
    · refine rowT_ok (kindR_in rows i) (fun hr => ?_) t ht
      have := h i (by omega)
      unfold rightR at this
      rw [if_neg hr, Bool.and_eq_true] at this
      exact this.1
end U

namespace Lw
open PySem PySem.Spec PyProof.Rows L2 U
def topS (i : Nat) : Stmt := PySem.Challenge.pw_reflows_k14_pages_refused.main.body.getD i (.Pass ⟨0, 0, 0, 0⟩)
abbrev s_is_word : Stmt := topS 7
abbrev N_is_word : List Str := ["value", "sign"]
abbrev P_is_word : List Str := ["value"]
theorem sc_is_word : FnScope N_is_word P_is_word (defScope s_is_word) := ⟨rfl, rfl, rfl, by decide +kernel, rfl, by decide +kernel, by decide +kernel⟩
abbrev s_split_line : Stmt := topS 9
abbrev N_split_line : List Str := ["row", "indent", "words", "followed", "word"]
abbrev P_split_line : List Str := ["row"]
theorem sc_split_line : FnScope N_split_line P_split_line (defScope s_split_line) := ⟨rfl, rfl, rfl, by decide +kernel, rfl, by decide +kernel, by decide +kernel⟩
abbrev s_is_right : Stmt := topS 10
abbrev N_is_right : List Str := ["rows", "index", "ahead", "behind", "parts"]
abbrev P_is_right : List Str := ["rows", "index"]
theorem sc_is_right : FnScope N_is_right P_is_right (defScope s_is_right) := ⟨rfl, rfl, rfl, by decide +kernel, rfl, by decide +kernel, by decide +kernel⟩
abbrev s_read_page : Stmt := topS 11
abbrev N_read_page : List Str := ["page", "rows", "text", "kind", "index", "row", "indent", "words", "followed", "word"]
abbrev P_read_page : List Str := ["page"]
theorem sc_read_page : FnScope N_read_page P_read_page (defScope s_read_page) := ⟨rfl, rfl, rfl, by decide +kernel, rfl, by decide +kernel, by decide +kernel⟩
abbrev s__law_cell : Stmt := topS 13
abbrev N__law_cell : List Str := ["_law_script", "_law_k"]
abbrev P__law_cell : List Str := ["_law_script", "_law_k"]
theorem sc__law_cell : FnScope N__law_cell P__law_cell (defScope s__law_cell) := ⟨rfl, rfl, rfl, by decide +kernel, rfl, by decide +kernel, by decide +kernel⟩
abbrev s__law_purse : Stmt := topS 14
abbrev N__law_purse : List Str := ["_law_cell_here"]
abbrev P__law_purse : List Str := ["_law_cell_here"]
theorem sc__law_purse : FnScope N__law_purse P__law_purse (defScope s__law_purse) := ⟨rfl, rfl, rfl, by decide +kernel, rfl, by decide +kernel, by decide +kernel⟩
abbrev s__law_take : Stmt := topS 15
abbrev N__law_take : List Str := ["_law_purse_here", "_law_many", "_law_digit", "_law_number"]
abbrev P__law_take : List Str := ["_law_purse_here", "_law_many"]
theorem sc__law_take : FnScope N__law_take P__law_take (defScope s__law_take) := ⟨rfl, rfl, rfl, by decide +kernel, rfl, by decide +kernel, by decide +kernel⟩
abbrev s__law_mark : Stmt := topS 17
abbrev N__law_mark : List Str := ["_law_purse_here"]
abbrev P__law_mark : List Str := ["_law_purse_here"]
theorem sc__law_mark : FnScope N__law_mark P__law_mark (defScope s__law_mark) := ⟨rfl, rfl, rfl, by decide +kernel, rfl, by decide +kernel, by decide +kernel⟩
abbrev s__law_word : Stmt := topS 18
abbrev N__law_word : List Str := ["_law_purse_here", "_law_most", "_law_letters", "_law_k"]
abbrev P__law_word : List Str := ["_law_purse_here", "_law_most"]
theorem sc__law_word : FnScope N__law_word P__law_word (defScope s__law_word) := ⟨rfl, rfl, rfl, by decide +kernel, rfl, by decide +kernel, by decide +kernel⟩
abbrev s__law_text : Stmt := topS 19
abbrev N__law_text : List Str := ["_law_purse_here", "_law_many", "_law_most", "_law_text_here", "_law_k", "_law_mark_here"]
abbrev P__law_text : List Str := ["_law_purse_here", "_law_many", "_law_most"]
theorem sc__law_text : FnScope N__law_text P__law_text (defScope s__law_text) := ⟨rfl, rfl, rfl, by decide +kernel, rfl, by decide +kernel, by decide +kernel⟩
abbrev s__law_page : Stmt := topS 20
abbrev N__law_page : List Str := ["_law_text_here", "_law_shown", "_law_k", "_law_mark_here", "_law_word_here", "_law_between"]
abbrev P__law_page : List Str := ["_law_text_here"]
theorem sc__law_page : FnScope N__law_page P__law_page (defScope s__law_page) := ⟨rfl, rfl, rfl, by decide +kernel, rfl, by decide +kernel, by decide +kernel⟩
abbrev s__law_parts : Stmt := topS 21
abbrev N__law_parts : List Str := ["_law_row", "_law_indent", "_law_parts_here", "_law_last", "_law_words", "_law_word_here", "_law_sign"]
abbrev P__law_parts : List Str := ["_law_row"]
theorem sc__law_parts : FnScope N__law_parts P__law_parts (defScope s__law_parts) := ⟨rfl, rfl, rfl, by decide +kernel, rfl, by decide +kernel, by decide +kernel⟩
abbrev s__law_read : Stmt := topS 22
abbrev N__law_read : List Str := ["_law_shown", "_law_rows", "_law_text_here", "_law_k", "_law_row", "_law_behind", "_law_parts_here", "_law_kind", "_law_word_here"]
abbrev P__law_read : List Str := ["_law_shown"]
theorem sc__law_read : FnScope N__law_read P__law_read (defScope s__law_read) := ⟨rfl, rfl, rfl, by decide +kernel, rfl, by decide +kernel, by decide +kernel⟩
abbrev s__law_changed : Stmt := topS 23
abbrev N__law_changed : List Str := ["_law_purse_here", "_law_shown", "_law_at", "_law_way", "_law_sign", "_law_rows", "_law_k"]
abbrev P__law_changed : List Str := ["_law_purse_here", "_law_shown"]
theorem sc__law_changed : FnScope N__law_changed P__law_changed (defScope s__law_changed) := ⟨rfl, rfl, rfl, by decide +kernel, rfl, by decide +kernel, by decide +kernel⟩
abbrev s__law_told : Stmt := topS 24
abbrev N__law_told : List Str := ["_law_shown", "_law_found", "e"]
abbrev P__law_told : List Str := ["_law_shown"]
theorem sc__law_told : FnScope N__law_told P__law_told (defScope s__law_told) := ⟨rfl, rfl, rfl, by decide +kernel, rfl, by decide +kernel, by decide +kernel⟩
abbrev s__law_right : Stmt := topS 25
abbrev N__law_right : List Str := ["_law_purse_here", "_law_shown", "_law_turn", "_law_odd"]
abbrev P__law_right : List Str := ["_law_purse_here"]
theorem sc__law_right : FnScope N__law_right P__law_right (defScope s__law_right) := ⟨rfl, rfl, rfl, by decide +kernel, rfl, by decide +kernel, by decide +kernel⟩
abbrev s_law : Stmt := topS 26
abbrev N_law : List Str := ["_law_script", "_law_k"]
abbrev P_law : List Str := ["_law_script"]
theorem sc_law : FnScope N_law P_law (defScope s_law) := ⟨rfl, rfl, rfl, by decide +kernel, rfl, by decide +kernel, by decide +kernel⟩
abbrev sI_InvalidPage : Stmt := inClass (topS 2) 0
theorem scI_InvalidPage : FnScope ["self", "line"] ["self", "line"] (defScope sI_InvalidPage) := ⟨rfl, rfl, rfl, by decide +kernel, rfl, by decide +kernel, by decide +kernel⟩
def cText : Nat := 0
/-! ### promises of what the laws about texts share -/
def sp_is_word (K : PySem.W.Frag) (ca : Nat → Addr) : Sp := fun vs H Q _ => ∃ b v d, vs = [v] ∧ Dn b H v d ∧ d.weight ≤ 200000 ∧ ∀ H', Ex H H' → Q (.bl (wordD d)) H'
def sp__law_cell (K : PySem.W.Frag) (ca : Nat → Addr) : Sp := fun vs H Q _ => ∃ (a : Addr) (ns : List Int) (k : Int), vs = [.ref a, .int k] ∧ ScriptAt K H a ns ∧ 0 ≤ k ∧ k ≤ 1000 ∧ ∀ n, Q (.int n) H
def sp__law_purse (K : PySem.W.Frag) (ca : Nat → Addr) : Sp := fun vs H Q _ => ∃ c, vs = [.int c] ∧ ∀ p H', H p = none → Ex H H' → BoxAt H' p 0 → Q (.ref p) H'
def sp__law_take (K : PySem.W.Frag) (ca : Nat → Addr) : Sp := fun vs H Q _ => ∃ b m n, vs = [.ref b, .int m] ∧ BoxAt H b n ∧ n ≤ 1000000 ∧ 0 < m ∧ m ≤ 100000000 ∧ ∀ r H', 0 ≤ r → r < m → BoxAt H' b (n + 1) → Fr b H H' → Q (.int r) H'
def allMarks : List Str := [" ", "#0", "#1", "#2", "#3", "|0", "|1", "|2", "|3", "/0", "/1", "/2", "/3"]
def sp__law_mark (K : PySem.W.Frag) (ca : Nat → Addr) : Sp := fun vs H Q _ => ∃ b n, vs = [.ref b] ∧ BoxAt H b n ∧ n ≤ 900000 ∧ ∀ z H', isMark z = true → BoxAt H' b (n + 3) → Fr b H H' → Q (.str z) H'
def sp__law_word (K : PySem.W.Frag) (ca : Nat → Addr) : Sp := fun vs H Q _ => ∃ b m n, vs = [.ref b, .int m] ∧ BoxAt H b n ∧ n ≤ 900000 ∧ 0 < m ∧ m ≤ 30 ∧ ∀ z H', isWord z = true → (z.length : Int) ≤ m → BoxAt H' b (n + 31) → Fr b H H' → Q (.str z) H'
def sp__law_text (K : PySem.W.Frag) (ca : Nat → Addr) : Sp := fun vs H Q _ => ∃ b k m n, vs = [.ref b, .int k, .int m] ∧ BoxAt H b n ∧ n ≤ 800000 ∧ 0 ≤ k ∧ k ≤ 1000 ∧ 0 < m ∧ m ≤ 30 ∧
  ∀ p ts H', H p = none → GoodT ts → (ts.length : Int) = k → TextAt b H' p ts → BoxAt H' b (n + 40 * k.toNat) → Fr b H H' → Q (.ref p) H'
def rowsV (rows : List (List Nat)) : List V := rows.map fun r => V.str (SX.S r)
def RsL (ca : Nat → Addr) (i : Nat) (v : V) (H : Hp) (E : XK) : Prop := ∀ d, H d = none → E (.ref (ca i)) (some d) (upd H d (.xd [("line", v)]))
def sp_split_line (K : PySem.W.Frag) (ca : Nat → Addr) : Sp := fun vs H Q _ => ∃ z, vs = [.str z] ∧ z.length ≤ 20000 ∧ (okl (sl z) = false → ∀ H', Ex H H' → Q .non H') ∧
  (okl (sl z) = true → ∀ t w H', Ex H H' → H' t = some (.tup [.int (blanks (sl z) : Nat), .ref w, .bl (fol (sl z))]) → H' w = some (.lst (rowsV (wds (sl z)))) → Q (.ref t) H')
def sp__law_parts (K : PySem.W.Frag) (ca : Nat → Addr) : Sp := fun vs H Q _ => ∃ z, vs = [.str z] ∧ z.length ≤ 20000 ∧ sok z ∧ (okl (sl z) = false → ∀ H', Ex H H' → Q .non H') ∧
  (okl (sl z) = true → ∀ t w H', Ex H H' → H' t = some (.lst [.int (blanks (sl z) : Nat), .ref w, .bl (fol (sl z))]) → H' w = some (.lst (rowsV (wds (sl z)))) → Q (.ref t) H')
def RowsOk (rows : List (List Nat)) : Prop := rows.length ≤ 20000 ∧ ∀ r ∈ rows, r.length ≤ 20000 ∧ ∀ c ∈ r, c < 1114112
def sp_is_right (K : PySem.W.Frag) (ca : Nat → Addr) : Sp := fun vs H Q _ => ∃ a rows i, vs = [.ref a, .int (i : Nat)] ∧ H a = some (.lst (rowsV rows)) ∧ RowsOk rows ∧ i < rows.length ∧ ∀ H', Ex H H' → Q (.bl (rightR rows i)) H'
/-- the rows of a page -/
def rowsOf (z : Str) : List (List Nat) := if sl z = [] then [] else spl 10 [] (sl z)
def sp_read_page (K : PySem.W.Frag) (ca : Nat → Addr) : Sp := fun vs H Q E => ∃ b v d, vs = [v] ∧ Dn b H v d ∧ (∃ o, H b = some o) ∧ ((∀ z, d ≠ .str z) → RsL ca 1 (.int 0) H E) ∧ ∀ z, d = .str z → z.length ≤ 5000 ∧ sok z ∧
  (∀ i, i < (rowsOf z).length → rightR (rowsOf z) i = false → (∀ j, j < i → rightR (rowsOf z) j = true) → ∀ H', Ex H H' → RsL ca 1 (.int (i : Nat)) H' E) ∧
  ((∀ j, j < (rowsOf z).length → rightR (rowsOf z) j = true) → ∀ p H', H p = none → Ex H H' → TextAt b H' p ((textR (rowsOf z) (rowsOf z).length).map toTk) → Q (.ref p) H')
/-- what is told of a page -/
inductive Told : PyData → Str → PyData → Prop
  | odd {d : PyData} : (∀ z, d ≠ .str z) → Told d "page" (.int 0)
  | bad {z : Str} {i : Nat} : i < (rowsOf z).length → rightR (rowsOf z) i = false → (∀ j, j < i → rightR (rowsOf z) j = true) → Told (.str z) "page" (.int (i : Nat))
  | good {z : Str} : (∀ j, j < (rowsOf z).length → rightR (rowsOf z) j = true) → Told (.str z) "text" (textD ((textR (rowsOf z) (rowsOf z).length).map toTk))
def sp__law_told (K : PySem.W.Frag) (ca : Nat → Addr) : Sp := fun vs H Q _ => ∃ b v d, vs = [v] ∧ Dn b H v d ∧ (∃ o, H b = some o) ∧ (∀ z, d = .str z → z.length ≤ 5000 ∧ sok z) ∧
  ∀ p tag w e H', H p = none → Ex H H' → H' p = some (.lst [.str tag, w]) → Told d tag e → Dn b H' w e → Q (.ref p) H'
def sp__law_read (K : PySem.W.Frag) (ca : Nat → Addr) : Sp := fun vs H Q _ => ∃ b z, vs = [.str z] ∧ (∃ o, H b = some o) ∧ z.length ≤ 5000 ∧ sok z ∧
  ∀ p tag w e H', H p = none → Ex H H' → H' p = some (.lst [.str tag, w]) → Told (.str z) tag e → Dn b H' w e → Q (.ref p) H'
def sp__law_page (K : PySem.W.Frag) (ca : Nat → Addr) : Sp := fun vs H Q _ => ∃ b p ts, vs = [.ref p] ∧ TextAt b H p ts ∧ GoodT ts ∧ ts.length ≤ 20 ∧ ∀ z H', Ex H H' → z.length ≤ 40 * ts.length → sok z → Q (.str z) H'
def sp__law_changed (K : PySem.W.Frag) (ca : Nat → Addr) : Sp := fun vs H Q _ => ∃ b n z, vs = [.ref b, .str z] ∧ BoxAt H b n ∧ n ≤ 900000 ∧ z.length ≤ 5000 ∧ sok z ∧ ∀ z' H', BoxAt H' b (n + 4) → Fr b H H' → z'.length ≤ 2 * z.length + 40 → sok z' → Q (.str z') H'
def sp__law_right (K : PySem.W.Frag) (ca : Nat → Addr) : Sp := fun vs H Q _ => ∃ b, vs = [.ref b] ∧ BoxAt H b 0 ∧ ∀ H', Fr b H H' → Q (.bl true) H'
def sp_law (K : PySem.W.Frag) (ca : Nat → Addr) : Sp := fun vs H Q _ => ∃ (a : Addr) (ns : List Int), vs = [.ref a] ∧ ScriptAt K H a ns ∧ ns.length ≤ 63 ∧ ∀ H', Q (.bl true) H'
def t_is_word (K : PySem.W.Frag) (ca : Nat → Addr) : TS := tSeq (uIfS (uOr (uNot (uT (uIsi .str (uVar 0)))) (uNot (uT (uChain uLe uLe (tC (.int 1)) (tCB (uLen K) (tCons (uVar 0) (tNil))) (tC (.int 30)))))) (tRet (tC (.bl false))) (tNext)) (tRet (tCB (uAll K) (tCons (tLc (uIter K (uVar 0)) (gName 1) (tYes) (tOp (uIn K false) (uVar 1) (tC (.str "abcdefghijklmnopqrstuvwxyz"))) [1]) (tNil))))
def t_split_line (K : PySem.W.Frag) (ca : Nat → Addr) : TS := tSeq (tAsg (tC (.int 0)) (gName 1)) (tSeq (tWhile (uAnd (uT (tOp uLt (uVar 1) (tCB (uLen K) (tCons (uVar 0) (tNil))))) (uT (tOp (uEq2 K) (tOp (uIx K) (uVar 0) (uVar 1)) (tC (.str " "))))) (tAug 1 (tC (.int 1)) ipu_add)) (tSeq (tAsg (tM1 uSplit (L2.tSl (uSl K) (uVar 0) (uPart (uVar 1)) (tNoPart)) (tC (.str " "))) (gName 2)) (tSeq (tAsg (uAndV (tOp uGt (tCB (uLen K) (tCons (uVar 2) (tNil))) (tC (.int 1))) (tOp (uEq2 K) (tOp (uIx K) (uVar 2) (tUn uNeg (tC (.int 1)))) (tC (.str "")))) (gName 3)) (tSeq (uIfS (uT (uVar 3)) (tAsg (L2.tSl (uSl K) (uVar 2) (tNoPart) (uPart (tUn uNeg (tC (.int 1))))) (gName 2)) (tNext)) (tSeq (uIfS (uOr (uT (tOp uGt (uVar 1) (tC (.int 3)))) (uNot (uT (tCB (uAll K) (tCons (tLc (uIter K (uVar 2)) (gName 4) (tYes) (tCall (sp_is_word K ca) [] E0 (tCons (uVar 4) (tNil))) [4]) (tNil)))))) (tRet (tC .non)) (tNext)) (tRet (tTup (tCons (uVar 1) (tCons (uVar 2) (tCons (uVar 3) (tNil)))))))))))
def t_is_right (K : PySem.W.Frag) (ca : Nat → Addr) : TS := tSeq (tAsg (uIf (uT (tOp uGt (uVar 1) (tC (.int 0)))) (tOp (uIx K) (uVar 0) (tOp uSub (uVar 1) (tC (.int 1)))) (tC (.str ""))) (gName 2)) (tSeq (tAsg (uIf (uT (tOp uLt (tOp (uAdd K) (uVar 1) (tC (.int 1))) (tCB (uLen K) (tCons (uVar 0) (tNil))))) (tOp (uIx K) (uVar 0) (tOp (uAdd K) (uVar 1) (tC (.int 1)))) (tC (.str ""))) (gName 3)) (tSeq (uIfS (uT (tOp (uEq2 K) (tOp (uIx K) (uVar 0) (uVar 1)) (tC (.str "")))) (tRet (uAndV (tOp (uNe2 K) (uVar 2) (tC (.str ""))) (tOp (uNe2 K) (uVar 3) (tC (.str ""))))) (tNext)) (tSeq (tAsg (tCall (sp_split_line K ca) [] E0 (tCons (tOp (uIx K) (uVar 0) (uVar 1)) (tNil))) (gName 4)) (tRet (uAndV (tOp (uIs true) (uVar 4) (tC .non)) (uOrV (uNotV (tOp (uIx K) (uVar 4) (tC (.int 2)))) (tOp (uNe2 K) (uVar 3) (tC (.str "")))))))))
def t_read_page (K : PySem.W.Frag) (ca : Nat → Addr) (E : XK) : TS := tSeq (uIfS (uNot (uT (uIsi .str (uVar 0)))) (uRaise (ca 1) "line" E (tCons (tC (.int 0)) (tNil))) (tNext)) (tSeq (tAsg (uIf (uT (tOp (uNe2 K) (uVar 0) (tC (.str "")))) (tM1 uSplit (uVar 0) (tC (.str "\n"))) (tLst (tNil))) (gName 1)) (tSeq (tAsg (tLst (tNil)) (gName 2)) (tSeq (tAsg (tC (.str "#")) (gName 3)) (tSeq (tFor (iEnum K (tCons (uVar 1) (tNil))) (gTs K 2 (gCons (gName 4) (gCons (gName 5) (gNil)))) (tSeq (uIfS (uNot (uT (tCall (sp_is_right K ca) [] E0 (tCons (uVar 1) (tCons (uVar 4) (tNil)))))) (uRaise (ca 1) "line" E (tCons (uVar 4) (tNil))) (tNext)) (uIfS (uT (tOp (uEq2 K) (uVar 5) (tC (.str "")))) (tAsg (tC (.str "#")) (gName 3)) (tSeq (tAsg (tCall (sp_split_line K ca) [] E0 (tCons (uVar 5) (tNil))) (gTs K 3 (gCons (gName 6) (gCons (gName 7) (gCons (gName 8) (gNil)))))) (tSeq (tDrop (tBM K "list" uAppend (uVar 2) (tCons (tTup (tCons (tOp (uAdd K) (uVar 3) (tCB uStr (tCons (uVar 6) (tNil)))) (tCons (tOp (uIx K) (uVar 7) (tC (.int 0))) (tNil)))) (tNil)))) (tSeq (tDrop (tBM K "list" uExtend (uVar 2) (tCons (tLc (uIter K (L2.tSl (uSl K) (uVar 7) (uPart (tC (.int 1))) (tNoPart))) (gName 9) (tYes) (tTup (tCons (tC (.str " ")) (tCons (uVar 9) (tNil)))) [9]) (tNil)))) (tAsg (uIf (uT (uVar 8)) (tC (.str "/")) (tC (.str "|"))) (gName 3)))))))) (tRet (uVar 2))))))
def t__law_cell (K : PySem.W.Frag) (ca : Nat → Addr) : TS := tSeq (uIfS (uT (tOp uLt (uVar 1) (tCB (uLen K) (tCons (uVar 0) (tNil))))) (tRet (tOp (uIx K) (uVar 0) (uVar 1))) (tNext)) (tRet (tOp (uAdd K) (tOp uMul3 (tC (.int 7919)) (uVar 1)) (tC (.int 31))))
def t__law_purse (K : PySem.W.Frag) (ca : Nat → Addr) : TS := tRet (tLst (tCons (tCB uMax2 (tCons (tC (.int 0)) (tCons (tOp uSub (uVar 0) (tOp uPow (tC (.int 10)) (tC (.int 18)))) (tNil)))) (tCons (tOp uMod (uVar 0) (tC (.int 2147483629))) (tCons (tC (.int 0)) (tNil)))))
def t__law_take (K : PySem.W.Frag) (ca : Nat → Addr) : TS := tSeq (uIfS (uT (tOp uGt (tOp (uIx K) (uVar 0) (tC (.int 0))) (tC (.int 0)))) (tSeq (tAsg (tOp uMod (tOp (uIx K) (uVar 0) (tC (.int 0))) (uVar 1)) (gName 2)) (tSeq (tAsg (tOp uFdiv (tOp (uIx K) (uVar 0) (tC (.int 0))) (uVar 1)) (gSub (uVar 0) (tC (.int 0)) uSetL)) (tRet (uVar 2)))) (tNext)) (tSeq (tAsg (tOp (uAdd K) (tOp (uIx K) (uVar 0) (tC (.int 2))) (tC (.int 1))) (gSub (uVar 0) (tC (.int 2)) uSetL)) (tSeq (tAsg (tOp uMod (tOp uPow (tOp (uAdd K) (tOp (uAdd K) (tOp (uIx K) (uVar 0) (tC (.int 1))) (tOp uMul3 (tC (.int 7919)) (tOp (uIx K) (uVar 0) (tC (.int 2))))) (tC (.int 114))) (tC (.int 5))) (tC (.int 2147483647))) (gName 3)) (tSeq (tAsg (tOp uMod (tOp uPow (tOp (uAdd K) (uVar 3) (tOp uMul3 (tC (.int 104729)) (tOp (uIx K) (uVar 0) (tC (.int 2))))) (tC (.int 3))) (tC (.int 2147483587))) (gName 3)) (tRet (tOp uMod (tOp uFdiv (uVar 3) (tC (.int 16))) (uVar 1))))))
def t__law_mark (K : PySem.W.Frag) (ca : Nat → Addr) : TS := tSeq (uIfS (uT (tOp (uEq2 K) (tCall (sp__law_take K ca) [] E0 (tCons (uVar 0) (tCons (tC (.int 3)) (tNil)))) (tC (.int 0)))) (tRet (tC (.str " "))) (tNext)) (tRet (tOp (uAdd K) (tOp (uIx K) (tC (.str "#|/")) (tCall (sp__law_take K ca) [] E0 (tCons (uVar 0) (tCons (tC (.int 3)) (tNil))))) (tOp (uIx K) (tC (.str "0123")) (tCall (sp__law_take K ca) [] E0 (tCons (uVar 0) (tCons (tC (.int 4)) (tNil)))))))
def t__law_word (K : PySem.W.Frag) (ca : Nat → Addr) : TS := tSeq (tAsg (tC (.str "abcdefghijklmnopqrstuvwxyz")) (gName 2)) (tRet (tM1 (uJoin K) (tC (.str "")) (tLc (iRng1 (tCons (tOp (uAdd K) (tC (.int 1)) (tCall (sp__law_take K ca) [] E0 (tCons (uVar 0) (tCons (uVar 1) (tNil))))) (tNil))) (gName 3) (tYes) (tOp (uIx K) (uVar 2) (tCall (sp__law_take K ca) [] E0 (tCons (uVar 0) (tCons (tC (.int 26)) (tNil))))) [3])))
def t__law_text (K : PySem.W.Frag) (ca : Nat → Addr) : TS := tSeq (tAsg (tLst (tNil)) (gName 3)) (tSeq (tFor (iRng1 (tCons (uVar 1) (tNil))) (gName 4) (tSeq (tAsg (uIf (uT (tOp uGt (uVar 4) (tC (.int 0)))) (tCall (sp__law_mark K ca) [] E0 (tCons (uVar 0) (tNil))) (tOp (uAdd K) (tC (.str "#")) (tOp (uIx K) (tC (.str "0123")) (tCall (sp__law_take K ca) [] E0 (tCons (uVar 0) (tCons (tC (.int 4)) (tNil))))))) (gName 5)) (tDrop (tBM K "list" uAppend (uVar 3) (tCons (tTup (tCons (uVar 5) (tCons (tCall (sp__law_word K ca) [] E0 (tCons (uVar 0) (tCons (uVar 2) (tNil)))) (tNil)))) (tNil)))))) (tRet (uVar 3)))
def t__law_page (K : PySem.W.Frag) (ca : Nat → Addr) : TS := tSeq (tAsg (tC (.str "")) (gName 1)) (tSeq (tFor (iEnum K (tCons (uVar 0) (tNil))) (gTs K 2 (gCons (gName 2) (gCons (gTs K 2 (gCons (gName 3) (gCons (gName 4) (gNil)))) (gNil)))) (uIfS (uT (tOp (uEq2 K) (uVar 3) (tC (.str " ")))) (tAsg (tOp (uAdd K) (tOp (uAdd K) (uVar 1) (tC (.str " "))) (uVar 4)) (gName 1)) (tSeq (tAsg (uIf (uT (tOp uGt (uVar 2) (tC (.int 0)))) (tDGet (tDisp [(tC (.str "#"), tC (.str "\n\n")), (tC (.str "|"), tC (.str "\n")), (tC (.str "/"), tC (.str " \n"))]) (tOp (uIx K) (uVar 3) (tC (.int 0)))) (tC (.str ""))) (gName 5)) (tAsg (tOp (uAdd K) (tOp (uAdd K) (tOp (uAdd K) (uVar 1) (uVar 5)) (tOp (uIx K) (tLst (tCons (tC (.str "")) (tCons (tC (.str " ")) (tCons (tC (.str "  ")) (tCons (tC (.str "   ")) (tNil)))))) (tM1 uFind (tC (.str "0123")) (tOp (uIx K) (uVar 3) (tC (.int 1)))))) (uVar 4)) (gName 1))))) (tRet (uVar 1)))
def t__law_parts (K : PySem.W.Frag) (ca : Nat → Addr) : TS := tSeq (tAsg (tC (.int 0)) (gName 1)) (tSeq (tWhile (uAnd (uT (tOp uLt (uVar 1) (tCB (uLen K) (tCons (uVar 0) (tNil))))) (uT (tOp (uEq2 K) (tOp (uIx K) (uVar 0) (uVar 1)) (tC (.str " "))))) (tAsg (tOp (uAdd K) (uVar 1) (tC (.int 1))) (gName 1))) (tSeq (tAsg (tM1 uSplit (L2.tSl (uSl K) (uVar 0) (uPart (uVar 1)) (tNoPart)) (tC (.str " "))) (gName 2)) (tSeq (tAsg (uAndV (tOp uGt (tCB (uLen K) (tCons (uVar 2) (tNil))) (tC (.int 1))) (tOp (uEq2 K) (tOp (uIx K) (uVar 2) (tUn uNeg (tC (.int 1)))) (tC (.str "")))) (gName 3)) (tSeq (tAsg (L2.tSl (uSl K) (uVar 2) (tNoPart) (uPart (tOp uSub (tCB (uLen K) (tCons (uVar 2) (tNil))) (tCB uInt (tCons (uVar 3) (tNil)))))) (gName 4)) (tSeq (tFor (uIter K (uVar 4)) (gName 5) (uIfS (uOr (uNot (uT (uChain uLe uLe (tC (.int 1)) (tCB (uLen K) (tCons (uVar 5) (tNil))) (tC (.int 30))))) (uT (tOp (uNe2 K) (tLc (uIter K (uVar 5)) (gName 6) (uT (tOp (uIn K true) (uVar 6) (tC (.str "abcdefghijklmnopqrstuvwxyz")))) (uVar 6) [6]) (tLst (tNil))))) (tRet (tC .non)) (tNext))) (tRet (uIf (uT (tOp uLt (uVar 1) (tC (.int 4)))) (tLst (tCons (uVar 1) (tCons (uVar 4) (tCons (uVar 3) (tNil))))) (tC .non))))))))
def t__law_read (K : PySem.W.Frag) (ca : Nat → Addr) : TS := tSeq (uIfS (uT (tOp (uEq2 K) (uVar 0) (tC (.str "")))) (tRet (tLst (tCons (tC (.str "text")) (tCons (tLst (tNil)) (tNil))))) (tNext)) (tSeq (tAsg (tM1 uSplit (uVar 0) (tC (.str "\n"))) (gName 1)) (tSeq (tAsg (tLst (tNil)) (gName 2)) (tSeq (tFor (iEnum K (tCons (uVar 1) (tNil))) (gTs K 2 (gCons (gName 3) (gCons (gName 4) (gNil)))) (tSeq (tAsg (uIf (uT (tOp uLt (tOp (uAdd K) (uVar 3) (tC (.int 1))) (tCB (uLen K) (tCons (uVar 1) (tNil))))) (tOp (uIx K) (uVar 1) (tOp (uAdd K) (uVar 3) (tC (.int 1)))) (tC (.str ""))) (gName 5)) (uIfS (uT (tOp (uEq2 K) (uVar 4) (tC (.str "")))) (uIfS (uOr (uT (tOp (uEq2 K) (uVar 3) (tC (.int 0)))) (uOr (uT (tOp (uEq2 K) (tOp (uIx K) (uVar 1) (tOp uSub (uVar 3) (tC (.int 1)))) (tC (.str "")))) (uT (tOp (uEq2 K) (uVar 5) (tC (.str "")))))) (tRet (tLst (tCons (tC (.str "page")) (tCons (uVar 3) (tNil))))) (tNext)) (tSeq (tAsg (tCall (sp__law_parts K ca) [] E0 (tCons (uVar 4) (tNil))) (gName 6)) (tSeq (uIfS (uOr (uT (tOp (uIs false) (uVar 6) (tC .non))) (uAnd (uT (tOp (uIx K) (uVar 6) (tC (.int 2)))) (uT (tOp (uEq2 K) (uVar 5) (tC (.str "")))))) (tRet (tLst (tCons (tC (.str "page")) (tCons (uVar 3) (tNil))))) (tNext)) (tSeq (tAsg (tC (.str "#")) (gName 7)) (tSeq (uIfS (uAnd (uT (tOp uGt (uVar 3) (tC (.int 0)))) (uT (tOp (uNe2 K) (tOp (uIx K) (uVar 1) (tOp uSub (uVar 3) (tC (.int 1)))) (tC (.str ""))))) (tAsg (tOp (uIx K) (tLst (tCons (tC (.str "|")) (tCons (tC (.str "/")) (tNil)))) (tCB uInt (tCons (tOp (uEq2 K) (tOp (uIx K) (tOp (uIx K) (uVar 1) (tOp uSub (uVar 3) (tC (.int 1)))) (tUn uNeg (tC (.int 1)))) (tC (.str " "))) (tNil)))) (gName 7)) (tNext)) (tSeq (tDrop (tBM K "list" uAppend (uVar 2) (tCons (tTup (tCons (tOp (uAdd K) (uVar 7) (tOp (uIx K) (tC (.str "0123")) (tOp (uIx K) (uVar 6) (tC (.int 0))))) (tCons (tOp (uIx K) (tOp (uIx K) (uVar 6) (tC (.int 1))) (tC (.int 0))) (tNil)))) (tNil)))) (tAsg (tOp (uAdd K) (uVar 2) (tLc (uIter K (L2.tSl (uSl K) (tOp (uIx K) (uVar 6) (tC (.int 1))) (uPart (tC (.int 1))) (tNoPart))) (gName 8) (tYes) (tTup (tCons (tC (.str " ")) (tCons (uVar 8) (tNil)))) [8])) (gName 2)))))))))) (tRet (tLst (tCons (tC (.str "text")) (tCons (uVar 2) (tNil))))))))
def t__law_changed (K : PySem.W.Frag) (ca : Nat → Addr) : TS := tSeq (tAsg (tCall (sp__law_take K ca) [] E0 (tCons (uVar 0) (tCons (tOp (uAdd K) (tCB (uLen K) (tCons (uVar 1) (tNil))) (tC (.int 1))) (tNil)))) (gName 2)) (tSeq (tAsg (tCall (sp__law_take K ca) [] E0 (tCons (uVar 0) (tCons (tC (.int 8)) (tNil)))) (gName 3)) (tSeq (tAsg (tOp (uIx K) (tLst (tCons (tC (.str "a")) (tCons (tC (.str " ")) (tCons (tC (.str "\n")) (tCons (tC (.str " \n")) (tCons (tC (.str "\n\n")) (tCons (tC (.str "    ")) (tCons (tC (.str "A")) (tCons (tC (.str "-")) (tCons (tC (.str "1")) (tCons (tC (.str "\n ")) (tCons (tOp uMul3 (tC (.str "z")) (tC (.int 30))) (tNil))))))))))))) (tCall (sp__law_take K ca) [] E0 (tCons (uVar 0) (tCons (tC (.int 11)) (tNil))))) (gName 4)) (tSeq (uIfS (uT (tOp uLt (uVar 3) (tC (.int 3)))) (tRet (tOp (uAdd K) (tOp (uAdd K) (L2.tSl (uSl K) (uVar 1) (tNoPart) (uPart (uVar 2))) (uVar 4)) (L2.tSl (uSl K) (uVar 1) (uPart (uVar 2)) (tNoPart)))) (tNext)) (tSeq (uIfS (uT (tOp (uEq2 K) (uVar 3) (tC (.int 3)))) (tRet (tOp (uAdd K) (L2.tSl (uSl K) (uVar 1) (tNoPart) (uPart (uVar 2))) (L2.tSl (uSl K) (uVar 1) (uPart (tOp (uAdd K) (uVar 2) (tC (.int 1)))) (tNoPart)))) (tNext)) (tSeq (uIfS (uT (tOp (uEq2 K) (uVar 3) (tC (.int 4)))) (tRet (tOp (uAdd K) (tOp (uAdd K) (L2.tSl (uSl K) (uVar 1) (tNoPart) (uPart (uVar 2))) (uVar 4)) (L2.tSl (uSl K) (uVar 1) (uPart (tOp (uAdd K) (uVar 2) (tC (.int 1)))) (tNoPart)))) (tNext)) (tSeq (tAsg (tM1 uSplit (uVar 1) (tC (.str "\n"))) (gName 5)) (tSeq (tAsg (tCall (sp__law_take K ca) [] E0 (tCons (uVar 0) (tCons (tCB (uLen K) (tCons (uVar 5) (tNil))) (tNil)))) (gName 6)) (tSeq (uIfS (uT (tOp (uEq2 K) (uVar 3) (tC (.int 5)))) (tRet (tM1 (uJoin K) (tC (.str "\n")) (tOp (uAdd K) (tOp (uAdd K) (L2.tSl (uSl K) (uVar 5) (tNoPart) (uPart (uVar 6))) (L2.tSl (uSl K) (uVar 5) (uPart (uVar 6)) (uPart (tOp (uAdd K) (uVar 6) (tC (.int 1)))))) (L2.tSl (uSl K) (uVar 5) (uPart (uVar 6)) (tNoPart))))) (tNext)) (tSeq (uIfS (uT (tOp (uEq2 K) (uVar 3) (tC (.int 6)))) (tRet (tM1 (uJoin K) (tC (.str "\n")) (tOp (uAdd K) (L2.tSl (uSl K) (uVar 5) (tNoPart) (uPart (uVar 6))) (L2.tSl (uSl K) (uVar 5) (uPart (tOp (uAdd K) (uVar 6) (tC (.int 1)))) (tNoPart))))) (tNext)) (tRet (tM1 (uJoin K) (tC (.str "\n")) (tOp (uAdd K) (L2.tSl (uSl K) (uVar 5) (uPart (uVar 6)) (tNoPart)) (L2.tSl (uSl K) (uVar 5) (tNoPart) (uPart (uVar 6)))))))))))))))
def t__law_told (K : PySem.W.Frag) (ca : Nat → Addr) : TS := tSeq (tAsg (tLst (tNil)) (gName 1)) (tSeq (uTry K (fun _ _ _ _ => False) [⟨.ref (ca 1), 2, fun a cls d => tAsg (tLst (tCons (tC (.str "page")) (tCons (uXf K a cls d 2 "line") (tNil)))) (gName 1)⟩] (fun W => tAsg (tLst (tCons (tC (.str "text")) (tCons (tCallS (sp_read_page K ca) (WE W) (tCons (uVar 0) (tNil))) (tNil)))) (gName 1))) (tRet (uVar 1)))
def t__law_right (K : PySem.W.Frag) (ca : Nat → Addr) : TS := tSeq (tAsg (tCall (sp__law_page K ca) [] E0 (tCons (tCall (sp__law_text K ca) [] E0 (tCons (uVar 0) (tCons (tCall (sp__law_take K ca) [] E0 (tCons (uVar 0) (tCons (tC (.int 13)) (tNil)))) (tCons (tOp (uIx K) (tLst (tCons (tC (.int 2)) (tCons (tC (.int 9)) (tCons (tC (.int 30)) (tNil))))) (tCall (sp__law_take K ca) [] E0 (tCons (uVar 0) (tCons (tC (.int 3)) (tNil))))) (tNil))))) (tNil))) (gName 1)) (tSeq (tFor (iRng1 (tCons (tOp (uAdd K) (tC (.int 1)) (tCall (sp__law_take K ca) [] E0 (tCons (uVar 0) (tCons (tC (.int 3)) (tNil))))) (tNil))) (gName 2) (tAsg (tCall (sp__law_changed K ca) [] E0 (tCons (uVar 0) (tCons (uVar 1) (tNil)))) (gName 1))) (tSeq (uIfS (uT (tOp (uNe2 K) (tCB uRepr2 (tCons (tCall (sp__law_told K ca) [] E0 (tCons (uVar 1) (tNil))) (tNil))) (tCB uRepr2 (tCons (tCall (sp__law_read K ca) [] E0 (tCons (uVar 1) (tNil))) (tNil))))) (tRet (tC (.bl false))) (tNext)) (tSeq (tAsg (tOp (uIx K) (tLst (tCons (tC .non) (tCons (tC (.bl true)) (tCons (tC (.int 0)) (tCons (tLst (tCons (uVar 1) (tNil))) (tCons (tTup (tCons (tC (.str "a")) (tNil))) (tCons (tDNewK) (tCons (tLst (tNil)) (tNil))))))))) (tCall (sp__law_take K ca) [] E0 (tCons (uVar 0) (tCons (tC (.int 7)) (tNil))))) (gName 3)) (tRet (tOp (uEq2 K) (tCB uRepr2 (tCons (tCall (sp__law_told K ca) [] E0 (tCons (uVar 3) (tNil))) (tNil))) (tCB uRepr2 (tCons (tLst (tCons (tC (.str "page")) (tCons (tC (.int 0)) (tNil)))) (tNil))))))))
def t_law (K : PySem.W.Frag) (ca : Nat → Addr) : TS := tSeq (tFor (iRng1 (tCons (tCB uMax2 (tCons (tC (.int 2)) (tCons (tCB uMin2 (tCons (tC (.int 20)) (tCons (tCB (uLen K) (tCons (uVar 0) (tNil))) (tNil)))) (tNil)))) (tNil))) (gName 1) (uIfS (uNot (uT (tCall (sp__law_right K ca) [] E0 (tCons (tCall (sp__law_purse K ca) [] E0 (tCons (tCall (sp__law_cell K ca) [] E0 (tCons (uVar 0) (tCons (uVar 1) (tNil)))) (tNil))) (tNil))))) (tRet (tC (.bl false))) (tNext))) (tRet (tC (.bl true)))
structure Ct (K : PySem.W.Frag) (ca : Nat → Addr) : Prop where
  yes : True
  x_InvalidPage : XfC K (ca 1)
  n_InvalidPage : PySem.W.findIn K (.ref (ca 1)) "line" = some none
  e_InvalidPage_InvalidPage : PySem.W.exmOne K (.ref (ca 1)) (.ref (ca 1)) = some true
structure Tx (K : PySem.W.Frag) (mg : Str → Option Value) (a : Nat → Addr) (d : Nat → FuncData) (ca : Nat → Addr) : Prop where
  ct : Ct K ca
  f_is_word : Fun K "is_word" "is_word" s_is_word (a 0) (d 0)
  b_is_word : Binds K (d 0) P_is_word []
  m_is_word : mg "is_word" = some (.ref (a 0))
  f_split_line : Fun K "split_line" "split_line" s_split_line (a 1) (d 1)
  b_split_line : Binds K (d 1) P_split_line []
  m_split_line : mg "split_line" = some (.ref (a 1))
  f_is_right : Fun K "is_right" "is_right" s_is_right (a 2) (d 2)
  b_is_right : Binds K (d 2) P_is_right []
  m_is_right : mg "is_right" = some (.ref (a 2))
  f_read_page : Fun K "read_page" "read_page" s_read_page (a 3) (d 3)
  b_read_page : Binds K (d 3) P_read_page []
  m_read_page : mg "read_page" = some (.ref (a 3))
  f__law_cell : Fun K "_law_cell" "_law_cell" s__law_cell (a 4) (d 4)
  b__law_cell : Binds K (d 4) P__law_cell []
  m__law_cell : mg "_law_cell" = some (.ref (a 4))
  f__law_purse : Fun K "_law_purse" "_law_purse" s__law_purse (a 5) (d 5)
  b__law_purse : Binds K (d 5) P__law_purse []
  m__law_purse : mg "_law_purse" = some (.ref (a 5))
  f__law_take : Fun K "_law_take" "_law_take" s__law_take (a 6) (d 6)
  b__law_take : Binds K (d 6) P__law_take []
  m__law_take : mg "_law_take" = some (.ref (a 6))
  f__law_mark : Fun K "_law_mark" "_law_mark" s__law_mark (a 7) (d 7)
  b__law_mark : Binds K (d 7) P__law_mark []
  m__law_mark : mg "_law_mark" = some (.ref (a 7))
  f__law_word : Fun K "_law_word" "_law_word" s__law_word (a 8) (d 8)
  b__law_word : Binds K (d 8) P__law_word []
  m__law_word : mg "_law_word" = some (.ref (a 8))
  f__law_text : Fun K "_law_text" "_law_text" s__law_text (a 9) (d 9)
  b__law_text : Binds K (d 9) P__law_text []
  m__law_text : mg "_law_text" = some (.ref (a 9))
  f__law_page : Fun K "_law_page" "_law_page" s__law_page (a 10) (d 10)
  b__law_page : Binds K (d 10) P__law_page []
  m__law_page : mg "_law_page" = some (.ref (a 10))
  f__law_parts : Fun K "_law_parts" "_law_parts" s__law_parts (a 11) (d 11)
  b__law_parts : Binds K (d 11) P__law_parts []
  m__law_parts : mg "_law_parts" = some (.ref (a 11))
  f__law_read : Fun K "_law_read" "_law_read" s__law_read (a 12) (d 12)
  b__law_read : Binds K (d 12) P__law_read []
  m__law_read : mg "_law_read" = some (.ref (a 12))
  f__law_changed : Fun K "_law_changed" "_law_changed" s__law_changed (a 13) (d 13)
  b__law_changed : Binds K (d 13) P__law_changed []
  m__law_changed : mg "_law_changed" = some (.ref (a 13))
  f__law_told : Fun K "_law_told" "_law_told" s__law_told (a 14) (d 14)
  b__law_told : Binds K (d 14) P__law_told []
  m__law_told : mg "_law_told" = some (.ref (a 14))
  f__law_right : Fun K "_law_right" "_law_right" s__law_right (a 15) (d 15)
  b__law_right : Binds K (d 15) P__law_right []
  m__law_right : mg "_law_right" = some (.ref (a 15))
  f_law : Fun K "law" "law" s_law (a 16) (d 16)
  b_law : Binds K (d 16) P_law []
  m_law : mg "law" = some (.ref (a 16))
  x_InvalidPage : U.ExcC K mg "InvalidPage" "line" (ca 1) (a 17)
  F_InvalidPage : Fun K "__init__" "InvalidPage.__init__" sI_InvalidPage (a 17) (d 17)
  i_InvalidPage : Binds K (d 17) ["self", "line"] []
  m_InvalidPage : mg "InvalidPage" = some (.ref (ca 1))
  y_ReflowError : U.BaseC K (ca 0)
  w_ReflowError : mg "ReflowError" = some (.ref (ca 0))
  z_all : mg "all" = none
  z_enumerate : mg "enumerate" = none
  z_int : mg "int" = none
  z_isinstance : mg "isinstance" = none
  z_len : mg "len" = none
  z_max : mg "max" = none
  z_min : mg "min" = none
  z_range : mg "range" = none
  z_repr : mg "repr" = none
  z_str : mg "str" = none
  c_LETTERS : ∃ t, mg "LETTERS" = some (.str "abcdefghijklmnopqrstuvwxyz" t)
  c_MOST_INDENT : ∃ t, mg "MOST_INDENT" = some (.int (3) t)
  c_MOST_LETTERS : ∃ t, mg "MOST_LETTERS" = some (.int (30) t)
local macro_rules | `(tactic| walk_at "u") => `(tactic| dsimp only [tNext, tSeq, tRet, tRetN, tCB, tCons, tNil, tAsg, tDrop, tCall, tCallS, tCallN, tM1, tBM, tTup, tLst, tC, tOp, tUn, uT, uNot, uAnd, uOr, uIfS, uIf, uAndV, uOrV, uNotV, uChain, gSub, tPar2, uIsi, uTry, uRaise, uMk, gName, List.set, List.nil_append, List.cons_append])
theorem chars_at {z : Str} {i : Nat} {y : V} (h : (chars z)[i]? = some y) : ∃ c, (sl z)[i]? = some c ∧ y = .str ⟨#[c]⟩ := by
  unfold chars at h
  rw [List.getElem?_map] at h
  cases e : z.cps.toList[i]? with
  | none => rw [e] at h; cases h
  | some c => rw [e] at h; exact ⟨c, rfl, (Option.some.inj h).symm⟩
theorem at_head {α : Type} (c : α) (r : List α) : atI (c :: r) 0 = some c := by
  unfold atI ixN
  rw [if_pos (by decide), if_pos (by show (0 : Int) < ((c :: r).length : Int); rw [List.length_cons]; omega)]
  rfl
theorem chars_len (z : Str) : (chars z).length = z.length := by unfold chars; rw [List.length_map]; rfl
theorem len_is_word {K ca vs H Q E} (h : sp_is_word K ca vs H Q E) : vs.length = P_is_word.length := by obtain ⟨b, v, d, rfl, _⟩ := h; rfl
theorem p_is_word {K ca vs H Q E} (T : Ct K ca) (h : sp_is_word K ca vs H Q E) : t_is_word K ca { nx := fun _ H' => Q .non H', rt := Q } (start N_is_word vs) H := by
  obtain ⟨b, v, d, rfl, hd, hw, q⟩ := h
  have hty := hd.ty
  cases hd with
  | str z =>
    rw [wt_str] at hw
    have q : ∀ H', Ex H H' → Q (V.bl (isWord z)) H' := q
    have hl : z.length ≤ sizeLine := by rw [sizeLine_eq]; omega
    refine ⟨hl, ?_⟩
    show bV (.bl (decide ((1 : Int) ≤ (z.length : Int)))) _ _
    unfold isWord at q
    refine bV_d (fun h1 => ?_) (fun h1 => ?_)
    · show bB (!decide ((z.length : Int) ≤ 30)) _ _
      refine bB_n (fun h2 => ?_) (fun h2 => ?_)
      · rw [decide_eq_false (show ¬ z.length ≤ 30 by omega), Bool.and_false, Bool.false_and] at q
        exact q H (Ex.refl H)
      · rw [decide_eq_true (show 1 ≤ z.length by omega), decide_eq_true (show z.length ≤ 30 by omega), Bool.true_and, Bool.true_and] at q
        walk_at "u"
        refine lcy (.str z) (fun R h => h) trivial (fun _ _ => trivial) ?_ ((sl z).map fun c => some (.bl (letter c))) ?_ ?_ ?_
        · rw [chars_len, sizeLine_eq]; omega
        · rw [chars_len, List.length_map]; rfl
        · intro i y o H' A B hy ho e hA hB
          obtain ⟨c, hc, rfl⟩ := chars_at hy
          rw [List.getElem?_map, hc] at ho
          cases ho
          refine ⟨rfl, ?_⟩
          show A (.bl (decide (c ∈ (Str.ofString "abcdefghijklmnopqrstuvwxyz").cps.toList))) H'
          rw [mem_letters]
          exact hA _ _ rfl (Ex.refl _)
        · intro D H' hD e hl'
          rw [fm_some] at hl'
          refine oK_of (rdL_of hl') ⟨(sl z).map letter, ?_, ?_⟩
          · rw [List.map_map]; rfl
          · rw [List.all_map]
            exact q H' e
    · rw [decide_eq_false (show ¬ 1 ≤ z.length by omega), Bool.false_and, Bool.false_and] at q
      exact q H (Ex.refl H)
  | lst _ _ _ => exact oK_of hty (q H (Ex.refl H))
  | tup _ _ _ => exact oK_of hty (q H (Ex.refl H))
  | dct _ _ => exact oK_of hty (q H (Ex.refl H))
  | non => exact q H (Ex.refl H)
  | bl _ => exact q H (Ex.refl H)
  | int _ => exact q H (Ex.refl H)
theorem tok_no {ds : List PyData} (h : ds.length ≠ 2) : tokenD (.tuple ds) = false := by
  match ds, h with
  | [], _ => rfl
  | [_], _ => rfl
  | [_, _], h => exact absurd rfl h
  | _ :: _ :: _ :: _, _ => rfl
theorem text_first {K : PySem.W.Frag} {b a : Addr} {xs : List V} {ds : List PyData} {H : Hp} {Q : VK} {x1 : Option V} (hr : rdS K H a = some xs) (h3 : DnAll b H xs ds) (ht : ds.all tokenD = true) (q : Q (.bl (firstD ds)) H) :
    uOrV (tOp (uEq2 K) (tCB (uLen K) (tCons (uVar 0) (tNil))) (tC (.int 0))) (tOp (uEq2 K) (tOp (uIx K) (tOp (uIx K) (tOp (uIx K) (uVar 0) (tC (.int 0))) (tC (.int 0))) (tC (.int 0))) (tC (.str "#"))) [some (.ref a), x1] H Q := by
  refine oS_of hr ?_
  cases h3 with
  | nil => exact q
  | @cons x xs d ds k1 k2 =>
    rw [List.all_cons, Bool.and_eq_true] at ht
    obtain ⟨t, rfl, hm, hwd⟩ := tokenD_form ht.1
    obtain ⟨r, rfl, hr2, e⟩ := dn_tok k1
    refine oS_of hr (oK_of (at_head _ _) ?_)
    refine oS_of (rdS_t e) (oK_of rfl ?_)
    have hz : t.1.length ≤ sizeLine ∧ ∃ c, atI (sl t.1) 0 = some c ∧ (sl t.1).head? = some c := by
      rcases mark_forms hm with h | ⟨k, i, h, _⟩
      · exact ⟨by rw [sl_len]; show (sl t.1).length ≤ _; rw [show sl t.1 = [32] from h]; decide, 32, by rw [show sl t.1 = [32] from h]; rfl, by rw [show sl t.1 = [32] from h]; rfl⟩
      · exact ⟨by rw [sl_len]; show (sl t.1).length ≤ _; rw [show sl t.1 = [k, i] from h]; show 2 ≤ sizeLine; decide, k, by rw [show sl t.1 = [k, i] from h]; rfl, by rw [show sl t.1 = [k, i] from h]; rfl⟩
    obtain ⟨hz1, c, hc, hh⟩ := hz
    refine ⟨hz1, oK_of hc ?_⟩
    show Q (.bl (decide (V.str ⟨#[c]⟩ = V.str (Str.ofString "#")))) H
    have q : Q (.bl (decide ((sl t.1).head? = some 35))) H := q
    have e2 : decide (V.str ⟨#[c]⟩ = V.str (Str.ofString "#")) = decide ((sl t.1).head? = some 35) := by
      rw [eq_fix _ "#" (by decide +kernel : (Str.ofString "#").cps.toList = [35]), hh]
      apply decide_eq_decide.mpr
      show [c] = [35] ↔ _
      simp
    rw [e2]; exact q

theorem len__law_cell {K ca vs H Q E} (h : sp__law_cell K ca vs H Q E) : vs.length = P__law_cell.length := by obtain ⟨a, ns, k, rfl, _⟩ := h; rfl
theorem p__law_cell {K ca vs H Q E} (T : Ct K ca) (h : sp__law_cell K ca vs H Q E) : t__law_cell K ca { nx := fun _ H' => Q .non H', rt := Q } (start N__law_cell vs) H := by
  obtain ⟨a, ns, k, rfl, hS, h0, h1, q⟩ := h
  refine oS_l hS.sq ?_
  show bB (decide (k < ((ns.map V.int).length : Int))) _ _
  refine bB_d (fun hlt => ?_) (fun hlt => ?_)
  · rw [List.length_map] at hlt
    have hj : k.toNat < ns.length := by omega
    have ha : atI (ns.map V.int) k = some (V.int ns[k.toNat]) := at_of (show k = (k.toNat : Int) by omega) (by rw [List.getElem?_map]; simp [hj])
    exact oS_l hS.sq (oK_of ha (q _))
  · refine ⟨.inl ⟨by decide, by decide⟩, ?_⟩
    exact q _
theorem len__law_purse {K ca vs H Q E} (h : sp__law_purse K ca vs H Q E) : vs.length = P__law_purse.length := by obtain ⟨c, rfl, _⟩ := h; rfl
theorem p__law_purse {K ca vs H Q E} (T : Ct K ca) (h : sp__law_purse K ca vs H Q E) : t__law_purse K ca { nx := fun _ H' => Q .non H', rt := Q } (start N__law_purse vs) H := by
  obtain ⟨c, rfl, q⟩ := h
  refine ⟨⟨by decide, by decide, by decide⟩, ?_⟩
  refine ⟨by decide, by show 3 ≤ sizeLine; decide, fun p hp => ?_⟩
  refine q p _ hp (Ex.new hp) ⟨_, _, _, upd_same, ?_, ?_, ?_, by decide, by decide⟩
  · split <;> omega
  · exact Int.emod_nonneg _ (by decide)
  · exact Int.emod_lt_of_pos _ (by decide)
theorem len__law_take {K ca vs H Q E} (h : sp__law_take K ca vs H Q E) : vs.length = P__law_take.length := by obtain ⟨b, m, n, rfl, _⟩ := h; rfl
theorem p__law_take {K ca vs H Q E} (T : Ct K ca) (h : sp__law_take K ca vs H Q E) : t__law_take K ca { nx := fun _ H' => Q .non H', rt := Q } (start N__law_take vs) H := by
  obtain ⟨b, m, n, rfl, ⟨x, y, z, hb, hx, hy, hy2, hz, hzn⟩, hn, hm, hm2, q⟩ := h
  have fr : ∀ l, Fr b H (upd H b (.lst l)) := fun l a o e hne => by rw [upd_ne hne]; exact e
  refine oS_of (rdS_l hb) (oK_of rfl ?_)
  show bB (decide (0 < x)) _ _
  refine bB_d (fun hlt => ?_) (fun hlt => ?_)
  · refine oS_of (rdS_l hb) (oK_of rfl ?_)
    refine ⟨hm, ?_⟩
    refine oS_of (rdS_l hb) (oK_of rfl ?_)
    refine ⟨⟨hm, by omega⟩, ?_⟩
    refine oK_of (mutL_of hb) (oK_of rfl ?_)
    refine q _ _ (Int.emod_nonneg _ (by omega)) (Int.emod_lt_of_pos _ hm) ⟨x / m, y, z, upd_same, ?_, hy, hy2, hz, by omega⟩ (fr _)
    exact Int.ediv_nonneg hx (by omega)
  · refine oS_of (rdS_l hb) (oK_of rfl ?_)
    refine oK_of (mutL_of hb) (oK_of rfl ?_)
    have hb2 : (upd H b (.lst [.int x, .int y, .int (z + 1)])) b = some (.lst [.int x, .int y, .int (z + 1)]) := upd_same
    refine oS_of (rdS_l hb2) (oK_of rfl ?_)
    refine oS_of (rdS_l hb2) (oK_of rfl ?_)
    refine ⟨.inl ⟨by decide, by decide⟩, ?_⟩
    refine ⟨⟨by decide, by decide, by omega⟩, by decide, ?_⟩
    refine oS_of (rdS_l hb2) (oK_of rfl ?_)
    refine ⟨.inl ⟨by decide, by decide⟩, ?_⟩
    have e1 := Int.emod_nonneg ((y + 7919 * (z + 1) + 114) ^ Int.toNat 5) (show (2147483647 : Int) ≠ 0 by decide)
    have e2 := Int.emod_lt_of_pos ((y + 7919 * (z + 1) + 114) ^ Int.toNat 5) (show (0 : Int) < 2147483647 by decide)
    refine ⟨⟨by decide, by decide, by omega⟩, by decide, ?_⟩
    refine ⟨⟨by decide, by decide⟩, hm, ?_⟩
    exact q _ _ (Int.emod_nonneg _ (by omega)) (Int.emod_lt_of_pos _ hm) ⟨x, y, z + 1, upd_same, hx, hy, hy2, by omega, by omega⟩ (fr _)
theorem two_signs (k i : Nat) : sl ((⟨#[k]⟩ : Str) ++ ⟨#[i]⟩) = [k, i] := by rw [sl_app]; rfl
theorem len__law_mark {K ca vs H Q E} (h : sp__law_mark K ca vs H Q E) : vs.length = P__law_mark.length := by obtain ⟨b, n, rfl, _⟩ := h; rfl
theorem p__law_mark {K ca vs H Q E} (T : Ct K ca) (h : sp__law_mark K ca vs H Q E) : t__law_mark K ca { nx := fun _ H' => Q .non H', rt := Q } (start N__law_mark vs) H := by
  obtain ⟨b, n, rfl, B, hn, q⟩ := h
  refine ⟨b, _, n, rfl, B, by omega, by decide, by decide, fun r H1 a1 c1 B1 f1 => ?_⟩
  show bB (decide (V.int r = V.int 0)) _ _
  refine bB_d (fun h1 => ?_) (fun h1 => ?_)
  · exact q _ _ (by decide +kernel) (B1.le (by omega)) f1
  · refine ⟨b, _, _, rfl, B1, by omega, by decide, by decide, fun r2 H2 a2 c2 B2 f2 => ⟨by decide +kernel, ?_⟩⟩
    obtain ⟨k, hk, hkm⟩ := pick (xs := (Str.ofString "#|/").cps.toList) a2 (by rw [cps_kinds]; exact c2)
    refine oK_of hk ?_
    refine ⟨b, _, _, rfl, B2, by omega, by decide, by decide, fun r3 H3 a3 c3 B3 f3 => ⟨by decide +kernel, ?_⟩⟩
    obtain ⟨i, hi, him⟩ := pick (xs := (Str.ofString "0123").cps.toList) a3 (by rw [cps_digits]; exact c3)
    refine oK_of hi ⟨by show 1 + 1 ≤ sizeLine; decide, ?_⟩
    rw [cps_kinds] at hkm
    rw [cps_digits] at him
    refine q _ _ ?_ (B3.le (by omega)) ((f1.trans f2).trans f3)
    rw [isMark_two (two_signs k i), decide_eq_true hkm, decide_eq_true him]; rfl
theorem sl_ones : ∀ cs : List Nat, sl (Txt.join (Str.ofString "") (cs.map fun c => (⟨#[c]⟩ : Str))) = cs := fun cs => by
  rw [sl_join]
  show TL.joinL [] _ = _
  rw [joinL_nil, List.map_map]
  induction cs with
  | nil => rfl
  | cons c cs ih => rw [List.map_cons, List.flatten_cons, ih]; rfl
theorem len__law_word {K ca vs H Q E} (h : sp__law_word K ca vs H Q E) : vs.length = P__law_word.length := by obtain ⟨b, m, n, rfl, _⟩ := h; rfl
theorem p__law_word {K ca vs H Q E} (T : Ct K ca) (h : sp__law_word K ca vs H Q E) : t__law_word K ca { nx := fun _ H' => Q .non H', rt := Q } (start N__law_word vs) H := by
  obtain ⟨b, m, n, rfl, B, hn, hm1, hm2, q⟩ := h
  refine ⟨⟨_, rfl⟩, ?_⟩
  refine ⟨b, _, n, rfl, B, by omega, hm1, by omega, fun r H1 a1 c1 B1 f1 => ?_⟩
  have key : ∀ (Q : VK), (∀ D' H' (cs : List Nat), H1 D' = none → BoxAt H' b (n + 31) → Fr b H1 H' → H' D' = some (.lst ((cs.map fun c => (⟨#[c]⟩ : Str)).map V.str)) → (cs.length : Int) = 1 + r → cs.all letter = true → Q (.ref D') H') →
      tLc (iRng1 fun _ _ R => R [.int (1 + r)] H1) (gName 3) (tYes) (tOp (uIx K) (uVar 2) (tCall (sp__law_take K ca) [] E0 (tCons (uVar 0) (tCons (tC (.int 26)) (tNil))))) [3] [some (.ref b), some (.int m), some (.str (Str.ofString "abcdefghijklmnopqrstuvwxyz")), none] H1 Q := by
    intro Q kq
    refine lcr (n := 1 + r) (fun R h => h) (by omega) (by omega) (fun D' i H' => ∃ cs : List Nat, H1 D' = none ∧ BoxAt H' b (n + 1 + i) ∧ Fr b H1 H' ∧ H' D' = some (.lst ((cs.map fun c => (⟨#[c]⟩ : Str)).map V.str)) ∧ cs.length = i ∧ cs.all letter = true) ?_ (fun y => rfl) ?_ ?_
    · exact fun D' hD => ⟨[], hD, (B1.new hD).le (by omega), Fr.new hD, upd_same, rfl, rfl⟩
    · rintro D' i H' hi ⟨cs, hD, B', fr, hl', hy, hk⟩
      refine ⟨b, _, _, rfl, B', by omega, by decide, by decide, fun r2 H2 a2 c2 B2 f2 => ⟨by decide +kernel, ?_⟩⟩
      obtain ⟨c, hc, hcm⟩ := pick (xs := (Str.ofString "abcdefghijklmnopqrstuvwxyz").cps.toList) a2 (by rw [cps_letters]; exact c2)
      have hDb : D' ≠ b := B1.ne hD
      refine oK_of hc ⟨_, f2 D' _ hl' hDb, ?_, cs ++ [c], hD, ?_, ?_, ?_, ?_, ?_⟩
      · rw [List.length_map, List.length_map]; exact szt (by omega)
      · obtain ⟨x, y, z, e, rest⟩ := B2
        exact ⟨x, y, z, by rw [upd_ne (Ne.symm hDb)]; exact e, by omega⟩
      · intro a o h hne
        rw [upd_ne (ne_of_none h hD)]
        exact f2 a o (fr a o h hne) hne
      · rw [upd_same, List.map_append, List.map_append]; rfl
      · rw [List.length_append, hy]; rfl
      · rw [List.all_append, hk]
        have := mem_letters c
        rw [decide_eq_true hcm] at this
        simp [← this]
    · rintro D' H' hD ⟨cs, _, B', fr, hl', hy, hk⟩
      exact kq D' H' cs hD (B'.le (by omega)) fr hl' (by omega) hk
  refine key (fun y H2 => uJoin K (.str (Str.ofString "")) [y] H2 Q) fun D' H' cs hD B' fr hl' hy hk => ?_
  have hs : ((cs.map fun c => (⟨#[c]⟩ : Str)).map (·.length)).sum = cs.length := by
    clear hl' hy hk
    induction cs with
    | nil => rfl
    | cons c cs ih => rw [List.map_cons, List.map_cons, List.sum_cons, ih]; show 1 + _ = _; rw [List.length_cons]; omega
  refine oS_of (rdS_l hl') ⟨_, rfl, ?_, ?_⟩
  · rw [hs]; show cs.length + _ * 0 ≤ _; omega
  · have hl : (Txt.join (Str.ofString "") (cs.map fun c => (⟨#[c]⟩ : Str))).length = cs.length := by rw [sl_len, sl_ones]
    refine q _ H' ?_ ?_ B' (f1.trans fr)
    · unfold isWord
      rw [hl, show (Txt.join (Str.ofString "") (cs.map fun c => (⟨#[c]⟩ : Str))).cps.toList = cs from sl_ones cs, hk, decide_eq_true (show 1 ≤ cs.length by omega), decide_eq_true (show cs.length ≤ 30 by omega)]; rfl
    · rw [hl]; omega
theorem good_snoc {ts : List Tk} {t : Tk} (h : GoodT ts) (h1 : isMark t.1 = true) (h2 : isWord t.2 = true) (h3 : ts = [] → (sl t.1).head? = some 35) : GoodT (ts ++ [t]) := by
  refine ⟨fun u hu => ?_, fun u hu => ?_⟩
  · rcases List.mem_append.mp hu with hu | hu
    · exact h.1 u hu
    · have : u = t := by simpa using hu
      subst this; exact ⟨h1, h2⟩
  · cases ts with
    | nil => cases hu; exact h3 rfl
    | cons v vs => exact h.2 u hu
theorem len__law_text {K ca vs H Q E} (h : sp__law_text K ca vs H Q E) : vs.length = P__law_text.length := by obtain ⟨b, k, m, n, rfl, _⟩ := h; rfl
theorem p__law_text {K ca vs H Q E} (T : Ct K ca) (h : sp__law_text K ca vs H Q E) : t__law_text K ca { nx := fun _ H' => Q .non H', rt := Q } (start N__law_text vs) H := by
  obtain ⟨b, k, m, n, rfl, B, hn, hk0, hk1, hm0, hm1, q⟩ := h
  refine ⟨by decide, fun p hp => ?_⟩
  have hpb : p ≠ b := B.ne hp
  walk_at "u"
  refine forr (n := k) (fun R h => h) (by omega) (by omega) (fun i σ H' => ∃ vs ts x4 x5, σ = [some (.ref b), some (.int k), some (.int m), some (.ref p), x4, x5] ∧ H' p = some (.lst vs) ∧ ToksAt b H' vs ts ∧ GoodT ts ∧ ts.length = i ∧ BoxAt H' b (n + 40 * i) ∧ Fr b H H') ?_ ?_ ?_
  · exact ⟨[], [], none, none, rfl, upd_same, .nil, ⟨fun _ h => by (cases h), fun _ h => by (cases h)⟩, rfl, (B.new hp).le (by omega), Fr.new hp⟩
  · rintro i σ H1 hi ⟨vs, ts, x4, x5, rfl, hl, ht, hg, hlen, B1, F1⟩
    have key : ∀ (R : VK), (∀ z H2, isMark z = true → (ts = [] → (sl z).head? = some 35) → BoxAt H2 b (n + 40 * i + 3) → Fr b H1 H2 → R (.str z) H2) →
        uIf (uT (tOp uGt (uVar 4) (tC (.int 0)))) (tCall (sp__law_mark K ca) [] E0 (tCons (uVar 0) (tNil))) (tOp (uAdd K) (tC (.str "#")) (tOp (uIx K) (tC (.str "0123")) (tCall (sp__law_take K ca) [] E0 (tCons (uVar 0) (tCons (tC (.int 4)) (tNil)))))) [some (.ref b), some (.int k), some (.int m), some (.ref p), some (.int (i : Int)), x5] H1 R := by
      intro R kR
      show bB (decide ((0 : Int) < (i : Int))) _ _
      refine bB_d (fun h1 => ?_) (fun h1 => ?_)
      · refine ⟨b, _, rfl, B1, by omega, fun z H2 hz B2 f2 => kR z H2 hz (fun e => ?_) B2 f2⟩
        rw [e] at hlen; simp at hlen; omega
      · refine ⟨b, _, _, rfl, B1, by omega, by decide, by decide, fun r2 H2 a2 c2 B2 f2 => ⟨by decide +kernel, ?_⟩⟩
        obtain ⟨c, hc, hcm⟩ := pick (xs := (Str.ofString "0123").cps.toList) a2 (by rw [cps_digits]; exact c2)
        refine oK_of hc ⟨by show 1 + 1 ≤ sizeLine; decide, ?_⟩
        rw [cps_digits] at hcm
        have e : sl (Str.ofString "#" ++ (⟨#[c]⟩ : Str)) = [35, c] := by rw [sl_app, show sl (Str.ofString "#") = [35] by decide +kernel]; rfl
        refine kR _ H2 ?_ (fun _ => by rw [e]; rfl) (B2.le (by omega)) f2
        rw [isMark_two e, decide_eq_true hcm]; rfl
    refine key _ fun z H2 hz hz0 B2 f2 => ?_
    have hl2 := f2 p _ hl hpb
    walk_at "u"
    refine ⟨.inl ⟨rfl, _, .inl (.inl hl2)⟩, b, m, _, rfl, B2, by omega, hm0, hm1, fun w H3 hw hwl B3 f3 => ⟨by show 2 ≤ sizeLine; decide, fun r hr => ?_⟩⟩
    have hl3 := f3 p _ hl2 hpb
    have hl4 : (upd H3 r (.tup [.str z, .str w])) p = some (.lst vs) := by rw [upd_ne (ne_of_none hl3 hr)]; exact hl3
    have hrb : r ≠ b := B3.ne hr
    have hrp : r ≠ p := (ne_of_none hl3 hr).symm
    have htl := ht.len
    refine oK_of (mutL_of hl4) ⟨szt (by omega), ?_⟩
    have ht3 : ToksAt b (upd H3 r (.tup [.str z, .str w])) vs ts := (ht.go (f2.trans f3)).ex (Ex.new hr)
    refine ⟨vs ++ [.ref r], ts ++ [(z, w)], _, _, rfl, upd_same, ?_, good_snoc hg hz hw hz0, ?_, ?_, ?_⟩
    · refine (ht3.set hl4).snoc (tok_dn hrb ?_)
      rw [upd_ne hrp, upd_same]
    · rw [List.length_append, hlen]; rfl
    · obtain ⟨x, y, z', e, rest⟩ := B3
      refine ⟨x, y, z', ?_, by omega⟩
      rw [upd_ne (Ne.symm hpb), upd_ne (Ne.symm hrb)]; exact e
    · intro a o ha hne
      have h3 := f3 a o (f2 a o (F1 a o ha hne) hne) hne
      rw [upd_ne (ne_of_none ha hp), upd_ne (ne_of_none h3 hr)]
      exact h3
  · rintro σ H1 ⟨vs, ts, x4, x5, rfl, hl, ht, hg, hlen, B1, F1⟩
    exact q p ts H1 hp hg (by omega) ⟨hpb, vs, hl, ht⟩ B1 F1

/-! ### texts put together and cut -/
theorem text_ex {b : Addr} {H H' : Hp} {p : Addr} {ts : List Tk} (h : TextAt b H p ts) (e : Ex H H') : TextAt b H' p ts := TextAt.go h (Fr.ex e)
theorem new_text {b : Addr} {H : Hp} {q : Addr} {vs : List V} {ts : List Tk} (hb : ∃ o, H b = some o) (hq : H q = none) (ht : ToksAt b H vs ts) : TextAt b (upd H q (.lst vs)) q ts := by
  obtain ⟨o, ho⟩ := hb
  exact ⟨(ne_of_none ho hq).symm, vs, upd_same, ht.ex (Ex.new hq)⟩
theorem cat_ok {K : PySem.W.Frag} {b : Addr} {H : Hp} {p1 p2 : Addr} {ts1 ts2 : List Tk} {Q : VK} (h1 : TextAt b H p1 ts1) (h2 : TextAt b H p2 ts2) (hb : ∃ o, H b = some o) (hl : ts1.length + ts2.length ≤ 100000)
    (q : ∀ q H', H q = none → Ex H H' → TextAt b H' q (ts1 ++ ts2) → Q (.ref q) H') : uAdd K (.ref p1) (.ref p2) H Q := by
  obtain ⟨a1, vs1, a2, a3⟩ := h1
  obtain ⟨b1, vs2, b2, b3⟩ := h2
  have l1 := a3.len
  have l2 := b3.len
  refine ⟨vs1, vs2, a2, b2, szl (by omega), fun r hr => q r _ hr (Ex.new hr) (new_text hb hr ?_)⟩
  show DnAll b H (vs1 ++ vs2) ((ts1 ++ ts2).map tokD)
  rw [List.map_append]
  exact DnAll.app a3 b3
theorem one_ok {b : Addr} {H : Hp} {σ : L2.St} {Q : VK} {m w : Str} (hb : ∃ o, H b = some o) (q : ∀ q H', H q = none → Ex H H' → TextAt b H' q [(m, w)] → Q (.ref q) H') :
    tLst (tCons (tTup (tCons (tC (.str m)) (tCons (tC (.str w)) (tNil)))) (tNil)) σ H Q := by
  obtain ⟨o, ho⟩ := hb
  refine ⟨by show 2 ≤ sizeLine; decide, fun r hr => ⟨by show 1 ≤ sizeLine; decide, fun r2 hr2 => ?_⟩⟩
  have hrb : r ≠ b := (ne_of_none ho hr).symm
  have ho2 := (Ex.new (o := .tup [.str m, .str w]) hr) _ _ ho
  refine q r2 _ ((Ex.new hr).free hr2) ((Ex.new hr).trans (Ex.new hr2)) (new_text ⟨o, ho2⟩ hr2 (.cons (tok_dn (t := (m, w)) hrb upd_same) .nil))
theorem upto_ok {K : PySem.W.Frag} {b : Addr} {H : Hp} {p : Addr} {ts : List Tk} {Q : VK} {n : Int} (h : TextAt b H p ts) (hb : ∃ o, H b = some o) (hn : 0 ≤ n) (q : ∀ q H', H q = none → Ex H H' → TextAt b H' q (ts.take n.toNat) → Q (.ref q) H') :
    uSl K (.ref p) none (some n) H Q := by
  obtain ⟨a1, vs, a2, a3⟩ := h
  show (match rdL K H p with | some xs => _ | none => _)
  rw [rdL_of a2]
  intro r hr
  have e : cutV vs none (some n) = vs.take n.toNat := by
    have := cutV_upto vs n.toNat
    rwa [show ((n.toNat : Nat) : Int) = n by omega] at this
  rw [e]
  refine q r _ hr (Ex.new hr) (new_text hb hr ?_)
  show DnAll b H _ ((ts.take n.toNat).map tokD)
  rw [List.map_take]
  exact DnAll.take _ a3
theorem from_ok {K : PySem.W.Frag} {b : Addr} {H : Hp} {p : Addr} {ts : List Tk} {Q : VK} {n : Int} (h : TextAt b H p ts) (hb : ∃ o, H b = some o) (hn : 0 ≤ n) (q : ∀ q H', H q = none → Ex H H' → TextAt b H' q (ts.drop n.toNat) → Q (.ref q) H') :
    uSl K (.ref p) (some n) none H Q := by
  obtain ⟨a1, vs, a2, a3⟩ := h
  show (match rdL K H p with | some xs => _ | none => _)
  rw [rdL_of a2]
  intro r hr
  have e : cutV vs (some n) none = vs.drop n.toNat := by
    have := cutV_from vs n.toNat
    rwa [show ((n.toNat : Nat) : Int) = n by omega] at this
  rw [e]
  refine q r _ hr (Ex.new hr) (new_text hb hr ?_)
  show DnAll b H _ ((ts.drop n.toNat).map tokD)
  rw [List.map_drop]
  exact DnAll.drop _ a3
theorem tuple_ok {K : PySem.W.Frag} {b : Addr} {H : Hp} {p : Addr} {ts : List Tk} {Q : VK} (h : TextAt b H p ts) (hb : ∃ o, H b = some o) (q : ∀ q H', H q = none → Ex H H' → Dn b H' (.ref q) (.tuple (ts.map tokD)) → Q (.ref q) H') : uTuple K [.ref p] H Q := by
  obtain ⟨a1, vs, a2, a3⟩ := h
  obtain ⟨o, ho⟩ := hb
  show (match rdL K H p with | some xs => _ | none => _)
  rw [rdL_of a2]
  intro r hr
  exact q r _ hr (Ex.new hr) (.tup (ne_of_none ho hr).symm upd_same (DnAll.ex a3 (Ex.new hr)))
theorem text_ne {b : Addr} {H : Hp} {p : Addr} {ts : List Tk} {q : Addr} (h : TextAt b H p ts) (hq : H q = none) : p ≠ q := by
  obtain ⟨_, vs, e, _⟩ := h
  exact ne_of_none e hq

local macro_rules | `(tactic| walk_at "c") => `(tactic| dsimp only [tLst, tCons, tNil, tAsg, tSeq, gName, List.set])
theorem uVar_of {σ : L2.St} {i : Nat} {v : V} {H : Hp} {Q : VK} (h : σ[i]? = some (some v)) (q : Q v H) : uVar i σ H Q := by unfold uVar; rw [h]; exact q
theorem at_nat {α : Type} {xs : List α} {i : Nat} (h : i < xs.length) : atI xs (i : Int) = some xs[i] := by
  unfold atI ixN
  rw [if_pos (by omega), if_pos (by omega)]
  simp [h]
theorem at_last {α : Type} (xs : List α) (x : α) : atI (xs ++ [x]) (-1) = some x := by
  unfold atI ixN
  have h : (xs ++ [x]).length = xs.length + 1 := by rw [List.length_append]; rfl
  rw [if_neg (by decide), h, if_pos (by omega)]
  have h1 : ((-1 : Int) + ((xs.length + 1 : Nat) : Int)).toNat = xs.length := by omega
  show (xs ++ [x])[((-1 : Int) + ((xs.length + 1 : Nat) : Int)).toNat]? = some x
  rw [h1]; simp
theorem snoc_or {α : Type} (fs : List α) : fs = [] ∨ ∃ gs x, fs = gs ++ [x] := by
  rcases List.eq_nil_or_concat fs with h | ⟨gs, x, h⟩
  · exact .inl h
  · exact .inr ⟨gs, x, by rw [h, List.concat_eq_append]⟩
theorem blanks_eq : ∀ (j : Nat) (l : List Nat), (∀ k, k < j → l[k]? = some 32) → (∀ c, l[j]? = some c → c ≠ 32) → blanks l = j
  | 0, l, _, h2 => by
    cases l with
    | nil => rfl
    | cons c r =>
      have := h2 c rfl
      unfold blanks
      rw [List.takeWhile_cons, decide_eq_false this]; rfl
  | j + 1, l, h1, h2 => by
    cases l with
    | nil => have := h1 0 (by omega); cases this
    | cons c r =>
      have hc : c = 32 := by have := h1 0 (by omega); simpa using this
      have ih := blanks_eq j r (fun k hk => by have := h1 (k + 1) (by omega); simpa using this) (fun d hd => h2 d (by simpa using hd))
      unfold blanks at ih ⊢
      rw [List.takeWhile_cons, decide_eq_true hc]
      show (List.takeWhile _ r).length + 1 = j + 1
      rw [ih]
theorem rowsV_map (ws : List (List Nat)) : (ws.map SX.S).map V.str = rowsV ws := by unfold rowsV; rw [List.map_map]; rfl
theorem rowsV_len (ws : List (List Nat)) : (rowsV ws).length = ws.length := by unfold rowsV; rw [List.length_map]
theorem prt_split (z : Str) : (Txt.split (cutS z (some ((blanks (sl z) : Nat) : Int)) none) (Str.ofString " ")).map V.str = rowsV (prt (sl z)) := by
  rw [split_S _ " " cps_blank (by decide), sl_from, rowsV_map]; rfl
theorem prt_len (row : List Nat) : (prt row).length ≤ row.length + 1 := by
  have h := spl_size 32 (row.drop (blanks row)) []
  have h2 : (prt row).length ≤ (row.drop (blanks row)).length + 1 := by unfold prt; simp at h ⊢; omega
  rw [List.length_drop] at h2
  omega
/-- followed: len(words) > 1 and words[-1] == '' -/
theorem fol_ok {K : PySem.W.Frag} {σ : L2.St} {H : Hp} {Q : VK} {p : Addr} {row : List Nat} (h2 : σ[2]? = some (some (.ref p))) (hl : H p = some (.lst (rowsV (prt row)))) (q : Q (.bl (fol row)) H) :
    uAndV (tOp uGt (tCB (uLen K) (tCons (uVar 2) (tNil))) (tC (.int 1))) (tOp (uEq2 K) (tOp (uIx K) (uVar 2) (tUn uNeg (tC (.int 1)))) (tC (.str ""))) σ H Q := by
  walk_at "u"
  refine uVar_of h2 (oS_of (rdS_l hl) ?_)
  rw [rowsV_len]
  show bV (.bl (decide ((1 : Int) < ((prt row).length : Int)))) _ _
  unfold fol at q
  refine bV_d (fun h => ?_) (fun h => ?_)
  · rw [decide_eq_true (show 1 < (prt row).length by omega), Bool.true_and] at q
    rcases snoc_or (prt row) with e | ⟨gs, x, e⟩
    · rw [e] at h; simp at h
    · have ha : atI (rowsV (prt row)) (-1) = some (V.str (SX.S x)) := by rw [e]; unfold rowsV; rw [List.map_append]; exact at_last _ _
      refine uVar_of h2 (oS_of (rdS_l hl) (oK_of ha ?_))
      show Q (.bl (decide (V.str (SX.S x) = V.str (Str.ofString "")))) H
      rw [eq_fix _ "" (by decide +kernel : (Str.ofString "").cps.toList = [])]
      have e2 : decide ((SX.S x).cps.toList = []) = decide ((prt row).getLast? = some []) := by
        apply decide_eq_decide.mpr
        rw [e, List.getLast?_concat]
        show x = [] ↔ _
        simp
      rw [e2]; exact q
  · rw [decide_eq_false (show ¬ 1 < (prt row).length by omega), Bool.false_and] at q
    exact q
theorem cutV_init (xs : List V) : cutV xs none (some (-1)) = xs.dropLast := by
  unfold cutV
  rw [HT.sIx_none]
  have : HT.sIx xs.length xs.length (some (-1)) = xs.length - 1 := by
    show (if (-1 : Int) < 0 then ((-1 : Int) + (xs.length : Int)).toNat else min (-1 : Int).toNat xs.length) = _
    rw [if_pos (by decide)]; omega
  rw [this]
  simp [List.dropLast_eq_take]
theorem rowsV_init (ws : List (List Nat)) : (rowsV ws).dropLast = rowsV ws.dropLast := by unfold rowsV; rw [List.map_dropLast]
/-- all words are words -/
theorem allw_ok {K : PySem.W.Frag} {ca : Nat → Addr} {H : Hp} {Q : VK} {p : Addr} {ws : List (List Nat)} {x0 x1 x3 : Option V} (hl : H p = some (.lst (rowsV ws))) (hn : ws.length ≤ 30000) (hw : ∀ w ∈ ws, w.length ≤ 30000) (q : ∀ H', Ex H H' → Q (.bl (ws.all wordL)) H') :
    tLc (uIter K (uVar 2)) (gName 4) (tYes) (tCall (sp_is_word K ca) [] E0 (tCons (uVar 4) (tNil))) [4] [x0, x1, some (.ref p), x3, none] H fun y H1 => uAll K [y] H1 Q := by
  refine lcy (.lst p (rowsV ws)) (fun R h => h) (rdL_of hl) (fun H' e => rdL_of (e _ _ hl)) (by rw [rowsV_len, sizeLine_eq]; omega) (ws.map fun w => some (.bl (wordL w))) (by rw [rowsV_len, List.length_map]) ?_ ?_
  · intro i y o H' A B hy ho e hA hB
    unfold rowsV at hy
    rw [List.getElem?_map] at hy
    cases hi : ws[i]? with
    | none => rw [hi] at hy; cases hy
    | some w =>
      rw [hi] at hy; cases hy
      rw [List.getElem?_map, hi] at ho
      cases ho
      refine ⟨rfl, ?_⟩
      refine ⟨0, .str (SX.S w), .str (SX.S w), rfl, .str _, ?_, fun H2 e2 => ?_⟩
      · rw [wt_str, SX.S_len]; have := hw w (List.mem_of_getElem? hi); omega
      · show A (.bl (isWord (SX.S w))) H2
        rw [isWord_S]; exact hA _ _ rfl e2
  · intro D H' hD e hl'
    rw [fm_some] at hl'
    refine oK_of (rdL_of hl') ⟨ws.map wordL, ?_, ?_⟩
    · rw [List.map_map]; rfl
    · rw [List.all_map]; exact q H' e
theorem len_split_line {K ca vs H Q E} (h : sp_split_line K ca vs H Q E) : vs.length = P_split_line.length := by obtain ⟨z, rfl, _⟩ := h; rfl
theorem p_split_line {K ca vs H Q E} (T : Ct K ca) (h : sp_split_line K ca vs H Q E) : t_split_line K ca { nx := fun _ H' => Q .non H', rt := Q } (start N_split_line vs) H := by
  obtain ⟨z, rfl, hz, q1, q2⟩ := h
  have hzl : (sl z).length = z.length := rfl
  unfold t_split_line
  walk_at "c"
  refine whl (fun m σ H' => ∃ j : Nat, σ = [some (.str z), some (.int (j : Int)), none, none, none] ∧ H' = H ∧ m = z.length - j ∧ j ≤ z.length ∧ ∀ k, k < j → (sl z)[k]? = some 32) z.length ⟨0, rfl, rfl, by omega, by omega, fun k hk => by omega⟩ ?_
  rintro m σ H' ⟨j, rfl, rfl, rfl, hj, hb⟩
  refine ⟨by rw [sizeLine_eq]; omega, ?_⟩
  show bB (decide ((j : Int) < (z.length : Int))) _ _
  have after : blanks (sl z) = j → tSeq (tAsg (tM1 uSplit (L2.tSl (uSl K) (uVar 0) (uPart (uVar 1)) (tNoPart)) (tC (.str " "))) (gName 2)) (tSeq (tAsg (uAndV (tOp uGt (tCB (uLen K) (tCons (uVar 2) (tNil))) (tC (.int 1))) (tOp (uEq2 K) (tOp (uIx K) (uVar 2) (tUn uNeg (tC (.int 1)))) (tC (.str "")))) (gName 3)) (tSeq (uIfS (uT (uVar 3)) (tAsg (L2.tSl (uSl K) (uVar 2) (tNoPart) (uPart (tUn uNeg (tC (.int 1))))) (gName 2)) (tNext)) (tSeq (uIfS (uOr (uT (tOp uGt (uVar 1) (tC (.int 3)))) (uNot (uT (tCB (uAll K) (tCons (tLc (uIter K (uVar 2)) (gName 4) (tYes) (tCall (sp_is_word K ca) [] E0 (tCons (uVar 4) (tNil))) [4]) (tNil)))))) (tRet (tC .non)) (tNext)) (tRet (tTup (tCons (uVar 1) (tCons (uVar 2) (tCons (uVar 3) (tNil)))))))))
      { nx := fun _ H' => Q .non H', rt := Q } [some (.str z), some (.int (j : Int)), none, none, none] H' := by
    intro ej
    subst ej
    refine ⟨by rw [sizeLine_eq]; omega, ⟨_, rfl⟩, by decide +kernel, ?_, fun p hp => ?_⟩
    · have := slen_cut z (some ((blanks (sl z) : Nat) : Int)) none
      rw [sizeLine_eq]; omega
    rw [prt_split]
    have e1 := Ex.new (o := .lst (rowsV (prt (sl z)))) hp
    have hpl := prt_len (sl z)
    refine fol_ok (K := K) (σ := [some (.str z), some (.int ((blanks (sl z) : Nat) : Int)), some (.ref p), none, none]) (p := p) rfl upd_same ?_
    have rest : ∀ (w : Addr) (H1 : Hp), Ex H' H1 → H1 w = some (.lst (rowsV (wds (sl z)))) → tSeq (uIfS (uOr (uT (tOp uGt (uVar 1) (tC (.int 3)))) (uNot (uT (tCB (uAll K) (tCons (tLc (uIter K (uVar 2)) (gName 4) (tYes) (tCall (sp_is_word K ca) [] E0 (tCons (uVar 4) (tNil))) [4]) (tNil)))))) (tRet (tC .non)) (tNext)) (tRet (tTup (tCons (uVar 1) (tCons (uVar 2) (tCons (uVar 3) (tNil)))))) { nx := fun _ H' => Q .non H', rt := Q } [some (.str z), some (.int ((blanks (sl z) : Nat) : Int)), some (.ref w), some (.bl (fol (sl z))), none] H1 := by
      intro w H1 e2 hw
      have hwl := wds_len (sl z)
      show bB (decide ((3 : Int) < ((blanks (sl z) : Nat) : Int))) _ _
      unfold okl at q1 q2
      refine bB_d (fun h3 => ?_) (fun h3 => ?_)
      · rw [decide_eq_false (show ¬ blanks (sl z) ≤ 3 by omega), Bool.false_and] at q1
        exact q1 rfl H1 e2
      · rw [decide_eq_true (show blanks (sl z) ≤ 3 by omega), Bool.true_and] at q1 q2
        walk_at "u"
        refine allw_ok (K := K) (ca := ca) (x0 := some (.str z)) (x1 := some (.int ((blanks (sl z) : Nat) : Int))) (x3 := some (.bl (fol (sl z)))) hw (by omega) (fun v hv => ?_) fun H2 e3 => ?_
        · have h1 := spl_mem (wds_mem hv)
          rw [List.length_drop] at h1
          omega
        · refine bB_of (fun h4 => ?_) (fun h4 => ?_)
          · exact q1 (by simpa using h4) H2 (e2.trans e3)
          · refine ⟨by show 3 ≤ sizeLine; decide, fun t ht => ?_⟩
            exact q2 (by simpa using h4) t w _ ((e2.trans e3).trans (Ex.new ht)) upd_same (by rw [upd_ne (ne_of_none (e3 _ _ hw) ht)]; exact e3 _ _ hw)
    show bB (fol (sl z)) _ _
    refine bB_of (fun hf => ?_) (fun hf => ?_)
    · have ew : wds (sl z) = (prt (sl z)).dropLast := by unfold wds; rw [if_pos hf]
      have key : ∀ R : VK, (∀ r, (upd H' p (.lst (rowsV (prt (sl z))))) r = none → R (.ref r) (upd (upd H' p (.lst (rowsV (prt (sl z))))) r (.lst (rowsV (wds (sl z)))))) → uSl K (.ref p) none (some (-1)) (upd H' p (.lst (rowsV (prt (sl z))))) R := by
        intro R kR
        show (match rdL K (upd H' p (.lst (rowsV (prt (sl z))))) p with | some xs => _ | none => _)
        rw [rdL_of upd_same]
        intro r hr
        rw [cutV_init, rowsV_init, ← ew]
        exact kR r hr
      dsimp only [tAsg, L2.tSl, tNoPart, uPart, tUn, uNeg, tC, gName, List.set]
      refine uVar_of (v := .ref p) rfl ?_
      refine key _ fun r hr => ?_
      exact rest r _ (e1.trans (Ex.new hr)) upd_same
    · have ew : wds (sl z) = prt (sl z) := by unfold wds; rw [hf]; rfl
      exact rest p _ e1 (by rw [ew]; exact upd_same)
  refine bB_d (fun h3 => ?_) (fun h3 => ?_)
  · have h3 : j < (sl z).length := by omega
    have ha : atI (sl z) (j : Int) = some (sl z)[j] := at_nat h3
    refine ⟨by rw [sizeLine_eq]; omega, oK_of ha ?_⟩
    show bB (decide (V.str ⟨#[(sl z)[j]]⟩ = V.str (Str.ofString " "))) _ _
    rw [eq_blank]
    refine bB_d (fun h4 => ?_) (fun h4 => ?_)
    · have h4 : [(sl z)[j]] = [32] := h4
      injection h4 with h4
      refine ⟨_, fun _ _ h => h, ?_⟩
      refine ⟨_, rfl, z.length - (j + 1), by omega, j + 1, rfl, rfl, rfl, by omega, fun k hk => ?_⟩
      rcases Nat.lt_or_ge k j with h | h
      · exact hb k h
      · obtain rfl : k = j := by omega
        rw [List.getElem?_eq_getElem h3, h4]
    · have h4 : ¬ [(sl z)[j]] = [32] := h4
      refine after (blanks_eq j _ hb fun c hc => ?_)
      rw [List.getElem?_eq_getElem h3] at hc
      intro z'
      exact h4 (by rw [Option.some.inj hc, z'])
  · refine after (blanks_eq j _ hb fun c hc => ?_)
    rw [List.getElem?_eq_none (by omega)] at hc; cases hc

/-- the test of one word -/
def tWt (K : PySem.W.Frag) : TS := uIfS (uOr (uNot (uT (uChain uLe uLe (tC (.int 1)) (tCB (uLen K) (tCons (uVar 5) (tNil))) (tC (.int 30))))) (uT (tOp (uNe2 K) (tLc (uIter K (uVar 5)) (gName 6) (uT (tOp (uIn K true) (uVar 6) (tC (.str "abcdefghijklmnopqrstuvwxyz")))) (uVar 6) [6]) (tLst (tNil))))) (tRet (tC .non)) (tNext)
theorem fm_if {α : Type} (p : α → Bool) (f : α → V) : ∀ xs : List α, (xs.map fun x => if p x then some (f x) else none).filterMap id = (xs.filter p).map f
  | [] => rfl
  | x :: xs => by
    rw [List.map_cons, List.filterMap_cons, fm_if p f xs, List.filter_cons]
    cases p x <;> simp
theorem wt_ok {K : PySem.W.Frag} {H : Hp} {D : Ends} {w : List Nat} {x0 x1 x2 x3 x4 : Option V} (hw : w.length ≤ 30000) (so : ∀ c ∈ w, c < 1114112) (k1 : wordL w = false → ∀ H', Ex H H' → D.rt .non H') (k2 : wordL w = true → ∀ H', Ex H H' → D.nx [x0, x1, x2, x3, x4, some (.str (SX.S w)), none] H') :
    tWt K D [x0, x1, x2, x3, x4, some (.str (SX.S w)), none] H := by
  refine ⟨by rw [SX.S_len, sizeLine_eq]; omega, ?_⟩
  show bV (.bl (decide ((1 : Int) ≤ ((SX.S w).length : Int)))) _ _
  rw [SX.S_len]
  refine bV_d (fun h1 => ?_) (fun h1 => ?_)
  · show bB (!decide ((w.length : Int) ≤ 30)) _ _
    refine bB_n (fun h2 => ?_) (fun h2 => ?_)
    · exact k1 (by unfold wordL; rw [decide_eq_false (show ¬ w.length ≤ 30 by omega), Bool.and_false, Bool.false_and]) H (Ex.refl _)
    · have hwd : wordL w = w.all letter := by unfold wordL; rw [decide_eq_true (show w.length ≤ 30 by omega), decide_eq_true (show 1 ≤ w.length by omega)]; rfl
      rw [hwd] at k1 k2
      walk_at "u"
      refine lcy (.str (SX.S w)) (fun R h => h) trivial (fun _ _ => trivial) (by rw [chars_len, SX.S_len, sizeLine_eq]; omega) (w.map fun c => if !letter c then some (.str ⟨#[c]⟩) else none) (by rw [chars_len, SX.S_len, List.length_map]) ?_ ?_
      · intro i y o H' A B hy ho e hA hB
        obtain ⟨c, hc, rfl⟩ := chars_at hy
        have hc : w[i]? = some c := hc
        rw [List.getElem?_map, hc] at ho
        refine ⟨rfl, ?_⟩
        show bB (!decide (c ∈ (Str.ofString "abcdefghijklmnopqrstuvwxyz").cps.toList)) _ _
        rw [mem_letters]
        have ho : o = if !letter c then some (.str ⟨#[c]⟩) else none := (Option.some.inj ho).symm
        refine bB_of (fun h3 => ?_) (fun h3 => ?_)
        · rw [h3] at ho
          exact hA _ _ ho (Ex.refl _)
        · rw [h3] at ho
          exact hB ho _ (Ex.refl _)
      · intro D' H' hD e hl'
        rw [fm_if] at hl'
        have el : ((w.filter fun c => !letter c).map fun c => V.str ⟨#[c]⟩) = ((w.filter fun c => !letter c).map fun c => (⟨#[c]⟩ : Str)).map V.str := by rw [List.map_map]; rfl
        rw [el] at hl'
        refine ⟨by decide, fun p hp => ?_⟩
        have hpD : D' ≠ p := ne_of_none hl' hp
        refine .inl ⟨.list (((w.filter fun c => !letter c).map fun c => (⟨#[c]⟩ : Str)).map PyData.str), .list [], .lst (rdL_sq (rdL_of (by rw [upd_ne hpD]; exact hl'))) (dpAll_str _), .lst (rdL_sq (rdL_of upd_same)) .nil, shaped_strs _ ?_, by decide +kernel, ?_⟩
        · intro y hy
          obtain ⟨c, hc, rfl⟩ := List.mem_map.mp hy
          exact sok_one (so c (List.mem_filter.mp hc).1)
        · rw [eqv_nil]
          have e2 := e.trans (Ex.new (o := .lst []) hp)
          have em : List.isEmpty (((w.filter fun c => !letter c).map fun c => (⟨#[c]⟩ : Str)).map PyData.str) = w.all letter := by
            rw [Bool.eq_iff_iff, List.isEmpty_iff, List.map_eq_nil_iff, List.map_eq_nil_iff, List.filter_eq_nil_iff, List.all_eq_true]
            constructor
            · intro h c hc; have := h c hc; simpa using this
            · intro h c hc; rw [h c hc]; decide
          rw [em]
          refine bB_of (fun h3 => ?_) (fun h3 => ?_)
          · exact k1 (by simpa using h3) _ e2
          · exact k2 (by simpa using h3) _ e2
  · exact k1 (by unfold wordL; rw [decide_eq_false (show ¬ 1 ≤ w.length by omega), Bool.false_and, Bool.false_and]) H (Ex.refl _)
theorem wds_take (row : List Nat) : (prt row).take (((prt row).length : Int) - (if fol row then 1 else 0)).toNat = wds row := by
  unfold wds
  cases h : fol row with
  | true =>
    show (prt row).take (((prt row).length : Int) - 1).toNat = (prt row).dropLast
    rw [List.dropLast_eq_take]; congr 1; omega
  | false =>
    show (prt row).take (((prt row).length : Int) - 0).toNat = prt row
    rw [List.take_of_length_le (by omega)]
theorem len__law_parts {K ca vs H Q E} (h : sp__law_parts K ca vs H Q E) : vs.length = P__law_parts.length := by obtain ⟨z, rfl, _⟩ := h; rfl
theorem p__law_parts {K ca vs H Q E} (T : Ct K ca) (h : sp__law_parts K ca vs H Q E) : t__law_parts K ca { nx := fun _ H' => Q .non H', rt := Q } (start N__law_parts vs) H := by
  obtain ⟨z, rfl, hz, so, q1, q2⟩ := h
  have hzl : (sl z).length = z.length := rfl
  unfold t__law_parts
  walk_at "c"
  refine whl (fun m σ H' => ∃ j : Nat, σ = [some (.str z), some (.int (j : Int)), none, none, none, none, none] ∧ H' = H ∧ m = z.length - j ∧ j ≤ z.length ∧ ∀ k, k < j → (sl z)[k]? = some 32) z.length ⟨0, rfl, rfl, by omega, by omega, fun k hk => by omega⟩ ?_
  rintro m σ H' ⟨j, rfl, rfl, rfl, hj, hb⟩
  refine ⟨by rw [sizeLine_eq]; omega, ?_⟩
  show bB (decide ((j : Int) < (z.length : Int))) _ _
  have after : blanks (sl z) = j → tSeq (tAsg (tM1 uSplit (L2.tSl (uSl K) (uVar 0) (uPart (uVar 1)) (tNoPart)) (tC (.str " "))) (gName 2)) (tSeq (tAsg (uAndV (tOp uGt (tCB (uLen K) (tCons (uVar 2) (tNil))) (tC (.int 1))) (tOp (uEq2 K) (tOp (uIx K) (uVar 2) (tUn uNeg (tC (.int 1)))) (tC (.str "")))) (gName 3)) (tSeq (tAsg (L2.tSl (uSl K) (uVar 2) (tNoPart) (uPart (tOp uSub (tCB (uLen K) (tCons (uVar 2) (tNil))) (tCB uInt (tCons (uVar 3) (tNil)))))) (gName 4)) (tSeq (tFor (uIter K (uVar 4)) (gName 5) (tWt K)) (tRet (uIf (uT (tOp uLt (uVar 1) (tC (.int 4)))) (tLst (tCons (uVar 1) (tCons (uVar 4) (tCons (uVar 3) (tNil))))) (tC .non))))))
      { nx := fun _ H' => Q .non H', rt := Q } [some (.str z), some (.int (j : Int)), none, none, none, none, none] H' := by
    intro ej
    subst ej
    refine ⟨by rw [sizeLine_eq]; omega, ⟨_, rfl⟩, by decide +kernel, ?_, fun p hp => ?_⟩
    · have := slen_cut z (some ((blanks (sl z) : Nat) : Int)) none
      rw [sizeLine_eq]; omega
    rw [prt_split]
    have e1 := Ex.new (o := .lst (rowsV (prt (sl z)))) hp
    have hpl := prt_len (sl z)
    have hwl := wds_len (sl z)
    refine fol_ok (K := K) (σ := [some (.str z), some (.int ((blanks (sl z) : Nat) : Int)), some (.ref p), none, none, none, none]) (p := p) rfl upd_same ?_
    dsimp only [tSeq, tAsg, L2.tSl, tNoPart, uPart, tOp, tCB, tCons, tNil, gName, List.set]
    refine uVar_of (v := .ref p) rfl ?_
    refine uVar_of (v := .ref p) rfl (oS_of (rdS_l upd_same) ?_)
    rw [rowsV_len]
    refine uVar_of (v := .bl (fol (sl z))) rfl ?_
    dsimp only [uInt, uSub]
    have hcut : cutV (rowsV (prt (sl z))) none (some (((prt (sl z)).length : Int) - (if fol (sl z) = true then 1 else 0))) = rowsV (wds (sl z)) := by
      have h0 : 0 ≤ ((prt (sl z)).length : Int) - (if fol (sl z) = true then 1 else 0) := by
        have : 0 < (prt (sl z)).length := List.length_pos_iff.mpr (spl_ne 32 _ _)
        split <;> omega
      have := cutV_upto (rowsV (prt (sl z))) (((prt (sl z)).length : Int) - (if fol (sl z) = true then 1 else 0)).toNat
      rw [Int.toNat_of_nonneg h0] at this
      rw [this]
      unfold rowsV
      rw [← List.map_take, wds_take]
    have key : ∀ R : VK, (∀ r, (upd H' p (.lst (rowsV (prt (sl z))))) r = none → R (.ref r) (upd (upd H' p (.lst (rowsV (prt (sl z))))) r (.lst (rowsV (wds (sl z)))))) → uSl K (.ref p) none (some (((prt (sl z)).length : Int) - (if fol (sl z) = true then 1 else 0))) (upd H' p (.lst (rowsV (prt (sl z))))) R := by
      intro R kR
      show (match rdL K (upd H' p (.lst (rowsV (prt (sl z))))) p with | some xs => _ | none => _)
      rw [rdL_of upd_same]
      intro r hr
      rw [hcut]
      exact kR r hr
    refine key _ fun r hr => ?_
    have e2 := e1.trans (Ex.new (o := .lst (rowsV (wds (sl z)))) hr)
    have hl2 : (upd (upd H' p (.lst (rowsV (prt (sl z))))) r (.lst (rowsV (wds (sl z))))) r = some (.lst (rowsV (wds (sl z)))) := upd_same
    generalize upd (upd H' p (.lst (rowsV (prt (sl z))))) r (.lst (rowsV (wds (sl z)))) = H2 at e2 hl2
    refine fors (tb := tWt K) (.lst r (rowsV (wds (sl z)))) (fun R h => h) (rdL_of hl2) (fun i σ H3 => ∃ x5, σ = [some (.str z), some (.int ((blanks (sl z) : Nat) : Int)), some (.ref p), some (.bl (fol (sl z))), some (.ref r), x5, none] ∧ Ex H2 H3 ∧ ∀ w ∈ (wds (sl z)).take i, wordL w = true) ?_ ?_ ?_ ?_
    · exact ⟨none, rfl, Ex.refl _, fun w hw => by simp at hw⟩
    · rintro i σ H3 _ ⟨x5, rfl, e3, _⟩
      exact rdL_of (e3 _ _ hl2)
    · rintro i y σ H3 hy ⟨x5, rfl, e3, hok⟩
      unfold rowsV at hy
      rw [List.getElem?_map] at hy
      cases hi : (wds (sl z))[i]? with
      | none => rw [hi] at hy; cases hy
      | some w =>
        rw [hi] at hy; cases hy
        have hm := List.mem_of_getElem? hi
        have hlen := spl_mem (wds_mem hm)
        rw [List.length_drop] at hlen
        refine wt_ok (by omega) ?_ (fun hb H4 e4 => ?_) (fun hg H4 e4 => ⟨_, rfl, e3.trans e4, fun v hv => ?_⟩)
        · exact spl_sub 32 (P := fun c => c < 1114112) _ _ (fun c hc => so c (List.mem_of_mem_drop hc)) (fun _ h => by cases h) w (wds_mem hm)
        · refine q1 ?_ H4 ((e2.trans e3).trans e4)
          unfold okl
          have : (wds (sl z)).all wordL = false := by
            rw [Bool.eq_false_iff]
            intro h
            rw [List.all_eq_true.mp h w hm] at hb; cases hb
          rw [this, Bool.and_false]
        · rw [List.take_add_one, hi] at hv
          rcases List.mem_append.mp hv with hv | hv
          · exact hok v hv
          · have : v = w := by simpa using hv
            subst this; exact hg
    · rintro σ H3 ⟨x5, rfl, e3, hok⟩
      rw [rowsV_len, List.take_length] at hok
      have hall : (wds (sl z)).all wordL = true := List.all_eq_true.mpr hok
      show bB (decide (((blanks (sl z) : Nat) : Int) < 4)) _ _
      refine bB_d (fun h3 => ?_) (fun h3 => ?_)
      · refine ⟨by show 3 ≤ sizeLine; decide, fun t ht => ?_⟩
        refine q2 ?_ t r _ ((e2.trans e3).trans (Ex.new ht)) upd_same (by rw [upd_ne (ne_of_none (e3 _ _ hl2) ht)]; exact e3 _ _ hl2)
        unfold okl; rw [hall, decide_eq_true (show blanks (sl z) ≤ 3 by omega)]; rfl
      · refine q1 ?_ H3 (e2.trans e3)
        unfold okl; rw [decide_eq_false (show ¬ blanks (sl z) ≤ 3 by omega), Bool.false_and]
  refine bB_d (fun h3 => ?_) (fun h3 => ?_)
  · have h3 : j < (sl z).length := by omega
    have ha : atI (sl z) (j : Int) = some (sl z)[j] := at_nat h3
    refine ⟨by rw [sizeLine_eq]; omega, oK_of ha ?_⟩
    show bB (decide (V.str ⟨#[(sl z)[j]]⟩ = V.str (Str.ofString " "))) _ _
    rw [eq_blank]
    refine bB_d (fun h4 => ?_) (fun h4 => ?_)
    · have h4 : [(sl z)[j]] = [32] := h4
      injection h4 with h4
      refine ⟨_, fun _ _ h => h, ?_⟩
      refine ⟨z.length - (j + 1), by omega, j + 1, rfl, rfl, rfl, by omega, fun k hk => ?_⟩
      rcases Nat.lt_or_ge k j with h | h
      · exact hb k h
      · obtain rfl : k = j := by omega
        rw [List.getElem?_eq_getElem h3, h4]
    · have h4 : ¬ [(sl z)[j]] = [32] := h4
      refine after (blanks_eq j _ hb fun c hc => ?_)
      rw [List.getElem?_eq_getElem h3] at hc
      intro z'
      exact h4 (by rw [Option.some.inj hc, z'])
  · refine after (blanks_eq j _ hb fun c hc => ?_)
    rw [List.getElem?_eq_none (by omega)] at hc; cases hc

theorem row_at {rows : List (List Nat)} {i : Nat} (h : i < rows.length) : atI (rowsV rows) (i : Int) = some (V.str (SX.S (rows.getD i []))) := by
  refine at_of rfl ?_
  unfold rowsV
  rw [List.getElem?_map, List.getD_eq_getElem?_getD, List.getElem?_eq_getElem h]
  rfl
theorem eq_none (w : List Nat) : decide (V.str (SX.S w) = V.str (Str.ofString "")) = decide (w = []) := by
  rw [eq_fix _ "" (by decide +kernel : (Str.ofString "").cps.toList = [])]
theorem S_nil : Str.ofString "" = SX.S [] := toList_inj (by decide +kernel)
theorem getD_mem {rows : List (List Nat)} {i : Nat} (h : i < rows.length) : rows.getD i [] ∈ rows := by
  rw [List.getD_eq_getElem?_getD, List.getElem?_eq_getElem h]; exact List.getElem_mem h
theorem len_is_right {K ca vs H Q E} (h : sp_is_right K ca vs H Q E) : vs.length = P_is_right.length := by obtain ⟨a, rows, i, rfl, _⟩ := h; rfl
theorem p_is_right {K ca vs H Q E} (T : Ct K ca) (h : sp_is_right K ca vs H Q E) : t_is_right K ca { nx := fun _ H' => Q .non H', rt := Q } (start N_is_right vs) H := by
  obtain ⟨a, rows, i, rfl, hl, hok, hi, q⟩ := h
  have step1 : ∀ R : VK, R (.str (SX.S (aheadR rows i))) H → uIf (uT (tOp uGt (uVar 1) (tC (.int 0)))) (tOp (uIx K) (uVar 0) (tOp uSub (uVar 1) (tC (.int 1)))) (tC (.str "")) [some (.ref a), some (.int (i : Nat)), none, none, none] H R := by
    intro R hR
    show bB (decide ((0 : Int) < (i : Int))) _ _
    unfold aheadR at hR
    refine bB_d (fun h => ?_) (fun h => ?_)
    · rw [if_pos (by omega)] at hR
      have e : (i : Int) - 1 = ((i - 1 : Nat) : Int) := by omega
      refine oS_of (rdS_l hl) ?_
      show oK (atI (rowsV rows) ((i : Int) - 1)) _
      rw [e]
      exact oK_of (row_at (by omega)) hR
    · rw [if_neg (by omega)] at hR
      show R (.str (Str.ofString "")) H
      rw [S_nil]; exact hR
  have step2 : ∀ (x2 : Option V) (R : VK), R (.str (SX.S (behindR rows i))) H → uIf (uT (tOp uLt (tOp (uAdd K) (uVar 1) (tC (.int 1))) (tCB (uLen K) (tCons (uVar 0) (tNil))))) (tOp (uIx K) (uVar 0) (tOp (uAdd K) (uVar 1) (tC (.int 1)))) (tC (.str "")) [some (.ref a), some (.int (i : Nat)), x2, none, none] H R := by
    intro x2 R hR
    refine oS_of (rdS_l hl) ?_
    show bB (decide ((i : Int) + 1 < ((rowsV rows).length : Int))) _ _
    rw [rowsV_len]
    unfold behindR at hR
    refine bB_d (fun h => ?_) (fun h => ?_)
    · rw [if_pos (by omega)] at hR
      have e : (i : Int) + 1 = ((i + 1 : Nat) : Int) := by omega
      refine oS_of (rdS_l hl) ?_
      show oK (atI (rowsV rows) ((i : Int) + 1)) _
      rw [e]
      exact oK_of (row_at (by omega)) hR
    · rw [if_neg (by omega)] at hR
      show R (.str (Str.ofString "")) H
      rw [S_nil]; exact hR
  refine step1 _ ?_
  refine step2 _ _ ?_
  refine oS_of (rdS_l hl) (oK_of (row_at hi) ?_)
  show bB (decide (V.str (SX.S (rows.getD i [])) = V.str (Str.ofString ""))) _ _
  rw [eq_none]
  unfold rightR at q
  refine bB_d (fun h1 => ?_) (fun h1 => ?_)
  · rw [if_pos h1] at q
    show bV (.bl (!decide (V.str (SX.S (aheadR rows i)) = V.str (Str.ofString "")))) _ _
    rw [eq_none]
    refine bV_of (fun h2 => ?_) (fun h2 => ?_)
    · rw [h2, Bool.true_and] at q
      show Q (.bl (!decide (V.str (SX.S (behindR rows i)) = V.str (Str.ofString "")))) H
      rw [eq_none]; exact q H (Ex.refl _)
    · rw [h2, Bool.false_and] at q
      exact q H (Ex.refl _)
  · rw [if_neg h1] at q
    have hm := hok.2 _ (getD_mem hi)
    refine oS_of (rdS_l hl) (oK_of (row_at hi) ?_)
    refine ⟨SX.S (rows.getD i []), rfl, by rw [SX.S_len]; exact hm.1, fun hb H1 e1 => ?_, fun hg t w H1 e1 ht hw => ?_⟩
    · have hb : okl (rows.getD i []) = false := hb
      rw [hb, Bool.false_and] at q
      exact q H1 e1
    · have hg : okl (rows.getD i []) = true := hg
      rw [hg, Bool.true_and] at q
      refine oS_of (rdS_t ht) (oK_of rfl ?_)
      show bV (.bl (!fol (rows.getD i []))) _ _
      refine bV_of (fun h2 => ?_) (fun h2 => ?_)
      · rw [h2, Bool.true_or] at q
        exact q H1 e1
      · rw [h2, Bool.false_or] at q
        show Q (.bl (!decide (V.str (SX.S (behindR rows i)) = V.str (Str.ofString "")))) H1
        rw [eq_none]; exact q H1 e1
/-! the page: any text of signs -/
theorem find_digit {i : Nat} (h : i ∈ [48, 49, 50, 51]) : Txt.find (Str.ofString "0123") ⟨#[i]⟩ = (i : Int) - 48 := by
  simp only [List.mem_cons, List.not_mem_nil, or_false] at h
  rcases h with rfl | rfl | rfl | rfl <;> decide +kernel
def betw : List (Key × V) := [(Sum.inr (Str.ofString "#"), .str "\n\n"), (Sum.inr (Str.ofString "|"), .str "\n"), (Sum.inr (Str.ofString "/"), .str " \n")]
theorem betw_at {k : Nat} (h : k ∈ [35, 124, 47]) : ∃ s : String, L2.valV (mergeK [] betw) (Sum.inr (⟨#[k]⟩ : Str)) = some (.str (Str.ofString s)) ∧ (Str.ofString s).length ≤ 2 := by
  simp only [List.mem_cons, List.not_mem_nil, or_false] at h
  rcases h with rfl | rfl | rfl
  · exact ⟨"\n\n", by decide +kernel, by decide +kernel⟩
  · exact ⟨"\n", by decide +kernel, by decide +kernel⟩
  · exact ⟨" \n", by decide +kernel, by decide +kernel⟩
def tPg (K : PySem.W.Frag) : TS := uIfS (uT (tOp (uEq2 K) (uVar 3) (tC (.str " ")))) (tAsg (tOp (uAdd K) (tOp (uAdd K) (uVar 1) (tC (.str " "))) (uVar 4)) (gName 1)) (tSeq (tAsg (uIf (uT (tOp uGt (uVar 2) (tC (.int 0)))) (tDGet (tDisp [(tC (.str "#"), tC (.str "\n\n")), (tC (.str "|"), tC (.str "\n")), (tC (.str "/"), tC (.str " \n"))]) (tOp (uIx K) (uVar 3) (tC (.int 0)))) (tC (.str ""))) (gName 5)) (tAsg (tOp (uAdd K) (tOp (uAdd K) (tOp (uAdd K) (uVar 1) (uVar 5)) (tOp (uIx K) (tLst (tCons (tC (.str "")) (tCons (tC (.str " ")) (tCons (tC (.str "  ")) (tCons (tC (.str "   ")) (tNil)))))) (tM1 uFind (tC (.str "0123")) (tOp (uIx K) (uVar 3) (tC (.int 1)))))) (uVar 4)) (gName 1)))
theorem pg_ok {K : PySem.W.Frag} {H : Hp} {D : Ends} {z m w : Str} {i : Nat} {x0 x5 : Option V} (hz : z.length ≤ 2000) (so : sok z) (hm : isMark m = true) (hw : isWord w = true)
    (k : ∀ H' z' x5, Ex H H' → z'.length ≤ z.length + 40 → sok z' → D.nx [x0, some (.str z'), some (.int (i : Nat)), some (.str m), some (.str w), x5] H') :
    tPg K D [x0, some (.str z), some (.int (i : Nat)), some (.str m), some (.str w), x5] H := by
  have hwl := (word_len hw).2
  have lb : (Str.ofString " ").length = 1 := by decide +kernel
  show bB (decide (V.str m = V.str (Str.ofString " "))) _ _
  rw [eq_blank]
  refine bB_d (fun h1 => ?_) (fun h1 => ?_)
  · refine ⟨by rw [lb]; exact szl (by omega), szl (by rw [slen_app, lb]; omega), ?_⟩
    exact k H _ _ (Ex.refl _) (by rw [slen_app, slen_app, lb]; omega) (sok_app (sok_app so (sok_of _)) (sok_word hw))
  · rcases mark_forms hm with h | ⟨c, d, hcd, hc, hd⟩
    · exact absurd h h1
    · have a0 : atI m.cps.toList 0 = some c := by rw [hcd]; rfl
      have a1 : atI m.cps.toList 1 = some d := by rw [hcd]; rfl
      have hml : m.length ≤ sizeLine := by have := mark_len hm; rw [sizeLine_eq]; omega
      have rest : ∀ (s : String) (H1 : Hp), Ex H H1 → (Str.ofString s).length ≤ 2 → (tAsg (tOp (uAdd K) (tOp (uAdd K) (tOp (uAdd K) (uVar 1) (uVar 5)) (tOp (uIx K) (tLst (tCons (tC (.str "")) (tCons (tC (.str " ")) (tCons (tC (.str "  ")) (tCons (tC (.str "   ")) (tNil)))))) (tM1 uFind (tC (.str "0123")) (tOp (uIx K) (uVar 3) (tC (.int 1)))))) (uVar 4)) (gName 1)) D [x0, some (.str z), some (.int (i : Nat)), some (.str m), some (.str w), some (.str (Str.ofString s))] H1 := by
        intro s H1 e1 hs
        refine ⟨szl (by omega), by show 4 ≤ sizeLine; decide, fun q hq => ?_⟩
        refine ⟨⟨_, rfl⟩, hml, oK_of a1 ?_⟩
        show oS K (upd H1 q (.lst [.str "", .str " ", .str "  ", .str "   "])) q fun xs => oK (atI xs (Txt.find (Str.ofString "0123") ⟨#[d]⟩)) _
        rw [find_digit hd]
        have hd2 : 48 ≤ d ∧ d ≤ 51 := by simp only [List.mem_cons, List.not_mem_nil, or_false] at hd; omega
        obtain ⟨v, hv, hvm⟩ := pick (xs := [V.str "", .str " ", .str "  ", .str "   "]) (r := (d : Int) - 48) (by omega) (by show _ < (4 : Int); omega)
        refine oS_of (rdS_l upd_same) (oK_of hv ?_)
        have hv2 : ∃ s : String, v = .str (Str.ofString s) ∧ (Str.ofString s).length ≤ 3 := by
          simp only [List.mem_cons, List.not_mem_nil, or_false] at hvm
          rcases hvm with rfl | rfl | rfl | rfl <;> exact ⟨_, rfl, by decide +kernel⟩
        obtain ⟨s2, rfl, hs2⟩ := hv2
        refine ⟨szl (by rw [slen_app]; omega), szl (by rw [slen_app, slen_app]; omega), ?_⟩
        refine k _ _ _ (e1.trans (Ex.new hq)) (by rw [slen_app, slen_app, slen_app]; omega) ?_
        exact sok_app (sok_app (sok_app so (sok_of _)) (sok_of _)) (sok_word hw)
      show bB (decide ((0 : Int) < ((i : Nat) : Int))) _ _
      refine bB_d (fun h2 => ?_) (fun h2 => ?_)
      · obtain ⟨s, hs, hs2⟩ := betw_at hc
        intro q hq
        refine ⟨upd_same, betw, rfl, by show 3 ≤ 15; decide, ?_⟩
        refine ⟨hml, oK_of a0 ⟨q, .str (Str.ofString s), rfl, .inl ⟨_, Sum.inr ⟨#[c]⟩, .inl upd_same, rfl, hs.symm⟩, ?_⟩⟩
        exact rest s _ (Ex.mut (Ex.new hq) hq) hs2
      · exact rest "" H (Ex.refl _) (by decide +kernel)
theorem len__law_page {K ca vs H Q E} (h : sp__law_page K ca vs H Q E) : vs.length = P__law_page.length := by obtain ⟨b, p, ts, rfl, _⟩ := h; rfl
theorem p__law_page {K ca vs H Q E} (T : Ct K ca) (h : sp__law_page K ca vs H Q E) : t__law_page K ca { nx := fun _ H' => Q .non H', rt := Q } (start N__law_page vs) H := by
  obtain ⟨b, p, ts, rfl, ht, hg, hl, q⟩ := h
  obtain ⟨g1, vs, g2, g3⟩ := ht
  have hlen := g3.len
  unfold t__law_page
  walk_at "c"
  refine fore (tb := tPg K) (a := p) (xs := vs) (fun R h => h) (.inl (.inl g2)) (fun i σ H' => ∃ z x2 x3 x4 x5, σ = [some (.ref p), some (.str z), x2, x3, x4, x5] ∧ Ex H H' ∧ z.length ≤ 40 * i ∧ sok z) ?_ ?_ ?_ ?_
  · exact ⟨Str.ofString "", none, none, none, none, rfl, Ex.refl _, by decide +kernel, sok_of _⟩
  · rintro i σ H' _ ⟨z, x2, x3, x4, x5, rfl, e, _⟩
    exact .inl (.inl (e _ _ g2))
  · rintro i y σ H1 Tt hy ⟨z, x2, x3, x4, x5, rfl, e1, hz, so⟩ hT
    obtain ⟨t, r, ht1, rfl, hr, er⟩ := g3.at hy
    have hi : i < vs.length := (List.getElem?_eq_some_iff.mp hy).1
    have e2 := Ex.new (o := .tup [.int (i : Nat), .ref r]) hT
    refine ts_t upd_same rfl ⟨_, _, rfl, _, _, rfl, ts_two (.inl (e2 _ _ (e1 _ _ er))) ⟨rfl, ?_⟩⟩
    have hgt := hg.1 t (List.mem_of_getElem? ht1)
    refine pg_ok (by omega) so hgt.1 hgt.2 fun H3 z' x5 e3 hz' so' => ⟨z', _, _, _, x5, rfl, (e1.trans e2).trans e3, by omega, so'⟩
  · rintro σ H1 ⟨z, x2, x3, x4, x5, rfl, e1, hz, so⟩
    exact q z H1 e1 (by omega) so

theorem joinL_len (s : List Nat) : ∀ ps : List (List Nat), (TL.joinL s ps).length ≤ (ps.map (·.length)).sum + ps.length * s.length
  | [] => by simp [TL.joinL]
  | [p] => by simp [TL.joinL]
  | p :: q :: r => by
    have := joinL_len s (q :: r)
    show (p ++ (s ++ TL.joinL s (q :: r))).length ≤ _
    rw [List.length_append, List.length_append, List.map_cons, List.sum_cons, List.length_cons, Nat.succ_mul]
    omega
theorem joinL_mem (s : List Nat) {c : Nat} : ∀ ps : List (List Nat), c ∈ TL.joinL s ps → c ∈ s ∨ ∃ p ∈ ps, c ∈ p
  | [], h => by simp [TL.joinL] at h
  | [p], h => .inr ⟨p, List.mem_cons_self, by simpa [TL.joinL] using h⟩
  | p :: q :: r, h => by
    have h : c ∈ p ++ (s ++ TL.joinL s (q :: r)) := h
    rw [List.mem_append, List.mem_append] at h
    rcases h with h | h | h
    · exact .inr ⟨p, List.mem_cons_self, h⟩
    · exact .inl h
    · rcases joinL_mem s (q :: r) h with h | ⟨x, hx, h⟩
      · exact .inl h
      · exact .inr ⟨x, List.mem_cons_of_mem _ hx, h⟩
theorem slen_cuts (z : Str) {r s : Int} (h0 : 0 ≤ r) (h1 : r ≤ s) : (cutS z none (some r)).length + (cutS z (some s) none).length ≤ z.length := by
  have e1 := sl_upto z r.toNat
  have e2 := sl_from z s.toNat
  rw [show ((r.toNat : Nat) : Int) = r by omega] at e1
  rw [show ((s.toNat : Nat) : Int) = s by omega] at e2
  rw [sl_len, sl_len, e1, e2, List.length_take, List.length_drop, sl_len]
  omega
theorem mul_z : Txt.mul (Str.ofString "z") 30 = Str.ofString "zzzzzzzzzzzzzzzzzzzzzzzzzzzzzz" := by decide +kernel
theorem mulOk_z : MulOk (Str.ofString "z") 30 := ⟨by decide +kernel, by decide +kernel, by decide +kernel⟩
theorem add_ii {K : PySem.W.Frag} {i j : Int} {H : Hp} {Q : VK} (q : Q (.int (i + j)) H) : uAdd K (.int i) (.int j) H Q := q
/-! slices and sums of rows -/
theorem cut_rows {K : PySem.W.Frag} {a : Addr} {rows : List (List Nat)} {lo hi : Option Int} {H : Hp} {Q : VK} {rows' : List (List Nat)} (hl : H a = some (.lst (rowsV rows))) (he : cutV (rowsV rows) lo hi = rowsV rows') (q : ∀ p H', Ex H H' → H' p = some (.lst (rowsV rows')) → Q (.ref p) H') : uSl K (.ref a) lo hi H Q := by
  show (match rdL K H a with | some xs => _ | none => _)
  rw [rdL_of hl]
  intro p hp
  rw [he]
  exact q p _ (Ex.new hp) upd_same
theorem add_rows {K : PySem.W.Frag} {a b : Addr} {r1 r2 : List (List Nat)} {H : Hp} {Q : VK} (h1 : H a = some (.lst (rowsV r1))) (h2 : H b = some (.lst (rowsV r2))) (hl : r1.length + r2.length ≤ 100000) (q : ∀ p H', Ex H H' → H' p = some (.lst (rowsV (r1 ++ r2))) → Q (.ref p) H') : uAdd K (.ref a) (.ref b) H Q := by
  refine ⟨_, _, h1, h2, by rw [rowsV_len, rowsV_len]; exact szl hl, fun p hp => q p _ (Ex.new hp) ?_⟩
  rw [upd_same]; unfold rowsV; rw [List.map_append]
theorem rows_upto (rows : List (List Nat)) {n : Int} (h : 0 ≤ n) : cutV (rowsV rows) none (some n) = rowsV (rows.take n.toNat) := by
  have := cutV_upto (rowsV rows) n.toNat
  rw [Int.toNat_of_nonneg h] at this
  rw [this]; unfold rowsV; rw [List.map_take]
theorem rows_from (rows : List (List Nat)) {n : Int} (h : 0 ≤ n) : cutV (rowsV rows) (some n) none = rowsV (rows.drop n.toNat) := by
  have := cutV_from (rowsV rows) n.toNat
  rw [Int.toNat_of_nonneg h] at this
  rw [this]; unfold rowsV; rw [List.map_drop]
theorem rows_mid (rows : List (List Nat)) {n : Int} (h : 0 ≤ n) : cutV (rowsV rows) (some n) (some (n + 1)) = rowsV ((rows.drop n.toNat).take 1) := by
  unfold cutV
  have h1 := HT.sIx_nat (rowsV rows).length 0 n.toNat
  have h2 := HT.sIx_nat (rowsV rows).length (rowsV rows).length (n.toNat + 1)
  rw [Int.toNat_of_nonneg h] at h1
  rw [show ((n.toNat + 1 : Nat) : Int) = n + 1 by omega] at h2
  rw [h1, h2]
  have := cut_mid (rowsV rows) n.toNat (n.toNat + 1)
  rw [this, show n.toNat + 1 - n.toNat = 1 by omega]
  unfold rowsV; rw [List.map_take, List.map_drop]
def sumL (rows : List (List Nat)) : Nat := (rows.map (·.length)).sum
theorem sumL_app (a b : List (List Nat)) : sumL (a ++ b) = sumL a + sumL b := by unfold sumL; rw [List.map_append, List.sum_append]
theorem sumL_cut (rows : List (List Nat)) (n : Nat) : sumL (rows.take n) + sumL (rows.drop n) = sumL rows := by rw [← sumL_app, List.take_append_drop]
theorem join_rows {K : PySem.W.Frag} {H : Hp} {Q : VK} {p : Addr} {rows : List (List Nat)} (hl : H p = some (.lst (rowsV rows))) (hs : sumL rows + rows.length ≤ 20000) (so : ∀ r ∈ rows, ∀ c ∈ r, c < 1114112) (q : ∀ z, z.length ≤ sumL rows + rows.length → sok z → Q (.str z) H) :
    uJoin K (.str (Str.ofString "\n")) [.ref p] H Q := by
  have ln : (Str.ofString "\n").length = 1 := by decide +kernel
  have es : ((rows.map SX.S).map (·.length)).sum = sumL rows := by
    unfold sumL
    rw [List.map_map]
    exact congrArg List.sum (List.map_congr_left fun r _ => SX.S_len r)
  refine oS_of (rdS_l hl) ⟨rows.map SX.S, ?_, ?_, q _ ?_ ?_⟩
  · rw [rowsV_map]
  · rw [es, List.length_map, ln]; omega
  · rw [sl_len, sl_join]
    have := joinL_len (sl (Str.ofString "\n")) ((rows.map SX.S).map sl)
    have e2 : ((rows.map SX.S).map sl) = rows := by
      rw [List.map_map]
      conv => rhs; rw [← List.map_id rows]
      rfl
    rw [e2] at this ⊢
    have l2 : (sl (Str.ofString "\n")).length = 1 := ln
    rw [l2] at this
    unfold sumL; omega
  · intro c hc
    rw [sl_join] at hc
    rcases joinL_mem _ _ hc with hc | ⟨x, hx, hc⟩
    · exact sok_of "\n" c hc
    · obtain ⟨y, hy, rfl⟩ := List.mem_map.mp hx
      obtain ⟨r, hr, rfl⟩ := List.mem_map.mp hy
      exact so r hr c hc
theorem len__law_changed {K ca vs H Q E} (h : sp__law_changed K ca vs H Q E) : vs.length = P__law_changed.length := by obtain ⟨b, n, z, rfl, _⟩ := h; rfl
theorem p__law_changed {K ca vs H Q E} (T : Ct K ca) (h : sp__law_changed K ca vs H Q E) : t__law_changed K ca { nx := fun _ H' => Q .non H', rt := Q } (start N__law_changed vs) H := by
  obtain ⟨b, n, z, rfl, B, hn, hz, so, q⟩ := h
  have hzl : (sl z).length = z.length := rfl
  refine ⟨by rw [sizeLine_eq]; omega, b, _, _, rfl, B, by omega, by show (0 : Int) < (z.length : Int) + 1; omega, by show (z.length : Int) + 1 ≤ 100000000; omega, fun r H1 a1 c1 B1 f1 => ?_⟩
  refine ⟨b, _, _, rfl, B1, by omega, by decide, by decide, fun way H2 a2 c2 B2 f2 => ?_⟩
  refine ⟨mulOk_z, by show 11 ≤ sizeLine; decide, fun q1 h1 => ?_⟩
  rw [mul_z]
  refine ⟨b, _, _, rfl, B2.new h1, by omega, by decide, by decide, fun r3 H3 a3 c3 B3 f3 => ?_⟩
  have hl := f3 q1 _ upd_same (B2.ne h1)
  obtain ⟨v, hv, hm⟩ := pick (xs := [V.str "a", .str " ", .str "\n", .str " \n", .str "\n\n", .str "    ", .str "A", .str "-", .str "1", .str "\n ", .str "zzzzzzzzzzzzzzzzzzzzzzzzzzzzzz"]) a3 c3
  refine oS_of (rdS_l hl) (oK_of hv ?_)
  have hv : ∃ s : String, v = .str (Str.ofString s) ∧ (Str.ofString s).length ≤ 30 := by
    simp only [List.mem_cons, List.not_mem_nil, or_false] at hm
    rcases hm with rfl | rfl | rfl | rfl | rfl | rfl | rfl | rfl | rfl | rfl | rfl <;> exact ⟨_, rfl, by decide +kernel⟩
  obtain ⟨s, rfl, hs⟩ := hv
  have F3 : Fr b H H3 := (f1.trans f2).trans ((Fr.new h1).trans f3)
  have k1 := slen_cuts z a1 (Int.le_refl r)
  have k2 := slen_cuts z (r := r) (s := r + 1) a1 (by omega)
  have d1 := slen_cut z none (some r)
  have sz : z.length ≤ sizeLine := by rw [sizeLine_eq]; omega
  show bB (decide (way < 3)) _ _
  refine bB_d (fun h => ?_) (fun w0 => ?_)
  · refine ⟨sz, szl (by omega), sz, szl (by rw [slen_app]; omega), ?_⟩
    exact q _ H3 (B3.le (by omega)) F3 (by rw [slen_app, slen_app]; omega) (sok_app (sok_app (sok_cut so _ _) (sok_of _)) (sok_cut so _ _))
  show bB (decide (V.int way = V.int 3)) _ _
  refine bB_d (fun h => ?_) (fun w1 => ?_)
  · refine ⟨sz, sz, szl (by omega), ?_⟩
    exact q _ H3 (B3.le (by omega)) F3 (by rw [slen_app]; omega) (sok_app (sok_cut so _ _) (sok_cut so _ _))
  show bB (decide (V.int way = V.int 4)) _ _
  refine bB_d (fun h => ?_) (fun w2 => ?_)
  · refine ⟨sz, szl (by omega), sz, szl (by rw [slen_app]; omega), ?_⟩
    exact q _ H3 (B3.le (by omega)) F3 (by rw [slen_app, slen_app]; omega) (sok_app (sok_app (sok_cut so _ _) (sok_of _)) (sok_cut so _ _))
  refine ⟨⟨_, rfl⟩, by decide +kernel, by rw [sizeLine_eq]; omega, fun p hp => ?_⟩
  have er : (Txt.split z (Str.ofString "\n")).map V.str = rowsV (spl 10 [] (sl z)) := by rw [split_S z "\n" (s := 10) (by decide +kernel) (by decide), rowsV_map]
  rw [er]
  have hsz := spl_size 10 (sl z) []
  have hne := spl_ne 10 (sl z) []
  have hso := spl_sub 10 (P := fun c => c < 1114112) (sl z) [] so (fun _ h => by cases h)
  have hpos := List.length_pos_iff.mpr hne
  have hsz : sumL (spl 10 [] (sl z)) + (spl 10 [] (sl z)).length = z.length + 1 := by rw [List.length_nil] at hsz; unfold sumL; omega
  generalize spl 10 [] (sl z) = rows at hsz hso hpos
  refine oS_of (rdS_l upd_same) ?_
  rw [rowsV_len]
  refine ⟨b, _, _, rfl, B3.new hp, by omega, by omega, by omega, fun k H5 a5 c5 B5 f5 => ?_⟩
  have hl5 := f5 p _ upd_same (B3.ne hp)
  have F5 : Fr b H H5 := F3.trans ((Fr.new hp).trans f5)
  have sc := sumL_cut rows k.toNat
  have lt : (rows.take k.toNat).length + (rows.drop k.toNat).length = rows.length := by rw [← List.length_append, List.take_append_drop]
  have fin : ∀ (rows' : List (List Nat)) (p' : Addr) (H6 : Hp), Ex H5 H6 → H6 p' = some (.lst (rowsV rows')) → sumL rows' + rows'.length ≤ 2 * z.length + 3 → (∀ r ∈ rows', r ∈ rows) → uJoin K (.str (Str.ofString "\n")) [.ref p'] H6 Q := by
    intro rows' p' H6 e6 hl6 hs6 hm6
    exact join_rows hl6 (by omega) (fun r hr => hso r (hm6 r hr)) fun z' hz' so' => q z' H6 ((B5.ex e6).le (by omega)) (F5.trans (Fr.ex e6)) (by omega) so'
  have mt : ∀ r ∈ rows.take k.toNat, r ∈ rows := fun r hr => List.mem_of_mem_take hr
  have md : ∀ r ∈ rows.drop k.toNat, r ∈ rows := fun r hr => List.mem_of_mem_drop hr
  have sc1 := sumL_cut (rows.drop k.toNat) 1
  have ek : (k + 1).toNat = k.toNat + 1 := by omega
  show bB (decide (V.int way = V.int 5)) _ _
  refine bB_d (fun h => ?_) (fun w3 => ?_)
  · refine ⟨⟨_, rfl⟩, ?_⟩
    dsimp only [tOp, L2.tSl, tNoPart, uPart, tC]
    refine uVar_of (v := .ref p) rfl (uVar_of (v := .int k) rfl ?_)
    refine cut_rows hl5 (rows_upto rows a5) fun p1 H6 e6 g1 => ?_
    refine uVar_of (v := .ref p) rfl (uVar_of (v := .int k) rfl (uVar_of (v := .int k) rfl ?_))
    refine add_ii ?_
    dsimp only
    refine cut_rows (lo := some k) (hi := some (k + 1)) (e6 _ _ hl5) (rows_mid rows a5) fun p2 H7 e7 g2 => ?_
    have e67 := e6.trans e7
    have l1 : ((rows.drop k.toNat).take 1).length ≤ 1 := by rw [List.length_take]; omega
    refine add_rows (e7 _ _ g1) g2 (by omega) fun p3 H8 e8 g3 => ?_
    have e68 := e67.trans e8
    refine uVar_of (v := .ref p) rfl (uVar_of (v := .int k) rfl ?_)
    refine cut_rows (e68 _ _ hl5) (rows_from rows a5) fun p4 H9 e9 g4 => ?_
    refine add_rows (e9 _ _ g3) g4 (by rw [List.length_append]; omega) fun p5 H10 e10 g5 => ?_
    refine fin _ p5 H10 ((e68.trans e9).trans e10) g5 ?_ ?_
    · rw [sumL_app, sumL_app, List.length_append, List.length_append]
      omega
    · intro r hr
      rw [List.mem_append, List.mem_append] at hr
      rcases hr with (hr | hr) | hr
      · exact mt r hr
      · exact md r (List.mem_of_mem_take hr)
      · exact md r hr
  show bB (decide (V.int way = V.int 6)) _ _
  refine bB_d (fun h => ?_) (fun w4 => ?_)
  · refine ⟨⟨_, rfl⟩, ?_⟩
    dsimp only [tOp, L2.tSl, tNoPart, uPart, tC]
    refine uVar_of (v := .ref p) rfl (uVar_of (v := .int k) rfl ?_)
    refine cut_rows hl5 (rows_upto rows a5) fun p1 H6 e6 g1 => ?_
    refine uVar_of (v := .ref p) rfl (uVar_of (v := .int k) rfl ?_)
    refine add_ii ?_
    dsimp only
    refine cut_rows (lo := some (k + 1)) (hi := none) (e6 _ _ hl5) (rows_from rows (by omega)) fun p2 H7 e7 g2 => ?_
    have lt2 : (rows.drop (k + 1).toNat).length ≤ (rows.drop k.toNat).length := by rw [List.length_drop, List.length_drop]; omega
    have s2 : sumL (rows.drop (k + 1).toNat) ≤ sumL (rows.drop k.toNat) := by
      rw [ek]
      rw [List.drop_drop] at sc1
      omega
    refine add_rows (e7 _ _ g1) g2 (by omega) fun p3 H8 e8 g3 => ?_
    refine fin _ p3 H8 ((e6.trans e7).trans e8) g3 ?_ ?_
    · rw [sumL_app, List.length_append]; omega
    · intro r hr
      rw [List.mem_append] at hr
      rcases hr with hr | hr
      · exact mt r hr
      · exact List.mem_of_mem_drop hr
  · refine ⟨⟨_, rfl⟩, ?_⟩
    dsimp only [tOp, L2.tSl, tNoPart, uPart, tC]
    refine uVar_of (v := .ref p) rfl (uVar_of (v := .int k) rfl ?_)
    refine cut_rows hl5 (rows_from rows a5) fun p1 H6 e6 g1 => ?_
    refine uVar_of (v := .ref p) rfl (uVar_of (v := .int k) rfl ?_)
    refine cut_rows (e6 _ _ hl5) (rows_upto rows a5) fun p2 H7 e7 g2 => ?_
    refine add_rows (e7 _ _ g1) g2 (by omega) fun p3 H8 e8 g3 => ?_
    refine fin _ p3 H8 ((e6.trans e7).trans e8) g3 ?_ ?_
    · rw [sumL_app, List.length_append]; omega
    · intro r hr
      rw [List.mem_append] at hr
      rcases hr with hr | hr
      · exact md r hr
      · exact mt r hr

theorem S_blank : Str.ofString " " = SX.S [32] := toList_inj cps_blank
theorem toks_app {b : Addr} {H : Hp} {vs ws : List V} {ts us : List Tk} (h1 : ToksAt b H vs ts) (h2 : ToksAt b H ws us) : ToksAt b H (vs ++ ws) (ts ++ us) := by
  show DnAll b H (vs ++ ws) ((ts ++ us).map tokD)
  rw [List.map_append]
  exact DnAll.app h1 h2
theorem tC_of {v : V} {σ : L2.St} {H : Hp} {Q : VK} (q : Q v H) : tC v σ H Q := q
theorem lc_at {K : PySem.W.Frag} {tx : TE} {g : TG} {tt : TT} {te : TE} {vs : List Nat} {σ : L2.St} {H : Hp} {Q : VK} (h : tx σ H fun x H1 => tLc (uIter K fun _ H R => R x H) g tt te vs σ H1 Q) : tLc (uIter K tx) g tt te vs σ H Q := h
theorem comp_ok {K : PySem.W.Frag} {b : Addr} {j : Nat} {σ : L2.St} {H : Hp} {Q : VK} {q : Addr} {ws : List (List Nat)} (hl : H q = some (.lst (rowsV ws))) (hb : ∃ o, H b = some o) (hn : ws.length ≤ 30000)
    (hwp : ∀ y, wipe ((wipe σ [j]).set j (some y)) [j] = wipe σ [j]) (hj : ∀ y, ((wipe σ [j]).set j (some y))[j]? = some (some y))
    (k : ∀ D H' us, H D = none → Ex H H' → H' D = some (.lst us) → ToksAt b H' us ((ws.map fun v => (([32], v) : TkL)).map toTk) → Q (.ref D) H') :
    tLc (uIter K fun _ H R => R (.ref q) H) (gName j) (tYes) (tTup (tCons (tC (.str " ")) (tCons (uVar j) (tNil)))) [j] σ H Q := by
  obtain ⟨o, ho⟩ := hb
  refine lcs (.lst q (rowsV ws)) (fun R h => h) (rdL_of hl) (fun D i H' => H D = none ∧ Ex H H' ∧ ∃ us, H' D = some (.lst us) ∧ ToksAt b H' us (((ws.take i).map fun v => (([32], v) : TkL)).map toTk)) ?_ ?_ ?_ ?_
  · exact fun D hD => ⟨hD, Ex.new hD, [], upd_same, by rw [List.take_zero]; exact .nil⟩
  · rintro D i H' _ ⟨_, e, _⟩
    exact rdL_of (e _ _ hl)
  · rintro D i y H1 hy ⟨hD, e1, us, hu, ht⟩
    unfold rowsV at hy
    rw [List.getElem?_map] at hy
    cases hi : ws[i]? with
    | none => rw [hi] at hy; cases hy
    | some w =>
      rw [hi] at hy; cases hy
      refine ⟨hwp _, ?_⟩
      dsimp only [tYes, bB, tTup, tCons, tNil, tC]
      refine uVar_of (hj _) ⟨by show 2 ≤ sizeLine; decide, fun t hT => ?_⟩
      have hDt : D ≠ t := ne_of_none hu hT
      have hu2 : (upd H1 t (.tup [.str (Str.ofString " "), .str (SX.S w)])) D = some (.lst us) := by rw [upd_ne hDt]; exact hu
      have htb : t ≠ b := (ne_of_none (e1 _ _ ho) hT).symm
      have hul := ht.len
      rw [List.length_map, List.length_map, List.length_take] at hul
      have hi2 : i < ws.length := (List.getElem?_eq_some_iff.mp hi).1
      refine ⟨us, hu2, szt (by omega), hD, Ex.mut (e1.trans (Ex.new hT)) hD, us ++ [.ref t], upd_same, ?_⟩
      rw [List.take_add_one, hi]
      show ToksAt b _ _ (((ws.take i ++ [w]).map fun v => (([32], v) : TkL)).map toTk)
      rw [List.map_append, List.map_append]
      refine ((ht.ex (Ex.new hT)).set hu2).snoc (tok_dn htb ?_)
      rw [upd_ne hDt.symm, upd_same, S_blank]; rfl
  · rintro D H1 hD ⟨_, e1, us, hu, ht⟩
    rw [rowsV_len, List.take_length] at ht
    exact k D H1 us hD e1 hu ht
theorem dig_str {d : Nat} (h : d ≤ 3) : Str.ofString (toString ((d : Nat) : Int)) = ⟨#[48 + d]⟩ := by
  have : d = 0 ∨ d = 1 ∨ d = 2 ∨ d = 3 := by omega
  rcases this with rfl | rfl | rfl | rfl <;> decide +kernel
theorem rows_ok {z : Str} (hz : z.length ≤ 5000) (so : sok z) : RowsOk (rowsOf z) ∧ tot (rowsOf z) (rowsOf z).length ≤ z.length + 1 := by
  unfold rowsOf
  split
  · exact ⟨⟨by simp, fun r hr => by cases hr⟩, by simp [tot]⟩
  · have h := spl_size 10 (sl z) []
    have hzl : (sl z).length = z.length := rfl
    refine ⟨⟨by rw [List.length_nil] at h; omega, fun r hr => ⟨?_, ?_⟩⟩, ?_⟩
    · have := spl_mem hr; omega
    · exact spl_sub 10 (P := fun c => c < 1114112) (sl z) [] so (fun _ h => by cases h) r hr
    · rw [tot_spl]; omega
theorem kind_S (k : Nat) : (⟨#[k]⟩ : Str) = SX.S [k] := sl_inj rfl
theorem rowT_cons {k : Nat} {row w : List Nat} {r : List (List Nat)} (hr : row ≠ []) (e : wds row = w :: r) : rowT k row = ([k, 48 + blanks row], w) :: r.map fun v => ([32], v) := by
  unfold rowT
  rw [if_neg hr, e]
/-- one line of a page -/
def tLn (K : PySem.W.Frag) (ca : Nat → Addr) (E : XK) : TS := tSeq (uIfS (uNot (uT (tCall (sp_is_right K ca) [] E0 (tCons (uVar 1) (tCons (uVar 4) (tNil)))))) (uRaise (ca 1) "line" E (tCons (uVar 4) (tNil))) (tNext)) (uIfS (uT (tOp (uEq2 K) (uVar 5) (tC (.str "")))) (tAsg (tC (.str "#")) (gName 3)) (tSeq (tAsg (tCall (sp_split_line K ca) [] E0 (tCons (uVar 5) (tNil))) (gTs K 3 (gCons (gName 6) (gCons (gName 7) (gCons (gName 8) (gNil)))))) (tSeq (tDrop (tBM K "list" uAppend (uVar 2) (tCons (tTup (tCons (tOp (uAdd K) (uVar 3) (tCB uStr (tCons (uVar 6) (tNil)))) (tCons (tOp (uIx K) (uVar 7) (tC (.int 0))) (tNil)))) (tNil)))) (tSeq (tDrop (tBM K "list" uExtend (uVar 2) (tCons (tLc (uIter K (L2.tSl (uSl K) (uVar 7) (uPart (tC (.int 1))) (tNoPart))) (gName 9) (tYes) (tTup (tCons (tC (.str " ")) (tCons (uVar 9) (tNil)))) [9]) (tNil)))) (tAsg (uIf (uT (uVar 8)) (tC (.str "/")) (tC (.str "|"))) (gName 3))))))
theorem ln_ok {K : PySem.W.Frag} {ca : Nat → Addr} {E : XK} {H0 H : Hp} {D : Ends} {b a p : Addr} {rows : List (List Nat)} {i : Nat} {us : List V} {ts : List TkL} {x0 x6 x7 x8 : Option V} (hok : RowsOk rows) (hi : i < rows.length) (hob : ∃ o, H0 b = some o) (e0 : Ex H0 H) (hp0 : H0 p = none) (ha : H a = some (.lst (rowsV rows))) (hap : a ≠ p) (hp : H p = some (.lst us)) (ht : ToksAt b H us (ts.map toTk)) (hl : ts.length ≤ 50000)
    (k1 : rightR rows i = false → ∀ H', Ex H0 H' → RsL ca 1 (.int (i : Nat)) H' E)
    (k2 : rightR rows i = true → ∀ H' us' x6 x7 x8, Ex H0 H' → H' a = some (.lst (rowsV rows)) → H' p = some (.lst us') → ToksAt b H' us' ((ts ++ rowT (kindR rows i) (rows.getD i [])).map toTk) →
      D.nx [x0, some (.ref a), some (.ref p), some (.str ⟨#[kindR rows (i + 1)]⟩), some (.int (i : Nat)), some (.str (SX.S (rows.getD i []))), x6, x7, x8, none] H') :
    tLn K ca E D [x0, some (.ref a), some (.ref p), some (.str ⟨#[kindR rows i]⟩), some (.int (i : Nat)), some (.str (SX.S (rows.getD i []))), x6, x7, x8, none] H := by
  obtain ⟨ob, ho⟩ := hob
  have hm := hok.2 _ (getD_mem hi)
  refine ⟨a, rows, i, rfl, ha, hok, hi, fun H1 e1 => ?_⟩
  refine bB_of (fun h1 => ?_) (fun h1 => ?_)
  · exact k1 (by simpa using h1) H1 (e0.trans e1)
  have h1 : rightR rows i = true := by simpa using h1
  have kn := kind_next h1
  show bB (decide (V.str (SX.S (rows.getD i [])) = V.str (Str.ofString ""))) _ _
  rw [eq_none]
  refine bB_d (fun h2 => ?_) (fun h2 => ?_)
  · rw [if_pos h2] at kn
    have hT : ts ++ rowT (kindR rows i) (rows.getD i []) = ts := by unfold rowT; rw [if_pos h2, List.append_nil]
    have e35 : Str.ofString "#" = (⟨#[kindR rows (i + 1)]⟩ : Str) := by rw [kn]; exact toList_inj (by decide +kernel)
    have := k2 h1 H1 us x6 x7 x8 (e0.trans e1) (e1 _ _ ha) (e1 _ _ hp) (by rw [hT]; exact ht.ex e1)
    rw [← e35] at this
    exact this
  · rw [if_neg h2] at kn
    have hokl : okl (rows.getD i []) = true := by
      unfold rightR at h1
      rw [if_neg h2, Bool.and_eq_true] at h1
      exact h1.1
    have hbl : blanks (rows.getD i []) ≤ 3 := by
      unfold okl at hokl
      rw [Bool.and_eq_true, decide_eq_true_eq] at hokl
      exact hokl.1
    refine ⟨SX.S (rows.getD i []), rfl, by rw [SX.S_len]; exact hm.1, fun hb => ?_, fun hg t w H2 e2 hT hw => ?_⟩
    · have hb : okl (rows.getD i []) = false := hb
      rw [hokl] at hb; cases hb
    have hT : H2 t = some (.tup [.int (blanks (rows.getD i []) : Nat), .ref w, .bl (fol (rows.getD i []))]) := hT
    have hw : H2 w = some (.lst (rowsV (wds (rows.getD i [])))) := hw
    have hwl := wds_len (rows.getD i [])
    have hwn := wds_ne (row := rows.getD i [])
    refine ts_t hT rfl ⟨_, _, rfl, _, _, rfl, _, _, rfl, rfl, ?_⟩
    cases hws : wds (rows.getD i []) with
    | nil => exact absurd hws hwn
    | cons w0 wr =>
      rw [hws] at hw hwl
      have e12 := e1.trans e2
      have hp2 := e12 _ _ hp
      have l1 : ∀ k : Nat, (⟨#[k]⟩ : Str).length = 1 := fun _ => rfl
      refine ⟨.inl ⟨rfl, _, .inl (.inl hp2)⟩, ?_⟩
      refine ⟨log_small (i := ((blanks (rows.getD i []) : Nat) : Int)) (by omega) (by omega), ?_⟩
      show _ ∧ _
      have hds : Str.ofString (toString ((blanks (rows.getD i []) : Nat) : Int)) = ⟨#[48 + blanks (rows.getD i [])]⟩ := dig_str hbl
      refine ⟨by show 1 + (Str.ofString (toString ((blanks (rows.getD i []) : Nat) : Int))).length ≤ sizeLine; rw [hds]; show 1 + 1 ≤ sizeLine; decide, ?_⟩
      refine oS_of (rdS_l hw) (oK_of (x := .str (SX.S w0)) (at_head _ _) ?_)
      refine ⟨by show 2 ≤ sizeLine; decide, fun r hr => ?_⟩
      have hrb : r ≠ b := (ne_of_none (e2 _ _ (e1 _ _ (e0 _ _ ho))) hr).symm
      have e3 := Ex.new (o := .tup [.str ((⟨#[kindR rows i]⟩ : Str) ++ Str.ofString (toString ((blanks (rows.getD i []) : Nat) : Int))), .str (SX.S w0)]) hr
      have hp3 := e3 _ _ hp2
      have hrp : r ≠ p := (ne_of_none hp2 hr).symm
      have htl := ht.len
      rw [List.length_map] at htl
      refine oK_of (mutL_of hp3) ⟨szt (by omega), ?_⟩
      have ht3 := (ht.ex (e12.trans e3)).set (ys := us ++ [.ref r]) hp3
      have htok : ToksAt b (upd (upd H2 r (.tup [.str ((⟨#[kindR rows i]⟩ : Str) ++ Str.ofString (toString ((blanks (rows.getD i []) : Nat) : Int))), .str (SX.S w0)])) p (.lst (us ++ [.ref r]))) (us ++ [.ref r]) ((ts ++ [(([kindR rows i, 48 + blanks (rows.getD i [])], w0) : TkL)]).map toTk) := by
        rw [List.map_append]
        refine ht3.snoc (tok_dn hrb ?_)
        rw [upd_ne hrp, upd_same, hds]
        have : ((⟨#[kindR rows i]⟩ : Str) ++ (⟨#[48 + blanks (rows.getD i [])]⟩ : Str)) = SX.S [kindR rows i, 48 + blanks (rows.getD i [])] := sl_inj (two_signs _ _)
        rw [this]; rfl
      have hp4 : (upd (upd H2 r (.tup [.str ((⟨#[kindR rows i]⟩ : Str) ++ Str.ofString (toString ((blanks (rows.getD i []) : Nat) : Int))), .str (SX.S w0)])) p (.lst (us ++ [.ref r]))) p = some (.lst (us ++ [.ref r])) := upd_same
      have hwp : w ≠ p := fun e => by
        rw [e] at hw
        rw [hp2] at hw
        injection hw with hw
        injection hw with hw
        rw [hw] at ht
        have := ht.at (i := 0) (v := .str (SX.S w0)) rfl
        obtain ⟨_, _, _, z, _⟩ := this
        cases z
      have hw4 : (upd (upd H2 r (.tup [.str ((⟨#[kindR rows i]⟩ : Str) ++ Str.ofString (toString ((blanks (rows.getD i []) : Nat) : Int))), .str (SX.S w0)])) p (.lst (us ++ [.ref r]))) w = some (.lst (rowsV (w0 :: wr))) := by
        rw [upd_ne hwp]; exact e3 _ _ hw
      have ha4 : (upd (upd H2 r (.tup [.str ((⟨#[kindR rows i]⟩ : Str) ++ Str.ofString (toString ((blanks (rows.getD i []) : Nat) : Int))), .str (SX.S w0)])) p (.lst (us ++ [.ref r]))) a = some (.lst (rowsV rows)) := by
        rw [upd_ne hap]; exact e3 _ _ (e12 _ _ ha)
      have e4 : Ex H0 (upd (upd H2 r (.tup [.str ((⟨#[kindR rows i]⟩ : Str) ++ Str.ofString (toString ((blanks (rows.getD i []) : Nat) : Int))), .str (SX.S w0)])) p (.lst (us ++ [.ref r]))) := Ex.mut ((e0.trans e12).trans e3) hp0
      generalize upd (upd H2 r (.tup [.str ((⟨#[kindR rows i]⟩ : Str) ++ Str.ofString (toString ((blanks (rows.getD i []) : Nat) : Int))), .str (SX.S w0)])) p (.lst (us ++ [.ref r])) = H4 at htok hp4 hw4 ha4 e4
      refine ⟨.inl ⟨rfl, _, .inl (.inl hp4)⟩, ?_⟩
      dsimp only [tCons, tNil]
      refine lc_at ?_
      dsimp only [L2.tSl, tNoPart, uPart]
      refine uVar_of (v := .ref w) rfl ?_
      refine tC_of ?_
      dsimp only
      refine cut_rows (lo := some 1) (hi := none) hw4 (rows_from (w0 :: wr) (n := 1) (by decide)) fun q H5 e5 hq => ?_
      have hq : H5 q = some (.lst (rowsV wr)) := hq
      refine comp_ok (b := b) (j := 9) (σ := [x0, some (.ref a), some (.ref p), some (.str ⟨#[kindR rows i]⟩), some (.int (i : Nat)), some (.str (SX.S (rows.getD i []))), some (.int (blanks (rows.getD i []) : Nat)), some (.ref w), some (.bl (fol (rows.getD i []))), none]) hq ⟨ob, e5 _ _ (e4 _ _ ho)⟩ (by rw [List.length_cons] at hwl; omega) (fun y => rfl) (fun y => rfl) fun D2 H6 us2 hD2 e6 hl6 ht6 => ?_
      have hp6 := e6 _ _ (e5 _ _ hp4)
      have l6 := ht6.len
      rw [List.length_map, List.length_map] at l6
      rw [List.length_cons] at hwl
      refine oK_of (mutL_of hp6) (oK_of (mutL_of hl6) ⟨szl (by rw [List.length_append]; show us.length + 1 + us2.length ≤ _; omega), ?_⟩)
      have hD2p : D2 ≠ p := fun e => by
        rw [e, e5 _ _ hp4] at hD2; cases hD2
      have ht7 : ToksAt b (upd H6 p (.lst (us ++ [.ref r] ++ us2))) (us ++ [.ref r] ++ us2) ((ts ++ rowT (kindR rows i) (rows.getD i [])).map toTk) := by
        rw [rowT_cons h2 hws]
        have e8 : (ts ++ (([kindR rows i, 48 + blanks (rows.getD i [])], w0) : TkL) :: wr.map fun v => ([32], v)) = ts ++ [([kindR rows i, 48 + blanks (rows.getD i [])], w0)] ++ wr.map fun v => ([32], v) := by simp
        rw [e8, List.map_append]
        exact toks_app ((htok.ex (e5.trans e6)).set hp6) (ht6.set hp6)
      have := k2 h1 (upd H6 p (.lst (us ++ [.ref r] ++ us2))) (us ++ [.ref r] ++ us2) (some (.int (blanks (rows.getD i []) : Nat))) (some (.ref w)) (some (.bl (fol (rows.getD i [])))) (Ex.mut ((e4.trans e5).trans e6) hp0) (by rw [upd_ne hap]; exact e6 _ _ (e5 _ _ ha4)) upd_same ht7
      show bB (fol (rows.getD i [])) _ _
      refine bB_of (fun hf => ?_) (fun hf => ?_)
      · rw [hf, if_pos rfl] at kn
        have e47 : Str.ofString "/" = (⟨#[kindR rows (i + 1)]⟩ : Str) := by rw [kn]; exact toList_inj (by decide +kernel)
        rw [← e47, hf] at this
        rw [hf]
        exact this
      · rw [hf, if_neg (by decide)] at kn
        have e124 : Str.ofString "|" = (⟨#[kindR rows (i + 1)]⟩ : Str) := by rw [kn]; exact toList_inj (by decide +kernel)
        rw [← e124, hf] at this
        rw [hf]
        exact this

theorem rows_split (z : Str) (h : sl z ≠ []) : (Txt.split z (Str.ofString "\n")).map V.str = rowsV (rowsOf z) := by
  unfold rowsOf
  rw [if_neg h, split_S z "\n" (s := 10) (by decide +kernel) (by decide), rowsV_map]
theorem rowsV_at {rows : List (List Nat)} {i : Nat} {y : V} (h : (rowsV rows)[i]? = some y) : y = .str (SX.S (rows.getD i [])) ∧ i < rows.length := by
  unfold rowsV at h
  rw [List.getElem?_map] at h
  cases hi : rows[i]? with
  | none => rw [hi] at h; cases h
  | some r =>
    rw [hi] at h; cases h
    rw [List.getD_eq_getElem?_getD, hi]
    exact ⟨rfl, (List.getElem?_eq_some_iff.mp hi).1⟩
theorem kindR_zero (rows : List (List Nat)) : (⟨#[kindR rows 0]⟩ : Str) = Str.ofString "#" := toList_inj (by
  have : kindR rows 0 = 35 := by unfold kindR; rw [if_neg (fun z => by omega)]
  rw [this]; decide +kernel)
theorem len_read_page {K ca vs H Q E} (h : sp_read_page K ca vs H Q E) : vs.length = P_read_page.length := by obtain ⟨b, v, d, rfl, _⟩ := h; rfl
theorem p_read_page {K ca vs H Q E} (T : Ct K ca) (h : sp_read_page K ca vs H Q E) : t_read_page K ca E { nx := fun _ H' => Q .non H', rt := Q } (start N_read_page vs) H := by
  obtain ⟨b, v, d, rfl, hd, ⟨ob, hb⟩, q0, q1⟩ := h
  have hty := hd.ty
  cases hd with
  | lst _ _ _ => exact oK_of hty (q0 fun z h => by cases h)
  | tup _ _ _ => exact oK_of hty (q0 fun z h => by cases h)
  | dct _ _ => exact oK_of hty (q0 fun z h => by cases h)
  | non => exact q0 fun z h => by cases h
  | bl _ => exact q0 fun z h => by cases h
  | int _ => exact q0 fun z h => by cases h
  | str z =>
    obtain ⟨hz, so, q1, q2⟩ := q1 z rfl
    obtain ⟨hok, htot⟩ := rows_ok hz so
    have key : ∀ R : VK, (∀ a H1, Ex H H1 → H1 a = some (.lst (rowsV (rowsOf z))) → R (.ref a) H1) → uIf (uT (tOp (uNe2 K) (uVar 0) (tC (.str "")))) (tM1 uSplit (uVar 0) (tC (.str "\n"))) (tLst (tNil)) [some (.str z), none, none, none, none, none, none, none, none, none] H R := by
      intro R kR
      show bB (!decide (V.str z = V.str (Str.ofString ""))) _ _
      rw [eq_fix z "" (by decide +kernel : (Str.ofString "").cps.toList = [])]
      refine bB_n (fun h1 => ?_) (fun h1 => ?_)
      · refine ⟨⟨_, rfl⟩, by decide +kernel, by rw [sizeLine_eq]; omega, fun a ha => ?_⟩
        rw [rows_split z h1]
        exact kR a _ (Ex.new ha) upd_same
      · refine ⟨by decide, fun a ha => kR a _ (Ex.new ha) ?_⟩
        rw [upd_same]
        unfold rowsOf
        rw [if_pos h1]; rfl
    refine key _ fun a H1 e1 ha => ?_
    refine ⟨by decide, fun p hp => ?_⟩
    have hap : a ≠ p := ne_of_none ha hp
    have hpb : p ≠ b := (ne_of_none (e1 _ _ hb) hp).symm
    walk_at "c"
    refine fore (tb := tLn K ca E) (a := a) (xs := rowsV (rowsOf z)) (fun R h => h) (.inl (.inl (by rw [upd_ne hap]; exact ha))) (fun i σ H' => ∃ us x4 x5 x6 x7 x8, σ = [some (.str z), some (.ref a), some (.ref p), some (.str ⟨#[kindR (rowsOf z) i]⟩), x4, x5, x6, x7, x8, none] ∧ Ex H H' ∧ H' a = some (.lst (rowsV (rowsOf z))) ∧ H' p = some (.lst us) ∧ ToksAt b H' us ((textR (rowsOf z) i).map toTk) ∧ ∀ j, j < i → rightR (rowsOf z) j = true) ?_ ?_ ?_ ?_
    · refine ⟨[], none, none, none, none, none, ?_, e1.trans (Ex.new hp), by rw [upd_ne hap]; exact ha, upd_same, .nil, fun j hj => by omega⟩
      rw [kindR_zero]; rfl
    · rintro i σ H' _ ⟨us, x4, x5, x6, x7, x8, rfl, _, ha', _⟩
      exact .inl (.inl ha')
    · rintro i y σ H2 Tt hy ⟨us, x4, x5, x6, x7, x8, rfl, e2, ha2, hp2, ht2, hr2⟩ hT
      obtain ⟨rfl, hi⟩ := rowsV_at hy
      have e3 := Ex.new (o := .tup [.int (i : Nat), .str (SX.S ((rowsOf z).getD i []))]) hT
      have hl := textR_len (rowsOf z) i (by omega)
      have ht0 : tot (rowsOf z) i ≤ 50000 := by
        have hle : tot (rowsOf z) i ≤ tot (rowsOf z) (rowsOf z).length := by
          have mono : ∀ n, i + n ≤ (rowsOf z).length → tot (rowsOf z) i ≤ tot (rowsOf z) (i + n) := by
            intro n
            induction n with
            | zero => intro _; exact Nat.le_refl _
            | succ n ih => intro h; rw [← Nat.add_assoc, tot_succ _ _ (by omega)]; have := ih (by omega); omega
          have := mono ((rowsOf z).length - i) (by omega)
          rwa [show i + ((rowsOf z).length - i) = (rowsOf z).length by omega] at this
        omega
      refine ts_two (.inl upd_same) ?_
      refine ln_ok (H0 := H) (b := b) hok hi ⟨ob, hb⟩ (e2.trans e3) (e1.free hp) (e3 _ _ ha2) hap (e3 _ _ hp2) (ht2.ex e3) (by omega) (fun hbad H3 e4 => q1 i hi hbad hr2 H3 e4) fun hg H3 us' x6 x7 x8 e4 ha4 hp4 ht4 => ?_
      refine ⟨us', _, _, x6, x7, x8, rfl, e4, ha4, hp4, ht4, fun j hj => ?_⟩
      rcases Nat.lt_or_ge j i with h | h
      · exact hr2 j h
      · obtain rfl : j = i := by omega
        exact hg
    · rintro σ H2 ⟨us, x4, x5, x6, x7, x8, rfl, e2, ha2, hp2, ht2, hr2⟩
      rw [rowsV_len] at ht2 hr2
      exact q2 hr2 p H2 (e1.free hp) e2 ⟨hpb, us, hp2, ht2⟩

def tA (K : PySem.W.Frag) (ca : Nat → Addr) : TS := tSeq (tDrop (tBM K "list" uAppend (uVar 2) (tCons (tTup (tCons (tOp (uAdd K) (uVar 7) (tOp (uIx K) (tC (.str "0123")) (tOp (uIx K) (uVar 6) (tC (.int 0))))) (tCons (tOp (uIx K) (tOp (uIx K) (uVar 6) (tC (.int 1))) (tC (.int 0))) (tNil)))) (tNil)))) (tAsg (tOp (uAdd K) (uVar 2) (tLc (uIter K (L2.tSl (uSl K) (tOp (uIx K) (uVar 6) (tC (.int 1))) (uPart (tC (.int 1))) (tNoPart))) (gName 8) (tYes) (tTup (tCons (tC (.str " ")) (tCons (uVar 8) (tNil)))) [8])) (gName 2))
def tK (K : PySem.W.Frag) (ca : Nat → Addr) : TS := tSeq (tAsg (tC (.str "#")) (gName 7)) (tSeq (uIfS (uAnd (uT (tOp uGt (uVar 3) (tC (.int 0)))) (uT (tOp (uNe2 K) (tOp (uIx K) (uVar 1) (tOp uSub (uVar 3) (tC (.int 1)))) (tC (.str ""))))) (tAsg (tOp (uIx K) (tLst (tCons (tC (.str "|")) (tCons (tC (.str "/")) (tNil)))) (tCB uInt (tCons (tOp (uEq2 K) (tOp (uIx K) (tOp (uIx K) (uVar 1) (tOp uSub (uVar 3) (tC (.int 1)))) (tUn uNeg (tC (.int 1)))) (tC (.str " "))) (tNil)))) (gName 7)) (tNext)) (tA K ca))
def tEl (K : PySem.W.Frag) (ca : Nat → Addr) : TS := tSeq (tAsg (tCall (sp__law_parts K ca) [] E0 (tCons (uVar 4) (tNil))) (gName 6)) (tSeq (uIfS (uOr (uT (tOp (uIs false) (uVar 6) (tC .non))) (uAnd (uT (tOp (uIx K) (uVar 6) (tC (.int 2)))) (uT (tOp (uEq2 K) (uVar 5) (tC (.str "")))))) (tRet (tLst (tCons (tC (.str "page")) (tCons (uVar 3) (tNil))))) (tNext)) (tK K ca))
def tBd (K : PySem.W.Frag) (ca : Nat → Addr) : TS := tSeq (tAsg (uIf (uT (tOp uLt (tOp (uAdd K) (uVar 3) (tC (.int 1))) (tCB (uLen K) (tCons (uVar 1) (tNil))))) (tOp (uIx K) (uVar 1) (tOp (uAdd K) (uVar 3) (tC (.int 1)))) (tC (.str ""))) (gName 5)) (uIfS (uT (tOp (uEq2 K) (uVar 4) (tC (.str "")))) (uIfS (uOr (uT (tOp (uEq2 K) (uVar 3) (tC (.int 0)))) (uOr (uT (tOp (uEq2 K) (tOp (uIx K) (uVar 1) (tOp uSub (uVar 3) (tC (.int 1)))) (tC (.str "")))) (uT (tOp (uEq2 K) (uVar 5) (tC (.str "")))))) (tRet (tLst (tCons (tC (.str "page")) (tCons (uVar 3) (tNil))))) (tNext)) (tEl K ca))
theorem eq_str {K : PySem.W.Frag} {a b : Str} {H : Hp} {Q : VK} (q : Q (.bl (decide (V.str a = V.str b))) H) : uEq2 K (.str a) (.str b) H Q := q
theorem dig_at {d : Nat} (h : d ≤ 3) : atI (Str.ofString "0123").cps.toList ((d : Nat) : Int) = some (48 + d) := by
  have : d = 0 ∨ d = 1 ∨ d = 2 ∨ d = 3 := by omega
  rcases this with rfl | rfl | rfl | rfl <;> decide +kernel
/-- the tokens of a line are put behind -/
theorem a_ok {K : PySem.W.Frag} {ca : Nat → Addr} {H0 H : Hp} {D : Ends} {b a p t w : Addr} {rows : List (List Nat)} {row : List Nat} {k : Nat} {us : List V} {ts : List TkL} {x0 x3 x4 x5 : Option V} (hr : row ≠ []) (hbl : blanks row ≤ 3) (hrl : row.length ≤ 20000) (hob : ∃ o, H0 b = some o) (e0 : Ex H0 H) (hp0 : H0 p = none) (ha : H a = some (.lst (rowsV rows))) (hap : a ≠ p) (hp : H p = some (.lst us)) (ht : ToksAt b H us (ts.map toTk)) (hl : ts.length ≤ 50000)
    (hT : H t = some (.lst [.int (blanks row : Nat), .ref w, .bl (fol row)])) (hw : H w = some (.lst (rowsV (wds row)))) (htp : t ≠ p)
    (k2 : ∀ H' p' us', Ex H0 H' → H0 p' = none → a ≠ p' → H' a = some (.lst (rowsV rows)) → H' p' = some (.lst us') → ToksAt b H' us' ((ts ++ rowT k row).map toTk) → D.nx [x0, some (.ref a), some (.ref p'), x3, x4, x5, some (.ref t), some (.str ⟨#[k]⟩), none] H') :
    tA K ca D [x0, some (.ref a), some (.ref p), x3, x4, x5, some (.ref t), some (.str ⟨#[k]⟩), none] H := by
  obtain ⟨ob, ho⟩ := hob
  have hwl := wds_len row
  have hwn := wds_ne (row := row)
  cases hws : wds row with
  | nil => exact absurd hws hwn
  | cons w0 wr =>
    rw [hws] at hw hwl
    rw [List.length_cons] at hwl
    refine ⟨.inl ⟨rfl, _, .inl (.inl hp)⟩, ?_⟩
    refine oS_of (rdS_l hT) (oK_of (x := .int (blanks row : Nat)) rfl ?_)
    refine ⟨by decide +kernel, oK_of (dig_at hbl) ⟨by show 1 + 1 ≤ sizeLine; decide, ?_⟩⟩
    refine oS_of (rdS_l hT) (oK_of (x := .ref w) rfl ?_)
    refine oS_of (rdS_l hw) (oK_of (x := .str (SX.S w0)) (at_head _ _) ?_)
    refine ⟨by show 2 ≤ sizeLine; decide, fun r hr1 => ?_⟩
    have hrb : r ≠ b := (ne_of_none (e0 _ _ ho) hr1).symm
    have e3 := Ex.new (o := .tup [.str ((⟨#[k]⟩ : Str) ++ (⟨#[48 + blanks row]⟩ : Str)), .str (SX.S w0)]) hr1
    have hp3 := e3 _ _ hp
    have hrp : r ≠ p := (ne_of_none hp hr1).symm
    have htl := ht.len
    rw [List.length_map] at htl
    refine oK_of (mutL_of hp3) ⟨szt (by omega), ?_⟩
    have ht3 := (ht.ex e3).set (ys := us ++ [.ref r]) hp3
    have htok : ToksAt b (upd (upd H r (.tup [.str ((⟨#[k]⟩ : Str) ++ (⟨#[48 + blanks row]⟩ : Str)), .str (SX.S w0)])) p (.lst (us ++ [.ref r]))) (us ++ [.ref r]) ((ts ++ [(([k, 48 + blanks row], w0) : TkL)]).map toTk) := by
      rw [List.map_append]
      refine ht3.snoc (tok_dn hrb ?_)
      rw [upd_ne hrp, upd_same]
      have : ((⟨#[k]⟩ : Str) ++ (⟨#[48 + blanks row]⟩ : Str)) = SX.S [k, 48 + blanks row] := sl_inj (two_signs _ _)
      rw [this]; rfl
    have hp4 : (upd (upd H r (.tup [.str ((⟨#[k]⟩ : Str) ++ (⟨#[48 + blanks row]⟩ : Str)), .str (SX.S w0)])) p (.lst (us ++ [.ref r]))) p = some (.lst (us ++ [.ref r])) := upd_same
    have hwp : w ≠ p := fun e => by
      rw [e] at hw
      rw [hp] at hw
      injection hw with hw
      injection hw with hw
      rw [hw] at ht
      obtain ⟨_, _, _, z, _⟩ := ht.at (i := 0) (v := .str (SX.S w0)) rfl
      cases z
    have hw4 : (upd (upd H r (.tup [.str ((⟨#[k]⟩ : Str) ++ (⟨#[48 + blanks row]⟩ : Str)), .str (SX.S w0)])) p (.lst (us ++ [.ref r]))) w = some (.lst (rowsV (w0 :: wr))) := by
      rw [upd_ne hwp]; exact e3 _ _ hw
    have hT4 : (upd (upd H r (.tup [.str ((⟨#[k]⟩ : Str) ++ (⟨#[48 + blanks row]⟩ : Str)), .str (SX.S w0)])) p (.lst (us ++ [.ref r]))) t = some (.lst [.int (blanks row : Nat), .ref w, .bl (fol row)]) := by
      rw [upd_ne htp]; exact e3 _ _ hT
    have ha4 : (upd (upd H r (.tup [.str ((⟨#[k]⟩ : Str) ++ (⟨#[48 + blanks row]⟩ : Str)), .str (SX.S w0)])) p (.lst (us ++ [.ref r]))) a = some (.lst (rowsV rows)) := by
      rw [upd_ne hap]; exact e3 _ _ ha
    have e4 : Ex H0 (upd (upd H r (.tup [.str ((⟨#[k]⟩ : Str) ++ (⟨#[48 + blanks row]⟩ : Str)), .str (SX.S w0)])) p (.lst (us ++ [.ref r]))) := Ex.mut (e0.trans e3) hp0
    generalize upd (upd H r (.tup [.str ((⟨#[k]⟩ : Str) ++ (⟨#[48 + blanks row]⟩ : Str)), .str (SX.S w0)])) p (.lst (us ++ [.ref r])) = H4 at htok hp4 hw4 ha4 hT4 e4
    dsimp only [tAsg, tOp]
    refine uVar_of (v := .ref p) rfl ?_
    refine lc_at ?_
    dsimp only [L2.tSl, tNoPart, uPart, tOp]
    refine uVar_of (v := .ref t) rfl (tC_of (oS_of (rdS_l hT4) (oK_of (x := .ref w) rfl ?_)))
    refine tC_of ?_
    dsimp only
    refine cut_rows (lo := some 1) (hi := none) hw4 (rows_from (w0 :: wr) (n := 1) (by decide)) fun q H5 e5 hq => ?_
    have hq : H5 q = some (.lst (rowsV wr)) := hq
    refine comp_ok (b := b) (j := 8) (σ := [x0, some (.ref a), some (.ref p), x3, x4, x5, some (.ref t), some (.str ⟨#[k]⟩), none]) hq ⟨ob, e5 _ _ (e4 _ _ ho)⟩ (by omega) (fun y => rfl) (fun y => rfl) fun D2 H6 us2 hD2 e6 hl6 ht6 => ?_
    have hp6 := e6 _ _ (e5 _ _ hp4)
    have l6 := ht6.len
    rw [List.length_map, List.length_map] at l6
    refine ⟨_, _, hp6, hl6, szl (by rw [List.length_append]; show us.length + 1 + us2.length ≤ _; omega), fun p' hp' => ?_⟩
    have e56 := (e4.trans e5).trans e6
    refine k2 _ p' (us ++ [.ref r] ++ us2) (e56.trans (Ex.new hp')) (e56.free hp') ?_ ?_ upd_same ?_
    · exact ne_of_none (e6 _ _ (e5 _ _ ha4)) hp'
    · exact Ex.new hp' _ _ (e6 _ _ (e5 _ _ ha4))
    · rw [rowT_cons hr hws]
      have e8 : (ts ++ (([k, 48 + blanks row], w0) : TkL) :: wr.map fun v => ([32], v)) = ts ++ [([k, 48 + blanks row], w0)] ++ wr.map fun v => ([32], v) := by simp
      rw [e8, List.map_append]
      exact (toks_app (htok.ex (e5.trans e6)) ht6).ex (Ex.new hp')
/-- the kind of the first mark -/
theorem k_ok {K : PySem.W.Frag} {ca : Nat → Addr} {H : Hp} {D : Ends} {a : Addr} {rows : List (List Nat)} {i : Nat} {x0 x2 x4 x5 x6 x7 : Option V} (hok : RowsOk rows) (hi : i < rows.length) (ha : H a = some (.lst (rowsV rows)))
    (k : ∀ H', Ex H H' → tA K ca D [x0, some (.ref a), x2, some (.int (i : Nat)), x4, x5, x6, some (.str ⟨#[kindR rows i]⟩), none] H') :
    tK K ca D [x0, some (.ref a), x2, some (.int (i : Nat)), x4, x5, x6, x7, none] H := by
  have s35 : Str.ofString "#" = (⟨#[35]⟩ : Str) := toList_inj (by decide +kernel)
  show bB (decide ((0 : Int) < ((i : Nat) : Int))) _ _
  refine bB_d (fun h => ?_) (fun h => ?_)
  · have e : ((i : Nat) : Int) - 1 = ((i - 1 : Nat) : Int) := by omega
    have hat : atI (rowsV rows) (((i : Nat) : Int) - 1) = some (V.str (SX.S (rows.getD (i - 1) []))) := by rw [e]; exact row_at (by omega)
    refine oS_of (rdS_l ha) (oK_of hat ?_)
    show bB (!decide (V.str (SX.S (rows.getD (i - 1) [])) = V.str (Str.ofString ""))) _ _
    rw [eq_none]
    refine bB_n (fun h1 => ?_) (fun h1 => ?_)
    · have ek : kindR rows i = if (rows.getD (i - 1) []).getLast? = some 32 then 47 else 124 := by unfold kindR; rw [if_pos ⟨by omega, h1⟩]
      refine ⟨by show 2 ≤ sizeLine; decide, fun q hq => ?_⟩
      have e1 := Ex.new (o := .lst [.str "|", .str "/"]) hq
      refine oS_of (rdS_l (e1 _ _ ha)) (oK_of hat ?_)
      rcases snoc_or (rows.getD (i - 1) []) with e2 | ⟨gs, x, e2⟩
      · exact absurd e2 h1
      · have hx : atI (sl (SX.S (rows.getD (i - 1) []))) (-1) = some x := by
          show atI (rows.getD (i - 1) []) (-1) = _
          rw [e2]; exact at_last _ _
        have hm := hok.2 _ (getD_mem (rows := rows) (i := i - 1) (by omega))
        refine ⟨by rw [SX.S_len, sizeLine_eq]; omega, oK_of hx ?_⟩
        rw [e2, List.getLast?_concat] at ek
        refine tC_of (eq_str ?_)
        dsimp only [tNil]
        rw [eq_blank]
        by_cases h3 : x = 32
        · rw [if_pos (by rw [h3])] at ek
          have e4 : decide ((⟨#[x]⟩ : Str).cps.toList = [32]) = true := decide_eq_true (by rw [h3])
          rw [e4]
          refine oS_of (rdS_l upd_same) (oK_of (x := .str "/") rfl ?_)
          have e47 : Str.ofString "/" = (⟨#[kindR rows i]⟩ : Str) := by rw [ek]; exact toList_inj (by decide +kernel)
          have := k _ e1
          rw [← e47] at this
          exact this
        · rw [if_neg (fun z => h3 (Option.some.inj z))] at ek
          have e4 : decide ((⟨#[x]⟩ : Str).cps.toList = [32]) = false := decide_eq_false (fun z => h3 (by have z : [x] = [32] := z; injection z))
          rw [e4]
          refine oS_of (rdS_l upd_same) (oK_of (x := .str "|") rfl ?_)
          have e124 : Str.ofString "|" = (⟨#[kindR rows i]⟩ : Str) := by rw [ek]; exact toList_inj (by decide +kernel)
          have := k _ e1
          rw [← e124] at this
          exact this
    · have ek : kindR rows i = 35 := by unfold kindR; rw [if_neg (fun z => z.2 h1)]
      have := k H (Ex.refl _)
      rw [ek, ← s35] at this
      exact this
  · have ek : kindR rows i = 35 := by unfold kindR; rw [if_neg (fun z => by omega)]
    have := k H (Ex.refl _)
    rw [ek, ← s35] at this
    exact this
theorem bd_ok {K : PySem.W.Frag} {ca : Nat → Addr} {H0 H : Hp} {D : Ends} {b a p : Addr} {rows : List (List Nat)} {i : Nat} {us : List V} {ts : List TkL} {x0 x5 x6 x7 : Option V} (hok : RowsOk rows) (hi : i < rows.length) (hob : ∃ o, H0 b = some o) (e0 : Ex H0 H) (hp0 : H0 p = none) (ha : H a = some (.lst (rowsV rows))) (hap : a ≠ p) (hp : H p = some (.lst us)) (ht : ToksAt b H us (ts.map toTk)) (hl : ts.length ≤ 50000)
    (k1 : rightR rows i = false → ∀ r H', H0 r = none → Ex H0 H' → H' r = some (.lst [.str "page", .int (i : Nat)]) → D.rt (.ref r) H')
    (k2 : rightR rows i = true → ∀ H' p' us' x5 x6 x7, Ex H0 H' → H0 p' = none → a ≠ p' → H' a = some (.lst (rowsV rows)) → H' p' = some (.lst us') → ToksAt b H' us' ((ts ++ rowT (kindR rows i) (rows.getD i [])).map toTk) →
      D.nx [x0, some (.ref a), some (.ref p'), some (.int (i : Nat)), some (.str (SX.S (rows.getD i []))), x5, x6, x7, none] H') :
    tBd K ca D [x0, some (.ref a), some (.ref p), some (.int (i : Nat)), some (.str (SX.S (rows.getD i []))), x5, x6, x7, none] H := by
  have hm := hok.2 _ (getD_mem hi)
  have page : ∀ (x5 x6 : Option V) (H1 : Hp), Ex H0 H1 → rightR rows i = false → ∀ D' : Ends, D'.rt = D.rt → tRet (tLst (tCons (tC (.str "page")) (tCons (uVar 3) (tNil)))) D' [x0, some (.ref a), some (.ref p), some (.int (i : Nat)), some (.str (SX.S (rows.getD i []))), x5, x6, x7, none] H1 := by
    intro x5 x6 H1 e1 hf D' eD
    refine ⟨by show 2 ≤ sizeLine; decide, fun r hr => ?_⟩
    rw [eD]
    exact k1 hf r _ (e1.free hr) (e1.trans (Ex.new hr)) upd_same
  have step2 : ∀ (R : VK), R (.str (SX.S (behindR rows i))) H → uIf (uT (tOp uLt (tOp (uAdd K) (uVar 3) (tC (.int 1))) (tCB (uLen K) (tCons (uVar 1) (tNil))))) (tOp (uIx K) (uVar 1) (tOp (uAdd K) (uVar 3) (tC (.int 1)))) (tC (.str "")) [x0, some (.ref a), some (.ref p), some (.int (i : Nat)), some (.str (SX.S (rows.getD i []))), x5, x6, x7, none] H R := by
    intro R hR
    refine oS_of (rdS_l ha) ?_
    show bB (decide (((i : Nat) : Int) + 1 < ((rowsV rows).length : Int))) _ _
    rw [rowsV_len]
    unfold behindR at hR
    refine bB_d (fun h => ?_) (fun h => ?_)
    · rw [if_pos (by omega)] at hR
      have e : ((i : Nat) : Int) + 1 = ((i + 1 : Nat) : Int) := by omega
      refine oS_of (rdS_l ha) ?_
      show oK (atI (rowsV rows) (((i : Nat) : Int) + 1)) _
      rw [e]
      exact oK_of (row_at (by omega)) hR
    · rw [if_neg (by omega)] at hR
      show R (.str (Str.ofString "")) H
      rw [S_nil]; exact hR
  refine step2 _ ?_
  show bB (decide (V.str (SX.S (rows.getD i [])) = V.str (Str.ofString ""))) _ _
  rw [eq_none]
  refine bB_d (fun h1 => ?_) (fun h1 => ?_)
  · have er : rightR rows i = (!decide (aheadR rows i = []) && !decide (behindR rows i = [])) := by unfold rightR; rw [if_pos h1]
    have hT : ts ++ rowT (kindR rows i) (rows.getD i []) = ts := by unfold rowT; rw [if_pos h1, List.append_nil]
    have good : rightR rows i = true → D.nx [x0, some (.ref a), some (.ref p), some (.int (i : Nat)), some (.str (SX.S (rows.getD i []))), some (.str (SX.S (behindR rows i))), x6, x7, none] H := fun hg => k2 hg H p us _ _ _ e0 hp0 hap ha hp (by rw [hT]; exact ht)
    show bB (decide (V.int ((i : Nat) : Int) = V.int 0)) _ _
    refine bB_d (fun h2 => ?_) (fun h2 => ?_)
    · have h2 : i = 0 := by injection h2 with h2; omega
      refine page _ _ H e0 ?_ _ rfl
      rw [er]; unfold aheadR; rw [if_neg (by omega)]; rfl
    · have h2 : i ≠ 0 := fun z => h2 (by rw [z]; rfl)
      have e : ((i : Nat) : Int) - 1 = ((i - 1 : Nat) : Int) := by omega
      have hat : atI (rowsV rows) (((i : Nat) : Int) - 1) = some (V.str (SX.S (rows.getD (i - 1) []))) := by rw [e]; exact row_at (by omega)
      have hah : aheadR rows i = rows.getD (i - 1) [] := by unfold aheadR; rw [if_pos (by omega)]
      refine oS_of (rdS_l ha) (oK_of hat ?_)
      show bB (decide (V.str (SX.S (rows.getD (i - 1) [])) = V.str (Str.ofString ""))) _ _
      rw [eq_none]
      refine bB_d (fun h3 => ?_) (fun h3 => ?_)
      · refine page _ _ H e0 ?_ _ rfl
        rw [er, hah, decide_eq_true h3]; rfl
      · show bB (decide (V.str (SX.S (behindR rows i)) = V.str (Str.ofString ""))) _ _
        rw [eq_none]
        refine bB_d (fun h4 => ?_) (fun h4 => ?_)
        · refine page _ _ H e0 ?_ _ rfl
          rw [er, decide_eq_true h4, Bool.and_comm]; rfl
        · refine good ?_
          rw [er, hah, decide_eq_false h3, decide_eq_false h4]; rfl
  · have er : rightR rows i = (okl (rows.getD i []) && (!fol (rows.getD i []) || !decide (behindR rows i = []))) := by unfold rightR; rw [if_neg h1]
    refine ⟨SX.S (rows.getD i []), rfl, by rw [SX.S_len]; exact hm.1, fun c hc => hm.2 c hc, fun hb H1 e1 => ?_, fun hg t w H1 e1 hT hw => ?_⟩
    · have hb : okl (rows.getD i []) = false := hb
      refine page (some (.str (SX.S (behindR rows i)))) (some .non) H1 (e0.trans e1) ?_ _ rfl
      rw [er, hb]; rfl
    · have hg : okl (rows.getD i []) = true := hg
      have hT : H1 t = some (.lst [.int (blanks (rows.getD i []) : Nat), .ref w, .bl (fol (rows.getD i []))]) := hT
      have hw : H1 w = some (.lst (rowsV (wds (rows.getD i [])))) := hw
      have hbl : blanks (rows.getD i []) ≤ 3 := by
        unfold okl at hg
        rw [Bool.and_eq_true, decide_eq_true_eq] at hg
        exact hg.1
      have htp : t ≠ p := fun e => by
        rw [e, e1 _ _ hp] at hT
        injection hT with hT
        injection hT with hT
        rw [hT] at ht
        obtain ⟨_, _, _, z, _⟩ := ht.at (i := 0) (v := .int (blanks (rows.getD i []) : Nat)) rfl
        cases z
      rw [hg, Bool.true_and] at er
      have rest : rightR rows i = true → tK K ca D [x0, some (.ref a), some (.ref p), some (.int (i : Nat)), some (.str (SX.S (rows.getD i []))), some (.str (SX.S (behindR rows i))), some (.ref t), x7, none] H1 := fun hgood =>
        k_ok hok hi (e1 _ _ ha) fun H2 e2 => a_ok (H0 := H0) (b := b) (rows := rows) h1 hbl hm.1 hob ((e0.trans e1).trans e2) hp0 (e2 _ _ (e1 _ _ ha)) hap (e2 _ _ (e1 _ _ hp)) (ht.ex (e1.trans e2)) hl (e2 _ _ hT) (e2 _ _ hw) htp fun H3 p' us' g1 g2 g3 g4 g5 g6 => k2 hgood H3 p' us' _ _ _ g1 g2 g3 g4 g5 g6
      refine oS_of (rdS_l hT) (oK_of (x := .bl (fol (rows.getD i []))) rfl ?_)
      show bB (fol (rows.getD i [])) _ _
      refine bB_of (fun hf => ?_) (fun hf => ?_)
      · show bB (decide (V.str (SX.S (behindR rows i)) = V.str (Str.ofString ""))) _ _
        rw [eq_none]
        refine bB_d (fun h4 => ?_) (fun h4 => ?_)
        · refine page _ _ H1 (e0.trans e1) ?_ _ rfl
          rw [er, hf, decide_eq_true h4]; rfl
        · refine rest ?_
          rw [er, decide_eq_false h4, Bool.or_comm]; rfl
      · refine rest ?_
        rw [er, hf]; rfl

theorem len__law_read {K ca vs H Q E} (h : sp__law_read K ca vs H Q E) : vs.length = P__law_read.length := by obtain ⟨b, z, rfl, _⟩ := h; rfl
theorem p__law_read {K ca vs H Q E} (T : Ct K ca) (h : sp__law_read K ca vs H Q E) : t__law_read K ca { nx := fun _ H' => Q .non H', rt := Q } (start N__law_read vs) H := by
  obtain ⟨b, z, rfl, ⟨ob, hb⟩, hz, so, q⟩ := h
  obtain ⟨hok, htot⟩ := rows_ok hz so
  show bB (decide (V.str z = V.str (Str.ofString ""))) _ _
  rw [eq_fix z "" (by decide +kernel : (Str.ofString "").cps.toList = [])]
  refine bB_d (fun h1 => ?_) (fun h1 => ?_)
  · have er : rowsOf z = [] := by unfold rowsOf; rw [if_pos h1]
    refine ⟨by decide, fun p hp => ⟨by show 2 ≤ sizeLine; decide, fun r hr => ?_⟩⟩
    have e1 := Ex.new (o := .lst []) hp
    refine q r "text" (.ref p) (textD ((textR (rowsOf z) (rowsOf z).length).map toTk)) _ (e1.free hr) (e1.trans (Ex.new hr)) upd_same (.good (by rw [er]; intro j hj; simp at hj)) ?_
    rw [er]
    exact .lst (ne_of_none hb hp).symm (Ex.new hr _ _ upd_same) .nil
  · refine ⟨⟨_, rfl⟩, by decide +kernel, by rw [sizeLine_eq]; omega, fun a ha => ?_⟩
    rw [rows_split z h1]
    refine ⟨by decide, fun p hp => ?_⟩
    have e1 := Ex.new (o := .lst (rowsV (rowsOf z))) ha
    have ha1 : (upd H a (.lst (rowsV (rowsOf z)))) a = some (.lst (rowsV (rowsOf z))) := upd_same
    generalize upd H a (.lst (rowsV (rowsOf z))) = H1 at e1 ha1 hp
    have hap : a ≠ p := ne_of_none ha1 hp
    walk_at "c"
    refine fore (tb := tBd K ca) (a := a) (xs := rowsV (rowsOf z)) (fun R h => h) (.inl (.inl (by rw [upd_ne hap]; exact ha1))) (fun i σ H' => ∃ p us x3 x4 x5 x6 x7, σ = [some (.str z), some (.ref a), some (.ref p), x3, x4, x5, x6, x7, none] ∧ Ex H H' ∧ H p = none ∧ a ≠ p ∧ H' a = some (.lst (rowsV (rowsOf z))) ∧ H' p = some (.lst us) ∧ ToksAt b H' us ((textR (rowsOf z) i).map toTk) ∧ ∀ j, j < i → rightR (rowsOf z) j = true) ?_ ?_ ?_ ?_
    · exact ⟨p, [], none, none, none, none, none, rfl, e1.trans (Ex.new hp), e1.free hp, hap, by rw [upd_ne hap]; exact ha1, upd_same, .nil, fun j hj => by omega⟩
    · rintro i σ H' _ ⟨p, us, x3, x4, x5, x6, x7, rfl, _, _, _, ha', _⟩
      exact .inl (.inl ha')
    · rintro i y σ H2 Tt hy ⟨p, us, x3, x4, x5, x6, x7, rfl, e2, hp0, hap, ha2, hp2, ht2, hr2⟩ hT
      obtain ⟨rfl, hi⟩ := rowsV_at hy
      have e3 := Ex.new (o := .tup [.int (i : Nat), .str (SX.S ((rowsOf z).getD i []))]) hT
      have hl := textR_len (rowsOf z) i (by omega)
      have hle : tot (rowsOf z) i ≤ tot (rowsOf z) (rowsOf z).length := by
        have mono : ∀ n, i + n ≤ (rowsOf z).length → tot (rowsOf z) i ≤ tot (rowsOf z) (i + n) := by
          intro n
          induction n with
          | zero => intro _; exact Nat.le_refl _
          | succ n ih => intro h; rw [← Nat.add_assoc, tot_succ _ _ (by omega)]; have := ih (by omega); omega
        have := mono ((rowsOf z).length - i) (by omega)
        rwa [show i + ((rowsOf z).length - i) = (rowsOf z).length by omega] at this
      refine ts_two (.inl upd_same) ?_
      refine bd_ok (H0 := H) (b := b) hok hi ⟨ob, hb⟩ (e2.trans e3) hp0 (e3 _ _ ha2) hap (e3 _ _ hp2) (ht2.ex e3) (by omega) (fun hbad r H3 hr e4 hl4 => ?_) fun hg H3 p' us' x5 x6 x7 e4 g1 g2 g3 g4 g5 => ?_
      · exact q r "page" (.int (i : Nat)) _ H3 hr e4 hl4 (.bad hi hbad hr2) (.int _)
      · refine ⟨p', us', _, _, x5, x6, x7, rfl, e4, g1, g2, g3, g4, g5, fun j hj => ?_⟩
        rcases Nat.lt_or_ge j i with h | h
        · exact hr2 j h
        · obtain rfl : j = i := by omega
          exact hg
    · rintro σ H2 ⟨p, us, x3, x4, x5, x6, x7, rfl, e2, hp0, hap, ha2, hp2, ht2, hr2⟩
      rw [rowsV_len] at ht2 hr2
      refine ⟨by show 2 ≤ sizeLine; decide, fun r hr => ?_⟩
      refine q r "text" (.ref p) _ _ (e2.free hr) (e2.trans (Ex.new hr)) upd_same (.good hr2) ?_
      exact .lst (ne_of_none hb hp0).symm (Ex.new hr _ _ hp2) (DnAll.ex ht2 (Ex.new hr))
theorem len__law_told {K ca vs H Q E} (h : sp__law_told K ca vs H Q E) : vs.length = P__law_told.length := by obtain ⟨b, v, d, rfl, _⟩ := h; rfl
theorem p__law_told {K ca vs H Q E} (T : Ct K ca) (h : sp__law_told K ca vs H Q E) : t__law_told K ca { nx := fun _ H' => Q .non H', rt := Q } (start N__law_told vs) H := by
  obtain ⟨b, v, d, rfl, hd, ⟨ob, hb⟩, hz, q⟩ := h
  refine ⟨by decide, fun p0 hp0 => ?_⟩
  have e0 := Ex.new (o := .lst []) hp0
  have hd0 := hd.ex e0
  have exc : ∀ (i : Int) H1, Ex (upd H p0 (.lst [])) H1 → Told d "page" (.int i) → RsL ca 1 (.int i) H1 (WE (clW K (fun _ _ _ _ => False) { nx := tRet (uVar 1) { nx := fun _ H' => Q .non H', rt := Q }, rt := Q } [⟨.ref (ca 1), 2, fun a cls d => tAsg (tLst (tCons (tC (.str "page")) (tCons (uXf K a cls d 2 "line") (tNil)))) (gName 1)⟩]) [some v, some (.ref p0), none]) := by
    intro i H1 e1 hT dd hdd
    refine oK_of T.e_InvalidPage_InvalidPage ?_
    refine bB_t rfl fun a ha => ?_
    refine ⟨ca 1, dd, _, .int i, rfl, T.x_InvalidPage, T.n_InvalidPage, rfl, rfl, upd_same, rfl, ?_⟩
    refine ⟨by show 2 ≤ sizeLine; decide, fun p hp => ?_⟩
    have e2 := (e0.trans e1).trans (Ex.new (o := .xd [("line", .int i)]) hdd)
    exact q p "page" (.int i) (.int i) _ (e2.free hp) (e2.trans (Ex.new hp)) upd_same hT (.int i)
  refine ⟨b, v, d, rfl, hd0, ⟨ob, e0 _ _ hb⟩, fun hn => exc 0 _ (Ex.refl _) (.odd hn), fun z ez => ⟨(hz z ez).1, (hz z ez).2, fun i hi hbad hr H1 e1 => ?_, fun hr p1 H1 hp1 e1 ht => ?_⟩⟩
  · subst ez
    exact exc (i : Nat) H1 e1 (.bad hi hbad hr)
  · refine ⟨by show 2 ≤ sizeLine; decide, fun p hp => ?_⟩
    have e2 := e0.trans e1
    subst ez
    exact q p "text" _ _ _ (e2.free hp) (e2.trans (Ex.new hp)) upd_same (.good hr) (ht.dn.ex (Ex.new hp))
/-- what is told is told once -/
theorem told_one {z : Str} {t1 t2 : Str} {e1 e2 : PyData} (h1 : Told (.str z) t1 e1) (h2 : Told (.str z) t2 e2) : t1 = t2 ∧ e1 = e2 := by
  cases h1 with
  | odd h => exact absurd rfl (h z)
  | bad a1 a2 a3 =>
    cases h2 with
    | odd h => exact absurd rfl (h z)
    | @bad _ j b1 b2 b3 =>
      rename_i i
      have : i = j := by
        rcases Nat.lt_trichotomy i j with h | h | h
        · rw [b3 i h] at a2; cases a2
        · exact h
        · rw [a3 j h] at b2; cases b2
      subst this; exact ⟨rfl, rfl⟩
    | good g =>
      rw [g _ a1] at a2; cases a2
  | good g =>
    cases h2 with
    | odd h => exact absurd rfl (h z)
    | bad b1 b2 b3 => rw [g _ b1] at b2; cases b2
    | good _ => exact ⟨rfl, rfl⟩
theorem told_odd {d e : PyData} {tag : Str} (h : Told d tag e) (hn : ∀ z, d ≠ .str z) : tag = "page" ∧ e = .int 0 := by
  cases h with
  | odd _ => exact ⟨rfl, rfl⟩
  | bad _ _ _ => exact absurd rfl (hn _)
  | good _ => exact absurd rfl (hn _)
theorem told_shp {z : Str} {tag : Str} {e : PyData} (hz : z.length ≤ 5000) (so : sok z) (h : Told (.str z) tag e) : sok tag ∧ tag.length ≤ 1000 ∧ Shp 5 e ∧ e.weight ≤ 190000 := by
  obtain ⟨hok, htot⟩ := rows_ok hz so
  cases h with
  | odd h => exact absurd rfl (h z)
  | @bad _ i a1 a2 a3 =>
    have := hok.1
    have h1 : -(10 ^ 40) < ((i : Nat) : Int) := by omega
    have h2 : ((i : Nat) : Int) < 10 ^ 40 := by omega
    exact ⟨sok_of _, by decide +kernel, .int h1 h2, Nat.le_trans (wt_int h1 h2) (by decide)⟩
  | good g =>
    have hT := textR_ok (rowsOf z).length g
    have hl := textR_len (rowsOf z) (rowsOf z).length (Nat.le_refl _)
    have hG : ∀ t ∈ (textR (rowsOf z) (rowsOf z).length).map toTk, isMark t.1 = true ∧ isWord t.2 = true := by
      intro t ht
      obtain ⟨u, hu, rfl⟩ := List.mem_map.mp ht
      have := hT u hu
      exact ⟨this.1, by show isWord (SX.S u.2) = true; rw [isWord_S]; exact this.2⟩
    have hw := wt_good hG
    rw [List.length_map] at hw
    refine ⟨sok_of _, by decide +kernel, (Shp.text fun t ht => ⟨sok_mark (hG t ht).1, sok_word (hG t ht).2⟩).le (by decide), ?_⟩
    rw [wt_text]; omega
theorem repr_two {b : Addr} {H : Hp} {Q : VK} {r : Addr} {tag : Str} {w : V} {e : PyData} (hr : H r = some (.lst [.str tag, w])) (hrb : r ≠ b) (hw : Dn b H w e) (ht : sok tag) (hl : tag.length ≤ 1000) (hs : Shp 5 e) (hwt : e.weight ≤ 190000)
    (q : Q (.str (PyData.list [.str tag, e]).shown) H) : uRepr2 [.ref r] H Q := ⟨b, _, .lst hrb hr (.cons (.str _) (.cons hw .nil)), .two ht hl hs hwt, q⟩
theorem ne_self {K : PySem.W.Frag} {z : Str} {H : Hp} {Q : VK} (q : Q (.bl false) H) : uNe2 K (.str z) (.str z) H Q := by
  have e : (!decide (V.str z = V.str z)) = false := by simp
  show Q (.bl (!decide (V.str z = V.str z))) H
  rw [e]; exact q
theorem eq_self {K : PySem.W.Frag} {z : Str} {H : Hp} {Q : VK} (q : Q (.bl true) H) : uEq2 K (.str z) (.str z) H Q := by
  have e : decide (V.str z = V.str z) = true := by simp
  show Q (.bl (decide (V.str z = V.str z))) H
  rw [e]; exact q
theorem box_some {H : Hp} {b : Addr} {n : Nat} (B : BoxAt H b n) : ∃ o, H b = some o := by
  obtain ⟨x, y, z, e, _⟩ := B
  exact ⟨_, e⟩
/-- behind the changes -/
def tEn (K : PySem.W.Frag) (ca : Nat → Addr) : TS := tSeq (uIfS (uT (tOp (uNe2 K) (tCB uRepr2 (tCons (tCall (sp__law_told K ca) [] E0 (tCons (uVar 1) (tNil))) (tNil))) (tCB uRepr2 (tCons (tCall (sp__law_read K ca) [] E0 (tCons (uVar 1) (tNil))) (tNil))))) (tRet (tC (.bl false))) (tNext)) (tSeq (tAsg (tOp (uIx K) (tLst (tCons (tC .non) (tCons (tC (.bl true)) (tCons (tC (.int 0)) (tCons (tLst (tCons (uVar 1) (tNil))) (tCons (tTup (tCons (tC (.str "a")) (tNil))) (tCons (tDNewK) (tCons (tLst (tNil)) (tNil))))))))) (tCall (sp__law_take K ca) [] E0 (tCons (uVar 0) (tCons (tC (.int 7)) (tNil))))) (gName 3)) (tRet (tOp (uEq2 K) (tCB uRepr2 (tCons (tCall (sp__law_told K ca) [] E0 (tCons (uVar 3) (tNil))) (tNil))) (tCB uRepr2 (tCons (tLst (tCons (tC (.str "page")) (tCons (tC (.int 0)) (tNil)))) (tNil))))))
theorem en_ok {K : PySem.W.Frag} {ca : Nat → Addr} {H0 H : Hp} {Q : VK} {b : Addr} {n : Nat} {z : Str} {x2 x3 : Option V} (B : BoxAt H b n) (hn : n ≤ 900000) (hz : z.length ≤ 5000) (so : sok z) (F : Fr b H0 H) (q : ∀ H', Fr b H0 H' → Q (.bl true) H') :
    tEn K ca { nx := fun _ H' => Q .non H', rt := Q } [some (.ref b), some (.str z), x2, x3] H := by
  obtain ⟨o, ho⟩ := box_some B
  refine ⟨b, .str z, .str z, rfl, .str z, ⟨o, ho⟩, (fun y ey => by cases ey; exact ⟨hz, so⟩), fun r tag w e H1 hr e1 hl hT hw => ?_⟩
  obtain ⟨g1, g2, g3, g4⟩ := told_shp hz so hT
  walk_at "u"
  refine repr_two (b := b) hl (ne_of_none ho hr).symm hw g1 g2 g3 g4 ?_
  refine ⟨b, z, rfl, ⟨o, e1 _ _ ho⟩, hz, so, fun r2 tag2 w2 e2 H2 hr2 ex2 hl2 hT2 hw2 => ?_⟩
  obtain ⟨rfl, rfl⟩ := told_one hT hT2
  refine repr_two (b := b) hl2 (ne_of_none (e1 _ _ ho) hr2).symm hw2 g1 g2 g3 g4 ?_
  refine ne_self ?_
  have e12 := e1.trans ex2
  have ho2 := e12 _ _ ho
  have B2 := B.ex e12
  refine ⟨by show 1 ≤ sizeLine; decide, fun q1 h1 => ⟨by show 1 ≤ sizeLine; decide, fun q2 h2 => fun q3 h3 => ⟨by decide, fun q4 h4 => ⟨by show 7 ≤ sizeLine; decide, fun q5 h5 => ?_⟩⟩⟩⟩
  have k1 := Ex.new (o := .lst [.str z]) h1
  have k2 := Ex.new (o := .tup [.str "a"]) h2
  have k3 := Ex.new (o := .dK []) h3
  have k4 := Ex.new (o := .lst []) h4
  have k5 := Ex.new (o := .lst [.non, .bl true, .int 0, .ref q1, .ref q2, .ref q3, .ref q4]) h5
  have kk := (((k1.trans k2).trans k3).trans k4).trans k5
  have n1 : q1 ≠ b := (ne_of_none ho2 h1).symm
  have n2 : q2 ≠ b := (ne_of_none (k1 _ _ ho2) h2).symm
  have n3 : q3 ≠ b := (ne_of_none (k2 _ _ (k1 _ _ ho2)) h3).symm
  have n4 : q4 ≠ b := (ne_of_none (k3 _ _ (k2 _ _ (k1 _ _ ho2))) h4).symm
  have n5 : q5 ≠ b := (ne_of_none (k4 _ _ (k3 _ _ (k2 _ _ (k1 _ _ ho2)))) h5).symm
  have m1 := k5 _ _ (k4 _ _ (k3 _ _ (k2 q1 _ upd_same)))
  have m2 := k5 _ _ (k4 _ _ (k3 q2 _ upd_same))
  have m3 := k5 _ _ (k4 q3 _ upd_same)
  have m4 := k5 q4 _ upd_same
  refine ⟨b, _, _, rfl, B2.ex kk, by omega, by decide, by decide, fun r3 H3 a3 c3 B3 f3 => ?_⟩
  have hl3 := f3 q5 _ upd_same n5
  obtain ⟨v, hv, hm⟩ := pick (xs := [V.non, .bl true, .int 0, .ref q1, .ref q2, .ref q3, .ref q4]) a3 c3
  refine oS_of (rdS_l hl3) (oK_of hv ?_)
  have hd : ∃ d, Dn b H3 v d ∧ ∀ y, d ≠ .str y := by
    simp only [List.mem_cons, List.not_mem_nil, or_false] at hm
    rcases hm with rfl | rfl | rfl | rfl | rfl | rfl | rfl
    · exact ⟨_, .non, fun y h => by cases h⟩
    · exact ⟨_, .bl true, fun y h => by cases h⟩
    · exact ⟨_, .int 0, fun y h => by cases h⟩
    · exact ⟨_, .lst n1 (f3 _ _ m1 n1) (.cons (.str _) .nil), fun y h => by cases h⟩
    · exact ⟨_, .tup n2 (f3 _ _ m2 n2) (.cons (.str _) .nil), fun y h => by cases h⟩
    · exact ⟨_, .dct n3 (f3 _ _ m3 n3), fun y h => by cases h⟩
    · exact ⟨_, .lst n4 (f3 _ _ m4 n4) .nil, fun y h => by cases h⟩
  obtain ⟨d, hd1, hd2⟩ := hd
  obtain ⟨o3, ho3⟩ := box_some B3
  have F3 : Fr b H0 H3 := (F.trans (Fr.ex e12)).trans ((Fr.ex kk).trans f3)
  refine ⟨b, v, d, rfl, hd1, ⟨o3, ho3⟩, (fun y ey => absurd ey (hd2 y)), fun r4 tag w e H4 hr4 e4 hl4 hT4 hw4 => ?_⟩
  obtain ⟨rfl, rfl⟩ := told_odd hT4 hd2
  have s1 : sok (Str.ofString "page") := sok_of _
  have s2 : (Str.ofString "page").length ≤ 1000 := by decide +kernel
  have s3 : Shp 5 (.int 0) := .int (by decide) (by decide)
  have s4 : (PyData.int 0).weight ≤ 190000 := Nat.le_trans (wt_int (by decide) (by decide)) (by decide)
  refine repr_two (b := b) hl4 (ne_of_none ho3 hr4).symm hw4 s1 s2 s3 s4 ?_
  refine ⟨by show 2 ≤ sizeLine; decide, fun r5 hr5 => ?_⟩
  refine repr_two (b := b) upd_same (ne_of_none (e4 _ _ ho3) hr5).symm (.int 0) s1 s2 s3 s4 ?_
  exact eq_self (q _ (F3.trans ((Fr.ex e4).trans (Fr.new hr5))))
theorem len__law_right {K ca vs H Q E} (h : sp__law_right K ca vs H Q E) : vs.length = P__law_right.length := by obtain ⟨b, rfl, _⟩ := h; rfl
theorem p__law_right {K ca vs H Q E} (T : Ct K ca) (h : sp__law_right K ca vs H Q E) : t__law_right K ca { nx := fun _ H' => Q .non H', rt := Q } (start N__law_right vs) H := by
  obtain ⟨b, rfl, B, q⟩ := h
  refine ⟨b, _, _, rfl, B, by omega, by decide, by decide, fun k H1 k0 k1 B1 f1 => ?_⟩
  refine ⟨by show 3 ≤ sizeLine; decide, fun q1 h1 => ?_⟩
  refine ⟨b, _, _, rfl, B1.new h1, by omega, by decide, by decide, fun r H2 a2 c2 B2 f2 => ?_⟩
  have hl := f2 q1 _ upd_same (B1.ne h1)
  obtain ⟨v, hv, hm⟩ := pick (xs := [V.int 2, .int 9, .int 30]) a2 c2
  refine oS_of (rdS_l hl) (oK_of hv ?_)
  have hv : ∃ m : Int, v = .int m ∧ 0 < m ∧ m ≤ 30 := by
    simp only [List.mem_cons, List.not_mem_nil, or_false] at hm
    rcases hm with rfl | rfl | rfl <;> exact ⟨_, rfl, by decide, by decide⟩
  obtain ⟨m, rfl, m0, m1⟩ := hv
  refine ⟨b, k, m, _, rfl, B2, by omega, k0, by omega, m0, m1, fun p ts H3 hp hg hlen ht B3 f3 => ?_⟩
  refine ⟨b, p, ts, rfl, ht, hg, by omega, fun z H4 e4 hz so => ?_⟩
  have F4 : Fr b H H4 := (f1.trans ((Fr.new h1).trans f2)).trans (f3.trans (Fr.ex e4))
  refine ⟨b, _, _, rfl, B3.ex e4, by omega, by decide, by decide, fun n5 H5 a5 c5 B5 f5 => ?_⟩
  have key : tFor (iRng1 fun _ H R => R [.int (1 + n5)] H) (gName 2) (tAsg (tCall (sp__law_changed K ca) [] E0 (tCons (uVar 0) (tCons (uVar 1) (tNil)))) (gName 1)) { nx := tEn K ca { nx := fun _ H' => Q .non H', rt := Q }, rt := Q } [some (.ref b), some (.str z), none, none] H5 := by
    refine forr (n := 1 + n5) (fun R h => h) (by omega) (by omega) (fun i σ H' => ∃ z x2, σ = [some (.ref b), some (.str z), x2, none] ∧ BoxAt H' b (700 + 4 * i) ∧ Fr b H H' ∧ sok z ∧ (i = 0 → z.length ≤ 500) ∧ (i = 1 → z.length ≤ 1040) ∧ (i = 2 → z.length ≤ 2120) ∧ (i = 3 → z.length ≤ 4280)) ?_ ?_ ?_
    · exact ⟨z, none, rfl, B5.le (by omega), F4.trans f5, so, fun _ => by omega, fun h => by omega, fun h => by omega, fun h => by omega⟩
    · rintro i σ H6 hi ⟨z, x2, rfl, B6, F6, so6, l0, l1, l2, l3⟩
      have hzz : z.length ≤ 4280 ∧ (i = 0 → z.length ≤ 500) ∧ (i = 1 → z.length ≤ 1040) ∧ (i = 2 → z.length ≤ 2120) := by
        have : i = 0 ∨ i = 1 ∨ i = 2 := by omega
        refine ⟨?_, l0, l1, l2⟩
        rcases this with h | h | h
        · have := l0 h; omega
        · have := l1 h; omega
        · have := l2 h; omega
      refine ⟨b, _, z, rfl, B6, by omega, by omega, so6, fun z' H7 B7 f7 hz7 so7 => ?_⟩
      exact ⟨z', _, rfl, B7.le (by omega), F6.trans f7, so7, fun h => by omega, fun h => by have := hzz.2.1 (by omega); omega, fun h => by have := hzz.2.2.1 (by omega); omega, fun h => by have := hzz.2.2.2 (by omega); omega⟩
    · rintro σ H6 ⟨z, x2, rfl, B6, F6, so6, l0, l1, l2, l3⟩
      have hzz : z.length ≤ 5000 := by
        have : (1 + n5).toNat = 1 ∨ (1 + n5).toNat = 2 ∨ (1 + n5).toNat = 3 := by omega
        rcases this with h | h | h
        · have := l1 h; omega
        · have := l2 h; omega
        · have := l3 h; omega
      exact en_ok B6 (by omega) hzz so6 F6 q
  exact key
theorem len_law {K ca vs H Q E} (h : sp_law K ca vs H Q E) : vs.length = P_law.length := by obtain ⟨a, ns, rfl, _⟩ := h; rfl
theorem p_law {K ca vs H Q E} (T : Ct K ca) (h : sp_law K ca vs H Q E) : t_law K ca { nx := fun _ H' => Q .non H', rt := Q } (start N_law vs) H := by
  obtain ⟨a, ns, rfl, hS, hlen, k⟩ := h
  refine forr (n := if (if (ns.length : Int) < 20 then (ns.length : Int) else 20) > 2 then (if (ns.length : Int) < 20 then (ns.length : Int) else 20) else 2) (H1 := H) (fun R h => ?_) ?_ ?_
    (fun i σ H' => ∃ x1, σ = [some (.ref a), x1] ∧ ScriptAt K H' a ns) ?_ ?_ ?_
  · refine oS_l hS.sq ?_
    rw [List.length_map]
    exact h
  · split <;> split <;> omega
  · split <;> split <;> omega
  · exact ⟨none, rfl, hS⟩
  · rintro i σ H1 hi ⟨x1, rfl, hS1⟩
    have hi : (i : Int) < 63 := by split at hi <;> split at hi <;> omega
    refine ⟨a, ns, _, rfl, hS1, by omega, by omega, fun cell => ⟨cell, rfl, fun b H2 nb e2 B2 => ?_⟩⟩
    refine ⟨b, rfl, B2, fun H3 f3 => ?_⟩
    exact ⟨_, rfl, (hS1.ex e2).box B2 f3⟩
  · rintro σ H' ⟨x1, rfl, hS1⟩
    exact k H'

section
variable {P : Program} {w : World} {K : PySem.W.Frag} {mg : Str → Option Value} {base : Heap} {a : Nat → Addr} {d : Nat → FuncData} {ca : Nat → Addr}
theorem okI_InvalidPage (T : Tx K mg a d ca) : FnOk P w K mg base CX0 1 (a 17) (d 17) ["self", "line"] (U.spI (ca 1) "line") :=
  T.F_InvalidPage.ok scI_InvalidPage (fun vs H Q E h => U.len_spI h) (fun cdv A outer s H vs Q E hr h => ⟨U.tI K "line" "not a page", pss_cons (ps_expr (U.pe_binit T.y_ReflowError rfl T.w_ReflowError (pa_cons (U.pu 0) (pa_cons pe_str pa_nil)))) (pss_one (ps_ost (U.pu 0) (U.pu 1))), U.p_init T.x_InvalidPage h⟩)
theorem v_is_word (T : Tx K mg a d ca)   {fa : Addr} {cdv : Value} {A : Around} {outer : List Env} {s : Shared} {H : Hp} {E : XK} (hr : Room 0 (A.deeper (envOfC "is_word" (defScope s_is_word) s.heap.objs.size fa cdv))) :
    PSs ((cxOf CX0 P w K mg base N_is_word "is_word" (defScope s_is_word) fa cdv A outer s H E).nox) (defBody s_is_word) (t_is_word K ca) :=
  pss_cons (pus_if (PW.pt (puw_or (put_not (put_val (pue_isi .str (pu 0) rfl T.z_isinstance rfl T.z_str (by decide +kernel)))) (pw_or1 (put_not (put_chain ou_le ou_le (pe_int) (pe_callB cu_len rfl T.z_len (by decide +kernel) (pa_cons (pu 0) (pa_nil))) (pe_glob rfl T.c_MOST_LETTERS.choose_spec ⟨_, rfl⟩)))))) (pss_one (ps_ret (pe_bl))) (pss_nil)) (pss_one (ps_ret (pe_callB (cu_all rfl) rfl T.z_all (by decide +kernel) (pa_cons (pe_lc (own := [("sign", 1)]) (g := gName 1) (tt := tYes) (te := tOp (uIn K false) (uVar 1) (tC (.str "abcdefghijklmnopqrstuvwxyz"))) rfl sc_is_word.nd (piu (pu 0)) (blkOk_by (own := [("sign", 1)]) (N := N_is_word) (sc := defScope s_is_word) (by decide +kernel)) (fun _ _ _ _ _ => pg_name (i := 1) sc_is_word.nd rfl (Or.inl rfl)) (fun _ _ _ _ _ => pts_nil) (fun _ _ _ _ _ => pe_cmpR ou_in (pu 1) (pe_glob rfl T.c_LETTERS.choose_spec ⟨_, rfl⟩) (by rfl))) (pa_nil)))))
theorem v_split_line (T : Tx K mg a d ca) (G_is_word : FnOk P w K mg base CX0 1 (a 0) (d 0) P_is_word (sp_is_word K ca))  {fa : Addr} {cdv : Value} {A : Around} {outer : List Env} {s : Shared} {H : Hp} {E : XK} (hr : Room 1 (A.deeper (envOfC "split_line" (defScope s_split_line) s.heap.objs.size fa cdv))) :
    PSs ((cxOf CX0 P w K mg base N_split_line "split_line" (defScope s_split_line) fa cdv A outer s H E).nox) (defBody s_split_line) (t_split_line K ca) :=
  pss_cons (ps_set (i := 1) sc_split_line.nd rfl (Or.inl rfl) (pe_int)) (pss_cons (ps_while PassesOwn.never (PW.pt (puw_and (put_cmp ou_lt (pu 1) (pe_callB cu_len rfl T.z_len (by decide +kernel) (pa_cons (pu 0) (pa_nil))) (nomark _)) (pw_and1 (put_cmp (ou_eq2 hr.units) (pe_ix iu_ix (pu 0) (pu 1) (fun _ _ => rfl)) (pe_str) (nomark _))))) (pss_one (ps_aug (i := 1) sc_split_line.nd rfl (Or.inl rfl) (pe_int) ip_uadd))) (pss_cons (ps_set (i := 2) sc_split_line.nd rfl (Or.inl rfl) (pe_m1 F.slot_str_split F.type_str_split mu_split (pe_slice su_sl (pu 0) (pou_some (pu 1)) (po_none)) (pe_str))) (pss_cons (ps_set (i := 3) sc_split_line.nd rfl (Or.inl rfl) (pue_and (pe_cmpR ou_gt (pe_callB cu_len rfl T.z_len (by decide +kernel) (pa_cons (pu 2) (pa_nil))) (pe_int) (nomark _)) (pe_one (pe_cmpR (ou_eq2 hr.units) (pe_ix iu_ix (pu 2) (pe_un ou_neg (pe_int)) (fun _ _ => rfl)) (pe_str) (nomark _))))) (pss_cons (pus_if (put_val (pu 3)) (pss_one (ps_set (i := 2) sc_split_line.nd rfl (Or.inl rfl) (pe_slice su_sl (pu 2) (po_none) (pou_some (pe_un ou_neg (pe_int)))))) (pss_nil)) (pss_cons (pus_if (PW.pt (puw_or (put_cmp ou_gt (pu 1) (pe_glob rfl T.c_MOST_INDENT.choose_spec ⟨_, rfl⟩) (nomark _)) (pw_or1 (put_not (put_val (pe_callB (cu_all rfl) rfl T.z_all (by decide +kernel) (pa_cons (pe_lc (own := [("word", 4)]) (g := gName 4) (tt := tYes) (te := tCall (sp_is_word K ca) [] E0 (tCons (uVar 4) (tNil))) rfl sc_split_line.nd (piu (pu 2)) (blkOk_by (own := [("word", 4)]) (N := N_split_line) (sc := defScope s_split_line) (by decide +kernel)) (fun _ _ _ _ _ => pg_name (i := 4) sc_split_line.nd rfl (Or.inl rfl)) (fun _ _ _ _ _ => pts_nil) (fun _ _ _ _ _ => pe_call G_is_word (hr.mono (by decide)) rfl T.m_is_word T.f_is_word.kp T.b_is_word .nil pass0 (pa_cons (pu 4) (pa_nil)))) (pa_nil)))))))) (pss_one (ps_ret (pe_non))) (pss_nil)) (pss_one (ps_ret (pe_tup (pa_cons (pu 1) (pa_cons (pu 2) (pa_cons (pu 3) (pa_nil))))))))))))
theorem v_is_right (T : Tx K mg a d ca) (G_split_line : FnOk P w K mg base CX0 2 (a 1) (d 1) P_split_line (sp_split_line K ca))  {fa : Addr} {cdv : Value} {A : Around} {outer : List Env} {s : Shared} {H : Hp} {E : XK} (hr : Room 2 (A.deeper (envOfC "is_right" (defScope s_is_right) s.heap.objs.size fa cdv))) :
    PSs ((cxOf CX0 P w K mg base N_is_right "is_right" (defScope s_is_right) fa cdv A outer s H E).nox) (defBody s_is_right) (t_is_right K ca) :=
  pss_cons (ps_set (i := 2) sc_is_right.nd rfl (Or.inl rfl) (pue_if (put_cmp ou_gt (pu 1) (pe_int) (nomark _)) (pe_ix iu_ix (pu 0) (pe_op ou_sub (pu 1) (pe_int)) (fun _ _ => rfl)) (pe_str))) (pss_cons (ps_set (i := 3) sc_is_right.nd rfl (Or.inl rfl) (pue_if (put_cmp ou_lt (pe_op ou_add (pu 1) (pe_int)) (pe_callB cu_len rfl T.z_len (by decide +kernel) (pa_cons (pu 0) (pa_nil))) (nomark _)) (pe_ix iu_ix (pu 0) (pe_op ou_add (pu 1) (pe_int)) (fun _ _ => rfl)) (pe_str))) (pss_cons (pus_if (put_cmp (ou_eq2 hr.units) (pe_ix iu_ix (pu 0) (pu 1) (fun _ _ => rfl)) (pe_str) (nomark _)) (pss_one (ps_ret (pue_and (pe_cmpR (ou_ne2 hr.units) (pu 2) (pe_str) (nomark _)) (pe_one (pe_cmpR (ou_ne2 hr.units) (pu 3) (pe_str) (nomark _)))))) (pss_nil)) (pss_cons (ps_set (i := 4) sc_is_right.nd rfl (Or.inl rfl) (pe_call G_split_line (hr.mono (by decide)) rfl T.m_split_line T.f_split_line.kp T.b_split_line .nil pass0 (pa_cons (pe_ix iu_ix (pu 0) (pu 1) (fun _ _ => rfl)) (pa_nil)))) (pss_one (ps_ret (pue_and (pe_cmpR ou_isnot (pu 4) (pe_non) (nomark _)) (pe_one (pue_or (pue_not (pe_ix iu_ix (pu 4) (pe_int) (fun _ _ => rfl))) (pe_one (pe_cmpR (ou_ne2 hr.units) (pu 3) (pe_str) (nomark _)))))))))))
theorem v_read_page (T : Tx K mg a d ca) (G_split_line : FnOk P w K mg base CX0 2 (a 1) (d 1) P_split_line (sp_split_line K ca)) (G_is_right : FnOk P w K mg base CX0 3 (a 2) (d 2) P_is_right (sp_is_right K ca)) (I_InvalidPage : FnOk P w K mg base CX0 1 (a 17) (d 17) ["self", "line"] (U.spI (ca 1) "line")) {fa : Addr} {cdv : Value} {A : Around} {outer : List Env} {s : Shared} {H : Hp} {E : XK} (hr : Room 3 (A.deeper (envOfC "read_page" (defScope s_read_page) s.heap.objs.size fa cdv))) :
    PSs (cxOf (L2.CX P w) P w K mg base N_read_page "read_page" (defScope s_read_page) fa cdv A outer s H E) (defBody s_read_page) (t_read_page K ca E) :=
  pss_cons (pus_if (put_not (put_val (pue_isi .str (pu 0) rfl T.z_isinstance rfl T.z_str (by decide +kernel)))) (pss_one (ps_raiseu rfl (takes_of rfl rfl rfl rfl) (pmku T.x_InvalidPage I_InvalidPage (hr.mono (by decide)) T.i_InvalidPage pass0 rfl (pa_cons (pe_int) (pa_nil))))) (pss_nil)) (pss_cons (ps_set (i := 1) sc_read_page.nd rfl (Or.inl rfl) (pue_if (put_cmp (ou_ne2 hr.units) (pu 0) (pe_str) (nomark _)) (pe_m1 F.slot_str_split F.type_str_split mu_split (pu 0) (pe_str)) (pe_lst (pa_nil)))) (pss_cons (ps_set (i := 2) sc_read_page.nd rfl (Or.inl rfl) (pe_lst (pa_nil))) (pss_cons (ps_set (i := 3) sc_read_page.nd rfl (Or.inl rfl) (pe_str)) (pss_cons (ps_for (passes_of rfl) rfl (pi_enum rfl T.z_enumerate (pa_cons (pu 1) (pa_nil))) (pg_ts rfl (pgs_cons (pg_name (i := 4) sc_read_page.nd rfl (Or.inl rfl)) (pgs_cons (pg_name (i := 5) sc_read_page.nd rfl (Or.inl rfl)) (pgs_nil)))) (pss_cons (pus_if (put_not (put_val (pe_call G_is_right (hr.mono (by decide)) rfl T.m_is_right T.f_is_right.kp T.b_is_right .nil pass0 (pa_cons (pu 1) (pa_cons (pu 4) (pa_nil)))))) (pss_one (ps_raiseu rfl (takes_of rfl rfl rfl rfl) (pmku T.x_InvalidPage I_InvalidPage (hr.mono (by decide)) T.i_InvalidPage pass0 rfl (pa_cons (pu 4) (pa_nil))))) (pss_nil)) (pss_one (pus_if (put_cmp (ou_eq2 hr.units) (pu 5) (pe_str) (nomark _)) (pss_one (ps_set (i := 3) sc_read_page.nd rfl (Or.inl rfl) (pe_str))) (pss_cons (ps_asg (pe_call G_split_line (hr.mono (by decide)) rfl T.m_split_line T.f_split_line.kp T.b_split_line .nil pass0 (pa_cons (pu 5) (pa_nil))) (pg_ts rfl (pgs_cons (pg_name (i := 6) sc_read_page.nd rfl (Or.inl rfl)) (pgs_cons (pg_name (i := 7) sc_read_page.nd rfl (Or.inl rfl)) (pgs_cons (pg_name (i := 8) sc_read_page.nd rfl (Or.inl rfl)) (pgs_nil)))))) (pss_cons (ps_expr (pe_bm PySem.F.plainAttrs_list PySem.F.slot_list_append PySem.F.type_list_append mu_append (pu 2) (pa_cons (pe_tup (pa_cons (pe_op ou_add (pu 3) (pe_callTy cu_str rfl T.z_str (by decide +kernel) (pa_cons (pu 6) (pa_nil)))) (pa_cons (pe_ix iu_ix (pu 7) (pe_int) (fun _ _ => rfl)) (pa_nil)))) (pa_nil)))) (pss_cons (ps_expr (pe_bm PySem.F.plainAttrs_list PySem.F.slot_list_extend PySem.F.type_list_extend mu_extend (pu 2) (pa_cons (pe_lc (own := [("word", 9)]) (g := gName 9) (tt := tYes) (te := tTup (tCons (tC (.str " ")) (tCons (uVar 9) (tNil)))) rfl sc_read_page.nd (piu (pe_slice su_sl (pu 7) (pou_some (pe_int)) (po_none))) (blkOk_by (own := [("word", 9)]) (N := N_read_page) (sc := defScope s_read_page) (by decide +kernel)) (fun _ _ _ _ _ => pg_name (i := 9) sc_read_page.nd rfl (Or.inl rfl)) (fun _ _ _ _ _ => pts_nil) (fun _ _ _ _ _ => pe_tup (pa_cons (pe_str) (pa_cons (pu 9) (pa_nil))))) (pa_nil)))) (pss_one (ps_set (i := 3) sc_read_page.nd rfl (Or.inl rfl) (pue_if (put_val (pu 8)) (pe_str) (pe_str))))))))))) (pss_one (ps_ret (pu 2)))))))
theorem v__law_cell (T : Tx K mg a d ca)   {fa : Addr} {cdv : Value} {A : Around} {outer : List Env} {s : Shared} {H : Hp} {E : XK} (hr : Room 0 (A.deeper (envOfC "_law_cell" (defScope s__law_cell) s.heap.objs.size fa cdv))) :
    PSs ((cxOf CX0 P w K mg base N__law_cell "_law_cell" (defScope s__law_cell) fa cdv A outer s H E).nox) (defBody s__law_cell) (t__law_cell K ca) :=
  pss_cons (pus_if (put_cmp ou_lt (pu 1) (pe_callB cu_len rfl T.z_len (by decide +kernel) (pa_cons (pu 0) (pa_nil))) (nomark _)) (pss_one (ps_ret (pe_ix iu_ix (pu 0) (pu 1) (fun _ _ => rfl)))) (pss_nil)) (pss_one (ps_ret (pe_op ou_add (pe_op ou_mul3 (pe_int) (pu 1)) (pe_int))))
theorem v__law_purse (T : Tx K mg a d ca)   {fa : Addr} {cdv : Value} {A : Around} {outer : List Env} {s : Shared} {H : Hp} {E : XK} (hr : Room 0 (A.deeper (envOfC "_law_purse" (defScope s__law_purse) s.heap.objs.size fa cdv))) :
    PSs ((cxOf CX0 P w K mg base N__law_purse "_law_purse" (defScope s__law_purse) fa cdv A outer s H E).nox) (defBody s__law_purse) (t__law_purse K ca) :=
  pss_one (ps_ret (pe_lst (pa_cons (pe_callB (cu_max rfl) rfl T.z_max (by decide +kernel) (pa_cons (pe_int) (pa_cons (pe_op ou_sub (pu 0) (pe_op ou_pow (pe_int) (pe_int))) (pa_nil)))) (pa_cons (pe_op ou_mod (pu 0) (pe_int)) (pa_cons (pe_int) (pa_nil))))))
theorem v__law_take (T : Tx K mg a d ca)   {fa : Addr} {cdv : Value} {A : Around} {outer : List Env} {s : Shared} {H : Hp} {E : XK} (hr : Room 0 (A.deeper (envOfC "_law_take" (defScope s__law_take) s.heap.objs.size fa cdv))) :
    PSs ((cxOf CX0 P w K mg base N__law_take "_law_take" (defScope s__law_take) fa cdv A outer s H E).nox) (defBody s__law_take) (t__law_take K ca) :=
  pss_cons (pus_if (put_cmp ou_gt (pe_ix iu_ix (pu 0) (pe_int) (fun _ _ => rfl)) (pe_int) (nomark _)) (pss_cons (ps_set (i := 2) sc__law_take.nd rfl (Or.inl rfl) (pe_op ou_mod (pe_ix iu_ix (pu 0) (pe_int) (fun _ _ => rfl)) (pu 1))) (pss_cons (ps_asg (pe_op ou_fdiv (pe_ix iu_ix (pu 0) (pe_int) (fun _ _ => rfl)) (pu 1)) (pg_sub (pu 0) (pe_int) setu)) (pss_one (ps_ret (pu 2))))) (pss_nil)) (pss_cons (ps_asg (pe_op ou_add (pe_ix iu_ix (pu 0) (pe_int) (fun _ _ => rfl)) (pe_int)) (pg_sub (pu 0) (pe_int) setu)) (pss_cons (ps_set (i := 3) sc__law_take.nd rfl (Or.inl rfl) (pe_op ou_mod (pe_op ou_pow (pe_op ou_add (pe_op ou_add (pe_ix iu_ix (pu 0) (pe_int) (fun _ _ => rfl)) (pe_op ou_mul3 (pe_int) (pe_ix iu_ix (pu 0) (pe_int) (fun _ _ => rfl)))) (pe_int)) (pe_int)) (pe_int))) (pss_cons (ps_set (i := 3) sc__law_take.nd rfl (Or.inl rfl) (pe_op ou_mod (pe_op ou_pow (pe_op ou_add (pu 3) (pe_op ou_mul3 (pe_int) (pe_ix iu_ix (pu 0) (pe_int) (fun _ _ => rfl)))) (pe_int)) (pe_int))) (pss_one (ps_ret (pe_op ou_mod (pe_op ou_fdiv (pu 3) (pe_int)) (pu 1)))))))
theorem v__law_mark (T : Tx K mg a d ca) (G__law_take : FnOk P w K mg base CX0 1 (a 6) (d 6) P__law_take (sp__law_take K ca))  {fa : Addr} {cdv : Value} {A : Around} {outer : List Env} {s : Shared} {H : Hp} {E : XK} (hr : Room 1 (A.deeper (envOfC "_law_mark" (defScope s__law_mark) s.heap.objs.size fa cdv))) :
    PSs ((cxOf CX0 P w K mg base N__law_mark "_law_mark" (defScope s__law_mark) fa cdv A outer s H E).nox) (defBody s__law_mark) (t__law_mark K ca) :=
  pss_cons (pus_if (put_cmp (ou_eq2 hr.units) (pe_call G__law_take (hr.mono (by decide)) rfl T.m__law_take T.f__law_take.kp T.b__law_take .nil pass0 (pa_cons (pu 0) (pa_cons (pe_int) (pa_nil)))) (pe_int) (nomark _)) (pss_one (ps_ret (pe_str))) (pss_nil)) (pss_one (ps_ret (pe_op ou_add (pe_ix iu_ix (pe_str) (pe_call G__law_take (hr.mono (by decide)) rfl T.m__law_take T.f__law_take.kp T.b__law_take .nil pass0 (pa_cons (pu 0) (pa_cons (pe_int) (pa_nil)))) (fun _ _ => rfl)) (pe_ix iu_ix (pe_str) (pe_call G__law_take (hr.mono (by decide)) rfl T.m__law_take T.f__law_take.kp T.b__law_take .nil pass0 (pa_cons (pu 0) (pa_cons (pe_int) (pa_nil)))) (fun _ _ => rfl)))))
theorem v__law_word (T : Tx K mg a d ca) (G__law_take : FnOk P w K mg base CX0 1 (a 6) (d 6) P__law_take (sp__law_take K ca))  {fa : Addr} {cdv : Value} {A : Around} {outer : List Env} {s : Shared} {H : Hp} {E : XK} (hr : Room 1 (A.deeper (envOfC "_law_word" (defScope s__law_word) s.heap.objs.size fa cdv))) :
    PSs ((cxOf CX0 P w K mg base N__law_word "_law_word" (defScope s__law_word) fa cdv A outer s H E).nox) (defBody s__law_word) (t__law_word K ca) :=
  pss_cons (ps_set (i := 2) sc__law_word.nd rfl (Or.inr rfl) (pe_str)) (pss_one (ps_ret (pe_m1 F.slot_str_join F.type_str_join mu_join (pe_str) (pe_lc (own := [("_law_k", 3)]) (g := gName 3) (tt := tYes) (te := tOp (uIx K) (uVar 2) (tCall (sp__law_take K ca) [] E0 (tCons (uVar 0) (tCons (tC (.int 26)) (tNil))))) rfl sc__law_word.nd (pi_range1 rfl T.z_range (pa_cons (pe_op ou_add (pe_int) (pe_call G__law_take (hr.mono (by decide)) rfl T.m__law_take T.f__law_take.kp T.b__law_take .nil pass0 (pa_cons (pu 0) (pa_cons (pu 1) (pa_nil))))) (pa_nil))) (blkOk_by (own := [("_law_k", 3)]) (N := N__law_word) (sc := defScope s__law_word) (by decide +kernel)) (fun _ _ _ _ _ => pg_name (i := 3) sc__law_word.nd rfl (Or.inl rfl)) (fun _ _ _ _ _ => pts_nil) (fun _ _ _ _ _ => pe_ix iu_ix (pu 2) (pe_call G__law_take (hr.mono (by decide)) rfl T.m__law_take T.f__law_take.kp T.b__law_take .nil pass0 (pa_cons (pu 0) (pa_cons (pe_int) (pa_nil)))) (fun _ _ => rfl))))))
theorem v__law_text (T : Tx K mg a d ca) (G__law_take : FnOk P w K mg base CX0 1 (a 6) (d 6) P__law_take (sp__law_take K ca)) (G__law_mark : FnOk P w K mg base CX0 2 (a 7) (d 7) P__law_mark (sp__law_mark K ca)) (G__law_word : FnOk P w K mg base CX0 2 (a 8) (d 8) P__law_word (sp__law_word K ca))  {fa : Addr} {cdv : Value} {A : Around} {outer : List Env} {s : Shared} {H : Hp} {E : XK} (hr : Room 2 (A.deeper (envOfC "_law_text" (defScope s__law_text) s.heap.objs.size fa cdv))) :
    PSs ((cxOf CX0 P w K mg base N__law_text "_law_text" (defScope s__law_text) fa cdv A outer s H E).nox) (defBody s__law_text) (t__law_text K ca) :=
  pss_cons (ps_set (i := 3) sc__law_text.nd rfl (Or.inl rfl) (pe_lst (pa_nil))) (pss_cons (ps_for PassesOwn.never rfl (pi_range1 rfl T.z_range (pa_cons (pu 1) (pa_nil))) (pg_name (i := 4) sc__law_text.nd rfl (Or.inl rfl)) (pss_cons (ps_set (i := 5) sc__law_text.nd rfl (Or.inl rfl) (pue_if (put_cmp ou_gt (pu 4) (pe_int) (nomark _)) (pe_call G__law_mark (hr.mono (by decide)) rfl T.m__law_mark T.f__law_mark.kp T.b__law_mark .nil pass0 (pa_cons (pu 0) (pa_nil))) (pe_op ou_add (pe_str) (pe_ix iu_ix (pe_str) (pe_call G__law_take (hr.mono (by decide)) rfl T.m__law_take T.f__law_take.kp T.b__law_take .nil pass0 (pa_cons (pu 0) (pa_cons (pe_int) (pa_nil)))) (fun _ _ => rfl))))) (pss_one (ps_expr (pe_bm PySem.F.plainAttrs_list PySem.F.slot_list_append PySem.F.type_list_append mu_append (pu 3) (pa_cons (pe_tup (pa_cons (pu 5) (pa_cons (pe_call G__law_word (hr.mono (by decide)) rfl T.m__law_word T.f__law_word.kp T.b__law_word .nil pass0 (pa_cons (pu 0) (pa_cons (pu 2) (pa_nil)))) (pa_nil)))) (pa_nil))))))) (pss_one (ps_ret (pu 3))))
theorem v__law_page (T : Tx K mg a d ca)   {fa : Addr} {cdv : Value} {A : Around} {outer : List Env} {s : Shared} {H : Hp} {E : XK} (hr : Room 0 (A.deeper (envOfC "_law_page" (defScope s__law_page) s.heap.objs.size fa cdv))) :
    PSs ((cxOf CX0 P w K mg base N__law_page "_law_page" (defScope s__law_page) fa cdv A outer s H E).nox) (defBody s__law_page) (t__law_page K ca) :=
  pss_cons (ps_set (i := 1) sc__law_page.nd rfl (Or.inl rfl) (pe_str)) (pss_cons (ps_for PassesOwn.never rfl (pi_enum rfl T.z_enumerate (pa_cons (pu 0) (pa_nil))) (pg_ts rfl (pgs_cons (pg_name (i := 2) sc__law_page.nd rfl (Or.inl rfl)) (pgs_cons (pg_ts rfl (pgs_cons (pg_name (i := 3) sc__law_page.nd rfl (Or.inl rfl)) (pgs_cons (pg_name (i := 4) sc__law_page.nd rfl (Or.inl rfl)) (pgs_nil)))) (pgs_nil)))) (pss_one (pus_if (put_cmp (ou_eq2 hr.units) (pu 3) (pe_str) (nomark _)) (pss_one (ps_set (i := 1) sc__law_page.nd rfl (Or.inl rfl) (pe_op ou_add (pe_op ou_add (pu 1) (pe_str)) (pu 4)))) (pss_cons (ps_set (i := 5) sc__law_page.nd rfl (Or.inl rfl) (pue_if (put_cmp ou_gt (pu 2) (pe_int) (nomark _)) (pe_dget (Nat.lt_of_le_of_lt (Nat.add_le_add_left (by decide : 1 ≤ 64) _) hr.units) (pe_disp (pps_cons (pe_str) (pe_str) (pps_cons (pe_str) (pe_str) (pps_cons (pe_str) (pe_str) (pps_nil)))) (by rfl) (by rfl) (fun z => by cases z) (by decide)) (pe_ix iu_ix (pu 3) (pe_int) (fun _ _ => rfl)) (fun _ _ => rfl)) (pe_str))) (pss_one (ps_set (i := 1) sc__law_page.nd rfl (Or.inl rfl) (pe_op ou_add (pe_op ou_add (pe_op ou_add (pu 1) (pu 5)) (pe_ix iu_ix (pe_lst (pa_cons (pe_str) (pa_cons (pe_str) (pa_cons (pe_str) (pa_cons (pe_str) (pa_nil)))))) (pe_m1 F.slot_str_find F.type_str_find mu_find (pe_str) (pe_ix iu_ix (pu 3) (pe_int) (fun _ _ => rfl))) (fun _ _ => rfl))) (pu 4)))))))) (pss_one (ps_ret (pu 1))))
theorem v__law_parts (T : Tx K mg a d ca)   {fa : Addr} {cdv : Value} {A : Around} {outer : List Env} {s : Shared} {H : Hp} {E : XK} (hr : Room 0 (A.deeper (envOfC "_law_parts" (defScope s__law_parts) s.heap.objs.size fa cdv))) :
    PSs ((cxOf CX0 P w K mg base N__law_parts "_law_parts" (defScope s__law_parts) fa cdv A outer s H E).nox) (defBody s__law_parts) (t__law_parts K ca) :=
  pss_cons (ps_set (i := 1) sc__law_parts.nd rfl (Or.inl rfl) (pe_int)) (pss_cons (ps_while PassesOwn.never (PW.pt (puw_and (put_cmp ou_lt (pu 1) (pe_callB cu_len rfl T.z_len (by decide +kernel) (pa_cons (pu 0) (pa_nil))) (nomark _)) (pw_and1 (put_cmp (ou_eq2 hr.units) (pe_ix iu_ix (pu 0) (pu 1) (fun _ _ => rfl)) (pe_str) (nomark _))))) (pss_one (ps_set (i := 1) sc__law_parts.nd rfl (Or.inl rfl) (pe_op ou_add (pu 1) (pe_int))))) (pss_cons (ps_set (i := 2) sc__law_parts.nd rfl (Or.inl rfl) (pe_m1 F.slot_str_split F.type_str_split mu_split (pe_slice su_sl (pu 0) (pou_some (pu 1)) (po_none)) (pe_str))) (pss_cons (ps_set (i := 3) sc__law_parts.nd rfl (Or.inl rfl) (pue_and (pe_cmpR ou_gt (pe_callB cu_len rfl T.z_len (by decide +kernel) (pa_cons (pu 2) (pa_nil))) (pe_int) (nomark _)) (pe_one (pe_cmpR (ou_eq2 hr.units) (pe_ix iu_ix (pu 2) (pe_un ou_neg (pe_int)) (fun _ _ => rfl)) (pe_str) (nomark _))))) (pss_cons (ps_set (i := 4) sc__law_parts.nd rfl (Or.inl rfl) (pe_slice su_sl (pu 2) (po_none) (pou_some (pe_op ou_sub (pe_callB cu_len rfl T.z_len (by decide +kernel) (pa_cons (pu 2) (pa_nil))) (pe_callTy cu_int rfl T.z_int (by decide +kernel) (pa_cons (pu 3) (pa_nil))))))) (pss_cons (ps_for PassesOwn.never rfl (piu (pu 4)) (pg_name (i := 5) sc__law_parts.nd rfl (Or.inl rfl)) (pss_one (pus_if (PW.pt (puw_or (put_not (put_chain ou_le ou_le (pe_int) (pe_callB cu_len rfl T.z_len (by decide +kernel) (pa_cons (pu 5) (pa_nil))) (pe_int))) (pw_or1 (put_cmp (ou_ne2 hr.units) (pe_lc (own := [("_law_sign", 6)]) (g := gName 6) (tt := uT (tOp (uIn K true) (uVar 6) (tC (.str "abcdefghijklmnopqrstuvwxyz")))) (te := uVar 6) rfl sc__law_parts.nd (piu (pu 5)) (blkOk_by (own := [("_law_sign", 6)]) (N := N__law_parts) (sc := defScope s__law_parts) (by decide +kernel)) (fun _ _ _ _ _ => pg_name (i := 6) sc__law_parts.nd rfl (Or.inl rfl)) (fun _ _ _ _ _ => pts_one (put_cmp ou_notin (pu 6) (pe_str) (by rfl))) (fun _ _ _ _ _ => pu 6)) (pe_lst (pa_nil)) (nomark _))))) (pss_one (ps_ret (pe_non))) (pss_nil)))) (pss_one (ps_ret (pue_if (put_cmp ou_lt (pu 1) (pe_int) (nomark _)) (pe_lst (pa_cons (pu 1) (pa_cons (pu 4) (pa_cons (pu 3) (pa_nil))))) (pe_non)))))))))
theorem v__law_read (T : Tx K mg a d ca) (G__law_parts : FnOk P w K mg base CX0 1 (a 11) (d 11) P__law_parts (sp__law_parts K ca))  {fa : Addr} {cdv : Value} {A : Around} {outer : List Env} {s : Shared} {H : Hp} {E : XK} (hr : Room 1 (A.deeper (envOfC "_law_read" (defScope s__law_read) s.heap.objs.size fa cdv))) :
    PSs ((cxOf CX0 P w K mg base N__law_read "_law_read" (defScope s__law_read) fa cdv A outer s H E).nox) (defBody s__law_read) (t__law_read K ca) :=
  pss_cons (pus_if (put_cmp (ou_eq2 hr.units) (pu 0) (pe_str) (nomark _)) (pss_one (ps_ret (pe_lst (pa_cons (pe_str) (pa_cons (pe_lst (pa_nil)) (pa_nil)))))) (pss_nil)) (pss_cons (ps_set (i := 1) sc__law_read.nd rfl (Or.inl rfl) (pe_m1 F.slot_str_split F.type_str_split mu_split (pu 0) (pe_str))) (pss_cons (ps_set (i := 2) sc__law_read.nd rfl (Or.inl rfl) (pe_lst (pa_nil))) (pss_cons (ps_for PassesOwn.never rfl (pi_enum rfl T.z_enumerate (pa_cons (pu 1) (pa_nil))) (pg_ts rfl (pgs_cons (pg_name (i := 3) sc__law_read.nd rfl (Or.inl rfl)) (pgs_cons (pg_name (i := 4) sc__law_read.nd rfl (Or.inl rfl)) (pgs_nil)))) (pss_cons (ps_set (i := 5) sc__law_read.nd rfl (Or.inl rfl) (pue_if (put_cmp ou_lt (pe_op ou_add (pu 3) (pe_int)) (pe_callB cu_len rfl T.z_len (by decide +kernel) (pa_cons (pu 1) (pa_nil))) (nomark _)) (pe_ix iu_ix (pu 1) (pe_op ou_add (pu 3) (pe_int)) (fun _ _ => rfl)) (pe_str))) (pss_one (pus_if (put_cmp (ou_eq2 hr.units) (pu 4) (pe_str) (nomark _)) (pss_one (pus_if (PW.pt (puw_or (put_cmp (ou_eq2 hr.units) (pu 3) (pe_int) (nomark _)) (puw_or (put_cmp (ou_eq2 hr.units) (pe_ix iu_ix (pu 1) (pe_op ou_sub (pu 3) (pe_int)) (fun _ _ => rfl)) (pe_str) (nomark _)) (pw_or1 (put_cmp (ou_eq2 hr.units) (pu 5) (pe_str) (nomark _)))))) (pss_one (ps_ret (pe_lst (pa_cons (pe_str) (pa_cons (pu 3) (pa_nil)))))) (pss_nil))) (pss_cons (ps_set (i := 6) sc__law_read.nd rfl (Or.inl rfl) (pe_call G__law_parts (hr.mono (by decide)) rfl T.m__law_parts T.f__law_parts.kp T.b__law_parts .nil pass0 (pa_cons (pu 4) (pa_nil)))) (pss_cons (pus_if (PW.pt (puw_or (put_cmp ou_is (pu 6) (pe_non) (nomark _)) (pw_or1 (PW.pt (puw_and (put_val (pe_ix iu_ix (pu 6) (pe_int) (fun _ _ => rfl))) (pw_and1 (put_cmp (ou_eq2 hr.units) (pu 5) (pe_str) (nomark _)))))))) (pss_one (ps_ret (pe_lst (pa_cons (pe_str) (pa_cons (pu 3) (pa_nil)))))) (pss_nil)) (pss_cons (ps_set (i := 7) sc__law_read.nd rfl (Or.inl rfl) (pe_str)) (pss_cons (pus_if (PW.pt (puw_and (put_cmp ou_gt (pu 3) (pe_int) (nomark _)) (pw_and1 (put_cmp (ou_ne2 hr.units) (pe_ix iu_ix (pu 1) (pe_op ou_sub (pu 3) (pe_int)) (fun _ _ => rfl)) (pe_str) (nomark _))))) (pss_one (ps_set (i := 7) sc__law_read.nd rfl (Or.inl rfl) (pe_ix iu_ix (pe_lst (pa_cons (pe_str) (pa_cons (pe_str) (pa_nil)))) (pe_callTy cu_int rfl T.z_int (by decide +kernel) (pa_cons (pe_cmpR (ou_eq2 hr.units) (pe_ix iu_ix (pe_ix iu_ix (pu 1) (pe_op ou_sub (pu 3) (pe_int)) (fun _ _ => rfl)) (pe_un ou_neg (pe_int)) (fun _ _ => rfl)) (pe_str) (nomark _)) (pa_nil))) (fun _ _ => rfl)))) (pss_nil)) (pss_cons (ps_expr (pe_bm PySem.F.plainAttrs_list PySem.F.slot_list_append PySem.F.type_list_append mu_append (pu 2) (pa_cons (pe_tup (pa_cons (pe_op ou_add (pu 7) (pe_ix iu_ix (pe_str) (pe_ix iu_ix (pu 6) (pe_int) (fun _ _ => rfl)) (fun _ _ => rfl))) (pa_cons (pe_ix iu_ix (pe_ix iu_ix (pu 6) (pe_int) (fun _ _ => rfl)) (pe_int) (fun _ _ => rfl)) (pa_nil)))) (pa_nil)))) (pss_one (ps_set (i := 2) sc__law_read.nd rfl (Or.inl rfl) (pe_op ou_add (pu 2) (pe_lc (own := [("_law_word_here", 8)]) (g := gName 8) (tt := tYes) (te := tTup (tCons (tC (.str " ")) (tCons (uVar 8) (tNil)))) rfl sc__law_read.nd (piu (pe_slice su_sl (pe_ix iu_ix (pu 6) (pe_int) (fun _ _ => rfl)) (pou_some (pe_int)) (po_none))) (blkOk_by (own := [("_law_word_here", 8)]) (N := N__law_read) (sc := defScope s__law_read) (by decide +kernel)) (fun _ _ _ _ _ => pg_name (i := 8) sc__law_read.nd rfl (Or.inl rfl)) (fun _ _ _ _ _ => pts_nil) (fun _ _ _ _ _ => pe_tup (pa_cons (pe_str) (pa_cons (pu 8) (pa_nil))))))))))))))))) (pss_one (ps_ret (pe_lst (pa_cons (pe_str) (pa_cons (pu 2) (pa_nil)))))))))
theorem v__law_changed (T : Tx K mg a d ca) (G__law_take : FnOk P w K mg base CX0 1 (a 6) (d 6) P__law_take (sp__law_take K ca))  {fa : Addr} {cdv : Value} {A : Around} {outer : List Env} {s : Shared} {H : Hp} {E : XK} (hr : Room 1 (A.deeper (envOfC "_law_changed" (defScope s__law_changed) s.heap.objs.size fa cdv))) :
    PSs ((cxOf CX0 P w K mg base N__law_changed "_law_changed" (defScope s__law_changed) fa cdv A outer s H E).nox) (defBody s__law_changed) (t__law_changed K ca) :=
  pss_cons (ps_set (i := 2) sc__law_changed.nd rfl (Or.inl rfl) (pe_call G__law_take (hr.mono (by decide)) rfl T.m__law_take T.f__law_take.kp T.b__law_take .nil pass0 (pa_cons (pu 0) (pa_cons (pe_op ou_add (pe_callB cu_len rfl T.z_len (by decide +kernel) (pa_cons (pu 1) (pa_nil))) (pe_int)) (pa_nil))))) (pss_cons (ps_set (i := 3) sc__law_changed.nd rfl (Or.inl rfl) (pe_call G__law_take (hr.mono (by decide)) rfl T.m__law_take T.f__law_take.kp T.b__law_take .nil pass0 (pa_cons (pu 0) (pa_cons (pe_int) (pa_nil))))) (pss_cons (ps_set (i := 4) sc__law_changed.nd rfl (Or.inl rfl) (pe_ix iu_ix (pe_lst (pa_cons (pe_str) (pa_cons (pe_str) (pa_cons (pe_str) (pa_cons (pe_str) (pa_cons (pe_str) (pa_cons (pe_str) (pa_cons (pe_str) (pa_cons (pe_str) (pa_cons (pe_str) (pa_cons (pe_str) (pa_cons (pe_op ou_mul3 (pe_str) (pe_int)) (pa_nil))))))))))))) (pe_call G__law_take (hr.mono (by decide)) rfl T.m__law_take T.f__law_take.kp T.b__law_take .nil pass0 (pa_cons (pu 0) (pa_cons (pe_int) (pa_nil)))) (fun _ _ => rfl))) (pss_cons (pus_if (put_cmp ou_lt (pu 3) (pe_int) (nomark _)) (pss_one (ps_ret (pe_op ou_add (pe_op ou_add (pe_slice su_sl (pu 1) (po_none) (pou_some (pu 2))) (pu 4)) (pe_slice su_sl (pu 1) (pou_some (pu 2)) (po_none))))) (pss_nil)) (pss_cons (pus_if (put_cmp (ou_eq2 hr.units) (pu 3) (pe_int) (nomark _)) (pss_one (ps_ret (pe_op ou_add (pe_slice su_sl (pu 1) (po_none) (pou_some (pu 2))) (pe_slice su_sl (pu 1) (pou_some (pe_op ou_add (pu 2) (pe_int))) (po_none))))) (pss_nil)) (pss_cons (pus_if (put_cmp (ou_eq2 hr.units) (pu 3) (pe_int) (nomark _)) (pss_one (ps_ret (pe_op ou_add (pe_op ou_add (pe_slice su_sl (pu 1) (po_none) (pou_some (pu 2))) (pu 4)) (pe_slice su_sl (pu 1) (pou_some (pe_op ou_add (pu 2) (pe_int))) (po_none))))) (pss_nil)) (pss_cons (ps_set (i := 5) sc__law_changed.nd rfl (Or.inl rfl) (pe_m1 F.slot_str_split F.type_str_split mu_split (pu 1) (pe_str))) (pss_cons (ps_set (i := 6) sc__law_changed.nd rfl (Or.inl rfl) (pe_call G__law_take (hr.mono (by decide)) rfl T.m__law_take T.f__law_take.kp T.b__law_take .nil pass0 (pa_cons (pu 0) (pa_cons (pe_callB cu_len rfl T.z_len (by decide +kernel) (pa_cons (pu 5) (pa_nil))) (pa_nil))))) (pss_cons (pus_if (put_cmp (ou_eq2 hr.units) (pu 3) (pe_int) (nomark _)) (pss_one (ps_ret (pe_m1 F.slot_str_join F.type_str_join mu_join (pe_str) (pe_op ou_add (pe_op ou_add (pe_slice su_sl (pu 5) (po_none) (pou_some (pu 6))) (pe_slice su_sl (pu 5) (pou_some (pu 6)) (pou_some (pe_op ou_add (pu 6) (pe_int))))) (pe_slice su_sl (pu 5) (pou_some (pu 6)) (po_none)))))) (pss_nil)) (pss_cons (pus_if (put_cmp (ou_eq2 hr.units) (pu 3) (pe_int) (nomark _)) (pss_one (ps_ret (pe_m1 F.slot_str_join F.type_str_join mu_join (pe_str) (pe_op ou_add (pe_slice su_sl (pu 5) (po_none) (pou_some (pu 6))) (pe_slice su_sl (pu 5) (pou_some (pe_op ou_add (pu 6) (pe_int))) (po_none)))))) (pss_nil)) (pss_one (ps_ret (pe_m1 F.slot_str_join F.type_str_join mu_join (pe_str) (pe_op ou_add (pe_slice su_sl (pu 5) (pou_some (pu 6)) (po_none)) (pe_slice su_sl (pu 5) (po_none) (pou_some (pu 6))))))))))))))))
theorem v__law_told (T : Tx K mg a d ca) (G_read_page : FnOk P w K mg base (L2.CX P w) 4 (a 3) (d 3) P_read_page (sp_read_page K ca))  {fa : Addr} {cdv : Value} {A : Around} {outer : List Env} {s : Shared} {H : Hp} {E : XK} (hr : Room 4 (A.deeper (envOfC "_law_told" (defScope s__law_told) s.heap.objs.size fa cdv))) :
    PSs ((cxOf CX0 P w K mg base N__law_told "_law_told" (defScope s__law_told) fa cdv A outer s H E).nox) (defBody s__law_told) (t__law_told K ca) :=
  pss_cons (ps_set (i := 1) sc__law_told.nd rfl (Or.inl rfl) (pe_lst (pa_nil))) (pss_cons (pus_try (W0 := (fun _ _ _ _ => False)) (tb := fun W => tAsg (tLst (tCons (tC (.str "text")) (tCons (tCallS (sp_read_page K ca) (WE W) (tCons (uVar 0) (tNil))) (tNil)))) (gName 1)) rfl rfl sc__law_told.nd takes0 (fun W pn xe tk po => pss_one (ps_set (i := 1) sc__law_told.nd rfl (Or.inl rfl) (pe_lst (pa_cons (pe_str) (pa_cons (pe_callS G_read_page (hr.mono (by decide)) rfl T.m_read_page T.f_read_page.kp T.b_read_page (fun σ => passAt tk σ) (pa_cons (pu 0) (pa_nil))) (pa_nil)))))) (.more (k := ⟨.ref (ca 1), 2, fun a cls d => tAsg (tLst (tCons (tC (.str "page")) (tCons (uXf K a cls d 2 "line") (tNil)))) (gName 1)⟩) ⟨rfl, by decide, Or.inl T.m_InvalidPage⟩ rfl rfl (fun a oe cls d pn hz hf => pss_one (ps_set (i := 1) sc__law_told.nd rfl (Or.inl rfl) (pe_lst (pa_cons (pe_str) (pa_cons (pue_xf 2 hz hf) (pa_nil)))))) (.rest))) (pss_one (ps_ret (pu 1))))
theorem v__law_right (T : Tx K mg a d ca) (G__law_take : FnOk P w K mg base CX0 1 (a 6) (d 6) P__law_take (sp__law_take K ca)) (G__law_text : FnOk P w K mg base CX0 3 (a 9) (d 9) P__law_text (sp__law_text K ca)) (G__law_page : FnOk P w K mg base CX0 1 (a 10) (d 10) P__law_page (sp__law_page K ca)) (G__law_read : FnOk P w K mg base CX0 2 (a 12) (d 12) P__law_read (sp__law_read K ca)) (G__law_changed : FnOk P w K mg base CX0 2 (a 13) (d 13) P__law_changed (sp__law_changed K ca)) (G__law_told : FnOk P w K mg base CX0 5 (a 14) (d 14) P__law_told (sp__law_told K ca))  {fa : Addr} {cdv : Value} {A : Around} {outer : List Env} {s : Shared} {H : Hp} {E : XK} (hgd : (A.deeper (envOfC "_law_right" (defScope s__law_right) s.heap.objs.size fa cdv)).guards = some []) (hr : Room 5 (A.deeper (envOfC "_law_right" (defScope s__law_right) s.heap.objs.size fa cdv))) :
    PSs ((cxOf CX0 P w K mg base N__law_right "_law_right" (defScope s__law_right) fa cdv A outer s H E).nox) (defBody s__law_right) (t__law_right K ca) :=
  pss_cons (ps_set (i := 1) sc__law_right.nd rfl (Or.inl rfl) (pe_call G__law_page (hr.mono (by decide)) rfl T.m__law_page T.f__law_page.kp T.b__law_page .nil pass0 (pa_cons (pe_call G__law_text (hr.mono (by decide)) rfl T.m__law_text T.f__law_text.kp T.b__law_text .nil pass0 (pa_cons (pu 0) (pa_cons (pe_call G__law_take (hr.mono (by decide)) rfl T.m__law_take T.f__law_take.kp T.b__law_take .nil pass0 (pa_cons (pu 0) (pa_cons (pe_int) (pa_nil)))) (pa_cons (pe_ix iu_ix (pe_lst (pa_cons (pe_int) (pa_cons (pe_int) (pa_cons (pe_int) (pa_nil))))) (pe_call G__law_take (hr.mono (by decide)) rfl T.m__law_take T.f__law_take.kp T.b__law_take .nil pass0 (pa_cons (pu 0) (pa_cons (pe_int) (pa_nil)))) (fun _ _ => rfl)) (pa_nil))))) (pa_nil)))) (pss_cons (ps_for PassesOwn.never rfl (pi_range1 rfl T.z_range (pa_cons (pe_op ou_add (pe_int) (pe_call G__law_take (hr.mono (by decide)) rfl T.m__law_take T.f__law_take.kp T.b__law_take .nil pass0 (pa_cons (pu 0) (pa_cons (pe_int) (pa_nil))))) (pa_nil))) (pg_name (i := 2) sc__law_right.nd rfl (Or.inl rfl)) (pss_one (ps_set (i := 1) sc__law_right.nd rfl (Or.inl rfl) (pe_call G__law_changed (hr.mono (by decide)) rfl T.m__law_changed T.f__law_changed.kp T.b__law_changed .nil pass0 (pa_cons (pu 0) (pa_cons (pu 1) (pa_nil))))))) (pss_cons (pus_if (put_cmp (ou_ne2 hr.units) (pe_callB (cu_repr2 hgd hr.units) rfl T.z_repr (by decide +kernel) (pa_cons (pe_call G__law_told (hr.mono (by decide)) rfl T.m__law_told T.f__law_told.kp T.b__law_told .nil pass0 (pa_cons (pu 1) (pa_nil))) (pa_nil))) (pe_callB (cu_repr2 hgd hr.units) rfl T.z_repr (by decide +kernel) (pa_cons (pe_call G__law_read (hr.mono (by decide)) rfl T.m__law_read T.f__law_read.kp T.b__law_read .nil pass0 (pa_cons (pu 1) (pa_nil))) (pa_nil))) (nomark _)) (pss_one (ps_ret (pe_bl))) (pss_nil)) (pss_cons (ps_set (i := 3) sc__law_right.nd rfl (Or.inl rfl) (pe_ix iu_ix (pe_lst (pa_cons (pe_non) (pa_cons (pe_bl) (pa_cons (pe_int) (pa_cons (pe_lst (pa_cons (pu 1) (pa_nil))) (pa_cons (pe_tup (pa_cons (pe_str) (pa_nil))) (pa_cons (pe_dnewK) (pa_cons (pe_lst (pa_nil)) (pa_nil))))))))) (pe_call G__law_take (hr.mono (by decide)) rfl T.m__law_take T.f__law_take.kp T.b__law_take .nil pass0 (pa_cons (pu 0) (pa_cons (pe_int) (pa_nil)))) (fun _ _ => rfl))) (pss_one (ps_ret (pe_cmpR (ou_eq2 hr.units) (pe_callB (cu_repr2 hgd hr.units) rfl T.z_repr (by decide +kernel) (pa_cons (pe_call G__law_told (hr.mono (by decide)) rfl T.m__law_told T.f__law_told.kp T.b__law_told .nil pass0 (pa_cons (pu 3) (pa_nil))) (pa_nil))) (pe_callB (cu_repr2 hgd hr.units) rfl T.z_repr (by decide +kernel) (pa_cons (pe_lst (pa_cons (pe_str) (pa_cons (pe_int) (pa_nil)))) (pa_nil))) (nomark _)))))))
theorem v_law (T : Tx K mg a d ca) (G__law_cell : FnOk P w K mg base CX0 1 (a 4) (d 4) P__law_cell (sp__law_cell K ca)) (G__law_purse : FnOk P w K mg base CX0 1 (a 5) (d 5) P__law_purse (sp__law_purse K ca)) (G__law_right : U.FnG P w K mg base CX0 6 (a 15) (d 15) P__law_right (sp__law_right K ca))  {fa : Addr} {cdv : Value} {A : Around} {outer : List Env} {s : Shared} {H : Hp} {E : XK} (hgd : (A.deeper (envOfC "law" (defScope s_law) s.heap.objs.size fa cdv)).guards = some []) (hr : Room 6 (A.deeper (envOfC "law" (defScope s_law) s.heap.objs.size fa cdv))) :
    PSs ((cxOf CX0 P w K mg base N_law "law" (defScope s_law) fa cdv A outer s H E).nox) (defBody s_law) (t_law K ca) :=
  pss_cons (ps_for PassesOwn.never rfl (pi_range1 rfl T.z_range (pa_cons (pe_callB (cu_max rfl) rfl T.z_max (by decide +kernel) (pa_cons (pe_int) (pa_cons (pe_callB (cu_min rfl) rfl T.z_min (by decide +kernel) (pa_cons (pe_int) (pa_cons (pe_callB cu_len rfl T.z_len (by decide +kernel) (pa_cons (pu 0) (pa_nil))) (pa_nil)))) (pa_nil)))) (pa_nil))) (pg_name (i := 1) sc_law.nd rfl (Or.inl rfl)) (pss_one (pus_if (put_not (put_val (pe_callG G__law_right hgd (hr.mono (by decide)) rfl T.m__law_right T.f__law_right.kp T.b__law_right pass0 (pa_cons (pe_call G__law_purse (hr.mono (by decide)) rfl T.m__law_purse T.f__law_purse.kp T.b__law_purse .nil pass0 (pa_cons (pe_call G__law_cell (hr.mono (by decide)) rfl T.m__law_cell T.f__law_cell.kp T.b__law_cell .nil pass0 (pa_cons (pu 0) (pa_cons (pu 1) (pa_nil)))) (pa_nil))) (pa_nil))))) (pss_one (ps_ret (pe_bl))) (pss_nil)))) (pss_one (ps_ret (pe_bl)))
end
section
variable {P : Program} {w : World} {K : PySem.W.Frag} {mg : Str → Option Value} {base : Heap} {a : Nat → Addr} {d : Nat → FuncData} {ca : Nat → Addr}
theorem ok_is_word (T : Tx K mg a d ca) : FnOk P w K mg base CX0 1 (a 0) (d 0) P_is_word (sp_is_word K ca) :=
  T.f_is_word.ok sc_is_word (fun vs H Q E h => len_is_word h) (fun cdv A outer s H vs Q E hr h => ⟨t_is_word K ca, v_is_word T  hr, p_is_word T.ct h⟩)
theorem ok__law_cell (T : Tx K mg a d ca) : FnOk P w K mg base CX0 1 (a 4) (d 4) P__law_cell (sp__law_cell K ca) :=
  T.f__law_cell.ok sc__law_cell (fun vs H Q E h => len__law_cell h) (fun cdv A outer s H vs Q E hr h => ⟨t__law_cell K ca, v__law_cell T  hr, p__law_cell T.ct h⟩)
theorem ok__law_purse (T : Tx K mg a d ca) : FnOk P w K mg base CX0 1 (a 5) (d 5) P__law_purse (sp__law_purse K ca) :=
  T.f__law_purse.ok sc__law_purse (fun vs H Q E h => len__law_purse h) (fun cdv A outer s H vs Q E hr h => ⟨t__law_purse K ca, v__law_purse T  hr, p__law_purse T.ct h⟩)
theorem ok__law_take (T : Tx K mg a d ca) : FnOk P w K mg base CX0 1 (a 6) (d 6) P__law_take (sp__law_take K ca) :=
  T.f__law_take.ok sc__law_take (fun vs H Q E h => len__law_take h) (fun cdv A outer s H vs Q E hr h => ⟨t__law_take K ca, v__law_take T  hr, p__law_take T.ct h⟩)
theorem ok__law_page (T : Tx K mg a d ca) : FnOk P w K mg base CX0 1 (a 10) (d 10) P__law_page (sp__law_page K ca) :=
  T.f__law_page.ok sc__law_page (fun vs H Q E h => len__law_page h) (fun cdv A outer s H vs Q E hr h => ⟨t__law_page K ca, v__law_page T  hr, p__law_page T.ct h⟩)
theorem ok__law_parts (T : Tx K mg a d ca) : FnOk P w K mg base CX0 1 (a 11) (d 11) P__law_parts (sp__law_parts K ca) :=
  T.f__law_parts.ok sc__law_parts (fun vs H Q E h => len__law_parts h) (fun cdv A outer s H vs Q E hr h => ⟨t__law_parts K ca, v__law_parts T  hr, p__law_parts T.ct h⟩)
theorem ok_split_line (T : Tx K mg a d ca) : FnOk P w K mg base CX0 2 (a 1) (d 1) P_split_line (sp_split_line K ca) :=
  T.f_split_line.ok sc_split_line (fun vs H Q E h => len_split_line h) (fun cdv A outer s H vs Q E hr h => ⟨t_split_line K ca, v_split_line T (ok_is_word T) hr, p_split_line T.ct h⟩)
theorem ok__law_mark (T : Tx K mg a d ca) : FnOk P w K mg base CX0 2 (a 7) (d 7) P__law_mark (sp__law_mark K ca) :=
  T.f__law_mark.ok sc__law_mark (fun vs H Q E h => len__law_mark h) (fun cdv A outer s H vs Q E hr h => ⟨t__law_mark K ca, v__law_mark T (ok__law_take T) hr, p__law_mark T.ct h⟩)
theorem ok__law_word (T : Tx K mg a d ca) : FnOk P w K mg base CX0 2 (a 8) (d 8) P__law_word (sp__law_word K ca) :=
  T.f__law_word.ok sc__law_word (fun vs H Q E h => len__law_word h) (fun cdv A outer s H vs Q E hr h => ⟨t__law_word K ca, v__law_word T (ok__law_take T) hr, p__law_word T.ct h⟩)
theorem ok__law_read (T : Tx K mg a d ca) : FnOk P w K mg base CX0 2 (a 12) (d 12) P__law_read (sp__law_read K ca) :=
  T.f__law_read.ok sc__law_read (fun vs H Q E h => len__law_read h) (fun cdv A outer s H vs Q E hr h => ⟨t__law_read K ca, v__law_read T (ok__law_parts T) hr, p__law_read T.ct h⟩)
theorem ok__law_changed (T : Tx K mg a d ca) : FnOk P w K mg base CX0 2 (a 13) (d 13) P__law_changed (sp__law_changed K ca) :=
  T.f__law_changed.ok sc__law_changed (fun vs H Q E h => len__law_changed h) (fun cdv A outer s H vs Q E hr h => ⟨t__law_changed K ca, v__law_changed T (ok__law_take T) hr, p__law_changed T.ct h⟩)
theorem ok_is_right (T : Tx K mg a d ca) : FnOk P w K mg base CX0 3 (a 2) (d 2) P_is_right (sp_is_right K ca) :=
  T.f_is_right.ok sc_is_right (fun vs H Q E h => len_is_right h) (fun cdv A outer s H vs Q E hr h => ⟨t_is_right K ca, v_is_right T (ok_split_line T) hr, p_is_right T.ct h⟩)
theorem ok__law_text (T : Tx K mg a d ca) : FnOk P w K mg base CX0 3 (a 9) (d 9) P__law_text (sp__law_text K ca) :=
  T.f__law_text.ok sc__law_text (fun vs H Q E h => len__law_text h) (fun cdv A outer s H vs Q E hr h => ⟨t__law_text K ca, v__law_text T (ok__law_take T) (ok__law_mark T) (ok__law_word T) hr, p__law_text T.ct h⟩)
theorem ok_read_page (T : Tx K mg a d ca) : FnOk P w K mg base (L2.CX P w) 4 (a 3) (d 3) P_read_page (sp_read_page K ca) :=
  T.f_read_page.okX sc_read_page (fun vs H Q E h => len_read_page h) (fun cdv A outer s H vs Q E hr h => ⟨t_read_page K ca E, v_read_page T (ok_split_line T) (ok_is_right T) (okI_InvalidPage T) hr, p_read_page T.ct h⟩)
theorem ok__law_told (T : Tx K mg a d ca) : FnOk P w K mg base CX0 5 (a 14) (d 14) P__law_told (sp__law_told K ca) :=
  T.f__law_told.ok sc__law_told (fun vs H Q E h => len__law_told h) (fun cdv A outer s H vs Q E hr h => ⟨t__law_told K ca, v__law_told T (ok_read_page T) hr, p__law_told T.ct h⟩)
theorem ok__law_right (T : Tx K mg a d ca) : U.FnG P w K mg base CX0 6 (a 15) (d 15) P__law_right (sp__law_right K ca) :=
  U.okG T.f__law_right sc__law_right (fun vs H Q E h => len__law_right h) (fun cdv A outer s H vs Q E hg hr h => ⟨t__law_right K ca, v__law_right T (ok__law_take T) (ok__law_text T) (ok__law_page T) (ok__law_read T) (ok__law_changed T) (ok__law_told T) hg hr, p__law_right T.ct h⟩)
theorem ok_law (T : Tx K mg a d ca) : U.FnG P w K mg base CX0 7 (a 16) (d 16) P_law (sp_law K ca) :=
  U.okG T.f_law sc_law (fun vs H Q E h => len_law h) (fun cdv A outer s H vs Q E hg hr h => ⟨t_law K ca, v_law T (ok__law_cell T) (ok__law_purse T) (ok__law_right T) hg hr, p_law T.ct h⟩)
end
theorem all_mk {l : PySem.W.OpenLaw} {w : World} {K : PySem.W.Frag} {h : Heap} {mg : Str → Option Value} {fa : Addr} (X : K.In h) (G : h.Ns mainGlobals mg) (hfa : mg "law" = some (.ref fa))
    {f0 : Addr} {od0 an0 : Option Addr} {sl0 : Array (Option Value)} {oc0 dc0 pm0 cd0 ct0 : Value} {kV0 : Value}
    {f1 : Addr} {od1 an1 : Option Addr} {sl1 : Array (Option Value)} {oc1 dc1 pm1 cd1 ct1 : Value} {kV1 : Value}
    {f2 : Addr} {od2 an2 : Option Addr} {sl2 : Array (Option Value)} {oc2 dc2 pm2 cd2 ct2 : Value} {kV2 : Value}
    {f3 : Addr} {od3 an3 : Option Addr} {sl3 : Array (Option Value)} {oc3 dc3 pm3 cd3 ct3 : Value} {kV3 : Value}
    {f4 : Addr} {od4 an4 : Option Addr} {sl4 : Array (Option Value)} {oc4 dc4 pm4 cd4 ct4 : Value} {kV4 : Value}
    {f5 : Addr} {od5 an5 : Option Addr} {sl5 : Array (Option Value)} {oc5 dc5 pm5 cd5 ct5 : Value} {kV5 : Value}
    {f6 : Addr} {od6 an6 : Option Addr} {sl6 : Array (Option Value)} {oc6 dc6 pm6 cd6 ct6 : Value} {kV6 : Value}
    {f7 : Addr} {od7 an7 : Option Addr} {sl7 : Array (Option Value)} {oc7 dc7 pm7 cd7 ct7 : Value} {kV7 : Value}
    {f8 : Addr} {od8 an8 : Option Addr} {sl8 : Array (Option Value)} {oc8 dc8 pm8 cd8 ct8 : Value} {kV8 : Value}
    {f9 : Addr} {od9 an9 : Option Addr} {sl9 : Array (Option Value)} {oc9 dc9 pm9 cd9 ct9 : Value} {kV9 : Value}
    {f10 : Addr} {od10 an10 : Option Addr} {sl10 : Array (Option Value)} {oc10 dc10 pm10 cd10 ct10 : Value} {kV10 : Value}
    {f11 : Addr} {od11 an11 : Option Addr} {sl11 : Array (Option Value)} {oc11 dc11 pm11 cd11 ct11 : Value} {kV11 : Value}
    {f12 : Addr} {od12 an12 : Option Addr} {sl12 : Array (Option Value)} {oc12 dc12 pm12 cd12 ct12 : Value} {kV12 : Value}
    {f13 : Addr} {od13 an13 : Option Addr} {sl13 : Array (Option Value)} {oc13 dc13 pm13 cd13 ct13 : Value} {kV13 : Value}
    {f14 : Addr} {od14 an14 : Option Addr} {sl14 : Array (Option Value)} {oc14 dc14 pm14 cd14 ct14 : Value} {kV14 : Value}
    {f15 : Addr} {od15 an15 : Option Addr} {sl15 : Array (Option Value)} {oc15 dc15 pm15 cd15 ct15 : Value} {kV15 : Value}
    {f16 : Addr} {od16 an16 : Option Addr} {sl16 : Array (Option Value)} {oc16 dc16 pm16 cd16 ct16 : Value} {kV16 : Value}
    {C0 : Addr}
    {C1 : Addr}
    {nm1 q1 : Str} {NN1 : Addr} {bs1 : List Value} {sn1 : List Str} {sub1 : List Value} {ab1 : Bool} {col1 : Option Bool} {dd1 : Option Addr} {m01 m11 m21 m31 m51 : Option Value}
    {f17 : Addr} {od17 an17 : Option Addr} {sl17 : Array (Option Value)} {oc17 kV17 dc17 pm17 cd17 ct17 : Value}
    {tk0 : Tok}
    {tk1 : Tok}
    {tk2 : Tok}
    (a0 : PySem.W.nsIn K mainGlobals "is_word" = some (some (.ref f0)))
    (l0 : K.lookup f0 = some ⟨oc0, od0, .func (PySem.W.fnOf "is_word" "is_word" (defArgs s_is_word) (defBody s_is_word) (defScope s_is_word) .none kV0 dc0 pm0 an0 cd0 ct0), sl0⟩)
    (c0 : PySem.W.codeIn K cd0 "is_word" = true)
    (k0 : PySem.W.keepIn K (.ref f0) = true)
    (a1 : PySem.W.nsIn K mainGlobals "split_line" = some (some (.ref f1)))
    (l1 : K.lookup f1 = some ⟨oc1, od1, .func (PySem.W.fnOf "split_line" "split_line" (defArgs s_split_line) (defBody s_split_line) (defScope s_split_line) .none kV1 dc1 pm1 an1 cd1 ct1), sl1⟩)
    (c1 : PySem.W.codeIn K cd1 "split_line" = true)
    (k1 : PySem.W.keepIn K (.ref f1) = true)
    (a2 : PySem.W.nsIn K mainGlobals "is_right" = some (some (.ref f2)))
    (l2 : K.lookup f2 = some ⟨oc2, od2, .func (PySem.W.fnOf "is_right" "is_right" (defArgs s_is_right) (defBody s_is_right) (defScope s_is_right) .none kV2 dc2 pm2 an2 cd2 ct2), sl2⟩)
    (c2 : PySem.W.codeIn K cd2 "is_right" = true)
    (k2 : PySem.W.keepIn K (.ref f2) = true)
    (a3 : PySem.W.nsIn K mainGlobals "read_page" = some (some (.ref f3)))
    (l3 : K.lookup f3 = some ⟨oc3, od3, .func (PySem.W.fnOf "read_page" "read_page" (defArgs s_read_page) (defBody s_read_page) (defScope s_read_page) .none kV3 dc3 pm3 an3 cd3 ct3), sl3⟩)
    (c3 : PySem.W.codeIn K cd3 "read_page" = true)
    (k3 : PySem.W.keepIn K (.ref f3) = true)
    (a4 : PySem.W.nsIn K mainGlobals "_law_cell" = some (some (.ref f4)))
    (l4 : K.lookup f4 = some ⟨oc4, od4, .func (PySem.W.fnOf "_law_cell" "_law_cell" (defArgs s__law_cell) (defBody s__law_cell) (defScope s__law_cell) .none kV4 dc4 pm4 an4 cd4 ct4), sl4⟩)
    (c4 : PySem.W.codeIn K cd4 "_law_cell" = true)
    (k4 : PySem.W.keepIn K (.ref f4) = true)
    (a5 : PySem.W.nsIn K mainGlobals "_law_purse" = some (some (.ref f5)))
    (l5 : K.lookup f5 = some ⟨oc5, od5, .func (PySem.W.fnOf "_law_purse" "_law_purse" (defArgs s__law_purse) (defBody s__law_purse) (defScope s__law_purse) .none kV5 dc5 pm5 an5 cd5 ct5), sl5⟩)
    (c5 : PySem.W.codeIn K cd5 "_law_purse" = true)
    (k5 : PySem.W.keepIn K (.ref f5) = true)
    (a6 : PySem.W.nsIn K mainGlobals "_law_take" = some (some (.ref f6)))
    (l6 : K.lookup f6 = some ⟨oc6, od6, .func (PySem.W.fnOf "_law_take" "_law_take" (defArgs s__law_take) (defBody s__law_take) (defScope s__law_take) .none kV6 dc6 pm6 an6 cd6 ct6), sl6⟩)
    (c6 : PySem.W.codeIn K cd6 "_law_take" = true)
    (k6 : PySem.W.keepIn K (.ref f6) = true)
    (a7 : PySem.W.nsIn K mainGlobals "_law_mark" = some (some (.ref f7)))
    (l7 : K.lookup f7 = some ⟨oc7, od7, .func (PySem.W.fnOf "_law_mark" "_law_mark" (defArgs s__law_mark) (defBody s__law_mark) (defScope s__law_mark) .none kV7 dc7 pm7 an7 cd7 ct7), sl7⟩)
    (c7 : PySem.W.codeIn K cd7 "_law_mark" = true)
    (k7 : PySem.W.keepIn K (.ref f7) = true)
    (a8 : PySem.W.nsIn K mainGlobals "_law_word" = some (some (.ref f8)))
    (l8 : K.lookup f8 = some ⟨oc8, od8, .func (PySem.W.fnOf "_law_word" "_law_word" (defArgs s__law_word) (defBody s__law_word) (defScope s__law_word) .none kV8 dc8 pm8 an8 cd8 ct8), sl8⟩)
    (c8 : PySem.W.codeIn K cd8 "_law_word" = true)
    (k8 : PySem.W.keepIn K (.ref f8) = true)
    (a9 : PySem.W.nsIn K mainGlobals "_law_text" = some (some (.ref f9)))
    (l9 : K.lookup f9 = some ⟨oc9, od9, .func (PySem.W.fnOf "_law_text" "_law_text" (defArgs s__law_text) (defBody s__law_text) (defScope s__law_text) .none kV9 dc9 pm9 an9 cd9 ct9), sl9⟩)
    (c9 : PySem.W.codeIn K cd9 "_law_text" = true)
    (k9 : PySem.W.keepIn K (.ref f9) = true)
    (a10 : PySem.W.nsIn K mainGlobals "_law_page" = some (some (.ref f10)))
    (l10 : K.lookup f10 = some ⟨oc10, od10, .func (PySem.W.fnOf "_law_page" "_law_page" (defArgs s__law_page) (defBody s__law_page) (defScope s__law_page) .none kV10 dc10 pm10 an10 cd10 ct10), sl10⟩)
    (c10 : PySem.W.codeIn K cd10 "_law_page" = true)
    (k10 : PySem.W.keepIn K (.ref f10) = true)
    (a11 : PySem.W.nsIn K mainGlobals "_law_parts" = some (some (.ref f11)))
    (l11 : K.lookup f11 = some ⟨oc11, od11, .func (PySem.W.fnOf "_law_parts" "_law_parts" (defArgs s__law_parts) (defBody s__law_parts) (defScope s__law_parts) .none kV11 dc11 pm11 an11 cd11 ct11), sl11⟩)
    (c11 : PySem.W.codeIn K cd11 "_law_parts" = true)
    (k11 : PySem.W.keepIn K (.ref f11) = true)
    (a12 : PySem.W.nsIn K mainGlobals "_law_read" = some (some (.ref f12)))
    (l12 : K.lookup f12 = some ⟨oc12, od12, .func (PySem.W.fnOf "_law_read" "_law_read" (defArgs s__law_read) (defBody s__law_read) (defScope s__law_read) .none kV12 dc12 pm12 an12 cd12 ct12), sl12⟩)
    (c12 : PySem.W.codeIn K cd12 "_law_read" = true)
    (k12 : PySem.W.keepIn K (.ref f12) = true)
    (a13 : PySem.W.nsIn K mainGlobals "_law_changed" = some (some (.ref f13)))
    (l13 : K.lookup f13 = some ⟨oc13, od13, .func (PySem.W.fnOf "_law_changed" "_law_changed" (defArgs s__law_changed) (defBody s__law_changed) (defScope s__law_changed) .none kV13 dc13 pm13 an13 cd13 ct13), sl13⟩)
    (c13 : PySem.W.codeIn K cd13 "_law_changed" = true)
    (k13 : PySem.W.keepIn K (.ref f13) = true)
    (a14 : PySem.W.nsIn K mainGlobals "_law_told" = some (some (.ref f14)))
    (l14 : K.lookup f14 = some ⟨oc14, od14, .func (PySem.W.fnOf "_law_told" "_law_told" (defArgs s__law_told) (defBody s__law_told) (defScope s__law_told) .none kV14 dc14 pm14 an14 cd14 ct14), sl14⟩)
    (c14 : PySem.W.codeIn K cd14 "_law_told" = true)
    (k14 : PySem.W.keepIn K (.ref f14) = true)
    (a15 : PySem.W.nsIn K mainGlobals "_law_right" = some (some (.ref f15)))
    (l15 : K.lookup f15 = some ⟨oc15, od15, .func (PySem.W.fnOf "_law_right" "_law_right" (defArgs s__law_right) (defBody s__law_right) (defScope s__law_right) .none kV15 dc15 pm15 an15 cd15 ct15), sl15⟩)
    (c15 : PySem.W.codeIn K cd15 "_law_right" = true)
    (k15 : PySem.W.keepIn K (.ref f15) = true)
    (a16 : PySem.W.nsIn K mainGlobals "law" = some (some (.ref f16)))
    (l16 : K.lookup f16 = some ⟨oc16, od16, .func (PySem.W.fnOf "law" "law" (defArgs s_law) (defBody s_law) (defScope s_law) .none kV16 dc16 pm16 an16 cd16 ct16), sl16⟩)
    (c16 : PySem.W.codeIn K cd16 "law" = true)
    (k16 : PySem.W.keepIn K (.ref f16) = true)
    (gC0 : PySem.W.nsIn K mainGlobals "ReflowError" = some (some (.ref C0)))
    (gC1 : PySem.W.nsIn K mainGlobals "InvalidPage" = some (some (.ref C1)))
    (bg0 : PySem.W.specialIn K (.ref C0) "__getattribute__" = some (some (.builtin "type.__getattribute__")))
    (br0 : PySem.W.readsIn K C0 (.type "type") = true)
    (bf0 : PySem.W.findCls K (.ref C0) (.type "type") "__init__" = some (.val (.builtin "ValueError.__init__")))
    (xL1 : K.lookup C1 = some (excClassObj nm1 q1 C1 NN1 bs1 [.ref C0, .type "ValueError", .type "Exception", .type "BaseException", .type "object"] true sn1 sub1 ab1 col1 dd1 m01 m11 m21 m31 m51 "ValueError.__new__"))
    (sa1 : PySem.W.findIn K (.ref C1) "__setattr__" = some (some (.builtin "object.__setattr__")))
    (ga1 : PySem.W.findIn K (.ref C1) "__getattribute__" = some (some (.builtin "BaseException.__getattribute__")))
    (gg1 : PySem.W.findIn K (.ref C1) "__getattr__" = some none)
    (nb1 : PySem.W.findIn K (.ref C1) "line" = some none)
    (ai1 : PySem.W.findIn K (.ref C1) "__init__" = some (some (.ref f17)))
    (ti1 : PySem.W.typeIn K (.ref f17) = some (.type "function"))
    (l17 : K.lookup f17 = some ⟨oc17, od17, .func (PySem.W.fnOf "__init__" "InvalidPage.__init__" (defArgs sI_InvalidPage) (defBody sI_InvalidPage) (defScope sI_InvalidPage) .none kV17 dc17 pm17 an17 cd17 ct17), sl17⟩)
    (c17 : PySem.W.codeIn K cd17 "InvalidPage.__init__" = true)
    (k17 : PySem.W.keepIn K (.ref f17) = true)
    (kC1 : PySem.W.keepIn K (.ref C1) = true)
    (eC1 : PySem.W.subIn K (.ref C1) (.type "BaseException") = some true)
    (tC1 : PySem.W.typeIn K (.ref C1) = some (.type "type"))
    (hC1 : PySem.W.hasDictIn K C1 = true)
    (iC1 : PySem.W.isClsIn K C1 = true)
    (s1_1 : PySem.W.subIn K (.ref C1) (.ref C1) = some true)
    (z0 : PySem.W.nsIn K mainGlobals "all" = some none)
    (z1 : PySem.W.nsIn K mainGlobals "enumerate" = some none)
    (z2 : PySem.W.nsIn K mainGlobals "int" = some none)
    (z3 : PySem.W.nsIn K mainGlobals "isinstance" = some none)
    (z4 : PySem.W.nsIn K mainGlobals "len" = some none)
    (z5 : PySem.W.nsIn K mainGlobals "max" = some none)
    (z6 : PySem.W.nsIn K mainGlobals "min" = some none)
    (z7 : PySem.W.nsIn K mainGlobals "range" = some none)
    (z8 : PySem.W.nsIn K mainGlobals "repr" = some none)
    (z9 : PySem.W.nsIn K mainGlobals "str" = some none)
    (q_0 : PySem.W.nsIn K mainGlobals "LETTERS" = some (some (.str "abcdefghijklmnopqrstuvwxyz" tk0)))
    (q_1 : PySem.W.nsIn K mainGlobals "MOST_INDENT" = some (some (.int (3) tk1)))
    (q_2 : PySem.W.nsIn K mainGlobals "MOST_LETTERS" = some (some (.int (30) tk2)))
    : ∃ (ca : Nat → Addr) (fd : FuncData), (∀ (s : Shared) (v : Value), BindsTo s fd ⟨[v], []⟩ [("_law_script", v)]) ∧ ∀ base : Heap, K.In base → base.Ns mainGlobals mg → U.FnG l.prog w K mg base CX0 7 fa fd ["_law_script"] (sp_law K ca) := by
  have e := hfa.symm.trans (PySem.W.mg_of X G a16)
  cases e
  have F0 := fun_mk (st := s_is_word) l0 c0 k0
  have b0 := F0.binds (ps := P_is_word) fun _ _ _ _ _ _ us hl => match us, hl with | [_], _ => rfl
  have F1 := fun_mk (st := s_split_line) l1 c1 k1
  have b1 := F1.binds (ps := P_split_line) fun _ _ _ _ _ _ us hl => match us, hl with | [_], _ => rfl
  have F2 := fun_mk (st := s_is_right) l2 c2 k2
  have b2 := F2.binds (ps := P_is_right) fun _ _ _ _ _ _ us hl => match us, hl with | [_, _], _ => rfl
  have F3 := fun_mk (st := s_read_page) l3 c3 k3
  have b3 := F3.binds (ps := P_read_page) fun _ _ _ _ _ _ us hl => match us, hl with | [_], _ => rfl
  have F4 := fun_mk (st := s__law_cell) l4 c4 k4
  have b4 := F4.binds (ps := P__law_cell) fun _ _ _ _ _ _ us hl => match us, hl with | [_, _], _ => rfl
  have F5 := fun_mk (st := s__law_purse) l5 c5 k5
  have b5 := F5.binds (ps := P__law_purse) fun _ _ _ _ _ _ us hl => match us, hl with | [_], _ => rfl
  have F6 := fun_mk (st := s__law_take) l6 c6 k6
  have b6 := F6.binds (ps := P__law_take) fun _ _ _ _ _ _ us hl => match us, hl with | [_, _], _ => rfl
  have F7 := fun_mk (st := s__law_mark) l7 c7 k7
  have b7 := F7.binds (ps := P__law_mark) fun _ _ _ _ _ _ us hl => match us, hl with | [_], _ => rfl
  have F8 := fun_mk (st := s__law_word) l8 c8 k8
  have b8 := F8.binds (ps := P__law_word) fun _ _ _ _ _ _ us hl => match us, hl with | [_, _], _ => rfl
  have F9 := fun_mk (st := s__law_text) l9 c9 k9
  have b9 := F9.binds (ps := P__law_text) fun _ _ _ _ _ _ us hl => match us, hl with | [_, _, _], _ => rfl
  have F10 := fun_mk (st := s__law_page) l10 c10 k10
  have b10 := F10.binds (ps := P__law_page) fun _ _ _ _ _ _ us hl => match us, hl with | [_], _ => rfl
  have F11 := fun_mk (st := s__law_parts) l11 c11 k11
  have b11 := F11.binds (ps := P__law_parts) fun _ _ _ _ _ _ us hl => match us, hl with | [_], _ => rfl
  have F12 := fun_mk (st := s__law_read) l12 c12 k12
  have b12 := F12.binds (ps := P__law_read) fun _ _ _ _ _ _ us hl => match us, hl with | [_], _ => rfl
  have F13 := fun_mk (st := s__law_changed) l13 c13 k13
  have b13 := F13.binds (ps := P__law_changed) fun _ _ _ _ _ _ us hl => match us, hl with | [_, _], _ => rfl
  have F14 := fun_mk (st := s__law_told) l14 c14 k14
  have b14 := F14.binds (ps := P__law_told) fun _ _ _ _ _ _ us hl => match us, hl with | [_], _ => rfl
  have F15 := fun_mk (st := s__law_right) l15 c15 k15
  have b15 := F15.binds (ps := P__law_right) fun _ _ _ _ _ _ us hl => match us, hl with | [_], _ => rfl
  have F16 := fun_mk (st := s_law) l16 c16 k16
  have b16 := F16.binds (ps := P_law) fun _ _ _ _ _ _ us hl => match us, hl with | [_], _ => rfl
  have F17 := fun_mk (st := sI_InvalidPage) l17 c17 k17
  have b17 := F17.binds (ps := ["self", "line"]) fun _ _ _ _ _ _ us hl => match us, hl with | [_, _], _ => rfl
  have T : Tx K mg (fun i => ([f0, f1, f2, f3, f4, f5, f6, f7, f8, f9, f10, f11, f12, f13, f14, f15, fa, f17] : List Addr).getD i 0) (fun i => ([PySem.W.fnOf "is_word" "is_word" (defArgs s_is_word) (defBody s_is_word) (defScope s_is_word) .none kV0 dc0 pm0 an0 cd0 ct0, PySem.W.fnOf "split_line" "split_line" (defArgs s_split_line) (defBody s_split_line) (defScope s_split_line) .none kV1 dc1 pm1 an1 cd1 ct1, PySem.W.fnOf "is_right" "is_right" (defArgs s_is_right) (defBody s_is_right) (defScope s_is_right) .none kV2 dc2 pm2 an2 cd2 ct2, PySem.W.fnOf "read_page" "read_page" (defArgs s_read_page) (defBody s_read_page) (defScope s_read_page) .none kV3 dc3 pm3 an3 cd3 ct3, PySem.W.fnOf "_law_cell" "_law_cell" (defArgs s__law_cell) (defBody s__law_cell) (defScope s__law_cell) .none kV4 dc4 pm4 an4 cd4 ct4, PySem.W.fnOf "_law_purse" "_law_purse" (defArgs s__law_purse) (defBody s__law_purse) (defScope s__law_purse) .none kV5 dc5 pm5 an5 cd5 ct5, PySem.W.fnOf "_law_take" "_law_take" (defArgs s__law_take) (defBody s__law_take) (defScope s__law_take) .none kV6 dc6 pm6 an6 cd6 ct6, PySem.W.fnOf "_law_mark" "_law_mark" (defArgs s__law_mark) (defBody s__law_mark) (defScope s__law_mark) .none kV7 dc7 pm7 an7 cd7 ct7, PySem.W.fnOf "_law_word" "_law_word" (defArgs s__law_word) (defBody s__law_word) (defScope s__law_word) .none kV8 dc8 pm8 an8 cd8 ct8, PySem.W.fnOf "_law_text" "_law_text" (defArgs s__law_text) (defBody s__law_text) (defScope s__law_text) .none kV9 dc9 pm9 an9 cd9 ct9, PySem.W.fnOf "_law_page" "_law_page" (defArgs s__law_page) (defBody s__law_page) (defScope s__law_page) .none kV10 dc10 pm10 an10 cd10 ct10, PySem.W.fnOf "_law_parts" "_law_parts" (defArgs s__law_parts) (defBody s__law_parts) (defScope s__law_parts) .none kV11 dc11 pm11 an11 cd11 ct11, PySem.W.fnOf "_law_read" "_law_read" (defArgs s__law_read) (defBody s__law_read) (defScope s__law_read) .none kV12 dc12 pm12 an12 cd12 ct12, PySem.W.fnOf "_law_changed" "_law_changed" (defArgs s__law_changed) (defBody s__law_changed) (defScope s__law_changed) .none kV13 dc13 pm13 an13 cd13 ct13, PySem.W.fnOf "_law_told" "_law_told" (defArgs s__law_told) (defBody s__law_told) (defScope s__law_told) .none kV14 dc14 pm14 an14 cd14 ct14, PySem.W.fnOf "_law_right" "_law_right" (defArgs s__law_right) (defBody s__law_right) (defScope s__law_right) .none kV15 dc15 pm15 an15 cd15 ct15, PySem.W.fnOf "law" "law" (defArgs s_law) (defBody s_law) (defScope s_law) .none kV16 dc16 pm16 an16 cd16 ct16, PySem.W.fnOf "__init__" "InvalidPage.__init__" (defArgs sI_InvalidPage) (defBody sI_InvalidPage) (defScope sI_InvalidPage) .none kV17 dc17 pm17 an17 cd17 ct17] : List FuncData).getD i (PySem.W.fnOf "law" "law" (defArgs s_law) (defBody s_law) (defScope s_law) .none kV16 dc16 pm16 an16 cd16 ct16)) (fun i => ([C0, C1] : List Addr).getD i 0) := {
    ct := { yes := trivial, x_InvalidPage := ⟨ga1, gg1, eC1, hC1⟩, n_InvalidPage := nb1, e_InvalidPage_InvalidPage := U.exm_of eC1 iC1 tC1 s1_1 },
    f_is_word := F0, m_is_word := PySem.W.mg_of X G a0, b_is_word := b0,
    f_split_line := F1, m_split_line := PySem.W.mg_of X G a1, b_split_line := b1,
    f_is_right := F2, m_is_right := PySem.W.mg_of X G a2, b_is_right := b2,
    f_read_page := F3, m_read_page := PySem.W.mg_of X G a3, b_read_page := b3,
    f__law_cell := F4, m__law_cell := PySem.W.mg_of X G a4, b__law_cell := b4,
    f__law_purse := F5, m__law_purse := PySem.W.mg_of X G a5, b__law_purse := b5,
    f__law_take := F6, m__law_take := PySem.W.mg_of X G a6, b__law_take := b6,
    f__law_mark := F7, m__law_mark := PySem.W.mg_of X G a7, b__law_mark := b7,
    f__law_word := F8, m__law_word := PySem.W.mg_of X G a8, b__law_word := b8,
    f__law_text := F9, m__law_text := PySem.W.mg_of X G a9, b__law_text := b9,
    f__law_page := F10, m__law_page := PySem.W.mg_of X G a10, b__law_page := b10,
    f__law_parts := F11, m__law_parts := PySem.W.mg_of X G a11, b__law_parts := b11,
    f__law_read := F12, m__law_read := PySem.W.mg_of X G a12, b__law_read := b12,
    f__law_changed := F13, m__law_changed := PySem.W.mg_of X G a13, b__law_changed := b13,
    f__law_told := F14, m__law_told := PySem.W.mg_of X G a14, b__law_told := b14,
    f__law_right := F15, m__law_right := PySem.W.mg_of X G a15, b__law_right := b15,
    f_law := F16, m_law := PySem.W.mg_of X G a16, b_law := b16,
    x_InvalidPage := ⟨PySem.W.mg_of X G gC1, ⟨⟨_, _, _, _, _, _, _, _, _, _, _, _, _, _, _, xL1, rfl⟩, sa1, eC1, tC1, kC1⟩, ai1, ti1, nb1, ⟨ga1, gg1, eC1, hC1⟩, iC1⟩,
    F_InvalidPage := F17, i_InvalidPage := b17, m_InvalidPage := PySem.W.mg_of X G gC1,
    y_ReflowError := ⟨bg0, _, br0, bf0⟩, w_ReflowError := PySem.W.mg_of X G gC0,
    z_all := PySem.W.mg_none_of X G z0,
    z_enumerate := PySem.W.mg_none_of X G z1,
    z_int := PySem.W.mg_none_of X G z2,
    z_isinstance := PySem.W.mg_none_of X G z3,
    z_len := PySem.W.mg_none_of X G z4,
    z_max := PySem.W.mg_none_of X G z5,
    z_min := PySem.W.mg_none_of X G z6,
    z_range := PySem.W.mg_none_of X G z7,
    z_repr := PySem.W.mg_none_of X G z8,
    z_str := PySem.W.mg_none_of X G z9,
    c_LETTERS := ⟨_, PySem.W.mg_of X G q_0⟩,
    c_MOST_INDENT := ⟨_, PySem.W.mg_of X G q_1⟩,
    c_MOST_LETTERS := ⟨_, PySem.W.mg_of X G q_2⟩ }
  exact ⟨_, _, fun s v => .of_eq rfl, fun base _ _ => ok_law T⟩
theorem walk {l : PySem.W.OpenLaw} {q : Program} {loose : List Str} {XP : (Str → Option Value) → Heap → Prop} {YP : World → Heap → Prop} {d : DefRec} {K : Params → PySem.W.Frag} (hn : l.most = some 63) (hdf : d.params.defaults = [])
    (hY : ∀ (w : World) (h : Heap), YP w h → (K w.params).In h)
    (F : ∀ (w : World) (mg : Str → Option Value) (fa : Addr) (h : Heap), (K w.params).In h → h.Ns mainGlobals mg → mg d.name = some (.ref fa) →
      ∃ (ca : Nat → Addr) (fd : FuncData), (∀ (s : Shared) (u : Value), BindsTo s fd ⟨[u], []⟩ [("_law_script", u)]) ∧ ∀ base : Heap, (K w.params).In base → base.Ns mainGlobals mg → U.FnG l.prog w (K w.params) mg base CX0 7 fa fd ["_law_script"] (sp_law (K w.params) ca)) :
    PySem.W.WalkO q loose XP YP l.row.toRowW d [] (fun f vs => PySem.call f vs) :=
  U.walk_ofG (n := 63) (k := 7) (x := "_law_script") (sp := fun w ca => sp_law (K w.params) ca) hn (by decide) hdf ⟨rfl, by decide, by decide⟩ hY F (fun _ _ _ a ns hl hO hS => ⟨a, ns, rfl, U.script_of hO hS, hl, fun _ => rfl⟩)
end Lw
open PySem PySem.W PyProof.Rows
set_option maxRecDepth 100000 in
set_option maxHeartbeats 0 in
theorem PySem.Challenge.cw_reflows_k14_pages_refused_holds : PySem.Challenge.rw_reflows_k14_pages_refused.Holds := by
  w_on; o_law; k_head; (case hw => w_witness2)
  k_fill
  refine Lw.walk (l := PySem.Challenge.rw_reflows_k14_pages_refused) rfl rfl (fun w h Y => PySem.W.kIn_of Y) ?F
  case F =>
    intro w mg fa h KX G hmg
    refine' Lw.all_mk KX G hmg ?a0 ?l0 ?c0 ?k0 ?a1 ?l1 ?c1 ?k1 ?a2 ?l2 ?c2 ?k2 ?a3 ?l3 ?c3 ?k3 ?a4 ?l4 ?c4 ?k4 ?a5 ?l5 ?c5 ?k5 ?a6 ?l6 ?c6 ?k6 ?a7 ?l7 ?c7 ?k7 ?a8 ?l8 ?c8 ?k8 ?a9 ?l9 ?c9 ?k9 ?a10 ?l10 ?c10 ?k10 ?a11 ?l11 ?c11 ?k11 ?a12 ?l12 ?c12 ?k12 ?a13 ?l13 ?c13 ?k13 ?a14 ?l14 ?c14 ?k14 ?a15 ?l15 ?c15 ?k15 ?a16 ?l16 ?c16 ?k16 ?gC0 ?gC1 ?bg0 ?br0 ?bf0 ?xL1 ?sa1 ?ga1 ?gg1 ?nb1 ?ai1 ?ti1 ?l17 ?c17 ?k17 ?kC1 ?eC1 ?tC1 ?hC1 ?iC1 ?s1_1 ?z0 ?z1 ?z2 ?z3 ?z4 ?z5 ?z6 ?z7 ?z8 ?z9 ?q_0 ?q_1 ?q_2
    (case a0 => first | k_is | rfl)
    (case l0 => first | k_is | rfl)
    (case c0 => first | k_is | rfl)
    (case k0 => first | k_is | rfl)
    (case a1 => first | k_is | rfl)
    (case l1 => first | k_is | rfl)
    (case c1 => first | k_is | rfl)
    (case k1 => first | k_is | rfl)
    (case a2 => first | k_is | rfl)
    (case l2 => first | k_is | rfl)
    (case c2 => first | k_is | rfl)
    (case k2 => first | k_is | rfl)
    (case a3 => first | k_is | rfl)
    (case l3 => first | k_is | rfl)
    (case c3 => first | k_is | rfl)
    (case k3 => first | k_is | rfl)
    (case a4 => first | k_is | rfl)
    (case l4 => first | k_is | rfl)
    (case c4 => first | k_is | rfl)
    (case k4 => first | k_is | rfl)
    (case a5 => first | k_is | rfl)
    (case l5 => first | k_is | rfl)
    (case c5 => first | k_is | rfl)
    (case k5 => first | k_is | rfl)
    (case a6 => first | k_is | rfl)
    (case l6 => first | k_is | rfl)
    (case c6 => first | k_is | rfl)
    (case k6 => first | k_is | rfl)
    (case a7 => first | k_is | rfl)
    (case l7 => first | k_is | rfl)
    (case c7 => first | k_is | rfl)
    (case k7 => first | k_is | rfl)
    (case a8 => first | k_is | rfl)
    (case l8 => first | k_is | rfl)
    (case c8 => first | k_is | rfl)
    (case k8 => first | k_is | rfl)
    (case a9 => first | k_is | rfl)
    (case l9 => first | k_is | rfl)
    (case c9 => first | k_is | rfl)
    (case k9 => first | k_is | rfl)
    (case a10 => first | k_is | rfl)
    (case l10 => first | k_is | rfl)
    (case c10 => first | k_is | rfl)
    (case k10 => first | k_is | rfl)
    (case a11 => first | k_is | rfl)
    (case l11 => first | k_is | rfl)
    (case c11 => first | k_is | rfl)
    (case k11 => first | k_is | rfl)
    (case a12 => first | k_is | rfl)
    (case l12 => first | k_is | rfl)
    (case c12 => first | k_is | rfl)
    (case k12 => first | k_is | rfl)
    (case a13 => first | k_is | rfl)
    (case l13 => first | k_is | rfl)
    (case c13 => first | k_is | rfl)
    (case k13 => first | k_is | rfl)
    (case a14 => first | k_is | rfl)
    (case l14 => first | k_is | rfl)
    (case c14 => first | k_is | rfl)
    (case k14 => first | k_is | rfl)
    (case a15 => first | k_is | rfl)
    (case l15 => first | k_is | rfl)
    (case c15 => first | k_is | rfl)
    (case k15 => first | k_is | rfl)
    (case a16 => first | k_is | rfl)
    (case l16 => first | k_is | rfl)
    (case c16 => first | k_is | rfl)
    (case k16 => first | k_is | rfl)
    (case gC0 => first | k_is | rfl)
    (case gC1 => first | k_is | rfl)
    (case bg0 => first | k_is | rfl)
    (case br0 => first | k_is | rfl)
    (case bf0 => first | k_is | rfl)
    (case xL1 => first | k_is | rfl)
    (case sa1 => first | k_is | rfl)
    (case ga1 => first | k_is | rfl)
    (case gg1 => first | k_is | rfl)
    (case nb1 => first | k_is | rfl)
    (case ai1 => first | k_is | rfl)
    (case ti1 => first | k_is | rfl)
    (case l17 => first | k_is | rfl)
    (case c17 => first | k_is | rfl)
    (case k17 => first | k_is | rfl)
    (case kC1 => first | k_is | rfl)
    (case eC1 => first | k_is | rfl)
    (case tC1 => first | k_is | rfl)
    (case hC1 => first | k_is | rfl)
    (case iC1 => first | k_is | rfl)
    (case s1_1 => first | k_is | rfl)
    (case z0 => first | k_is | rfl)
    (case z1 => first | k_is | rfl)
    (case z2 => first | k_is | rfl)
    (case z3 => first | k_is | rfl)
    (case z4 => first | k_is | rfl)
    (case z5 => first | k_is | rfl)
    (case z6 => first | k_is | rfl)
    (case z7 => first | k_is | rfl)
    (case z8 => first | k_is | rfl)
    (case z9 => first | k_is | rfl)
    (case q_0 => first | k_is | rfl)
    (case q_1 => first | k_is | rfl)
    (case q_2 => first | k_is | rfl)
