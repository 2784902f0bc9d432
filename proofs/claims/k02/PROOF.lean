import PyProof.Rows.All
import Wide.All
import OpenK.AllK
import Wide.FinOn
import HandS.ForMost
import HandS.IsInst
import HandS.Walk
import HandS.Flow
import HandS.Zip
import PyProof.NeKinds
import HandS.Exc
import HandS.ExcOwn
import HandS.ExcInit
import HandS.ExcField
import HandS.WordsExc
import HandS.Defaults
import HandS.MakeKwOnly
import HandS.DeepEq
import HandS.Replace
import HandS.RaiseMore
import HandS.Text
import PyProof.ReprRoads
import PyProof.ReprLen
import HandS.Codes
import KE.IntTextLaws
import PySem.Challenge.RW_reflows_k02_marks_numbers_words
set_option Elab.async false
set_option linter.all false
set_option maxRecDepth 100000
set_option maxHeartbeats 4000000
namespace PySem.SeqAt
open AutoSeq1 (wpAny_loadPart')
open MeetsSeq
theorem dict_ne_declines_tuple (l b : Addr) (es : Array DictEntry) (items2 : Array Value) (n n2 : Nat) (dd2 : Option Addr) (sl2 : Array (Option Value)) :
    Meets (Builtin.«dict.__ne__» ⟨[.ref l, .ref b], []⟩) (fun _ R s => s.heap.get? l = some { cls := .type "dict", dict := none, data := .dict es n, slots := #[] } ∧ s.heap.get? b = some { cls := .type "tuple", dict := dd2, data := .seq items2 n2, slots := sl2 } ∧ R (.ok (.ret .notImplemented)) s) :=
  .of_wp fun prog w A R s h => by
    obtain ⟨hp, g, d, tk, os⟩ := s; obtain ⟨hl, hb, h⟩ := h; have f1 := F.sub_tuple_dict
    unfold Builtin.«dict.__ne__»
    wp_walk using wpAny_loadPart' hl, wpAny_loadPart' hb
    exact ⟨_, rfl, h⟩
theorem tuple_ne_declines_dict (l b : Addr) (es : Array DictEntry) (items : Array Value) (n n2 : Nat) (dd : Option Addr) (sl : Array (Option Value)) :
    Meets (Builtin.«tuple.__ne__» ⟨[.ref l, .ref b], []⟩) (fun _ R s => s.heap.get? l = some { cls := .type "tuple", dict := dd, data := .seq items n, slots := sl } ∧ s.heap.get? b = some { cls := .type "dict", dict := none, data := .dict es n2, slots := #[] } ∧ R (.ok (.ret .notImplemented)) s) :=
  .of_wp fun prog w A R s h => by obtain ⟨hp, g, d, tk, os⟩ := s; obtain ⟨hl, hb, h⟩ := h; have f1 := F.sub_dict_tuple; wp_walk using wpAny_loadPart' hl, wpAny_loadPart' hb; exact ⟨_, rfl, h⟩
theorem RcNeAt.dict_tuple {A : Around} {s : Shared} {l b : Addr} {o : Obj} {es : Array DictEntry} {ep : Nat} {items2 : Array Value} (ho : s.heap.get? l = some o) (hx : o.ExactDict) (hd : o.data = .dict es ep) (hb : s.heap.IsTuple b items2) (hu : A.units < cLine) : RcNeAt A s (.ref l) (.ref b) true := fun prog w E Q h => by
  obtain ⟨cls, dd, data, sl⟩ := o
  obtain ⟨⟨cls2, dd2, data2, sl2⟩, ho2, hc2, n2, hd2⟩ := id hb
  obtain ⟨h1, h2, h3⟩ := hx
  simp only at h1 h2 h3 hd hc2 hd2
  subst h1 h2 h3 hd hc2 hd2
  have hne : l ≠ b := fun e => by
    subst e
    have e := Option.some.inj (ho.symm.trans ho2)
    injection e with e1
    injection e1 with e1
    exact absurd e1 (by decide)
  exact (rc_ne_decline_or (k := false) ⟨_, ho, rfl⟩ ⟨_, ho2, rfl⟩ (by decide) F.sub_tuple_dict F.slot_dict_ne F.slot_tuple_ne_refl
    (fun _ hq => call_meets F.slot_dict_ne ⟨_, ho, rfl⟩ F.entry_dict_ne (F.args_dict_ne_2 _ _) (dict_ne_declines_tuple l b es items2 ep n2 dd2 sl2) ⟨ho, ho2, hq⟩)
    (fun _ hq => call_meets F.slot_tuple_ne_refl ⟨_, ho2, rfl⟩ F.entry_tuple_ne (F.args_tuple_ne_2 _ _) (tuple_ne_declines_dict b l es items2 n2 ep dd2 sl2) ⟨ho2, ho, hq⟩)
    (fun _ hq => wpAny_isSame_ref_other hne ho ho2 (by simp) hq) (.inr hu) h)
end PySem.SeqAt
namespace U
open PySem L2

/-! ### weakening of judgements -/
section
variable {X : Cx}
theorem PEi {e : Expr} {t u : TE} (h : PE X e t) (i : ∀ σ H Q, u σ H Q → t σ H Q) : PE X e u := ⟨fun pins s σ H Q I k => h.run pins s σ H Q I (i σ H Q k)⟩
theorem PTi {e : Expr} {t u : TT} (h : PT X e t) (i : ∀ σ H Q, u σ H Q → t σ H Q) : PT X e u := ⟨fun pins s σ H Q I k => h.run pins s σ H Q I (i σ H Q k)⟩
theorem PWi {e : Expr} {t u : TT} (h : PW X e t) (i : ∀ σ H Q, u σ H Q → t σ H Q) : PW X e u := ⟨fun wh pins s σ H Q I k => h.run wh pins s σ H Q I (i σ H Q k)⟩
theorem PSi {e : Stmt} {t u : TS} (h : PS X e t) (i : ∀ D σ H, u D σ H → t D σ H) : PS X e u := ⟨fun pins s σ H D I k => h.run pins s σ H D I (i D σ H k)⟩
theorem OpRi {f : Value → Value → Sem Value} {r r' : R2} (h : OpR X f r) (i : ∀ x y H Q, r' x y H Q → r x y H Q) : OpR X f r' := fun pins s σ H x y v u Q I rx ry k => h pins s σ H x y v u Q I rx ry (i x y H Q k)
theorem CallRi {f : Value} {r r' : List V → Hp → VK → Prop} (h : CallR X f r) (i : ∀ xs H Q, r' xs H Q → r xs H Q) : CallR X f r' := fun pins s σ H xs us Q I r k => h pins s σ H xs us Q I r (i xs H Q k)
theorem IxRi {r r' : R2} (h : IxR X r) (i : ∀ x y H Q, r' x y H Q → r x y H Q) : IxR X r' := fun value slice pins s σ H x y v u Q I rx ry q hs => h value slice pins s σ H x y v u Q I rx ry (i x y H Q q) hs
theorem SlRi {r r' : V → Option Int → Option Int → Hp → VK → Prop} (h : L2.SlR X r) (i : ∀ x lo hi H Q, r' x lo hi H Q → r x lo hi H Q) : L2.SlR X r' := fun pins s σ H x v vl vu lo hi sl Q I rx hs pl pu q => h pins s σ H x v vl vu lo hi sl Q I rx hs pl pu (i x lo hi H Q q)
theorem MtRi {id : String} {r r' : V → List V → Hp → VK → Prop} (h : MtR X id r) (i : ∀ x xs H Q, r' x xs H Q → r x xs H Q) : MtR X id r' := fun pins s σ H x xs v us Q I rx rs q => h pins s σ H x xs v us Q I rx rs (i x xs H Q q)
theorem PIi {tg iter : Expr} {t u : TI} (h : PI X tg iter t) (i : ∀ σ H R, u σ H R → t σ H R) : PI X tg iter u := ⟨fun pins s σ H R I k => h.run pins s σ H R I (i σ H R k)⟩
theorem POi {e : Option Expr} {t u : TO} (h : PO X e t) (i : ∀ σ H Q, u σ H Q → t σ H Q) : PO X e u := ⟨fun pins s σ H Q I k => h.run pins s σ H Q I (i σ H Q k)⟩
end

/-! ### branches by name -/
def bV (x : V) (A B : Prop) : Prop := match x with | .bl true => A | .bl false => B | _ => False
def bB (c : Bool) (A B : Prop) : Prop := match c with | true => A | false => B
def oK {α : Type} (o : Option α) (f : α → Prop) : Prop := match o with | some x => f x | none => False
section
variable {A B : Prop} {α : Type}
theorem bV_of {c : Bool} (h1 : c = true → A) (h2 : c = false → B) : bV (.bl c) A B := by
  cases c
  · exact h2 rfl
  · exact h1 rfl
theorem bB_of {c : Bool} (h1 : c = true → A) (h2 : c = false → B) : bB c A B := by
  cases c
  · exact h2 rfl
  · exact h1 rfl
theorem bV_t {c : Bool} (hc : c = true) (h : A) : bV (.bl c) A B := by subst hc; exact h
theorem bV_f {c : Bool} (hc : c = false) (h : B) : bV (.bl c) A B := by subst hc; exact h
theorem bB_t {c : Bool} (hc : c = true) (h : A) : bB c A B := by subst hc; exact h
theorem bB_f {c : Bool} (hc : c = false) (h : B) : bB c A B := by subst hc; exact h
theorem bV_d {p : Prop} [Decidable p] (h1 : p → A) (h2 : ¬ p → B) : bV (.bl (decide p)) A B := bV_of (fun h => h1 (of_decide_eq_true h)) fun h => h2 (of_decide_eq_false h)
theorem bB_d {p : Prop} [Decidable p] (h1 : p → A) (h2 : ¬ p → B) : bB (decide p) A B := bB_of (fun h => h1 (of_decide_eq_true h)) fun h => h2 (of_decide_eq_false h)
theorem bB_n {p : Prop} [Decidable p] (h1 : ¬ p → A) (h2 : p → B) : bB (!decide p) A B := bB_of (fun h => h1 (by simpa using h)) fun h => h2 (by simpa using h)
theorem bB_if (c : Bool) (A B : Prop) : bB c A B = if c = true then A else B := by
  cases c <;> simp [bB]
theorem oK_of {o : Option α} {f : α → Prop} {x : α} (h : o = some x) (k : f x) : oK o f := by subst h; exact k
theorem oK_ex {o : Option α} {f : α → Prop} (h : oK o f) : ∃ x, o = some x ∧ f x := by
  cases o with
  | none => exact h.elim
  | some x => exact ⟨x, rfl, h⟩
end

/-! ### names, tests -/
def uVar (i : Nat) : TE := fun σ H Q => match σ[i]? with | some (some v) => Q v H | _ => False
def uT (t : TE) : TT := fun σ H Q => t σ H fun x H1 => match x with | .bl k => Q k H1 | _ => False
def uAndV (ta tb : TE) : TE := fun σ H Q => ta σ H fun x H1 => bV x (tb σ H1 Q) (Q (.bl false) H1)
def uOrV (ta tb : TE) : TE := fun σ H Q => ta σ H fun x H1 => bV x (Q (.bl true) H1) (tb σ H1 Q)
def uNotV (ta : TE) : TE := fun σ H Q => ta σ H fun x H1 => match x with | .bl k => Q (.bl (!k)) H1 | _ => False
def uAnd (t u : TT) : TT := fun σ H Q => t σ H fun c H1 => bB c (u σ H1 Q) (Q false H1)
def uOr (t u : TT) : TT := fun σ H Q => t σ H fun c H1 => bB c (Q true H1) (u σ H1 Q)
def uNot (t : TT) : TT := fun σ H Q => t σ H fun c H1 => Q (!c) H1
def uIf (t : TT) (ta tb : TE) : TE := fun σ H Q => t σ H fun c H1 => bB c (ta σ H1 Q) (tb σ H1 Q)
def uIfS (t : TT) (a b : TS) : TS := fun D σ H => t σ H fun c H1 => bB c (a D σ H1) (b D σ H1)
section
variable {X : Cx} {a b : Expr} {ta tb : TE} {pos : Pos} {tA tB' : TT} {rest : List Expr}
theorem pu (i : Nat) {x : Str} {pos : Pos} (hN : X.N[i]? = some x := by rfl) (hv : Vis X.env.scope x := by first | exact Or.inl rfl | exact Or.inr (Or.inl rfl) | exact Or.inr (Or.inr rfl)) (hd : (x == ("__debug__" : Str)) = false := by decide)
    (hcd : (x == ("__classdict__" : Str)) = false := by decide) : PE X (.Name x pos) (uVar i) := PEi (pe_var hN hv hd hcd) fun σ H Q h => by
  unfold uVar at h
  split at h
  · exact ⟨_, by assumption, h⟩
  · exact h.elim
theorem uT_tB {t : TE} {σ H Q} (h : uT t σ H Q) : ∃ (R : VK), t σ H R ∧ ∀ x H1, R x H1 → ∃ c, x = V.bl c ∧ Q c H1 := by
  refine ⟨_, h, fun x H1 r => ?_⟩
  split at r
  · exact ⟨_, rfl, r⟩
  · exact r.elim
end
/-- readings are monotone in what follows (needed to pass from the computing form to the layer's) -/
theorem t_iff {p q : VK} (e : p = q) {t : TE} {σ H} (h : t σ H p) : t σ H q := e ▸ h
theorem k_bl (Q : Bool → Hp → Prop) : (fun (x : V) (H1 : Hp) => match x with | .bl k => Q k H1 | _ => False) = (fun x H1 => ∃ c, x = V.bl c ∧ Q c H1) := by
  funext x H1
  cases x <;> simp
theorem k_and (f : Hp → Prop) (g : Hp → Prop) : (fun (x : V) (H1 : Hp) => bV x (f H1) (g H1)) = (fun x H1 => ∃ c, x = V.bl c ∧ if c = true then f H1 else g H1) := by
  funext x H1
  unfold bV
  cases x with
  | bl b => cases b <;> simp
  | _ => simp
theorem k_b (f : Hp → Prop) (g : Hp → Prop) : (fun (c : Bool) (H1 : Hp) => bB c (f H1) (g H1)) = (fun c H1 => if c = true then f H1 else g H1) := by
  funext c H1
  unfold bB
  cases c <;> simp
section
variable {X : Cx} {a b : Expr} {ta tb : TE} {pos : Pos} {tA tB' : TT} {rest : List Expr}
theorem uT_eq (t : TE) : uT t = tB t := by funext σ H Q; unfold uT tB; rw [k_bl]
theorem uT_eq' (t : TE) : uT t = tTest t := by funext σ H Q; unfold uT tTest; rw [k_bl]
theorem uAndV_eq (ta tb : TE) : uAndV ta tb = tAndV ta tb := by funext σ H Q; unfold uAndV tAndV; rw [k_and]
theorem uOrV_eq (ta tb : TE) : uOrV ta tb = tOrV ta tb := by funext σ H Q; unfold uOrV tOrV; rw [k_and]
theorem uNotV_eq (ta : TE) : uNotV ta = tNotV ta := by
  funext σ H Q; unfold uNotV tNotV
  exact congrArg (ta σ H) (k_bl fun c H1 => Q (.bl (!c)) H1)
theorem uAnd_eq (t u : TT) : uAnd t u = tAnd t u := by funext σ H Q; unfold uAnd tAnd; rw [k_b]
theorem uOr_eq (t u : TT) : uOr t u = tOr t u := by funext σ H Q; unfold uOr tOr; rw [k_b]
theorem uIf_eq (t : TT) (ta tb : TE) : uIf t ta tb = tIf t ta tb := by funext σ H Q; unfold uIf tIf; rw [k_b]
theorem uIfS_eq (t : TT) (a b : TS) : uIfS t a b = tIfS t a b := by funext D σ H; unfold uIfS tIfS; rw [k_b]
theorem put_val {e : Expr} {t : TE} (h : PE X e t) (he : ∀ whole, isTrue e X.env whole = (do let v ← whole; standAt e.pos; holding [v] (truthy v)) := by intro _; rfl) : PT X e (uT t) := by
  rw [uT_eq]; exact pt_val h he
theorem put_cmp {op : CmpOp} {r : R2} (ho : OpR X (compareOp op) r) (ha : PE X a ta) (hb : PE X b tb) (hm : behindInMarks op b = false) : PT X (.Compare a [op] [b] pos) (uT (tOp r ta tb)) := by
  rw [uT_eq']; exact pt_cmpR ho ha hb hm
theorem pue_and (ha : PE X a ta) (hb : PE X (.BoolOp .And (b :: rest) pos) tb) : PE X (.BoolOp .And (a :: b :: rest) pos) (uAndV ta tb) := by rw [uAndV_eq]; exact pe_and ha hb
theorem pue_or (ha : PE X a ta) (hb : PE X (.BoolOp .Or (b :: rest) pos) tb) : PE X (.BoolOp .Or (a :: b :: rest) pos) (uOrV ta tb) := by rw [uOrV_eq]; exact pe_or ha hb
theorem pue_not (ha : PE X a ta) : PE X (.UnaryOp .Not a pos) (uNotV ta) := by rw [uNotV_eq]; exact pe_not ha
theorem puw_and (ha : PT X a tA) (hb : PW X (.BoolOp .And (b :: rest) pos) tB') : PW X (.BoolOp .And (a :: b :: rest) pos) (uAnd tA tB') := by rw [uAnd_eq]; exact pw_and ha hb
theorem puw_or (ha : PT X a tA) (hb : PW X (.BoolOp .Or (b :: rest) pos) tB') : PW X (.BoolOp .Or (a :: b :: rest) pos) (uOr tA tB') := by rw [uOr_eq]; exact pw_or ha hb
theorem put_not (ha : PT X a tA) : PT X (.UnaryOp .Not a pos) (uNot tA) := pt_not ha
theorem pue_if {c : Expr} (hc : PT X c tA) (ha : PE X a ta) (hb : PE X b tb) : PE X (.IfExp c a b pos) (uIf tA ta tb) := by rw [uIf_eq]; exact pe_ifExp hc ha hb
theorem pus_if {c : Expr} {p q : List Stmt} {t u : TS} (hc : PT X c tA) (ha : PSs X p t) (hb : PSs X q u) : PS X (.If c p q pos) (uIfS tA t u) := by rw [uIfS_eq]; exact ps_if hc ha hb
end

/-! ### operators -/
def uAdd (K : PySem.W.Frag) : R2 := fun x y H Q => match x, y with
  | .int i, .int j => Q (.int (i + j)) H
  | .str i, .str j => i.length + j.length ≤ sizeLine ∧ Q (.str (i ++ j)) H
  | .ref l, .ref b => ∃ xs zs, H l = some (.lst xs) ∧ H b = some (.lst zs) ∧ xs.length + zs.length ≤ sizeLine ∧ ∀ p, H p = none → Q (.ref p) (upd H p (.lst (xs ++ zs)))
  | _, _ => False
def uSub : R2 := fun x y H Q => match x, y with
  | .int i, .int j => Q (.int (i - j)) H
  | _, _ => False
def uMul : R2 := fun x y H Q => match x, y with
  | .int i, .int j => CMul i j ∧ Q (.int (i * j)) H
  | _, _ => False
def uFdiv : R2 := fun x y H Q => match x, y with
  | .int i, .int j => CDiv i j ∧ Q (.int (i / j)) H
  | _, _ => False
def uMod : R2 := fun x y H Q => match x, y with
  | .int i, .int j => 0 < j ∧ Q (.int (i % j)) H
  | _, _ => False
def uPow : R2 := fun x y H Q => match x, y with
  | .int i, .int j => CPow i j ∧ Q (.int (i ^ j.toNat)) H
  | _, _ => False
def uCmpI (p : Int → Int → Bool) (q : List Nat → List Nat → Bool) : R2 := fun x y H Q => match x, y with
  | .int i, .int j => Q (.bl (p i j)) H
  | .str i, .str j => Q (.bl (q i.cps.toList j.cps.toList)) H
  | _, _ => False
abbrev uLt : R2 := uCmpI (fun i j => decide (i < j)) (fun i j => decide (i < j))
abbrev uLe : R2 := uCmpI (fun i j => decide (i ≤ j)) (fun i j => !decide (j < i))
abbrev uGt : R2 := uCmpI (fun i j => decide (j < i)) (fun i j => decide (j < i))
abbrev uGe : R2 := uCmpI (fun i j => decide (j ≤ i)) (fun i j => !decide (i < j))
section
variable {X : Cx}
theorem ou_add : OpR X (binaryOp .Add) (uAdd X.K) := OpRi (op_add.or (op_add_str.or op_cat)) fun x y H Q h => by
  unfold uAdd at h
  split at h
  · exact .inl ⟨_, _, rfl, rfl, h⟩
  · exact .inr (.inl ⟨_, _, rfl, rfl, h⟩)
  · obtain ⟨xs, zs, h1, h2, h3, h4⟩ := h
    exact .inr (.inr ⟨_, _, xs, zs, rfl, rfl, h1, h2, h3, h4⟩)
  · exact h.elim
theorem ou_sub : OpR X (binaryOp .Sub) uSub := OpRi op_sub fun x y H Q h => by
  unfold uSub at h
  split at h
  · exact ⟨_, _, rfl, rfl, h⟩
  · exact h.elim
theorem ou_mul : OpR X (binaryOp .Mult) uMul := OpRi op_mul fun x y H Q h => by
  unfold uMul at h
  split at h
  · exact ⟨_, _, rfl, rfl, h⟩
  · exact h.elim
theorem ou_fdiv : OpR X (binaryOp .FloorDiv) uFdiv := OpRi op_fdiv fun x y H Q h => by
  unfold uFdiv at h
  split at h
  · exact ⟨_, _, rfl, rfl, h⟩
  · exact h.elim
theorem ou_mod : OpR X (binaryOp .Mod) uMod := OpRi op_mod fun x y H Q h => by
  unfold uMod at h
  split at h
  · exact ⟨_, _, rfl, rfl, h⟩
  · exact h.elim
theorem ou_pow : OpR X (binaryOp .Pow) uPow := OpRi op_pow fun x y H Q h => by
  unfold uPow at h
  split at h
  · exact ⟨_, _, rfl, rfl, h⟩
  · exact h.elim
theorem uCmp_or {p : Int → Int → Bool} {q : List Nat → List Nat → Bool} {f : Value → Value → Sem Value} (h1 : OpR X f (rI0 fun i j => .bl (p i j))) (h2 : OpR X f (fun x y H Q => ∃ i j, x = .str i ∧ y = .str j ∧ Q (.bl (q i.cps.toList j.cps.toList)) H)) : OpR X f (uCmpI p q) :=
  OpRi (h1.or h2) fun x y H Q h => by
  unfold uCmpI at h
  split at h
  · exact .inl ⟨_, _, rfl, rfl, h⟩
  · exact .inr ⟨_, _, rfl, rfl, h⟩
  · exact h.elim
theorem ou_lt : OpR X (compareOp .Lt) uLt := uCmp_or op_lt op_lt_str
theorem ou_le : OpR X (compareOp .LtE) uLe := uCmp_or op_le op_le_str
theorem ou_gt : OpR X (compareOp .Gt) uGt := uCmp_or op_gt op_gt_str
theorem ou_ge : OpR X (compareOp .GtE) uGe := uCmp_or op_ge op_ge_str
end

/-! ### what is read at an address -/
def seqOf (c : String) (o : Obj) : Option (List V) := match o with
  | ⟨.type d, none, .seq its _, _⟩ => if c = d ∧ its.size ≤ sizeLine then its.toList.mapM absV else none
  | _ => none
def kS (K : PySem.W.Frag) (c : String) (a : Addr) : Option (List V) := match K.lookup a with
  | some o => seqOf c o
  | none => none
def rdL (K : PySem.W.Frag) (H : Hp) (a : Addr) : Option (List V) := match H a with
  | some (.lst xs) => some xs
  | some (.frz _ (.lst xs)) => some xs
  | some _ => none
  | none => kS K "list" a
def rdT (K : PySem.W.Frag) (H : Hp) (a : Addr) : Option (List V) := match H a with
  | some (.tup xs) => some xs
  | some (.frz _ (.tup xs)) => some xs
  | some _ => none
  | none => kS K "tuple" a
def rdS (K : PySem.W.Frag) (H : Hp) (a : Addr) : Option (List V) := match rdL K H a with
  | some xs => some xs
  | none => rdT K H a
theorem mapM_vals : ∀ {us : List Value} {xs : List V}, us.mapM absV = some xs → Vals xs us := by
  intro us
  induction us with
  | nil => intro xs h; simp at h; subst h; exact .nil
  | cons u r ih =>
    intro xs h
    rw [List.mapM_cons] at h
    cases e1 : absV u with
    | none => rw [e1] at h; cases h
    | some x =>
      cases e2 : r.mapM absV with
      | none => rw [e1, e2] at h; cases h
      | some ys =>
        rw [e1, e2] at h
        cases h
        refine .cons ?_ (ih e2)
        cases u <;> simp [absV] at e1 <;> subst e1 <;> first | rfl | exact ⟨_, rfl⟩
theorem kS_spec {K : PySem.W.Frag} {c : String} {a : Addr} {xs : List V} (h : kS K c a = some xs) : ∃ (o : Obj) (its : Array Value) (n : Nat), K.lookup a = some o ∧ o.cls = .type c ∧ o.dict = none ∧ o.data = .seq its n ∧ its.size ≤ sizeLine ∧ Vals xs its.toList := by
  unfold kS at h
  split at h
  · rename_i o e
    unfold seqOf at h
    split at h
    · split at h
      · rename_i hc
        obtain ⟨rfl, hz⟩ := hc
        exact ⟨_, _, _, e, rfl, rfl, rfl, hz, mapM_vals h⟩
      · cases h
    · cases h
  · cases h
theorem rdL_sq {K : PySem.W.Frag} {H : Hp} {a : Addr} {xs : List V} (h : rdL K H a = some xs) : SqL K H a xs := by
  unfold rdL at h
  split at h
  · cases h; exact .inl (.inl (by assumption))
  · cases h; exact .inl (.inr ⟨_, by assumption⟩)
  · cases h
  · exact .inr (kS_spec h)
theorem rdT_sq {K : PySem.W.Frag} {H : Hp} {a : Addr} {xs : List V} (h : rdT K H a = some xs) : SqT K H a xs := by
  unfold rdT at h
  split at h
  · cases h; exact .inl (.inl (by assumption))
  · cases h; exact .inl (.inr ⟨_, by assumption⟩)
  · cases h
  · obtain ⟨o, its, n, h1, h2, h3, h4, h5, h6⟩ := kS_spec h
    exact .inr ⟨o, its, n, h1, h2, h4, h5, h6⟩
theorem rdS_sq {K : PySem.W.Frag} {H : Hp} {a : Addr} {xs : List V} (h : rdS K H a = some xs) : SqL K H a xs ∨ SqT K H a xs := by
  unfold rdS at h
  split at h
  · cases h; exact .inl (rdL_sq (by assumption))
  · exact .inr (rdT_sq h)
theorem rdL_of {K : PySem.W.Frag} {H : Hp} {a : Addr} {xs : List V} (h : H a = some (.lst xs)) : rdL K H a = some xs := by unfold rdL; rw [h]
theorem rdT_of {K : PySem.W.Frag} {H : Hp} {a : Addr} {xs : List V} (h : H a = some (.tup xs)) : rdT K H a = some xs := by unfold rdT; rw [h]
theorem rdS_ofL {K : PySem.W.Frag} {H : Hp} {a : Addr} {xs : List V} (h : rdL K H a = some xs) : rdS K H a = some xs := by unfold rdS; rw [h]
theorem rdS_l {K : PySem.W.Frag} {H : Hp} {a : Addr} {xs : List V} (h : H a = some (.lst xs)) : rdS K H a = some xs := rdS_ofL (rdL_of h)
theorem rdS_t {K : PySem.W.Frag} {H : Hp} {a : Addr} {xs : List V} (h : H a = some (.tup xs)) : rdS K H a = some xs := by
  unfold rdS rdL rdT; rw [h]

/-- a list or a tuple is read -/
def oS (K : PySem.W.Frag) (H : Hp) (p : Addr) (f : List V → Prop) : Prop := ∃ xs, (SqL K H p xs ∨ SqT K H p xs) ∧ f xs
theorem oS_of {K : PySem.W.Frag} {H : Hp} {p : Addr} {f : List V → Prop} {xs : List V} (h : rdS K H p = some xs) (k : f xs) : oS K H p f := ⟨xs, rdS_sq h, k⟩
theorem oS_l {K : PySem.W.Frag} {H : Hp} {p : Addr} {f : List V → Prop} {xs : List V} (h : SqL K H p xs) (k : f xs) : oS K H p f := ⟨xs, .inl h, k⟩

/-! ### growth of heaps -/
abbrev Ex (H H' : Hp) : Prop := ∀ a o, H a = some o → H' a = some o
theorem Ex.refl (H : Hp) : Ex H H := fun _ _ h => h
theorem Ex.trans {H H1 H2 : Hp} (a : Ex H H1) (b : Ex H1 H2) : Ex H H2 := fun x o h => b x o (a x o h)
theorem Ex.new {H : Hp} {p : Addr} {o : HO} (h : H p = none) : Ex H (upd H p o) := fun a u e => by
  rw [upd_ne (ne_of_none e h)]
  exact e
theorem Ex.mut {H H' : Hp} {p : Addr} {o : HO} (e : Ex H H') (h : H p = none) : Ex H (upd H' p o) := fun a u ha => by
  rw [upd_ne (ne_of_none ha h)]
  exact e a u ha
theorem Ex.free {H H' : Hp} (e : Ex H H') {p : Addr} (h : H' p = none) : H p = none := by
  cases h1 : H p with
  | none => rfl
  | some o => rw [e p o h1] at h; cases h
/-- all but b stays -/
def Fr (b : Addr) (H H' : Hp) : Prop := ∀ a o, H a = some o → a ≠ b → H' a = some o
theorem Fr.refl (b : Addr) (H : Hp) : Fr b H H := fun _ _ h _ => h
theorem Fr.trans {b : Addr} {H H1 H2 : Hp} (x : Fr b H H1) (y : Fr b H1 H2) : Fr b H H2 := fun a o h n => y a o (x a o h n) n
theorem Fr.ex {b : Addr} {H H1 : Hp} (x : Ex H H1) : Fr b H H1 := fun a o h _ => x a o h
theorem Fr.new {b p : Addr} {H : Hp} {o : HO} (h : H p = none) : Fr b H (upd H p o) := Fr.ex (Ex.new h)

/-! ### equality, membership -/
def uEq (K : PySem.W.Frag) : R2 := fun x y H Q => match scal x y with
  | true => Q (.bl (decide (x = y))) H
  | false => ∃ d e, Dp K H x d ∧ Dp K H y e ∧ SeqAt.shaped d = true ∧ SeqAt.shaped e = true ∧ Q (.bl (PyData.eqv d e)) H
def uNe (K : PySem.W.Frag) : R2 := fun x y H Q => match scal x y with
  | true => Q (.bl (!decide (x = y))) H
  | false => (∃ d e, Dp K H x d ∧ Dp K H y e ∧ SeqAt.shaped d = true ∧ SeqAt.shaped e = true ∧ Q (.bl (!PyData.eqv d e)) H) ∨
      ∃ a b kvs ys, x = .ref a ∧ y = .ref b ∧ H a = some (.dK kvs) ∧ H b = some (.tup ys) ∧ Q (.bl true) H
def uIn (K : PySem.W.Frag) (neg : Bool) : R2 := fun x y H Q => match y with
  | .str z => (match x with
    | .str w => (match w.cps.toList with
      | [c] => Q (.bl (if neg then !decide (c ∈ z.cps.toList) else decide (c ∈ z.cps.toList))) H
      | _ => False)
    | _ => False)
  | .ref p => oS K H p fun xs => flatV x = true ∧ xs.all flatV = true ∧ Q (.bl (if neg then !inV x xs else inV x xs)) H
  | _ => False
theorem str_one {w : Str} {c : Nat} (h : w.cps.toList = [c]) : w = ⟨#[c]⟩ := by
  obtain ⟨⟨l⟩⟩ := w
  have h : l = [c] := h
  subst h
  rfl
theorem uIn_sp {K : PySem.W.Frag} {neg : Bool} {x y : V} {H : Hp} {Q : VK} (h : uIn K neg x y H Q) :
    (∃ (c : Nat) (z : Str), x = .str ⟨#[c]⟩ ∧ y = .str z ∧ Q (.bl (if neg then !decide (c ∈ z.cps.toList) else decide (c ∈ z.cps.toList))) H) ∨ rIn K neg x y H Q := by
  unfold uIn at h
  split at h
  · split at h
    · split at h
      · rename_i e
        exact .inl ⟨_, _, by rw [str_one e], rfl, h⟩
      · exact h.elim
    · exact h.elim
  · obtain ⟨xs, e, h1, h2, h3⟩ := h
    exact .inr ⟨_, _, rfl, e, h1, h2, h3⟩
  · exact h.elim
section
variable {X : Cx}
theorem ou_eq (hu : X.A.units + 64 < cLine) : OpR X (compareOp .Eq) (uEq X.K) := OpRi (op_eq.or (op_eqD hu)) fun x y H Q h => by
  unfold uEq at h
  split at h
  · exact .inl ⟨by assumption, h⟩
  · exact .inr h
theorem op_ne_dt (hu : X.A.units + 64 < cLine) : OpR X (compareOp .NotEq) (fun x y H Q => ∃ a b kvs ys, x = V.ref a ∧ y = .ref b ∧ H a = some (.dK kvs) ∧ H b = some (.tup ys) ∧ Q (.bl true) H) := by
  intro pins s σ H x y v u Q I rx ry h
  obtain ⟨a, b, kvs, ys, rfl, rfl, ha, hb, q⟩ := h
  cases rx
  cases ry
  obtain ⟨_, _, vs, _, o, es, ep, h1, h2, h3, _⟩ := (show ObjOk X.prog X.w H s.heap a (.dK kvs) from I.hok a _ ha)
  obtain ⟨_, its, _, ht⟩ := (show ObjOk X.prog X.w H s.heap b (.tup ys) from I.hok b _ hb)
  exact SeqAt.RcNeAt.dict_tuple h1 h2 h3 ht (by omega) X.prog X.w X.xe _ ⟨.bl true, H, I, rfl, q⟩
theorem ou_ne (hu : X.A.units + 64 < cLine) : OpR X (compareOp .NotEq) (uNe X.K) := OpRi (op_ne.or ((op_neD hu).or (op_ne_dt hu))) fun x y H Q h => by
  unfold uNe at h
  split at h
  · exact .inl ⟨by assumption, h⟩
  · exact .inr h
theorem ou_in : OpR X (compareOp .In) (uIn X.K false) := OpRi (op_in_sign.or op_in_seq) fun x y H Q h => uIn_sp h
theorem ou_notin : OpR X (compareOp .NotIn) (uIn X.K true) := OpRi (op_notIn_sign.or op_notIn_seq) fun x y H Q h => uIn_sp h
end
/-- a < b < c -/
def uChain (r r' : R2) (ta tb tc : TE) : TE := fun σ H Q => ta σ H fun x H1 => tb σ H1 fun y H2 => r x y H2 fun z H3 => bV z (tc σ H3 fun w H4 => r' y w H4 Q) (Q (.bl false) H3)
theorem uChain_eq (r r' : R2) (ta tb tc : TE) : uChain r r' ta tb tc = tChain r r' ta tb tc := by
  funext σ H Q; unfold uChain tChain
  congr 1; funext x H1; congr 1; funext y H2
  rw [k_and]
section
variable {X : Cx} {a b c : Expr} {ta tb tc : TE} {pos : Pos}
theorem pue_chain {op op' : CmpOp} {r r' : R2} (ho : OpR X (compareOp op) r) (ho' : OpR X (compareOp op') r') (ha : PE X a ta) (hb : PE X b tb) (hc : PE X c tc) (hl : lastMarks [op, op'] [b, c] = false := by rfl) :
    PE X (.Compare a [op, op'] [b, c] pos) (uChain r r' ta tb tc) := by rw [uChain_eq]; exact pe_chain ho ho' ha hb hc hl
theorem put_chain {op op' : CmpOp} {r r' : R2} (ho : OpR X (compareOp op) r) (ho' : OpR X (compareOp op') r') (ha : PE X a ta) (hb : PE X b tb) (hc : PE X c tc) (hl : lastMarks [op, op'] [b, c] = false := by rfl) :
    PT X (.Compare a [op, op'] [b, c] pos) (uT (uChain r r' ta tb tc)) := by rw [uT_eq', uChain_eq]; exact pt_chain ho ho' ha hb hc hl
end

/-! ### items and slices -/
def uIx (K : PySem.W.Frag) : R2 := fun x y H Q => match x, y with
  | .str z, .int i => z.length ≤ sizeLine ∧ oK (atI z.cps.toList i) fun c => Q (.str ⟨#[c]⟩) H
  | .ref p, .int i => oS K H p fun xs => oK (atI xs i) fun v => Q v H
  | _, _ => False
theorem iu_ix {X : Cx} : IxR X (uIx X.K) := IxRi ix_seq fun x y H Q h => by
  unfold uIx at h
  split at h
  · obtain ⟨h1, h2⟩ := h
    obtain ⟨c, e, h2⟩ := oK_ex h2
    exact .inr (.inr ⟨_, _, _, rfl, rfl, h1, e, h2⟩)
  · obtain ⟨xs, e, h⟩ := h
    obtain ⟨v, e2, h⟩ := oK_ex h
    rcases e with q | q
    · exact .inl ⟨_, _, _, _, rfl, rfl, q, e2, h⟩
    · exact .inr (.inl ⟨_, _, _, _, rfl, rfl, q, e2, h⟩)
  · exact h.elim
def uPart (t : TE) : TO := fun σ H Q => t σ H fun x H1 => match x with | .int i => Q (some i) H1 | _ => False
theorem pou_some {X : Cx} {e : Expr} {te : TE} (h : PE X e te) : PO X (some e) (uPart te) := by
  have : uPart te = tPart te := by
    funext σ H Q; unfold uPart tPart; congr 1; funext x H1
    cases x <;> simp
  rw [this]; exact po_some h
/-- texts and lists -/
def uSl (K : PySem.W.Frag) : V → Option Int → Option Int → Hp → VK → Prop := fun x lo hi H Q => match x with
  | .str z => z.length ≤ sizeLine ∧ Q (.str (cutS z lo hi)) H
  | .ref a => (match rdL K H a with
    | some xs => ∀ p, H p = none → Q (.ref p) (upd H p (.lst (cutV xs lo hi)))
    | none => (match rdT K H a with
      | some xs => ¬ (HT.sIx xs.length 0 lo = 0 ∧ HT.sIx xs.length xs.length hi = xs.length) ∧ ∀ p, H p = none → Q (.ref p) (upd H p (.tup (cutV xs lo hi)))
      | none => False))
  | _ => False
theorem su_sl {X : Cx} : L2.SlR X (uSl X.K) := SlRi (sl_str.or (sl_list.or sl_tup)) fun x lo hi H Q h => by
  unfold uSl at h
  split at h
  · exact .inl ⟨_, rfl, h.1, h.2⟩
  · split at h
    · exact .inr (.inl ⟨_, _, rfl, rdL_sq (by assumption), h⟩)
    · split at h
      · exact .inr (.inr ⟨_, _, rfl, rdT_sq (by assumption), h.1, h.2⟩)
      · exact h.elim
  · exact h.elim

/-! ### builtins -/
def uLen (K : PySem.W.Frag) : List V → Hp → VK → Prop := fun xs H Q => match xs with
  | [.str z] => z.length ≤ sizeLine ∧ Q (.int z.length) H
  | [.ref p] => oS K H p fun ys => Q (.int ys.length) H
  | _ => False
def uMax2 : List V → Hp → VK → Prop := fun xs H Q => match xs with
  | [.int i, .int j] => Q (.int (if j > i then j else i)) H
  | _ => False
def uMin2 : List V → Hp → VK → Prop := fun xs H Q => match xs with
  | [.int i, .int j] => Q (.int (if j < i then j else i)) H
  | _ => False
def uStr : List V → Hp → VK → Prop := fun xs H Q => match xs with
  | [.int i] => i.natAbs.log2 < 1920 ∧ Q (.str (toString i)) H
  | _ => False
section
variable {X : Cx}
theorem cu_len : CallR X (.builtin "len") (uLen X.K) := CallRi call_len fun xs H Q h => by
  unfold uLen at h
  split at h
  · exact ⟨_, _, rfl, ⟨h.1, rfl⟩, h.2⟩
  · obtain ⟨ys, e, h⟩ := h
    rcases e with q | q
    · exact ⟨_, _, rfl, .inl ⟨_, q, rfl⟩, h⟩
    · exact ⟨_, _, rfl, .inr ⟨_, q, rfl⟩, h⟩
  · exact h.elim
theorem cu_max (hc : X.calm = true) : CallR X (.builtin "max") uMax2 := CallRi (call_max2 hc) fun xs H Q h => by
  unfold uMax2 at h
  split at h
  · exact ⟨_, _, rfl, h⟩
  · exact h.elim
theorem cu_min (hc : X.calm = true) : CallR X (.builtin "min") uMin2 := CallRi (call_min2 hc) fun xs H Q h => by
  unfold uMin2 at h
  split at h
  · exact ⟨_, _, rfl, h⟩
  · exact h.elim
theorem cu_str : CallR X (.type "str") uStr := CallRi call_str_int fun xs H Q h => by
  unfold uStr at h
  split at h
  · exact ⟨_, rfl, h⟩
  · exact h.elim
end
/-! ### kinds of values -/
inductive Ty | non | bl | int | str | lst | tup | dct
  deriving DecidableEq
def Ty.nm : Ty → String | .non => "NoneType" | .bl => "bool" | .int => "int" | .str => "str" | .lst => "list" | .tup => "tuple" | .dct => "dict"
def tyO : HO → Option Ty
  | .lst _ => some .lst
  | .tup _ => some .tup
  | .dK _ => some .dct
  | .dT _ => some .dct
  | .frz _ (.lst _) => some .lst
  | .frz _ (.tup _) => some .tup
  | _ => none
def tyOf (H : Hp) : V → Option Ty
  | .non => some .non | .bl _ => some .bl | .int _ => some .int | .str _ => some .str
  | .ref a => (H a).bind tyO
  | _ => none
theorem tyOf_x {K : PySem.W.Frag} {H : Hp} {v : V} {t : Ty} (h : tyOf H v = some t) : TyX K H v (.type t.nm) := by
  cases v with
  | non => cases h; exact .base .non
  | bl b => cases h; exact .base (.bl b)
  | int i => cases h; exact .base (.int i)
  | str x => cases h; exact .base (.str x)
  | byt b => cases h
  | flt b => cases h
  | ty n => cases h
  | ref a =>
    have h : (H a).bind tyO = some t := h
    cases e : H a with
    | none => rw [e] at h; cases h
    | some o =>
      rw [e] at h
      have h : tyO o = some t := h
      unfold tyO at h
      split at h <;> first | (cases h; done) | (cases h; first | exact .base (.lst e) | exact .base (.tup e) | exact .base (.dK e) | exact .base (.dT e) | exact .base (.frz e) | exact .fTuple e)
/-- is a thing of the one kind a thing of the other -/
def isT (t c : Ty) : Bool := decide (t = c) || (decide (t = .bl) && decide (c = .int))
theorem isT_kit (t c : Ty) : kitB t.nm c.nm = some (isT t c) := by cases t <;> cases c <;> decide +kernel
def uIsi (c : Ty) (te : TE) : TE := fun σ H Q => te σ H fun x H1 => oK (tyOf H1 x) fun t => Q (.bl (isT t c)) H1
def rIsiC (c : Ty) : List V → Hp → VK → Prop := fun xs H Q => match xs with
  | [x, y] => y = .ty c.nm ∧ oK (tyOf H x) fun t => Q (.bl (isT t c)) H
  | _ => False
def uIsiT (cs : List Ty) : List V → Hp → VK → Prop := fun xs H Q => match xs with
  | [x, .ref p] => H p = some (.tup (cs.map fun c => .ty c.nm)) ∧ oK (tyOf H x) fun t => Q (.bl (cs.any (isT t))) H
  | _ => False
theorem kitAny_any {K : PySem.W.Frag} (t : Ty) : ∀ cs : List Ty, PySem.W.kitAny K (.type t.nm) (cs.map fun c => Value.type c.nm) = some (cs.any (isT t))
  | [] => rfl
  | c :: cs => by
    have ih := kitAny_any (K := K) t cs
    have h1 := kit_ty (K := K) (isT_kit t c)
    rw [List.map_cons, List.any_cons]
    cases hb : isT t c with
    | true => exact kitAny_cons (h1.trans (by rw [hb])) (fun z => Bool.noConfusion z) fun _ => rfl
    | false => exact kitAny_cons (h1.trans (by rw [hb])) (fun _ => by rw [Bool.false_or]; exact ih) fun z => Bool.noConfusion z
theorem pairedCls : ∀ cs : List Ty, Paired ClsV (cs.map fun c => V.ty c.nm) (cs.map fun c => Value.type c.nm)
  | [] => .nil
  | c :: cs => .cons (.ty _) (pairedCls cs)
theorem uIsi_eq (c : Ty) (te : TE) : uIsi c te = tCB (rIsiC c) (tCons te (tCons (tC (.ty c.nm)) tNil)) := by
  funext σ H Q
  show te σ H _ = te σ H _
  congr 1; funext x H1
  show _ = (V.ty c.nm = V.ty c.nm ∧ _)
  simp
section
variable {X : Cx} {e : Expr} {te : TE} {p pos q : Pos}
theorem cu_isi (c : Ty) : CallR X (.builtin "isinstance") (rIsiC c) := CallRi call_isi fun xs H Q h => by
  unfold rIsiC at h
  split at h
  · obtain ⟨rfl, h⟩ := h
    obtain ⟨t, e, h⟩ := oK_ex h
    exact ⟨_, _, _, _, _, rfl, .ty _, tyOf_x e, kit_ty (isT_kit _ _), h⟩
  · exact h.elim
theorem cu_isiT (cs : List Ty) : CallR X (.builtin "isinstance") (uIsiT cs) := CallRi call_isiT fun xs H Q h => by
  unfold uIsiT at h
  split at h
  · obtain ⟨h1, h⟩ := h
    obtain ⟨t, e, h⟩ := oK_ex h
    exact ⟨_, _, _, _, _, _, rfl, h1, pairedCls cs, tyOf_x e, kitAny_any _ _, h⟩
  · exact h.elim
theorem pue_isi {n : Str} (c : Ty) (he : PE X e te) (hg : Gl X "isinstance") (hm : X.mg "isinstance" = none) (hn : Gl X n) (hmn : X.mg n = none) (hv : bootBuiltins n = some (.type c.nm)) (hnn : n ≠ "__name__" := by decide) (hnd : (n == ("__debug__" : Str)) = false := by decide)
    (hs1 : starEach [e, .Name n q] X.env = (false, eval e X.env) :: starEach [.Name n q] X.env := by rfl) (hs2 : starEach [.Name n q] X.env = (false, eval (.Name n q) X.env) :: starEach [] X.env := by rfl) (hs3 : ((backTo pos (starEach [.Name n q] X.env)).any fun x => x.fst) = false := by rfl) :
    PE X (.Call (.Name "isinstance" p) [e, .Name n q] [] pos) (uIsi c te) := by
  rw [uIsi_eq]
  have h2 : PE X (.Name n q) (tC (.ty c.nm)) := pe_bltn hn hmn hv rfl hnn hnd
  exact pe_callB (cu_isi c) hg hm (by decide +kernel) (pa_cons he (pa_cons h2 pa_nil hs2) hs1) (by decide) (by decide) hs1 hs3
end

/-! ### loops -/
def chars (z : Str) : List V := z.cps.toList.map fun c => V.str ⟨#[c]⟩
/-- what a walk over a value gives -/
def items (K : PySem.W.Frag) (H : Hp) : V → Option (List V)
  | .str z => some (chars z)
  | .ref a => rdS K H a
  | _ => none
/-- the walk over x at H1 -/
def goIt (K : PySem.W.Frag) (x : V) (H1 : Hp) (R : It → Hp → Prop) : Prop := match x with
  | .str z => R (Its z) H1
  | .ref a => (match rdL K H1 a with
    | some _ => R (Itl K a) H1
    | none => (match rdT K H1 a with
      | some _ => R (Itt K a) H1
      | none => False))
  | _ => False
def uIter (K : PySem.W.Frag) (te : TE) : TI := fun σ H R => te σ H fun x H1 => goIt K x H1 R
theorem piu {X : Cx} {tg e : Expr} {te : TE} (he : PE X e te) : PI X tg e (uIter X.K te) := by
  refine ⟨fun pins s σ H R I h => ?_⟩
  refine thn (he.run pins s σ H _ I h) fun v s1 ⟨y, H1, I1, r1, q⟩ => ?_
  dsimp only at q
  unfold goIt at q
  split at q
  · rename_i x
    obtain ⟨t, rfl⟩ := r1
    cases ha : x.cps.all (· < 128)
    · exact wpAny_pyIter_wide ha (pi_one (tk := s1.toks) I1 _ (turn_str _ x t "str_iterator" (.inr rfl)) ⟨_, Heap.get?_push_size _ rfl, rfl, rfl⟩ q)
    · exact wpAny_pyIter_ascii ha (pi_one (tk := s1.toks) I1 _ (turn_str _ x t "str_ascii_iterator" (.inl rfl)) ⟨_, Heap.get?_push_size _ rfl, rfl, rfl⟩ q)
  · rename_i a
    split at q
    · rename_i xs hx
      have hq := rdL_sq hx
      cases r1
      obtain ⟨its, rv, p, hz⟩ := I1.list hq
      refine wpAny_pyIter_list p.isList ?_
      refine ⟨s1.heap.objs.size, [s1.heap.objs.size], _, _, H1, rfl, I1.kept (t' := s1.toks) fun b o e => Heap.get?_push_of_some _ e, turn_list a _, ⟨_, Heap.get?_push_size _ rfl, rfl, rfl⟩, fun b hb => ?_, q⟩
      have e : b = s1.heap.objs.size := by simpa using hb
      subst e
      exact I1.fpOk (Nat.le_refl _) (I1.hok.fresh (Nat.le_refl _))
    · split at q
      · rename_i xs hx
        have hq := rdT_sq hx
        cases r1
        obtain ⟨its, rv, p, hz⟩ := I1.tuple hq
        refine wpAny_pyIter_tuple (show s1.heap.IsTuple a its.toArray from p) ?_
        refine ⟨s1.heap.objs.size, [s1.heap.objs.size], _, _, H1, rfl, I1.kept (t' := s1.toks) fun b o e => Heap.get?_push_of_some _ e, turn_tuple a _, ⟨_, Heap.get?_push_size _ rfl, rfl, rfl⟩, fun b hb => ?_, q⟩
        have e : b = s1.heap.objs.size := by simpa using hb
        subst e
        exact I1.fpOk (Nat.le_refl _) (I1.hok.fresh (Nat.le_refl _))
      · exact q.elim
  · exact q.elim
theorem walk_chars {z : Str} : Walk (Its z) (chars z).length (fun _ => True) (YAt (chars z)) := by
  have hl : (chars z).length = z.cps.size := by unfold chars; simp
  rw [hl]
  refine ⟨fun _ _ hi _ => hi, fun _ _ => Nat.le_refl _, fun i H v H' hi _ y => ?_⟩
  obtain ⟨e, c, hc, rfl⟩ := y
  refine ⟨e, ?_⟩
  unfold chars
  rw [List.getElem?_map, Array.getElem?_toList, hc]
  rfl
/-- what is walked: the value, its items, what must stay -/
inductive Src (K : PySem.W.Frag) : V → It → List V → (Hp → Prop) → Prop
  | str (z : Str) : Src K (.str z) (Its z) (chars z) (fun _ => True)
  | lst (a : Addr) (xs : List V) : Src K (.ref a) (Itl K a) xs (fun H => rdL K H a = some xs)
  | tup (a : Addr) (xs : List V) : Src K (.ref a) (Itt K a) xs (fun H => rdL K H a = none ∧ rdT K H a = some xs)
theorem Src.walk {K : PySem.W.Frag} {x : V} {J : It} {xs : List V} {G : Hp → Prop} (S : Src K x J xs G) : Walk J xs.length G (YAt xs) := by
  cases S with
  | str z => exact walk_chars
  | lst a => exact walk_list.mono (fun _ g => rdL_sq g) fun _ _ _ _ _ _ y => y
  | tup a => exact walk_tup.mono (fun _ g => rdT_sq g.2) fun _ _ _ _ _ _ y => y
theorem Src.go {K : PySem.W.Frag} {x : V} {J : It} {xs : List V} {G : Hp → Prop} (S : Src K x J xs G) {H1 : Hp} (g : G H1) {R : It → Hp → Prop} (h : R J H1) : goIt K x H1 R := by
  cases S with
  | str z => exact h
  | lst a => show match rdL K H1 a with | some _ => _ | none => _; rw [show rdL K H1 a = some xs from g]; exact h
  | tup a =>
    show match rdL K H1 a with | some _ => _ | none => _
    rw [g.1]
    show match rdT K H1 a with | some _ => _ | none => _
    rw [g.2]; exact h
theorem for_src {K : PySem.W.Frag} {x : V} {J : It} {xs : List V} {G : Hp → Prop} (S : Src K x J xs G) {g : TG} {tb : TS} {D : Ends} {σ : St} {H : Hp} (hG : G H) (Pv : Nat → St → Hp → Prop) (h0 : Pv 0 σ H) (hst : ∀ i σ H, i ≤ xs.length → Pv i σ H → G H)
    (hs : ∀ i y σ H, xs[i]? = some y → Pv i σ H → g y σ H fun σ2 H2 => tb { D with nx := Pv (i + 1), ct := Pv (i + 1), bk := D.nx } σ2 H2) (hd : ∀ σ H, Pv xs.length σ H → D.nx σ H) :
    goIt K x H fun J H1 => ∃ W : Nat → Nat → St → Hp → Prop, (∃ m, W 0 m σ H1) ∧ ∀ i m σ H, W i m σ H →
      (J.stop i H ∧ D.nx σ H) ∨ (J.go i H ∧ ∃ N : St → Hp → Prop, (∀ σ' H', N σ' H' → ∃ m', m' < m ∧ W (i + 1) m' σ' H') ∧ ∀ x H', J.yld i H x H' → g x σ H' fun σ2 H2 => tb { D with nx := N, ct := N, bk := D.nx } σ2 H2) :=
  S.go hG (for_it S.walk Pv h0 hst (fun i y σ H H' hi p q => by obtain ⟨e, hy⟩ := q; subst e; exact hs i y σ _ hy p) hd)
/-- a comprehension over it -/
theorem lc_src {K : PySem.W.Frag} {x : V} {J : It} {xs : List V} {G : Hp → Prop} (S : Src K x J xs G) {g : TG} {tt : TT} {te : TE} {vs : List Nat} {σ : St} {H1 : Hp} {Q : VK} (hG : G H1) (Pv : Addr → Nat → Hp → Prop)
    (h0 : ∀ D, H1 D = none → Pv D 0 (upd H1 D (.lst []))) (hst : ∀ D i H, i ≤ xs.length → Pv D i H → G H)
    (hs : ∀ D i y H, xs[i]? = some y → Pv D i H → g y (wipe σ vs) H fun σ2 H2 => wipe σ2 vs = wipe σ vs ∧ tt σ2 H2 fun b H3 =>
      if b = true then te σ2 H3 fun y H4 => ∃ acc, H4 D = some (.lst acc) ∧ acc.length < sizeLine ∧ Pv D (i + 1) (upd H4 D (.lst (acc ++ [y]))) else Pv D (i + 1) H3) (hd : ∀ D H, H1 D = none → Pv D xs.length H → Q (.ref D) H) :
    goIt K x H1 fun J H1 => ∀ D, H1 D = none → ∃ W : Nat → Nat → Hp → Prop, (∃ m, W 0 m (upd H1 D (.lst []))) ∧ ∀ i m H, W i m H →
      (J.stop i H ∧ Q (.ref D) H) ∨ (J.go i H ∧ ∃ Nx : Hp → Prop, (∀ H', Nx H' → ∃ m', m' < m ∧ W (i + 1) m' H') ∧ ∀ x H', J.yld i H x H' → g x (wipe σ vs) H' fun σ2 H2 => wipe σ2 vs = wipe σ vs ∧ tt σ2 H2 fun b H3 =>
        if b = true then te σ2 H3 fun y H4 => ∃ acc, H4 D = some (.lst acc) ∧ acc.length < sizeLine ∧ Nx (upd H4 D (.lst (acc ++ [y]))) else Nx H3) :=
  S.go hG fun D hD => lc_it S.walk (Pv D) (h0 D hD) (hst D) (fun i y H H' hi p q => by obtain ⟨e, hy⟩ := q; subst e; exact hs D i y _ hy p) fun H p => hd D H hD p
/-- .. whose items are flat: f x where c x -/
theorem take_map {α : Type} {c : V → Bool} {f : V → α} {xs : List V} {i : Nat} {y : V} (h : xs[i]? = some y) :
    (((xs.take (i + 1)).filter c).map f) = ((xs.take i).filter c).map f ++ (if c y then [f y] else []) := by
  rw [List.take_add_one, h, List.filter_append, List.map_append]
  show _ ++ List.map f (List.filter c [y]) = _
  rw [List.filter_cons]
  cases hc : c y <;> simp
theorem lc_flat {K : PySem.W.Frag} {x : V} {J : It} {xs : List V} {G : Hp → Prop} (S : Src K x J xs G) {j : Nat} {tt : TT} {te : TE} {vs : List Nat} {σ : St} {H1 : Hp} {Q : VK} (hG : G H1) (hGx : ∀ H', Ex H1 H' → G H') (c : V → Bool) (f : V → V) (hz : xs.length < sizeLine)
    (hw : ∀ y, wipe ((wipe σ vs).set j (some y)) vs = wipe σ vs)
    (ht : ∀ (i : Nat) y H', xs[i]? = some y → Ex H1 H' → ∀ R : Bool → Hp → Prop, (∀ H2, Ex H' H2 → R (c y) H2) → tt ((wipe σ vs).set j (some y)) H' R)
    (he : ∀ (i : Nat) y H', xs[i]? = some y → c y = true → Ex H1 H' → ∀ R : VK, (∀ H2, Ex H' H2 → R (f y) H2) → te ((wipe σ vs).set j (some y)) H' R)
    (hd : ∀ D H, H1 D = none → Ex H1 H → H D = some (.lst ((xs.filter c).map f)) → Q (.ref D) H) :
    goIt K x H1 fun J H1 => ∀ D, H1 D = none → ∃ W : Nat → Nat → Hp → Prop, (∃ m, W 0 m (upd H1 D (.lst []))) ∧ ∀ i m H, W i m H →
      (J.stop i H ∧ Q (.ref D) H) ∨ (J.go i H ∧ ∃ Nx : Hp → Prop, (∀ H', Nx H' → ∃ m', m' < m ∧ W (i + 1) m' H') ∧ ∀ x H', J.yld i H x H' → gName j x (wipe σ vs) H' fun σ2 H2 => wipe σ2 vs = wipe σ vs ∧ tt σ2 H2 fun b H3 =>
        if b = true then te σ2 H3 fun y H4 => ∃ acc, H4 D = some (.lst acc) ∧ acc.length < sizeLine ∧ Nx (upd H4 D (.lst (acc ++ [y]))) else Nx H3) := by
  refine lc_src S hG (fun D i H => H1 D = none ∧ Ex H1 H ∧ H D = some (.lst (((xs.take i).filter c).map f))) (fun D hD => ⟨hD, Ex.new hD, upd_same⟩) (fun D i H _ p => hGx H p.2.1) ?_ ?_
  · intro D i y H hy ⟨hD, e, hl⟩
    have hi : i < xs.length := (List.getElem?_eq_some_iff.mp hy).1
    refine ⟨hw y, ht i y H hy e _ fun H3 e3 => ?_⟩
    have tm := take_map (c := c) (f := f) hy
    cases hc : c y with
    | false =>
      rw [hc] at tm
      rw [if_neg (by decide)]
      refine ⟨hD, e.trans e3, ?_⟩
      rw [tm]; simp only [Bool.false_eq_true, if_false, List.append_nil]; exact e3 D _ hl
    | true =>
      rw [hc] at tm
      rw [if_pos rfl]
      refine he i y H3 hy hc (e.trans e3) _ fun H4 e4 => ⟨_, e4 D _ (e3 D _ hl), ?_, hD, Ex.mut ((e.trans e3).trans e4) hD, ?_⟩
      · rw [List.length_map]
        have := List.length_filter_le c (xs.take i)
        rw [List.length_take] at this
        omega
      · rw [tm]; simp only [if_true]; exact upd_same
  · intro D H hD ⟨_, e, hl⟩
    rw [List.take_length] at hl
    exact hd D H hD e hl

/-! ### further builtins -/
def uAll (K : PySem.W.Frag) : List V → Hp → VK → Prop := fun xs H Q => match xs with
  | [.ref a] => oK (rdL K H a) fun ys => ∃ bs : List Bool, ys = bs.map V.bl ∧ Q (.bl (bs.all id)) H
  | _ => False
def uAny (K : PySem.W.Frag) : List V → Hp → VK → Prop := fun xs H Q => match xs with
  | [.ref a] => oK (rdL K H a) fun ys => ∃ bs : List Bool, ys = bs.map V.bl ∧ Q (.bl (bs.any id)) H
  | _ => False
def uList (K : PySem.W.Frag) : List V → Hp → VK → Prop := fun xs H Q => match xs with
  | [.ref a] => oS K H a fun ys => ∀ l, H l = none → Q (.ref l) (upd H l (.lst ys))
  | _ => False
def uTuple (K : PySem.W.Frag) : List V → Hp → VK → Prop := fun xs H Q => match xs with
  | [.ref a] => (match rdL K H a with
    | some ys => ∀ l, H l = none → Q (.ref l) (upd H l (.tup ys))
    | none => (match rdT K H a with
      | some _ => Q (.ref a) H
      | none => False))
  | _ => False
def uJoin (K : PySem.W.Frag) : V → List V → Hp → VK → Prop := fun x xs H Q => match x, xs with
  | .str a, [.ref p] => oS K H p fun vs => ∃ ys : List Str, vs = ys.map V.str ∧ (ys.map (·.length)).sum + ys.length * a.length ≤ 16777216 ∧ Q (.str (Txt.join a ys)) H
  | _, _ => False
/-- a list that may be changed -/
def mutL (H : Hp) (l : Addr) : Option (List V) := match H l with
  | some (.lst xs) => some xs
  | _ => none
theorem mutL_of {H : Hp} {l : Addr} {xs : List V} (h : H l = some (.lst xs)) : mutL H l = some xs := by unfold mutL; rw [h]
theorem of_mutL {H : Hp} {l : Addr} {xs : List V} (h : mutL H l = some xs) : H l = some (.lst xs) := by
  unfold mutL at h
  split at h
  · cases h; assumption
  · cases h
def uAppend : V → List V → Hp → VK → Prop := fun x vs H Q => match x, vs with
  | .ref l, [y] => oK (mutL H l) fun xs => xs.length < sizeLine ∧ Q .non (upd H l (.lst (xs ++ [y])))
  | _, _ => False
def uSetL : V → V → V → Hp → (Hp → Prop) → Prop := fun o i v H Q => match o, i with
  | .ref p, .int k => oK (mutL H p) fun xs => oK (ixN xs.length k) fun j => Q (upd H p (.lst (xs.set j v)))
  | _, _ => False
def tPar2 (i j : Nat) (ta : TA) : TS := fun D σ H => ta σ H fun vs H1 => match vs with
  | [v, w] => D.nx ((σ.set i (some v)).set j (some w)) H1
  | _ => False
def uNeg : V → Hp → VK → Prop := fun x H Q => match x with
  | .int i => Q (.int (-i)) H
  | _ => False
section
variable {X : Cx}
theorem cu_all (hc : X.calm = true) : CallR X (.builtin "all") (uAll X.K) := CallRi (cr_all hc) fun xs H Q h => by
  unfold uAll at h
  split at h
  · obtain ⟨ys, e, bs, rfl, h⟩ := oK_ex h
    exact ⟨_, bs, rfl, rdL_sq e, h⟩
  · exact h.elim
theorem cu_any (hc : X.calm = true) : CallR X (.builtin "any") (uAny X.K) := CallRi (cr_any hc) fun xs H Q h => by
  unfold uAny at h
  split at h
  · obtain ⟨ys, e, bs, rfl, h⟩ := oK_ex h
    exact ⟨_, bs, rfl, rdL_sq e, h⟩
  · exact h.elim
theorem cu_list : CallR X (.type "list") (uList X.K) := CallRi call_list_of fun xs H Q h => by
  unfold uList at h
  split at h
  · obtain ⟨ys, e, h⟩ := h
    exact ⟨_, _, rfl, e, h⟩
  · exact h.elim
theorem cu_tuple : CallR X (.type "tuple") (uTuple X.K) := CallRi call_tuple_of fun xs H Q h => by
  unfold uTuple at h
  split at h
  · split at h
    · exact ⟨_, _, rfl, .inl ⟨rdL_sq (by assumption), h⟩⟩
    · split at h
      · exact ⟨_, _, rfl, .inr ⟨rdT_sq (by assumption), h⟩⟩
      · exact h.elim
  · exact h.elim
theorem mu_join : MtR X "str.join" (uJoin X.K) := MtRi mt_join fun x xs H Q h => by
  unfold uJoin at h
  split at h
  · obtain ⟨vs, e, ys, rfl, h1, h2⟩ := h
    exact ⟨_, _, ys, rfl, rfl, e, h1, h2⟩
  · exact h.elim
theorem mu_append : MtR X "list.append" uAppend := MtRi (r := rAppend) mt_append fun x xs H Q h => by
  unfold uAppend at h
  split at h
  · obtain ⟨xs, e, h1, h2⟩ := oK_ex h
    exact ⟨_, _, _, rfl, rfl, of_mutL e, h1, h2⟩
  · exact h.elim
theorem setu : PSet X uSetL := fun pins s σ H o i v ov iv u Q I ro ri rv h => set_list pins s σ H o i v ov iv u Q I ro ri rv (by
  unfold uSetL at h
  split at h
  · obtain ⟨xs, e, h⟩ := oK_ex h
    obtain ⟨j, e2, h⟩ := oK_ex h
    exact ⟨_, _, _, _, rfl, rfl, of_mutL e, e2, h⟩
  · exact h.elim)
theorem tPar2_eq (i j : Nat) (ta : TA) : tPar2 i j ta = tPar i j ta := by
  funext D σ H
  unfold tPar2 tPar
  congr 1; funext vs H1
  match vs with
  | [] => simp
  | [_] => simp
  | [v, w] => exact propext ⟨fun h => ⟨v, w, rfl, h⟩, fun ⟨_, _, e, h⟩ => by cases e; exact h⟩
  | _ :: _ :: _ :: _ => simp
theorem pus_par {i j : Nat} {x y : Str} {a b : Expr} {ta : TA} {px py pt pos : Pos} {kt k2 pt2} (hc : X.calm = true) (hN : X.N.Nodup) (hi : X.N[i]? = some x) (hj : X.N[j]? = some y) (hij : i ≠ j)
    (hx : X.env.scope.names.lookup x = some .local) (hy : X.env.scope.names.lookup y = some .local) (ha : PA X [a, b] ta)
    (hw : swappedStores [.Tuple [.Name x px, .Name y py] kt pt] (.Tuple [a, b] k2 pt2) X.env = pure (some [x, y]))
    (hs : swapsWithSole [.Tuple [.Name x px, .Name y py] kt pt] (.Tuple [a, b] k2 pt2) pos.line X.env = pure false := by rfl) :
    PS X (.Assign [.Tuple [.Name x px, .Name y py] kt pt] (.Tuple [a, b] k2 pt2) pos) (tPar2 i j ta) := by
  rw [tPar2_eq]; exact ps_par hc hN hi hj hij hx hy ha hw hs
theorem ou_neg : UnR X (unaryOp .USub) uNeg := fun pins s σ H x v Q I r h => un_neg pins s σ H x v Q I r (by
  unfold uNeg at h
  split at h
  · exact ⟨_, rfl, h⟩
  · exact h.elim)
end

/-! ### loops and comprehensions, the walked thing evaluated -/
section
variable {K : PySem.W.Frag} {x : V} {J : It} {xs : List V} {G : Hp → Prop} {tx : TE} {σ : St} {H H1 : Hp}
theorem lcf (S : Src K x J xs G) {j : Nat} {tt : TT} {te : TE} {vs : List Nat} {Q : VK} (hx : ∀ R : VK, R x H1 → tx σ H R) (hG : G H1) (hGx : ∀ H', Ex H1 H' → G H') (c : V → Bool) (f : V → V) (hz : xs.length < sizeLine)
    (hw : ∀ y, wipe ((wipe σ vs).set j (some y)) vs = wipe σ vs)
    (ht : ∀ (i : Nat) y H', xs[i]? = some y → Ex H1 H' → ∀ R : Bool → Hp → Prop, (∀ H2, Ex H' H2 → R (c y) H2) → tt ((wipe σ vs).set j (some y)) H' R)
    (he : ∀ (i : Nat) y H', xs[i]? = some y → c y = true → Ex H1 H' → ∀ R : VK, (∀ H2, Ex H' H2 → R (f y) H2) → te ((wipe σ vs).set j (some y)) H' R)
    (hd : ∀ D H, H1 D = none → Ex H1 H → H D = some (.lst ((xs.filter c).map f)) → Q (.ref D) H) :
    tLc (uIter K tx) (gName j) tt te vs σ H Q := hx _ (lc_flat S hG hGx c f hz hw ht he hd)
theorem lcs (S : Src K x J xs G) {g : TG} {tt : TT} {te : TE} {vs : List Nat} {Q : VK} (hx : ∀ R : VK, R x H1 → tx σ H R) (hG : G H1) (Pv : Addr → Nat → Hp → Prop)
    (h0 : ∀ D, H1 D = none → Pv D 0 (upd H1 D (.lst []))) (hst : ∀ D i H, i ≤ xs.length → Pv D i H → G H)
    (hs : ∀ D i y H, xs[i]? = some y → Pv D i H → g y (wipe σ vs) H fun σ2 H2 => wipe σ2 vs = wipe σ vs ∧ tt σ2 H2 fun b H3 =>
      bB b (te σ2 H3 fun y H4 => ∃ acc, H4 D = some (.lst acc) ∧ acc.length < sizeLine ∧ Pv D (i + 1) (upd H4 D (.lst (acc ++ [y])))) (Pv D (i + 1) H3)) (hd : ∀ D H, H1 D = none → Pv D xs.length H → Q (.ref D) H) :
    tLc (uIter K tx) g tt te vs σ H Q := hx _ (lc_src S hG Pv h0 hst (by simp only [bB_if] at hs; exact hs) hd)
theorem fors (S : Src K x J xs G) {g : TG} {tb : TS} {D : Ends} (hx : ∀ R : VK, R x H1 → tx σ H R) (hG : G H1) (Pv : Nat → St → Hp → Prop) (h0 : Pv 0 σ H1) (hst : ∀ i σ H, i ≤ xs.length → Pv i σ H → G H)
    (hs : ∀ i y σ H, xs[i]? = some y → Pv i σ H → g y σ H fun σ2 H2 => tb { D with nx := Pv (i + 1), ct := Pv (i + 1), bk := D.nx } σ2 H2) (hd : ∀ σ H, Pv xs.length σ H → D.nx σ H) :
    tFor (uIter K tx) g tb D σ H := hx _ (for_src S hG Pv h0 hst hs hd)
end
/-- for over range(n) -/
theorem forr {ta : TA} {j : Nat} {tb : TS} {D : Ends} {σ : St} {H H1 : Hp} {n : Int} (hx : ∀ R : List V → Hp → Prop, R [.int n] H1 → ta σ H R) (hn : n < 2 ^ 62) (hn0 : -(2 ^ 62) ≤ n) (Pv : Nat → St → Hp → Prop) (h0 : Pv 0 σ H1)
    (hs : ∀ (i : Nat) σ H, (i : Int) < n → Pv i σ H → tb { D with nx := Pv (i + 1), ct := Pv (i + 1), bk := D.nx } (σ.set j (some (.int (i : Int)))) H) (hd : ∀ σ H, Pv n.toNat σ H → D.nx σ H) :
    tFor (iRng1 ta) (gName j) tb D σ H := hx _ ⟨n, rfl, hn0, hn, for_it walk_range Pv h0 (fun _ _ _ _ _ => trivial) (fun i y σ H H' hi p q => by
      obtain ⟨e, ey⟩ := q
      subst e; subst ey
      have e0 : (0 : Int) + (i : Int) = (i : Int) := Int.zero_add _
      show tb _ (σ.set j (some (.int ((0 : Int) + (i : Int))))) _
      rw [e0]
      exact hs i σ _ (by omega) p) hd⟩
/-- [e for k in range(n)] -/
theorem lcr {ta : TA} {j : Nat} {tt : TT} {te : TE} {vs : List Nat} {σ : St} {H H1 : Hp} {Q : VK} {n : Int} (hx : ∀ R : List V → Hp → Prop, R [.int n] H1 → ta σ H R) (hn : n < 2 ^ 62) (hn0 : -(2 ^ 62) ≤ n) (Pv : Addr → Nat → Hp → Prop)
    (h0 : ∀ D, H1 D = none → Pv D 0 (upd H1 D (.lst [])))
    (hw : ∀ y, wipe ((wipe σ vs).set j (some y)) vs = wipe σ vs)
    (hs : ∀ D (i : Nat) H, (i : Int) < n → Pv D i H → tt ((wipe σ vs).set j (some (.int (i : Int)))) H fun b H3 =>
      bB b (te ((wipe σ vs).set j (some (.int (i : Int)))) H3 fun y H4 => ∃ acc, H4 D = some (.lst acc) ∧ acc.length < sizeLine ∧ Pv D (i + 1) (upd H4 D (.lst (acc ++ [y])))) (Pv D (i + 1) H3)) (hd : ∀ D H, H1 D = none → Pv D n.toNat H → Q (.ref D) H) :
    tLc (iRng1 ta) (gName j) tt te vs σ H Q := hx _ ⟨n, rfl, hn0, hn, fun D hD => lc_it walk_range (Pv D) (h0 D hD) (fun _ _ _ _ => trivial) (fun i y H H' hi p q => by
      obtain ⟨e, ey⟩ := q
      subst e; subst ey
      have e0 : (0 : Int) + (i : Int) = (i : Int) := Int.zero_add _
      dsimp only
      rw [e0]
      simp only [bB_if] at hs
      exact ⟨hw _, hs D i _ (by omega) p⟩) fun H p => hd D H hD p⟩

/-! ### texts -/
abbrev sl (z : Str) : List Nat := z.cps.toList
theorem sl_inj {a b : Str} (h : sl a = sl b) : a = b := by
  obtain ⟨⟨l⟩⟩ := a
  obtain ⟨⟨m⟩⟩ := b
  have h : l = m := h
  subst h; rfl
theorem sl_len (z : Str) : z.length = (sl z).length := rfl
theorem sl_app (a b : Str) : sl (a ++ b) = sl a ++ sl b := TL.tl_append a b
theorem slen_app (a b : Str) : (a ++ b).length = a.length + b.length := by rw [sl_len, sl_app, List.length_append]; rfl
theorem sl_cut (z : Str) (lo hi : Option Int) : sl (cutS z lo hi) = ((sl z).drop (HT.sIx z.length 0 lo)).take (HT.sIx z.length z.length hi - HT.sIx z.length 0 lo) := rfl
theorem slen_cut (z : Str) (lo hi : Option Int) : (cutS z lo hi).length ≤ z.length := by
  rw [sl_len, sl_cut, List.length_take, List.length_drop, sl_len]
  omega
theorem sl_join (y : Str) (ps : List Str) : sl (Txt.join y ps) = TL.joinL (sl y) (ps.map sl) := by
  rw [TL.join_eq]; exact TL.tl_join y ps
theorem joinL_nil : ∀ ps : List (List Nat), TL.joinL [] ps = ps.flatten
  | [] => rfl
  | [p] => by simp [TL.joinL]
  | p :: q :: r => by
    show p ++ ([] ++ TL.joinL [] (q :: r)) = _
    rw [joinL_nil (q :: r)]; simp
theorem slen_join0 (ps : List Str) : (Txt.join "" ps).length = (ps.map (·.length)).sum := by
  rw [sl_len, sl_join]
  show (TL.joinL [] _).length = _
  rw [joinL_nil, List.length_flatten, List.map_map]
  rfl
/-- small sizes -/
theorem szl {n : Nat} (h : n ≤ 100000) : n ≤ sizeLine := Nat.le_trans h (by decide)
theorem szt {n : Nat} (h : n < 100000) : n < sizeLine := Nat.lt_of_lt_of_le h (by decide)
/-- an item of a list at a drawn place -/
theorem pick {α : Type} {xs : List α} {r : Int} (h0 : 0 ≤ r) (h1 : r < xs.length) : ∃ v, atI xs r = some v ∧ v ∈ xs := by
  have hj : r.toNat < xs.length := by omega
  refine ⟨xs[r.toNat], ?_, List.getElem_mem hj⟩
  unfold atI ixN
  rw [if_pos h0, if_pos h1]
  simp [hj]

/-! ### the script -/
def ScriptAt (K : PySem.W.Frag) (H : Hp) (a : Addr) (ns : List Int) : Prop :=
  (∃ o, H a = some (.frz o (.lst (ns.map V.int)))) ∨
    ∃ (o : Obj) (its : Array Value) (n : Nat), K.lookup a = some o ∧ o.cls = .type "list" ∧ o.dict = none ∧ o.data = .seq its n ∧ its.size ≤ sizeLine ∧ Vals (ns.map V.int) its.toList
theorem script_of {K : PySem.W.Frag} {H : Hp} {a : Addr} {ns : List Int} (hO : Only H) (hS : SqL K H a (ns.map V.int)) : ScriptAt K H a ns := by
  rcases hS with (h | ⟨o, h⟩) | h
  · rcases hO a with z | ⟨o, xs, z⟩
    · rw [h] at z; cases z
    · rw [h] at z; cases z
  · exact .inl ⟨o, h⟩
  · exact .inr h
theorem ScriptAt.sq {K : PySem.W.Frag} {H : Hp} {a : Addr} {ns : List Int} (h : ScriptAt K H a ns) : SqL K H a (ns.map V.int) := by
  rcases h with ⟨o, h⟩ | h
  · exact .inl (.inr ⟨o, h⟩)
  · exact .inr h
theorem ScriptAt.ex {K : PySem.W.Frag} {H H' : Hp} {a : Addr} {ns : List Int} (h : ScriptAt K H a ns) (e : Ex H H') : ScriptAt K H' a ns := by
  rcases h with ⟨o, h⟩ | h
  · exact .inl ⟨o, e _ _ h⟩
  · exact .inr h
theorem ScriptAt.fr {K : PySem.W.Frag} {H H' : Hp} {a b : Addr} {ns : List Int} {xs : List V} (h : ScriptAt K H a ns) (e : Fr b H H') (hb : H b = some (.lst xs)) : ScriptAt K H' a ns := by
  rcases h with ⟨o, h⟩ | h
  · exact .inl ⟨o, e _ _ h (ne_of h hb (by intro z; cases z))⟩
  · exact .inr h
/-- data of flat things -/
theorem dpAll_str {K : PySem.W.Frag} {H : Hp} : ∀ zs : List Str, DpAll K H (zs.map V.str) (zs.map PyData.str)
  | [] => .nil
  | z :: zs => .cons (.str z) (dpAll_str zs)
/-- all signs are code points -/
def sok (z : Str) : Prop := ∀ c ∈ sl z, c < 1114112
theorem sok_ok {z : Str} (h : sok z) : PyData.strOk z = true := by
  unfold PyData.strOk
  rw [← Array.all_toList, List.all_eq_true]
  intro c hc
  exact decide_eq_true (h c hc)
instance (z : Str) : Decidable (sok z) := inferInstanceAs (Decidable (∀ c ∈ sl z, c < 1114112))
theorem sok_app {a b : Str} (ha : sok a) (hb : sok b) : sok (a ++ b) := fun c hc => by
  rw [sl_app, List.mem_append] at hc
  exact hc.elim (ha c) (hb c)
theorem sok_cut {z : Str} (h : sok z) (lo hi : Option Int) : sok (cutS z lo hi) := fun c hc => h c (by
  rw [sl_cut] at hc
  exact List.mem_of_mem_drop (List.mem_of_mem_take hc))
theorem sok_one {c : Nat} (h : c < 1114112) : sok ⟨#[c]⟩ := fun d hd => by
  have : d = c := by simpa [sl] using hd
  omega
theorem sok_join0 {ps : List Str} (h : ∀ p ∈ ps, sok p) : sok (Txt.join "" ps) := fun c hc => by
  rw [sl_join] at hc
  have hc : c ∈ TL.joinL [] (ps.map sl) := hc
  rw [joinL_nil, List.mem_flatten] at hc
  obtain ⟨l, hl, hc⟩ := hc
  obtain ⟨p, hp, rfl⟩ := List.mem_map.mp hl
  exact h p hp c hc
theorem canLay_strs : ∀ zs : List Str, (∀ z ∈ zs, sok z) → PyData.canLayAll0 (zs.map PyData.str) = true
  | [], _ => rfl
  | z :: zs, h => by
    show (PyData.canLay0 (.str z) && PyData.canLayAll0 (zs.map PyData.str)) = true
    rw [canLay_strs zs fun y hy => h y (List.mem_cons_of_mem _ hy)]
    simp only [PyData.canLay0, Bool.and_true]
    exact sok_ok (h z List.mem_cons_self)
theorem depth_strs : ∀ zs : List Str, PyData.depthAll (zs.map PyData.str) ≤ 1
  | [] => by simp [PyData.depthAll]
  | z :: zs => by
    have := depth_strs zs
    simp only [List.map_cons, PyData.depthAll, PyData.depth]
    omega
theorem shaped_strs (zs : List Str) (h : ∀ z ∈ zs, sok z) : SeqAt.shaped (.list (zs.map PyData.str)) = true := by
  unfold SeqAt.shaped
  have h1 := canLay_strs zs h
  have h2 := depth_strs zs
  simp only [PyData.canLay0, h1, Bool.true_and, decide_eq_true_eq]
  simp only [PyData.depth]
  omega
theorem eqv_nil (ds : List PyData) : PyData.eqv (.list ds) (.list []) = ds.isEmpty := by
  cases ds <;> simp [PyData.eqv, PyData.eqvAll]
end U

namespace U
open PySem PySem.Spec PyProof.Rows L2

/-! ### the base's __init__, called by the class's name -/
structure BaseC (K : PySem.W.Frag) (C0 : Addr) : Prop where
  ga : PySem.W.specialIn K (.ref C0) "__getattribute__" = some (some (.builtin "type.__getattribute__"))
  rd : ∃ mc, PySem.W.readsIn K C0 mc = true ∧ PySem.W.findCls K (.ref C0) mc "__init__" = some (.val (.builtin "ValueError.__init__"))
theorem pe_binit {X : Cx} {x : Str} {C0 : Addr} {e : Expr} {es : List Expr} {ta : TA} {p1 p2 pos : Pos} {pl : Sem Bool} (T0 : BaseC X.K C0) (hg : Gl X x) (hm : X.mg x = some (.ref C0)) (ha : PA X (e :: es) ta)
    (hc : eval (.Call (.Attribute (.Name x p1) "__init__" p2) (e :: es) [] pos) X.env = (do
      let ov ← eval (.Name x p1) X.env
      standAt p2.atName
      let (f, first) ← holding [ov] (getMethod ov "__init__" pl)
      callWith pos f first (backTo pos (starEach (e :: es) X.env)) (backToKw pos (keywordEach [] X.env))) := by rfl)
    (hdb : (x == ("__debug__" : Str)) = false := by decide) (he : starEach (e :: es) X.env = (false, eval e X.env) :: starEach es X.env := by rfl) (hpl : (backTo pos (starEach es X.env)).any (·.1) = false := by rfl) :
    PE X (.Call (.Attribute (.Name x p1) "__init__" p2) (e :: es) [] pos) (tVeI X.K ta) := by
  obtain ⟨mc, hrd, hf⟩ := T0.rd
  constructor
  intro pins s σ H Q I h
  refine PySem.W.methodCall_KW (ld_glob I hg hm ?_ hdb) hc
  refine PySem.W.method_cls I.kIn T0.ga (PySem.W.cls_value I.kIn hrd hf (by decide +kernel) ?_)
  refine PyProof.Rows.callWith_method1 (thn (ha.run pos pins _ σ H _ (I.tok _) h) ?_) he hpl
  rintro us s1 ⟨vs, H1, I1, r1, a, C, ws, rfl, hl, T, ea, q⟩
  match us, r1 with
  | _ :: ur, .cons ra rw' =>
    cases ra
    exact oinit_ok T I1 ea (by rw [← Paired.length rw']; exact szl (by omega)) fun s' J => ⟨.non, H1, J, rfl, q⟩

/-! ### an exception with one field -/
/-- what the text says of the class x at C with one field f, its __init__ at fI -/
structure ExcC (K : PySem.W.Frag) (mg : Str → Option Value) (x f : Str) (C fI : Addr) : Prop where
  g : mg x = some (.ref C)
  o : OexC K C
  i : PySem.W.findIn K (.ref C) "__init__" = some (some (.ref fI))
  t : PySem.W.typeIn K (.ref fI) = some (.type "function")
  n : PySem.W.findIn K (.ref C) f = some none
  xf : XfC K C
  cl : PySem.W.isClsIn K C = true
/-- the promise of such an __init__ -/
def spI (C : Addr) (f : Str) : Sp := fun vs H Q _ => ∃ (a : Addr) (v : V), vs = [.ref a, v] ∧ H a = some (exo a C none) ∧ ∀ dx, H dx = none → dx ≠ a → Q .non (upd (upd H dx (exd dx [(f, v)])) a (exo a C (some dx)))
theorem len_spI {C : Addr} {f : Str} {vs : List V} {H : Hp} {Q : VK} {E : XK} (h : spI C f vs H Q E) : vs.length = 2 := by
  obtain ⟨a, v, rfl, _⟩ := h; rfl
/-- its body: Base.__init__(self, text); self.f = value -/
def tI (K : PySem.W.Frag) (f : Str) (msg : Str) : TS := tSeq (tDrop (tVeI K (tCons (uVar 0) (tCons (tC (.str msg)) tNil)))) (tOst K f (uVar 0) (uVar 1))
theorem p_init {K : PySem.W.Frag} {mg : Str → Option Value} {x f msg p0 p1 : Str} {C fI : Addr} (T : ExcC K mg x f C fI) {vs : List V} {H : Hp} {Q : VK} {E : XK} (h : spI C f vs H Q E) :
    tI K f msg { nx := fun _ H' => Q .non H', rt := Q } (start [p0, p1] vs) H := by
  obtain ⟨a, v, rfl, ha, k⟩ := h
  refine ⟨a, C, [.str msg], rfl, by show 1 ≤ 1000; decide, T.o, ha, ?_⟩
  exact ⟨a, C, rfl, T.o, T.n, .inl ⟨ha, fun dx hd hne => k dx hd hne⟩⟩
/-- a reading closed under what follows: for rules whose own continuation is to be weakened -/
def mA (t : TA) : TA := fun σ H Q => ∃ R : List V → Hp → Prop, t σ H R ∧ ∀ vs H1, R vs H1 → Q vs H1
theorem pa_m {X : Cx} {es : List Expr} {t : TA} (h : PA X es t) : PA X es (mA t) := ⟨fun pos pins s σ H Q I k => by
  obtain ⟨R, k1, k2⟩ := k
  refine wpAny_mono (h.run pos pins s σ H R I k1) (fun us s1 q => ?_) fun _ _ z => z
  obtain ⟨vs, H1, I1, r1, q1⟩ := q
  exact ⟨vs, H1, I1, r1, k2 _ _ q1⟩⟩
/-- C(e): a new exception with its field -/
def uMk (C : Addr) (f : Str) (ta : TA) : L2.St → Hp → XK → Prop := fun σ H Q => ta σ H fun vs H1 => match vs with
  | [v] => ∀ d, H1 d = none → Q (.ref C) (some d) (upd H1 d (.xd [(f, v)]))
  | _ => False
theorem mk_heap {H1 : Hp} {a dx C : Addr} {f : Str} {v : V} (ha : H1 a = none) (hne : dx ≠ a) :
    upd (del (upd (upd (upd H1 a (exo a C none)) dx (exd dx [(f, v)])) a (exo a C (some dx))) a) dx (.xd [(f, v)]) = upd H1 dx (.xd [(f, v)]) := by
  funext b
  by_cases h1 : b = dx
  · subst h1; rw [upd_same, upd_same]
  · rw [upd_ne h1, upd_ne h1]
    by_cases h2 : b = a
    · subst h2; rw [del_same, ha]
    · rw [del_ne h2, upd_ne h2, upd_ne h1, upd_ne h2]
theorem pmku {X : Cx} {CX : CXT} {x f : Str} {C fI : Addr} {k : Nat} {fd : FuncData} {ps : List Str} {e : Expr} {ta : TA} {p pos : Pos} (T : ExcC X.K X.mg x f C fI) (F1 : FnOk X.prog X.w X.K X.mg X.base CX k fI fd ps (spI C f)) (hr : Room (k + 1) X.A) (hb : Binds X.K fd ps [])
    (hx : Passes CX X (fun _ _ _ => False)) (hg : Gl X x) (ha : PA X [e] ta)
    (hdb : (x == ("__debug__" : Str)) = false := by decide) (he : starEach (e :: []) X.env = (false, eval e X.env) :: starEach [] X.env := by rfl) (hpl : (backTo pos (starEach [] X.env)).any (·.1) = false := by rfl) :
    PMk X (.Call (.Name x p) [e] [] pos) (uMk C f ta) := by
  intro pins s σ H Q I h
  refine pmk_oex T.o T.i T.t F1 hr hb .nil hx hg T.g (pa_m ha) hdb he hpl pins s σ H Q I ⟨_, h, fun vs H1 r => ?_⟩
  match vs, r with
  | [v], r =>
    refine ⟨by show 1 ≤ 1000; decide, fun a hn => ⟨a, v, rfl, upd_same, fun dx hd hne => ⟨rfl, dx, [(f, v)], upd_same, ?_, ?_, ?_⟩⟩⟩
    · rw [upd_ne hne, upd_same]
    · rw [upd_ne hne] at hd; exact hd
    · rw [mk_heap hn hne]
      rw [upd_ne hne] at hd
      exact r dx hd
/-- raise C(e), the wish E of the def -/
def uRaise (C : Addr) (f : Str) (E : XK) (ta : TA) : TS := fun _ σ H => uMk C f ta σ H E
theorem ps_raiseu {X : Cx} {E : XK} {e : Expr} {C : Addr} {f : Str} {ta : TA} {pos : Pos} (hc : X.calm = true) (tk : Takes X (fun cls d _ H => E cls d H)) (he : PMk X e (uMk C f ta)) : PS X (.Raise (some e) none pos) (uRaise C f E ta) := ps_raise hc tk he

/-! ### try with several clauses «except C as n», perhaps others behind that nothing reaches -/
structure Cl where
  c : Value
  i : Nat
  ts : Addr → Value → Option Addr → TS
def gone (i : Nat) (D : Ends) : Ends := { nx := fun σ H => D.nx (σ.set i none) H, rt := D.rt, bk := fun σ H => D.bk (σ.set i none) H, ct := fun σ H => D.ct (σ.set i none) H }
def clW (K : PySem.W.Frag) (W0 : WX) (D : Ends) : List Cl → WX
  | [] => W0
  | k :: r => fun cls d σ H => oK (PySem.W.exmOne K cls k.c) fun b => bB b (∀ a, H a = none → k.ts a cls d (gone k.i D) (σ.set k.i (some (.ref a))) H) (clW K W0 D r cls d σ H)
def uTry (K : PySem.W.Frag) (W0 : WX) (l : List Cl) (tb : WX → TS) : TS := fun D σ H => tb (clW K W0 D l) D σ H
inductive ClsOk (X : Cx) : WX → List ExceptHandler → List Cl → Prop
  | none {W0 : WX} : ClsOk X W0 [] []
  | rest {hs : List ExceptHandler} : ClsOk X (fun _ _ _ _ => False) hs []
  | more {W0 : WX} {x n : Str} {k : Cl} {st : Stmt} {su : List Stmt} {p1 p2 : Pos} {hs : List ExceptHandler} {l : List Cl} (hc : Names X x k.c) (hi : X.N[k.i]? = some n) (hn : X.env.kindOf n = some .local)
      (hsu : ∀ (a : Addr) (o : Obj) (cls : Value) (d : Option Addr) (pn : List (Addr × Obj)), Zc cls d o → (∃ vs, o.data = .fields vs) → PSs (X.suite a ((a, o) :: pn)) (st :: su) (k.ts a cls d)) (r : ClsOk X W0 hs l) :
      ClsOk X W0 (.ExceptHandler (some (.Name x p1)) (some n) (st :: su) p2 :: hs) (k :: l)
section
variable {X : Cx} {W0 : WX} {pins : List (Addr × Obj)} {a : Addr}
/-- the clauses, one behind another, with the exception at a -/
theorem clauses_run {B : Heap} {s' sI : Shared} {h3 : Heap} {σ : L2.St} {H : Hp} {cls : Value} {d : Option Addr} {D : Ends} (ok : X.Ok) (hN : X.N.Nodup) (hst : X.stack = X.env :: X.outer) (hf : X.env.frame = some X.env.locals) (tk : Takes X W0)
    (J : Inv X pins σ H sI) (nb : ∀ b o, sI.heap.get? b = some o → b ∉ frs X.stack → B.get? b = some o) (up : sI.heap.UpToSlots h3) (os : s'.os = sI.os) (ag : AllBare s'.gens) (na : H a = none)
    (fl : HandSPX.FlyingZ B (X.env :: X.outer) a (Zc cls d) h3) : ∀ {hs : List ExceptHandler} {l : List Cl}, ClsOk X W0 hs l → clW X.K W0 D l cls d σ H →
      wpAny (model X.prog X.w) X.A (handleBy (.ref a) X.env hs) (SP X pins D) X.xe { s' with heap := h3 } := by
  intro hs l hk
  obtain ⟨o1, v1, g1, z1, d1⟩ := fl.there
  have J1 : Inv X pins σ H { s' with heap := h3 } := J.landed nb fl.1 up os ag
  have off : a ∉ frs (X.env :: X.outer) := fun hm => by
    obtain ⟨_, o, e, nf⟩ := fl.2.2.1.mem hm
    rw [g1] at e; cases e
    exact nf _ d1
  have offL : a ≠ X.env.locals := fun z => off (List.mem_filterMap.mpr ⟨X.env, List.mem_cons_self, by rw [hf, z]⟩)
  have offF : a ∉ X.fs := fun hm => by
    obtain ⟨v, hv, q⟩ := List.mem_filterMap.mp hm
    exact off (List.mem_filterMap.mpr ⟨v, List.mem_cons_of_mem _ hv, q⟩)
  induction hk with
  | rest => intro w; exact w.elim
  | none =>
    intro w
    refine wpAny_handleBy_nil ?_
    obtain ⟨_, _, _, o2, v2, T, _, _, g2, _, d2, t1, _⟩ := id fl
    unfold PySem.passOn
    refine wpAny_bind (wpAny_field g2 d2 t1 ?_)
    rw [if_neg (show ¬ ((Value.ref T == Value.none) = true) from by simp)]
    have out : wpAny (model X.prog X.w) X.A (setFlight (.ref a) X.env.frame) (fun _ s4 => wpAny (model X.prog X.w) X.A (throw (.ref a) : Sem Flow) (SP X pins D) X.xe s4) X.xe { s' with heap := h3 } := by
      rw [hf]
      exact HandSPX.setFlight_upZ fl fun h4 q4 u4 => wpAny_throw (tk _ _ ⟨a, B, sI, pins, σ, H, cls, d, rfl, J, nb, up.trans u4, .inr (.inr (by rw [hst]; exact q4)), na, os, ag, w⟩)
    first
      | exact wpAny_bind (wpAny_pure (wpAny_bind out))
      | exact wpAny_bind out
  | @more W0 x n k st su p1 p2 hs2 l2 hc hi hn hsu r ih =>
    intro w
    obtain ⟨b, hb, w⟩ := oK_ex w
    refine wpAny_handleBy_cons (codeAny_handlers_test ?_) (by intro q; cases q)
    have S1 := J1.suite g1 d1 na offL offF
    have LM := PySem.W.exm_one (M := model X.prog X.w) J1.kIn (fun A Q E s k q => wpAny_typeOf_ref (k _ _ g1) (by rw [z1.1]; exact q)) hb
    have look : ∀ {Q E : Value → Shared → Prop}, Q k.c { s' with heap := h3 } → wpAny (model X.prog X.w) (X.A.mark (some (.ref a))) (eval (.Name x p1) X.env) Q E { s' with heap := h3 } := fun {Q E} q => by
      obtain ⟨y1, y2, y3 | ⟨y3, y4, y5⟩⟩ := hc
      · exact ld_glob (X := X.suite a ((a, o1) :: (X.pn ++ pins))) S1 y1 y3 q y2
      · exact ld_blt (X := X.suite a ((a, o1) :: (X.pn ++ pins))) S1 y1 y3 y4 q y5 y2
    refine look (LM.here ?_)
    cases b with
    | false =>
      show wpAny _ X.A (handleBy (.ref a) X.env hs2) _ _ _
      exact ih tk w
    | true =>
      have w : ∀ a, H a = Option.none → k.ts a cls d (gone k.i D) (σ.set k.i (some (.ref a))) H := w
      refine codeAny_handlers_suite_as (HandSPX.lands_againZ fl fun h4 fl4 u4 => ?_)
      obtain ⟨o4, v4, g4, z4, d4⟩ := fl4.there
      have S4 := (show Inv X pins σ H { s' with heap := h4 } from J.landed nb fl4.1 (up.trans u4) os ag).suite g4 d4 na offL offF
      refine store_ok (X := X.suite a ((a, o4) :: (X.pn ++ pins))) (v := .ref a) S4 hN hi (.inl hn) rfl (fun s5 S5 => ?_) (.inr hn)
      refine wpAny_mono ((hsu a o4 cls d (X.pn ++ pins) z4 ⟨_, d4⟩).run [] s5 _ H _ S5 (w a na)) (fun fl s6 q => ?_) (fun _ _ z => z.elim)
      have leave : ∀ {σ6 : L2.St} {H6 : Hp} {R : Shared → Prop}, Inv (X.suite a ((a, o4) :: (X.pn ++ pins))) [] σ6 H6 s6 → (∀ s7, Inv X pins (σ6.set k.i Option.none) H6 s7 → R s7) →
          wpAny (model X.prog X.w) X.A (do bindName X.env n .none; unbindBehindTheSuite X.env n p2) (fun _ s7 => R s7) X.xe s6 := fun {σ6 H6 R} S6 hq => gone_ok (S6.unsuite ok) hN hi hn hq
      cases fl with
      | ret u =>
        obtain ⟨v6, σ6, H6, S6, r6, q6⟩ := q
        exact leave S6 fun s7 J7 => ⟨v6, _, H6, J7, r6, q6⟩
      | next =>
        obtain ⟨σ6, H6, S6, q6⟩ := q
        exact leave S6 fun s7 J7 => ⟨_, H6, J7, q6⟩
      | brk =>
        obtain ⟨σ6, H6, S6, q6⟩ := q
        exact leave S6 fun s7 J7 => ⟨_, H6, J7, q6⟩
      | cont =>
        obtain ⟨σ6, H6, S6, q6⟩ := q
        exact leave S6 fun s7 J7 => ⟨_, H6, J7, q6⟩
theorem pus_try {body : List Stmt} {h0 : ExceptHandler} {hs : List ExceptHandler} {l : List Cl} {pos : Pos} {tb : WX → TS} (hst : X.stack = X.env :: X.outer) (hf : X.env.frame = some X.env.locals) (hN : X.N.Nodup) (tk : Takes X W0)
    (hb : ∀ (W : WX) (pn : List (Addr × Obj)) (xe : Value → Shared → Prop), Takes (X.tr pn xe) W → PassesOwn (model X.prog X.w) X.A X.env xe → PSs (X.tr pn xe) body (tb W)) (hk : ClsOk X W0 (h0 :: hs) l) :
    PS X (.Try body (h0 :: hs) [] [] pos) (uTry X.K W0 l tb) := ⟨fun pins s σ H D I h => by
  have ok := I.ok
  have fr : X.A.frames = some (X.env :: X.outer) := by rw [ok.frames, hst]
  refine wpAny_Try_except (wpAny_mono ((hb (clW X.K W0 D l) (X.pn ++ pins) _ (fun u s' y => ?_) PassesOwn.looking).run [] s σ H D (I.toTry _) h) (fun f s1 q => ?_) fun e s1 q => q)
  · obtain ⟨a, B, sI, _, σ', H', cls, d, rfl, J, nb, up, sky, na, os, ag, w⟩ := y
    show wpAny (model X.prog X.w) X.A (noteFrame (.ref a) X.env) _ _ _
    exact Sky.land Zc.steady fr hf (by rw [← hst]; exact sky) fun h3 fl3 u3 => clauses_run ok hN hst hf tk (J.ofTry ok) nb (up.trans u3) os ag na fl3 hk w
  · cases f with
    | next =>
      obtain ⟨σ', H', J, q⟩ := q
      exact wpAny_execs_nil ⟨σ', H', J.ofTry ok, q⟩
    | ret u =>
      obtain ⟨v, σ', H', J, r, q⟩ := q
      exact ⟨v, σ', H', J.ofTry ok, r, q⟩
    | brk =>
      obtain ⟨σ', H', J, q⟩ := q
      exact ⟨σ', H', J.ofTry ok, q⟩
    | cont =>
      obtain ⟨σ', H', J, q⟩ := q
      exact ⟨σ', H', J.ofTry ok, q⟩⟩
end
/-- n.f in a suite, n in slot i -/
def uXf (K : PySem.W.Frag) (a : Addr) (cls : Value) (d : Option Addr) (i : Nat) (f : Str) : TE := fun σ H Q => ∃ (C dd : Addr) (fs : List (Str × V)) (v : V), cls = .ref C ∧ XfC K C ∧ PySem.W.findIn K (.ref C) f = some none ∧ σ[i]? = some (some (.ref a)) ∧
  d = some dd ∧ H dd = some (.xd fs) ∧ fs.lookup f = some v ∧ Q v H
theorem pue_xf {X : Cx} {a : Addr} {oe : Obj} {cls : Value} {d : Option Addr} {pn : List (Addr × Obj)} (i : Nat) {x n : Str} {p pos : Pos} (hz : Zc cls d oe) (hf : ∃ vs, oe.data = .fields vs) (hN : X.N[i]? = some x := by rfl)
    (hv : Vis X.env.scope x := by exact Or.inl rfl) (hd : (x == ("__debug__" : Str)) = false := by decide) (hcd : (x == ("__classdict__" : Str)) = false := by decide)
    (hb : attributeBase (.Name x p) n X.env (eval (.Name x p) X.env) = eval (.Name x p) X.env := by rfl) : PE (X.suite a ((a, oe) :: pn)) (.Attribute (.Name x p) n pos) (uXf X.K a cls d i n) := ⟨fun pins s σ H Q I h => by
  obtain ⟨C, dd, fs, v, rfl, T, hno, e, rfl, h1, h2, q⟩ := h
  exact (pe_xf T hno hz hf (pe_var (X := X.suite a ((a, oe) :: pn)) hN hv hd hcd) hb).run pins s σ H Q I ⟨_, e, rfl, rfl, dd, fs, v, rfl, h1, h2, q⟩⟩
/-- whether a clause takes an exception -/
theorem exm_of {K : PySem.W.Frag} {S C : Addr} {b : Bool} (h1 : PySem.W.subIn K (.ref C) (.type "BaseException") = some true) (h2 : PySem.W.isClsIn K C = true) (h3 : PySem.W.typeIn K (.ref C) = some (.type "type")) (h4 : PySem.W.subIn K (.ref S) (.ref C) = some b) :
    PySem.W.exmOne K (.ref S) (.ref C) = some b := by
  have y : (PySem.W.clsIn K C).isSome = true := h2
  unfold PySem.W.exmOne
  rw [h1]
  show (if ((PySem.W.clsIn K C).isSome && PySem.W.typeIn K (.ref C) == some (.type "type")) = true then PySem.W.subIn K (.ref S) (.ref C) else none) = some b
  rw [y, h3]
  exact h4
end U

namespace U
open PySem PySem.Spec PyProof.Rows L2

/-! ### defs that are run where no repr is under way -/
structure FnG (P : Program) (w : World) (K : PySem.W.Frag) (mg : Str → Option Value) (base : Heap) (CX : CXT) (k : Nat) (f : Addr) (fd : FuncData) (ps : List Str) (sp : Sp) : Prop where
  len : ∀ vs H Q E, sp vs H Q E → vs.length = ps.length
  run : ∀ (A : Around) (outer : List Env) (s : Shared) (H : Hp) (args : Args) (us : List Value) (vs : List V) (Q : VK) (E : XK), A.guards = some [] → Room k A → Env0 P w K mg base A outer s H →
    BindsTo s fd args (ps.zip us) → Vals vs us → sp vs H Q E → codeAny (model P w) A (.call (.ref f) args) (CR CX outer P w H s Q E) s
theorem fn_g {P : Program} {w : World} {K : PySem.W.Frag} {mg : Str → Option Value} {base : Heap} {CX : CXT} {k : Nat} {f : Addr} {fd : FuncData} {ps : List Str} {sp : Sp} (F : FnOk P w K mg base CX k f fd ps sp) : FnG P w K mg base CX k f fd ps sp :=
  ⟨F.len, fun A outer s H args us vs Q E _ hr => F.run A outer s H args us vs Q E hr⟩
section
variable {P : Program} {w : World} {K : PySem.W.Frag} {mg : Str → Option Value} {base : Heap}
theorem fn_ofG {CX : CXT} {k : Nat} {f : Addr} {x qual : Str} {st : Stmt} {fd : FuncData} {N ps : List Str} {sp : Sp} (F : Fun K x qual st f fd) (S : FnScope N ps (defScope st)) (len : ∀ vs H Q E, sp vs H Q E → vs.length = ps.length)
    (body : ∀ (cdv : Value) (A : Around) (outer : List Env) (s : Shared) (H : Hp) (vs : List V) (Q : VK) (E : XK), A.guards = some [] → Room k (A.deeper (envOfC qual (defScope st) s.heap.objs.size f cdv)) → sp vs H Q E →
      ∃ t, PSs (cxOf CX P w K mg base N qual (defScope st) f cdv A outer s H E) (defBody st) t ∧ t { nx := fun _ H' => Q .non H', rt := Q } (start N vs) H) : FnG P w K mg base CX (k + 1) f fd ps sp := by
  obtain ⟨oc, od, kV, doc, pm, an, cdv, ct, osl, rfl, lk, hcd⟩ := F.ex
  refine ⟨len, fun A outer s H args us vs Q E hg hr e0 hb rv h => ?_⟩
  have kin : K.In s.heap := e0.mod.kin.keeps fun b o z => (e0.bs b o z).1
  have nl : s.heap.NoLimit := e0.mod.nolimit.keeps fun b o z => (e0.bs b o z).1
  obtain ⟨t, ht, hq⟩ := body cdv A outer s H vs Q E hg (hr.deeper _) h
  refine codeAny_call_function hr.depth (kin _ _ lk) rfl S.co S.gen rfl (PySem.W.codeRec_of kin hcd) (hb _ _ _ _ (wpAny_newFunctionEnv_cells S.kind (fun ⟨n, v⟩ hy => ?_) fun env he s1 y => ?_))
  · rcases S.par n (List.of_mem_zip hy).1 with q | q
    · exact .inl q
    · exact .inr ⟨q, PySem.W.cellsFrom_some _ _ _ (.inl q)⟩
  subst he
  refine ⟨nl.keeps y.toInCall.keep, codeAny_func (wpAny_mono (ht.run [] s1 (start N vs) H _ (inv_start S hr.hd e0 (len _ _ _ _ h) rv y) hq) (fun fl s' q => ?_) fun _ _ q => q)⟩
  cases fl with
  | next =>
    obtain ⟨_, H', J, q⟩ := q
    exact ⟨V.non, H', J.os, J.bare, J.base, J.hok, rfl, q⟩
  | ret u =>
    obtain ⟨v, _, H', J, r, q⟩ := q
    exact ⟨v, H', J.os, J.bare, J.base, J.hok, r, q⟩
  | brk =>
    obtain ⟨_, _, _, q⟩ := q
    exact q.elim
  | cont =>
    obtain ⟨_, _, _, q⟩ := q
    exact q.elim
theorem okG {k : Nat} {f : Addr} {x qual : Str} {st : Stmt} {fd : FuncData} {N ps : List Str} {sp : Sp} (F : Fun K x qual st f fd) (S : FnScope N ps (defScope st)) (len : ∀ vs H Q E, sp vs H Q E → vs.length = ps.length)
    (body : ∀ (cdv : Value) (A : Around) (outer : List Env) (s : Shared) (H : Hp) (vs : List V) (Q : VK) (E : XK), A.guards = some [] → Room k (A.deeper (envOfC qual (defScope st) s.heap.objs.size f cdv)) → sp vs H Q E →
      ∃ t, PSs (cxOf CX0 P w K mg base N qual (defScope st) f cdv A outer s H E).nox (defBody st) t ∧ t { nx := fun _ H' => Q .non H', rt := Q } (start N vs) H) : FnG P w K mg base CX0 (k + 1) f fd ps sp :=
  fn_ofG F S len fun cdv A outer s H vs Q E hg hr h => by
    obtain ⟨t, h1, h2⟩ := body cdv A outer s H vs Q E hg hr h
    exact ⟨t, h1.nox, h2⟩
end
section
variable {X : Cx} {CX : CXT} {k : Nat} {f : Addr} {fd : FuncData} {ps : List Str} {sp : Sp} {E : XK} {x : Str} {p pos : Pos} {e : Expr} {es : List Expr} {t : TA}
theorem run_fnG {pins : List (Addr × Obj)} {σ : L2.St} {H : Hp} {s : Shared} {Q : VK} {us : List Value} {vs : List V} (F : FnG X.prog X.w X.K X.mg X.base CX k f fd ps sp) (hg : X.A.guards = some []) (hr : Room k X.A) (hb : Binds X.K fd ps []) (hx : Passes CX X E)
    (I : Inv X pins σ H s) (r : Vals vs us) (h : sp (vs ++ []) H Q E) : wpAny (model X.prog X.w) X.A (call (.ref f) us) (EP X pins σ Q) X.xe s := by
  rw [List.append_nil] at h
  have hl : us.length = ps.length := by rw [← r.length]; exact F.len _ _ _ _ h
  have b := hb s us I.kIn (by rw [List.append_nil]; exact hl)
  rw [List.append_nil] at b
  refine wpAny_call (codeAny_mono (F.run X.A X.stack s H ⟨us, []⟩ us vs Q E hg hr I.env0 b r h) fun r s' q => ?_)
  match r, q with
  | .error er, q => exact hx pins σ H s er s' I q
  | .ok (.ret u), q => exact I.after q
theorem pe_callG (F : FnG X.prog X.w X.K X.mg X.base CX k f fd ps sp) (hgd : X.A.guards = some []) (hr : Room k X.A) (hg : Gl X x) (hm : X.mg x = some (.ref f)) (hk : PySem.W.keepIn X.K (.ref f) = true) (hb : Binds X.K fd ps []) (hx : Passes CX X E)
    (ha : PA X (e :: es) t) (hdb : (x == ("__debug__" : Str)) = false := by decide) (he : starEach (e :: es) X.env = (false, eval e X.env) :: starEach es X.env := by rfl) (hpl : (backTo pos (starEach es X.env)).any (·.1) = false := by rfl) :
    PE X (.Call (.Name x p) (e :: es) [] pos) (tCall sp [] E t) := ⟨fun pins s σ H Q I h => wpAny_Call_Name_kw (ld_glob I hg hm (PySem.W.callWith_K (h₀ := X.base) I.ok.mod.kin hk
      (thn (ha.run pos pins s σ H _ I h) fun us s1 ⟨vs, H1, I1, r, q⟩ => ⟨I1.kIn, run_fnG F hgd hr hb hx I1 r q⟩) he hpl) hdb)⟩
theorem pe_call0G (F : FnG X.prog X.w X.K X.mg X.base CX k f fd ps sp) (hgd : X.A.guards = some []) (hr : Room k X.A) (hg : Gl X x) (hm : X.mg x = some (.ref f)) (hk : PySem.W.keepIn X.K (.ref f) = true) (hb : Binds X.K fd ps []) (hx : Passes CX X E)
    (hdb : (x == ("__debug__" : Str)) = false := by decide) : PE X (.Call (.Name x p) [] [] pos) (tCall sp [] E tNil) :=
  ⟨fun pins s σ H Q I h => wpAny_Call_Name_kw (ld_glob I hg hm (PySem.W.callWith_K0 I.kIn hk (run_fnG (us := []) F hgd hr hb hx I .nil h)) hdb)⟩
end

/-! ### the law's def at the top -/
theorem law_callG {P : Program} {w : World} {K : PySem.W.Frag} {mg mb : Str → Option Value} {CX : CXT} {k : Nat} {fa a : Addr} {fd : FuncData} {x : Str} {sp : Sp} {s₁ : Shared} {vs : List Value} {ns : List Int}
    (KX : K.In s₁.heap) (hns : s₁.heap.Ns mainGlobals mg) (hb : s₁.heap.Ns builtinsNs mb) (hbb : ∀ x : Str, x ≠ "__name__" → mb x = bootBuiltins x) (nl : s₁.heap.NoLimit) (hg : s₁.gens = #[])
    (ha : s₁.heap.get? a = some { cls := .type "list", data := .seq vs.toArray }) (hi : IntsAre vs ns) (hl : ns.length ≤ sizeLine) (hr : Room k callerA)
    (F : ∀ base : Heap, K.In base → base.Ns mainGlobals mg → FnG P w K mg base CX k fa fd [x] sp) (bind : ∀ (s : Shared) (u : Value), BindsTo s fd ⟨[u], []⟩ [(x, u)])
    (hsp : ∀ H : Hp, Only H → SqL K H a (ns.map V.int) → sp [.ref a] H (fun v _ => v = .bl true) fun _ _ _ => False)
    (hCX : ∀ H e s', CX [] H s₁ (fun _ _ _ => False) e s' → False) :
    codeAny (model P w) callerA (.call (.ref fa) ⟨[.ref a], []⟩) (fun r s' => r = .ok (.ret (.bool true)) ∧ OldK s₁.heap s'.heap ∧ s'.os = s₁.os ∧ AllBare s'.gens) s₁ := by
  have start : ∀ H : Hp, Only H → SqL K H a (ns.map V.int) → HOk P w H s₁.heap → (∀ b, H b ≠ none → b = a) → (H a ≠ none → K.lookup a = none) →
      codeAny (model P w) callerA (.call (.ref fa) ⟨[.ref a], []⟩) (fun r s' => r = .ok (.ret (.bool true)) ∧ OldK s₁.heap s'.heap ∧ s'.os = s₁.os ∧ AllBare s'.gens) s₁ := fun H hO hS hok only free => by
    have atA : ∀ {b : Addr} {u : HO}, H b = some u → b = a := fun {b u} q => only b (by rw [q]; simp)
    have nsH : ∀ {b : Addr} {m : Str → Option Value}, s₁.heap.Ns b m → (hidT s₁.heap H).Ns b m := fun {b m} ⟨o, es, ep, e, d, r⟩ => ⟨o, es, ep, hidT_get e (by
      cases q : H b with
      | none => rfl
      | some u =>
        rw [atA q, ha] at e; cases e
        exact nomatch d), d, r⟩
    have kinH : K.In (hidT s₁.heap H) := fun b o e => hidT_get (KX b o e) (by
      cases q : H b with
      | none => rfl
      | some u =>
        have z := atA q
        subst z
        rw [free (by rw [q]; simp)] at e; cases e)
    have env : Env0 P w K mg (hidT s₁.heap H) callerA [] s₁ H := ⟨rfl, ⟨kinH, nsH hns, ⟨mb, nsH hb, hbb⟩, let ⟨mc, h1, h2⟩ := nl; ⟨mc, nsH h1, h2⟩⟩, fun b o e => of_hidT e, Nat.le_of_eq (hidT_size _ _), trivial,
      fun b hb => absurd (show b ∈ ([] : List Addr) from hb) (by simp), hok, .of_eq hg⟩
    refine codeAny_mono ((F _ kinH (nsH hns)).run callerA [] s₁ H ⟨[.ref a], []⟩ [.ref a] [.ref a] _ _ rfl hr env (bind s₁ (.ref a)) (.cons rfl .nil) (hsp H hO hS)) fun r s' h => ?_
    match r, h with
    | .error er, h => exact (hCX H er s' h).elim
    | .ok (.ret u), h =>
      obtain ⟨v, H', os, bare, un, hok', r', q⟩ := h
      obtain rfl : v = .bl true := q
      obtain rfl : u = Value.bool true := r'
      refine ⟨rfl, OldK.of_keep fun b o e => ?_, os, bare⟩
      cases q : H b with
      | none => exact un.keep b o e q (by intro z; exact absurd (show b ∈ ([] : List Addr) from z) (by simp)) (by simp)
      | some u =>
        rcases hO b with z | ⟨ob, xs, z⟩
        · rw [q] at z; cases z
        · obtain ⟨e1, _⟩ := hok b _ z
          obtain ⟨e2, _⟩ := hok' b _ (un.frzs b ob _ z)
          rw [e] at e1; cases e1
          exact e2
  cases hk : K.lookup a with
  | some o =>
    have e := KX a o hk
    rw [ha] at e
    cases e
    exact start (fun _ => none) (fun _ => .inl rfl) (.inr ⟨_, vs.toArray, _, hk, rfl, rfl, rfl, by rw [List.size_toArray, hi.length]; exact hl, by simpa using vals_ints hi⟩) (fun b u z => nomatch (show (none : Option HO) = some u from z)) (fun b z => absurd rfl z) fun z => absurd rfl z
  | none =>
    let ob : Obj := { cls := .type "list", data := .seq vs.toArray }
    refine start (fun b => if b = a then some (.frz ob (.lst (ns.map V.int))) else none) (fun b => ?_) (.inl (.inr ⟨ob, if_pos rfl⟩)) (fun b u z => ?_) (fun b z => ?_) fun _ => hk
    · by_cases hb : b = a
      · exact .inr ⟨_, _, if_pos hb⟩
      · exact .inl (if_neg hb)
    · by_cases hb : b = a
      · have y := (if_pos hb).symm.trans z
        cases y
        subst hb
        exact ⟨ha, by rw [List.length_map]; exact hl, vs, _, vals_ints hi, ha⟩
      · exact nomatch (if_neg hb).symm.trans z
    · by_cases hb : b = a
      · exact hb
      · exact absurd (if_neg hb) z
theorem walk_ofG {l : PySem.W.OpenLaw} {n k : Nat} {q : Program} {loose : List Str} {XP : (Str → Option Value) → Heap → Prop} {YP : World → Heap → Prop} {d : DefRec} {K : Params → PySem.W.Frag} {x : Str} {sp : World → (Nat → Addr) → Sp}
    (hn : l.most = some n) (hn2 : n ≤ sizeLine) (hdf : d.params.defaults = []) (hr : Room k callerA) (hY : ∀ (w : World) (h : Heap), YP w h → (K w.params).In h)
    (F : ∀ (w : World) (mg : Str → Option Value) (fa : Addr) (h : Heap), (K w.params).In h → h.Ns mainGlobals mg → mg d.name = some (.ref fa) →
      ∃ (ca : Nat → Addr) (fd : FuncData), (∀ (s : Shared) (u : Value), BindsTo s fd ⟨[u], []⟩ [(x, u)]) ∧ ∀ base : Heap, (K w.params).In base → base.Ns mainGlobals mg → FnG l.prog w (K w.params) mg base CX0 k fa fd [x] (sp w ca))
    (hsp : ∀ (w : World) (ca : Nat → Addr) (H : Hp) (a : Addr) (ns : List Int), ns.length ≤ n → Only H → SqL (K w.params) H a (ns.map V.int) → sp w ca [.ref a] H (fun v _ => v = .bl true) fun _ _ _ => False) :
    PySem.W.WalkO q loose XP YP l.row.toRowW d [] (fun f vs => PySem.call f vs) := by
  refine Att.attach_call hn hdf fun w s₀ s₁ mg mb fa o pm cd doc a vs ns G Y ho hd hcd hmg hobj hints hlen hg => ?_
  obtain ⟨ca, fd, hb, hF⟩ := F w mg fa _ (hY w _ Y) G.T.g hmg
  exact law_callG (hY w _ Y) G.T.g G.T.b G.T.builtins G.T.nolimit hg hobj hints (Nat.le_trans hlen hn2) hr hF hb (fun H hO hS => hsp w ca H a ns hlen hO hS) fun _ _ _ z => z

/-! ### repr -/
mutual
theorem dp_nodict {K : PySem.W.Frag} {H : Hp} : ∀ (d : PyData) {v : V}, Dp K H v d → d.hasDict = false
  | .none, _, _ => by simp only [PyData.hasDict]
  | .bool _, _, _ => by simp only [PyData.hasDict]
  | .int _, _, _ => by simp only [PyData.hasDict]
  | .str _, _, _ => by simp only [PyData.hasDict]
  | .list ds, _, h => by
    cases h with
    | lst _ h => simp only [PyData.hasDict]; exact dpAll_nodict ds h
  | .tuple ds, _, h => by
    cases h with
    | tup _ h => simp only [PyData.hasDict]; exact dpAll_nodict ds h
  | .dict _, _, h => nomatch h
theorem dpAll_nodict {K : PySem.W.Frag} {H : Hp} : ∀ (ds : List PyData) {vs : List V}, DpAll K H vs ds → PyData.hasDictAll ds = false
  | [], _, _ => by simp only [PyData.hasDictAll]
  | d :: ds, _, h => by
    cases h with
    | cons h1 h2 => simp only [PyData.hasDictAll, dp_nodict d h1, dpAll_nodict ds h2, Bool.or_self]
end
def uRepr (K : PySem.W.Frag) : List V → Hp → VK → Prop := fun xs H Q => match xs with
  | [v] => ∃ d, Dp K H v d ∧ d.showable = true ∧ d.shown.length ≤ sizeLine ∧ d.depth ≤ 40 ∧ Q (.str d.shown) H
  | _ => False
theorem cu_repr {X : Cx} (hg : X.A.guards = some []) (hu : X.A.units + 64 < cLine) : CallR X (.builtin "repr") (uRepr X.K) := fun pins s σ H xs us Q I r h => by
  match xs, h with
  | [v], h =>
    obtain ⟨d, hd, h1, h2, h3, q⟩ := h
    match us, r with
    | [u], .cons ru .nil =>
      obtain ⟨as, rd⟩ := Dp.reads I d v u hd ru
      have fin : ∀ h' tk u', (∀ b o, s.heap.get? b = some o → h'.get? b = some o) → EP X pins σ Q (.str d.shown u') { s with heap := h', toks := tk } := fun h' tk u' kp =>
        ⟨.str d.shown, H, I.un (Un.kept kp) (I.hok.kept kp), ⟨_, rfl⟩, q⟩
      have stay : ∀ tk u', EP X pins σ Q (.str d.shown u') { s with toks := tk } := fun tk u' => fin s.heap tk u' fun _ _ z => z
      cases rd with
      | none => exact PySem.P.repr_of_none (by have e : PyData.shown .none = ("None" : Str) := by simp [PyData.shown]
                                               exact e ▸ stay _ _)
      | bool b => exact PySem.P.repr_of_bool (by have e : PyData.shown (.bool b) = (if b then "True" else "False" : Str) := by simp [PyData.shown]
                                                 exact e ▸ stay _ _)
      | int i t => exact PySem.P.repr_of_int (by simpa [PyData.showable] using h1) (by have e : PyData.shown (.int i) = (toString i : Str) := by simp [PyData.shown]
                                                                                       exact e ▸ stay _ _)
      | str z t =>
        have e : PyData.shown (.str z) = reprText z := by simp [PyData.shown]
        exact PySem.P.repr_of_str (by exact e ▸ stay _ _) (e ▸ h2)
      | list k1 k2 k3 k4 => exact repr_of_reads' (.list k1 k2 k3 k4) h1 (PyData.noDict_hsm (dp_nodict _ hd)) hg (by omega) (fun _ _ z => z) (fun h' u' tk kp => fin h' tk u' kp) h2
      | tuple k1 k2 k3 k4 => exact repr_of_reads' (.tuple k1 k2 k3 k4) h1 (PyData.noDict_hsm (dp_nodict _ hd)) hg (by omega) (fun _ _ z => z) (fun h' u' tk kp => fin h' tk u' kp) h2
      | dict _ _ _ _ _ => exact nomatch hd
end U

namespace U
open PySem PySem.Spec PyProof.Rows L2

/-! ### the same thing, by == -/
def Sm (K : PySem.W.Frag) (H : Hp) : Nat → V → V → Prop
  | 0 => fun _ _ => False
  | n + 1 => fun x y => (x = y ∧ flatB x = true) ∨ (∃ a, x = .ref a ∧ y = .ref a) ∨ ∃ a b xs ys, x = .ref a ∧ y = .ref b ∧ SqL K H a xs ∧ SqL K H b ys ∧ Paired (Sm K H n) xs ys
section
variable {X : Cx} {pins : List (Addr × Obj)} {σ : L2.St} {H : Hp} {s : Shared}
theorem sm_items {A : Around} {F : V → V → Prop} (ih : ∀ x y v u, F x y → RelV x v → RelV y u → SeqAt.EqAt A s v u true) : ∀ {xs ys : List V} {us ws : List Value}, Paired F xs ys → Vals xs us → Vals ys ws →
    us.length = ws.length ∧ ∀ j (h1 : j < us.length) (h2 : j < ws.length), SeqAt.EqAt A s us[j] ws[j] true
  | _, _, _, _, .nil, .nil, .nil => ⟨rfl, fun j h1 _ => absurd h1 (Nat.not_lt_zero j)⟩
  | _, _, _, _, .cons h t, .cons a1 b1, .cons a2 b2 => by
    obtain ⟨e, k⟩ := sm_items ih t b1 b2
    refine ⟨congrArg Nat.succ e, fun j h1 h2 => ?_⟩
    cases j with
    | zero => exact ih _ _ _ _ h a1 a2
    | succ j => exact k j (Nat.lt_of_succ_lt_succ h1) (Nat.lt_of_succ_lt_succ h2)
theorem sm_lists (I : Inv X pins σ H s) {A : Around} {F : V → V → Prop} (ih : ∀ x y v u, F x y → RelV x v → RelV y u → SeqAt.EqAt A s v u true) {a b : Addr} {xs ys : List V} (ha : SqL X.K H a xs) (hb : SqL X.K H b ys) (p : Paired F xs ys) :
    ∃ us ws : List Value, s.heap.IsList a us.toArray ∧ s.heap.IsList b ws.toArray ∧ us.toArray.size = ws.toArray.size ∧ ∀ j (h1 : j < us.toArray.size) (h2 : j < ws.toArray.size), SeqAt.EqAt A s us.toArray[j] ws.toArray[j] true := by
  obtain ⟨us, r1, p1, _⟩ := I.list ha
  obtain ⟨ws, r2, p2, _⟩ := I.list hb
  obtain ⟨e, k⟩ := sm_items ih p r1 r2
  exact ⟨us, ws, p1.isList, p2.isList, by simpa using e, fun j h1 h2 => by simpa using k j (by simpa using h1) (by simpa using h2)⟩
theorem allT (n : Nat) : ((List.range n).all fun _ => true) = true := List.all_eq_true.mpr fun _ _ => rfl
theorem sm_run (I : Inv X pins σ H s) : ∀ (n : Nat) (A : Around), A.units + n < cLine → ∀ (x y : V) (v u : Value), Sm X.K H n x y → RelV x v → RelV y u → SeqAt.EqAt A s v u true
  | 0, _, _, _, _, _, _, h, _, _ => (show False from h).elim
  | n + 1, A, hu, x, y, v, u, h, rx, ry => by
    rcases h with ⟨rfl, f⟩ | ⟨a, rfl, rfl⟩ | ⟨a, b, xs, ys, rfl, rfl, ha, hb, p⟩
    · exact eqAt_same rx ry f
    · cases (show v = Value.ref a from rx)
      cases (show u = Value.ref a from ry)
      exact SeqAt.EqAt.same _
    · cases (show v = Value.ref a from rx)
      cases (show u = Value.ref b from ry)
      by_cases e : a = b
      · subst e; exact SeqAt.EqAt.same _
      · obtain ⟨us, ws, p1, p2, hz, k⟩ := sm_lists I (A := A.in1) (sm_run I n A.in1 (by show A.units + 1 + n < cLine; omega)) ha hb p
        have r := SeqAt.RcAt.lists (A := A) (e := fun _ => true) p1 p2 hz (by omega) k
        rw [allT] at r
        exact SeqAt.EqAt.of_refs e r
/-- two lists of the same things -/
def SmL (K : PySem.W.Frag) (H : Hp) (x y : V) : Prop := ∃ a b xs ys, x = .ref a ∧ y = .ref b ∧ SqL K H a xs ∧ SqL K H b ys ∧ Paired (Sm K H 40) xs ys
theorem op_eqS (hu : X.A.units + 64 < cLine) : OpR X (compareOp .Eq) (fun x y H Q => SmL X.K H x y ∧ Q (.bl true) H) := fun pins s σ H x y v u Q I rx ry h => by
  obtain ⟨⟨a, b, xs, ys, rfl, rfl, ha, hb, p⟩, q⟩ := h
  cases (show v = Value.ref a from rx)
  cases (show u = Value.ref b from ry)
  obtain ⟨us, ws, p1, p2, hz, k⟩ := sm_lists I (A := X.A.in1) (sm_run I 40 X.A.in1 (by show X.A.units + 1 + 40 < cLine; omega)) ha hb p
  have r := SeqAt.RcAt.lists (A := X.A) (e := fun _ => true) p1 p2 hz (by omega) k
  rw [allT] at r
  exact r X.prog X.w _ _ ⟨.bl true, H, I, rfl, q⟩
theorem op_neS (hu : X.A.units + 64 < cLine) : OpR X (compareOp .NotEq) (fun x y H Q => SmL X.K H x y ∧ Q (.bl false) H) := fun pins s σ H x y v u Q I rx ry h => by
  obtain ⟨⟨a, b, xs, ys, rfl, rfl, ha, hb, p⟩, q⟩ := h
  cases (show v = Value.ref a from rx)
  cases (show u = Value.ref b from ry)
  obtain ⟨us, ws, p1, p2, hz, k⟩ := sm_lists I (A := X.A.in1) (sm_run I 40 X.A.in1 (by show X.A.units + 1 + 40 < cLine; omega)) ha hb p
  have r := SeqAt.RcNeAt.lists (A := X.A) (e := fun _ => true) p1 p2 hz (by omega) k
  rw [allT] at r
  exact r X.prog X.w _ _ ⟨.bl false, H, I, rfl, q⟩
end
theorem Paired.sm_refl {K : PySem.W.Frag} {H : Hp} {n : Nat} : ∀ {xs : List V}, (∀ x ∈ xs, Sm K H n x x) → Paired (Sm K H n) xs xs
  | [], _ => .nil
  | x :: xs, h => .cons (h x List.mem_cons_self) (Paired.sm_refl fun y hy => h y (List.mem_cons_of_mem _ hy))
/-- a value is the same as itself -/
theorem sm_self {K : PySem.W.Frag} {H : Hp} {n : Nat} {v : V} (h : flatB v = true ∨ ∃ a, v = .ref a) : Sm K H (n + 1) v v := by
  rcases h with h | ⟨a, rfl⟩
  · exact .inl ⟨rfl, h⟩
  · exact .inr (.inl ⟨a, rfl, rfl⟩)
def uEq2 (K : PySem.W.Frag) : R2 := fun x y H Q => match scal x y with
  | true => Q (.bl (decide (x = y))) H
  | false => (∃ d e, Dp K H x d ∧ Dp K H y e ∧ SeqAt.shaped d = true ∧ SeqAt.shaped e = true ∧ Q (.bl (PyData.eqv d e)) H) ∨ (SmL K H x y ∧ Q (.bl true) H)
def uNe2 (K : PySem.W.Frag) : R2 := fun x y H Q => match scal x y with
  | true => Q (.bl (!decide (x = y))) H
  | false => (∃ d e, Dp K H x d ∧ Dp K H y e ∧ SeqAt.shaped d = true ∧ SeqAt.shaped e = true ∧ Q (.bl (!PyData.eqv d e)) H) ∨ (SmL K H x y ∧ Q (.bl false) H)
/-- int, text or list times int -/
def uMul2 : R2 := fun x y H Q => match x, y with
  | .int i, .int j => CMul i j ∧ Q (.int (i * j)) H
  | .ref l, .int k => oK (mutL H l) fun xs => -(2 ^ 63) ≤ k ∧ k < 2 ^ 63 ∧ xs.length * k.toNat ≤ sizeLine ∧ ∀ p, H p = none → Q (.ref p) (upd H p (.lst (List.replicate k.toNat xs).flatten))
  | _, _ => False
/-- x is None -/
def uIs (neg : Bool) : R2 := fun x y H Q => match y with
  | .non => Q (.bl (if neg then !decide (x = .non) else decide (x = .non))) H
  | _ => False
def uInt : List V → Hp → VK → Prop := fun xs H Q => match xs with
  | [.int i] => Q (.int i) H
  | [.bl k] => Q (.int (if k then 1 else 0)) H
  | [.str a] => a.length ≤ 640 ∧ oK (PySem.intText? a) fun n => Q (.int n) H
  | _ => False
def uIndex : V → List V → Hp → VK → Prop := fun x xs H Q => match x, xs with
  | .str a, [.str b] => ∃ i rest, Builtin.Str.occurrences a b 0 a.length 1 = i :: rest ∧ Q (.int (i : Nat)) H
  | _, _ => False
def uSplit : V → List V → Hp → VK → Prop := fun x xs H Q => match x, xs with
  | .str a, [.str b] => (b.length == 0) = false ∧ a.length + 2 ≤ sizeLine ∧ ∀ p, H p = none → Q (.ref p) (upd H p (.lst ((Txt.split a b).map V.str)))
  | _, _ => False
section
variable {X : Cx}
theorem ou_eq2 (hu : X.A.units + 64 < cLine) : OpR X (compareOp .Eq) (uEq2 X.K) := OpRi (op_eq.or ((op_eqD hu).or (op_eqS hu))) fun x y H Q h => by
  unfold uEq2 at h
  split at h
  · exact .inl ⟨by assumption, h⟩
  · exact .inr h
theorem ou_ne2 (hu : X.A.units + 64 < cLine) : OpR X (compareOp .NotEq) (uNe2 X.K) := OpRi (op_ne.or ((op_neD hu).or (op_neS hu))) fun x y H Q h => by
  unfold uNe2 at h
  split at h
  · exact .inl ⟨by assumption, h⟩
  · exact .inr h
theorem ou_mul2 : OpR X (binaryOp .Mult) uMul2 := OpRi (op_mul.or op_rep) fun x y H Q h => by
  unfold uMul2 at h
  split at h
  · exact .inl ⟨_, _, rfl, rfl, h⟩
  · obtain ⟨xs, e, h1, h2, h3, h4⟩ := oK_ex h
    exact .inr ⟨_, _, xs, rfl, rfl, of_mutL e, h1, h2, h3, h4⟩
  · exact h.elim
theorem ou_is : OpR X (compareOp .Is) (uIs false) := OpRi op_isN fun x y H Q h => by
  unfold uIs at h
  split at h
  · exact ⟨rfl, h⟩
  · exact h.elim
theorem ou_isnot : OpR X (compareOp .IsNot) (uIs true) := OpRi op_notN fun x y H Q h => by
  unfold uIs at h
  split at h
  · exact ⟨rfl, h⟩
  · exact h.elim
theorem callR_or {f : Value} {r r' : List V → Hp → VK → Prop} (h : CallR X f r) (h' : CallR X f r') : CallR X f (fun xs H Q => r xs H Q ∨ r' xs H Q) := fun pins s σ H xs us Q I rv q => q.elim (h pins s σ H xs us Q I rv) (h' pins s σ H xs us Q I rv)
theorem cu_int : CallR X (.type "int") uInt := CallRi (callR_or call_int1 call_int_str) fun xs H Q h => by
  unfold uInt at h
  split at h
  · exact .inl (.inl ⟨_, rfl, h⟩)
  · exact .inl (.inr ⟨_, rfl, h⟩)
  · obtain ⟨h1, h⟩ := h
    obtain ⟨n, e, h⟩ := oK_ex h
    exact .inr ⟨_, n, rfl, e, h1, h⟩
  · exact h.elim
theorem mu_index : MtR X "str.index" uIndex := MtRi mt_sindex fun x xs H Q h => by
  unfold uIndex at h
  split at h
  · obtain ⟨i, rest, e, h⟩ := h
    exact ⟨_, _, i, rest, rfl, rfl, e, h⟩
  · exact h.elim
theorem mu_split : MtR X "str.split" uSplit := MtRi mt_split fun x xs H Q h => by
  unfold uSplit at h
  split at h
  · exact ⟨_, _, rfl, rfl, h.1, h.2.1, h.2.2⟩
  · exact h.elim
end

/-! ### calls with keywords and defaults -/
section
variable {X : Cx} {CX : CXT} {k n m : Nat} {f : Addr} {fd : FuncData} {ps ks : List Str} {sp : Sp} {E : XK} {x : Str} {p pos : Pos} {e : Expr} {es : List Expr} {kws : List Keyword} {t tk : TA} {gV : List V → List V → List V} {dvs : List V}
theorem pe_callE (F : FnOk X.prog X.w X.K X.mg X.base CX k f fd ps sp) (hr : Room k X.A) (hg : Gl X x) (hm : X.mg x = some (.ref f)) (hk : PySem.W.keepIn X.K (.ref f) = true) (hb : ∃ g, KBn X.K fd ps n ks g gV) (hx : Passes CX X E)
    (ha : PA X (e :: es) t) (hkw : PK X kws tk) (hl : ks.length = m := by rfl) (hall : (backToKw pos (keywordEach kws X.env)).all (·.1.isSome) = true := by rfl) (hks : (backToKw pos (keywordEach kws X.env)).filterMap (·.1) = ks := by rfl)
    (hdb : (x == ("__debug__" : Str)) = false := by decide) (he : starEach (e :: es) X.env = (false, eval e X.env) :: starEach es X.env := by rfl)
    (hpl : ((backTo pos (starEach (e :: es) X.env)).any (·.1) || (backToKw pos (keywordEach kws X.env)).any (·.1.isNone)) = false := by rfl) :
    PE X (.Call (.Name x p) (e :: es) kws pos) (tCallN n m sp gV E t tk) := hb.elim fun _ h => by
  subst hl
  exact pe_callN F hr hg hm hk h hx ha hkw hall hks hdb he hpl
theorem pe_callD (F : FnOk X.prog X.w X.K X.mg X.base CX k f fd ps sp) (hr : Room k X.A) (hg : Gl X x) (hm : X.mg x = some (.ref f)) (hk : PySem.W.keepIn X.K (.ref f) = true) (hb : ∃ ds, Vals dvs ds ∧ Binds X.K fd ps ds) (hx : Passes CX X E)
    (ha : PA X (e :: es) t) (hdb : (x == ("__debug__" : Str)) = false := by decide) (he : starEach (e :: es) X.env = (false, eval e X.env) :: starEach es X.env := by rfl) (hpl : (backTo pos (starEach es X.env)).any (·.1) = false := by rfl) :
    PE X (.Call (.Name x p) (e :: es) [] pos) (tCall sp dvs E t) := hb.elim fun _ h => pe_call F hr hg hm hk h.2 h.1 hx ha hdb he hpl
end

/-! ### two fors in a comprehension -/
theorem in_it {J : It} {n : Nat} {G : Hp → Prop} {Y : Nat → Hp → V → Hp → Prop} (w : Walk J n G Y) {g : TG} {tt : TT} {te : TE} {vs : List Nat} {σ : L2.St} {H1 : Hp} {D : Addr} {Qd : Hp → Prop} (Pv : Nat → Hp → Prop) (h0 : Pv 0 H1) (hG : ∀ i H, i ≤ n → Pv i H → G H)
    (hs : ∀ i x H H', i < n → Pv i H → Y i H x H' → g x (wipe σ vs) H' fun σ2 H2 => wipe σ2 vs = wipe σ vs ∧ tt σ2 H2 fun b H3 =>
      bB b (te σ2 H3 fun y H4 => ∃ acc, H4 D = some (.lst acc) ∧ acc.length < sizeLine ∧ Pv (i + 1) (upd H4 D (.lst (acc ++ [y])))) (Pv (i + 1) H3)) (hd : ∀ H, Pv n H → Qd H) :
    ∃ W : Nat → Nat → Hp → Prop, (∃ m, W 0 m H1) ∧ ∀ i m H, W i m H → (J.stop i H ∧ Qd H) ∨ (J.go i H ∧ ∃ Nx : Hp → Prop, (∀ H', Nx H' → ∃ m', m' < m ∧ W (i + 1) m' H') ∧ ∀ x H', J.yld i H x H' →
      g x (wipe σ vs) H' fun σ2 H2 => wipe σ2 vs = wipe σ vs ∧ tt σ2 H2 fun b H3 => if b = true then te σ2 H3 fun y H4 => ∃ acc, H4 D = some (.lst acc) ∧ acc.length < sizeLine ∧ Nx (upd H4 D (.lst (acc ++ [y]))) else Nx H3) := by
  simp only [bB_if] at hs
  refine ⟨fun i m H => m = n - i ∧ i ≤ n ∧ Pv i H, ⟨n, by simp, Nat.zero_le _, h0⟩, fun i m H => ?_⟩
  rintro ⟨rfl, hi, p⟩
  have q := hG i H hi p
  rcases Nat.lt_or_ge i n with hlt | hge
  · exact .inr ⟨w.goes i H hlt q, Pv (i + 1), fun H' p' => ⟨n - (i + 1), by omega, rfl, hlt, p'⟩, fun x H' y => hs i x H H' hlt p (w.yields i H x H' hlt q y)⟩
  · obtain rfl : i = n := by omega
    exact .inl ⟨w.stops H q, hd H p⟩
theorem lc2s {K : PySem.W.Frag} {x : V} {J : It} {xs : List V} {G : Hp → Prop} (S : Src K x J xs G) {tx : TE} {g g1 : TG} {tt tt1 : TT} {wi1 : TI} {te : TE} {vs vs1 : List Nat} {σ : L2.St} {H H1 : Hp} {Q : VK} (hx : ∀ R : VK, R x H1 → tx σ H R) (hG : G H1) (Pv : Addr → Nat → Hp → Prop)
    (h0 : ∀ D, H1 D = none → Pv D 0 (upd H1 D (.lst []))) (hst : ∀ D i H, i ≤ xs.length → Pv D i H → G H)
    (hs : ∀ D i y H, xs[i]? = some y → Pv D i H → g y (wipe σ vs) H fun σ2 H2 => wipe σ2 vs = wipe σ vs ∧ tt σ2 H2 fun b H3 =>
      if b = true then wi1 σ2 H3 fun J1 H4 => ∃ W1 : Nat → Nat → Hp → Prop, (∃ m, W1 0 m H4) ∧ ∀ j k H, W1 j k H →
        (J1.stop j H ∧ Pv D (i + 1) H) ∨ (J1.go j H ∧ ∃ Nx1 : Hp → Prop, (∀ H', Nx1 H' → ∃ k', k' < k ∧ W1 (j + 1) k' H') ∧ ∀ x H', J1.yld j H x H' → g1 x (wipe σ2 vs1) H' fun σ3 H5 => wipe σ3 vs1 = wipe σ2 vs1 ∧ tt1 σ3 H5 fun b H6 =>
          if b = true then te σ3 H6 fun y H7 => ∃ acc, H7 D = some (.lst acc) ∧ acc.length < sizeLine ∧ Nx1 (upd H7 D (.lst (acc ++ [y]))) else Nx1 H6)
      else Pv D (i + 1) H3) (hd : ∀ D H, H1 D = none → Pv D xs.length H → Q (.ref D) H) :
    tLc2 (uIter K tx) g tt wi1 g1 tt1 te vs vs1 σ H Q := hx _ (S.go hG fun D hD => by
  refine ⟨fun i m H => m = xs.length - i ∧ i ≤ xs.length ∧ Pv D i H, ⟨xs.length, by simp, Nat.zero_le _, h0 D hD⟩, fun i m H => ?_⟩
  rintro ⟨rfl, hi, p⟩
  have q := hst D i H hi p
  rcases Nat.lt_or_ge i xs.length with hlt | hge
  · refine .inr ⟨S.walk.goes i H hlt q, Pv D (i + 1), fun H' p' => ⟨xs.length - (i + 1), by omega, rfl, hlt, p'⟩, fun x H' y => ?_⟩
    obtain ⟨e, hy⟩ := S.walk.yields i H x H' hlt q y
    subst e
    exact hs D i x _ hy p
  · obtain rfl : i = xs.length := by omega
    exact .inl ⟨S.walk.stops H q, hd D H hD p⟩)
end U

namespace U
open PySem PySem.Spec PyProof.Rows L2

/-! ### what the laws of this package share: words, marks, boxes -/
def letter (c : Nat) : Bool := decide (97 ≤ c) && decide (c ≤ 122)
def isWord (z : Str) : Bool := decide (1 ≤ z.length) && decide (z.length ≤ 30) && z.cps.toList.all letter
def isMarkL : List Nat → Bool
  | [c] => decide (c = 32)
  | [k, i] => (decide (k = 35) || decide (k = 124) || decide (k = 47)) && (decide (48 ≤ i) && decide (i ≤ 51))
  | _ => false
def isMark (z : Str) : Bool := isMarkL z.cps.toList
def wordV (v : V) : Bool := match v with | .str z => isWord z | _ => false
def markV (v : V) : Bool := match v with | .str z => isMark z | _ => false
def small (v : V) : Prop := match v with | .str z => z.length ≤ 1000 | _ => True
/-- a value of a known kind, no long text -/
def Kn (H : Hp) (v : V) : Prop := (tyOf H v).isSome = true ∧ small v
def BoxAt (H : Hp) (b : Addr) (n : Nat) : Prop := ∃ x y z : Int, H b = some (.lst [.int x, .int y, .int z]) ∧ 0 ≤ x ∧ 0 ≤ y ∧ y < 2147483629 ∧ 0 ≤ z ∧ z ≤ n
/-- the exception of the class i with its field -/
def Rs (ca : Nat → Addr) (i : Nat) (v : V) (H : Hp) (E : XK) : Prop := ∀ d, H d = none → E (.ref (ca i)) (some d) (upd H d (.xd [("value", v)]))
theorem BoxAt.new {H : Hp} {b p : Addr} {n : Nat} {o : HO} (h : BoxAt H b n) (hp : H p = none) : BoxAt (upd H p o) b n := by
  obtain ⟨x, y, z, e, r⟩ := h
  exact ⟨x, y, z, by rw [upd_ne (ne_of_none e hp)]; exact e, r⟩
theorem BoxAt.ex {H H' : Hp} {b : Addr} {n : Nat} (h : BoxAt H b n) (e : Ex H H') : BoxAt H' b n := by
  obtain ⟨x, y, z, h, r⟩ := h
  exact ⟨x, y, z, e _ _ h, r⟩
theorem BoxAt.le {H : Hp} {b : Addr} {n m : Nat} (h : BoxAt H b n) (e : n ≤ m) : BoxAt H b m := by
  obtain ⟨x, y, z, h, a, b, c, d, f⟩ := h
  exact ⟨x, y, z, h, a, b, c, d, by omega⟩
theorem BoxAt.ne {H : Hp} {b p : Addr} {n : Nat} (h : BoxAt H b n) (hp : H p = none) : p ≠ b := by
  obtain ⟨_, _, _, e, _⟩ := h
  exact (ne_of_none e hp).symm
/-- something else at an address that is no box -/
theorem BoxAt.off {H : Hp} {b p : Addr} {n : Nat} {o : HO} (h : BoxAt H b n) (hp : H p = some o) (ho : ∀ x y z, o ≠ .lst [.int x, .int y, .int z]) : p ≠ b := by
  obtain ⟨x, y, z, e, _⟩ := h
  exact ne_of hp e (ho x y z)
theorem ScriptAt.box {K : PySem.W.Frag} {H H' : Hp} {a b : Addr} {ns : List Int} {n : Nat} (h : ScriptAt K H a ns) (B : BoxAt H b n) (f : Fr b H H') : ScriptAt K H' a ns := by
  obtain ⟨x, y, z, e, _⟩ := B
  exact h.fr f e
theorem tyOf_ref {H : Hp} {a : Addr} (h : (tyOf H (.ref a)).isSome = true) : ∃ t, tyOf H (.ref a) = some t ∧ (t = .lst ∨ t = .tup ∨ t = .dct) := by
  have h : ((H a).bind tyO).isSome = true := h
  cases e : H a with
  | none => rw [e] at h; cases h
  | some o =>
    rw [e] at h
    have h : (tyO o).isSome = true := h
    cases e2 : tyO o with
    | none => rw [e2] at h; cases h
    | some t =>
      refine ⟨t, ?_, ?_⟩
      · show (H a).bind tyO = some t
        rw [e]; exact e2
      · unfold tyO at e2
        split at e2 <;> first | (cases e2; done) | (cases e2; simp)
theorem kn_ref {H : Hp} {p : Addr} {o : HO} (h : H p = some o) (ho : (tyO o).isSome = true) : Kn H (.ref p) := ⟨by show ((H p).bind tyO).isSome = true; rw [h]; exact ho, trivial⟩
theorem kn_str {H : Hp} {z : Str} (h : z.length ≤ 1000) : Kn H (.str z) := ⟨rfl, h⟩
theorem kn_int {H : Hp} (i : Int) : Kn H (.int i) := ⟨rfl, trivial⟩
theorem kn_non {H : Hp} : Kn H .non := ⟨rfl, trivial⟩
theorem kn_bl {H : Hp} (b : Bool) : Kn H (.bl b) := ⟨rfl, trivial⟩
theorem tyOf_ex {H H' : Hp} {v : V} {t : Ty} (h : tyOf H v = some t) (e : Ex H H') : tyOf H' v = some t := by
  cases v with
  | ref a =>
    have h : (H a).bind tyO = some t := h
    cases q : H a with
    | none => rw [q] at h; cases h
    | some o =>
      rw [q] at h
      show (H' a).bind tyO = some t
      rw [e _ _ q]; exact h
  | _ => exact h
theorem Kn.ex {H H' : Hp} {v : V} (h : Kn H v) (e : Ex H H') : Kn H' v := by
  obtain ⟨h1, h2⟩ := h
  obtain ⟨t, ht⟩ := Option.isSome_iff_exists.mp h1
  exact ⟨by rw [tyOf_ex ht e]; rfl, h2⟩
theorem tyOf_fr {H H' : Hp} {b : Addr} {v : V} {t : Ty} (h : tyOf H v = some t) (e : Fr b H H') (hb : v ≠ .ref b) : tyOf H' v = some t := by
  cases v with
  | ref a =>
    have h : (H a).bind tyO = some t := h
    cases q : H a with
    | none => rw [q] at h; cases h
    | some o =>
      rw [q] at h
      show (H' a).bind tyO = some t
      rw [e _ _ q (fun z => hb (by rw [z]))]; exact h
  | _ => exact h
theorem Kn.fr {H H' : Hp} {b : Addr} {v : V} (h : Kn H v) (e : Fr b H H') (hb : v ≠ .ref b) : Kn H' v := by
  obtain ⟨h1, h2⟩ := h
  obtain ⟨t, ht⟩ := Option.isSome_iff_exists.mp h1
  exact ⟨by rw [tyOf_fr ht e hb]; rfl, h2⟩
theorem log_small {i : Int} (h1 : -(10 ^ 40) < i) (h2 : i < 10 ^ 40) : i.natAbs.log2 < 1920 := by
  by_cases h : i.natAbs = 0
  · rw [h]; decide
  · rw [Nat.log2_lt h]
    have : i.natAbs < 10 ^ 40 := by omega
    exact Nat.lt_of_lt_of_le this (by decide +kernel)
theorem len_small {i : Int} (h1 : -(10 ^ 40) < i) (h2 : i < 10 ^ 40) : (Str.ofString (toString i)).length ≤ 41 := by
  have h := int_text_length_le10 (a := i) (k := 40) (by decide) (by omega)
  rw [PySem.ofString_length]
  omega
/-! texts by their signs -/
theorem toList_inj {a b : Str} (h : a.cps.toList = b.cps.toList) : a = b := by
  obtain ⟨⟨l⟩⟩ := a
  obtain ⟨⟨m⟩⟩ := b
  have h : l = m := h
  subst h; rfl
theorem str_len (z : Str) : z.length = z.cps.toList.length := rfl
theorem cps_blank : (Str.ofString " ").cps.toList = [32] := by decide +kernel
theorem cps_kinds : (Str.ofString "#|/").cps.toList = [35, 124, 47] := by decide +kernel
theorem cps_digits : (Str.ofString "0123").cps.toList = [48, 49, 50, 51] := by decide +kernel
theorem cps_ten : (Str.ofString "0123456789").cps.toList = List.range' 48 10 := by decide +kernel
theorem cps_letters : (Str.ofString "abcdefghijklmnopqrstuvwxyz").cps.toList = List.range' 97 26 := by decide +kernel
theorem mem_letters (c : Nat) : decide (c ∈ (Str.ofString "abcdefghijklmnopqrstuvwxyz").cps.toList) = letter c := by
  rw [cps_letters]
  unfold letter
  rw [← Bool.decide_and]
  apply decide_eq_decide.mpr
  rw [List.mem_range'_1]
  omega
def isDig (c : Nat) : Bool := decide (48 ≤ c) && decide (c ≤ 57)
theorem mem_ten (c : Nat) : decide (c ∈ (Str.ofString "0123456789").cps.toList) = isDig c := by
  rw [cps_ten]
  unfold isDig
  rw [← Bool.decide_and]
  apply decide_eq_decide.mpr
  rw [List.mem_range'_1]
  omega
/-- a text against a fixed one -/
theorem eq_fix (z : Str) (a : String) {l : List Nat} (h : (Str.ofString a).cps.toList = l) : decide (V.str z = V.str (Str.ofString a)) = decide (z.cps.toList = l) := by
  apply decide_eq_decide.mpr
  constructor
  · intro e; injection e with e; rw [e]; exact h
  · intro e; rw [toList_inj (e.trans h.symm)]
theorem eq_blank (z : Str) : decide (V.str z = V.str (Str.ofString " ")) = decide (z.cps.toList = [32]) := eq_fix z _ cps_blank
theorem isMark_two {z : Str} {k i : Nat} (h : z.cps.toList = [k, i]) : isMark z = (decide (k ∈ [35, 124, 47]) && decide (i ∈ [48, 49, 50, 51])) := by
  unfold isMark
  rw [h]
  unfold isMarkL
  rw [Bool.eq_iff_iff]
  simp
  omega
theorem isMark_other {z : Str} (h1 : z.cps.toList ≠ [32]) (h2 : z.length ≠ 2) : isMark z = false := by
  unfold isMark
  rw [str_len] at h2
  generalize z.cps.toList = l at *
  match l with
  | [] => rfl
  | [c] => simp at h1; simp [isMarkL, h1]
  | [_, _] => exact absurd rfl h2
  | _ :: _ :: _ :: _ => rfl
/-- the forms of a mark -/
theorem mark_forms {z : Str} (h : isMark z = true) : z.cps.toList = [32] ∨ ∃ k i, z.cps.toList = [k, i] ∧ k ∈ [35, 124, 47] ∧ i ∈ [48, 49, 50, 51] := by
  by_cases h1 : z.cps.toList = [32]
  · exact .inl h1
  · by_cases h2 : z.length = 2
    · have h3 : z.cps.toList.length = 2 := h2
      match hz : z.cps.toList, h3 with
      | [k, i], _ =>
        rw [isMark_two hz, Bool.and_eq_true, decide_eq_true_eq, decide_eq_true_eq] at h
        exact .inr ⟨k, i, rfl, h.1, h.2⟩
    · rw [isMark_other h1 h2] at h; cases h
end U

namespace Lw
open PySem PySem.Spec PyProof.Rows L2 U
def topS (i : Nat) : Stmt := PySem.Challenge.pw_reflows_k02_marks_numbers_words.main.body.getD i (.Pass ⟨0, 0, 0, 0⟩)
abbrev s_is_mark : Stmt := topS 8
abbrev N_is_mark : List Str := ["value"]
abbrev P_is_mark : List Str := ["value"]
theorem sc_is_mark : FnScope N_is_mark P_is_mark (defScope s_is_mark) := ⟨rfl, rfl, rfl, by decide +kernel, rfl, by decide +kernel, by decide +kernel⟩
abbrev s_need_mark : Stmt := topS 9
abbrev N_need_mark : List Str := ["mark"]
abbrev P_need_mark : List Str := ["mark"]
theorem sc_need_mark : FnScope N_need_mark P_need_mark (defScope s_need_mark) := ⟨rfl, rfl, rfl, by decide +kernel, rfl, by decide +kernel, by decide +kernel⟩
abbrev s_kind_of : Stmt := topS 10
abbrev N_kind_of : List Str := ["mark"]
abbrev P_kind_of : List Str := ["mark"]
theorem sc_kind_of : FnScope N_kind_of P_kind_of (defScope s_kind_of) := ⟨rfl, rfl, rfl, by decide +kernel, rfl, by decide +kernel, by decide +kernel⟩
abbrev s_indent_of : Stmt := topS 11
abbrev N_indent_of : List Str := ["mark"]
abbrev P_indent_of : List Str := ["mark"]
theorem sc_indent_of : FnScope N_indent_of P_indent_of (defScope s_indent_of) := ⟨rfl, rfl, rfl, by decide +kernel, rfl, by decide +kernel, by decide +kernel⟩
abbrev s_break_of : Stmt := topS 12
abbrev N_break_of : List Str := ["kind", "indent"]
abbrev P_break_of : List Str := ["kind", "indent"]
theorem sc_break_of : FnScope N_break_of P_break_of (defScope s_break_of) := ⟨rfl, rfl, rfl, by decide +kernel, rfl, by decide +kernel, by decide +kernel⟩
abbrev s_all_marks : Stmt := topS 13
abbrev N_all_marks : List Str := ["kind", "indent"]
abbrev P_all_marks : List Str := []
theorem sc_all_marks : FnScope N_all_marks P_all_marks (defScope s_all_marks) := ⟨rfl, rfl, rfl, by decide +kernel, rfl, by decide +kernel, by decide +kernel⟩
abbrev s_mark_place : Stmt := topS 14
abbrev N_mark_place : List Str := ["mark"]
abbrev P_mark_place : List Str := ["mark"]
theorem sc_mark_place : FnScope N_mark_place P_mark_place (defScope s_mark_place) := ⟨rfl, rfl, rfl, by decide +kernel, rfl, by decide +kernel, by decide +kernel⟩
abbrev s_parse_integer : Stmt := topS 15
abbrev N_parse_integer : List Str := ["text", "low", "high", "digits", "number", "sign"]
abbrev P_parse_integer : List Str := ["text", "low", "high"]
theorem sc_parse_integer : FnScope N_parse_integer P_parse_integer (defScope s_parse_integer) := ⟨rfl, rfl, rfl, by decide +kernel, rfl, by decide +kernel, by decide +kernel⟩
def g_parse_integer_high {α : Type} (vs mz zs : List α) : List α := vs ++ (mz.drop 0).take 1 ++ (zs.drop 0).take 1
abbrev gV_parse_integer_high (vs zs : List V) : List V := g_parse_integer_high vs [.int 0] zs
def g_parse_integer_low {α : Type} (vs mz zs : List α) : List α := vs ++ (zs.drop 0).take 1 ++ (mz.drop 0).take 1
abbrev gV_parse_integer_low (vs zs : List V) : List V := g_parse_integer_low vs [.int 999] zs
def g_parse_integer_low_high {α : Type} (vs mz zs : List α) : List α := vs ++ (zs.drop 0).take 1 ++ (zs.drop 1).take 1
abbrev gV_parse_integer_low_high (vs zs : List V) : List V := g_parse_integer_low_high vs [] zs
abbrev s_split_words : Stmt := topS 16
abbrev N_split_words : List Str := ["text", "words"]
abbrev P_split_words : List Str := ["text"]
theorem sc_split_words : FnScope N_split_words P_split_words (defScope s_split_words) := ⟨rfl, rfl, rfl, by decide +kernel, rfl, by decide +kernel, by decide +kernel⟩
abbrev s__law_cell : Stmt := topS 18
abbrev N__law_cell : List Str := ["_law_script", "_law_k"]
abbrev P__law_cell : List Str := ["_law_script", "_law_k"]
theorem sc__law_cell : FnScope N__law_cell P__law_cell (defScope s__law_cell) := ⟨rfl, rfl, rfl, by decide +kernel, rfl, by decide +kernel, by decide +kernel⟩
abbrev s__law_box : Stmt := topS 19
abbrev N__law_box : List Str := ["_law_cell_here"]
abbrev P__law_box : List Str := ["_law_cell_here"]
theorem sc__law_box : FnScope N__law_box P__law_box (defScope s__law_box) := ⟨rfl, rfl, rfl, by decide +kernel, rfl, by decide +kernel, by decide +kernel⟩
abbrev s__law_take : Stmt := topS 20
abbrev N__law_take : List Str := ["_law_box_here", "_law_many", "_law_digit", "_law_number"]
abbrev P__law_take : List Str := ["_law_box_here", "_law_many"]
theorem sc__law_take : FnScope N__law_take P__law_take (defScope s__law_take) := ⟨rfl, rfl, rfl, by decide +kernel, rfl, by decide +kernel, by decide +kernel⟩
abbrev s__law_marks : Stmt := topS 21
abbrev N__law_marks : List Str := ["_law_found", "_law_kind"]
abbrev P__law_marks : List Str := []
theorem sc__law_marks : FnScope N__law_marks P__law_marks (defScope s__law_marks) := ⟨rfl, rfl, rfl, by decide +kernel, rfl, by decide +kernel, by decide +kernel⟩
abbrev s__law_told : Stmt := topS 22
abbrev N__law_told : List Str := ["_law_way", "_law_one", "_law_other", "e"]
abbrev P__law_told : List Str := ["_law_way", "_law_one", "_law_other"]
theorem sc__law_told : FnScope N__law_told P__law_told (defScope s__law_told) := ⟨rfl, rfl, rfl, by decide +kernel, rfl, by decide +kernel, by decide +kernel⟩
abbrev s__law_marks_right : Stmt := topS 23
abbrev N__law_marks_right : List Str := ["_law_box_here", "_law_marks_here", "_law_told_here", "_law_at", "_law_due", "_law_kind", "_law_number", "_law_odd", "_law_way"]
abbrev P__law_marks_right : List Str := ["_law_box_here"]
theorem sc__law_marks_right : FnScope N__law_marks_right P__law_marks_right (defScope s__law_marks_right) := ⟨rfl, rfl, rfl, by decide +kernel, rfl, by decide +kernel, by decide +kernel⟩
abbrev s__law_text : Stmt := topS 24
abbrev N__law_text : List Str := ["_law_box_here", "_law_number", "_law_text_here", "_law_at", "_law_sign", "_law_some"]
abbrev P__law_text : List Str := ["_law_box_here"]
theorem sc__law_text : FnScope N__law_text P__law_text (defScope s__law_text) := ⟨rfl, rfl, rfl, by decide +kernel, rfl, by decide +kernel, by decide +kernel⟩
abbrev s__law_value : Stmt := topS 25
abbrev N__law_value : List Str := ["_law_text_here", "_law_digits", "_law_value_here", "_law_sign"]
abbrev P__law_value : List Str := ["_law_text_here"]
theorem sc__law_value : FnScope N__law_value P__law_value (defScope s__law_value) := ⟨rfl, rfl, rfl, by decide +kernel, rfl, by decide +kernel, by decide +kernel⟩
abbrev s__law_number_right : Stmt := topS 26
abbrev N__law_number_right : List Str := ["_law_text_here", "_law_least", "_law_most", "_law_value_here", "_law_due", "_law_bound", "_law_found"]
abbrev P__law_number_right : List Str := ["_law_text_here", "_law_least", "_law_most"]
theorem sc__law_number_right : FnScope N__law_number_right P__law_number_right (defScope s__law_number_right) := ⟨rfl, rfl, rfl, by decide +kernel, rfl, by decide +kernel, by decide +kernel⟩
abbrev s__law_words : Stmt := topS 27
abbrev N__law_words : List Str := ["_law_text_here", "_law_found", "_law_word", "_law_sign"]
abbrev P__law_words : List Str := ["_law_text_here"]
theorem sc__law_words : FnScope N__law_words P__law_words (defScope s__law_words) := ⟨rfl, rfl, rfl, by decide +kernel, rfl, by decide +kernel, by decide +kernel⟩
abbrev s__law_line : Stmt := topS 28
abbrev N__law_line : List Str := ["_law_box_here", "_law_signs", "_law_words_here", "_law_k", "_law_line_here", "_law_at", "_law_some", "_law_j"]
abbrev P__law_line : List Str := ["_law_box_here"]
theorem sc__law_line : FnScope N__law_line P__law_line (defScope s__law_line) := ⟨rfl, rfl, rfl, by decide +kernel, rfl, by decide +kernel, by decide +kernel⟩
abbrev s_law : Stmt := topS 29
abbrev N_law : List Str := ["_law_script", "_law_k", "_law_box_here", "_law_turn", "_law_text_here", "_law_value_here", "_law_near", "_law_least", "_law_most", "_law_line_here", "_law_again", "_law_found", "_law_odd"]
abbrev P_law : List Str := ["_law_script"]
theorem sc_law : FnScope N_law P_law (defScope s_law) := ⟨rfl, rfl, rfl, by decide +kernel, rfl, by decide +kernel, by decide +kernel⟩
abbrev sI_InvalidMark : Stmt := inClass (topS 3) 0
theorem scI_InvalidMark : FnScope ["self", "value"] ["self", "value"] (defScope sI_InvalidMark) := ⟨rfl, rfl, rfl, by decide +kernel, rfl, by decide +kernel, by decide +kernel⟩
abbrev sI_InvalidInteger : Stmt := inClass (topS 4) 0
theorem scI_InvalidInteger : FnScope ["self", "value"] ["self", "value"] (defScope sI_InvalidInteger) := ⟨rfl, rfl, rfl, by decide +kernel, rfl, by decide +kernel, by decide +kernel⟩
/-! ### the mathematics and the promises -/
def kindOf (v : V) : V := match v with | .str z => .str ⟨#[(sl z).headD 0]⟩ | _ => .non
def indL : List Nat → Int
  | [_, i] => (i : Int) - 48
  | _ => 0
def kNo (k : Nat) : Int := if k = 35 then 0 else if k = 124 then 1 else 2
def plaL : List Nat → Int
  | [k, i] => 1 + 4 * kNo k + ((i : Int) - 48)
  | _ => 0
def indOf (v : V) : V := match v with | .str z => .int (indL (sl z)) | _ => .non
def plaOf (v : V) : V := match v with | .str z => .int (plaL (sl z)) | _ => .non
def kindV (v : V) : Bool := match v with | .str z => (match sl z with | [c] => decide (c ∈ [35, 124, 47]) | _ => false) | _ => false
def intV (v : V) : Bool := match v with | .int _ => true | _ => false
def clip (i : Int) : Nat := if i < 0 then 0 else if i < 3 then i.toNat else 3
def brk (z : Str) (i : Int) : Str := z ++ ⟨#[48 + clip i]⟩
def brkV (v : V) (i : Int) : V := match v with | .str z => .str (brk z i) | _ => .non
def marks : List Str := [" ", "#0", "#1", "#2", "#3", "|0", "|1", "|2", "|3", "/0", "/1", "/2", "/3"]
def told (way : Int) (v u : V) : Str × V :=
  if way = 3 then (if kindV v = true then (match u with | .int i => ("told", brkV v i) | u => ("integer", u)) else ("mark", v))
  else if markV v = true then ("told", if way = 0 then kindOf v else if way = 1 then indOf v else plaOf v) else ("mark", v)
/-- the number that a text is -/
def digs : List Nat → List Nat
  | 45 :: r => r
  | l => l
def valL (l : List Nat) : Option Int :=
  if digs l = [] then none else if (digs l).all isDig = false then none else if (digs l).head? = some 48 ∧ l ≠ [48] then none
  else some (if l.head? = some 45 then -(NumText.digitsVal (digs l) : Int) else (NumText.digitsVal (digs l) : Int))
def valV (l : List Nat) : V := match valL l with | some n => .int n | none => .non
def within (v : V) (lo hi : Int) : V := match v with | .int n => if lo ≤ n ∧ n ≤ hi then .int n else .non | _ => .non
def parseV (v : V) (lo hi : Int) : V := match v with | .str z => if z.length ≤ 31 then within (valV (sl z)) lo hi else .non | _ => .non
/-- the words of a line, read sign by sign: what was found, the word that is begun -/
def wordsL : List (List Nat) → List Nat → List Nat → Option (List (List Nat))
  | fs, w, [] => if w = [] then none else some (fs ++ [w])
  | fs, w, c :: r => if c = 10 ∨ (c = 32 ∧ w = []) then none else if c = 32 then wordsL (fs ++ [w]) [] r else wordsL fs (w ++ [c]) r
def wsV (ws : List (List Nat)) : List V := ws.map fun w => V.str (SX.S w)
/-- a told row of words, or none -/
def ToldW (o : Option (List (List Nat))) (H : Hp) (Q : VK) : Prop := match o with
  | none => ∀ H', Ex H H' → Q .non H'
  | some ws => ∀ p H', H p = none → Ex H H' → H' p = some (.lst (wsV ws)) → Q (.ref p) H'
def sp_is_mark (K : PySem.W.Frag) (ca : Nat → Addr) : Sp := fun vs H Q _ => ∃ v, vs = [v] ∧ Kn H v ∧ Q (.bl (markV v)) H
def sp_need_mark (K : PySem.W.Frag) (ca : Nat → Addr) : Sp := fun vs H Q E => ∃ v, vs = [v] ∧ Kn H v ∧ (markV v = true → Q .non H) ∧ (markV v = false → Rs ca 2 v H E)
def sp_kind_of (K : PySem.W.Frag) (ca : Nat → Addr) : Sp := fun vs H Q E => ∃ v, vs = [v] ∧ Kn H v ∧ (markV v = true → Q (kindOf v) H) ∧ (markV v = false → Rs ca 2 v H E)
def sp_indent_of (K : PySem.W.Frag) (ca : Nat → Addr) : Sp := fun vs H Q E => ∃ v, vs = [v] ∧ Kn H v ∧ (markV v = true → Q (indOf v) H) ∧ (markV v = false → Rs ca 2 v H E)
def sp_mark_place (K : PySem.W.Frag) (ca : Nat → Addr) : Sp := fun vs H Q E => ∃ v, vs = [v] ∧ Kn H v ∧ (markV v = true → Q (plaOf v) H) ∧ (markV v = false → Rs ca 2 v H E)
def sp_break_of (K : PySem.W.Frag) (ca : Nat → Addr) : Sp := fun vs H Q E => ∃ v u, vs = [v, u] ∧ Kn H v ∧ Kn H u ∧ (kindV v = false → Rs ca 2 v H E) ∧ (kindV v = true → intV u = false → Rs ca 3 u H E) ∧ (∀ i, kindV v = true → u = .int i → Q (brkV v i) H)
def sp_all_marks (K : PySem.W.Frag) (ca : Nat → Addr) : Sp := fun vs H Q _ => vs = [] ∧ ∀ p H', H p = none → Ex H H' → H' p = some (.lst (marks.map V.str)) → Q (.ref p) H'
def sp_parse_integer (K : PySem.W.Frag) (ca : Nat → Addr) : Sp := fun vs H Q _ => ∃ v lo hi, vs = [v, .int lo, .int hi] ∧ Kn H v ∧ ∀ H', Ex H H' → Q (parseV v lo hi) H'
def sp_split_words (K : PySem.W.Frag) (ca : Nat → Addr) : Sp := fun vs H Q _ => ∃ v, vs = [v] ∧ Kn H v ∧ ToldW (match v with | .str z => wordsL [] [] (sl z) | _ => none) H Q
def sp__law_cell (K : PySem.W.Frag) (ca : Nat → Addr) : Sp := fun vs H Q _ => ∃ (a : Addr) (ns : List Int) (k : Int), vs = [.ref a, .int k] ∧ ScriptAt K H a ns ∧ 0 ≤ k ∧ k ≤ 1000 ∧ ∀ n, Q (.int n) H
def sp__law_box (K : PySem.W.Frag) (ca : Nat → Addr) : Sp := fun vs H Q _ => ∃ c, vs = [.int c] ∧ ∀ p H', H p = none → Ex H H' → BoxAt H' p 0 → Q (.ref p) H'
def sp__law_take (K : PySem.W.Frag) (ca : Nat → Addr) : Sp := fun vs H Q _ => ∃ b m n, vs = [.ref b, .int m] ∧ BoxAt H b n ∧ n ≤ 1000000 ∧ 0 < m ∧ m ≤ 100000000 ∧ ∀ r H', 0 ≤ r → r < m → BoxAt H' b (n + 1) → Fr b H H' → Q (.int r) H'
def sp__law_marks (K : PySem.W.Frag) (ca : Nat → Addr) : Sp := fun vs H Q _ => vs = [] ∧ ∀ p H', H p = none → Ex H H' → H' p = some (.lst (marks.map V.str)) → Q (.ref p) H'
def sp__law_told (K : PySem.W.Frag) (ca : Nat → Addr) : Sp := fun vs H Q _ => ∃ way v u, vs = [.int way, v, u] ∧ 0 ≤ way ∧ way ≤ 3 ∧ Kn H v ∧ Kn H u ∧ ∀ p H', H p = none → Ex H H' → H' p = some (.lst [.str (told way v u).1, (told way v u).2]) → Q (.ref p) H'
def sp__law_marks_right (K : PySem.W.Frag) (ca : Nat → Addr) : Sp := fun vs H Q _ => ∃ b n, vs = [.ref b] ∧ BoxAt H b n ∧ n ≤ 900000 ∧ ∀ H', BoxAt H' b (n + 12) → Fr b H H' → Q (.bl true) H'
def sp__law_text (K : PySem.W.Frag) (ca : Nat → Addr) : Sp := fun vs H Q _ => ∃ b n, vs = [.ref b] ∧ BoxAt H b n ∧ n ≤ 900000 ∧ ∀ z H', z.length ≤ 31 → sok z → BoxAt H' b (n + 12) → Fr b H H' → Q (.str z) H'
def sp__law_value (K : PySem.W.Frag) (ca : Nat → Addr) : Sp := fun vs H Q _ => ∃ z, vs = [.str z] ∧ z.length ≤ 1000 ∧ sok z ∧ ∀ H', Ex H H' → Q (valV (sl z)) H'
def sp__law_number_right (K : PySem.W.Frag) (ca : Nat → Addr) : Sp := fun vs H Q _ => ∃ z lo hi, vs = [.str z, .int lo, .int hi] ∧ z.length ≤ 31 ∧ sok z ∧ ∀ H', Ex H H' → Q (.bl true) H'
def sp__law_words (K : PySem.W.Frag) (ca : Nat → Addr) : Sp := fun vs H Q _ => ∃ z, vs = [.str z] ∧ z.length ≤ 1000 ∧ ToldW (wordsL [] [] (sl z)) H Q
def sp__law_line (K : PySem.W.Frag) (ca : Nat → Addr) : Sp := fun vs H Q _ => ∃ b n, vs = [.ref b] ∧ BoxAt H b n ∧ n ≤ 900000 ∧ ∀ z H', z.length ≤ 100 → sok z → BoxAt H' b (n + 40) → Fr b H H' → Q (.str z) H'
def sp_law (K : PySem.W.Frag) (ca : Nat → Addr) : Sp := fun vs H Q _ => ∃ (a : Addr) (ns : List Int), vs = [.ref a] ∧ ScriptAt K H a ns ∧ ns.length ≤ 63 ∧ ∀ H', Q (.bl true) H'
def t_is_mark (K : PySem.W.Frag) (ca : Nat → Addr) : TS := tSeq (uIfS (uNot (uT (uIsi .str (uVar 0)))) (tRet (tC (.bl false))) (tNext)) (tRet (uOrV (tOp (uEq2 K) (uVar 0) (tC (.str " "))) (uAndV (tOp (uEq2 K) (tCB (uLen K) (tCons (uVar 0) (tNil))) (tC (.int 2))) (uAndV (tOp (uIn K false) (tOp (uIx K) (uVar 0) (tC (.int 0))) (tC (.str "#|/"))) (tOp (uIn K false) (tOp (uIx K) (uVar 0) (tC (.int 1))) (tC (.str "0123")))))))
def t_need_mark (K : PySem.W.Frag) (ca : Nat → Addr) (E : XK) : TS := uIfS (uNot (uT (tCall (sp_is_mark K ca) [] E0 (tCons (uVar 0) (tNil))))) (uRaise (ca 2) "value" E (tCons (uVar 0) (tNil))) (tNext)
def t_kind_of (K : PySem.W.Frag) (ca : Nat → Addr) (E : XK) : TS := tSeq (tDrop (tCall (sp_need_mark K ca) [] E (tCons (uVar 0) (tNil)))) (tRet (tOp (uIx K) (uVar 0) (tC (.int 0))))
def t_indent_of (K : PySem.W.Frag) (ca : Nat → Addr) (E : XK) : TS := tSeq (tDrop (tCall (sp_need_mark K ca) [] E (tCons (uVar 0) (tNil)))) (tRet (uIf (uT (tOp (uEq2 K) (uVar 0) (tC (.str " ")))) (tC (.int 0)) (tCB uInt (tCons (tOp (uIx K) (uVar 0) (tC (.int 1))) (tNil)))))
def t_break_of (K : PySem.W.Frag) (ca : Nat → Addr) (E : XK) : TS := tSeq (uIfS (uOr (uNot (uT (uIsi .str (uVar 0)))) (uOr (uT (tOp (uNe2 K) (tCB (uLen K) (tCons (uVar 0) (tNil))) (tC (.int 1)))) (uT (tOp (uIn K true) (uVar 0) (tC (.str "#|/")))))) (uRaise (ca 2) "value" E (tCons (uVar 0) (tNil))) (tNext)) (tSeq (uIfS (uOr (uNot (uT (uIsi .int (uVar 1)))) (uT (uIsi .bl (uVar 1)))) (uRaise (ca 3) "value" E (tCons (uVar 1) (tNil))) (tNext)) (tRet (tOp (uAdd K) (uVar 0) (tCB uStr (tCons (tCB uMin2 (tCons (tCB uInt (tCons (tC (.int 3)) (tNil))) (tCons (tCB uMax2 (tCons (tC (.int 0)) (tCons (tCB uInt (tCons (uVar 1) (tNil))) (tNil)))) (tNil)))) (tNil))))))
def t_all_marks (K : PySem.W.Frag) (ca : Nat → Addr) : TS := tRet (tOp (uAdd K) (tLst (tCons (tC (.str " ")) (tNil))) (tLc2 (uIter K (tC (.str "#|/"))) (gName 0) (tYes) (iRng1 (tCons (tOp (uAdd K) (tC (.int 3)) (tC (.int 1))) (tNil))) (gName 1) (tYes) (tOp (uAdd K) (uVar 0) (tCB uStr (tCons (uVar 1) (tNil)))) [0, 1] [1]))
def t_mark_place (K : PySem.W.Frag) (ca : Nat → Addr) (E : XK) : TS := tSeq (tDrop (tCall (sp_need_mark K ca) [] E (tCons (uVar 0) (tNil)))) (tRet (uIf (uT (tOp (uEq2 K) (uVar 0) (tC (.str " ")))) (tC (.int 0)) (tOp (uAdd K) (tOp (uAdd K) (tC (.int 1)) (tOp uMul2 (tOp (uAdd K) (tC (.int 3)) (tC (.int 1))) (tM1 uIndex (tC (.str "#|/")) (tOp (uIx K) (uVar 0) (tC (.int 0)))))) (tCB uInt (tCons (tOp (uIx K) (uVar 0) (tC (.int 1))) (tNil))))))
def t_parse_integer (K : PySem.W.Frag) (ca : Nat → Addr) : TS := tSeq (uIfS (uOr (uNot (uT (uIsi .str (uVar 0)))) (uOr (uT (tOp (uEq2 K) (uVar 0) (tC (.str "")))) (uT (tOp uGt (tCB (uLen K) (tCons (uVar 0) (tNil))) (tC (.int 31)))))) (tRet (tC .non)) (tNext)) (tSeq (tAsg (uIf (uT (tOp (uEq2 K) (tOp (uIx K) (uVar 0) (tC (.int 0))) (tC (.str "-")))) (L2.tSl (uSl K) (uVar 0) (uPart (tC (.int 1))) (tNoPart)) (uVar 0)) (gName 3)) (tSeq (uIfS (uOr (uT (tOp (uEq2 K) (uVar 3) (tC (.str "")))) (uNot (uT (tCB (uAll K) (tCons (tLc (uIter K (uVar 3)) (gName 5) (tYes) (tOp (uIn K false) (uVar 5) (tC (.str "0123456789"))) [5]) (tNil)))))) (tRet (tC .non)) (tNext)) (tSeq (uIfS (uAnd (uT (tOp (uEq2 K) (tOp (uIx K) (uVar 3) (tC (.int 0))) (tC (.str "0")))) (uT (tOp (uNe2 K) (uVar 0) (tC (.str "0"))))) (tRet (tC .non)) (tNext)) (tSeq (tAsg (tCB uInt (tCons (uVar 0) (tNil))) (gName 4)) (tRet (uIf (uT (uChain uLe uLe (uVar 1) (uVar 4) (uVar 2))) (uVar 4) (tC .non)))))))
def t_split_words (K : PySem.W.Frag) (ca : Nat → Addr) : TS := tSeq (uIfS (uOr (uNot (uT (uIsi .str (uVar 0)))) (uT (tOp (uIn K false) (tC (.str "\n")) (uVar 0)))) (tRet (tC .non)) (tNext)) (tSeq (tAsg (tM1 uSplit (uVar 0) (tC (.str " "))) (gName 1)) (tRet (uIf (uT (tOp (uIn K false) (tC (.str "")) (uVar 1))) (tC .non) (uVar 1))))
def t__law_cell (K : PySem.W.Frag) (ca : Nat → Addr) : TS := tSeq (uIfS (uT (tOp uLt (uVar 1) (tCB (uLen K) (tCons (uVar 0) (tNil))))) (tRet (tOp (uIx K) (uVar 0) (uVar 1))) (tNext)) (tRet (tOp (uAdd K) (tOp uMul2 (tC (.int 7919)) (uVar 1)) (tC (.int 131))))
def t__law_box (K : PySem.W.Frag) (ca : Nat → Addr) : TS := tRet (tLst (tCons (tCB uMax2 (tCons (tC (.int 0)) (tCons (tOp uSub (uVar 0) (tOp uPow (tC (.int 10)) (tC (.int 18)))) (tNil)))) (tCons (tOp uMod (uVar 0) (tC (.int 2147483629))) (tCons (tC (.int 0)) (tNil)))))
def t__law_take (K : PySem.W.Frag) (ca : Nat → Addr) : TS := tSeq (uIfS (uT (tOp uGt (tOp (uIx K) (uVar 0) (tC (.int 0))) (tC (.int 0)))) (tSeq (tAsg (tOp uMod (tOp (uIx K) (uVar 0) (tC (.int 0))) (uVar 1)) (gName 2)) (tSeq (tAsg (tOp uFdiv (tOp (uIx K) (uVar 0) (tC (.int 0))) (uVar 1)) (gSub (uVar 0) (tC (.int 0)) uSetL)) (tRet (uVar 2)))) (tNext)) (tSeq (tAsg (tOp (uAdd K) (tOp (uIx K) (uVar 0) (tC (.int 2))) (tC (.int 1))) (gSub (uVar 0) (tC (.int 2)) uSetL)) (tSeq (tAsg (tOp uMod (tOp uPow (tOp (uAdd K) (tOp (uAdd K) (tOp (uIx K) (uVar 0) (tC (.int 1))) (tOp uMul2 (tC (.int 7919)) (tOp (uIx K) (uVar 0) (tC (.int 2))))) (tC (.int 43))) (tC (.int 5))) (tC (.int 2147483647))) (gName 3)) (tSeq (tAsg (tOp uMod (tOp uPow (tOp (uAdd K) (uVar 3) (tOp uMul2 (tC (.int 104729)) (tOp (uIx K) (uVar 0) (tC (.int 2))))) (tC (.int 3))) (tC (.int 2147483587))) (gName 3)) (tRet (tOp uMod (tOp uFdiv (uVar 3) (tC (.int 8))) (uVar 1))))))
def t__law_marks (K : PySem.W.Frag) (ca : Nat → Addr) : TS := tSeq (tAsg (tLst (tCons (tC (.str " ")) (tNil))) (gName 0)) (tSeq (tFor (uIter K (tLst (tCons (tC (.str "#")) (tCons (tC (.str "|")) (tCons (tC (.str "/")) (tNil)))))) (gName 1) (tAsg (tOp (uAdd K) (uVar 0) (tLst (tCons (tOp (uAdd K) (uVar 1) (tC (.str "0"))) (tCons (tOp (uAdd K) (uVar 1) (tC (.str "1"))) (tCons (tOp (uAdd K) (uVar 1) (tC (.str "2"))) (tCons (tOp (uAdd K) (uVar 1) (tC (.str "3"))) (tNil))))))) (gName 0))) (tRet (uVar 0)))
def t__law_told (K : PySem.W.Frag) (ca : Nat → Addr) : TS := uTry K (fun _ _ _ _ => False) [⟨.ref (ca 2), 3, fun a cls d => tRet (tLst (tCons (tC (.str "mark")) (tCons (uXf K a cls d 3 "value") (tNil))))⟩, ⟨.ref (ca 3), 3, fun a cls d => tRet (tLst (tCons (tC (.str "integer")) (tCons (uXf K a cls d 3 "value") (tNil))))⟩] (fun W => tSeq (uIfS (uT (tOp (uEq2 K) (uVar 0) (tC (.int 0)))) (tRet (tLst (tCons (tC (.str "told")) (tCons (tCallS (sp_kind_of K ca) (WE W) (tCons (uVar 1) (tNil))) (tNil))))) (tNext)) (tSeq (uIfS (uT (tOp (uEq2 K) (uVar 0) (tC (.int 1)))) (tRet (tLst (tCons (tC (.str "told")) (tCons (tCallS (sp_indent_of K ca) (WE W) (tCons (uVar 1) (tNil))) (tNil))))) (tNext)) (tSeq (uIfS (uT (tOp (uEq2 K) (uVar 0) (tC (.int 2)))) (tRet (tLst (tCons (tC (.str "told")) (tCons (tCallS (sp_mark_place K ca) (WE W) (tCons (uVar 1) (tNil))) (tNil))))) (tNext)) (tRet (tLst (tCons (tC (.str "told")) (tCons (tCallS (sp_break_of K ca) (WE W) (tCons (uVar 1) (tCons (uVar 2) (tNil)))) (tNil))))))))
def t__law_marks_right (K : PySem.W.Frag) (ca : Nat → Addr) : TS := tSeq (tAsg (tCall (sp__law_marks K ca) [] E0 tNil) (gName 1)) (tSeq (tAsg (tCall (sp_all_marks K ca) [] E0 tNil) (gName 2)) (tSeq (uIfS (uT (tOp (uNe2 K) (uVar 2) (uVar 1))) (tRet (tC (.bl false))) (tNext)) (tSeq (tDrop (tBM K "list" uAppend (uVar 2) (tCons (tC (.str "late")) (tNil)))) (tSeq (tAsg (tCall (sp__law_take K ca) [] E0 (tCons (uVar 0) (tCons (tC (.int 13)) (tNil)))) (gName 3)) (tSeq (tAsg (tLst (tCons (tLst (tCons (tOp (uIx K) (tOp (uIx K) (uVar 1) (uVar 3)) (tC (.int 0))) (tCons (uIf (uT (tOp (uEq2 K) (uVar 3) (tC (.int 0)))) (tC (.int 0)) (tOp uMod (tOp uSub (uVar 3) (tC (.int 1))) (tC (.int 4)))) (tCons (uVar 3) (tNil))))) (tCons (tCall (sp_all_marks K ca) [] E0 tNil) (tNil)))) (gName 4)) (tSeq (uIfS (uT (tOp (uNe2 K) (tCB (uRepr K) (tCons (tLst (tCons (tLc (iRng1 (tCons (tC (.int 3)) (tNil))) (gName 8) (tYes) (tOp (uIx K) (tCall (sp__law_told K ca) [] E0 (tCons (uVar 8) (tCons (tOp (uIx K) (uVar 1) (uVar 3)) (tCons (tC .non) (tNil))))) (tC (.int 1))) [8]) (tCons (uVar 1) (tNil)))) (tNil))) (tCB (uRepr K) (tCons (uVar 4) (tNil))))) (tRet (tC (.bl false))) (tNext)) (tSeq (tAsg (tOp (uIx K) (tC (.str "#|/")) (tCall (sp__law_take K ca) [] E0 (tCons (uVar 0) (tCons (tC (.int 3)) (tNil))))) (gName 5)) (tSeq (tAsg (tOp (uIx K) (tLst (tCons (tOp uSub (tCall (sp__law_take K ca) [] E0 (tCons (uVar 0) (tCons (tC (.int 6)) (tNil)))) (tC (.int 1))) (tCons (tOp uPow (tC (.int 10)) (tC (.int 29))) (tCons (tUn uNeg (tOp uPow (tC (.int 10)) (tC (.int 29)))) (tCons (tC (.int 3)) (tCons (tC (.int 4)) (tNil))))))) (tCall (sp__law_take K ca) [] E0 (tCons (uVar 0) (tCons (tC (.int 5)) (tNil))))) (gName 6)) (tSeq (uIfS (uT (tOp (uNe2 K) (tCall (sp__law_told K ca) [] E0 (tCons (tC (.int 3)) (tCons (uVar 5) (tCons (uVar 6) (tNil))))) (tLst (tCons (tC (.str "told")) (tCons (tOp (uAdd K) (uVar 5) (tOp (uIx K) (tC (.str "0123")) (tCB uMax2 (tCons (tC (.int 0)) (tCons (tCB uMin2 (tCons (tC (.int 3)) (tCons (uVar 6) (tNil)))) (tNil)))))) (tNil)))))) (tRet (tC (.bl false))) (tNext)) (tSeq (tAsg (tOp (uIx K) (tLst (tCons (tC .non) (tCons (tC (.str "")) (tCons (tC (.str "#")) (tCons (tC (.str "#4")) (tCons (tC (.str " 0")) (tCons (tC (.str "|03")) (tCons (tC (.int 5)) (tCons (tC (.bl true)) (tCons (tLst (tCons (tC (.str "#0")) (tNil))) (tCons (tDNewK) (tCons (tC (.str "a0")) (tCons (tC (.str "0#")) (tNil)))))))))))))) (tCall (sp__law_take K ca) [] E0 (tCons (uVar 0) (tCons (tC (.int 12)) (tNil))))) (gName 7)) (tSeq (uIfS (uT (tOp (uNe2 K) (tLc (iRng1 (tCons (tC (.int 3)) (tNil))) (gName 8) (tYes) (tCall (sp__law_told K ca) [] E0 (tCons (uVar 8) (tCons (uVar 7) (tCons (tC .non) (tNil))))) [8]) (tOp uMul2 (tLst (tCons (tLst (tCons (tC (.str "mark")) (tCons (uVar 7) (tNil)))) (tNil))) (tC (.int 3))))) (tRet (tC (.bl false))) (tNext)) (tSeq (tAsg (tOp (uIx K) (tLst (tCons (tC .non) (tCons (tC (.str "")) (tCons (tC (.str " ")) (tCons (tC (.str "#0")) (tCons (tC (.str "|/")) (tCons (tC (.int 5)) (tCons (tLst (tCons (tC (.str "|")) (tNil))) (tCons (tC (.str "a")) (tNil)))))))))) (tCall (sp__law_take K ca) [] E0 (tCons (uVar 0) (tCons (tC (.int 8)) (tNil))))) (gName 7)) (tSeq (uIfS (uT (tOp (uNe2 K) (tCall (sp__law_told K ca) [] E0 (tCons (tC (.int 3)) (tCons (uVar 7) (tCons (tOp (uIx K) (tLst (tCons (tC .non) (tCons (tC (.int 1)) (tNil)))) (tCall (sp__law_take K ca) [] E0 (tCons (uVar 0) (tCons (tC (.int 2)) (tNil))))) (tNil))))) (tLst (tCons (tC (.str "mark")) (tCons (uVar 7) (tNil)))))) (tRet (tC (.bl false))) (tNext)) (tSeq (tAsg (tOp (uIx K) (tLst (tCons (tC .non) (tCons (tC (.bl true)) (tCons (tC (.bl false)) (tCons (tC (.str "1")) (tCons (tLst (tCons (tC (.int 1)) (tNil))) (tCons (tDNewK) (tNil)))))))) (tCall (sp__law_take K ca) [] E0 (tCons (uVar 0) (tCons (tC (.int 6)) (tNil))))) (gName 7)) (tRet (tOp (uEq2 K) (tCall (sp__law_told K ca) [] E0 (tCons (tC (.int 3)) (tCons (uVar 5) (tCons (uVar 7) (tNil))))) (tLst (tCons (tC (.str "integer")) (tCons (uVar 7) (tNil))))))))))))))))))))
def t__law_text (K : PySem.W.Frag) (ca : Nat → Addr) : TS := tSeq (tAsg (tLst (tCons (tCall (sp__law_take K ca) [] E0 (tCons (uVar 0) (tCons (tC (.int 12)) (tNil)))) (tCons (tCall (sp__law_take K ca) [] E0 (tCons (uVar 0) (tCons (tC (.int 1100)) (tNil)))) (tCons (tOp (uAdd K) (tOp uMul2 (tCall (sp__law_take K ca) [] E0 (tCons (uVar 0) (tCons (tOp uPow (tC (.int 10)) (tC (.int 8))) (tNil)))) (tOp uPow (tC (.int 10)) (tC (.int 21)))) (tCall (sp__law_take K ca) [] E0 (tCons (uVar 0) (tCons (tOp uPow (tC (.int 10)) (tC (.int 8))) (tNil))))) (tNil))))) (gName 1)) (tSeq (tAsg (tOp (uAdd K) (tOp (uIx K) (tLst (tCons (tC (.str "")) (tCons (tC (.str "-")) (tNil)))) (tCall (sp__law_take K ca) [] E0 (tCons (uVar 0) (tCons (tC (.int 2)) (tNil))))) (tCB uStr (tCons (tOp (uIx K) (uVar 1) (tCall (sp__law_take K ca) [] E0 (tCons (uVar 0) (tCons (tC (.int 3)) (tNil))))) (tNil)))) (gName 2)) (tSeq (tAsg (tCall (sp__law_take K ca) [] E0 (tCons (uVar 0) (tCons (tOp (uAdd K) (tCB (uLen K) (tCons (uVar 2) (tNil))) (tC (.int 1))) (tNil)))) (gName 3)) (tSeq (tAsg (tOp (uIx K) (tC (.str "0123456789-+ ._a\n")) (tCall (sp__law_take K ca) [] E0 (tCons (uVar 0) (tCons (tC (.int 17)) (tNil))))) (gName 4)) (tSeq (tAsg (tLst (tCons (uVar 2) (tCons (uVar 2) (tCons (tOp (uAdd K) (tOp (uAdd K) (L2.tSl (uSl K) (uVar 2) (tNoPart) (uPart (uVar 3))) (uVar 4)) (L2.tSl (uSl K) (uVar 2) (uPart (uVar 3)) (tNoPart))) (tCons (tOp (uAdd K) (tOp (uAdd K) (L2.tSl (uSl K) (uVar 2) (tNoPart) (uPart (uVar 3))) (uVar 4)) (L2.tSl (uSl K) (uVar 2) (uPart (tOp (uAdd K) (uVar 3) (tC (.int 1)))) (tNoPart))) (tCons (tOp (uAdd K) (tC (.str "0")) (uVar 2)) (tCons (tOp (uAdd K) (tC (.str "-")) (uVar 2)) (tCons (tC (.str "")) (tNil))))))))) (gName 5)) (tRet (tOp (uIx K) (uVar 5) (tCall (sp__law_take K ca) [] E0 (tCons (uVar 0) (tCons (tC (.int 7)) (tNil))))))))))
def t__law_value (K : PySem.W.Frag) (ca : Nat → Addr) : TS := tSeq (tAsg (uIf (uT (tOp (uEq2 K) (L2.tSl (uSl K) (uVar 0) (tNoPart) (uPart (tC (.int 1)))) (tC (.str "-")))) (L2.tSl (uSl K) (uVar 0) (uPart (tC (.int 1))) (tNoPart)) (uVar 0)) (gName 1)) (tSeq (uIfS (uOr (uT (tOp (uEq2 K) (uVar 1) (tC (.str "")))) (uT (tOp (uNe2 K) (tLc (uIter K (uVar 1)) (gName 3) (uT (tOp (uIn K true) (uVar 3) (tC (.str "0123456789")))) (uVar 3) [3]) (tLst (tNil))))) (tRet (tC .non)) (tNext)) (tSeq (uIfS (uAnd (uT (tOp (uEq2 K) (tOp (uIx K) (uVar 1) (tC (.int 0))) (tC (.str "0")))) (uT (tOp (uNe2 K) (uVar 0) (tC (.str "0"))))) (tRet (tC .non)) (tNext)) (tSeq (tAsg (tC (.int 0)) (gName 2)) (tSeq (tFor (uIter K (uVar 1)) (gName 3) (tAsg (tOp (uAdd K) (tOp uMul2 (tC (.int 10)) (uVar 2)) (tM1 uIndex (tC (.str "0123456789")) (uVar 3))) (gName 2))) (tRet (uIf (uT (tOp (uEq2 K) (tOp (uIx K) (uVar 0) (tC (.int 0))) (tC (.str "-")))) (tOp uSub (tC (.int 0)) (uVar 2)) (uVar 2)))))))
def t__law_number_right (K : PySem.W.Frag) (ca : Nat → Addr) : TS := tSeq (tAsg (tCall (sp__law_value K ca) [] E0 (tCons (uVar 0) (tNil))) (gName 3)) (tSeq (tAsg (uIf (uAnd (uT (tOp (uIs true) (uVar 3) (tC .non))) (uT (uChain uLe uLe (uVar 1) (uVar 3) (uVar 2)))) (uVar 3) (tC .non)) (gName 4)) (tSeq (uIfS (uT (tOp (uNe2 K) (tCB (uRepr K) (tCons (tCallN 1 2 (sp_parse_integer K ca) gV_parse_integer_low_high E0 (tCons (uVar 0) (tNil)) (tCons (uVar 1) (tCons (uVar 2) (tNil)))) (tNil))) (tCB (uRepr K) (tCons (uVar 4) (tNil))))) (tRet (tC (.bl false))) (tNext)) (tSeq (tFor (uIter K (tLst (tCons (tTup (tCons (tC (.int 0)) (tCons (tCall (sp_parse_integer K ca) [.int 0, .int 999] E0 (tCons (uVar 0) (tNil))) (tNil)))) (tCons (tTup (tCons (uVar 1) (tCons (tCallN 1 1 (sp_parse_integer K ca) gV_parse_integer_low E0 (tCons (uVar 0) (tNil)) (tCons (uVar 1) (tNil))) (tNil)))) (tNil))))) (gTup K 2 (gCons (gName 5) (gCons (gName 6) (gNil)))) (uIfS (uT (tOp (uNe2 K) (tCB (uRepr K) (tCons (uVar 6) (tNil))) (tCB (uRepr K) (tCons (uIf (uAnd (uT (tOp (uIs true) (uVar 3) (tC .non))) (uT (uChain uLe uLe (uVar 5) (uVar 3) (tC (.int 999))))) (uVar 3) (tC .non)) (tNil))))) (tRet (tC (.bl false))) (tNext))) (tSeq (tAsg (uIf (uAnd (uT (tOp (uIs true) (uVar 3) (tC .non))) (uT (uChain uLe uLe (tC (.int 0)) (uVar 3) (uVar 2)))) (uVar 3) (tC .non)) (gName 4)) (tRet (tOp (uEq2 K) (tCB (uRepr K) (tCons (tCallN 1 1 (sp_parse_integer K ca) gV_parse_integer_high E0 (tCons (uVar 0) (tNil)) (tCons (uVar 2) (tNil))) (tNil))) (tCB (uRepr K) (tCons (uVar 4) (tNil)))))))))
def t__law_words (K : PySem.W.Frag) (ca : Nat → Addr) : TS := tSeq (tPar2 1 2 (tCons (tLst (tNil)) (tCons (tC (.str "")) (tNil)))) (tSeq (tFor (uIter K (uVar 0)) (gName 3) (tSeq (uIfS (uOr (uT (tOp (uEq2 K) (uVar 3) (tC (.str "\n")))) (uAnd (uT (tOp (uEq2 K) (uVar 3) (tC (.str " ")))) (uT (tOp (uEq2 K) (uVar 2) (tC (.str "")))))) (tRet (tC .non)) (tNext)) (uIfS (uT (tOp (uEq2 K) (uVar 3) (tC (.str " ")))) (tSeq (tDrop (tBM K "list" uAppend (uVar 1) (tCons (uVar 2) (tNil)))) (tAsg (tC (.str "")) (gName 2))) (tAsg (tOp (uAdd K) (uVar 2) (uVar 3)) (gName 2))))) (tRet (uIf (uT (tOp (uEq2 K) (uVar 2) (tC (.str "")))) (tC .non) (tOp (uAdd K) (uVar 1) (tLst (tCons (uVar 2) (tNil)))))))
def t__law_line (K : PySem.W.Frag) (ca : Nat → Addr) : TS := tSeq (tAsg (tC (.str "abcdefghijklmnopqrstuvwxyz0123456789ABCDEFGHIJKLMNOPQRSTUVWXYZ!#$&()*+,-./:;<=>?\x40[]^_{|}~'")) (gName 1)) (tSeq (tAsg (tLst (tNil)) (gName 2)) (tSeq (tFor (iRng1 (tCons (tOp (uAdd K) (tC (.int 1)) (tCall (sp__law_take K ca) [] E0 (tCons (uVar 0) (tCons (tC (.int 5)) (tNil))))) (tNil))) (gName 3) (tDrop (tBM K "list" uAppend (uVar 2) (tCons (tM1 (uJoin K) (tC (.str "")) (tLc (iRng1 (tCons (tOp (uAdd K) (tC (.int 1)) (tCall (sp__law_take K ca) [] E0 (tCons (uVar 0) (tCons (tC (.int 4)) (tNil))))) (tNil))) (gName 7) (tYes) (tOp (uIx K) (uVar 1) (tCall (sp__law_take K ca) [] E0 (tCons (uVar 0) (tCons (tCB (uLen K) (tCons (uVar 1) (tNil))) (tNil))))) [7])) (tNil))))) (tSeq (tAsg (tM1 (uJoin K) (tC (.str " ")) (uVar 2)) (gName 4)) (tSeq (tAsg (tCall (sp__law_take K ca) [] E0 (tCons (uVar 0) (tCons (tOp (uAdd K) (tCB (uLen K) (tCons (uVar 4) (tNil))) (tC (.int 1))) (tNil)))) (gName 5)) (tSeq (tAsg (tLst (tCons (uVar 4) (tCons (uVar 4) (tCons (uVar 4) (tCons (tOp (uAdd K) (tC (.str " ")) (uVar 4)) (tCons (tOp (uAdd K) (uVar 4) (tC (.str " "))) (tCons (tOp (uAdd K) (tOp (uAdd K) (L2.tSl (uSl K) (uVar 4) (tNoPart) (uPart (uVar 5))) (tC (.str " "))) (L2.tSl (uSl K) (uVar 4) (uPart (uVar 5)) (tNoPart))) (tCons (tOp (uAdd K) (tOp (uAdd K) (L2.tSl (uSl K) (uVar 4) (tNoPart) (uPart (uVar 5))) (tC (.str "\n"))) (L2.tSl (uSl K) (uVar 4) (uPart (uVar 5)) (tNoPart))) (tCons (tC (.str "")) (tNil)))))))))) (gName 6)) (tRet (tOp (uIx K) (uVar 6) (tCall (sp__law_take K ca) [] E0 (tCons (uVar 0) (tCons (tC (.int 8)) (tNil)))))))))))
def t_law (K : PySem.W.Frag) (ca : Nat → Addr) : TS := tSeq (tFor (iRng1 (tCons (tCB uMax2 (tCons (tC (.int 1)) (tCons (tCB uMin2 (tCons (tC (.int 20)) (tCons (tCB (uLen K) (tCons (uVar 0) (tNil))) (tNil)))) (tNil)))) (tNil))) (gName 1) (tSeq (tAsg (tCall (sp__law_box K ca) [] E0 (tCons (tCall (sp__law_cell K ca) [] E0 (tCons (uVar 0) (tCons (uVar 1) (tNil)))) (tNil))) (gName 2)) (tSeq (tFor (iRng1 (tCons (tC (.int 3)) (tNil))) (gName 3) (tSeq (tAsg (tCall (sp__law_text K ca) [] E0 (tCons (uVar 2) (tNil))) (gName 4)) (tSeq (tAsg (tCall (sp__law_value K ca) [] E0 (tCons (uVar 4) (tNil))) (gName 5)) (tSeq (tAsg (uIf (uT (tOp (uIs false) (uVar 5) (tC .non))) (tC (.int 5)) (uVar 5)) (gName 6)) (tSeq (tAsg (tOp (uIx K) (tLst (tCons (tC (.int 0)) (tCons (tOp uSub (uVar 6) (tC (.int 1))) (tCons (uVar 6) (tCons (tOp (uAdd K) (uVar 6) (tC (.int 1))) (tCons (tUn uNeg (tC (.int 3))) (tNil))))))) (tCall (sp__law_take K ca) [] E0 (tCons (uVar 2) (tCons (tC (.int 5)) (tNil))))) (gName 7)) (tSeq (tAsg (tOp (uIx K) (tLst (tCons (uVar 6) (tCons (tOp uSub (uVar 6) (tC (.int 1))) (tCons (tOp (uAdd K) (uVar 6) (tC (.int 1))) (tCons (tOp uPow (tC (.int 10)) (tC (.int 29))) (tCons (tC (.int 0)) (tNil))))))) (tCall (sp__law_take K ca) [] E0 (tCons (uVar 2) (tCons (tC (.int 5)) (tNil))))) (gName 8)) (tSeq (uIfS (uOr (uNot (uT (tCall (sp__law_marks_right K ca) [] E0 (tCons (uVar 2) (tNil))))) (uNot (uT (tCall (sp__law_number_right K ca) [] E0 (tCons (uVar 4) (tCons (uVar 7) (tCons (uVar 8) (tNil)))))))) (tRet (tC (.bl false))) (tNext)) (tSeq (tAsg (tCall (sp__law_line K ca) [] E0 (tCons (uVar 2) (tNil))) (gName 9)) (tFor (iRng1 (tCons (tC (.int 2)) (tNil))) (gName 10) (tSeq (tAsg (tCall (sp_split_words K ca) [] E0 (tCons (uVar 9) (tNil))) (gName 11)) (tSeq (uIfS (uT (tOp (uNe2 K) (tCB (uRepr K) (tCons (uVar 11) (tNil))) (tCB (uRepr K) (tCons (tCall (sp__law_words K ca) [] E0 (tCons (uVar 9) (tNil))) (tNil))))) (tRet (tC (.bl false))) (tNext)) (uIfS (uT (tOp (uIs true) (uVar 11) (tC .non))) (tDrop (tBM K "list" uAppend (uVar 11) (tCons (tC (.str "more")) (tNil)))) (tNext))))))))))))) (tFor (uIter K (tLst (tCons (tC .non) (tCons (tC (.int 5)) (tCons (tC (.bl true)) (tCons (tLst (tCons (tC (.str "5")) (tNil))) (tCons (tTup (tCons (tC (.str "5")) (tNil))) (tCons (tDNewK) (tCons (tDisp [(tC (.str "5"), tC (.int 5))]) (tCons (tLst (tCons (tC (.str "a")) (tCons (tC (.str "b")) (tNil)))) (tNil))))))))))) (gName 12) (uIfS (uOr (uT (tOp (uIs true) (tCallN 1 2 (sp_parse_integer K ca) gV_parse_integer_low_high E0 (tCons (uVar 12) (tNil)) (tCons (tC (.int 0)) (tCons (tC (.int 9)) (tNil)))) (tC .non))) (uT (tOp (uIs true) (tCall (sp_split_words K ca) [] E0 (tCons (uVar 12) (tNil))) (tC .non)))) (tRet (tC (.bl false))) (tNext)))))) (tRet (tC (.bl true)))
structure Ct (K : PySem.W.Frag) (ca : Nat → Addr) : Prop where
  yes : True
  x_InvalidMark : XfC K (ca 2)
  n_InvalidMark : PySem.W.findIn K (.ref (ca 2)) "value" = some none
  x_InvalidInteger : XfC K (ca 3)
  n_InvalidInteger : PySem.W.findIn K (.ref (ca 3)) "value" = some none
  e_InvalidInteger_InvalidInteger : PySem.W.exmOne K (.ref (ca 3)) (.ref (ca 3)) = some true
  e_InvalidInteger_InvalidMark : PySem.W.exmOne K (.ref (ca 3)) (.ref (ca 2)) = some false
  e_InvalidMark_InvalidInteger : PySem.W.exmOne K (.ref (ca 2)) (.ref (ca 3)) = some false
  e_InvalidMark_InvalidMark : PySem.W.exmOne K (.ref (ca 2)) (.ref (ca 2)) = some true
structure Tx (K : PySem.W.Frag) (mg : Str → Option Value) (a : Nat → Addr) (d : Nat → FuncData) (ca : Nat → Addr) : Prop where
  ct : Ct K ca
  f_is_mark : Fun K "is_mark" "is_mark" s_is_mark (a 0) (d 0)
  b_is_mark : Binds K (d 0) P_is_mark []
  m_is_mark : mg "is_mark" = some (.ref (a 0))
  f_need_mark : Fun K "need_mark" "need_mark" s_need_mark (a 1) (d 1)
  b_need_mark : Binds K (d 1) P_need_mark []
  m_need_mark : mg "need_mark" = some (.ref (a 1))
  f_kind_of : Fun K "kind_of" "kind_of" s_kind_of (a 2) (d 2)
  b_kind_of : Binds K (d 2) P_kind_of []
  m_kind_of : mg "kind_of" = some (.ref (a 2))
  f_indent_of : Fun K "indent_of" "indent_of" s_indent_of (a 3) (d 3)
  b_indent_of : Binds K (d 3) P_indent_of []
  m_indent_of : mg "indent_of" = some (.ref (a 3))
  f_break_of : Fun K "break_of" "break_of" s_break_of (a 4) (d 4)
  b_break_of : Binds K (d 4) P_break_of []
  m_break_of : mg "break_of" = some (.ref (a 4))
  f_all_marks : Fun K "all_marks" "all_marks" s_all_marks (a 5) (d 5)
  b_all_marks : Binds K (d 5) P_all_marks []
  m_all_marks : mg "all_marks" = some (.ref (a 5))
  f_mark_place : Fun K "mark_place" "mark_place" s_mark_place (a 6) (d 6)
  b_mark_place : Binds K (d 6) P_mark_place []
  m_mark_place : mg "mark_place" = some (.ref (a 6))
  f_parse_integer : FunD K "parse_integer" "parse_integer" (defArgs s_parse_integer) (defBody s_parse_integer) (defScope s_parse_integer) [] [("low", .int 0), ("high", .int 999)] (a 7) (d 7)
  b_parse_integer : ∃ ds, Vals [.int 0, .int 999] ds ∧ Binds K (d 7) P_parse_integer ds
  k_parse_integer_high : ∃ gg, KBn K (d 7) P_parse_integer 1 ["high"] gg gV_parse_integer_high
  k_parse_integer_low : ∃ gg, KBn K (d 7) P_parse_integer 1 ["low"] gg gV_parse_integer_low
  k_parse_integer_low_high : ∃ gg, KBn K (d 7) P_parse_integer 1 ["low", "high"] gg gV_parse_integer_low_high
  m_parse_integer : mg "parse_integer" = some (.ref (a 7))
  f_split_words : Fun K "split_words" "split_words" s_split_words (a 8) (d 8)
  b_split_words : Binds K (d 8) P_split_words []
  m_split_words : mg "split_words" = some (.ref (a 8))
  f__law_cell : Fun K "_law_cell" "_law_cell" s__law_cell (a 9) (d 9)
  b__law_cell : Binds K (d 9) P__law_cell []
  m__law_cell : mg "_law_cell" = some (.ref (a 9))
  f__law_box : Fun K "_law_box" "_law_box" s__law_box (a 10) (d 10)
  b__law_box : Binds K (d 10) P__law_box []
  m__law_box : mg "_law_box" = some (.ref (a 10))
  f__law_take : Fun K "_law_take" "_law_take" s__law_take (a 11) (d 11)
  b__law_take : Binds K (d 11) P__law_take []
  m__law_take : mg "_law_take" = some (.ref (a 11))
  f__law_marks : Fun K "_law_marks" "_law_marks" s__law_marks (a 12) (d 12)
  b__law_marks : Binds K (d 12) P__law_marks []
  m__law_marks : mg "_law_marks" = some (.ref (a 12))
  f__law_told : Fun K "_law_told" "_law_told" s__law_told (a 13) (d 13)
  b__law_told : Binds K (d 13) P__law_told []
  m__law_told : mg "_law_told" = some (.ref (a 13))
  f__law_marks_right : Fun K "_law_marks_right" "_law_marks_right" s__law_marks_right (a 14) (d 14)
  b__law_marks_right : Binds K (d 14) P__law_marks_right []
  m__law_marks_right : mg "_law_marks_right" = some (.ref (a 14))
  f__law_text : Fun K "_law_text" "_law_text" s__law_text (a 15) (d 15)
  b__law_text : Binds K (d 15) P__law_text []
  m__law_text : mg "_law_text" = some (.ref (a 15))
  f__law_value : Fun K "_law_value" "_law_value" s__law_value (a 16) (d 16)
  b__law_value : Binds K (d 16) P__law_value []
  m__law_value : mg "_law_value" = some (.ref (a 16))
  f__law_number_right : Fun K "_law_number_right" "_law_number_right" s__law_number_right (a 17) (d 17)
  b__law_number_right : Binds K (d 17) P__law_number_right []
  m__law_number_right : mg "_law_number_right" = some (.ref (a 17))
  f__law_words : Fun K "_law_words" "_law_words" s__law_words (a 18) (d 18)
  b__law_words : Binds K (d 18) P__law_words []
  m__law_words : mg "_law_words" = some (.ref (a 18))
  f__law_line : Fun K "_law_line" "_law_line" s__law_line (a 19) (d 19)
  b__law_line : Binds K (d 19) P__law_line []
  m__law_line : mg "_law_line" = some (.ref (a 19))
  f_law : Fun K "law" "law" s_law (a 20) (d 20)
  b_law : Binds K (d 20) P_law []
  m_law : mg "law" = some (.ref (a 20))
  x_InvalidMark : U.ExcC K mg "InvalidMark" "value" (ca 2) (a 21)
  F_InvalidMark : Fun K "__init__" "InvalidMark.__init__" sI_InvalidMark (a 21) (d 21)
  i_InvalidMark : Binds K (d 21) ["self", "value"] []
  m_InvalidMark : mg "InvalidMark" = some (.ref (ca 2))
  x_InvalidInteger : U.ExcC K mg "InvalidInteger" "value" (ca 3) (a 22)
  F_InvalidInteger : Fun K "__init__" "InvalidInteger.__init__" sI_InvalidInteger (a 22) (d 22)
  i_InvalidInteger : Binds K (d 22) ["self", "value"] []
  m_InvalidInteger : mg "InvalidInteger" = some (.ref (ca 3))
  y_ReflowError : U.BaseC K (ca 0)
  w_ReflowError : mg "ReflowError" = some (.ref (ca 0))
  z_all : mg "all" = none
  z_bool : mg "bool" = none
  z_int : mg "int" = none
  z_isinstance : mg "isinstance" = none
  z_len : mg "len" = none
  z_max : mg "max" = none
  z_min : mg "min" = none
  z_range : mg "range" = none
  z_repr : mg "repr" = none
  z_str : mg "str" = none
  c_KINDS : ∃ t, mg "KINDS" = some (.str "#|/" t)
  c_MOST_INDENT : ∃ t, mg "MOST_INDENT" = some (.int (3) t)
local macro_rules | `(tactic| walk_at "u") => `(tactic| dsimp only [tNext, tSeq, tRet, tRetN, tCB, tCons, tNil, tAsg, tDrop, tCall, tCallS, tCallN, tM1, tBM, tTup, tLst, tC, tOp, tUn, uT, uNot, uAnd, uOr, uIfS, uIf, uAndV, uOrV, uNotV, uChain, gSub, tPar2, uIsi, uTry, uRaise, uMk, List.nil_append, List.cons_append])
theorem len_is_mark {K ca vs H Q E} (h : sp_is_mark K ca vs H Q E) : vs.length = P_is_mark.length := by obtain ⟨v, rfl, _⟩ := h; rfl
theorem p_is_mark {K ca vs H Q E} (T : Ct K ca) (h : sp_is_mark K ca vs H Q E) : t_is_mark K ca { nx := fun _ H' => Q .non H', rt := Q } (start N_is_mark vs) H := by
  obtain ⟨v, rfl, ⟨hk, hs⟩, q⟩ := h
  cases v with
  | str z =>
    have hs : z.length ≤ 1000 := hs
    have q : Q (V.bl (isMark z)) H := q
    show bV (.bl (decide (V.str z = V.str " "))) _ _
    rw [eq_blank]
    refine bV_d (fun h1 => ?_) (fun h1 => ?_)
    · have e : isMark z = true := by unfold isMark; rw [h1]; rfl
      rw [e] at q
      exact q
    · refine ⟨by rw [sizeLine_eq]; omega, ?_⟩
      show bV (.bl (decide (V.int (z.length : Int) = V.int 2))) _ _
      refine bV_d (fun h2 => ?_) (fun h2 => ?_)
      · injection h2 with h2
        have h2 : z.length = 2 := by omega
        have h3 : z.cps.toList.length = 2 := h2
        obtain ⟨k, i, e⟩ : ∃ k i, z.cps.toList = [k, i] := by
          match hz : z.cps.toList, h3 with
          | [k, i], _ => exact ⟨k, i, rfl⟩
        rw [isMark_two e] at q
        refine ⟨by rw [sizeLine_eq]; omega, ?_⟩
        have a0 : atI z.cps.toList 0 = some k := by rw [e]; rfl
        have a1 : atI z.cps.toList 1 = some i := by rw [e]; rfl
        refine oK_of a0 ?_
        show bV (.bl (decide (k ∈ (Str.ofString "#|/").cps.toList))) _ _
        rw [cps_kinds]
        refine bV_d (fun h4 => ?_) (fun h4 => ?_)
        · refine ⟨by rw [sizeLine_eq]; omega, oK_of a1 ?_⟩
          show Q (.bl (decide (i ∈ (Str.ofString "0123").cps.toList))) H
          rw [cps_digits]
          rw [decide_eq_true h4, Bool.true_and] at q
          exact q
        · rw [decide_eq_false h4, Bool.false_and] at q
          exact q
      · have h2 : z.length ≠ 2 := fun e => h2 (by rw [e]; rfl)
        rw [isMark_other h1 h2] at q
        exact q
  | ref a =>
    obtain ⟨t, e, ht⟩ := tyOf_ref hk
    refine oK_of e ?_
    rcases ht with rfl | rfl | rfl <;> exact q
  | non => exact q
  | bl b => exact q
  | int z => exact q
  | byt b => cases hk
  | flt b => cases hk
  | ty b => cases hk
theorem len_need_mark {K ca vs H Q E} (h : sp_need_mark K ca vs H Q E) : vs.length = P_need_mark.length := by obtain ⟨v, rfl, _⟩ := h; rfl
theorem p_need_mark {K ca vs H Q E} (T : Ct K ca) (h : sp_need_mark K ca vs H Q E) : t_need_mark K ca E { nx := fun _ H' => Q .non H', rt := Q } (start N_need_mark vs) H := by
  obtain ⟨v, rfl, hk, q, r⟩ := h
  refine ⟨v, rfl, hk, ?_⟩
  show bB (!markV v) _ _
  refine bB_of (fun h1 => ?_) (fun h1 => ?_)
  · exact r (by simpa using h1)
  · exact q (by simpa using h1)
/-- a mark's signs -/
theorem at_kind {z : Str} (hs : z.length ≤ 1000) (h : isMark z = true) {Q : VK} {H : Hp} (q : Q (kindOf (.str z)) H) {K : PySem.W.Frag} : uIx K (.str z) (.int 0) H Q := by
  refine ⟨by rw [sizeLine_eq]; omega, ?_⟩
  rcases mark_forms h with e | ⟨k, i, e, _, _⟩
  · refine oK_of (x := 32) (by rw [e]; rfl) ?_
    have e2 : kindOf (.str z) = V.str ⟨#[32]⟩ := by show V.str ⟨#[(sl z).headD 0]⟩ = _; rw [show sl z = [32] from e]; rfl
    rw [e2] at q; exact q
  · refine oK_of (x := k) (by rw [e]; rfl) ?_
    have e2 : kindOf (.str z) = V.str ⟨#[k]⟩ := by show V.str ⟨#[(sl z).headD 0]⟩ = _; rw [show sl z = [k, i] from e]; rfl
    rw [e2] at q; exact q
theorem mark_str {v : V} (h : markV v = true) : ∃ z, v = .str z ∧ isMark z = true := by
  cases v with
  | str z => exact ⟨z, rfl, h⟩
  | _ => cases h
theorem len_kind_of {K ca vs H Q E} (h : sp_kind_of K ca vs H Q E) : vs.length = P_kind_of.length := by obtain ⟨v, rfl, _⟩ := h; rfl
theorem p_kind_of {K ca vs H Q E} (T : Ct K ca) (h : sp_kind_of K ca vs H Q E) : t_kind_of K ca E { nx := fun _ H' => Q .non H', rt := Q } (start N_kind_of vs) H := by
  obtain ⟨v, rfl, hk, q, r⟩ := h
  refine ⟨v, rfl, hk, fun h1 => ?_, r⟩
  obtain ⟨z, rfl, h2⟩ := mark_str h1
  exact at_kind (K := K) hk.2 h2 (q h1)
/-- int of a digit -/
theorem int_one {c : Nat} (h : c ∈ [48, 49, 50, 51]) {Q : VK} {H : Hp} (q : Q (.int ((c : Int) - 48)) H) : uInt [.str ⟨#[c]⟩] H Q := by
  refine ⟨by show 1 ≤ 640; decide, ?_⟩
  have e : PySem.intText? (SX.S [c]) = some ((c : Int) - 48) := by
    rw [SX.int_S (a := [c]) ?_ (by simp) (by show 1 ≤ 4300; decide)]
    · have : ((NumText.digitsVal [c] : Nat) : Int) = (c : Int) - 48 := by
        show (((0 * 10 + (c - 48) : Nat)) : Int) = _
        simp only [List.mem_cons, List.not_mem_nil, or_false] at h
        omega
      rw [this]
    · simp only [List.mem_cons, List.not_mem_nil, or_false] at h
      simp
      omega
  exact oK_of e q
theorem len_indent_of {K ca vs H Q E} (h : sp_indent_of K ca vs H Q E) : vs.length = P_indent_of.length := by obtain ⟨v, rfl, _⟩ := h; rfl
theorem p_indent_of {K ca vs H Q E} (T : Ct K ca) (h : sp_indent_of K ca vs H Q E) : t_indent_of K ca E { nx := fun _ H' => Q .non H', rt := Q } (start N_indent_of vs) H := by
  obtain ⟨v, rfl, hk, q, r⟩ := h
  refine ⟨v, rfl, hk, fun h1 => ?_, r⟩
  obtain ⟨z, rfl, h2⟩ := mark_str h1
  have hs : z.length ≤ 1000 := hk.2
  have q : Q (.int (indL (sl z))) H := q h1
  show bB (decide (V.str z = V.str " ")) _ _
  rw [eq_blank]
  rcases mark_forms h2 with e | ⟨k, i, e, hk2, hi⟩
  · refine bB_t (decide_eq_true e) ?_
    rw [show sl z = [32] from e] at q
    exact q
  · refine bB_f (decide_eq_false (by rw [e]; simp)) ?_
    rw [show sl z = [k, i] from e] at q
    refine ⟨by rw [sizeLine_eq]; omega, oK_of (x := i) (by rw [e]; rfl) ?_⟩
    exact int_one hi q
theorem occ_kind {k : Nat} (h : k ∈ [35, 124, 47]) : ∃ rest, Builtin.Str.occurrences "#|/" ⟨#[k]⟩ 0 (Str.ofString "#|/").length 1 = (kNo k).toNat :: rest := by
  simp only [List.mem_cons, List.not_mem_nil, or_false] at h
  rcases h with rfl | rfl | rfl
  · exact ⟨[], by decide +kernel⟩
  · exact ⟨[], by decide +kernel⟩
  · exact ⟨[], by decide +kernel⟩
theorem len_mark_place {K ca vs H Q E} (h : sp_mark_place K ca vs H Q E) : vs.length = P_mark_place.length := by obtain ⟨v, rfl, _⟩ := h; rfl
theorem p_mark_place {K ca vs H Q E} (T : Ct K ca) (h : sp_mark_place K ca vs H Q E) : t_mark_place K ca E { nx := fun _ H' => Q .non H', rt := Q } (start N_mark_place vs) H := by
  obtain ⟨v, rfl, hk, q, r⟩ := h
  refine ⟨v, rfl, hk, fun h1 => ?_, r⟩
  obtain ⟨z, rfl, h2⟩ := mark_str h1
  have hs : z.length ≤ 1000 := hk.2
  have q : Q (.int (plaL (sl z))) H := q h1
  show bB (decide (V.str z = V.str " ")) _ _
  rw [eq_blank]
  rcases mark_forms h2 with e | ⟨k, i, e, hk2, hi⟩
  · refine bB_t (decide_eq_true e) ?_
    rw [show sl z = [32] from e] at q
    exact q
  · refine bB_f (decide_eq_false (by rw [e]; simp)) ?_
    rw [show sl z = [k, i] from e] at q
    refine ⟨⟨_, rfl⟩, by rw [sizeLine_eq]; omega, oK_of (x := k) (by rw [e]; rfl) ?_⟩
    obtain ⟨rest, eo⟩ := occ_kind hk2
    refine ⟨_, rest, eo, ⟨.inl ⟨by decide, by decide⟩, ?_⟩⟩
    refine ⟨by rw [sizeLine_eq]; omega, oK_of (x := i) (by rw [e]; rfl) ?_⟩
    dsimp only [tNil]
    refine int_one hi ?_
    have e2 : ((kNo k).toNat : Int) = kNo k := by unfold kNo; split <;> (try split) <;> rfl
    show Q (.int (1 + 4 * ((kNo k).toNat : Int) + ((i : Int) - 48))) H
    rw [e2]
    exact q
theorem kindV_str (z : Str) : kindV (.str z) = (match sl z with | [c] => decide (c ∈ [35, 124, 47]) | _ => false) := rfl
theorem text_of_clip (i : Int) : Str.ofString (toString (if (if i > 0 then i else 0) < 3 then (if i > 0 then i else 0) else 3 : Int)) = ⟨#[48 + clip i]⟩ := by
  have h : (if (if i > 0 then i else 0) < 3 then (if i > 0 then i else 0) else 3 : Int) = (clip i : Int) ∧ clip i ≤ 3 := by
    unfold clip
    by_cases h1 : i < 0
    · rw [if_pos h1, if_neg (show ¬ i > 0 by omega)]; decide
    · rw [if_neg h1]
      by_cases h2 : i < 3
      · rw [if_pos h2]
        by_cases h3 : i > 0
        · rw [if_pos h3, if_pos h2]; omega
        · rw [if_neg h3]; constructor
          · show (0 : Int) = _; omega
          · omega
      · rw [if_neg h2, if_pos (show i > 0 by omega), if_neg h2]; decide
  rw [h.1]
  have h2 := h.2
  generalize clip i = n at h2
  match n, h2 with
  | 0, _ => decide +kernel
  | 1, _ => decide +kernel
  | 2, _ => decide +kernel
  | 3, _ => decide +kernel
theorem len_break_of {K ca vs H Q E} (h : sp_break_of K ca vs H Q E) : vs.length = P_break_of.length := by obtain ⟨v, u, rfl, _⟩ := h; rfl
/-- the second half of break_of -/
theorem brk_rest {K ca H} {Q : VK} {E : XK} {v u : V} (hu : Kn H u) (r : intV u = false → Rs ca 3 u H E) (q : ∀ i, u = .int i → Q (brkV v i) H) (hk : ∃ z, v = .str z ∧ z.length ≤ 1000) :
    tSeq (uIfS (uOr (uNot (uT (uIsi .int (uVar 1)))) (uT (uIsi .bl (uVar 1)))) (uRaise (ca 3) "value" E (tCons (uVar 1) (tNil))) (tNext)) (tRet (tOp (uAdd K) (uVar 0) (tCB uStr (tCons (tCB uMin2 (tCons (tCB uInt (tCons (tC (.int 3)) (tNil))) (tCons (tCB uMax2 (tCons (tC (.int 0)) (tCons (tCB uInt (tCons (uVar 1) (tNil))) (tNil)))) (tNil)))) (tNil)))))
      { nx := fun _ H' => Q .non H', rt := Q } [some v, some u] H := by
  obtain ⟨z, rfl, hz⟩ := hk
  cases u with
  | int i =>
    have q := q i rfl
    have q : Q (.str (z ++ ⟨#[48 + clip i]⟩)) H := q
    refine ⟨?_, ?_, ?_⟩
    · show (if (if i > 0 then i else 0) < 3 then (if i > 0 then i else 0) else 3 : Int).natAbs.log2 < 1920
      exact log_small (by split <;> (try split) <;> omega) (by split <;> (try split) <;> omega)
    · show z.length + (Str.ofString (toString (if (if i > 0 then i else 0) < 3 then (if i > 0 then i else 0) else 3 : Int))).length ≤ sizeLine
      rw [text_of_clip]
      show z.length + 1 ≤ sizeLine
      rw [sizeLine_eq]; omega
    · show Q (.str (z ++ Str.ofString (toString (if (if i > 0 then i else 0) < 3 then (if i > 0 then i else 0) else 3 : Int)))) H
      rw [text_of_clip]
      exact q
  | ref a =>
    obtain ⟨t, e, ht⟩ := tyOf_ref hu.1
    refine oK_of e ?_
    rcases ht with rfl | rfl | rfl <;> exact r rfl
  | non => exact r rfl
  | bl b => exact r rfl
  | str z => exact r rfl
  | byt b => cases hu.1
  | flt b => cases hu.1
  | ty b => cases hu.1
theorem p_break_of {K ca vs H Q E} (T : Ct K ca) (h : sp_break_of K ca vs H Q E) : t_break_of K ca E { nx := fun _ H' => Q .non H', rt := Q } (start N_break_of vs) H := by
  obtain ⟨v, u, rfl, hk, hu, r1, r2, q⟩ := h
  cases v with
  | str z =>
    have hs : z.length ≤ 1000 := hk.2
    refine ⟨by rw [sizeLine_eq]; omega, ?_⟩
    show bB (!decide (V.int (z.length : Int) = V.int 1)) _ _
    refine bB_n (fun h1 => ?_) (fun h1 => ?_)
    · refine r1 ?_
      rw [kindV_str]
      have h1 : (sl z).length ≠ 1 := fun e => h1 (by show V.int ((sl z).length : Int) = _; rw [e]; rfl)
      generalize sl z = l at h1
      match l, h1 with
      | [], _ => rfl
      | [c], h1 => exact absurd rfl h1
      | _ :: _ :: _, _ => rfl
    · injection h1 with h1
      have h1 : (sl z).length = 1 := by have : ((sl z).length : Int) = 1 := h1; omega
      obtain ⟨c, e⟩ : ∃ c, sl z = [c] := by
        match hz : sl z, h1 with
        | [c], _ => exact ⟨c, rfl⟩
      have ek : kindV (.str z) = decide (c ∈ [35, 124, 47]) := by rw [kindV_str, e]
      have ez := str_one e
      subst ez
      show bB (!decide (c ∈ (Str.ofString "#|/").cps.toList)) _ _
      rw [cps_kinds]
      refine bB_n (fun h2 => ?_) (fun h2 => ?_)
      · exact r1 (by rw [ek]; exact decide_eq_false h2)
      · have hkt : kindV (.str ⟨#[c]⟩) = true := by rw [ek]; exact decide_eq_true h2
        exact brk_rest hu (r2 hkt) (fun i hi => q i hkt hi) ⟨_, rfl, hs⟩
  | ref a =>
    obtain ⟨t, e, ht⟩ := tyOf_ref hk.1
    refine oK_of e ?_
    rcases ht with rfl | rfl | rfl <;> exact r1 rfl
  | non => exact r1 rfl
  | bl b => exact r1 rfl
  | int z => exact r1 rfl
  | byt b => cases hk.1
  | flt b => cases hk.1
  | ty b => cases hk.1

theorem len__law_cell {K ca vs H Q E} (h : sp__law_cell K ca vs H Q E) : vs.length = P__law_cell.length := by obtain ⟨a, ns, k, rfl, _⟩ := h; rfl
theorem p__law_cell {K ca vs H Q E} (T : Ct K ca) (h : sp__law_cell K ca vs H Q E) : t__law_cell K ca { nx := fun _ H' => Q .non H', rt := Q } (start N__law_cell vs) H := by
  obtain ⟨a, ns, k, rfl, hS, h0, h1, q⟩ := h
  refine oS_l hS.sq ?_
  show bB (decide (k < ((ns.map V.int).length : Int))) _ _
  refine bB_d (fun hlt => ?_) (fun hlt => ?_)
  · rw [List.length_map] at hlt
    have hj : k.toNat < ns.length := by omega
    have ha : atI (ns.map V.int) k = some (V.int ns[k.toNat]) := at_of (show k = (k.toNat : Int) by omega) (by rw [List.getElem?_map]; simp [hj])
    exact oS_l hS.sq (oK_of ha (q _))
  · refine ⟨.inl ⟨by decide, by decide⟩, ?_⟩
    exact q _
theorem len__law_box {K ca vs H Q E} (h : sp__law_box K ca vs H Q E) : vs.length = P__law_box.length := by obtain ⟨c, rfl, _⟩ := h; rfl
theorem p__law_box {K ca vs H Q E} (T : Ct K ca) (h : sp__law_box K ca vs H Q E) : t__law_box K ca { nx := fun _ H' => Q .non H', rt := Q } (start N__law_box vs) H := by
  obtain ⟨c, rfl, q⟩ := h
  refine ⟨⟨by decide, by decide, by decide⟩, ?_⟩
  refine ⟨by decide, by show 3 ≤ sizeLine; decide, fun p hp => ?_⟩
  refine q p _ hp (Ex.new hp) ⟨_, _, _, upd_same, ?_, ?_, ?_, by decide, by decide⟩
  · split <;> omega
  · exact Int.emod_nonneg _ (by decide)
  · exact Int.emod_lt_of_pos _ (by decide)
theorem len__law_take {K ca vs H Q E} (h : sp__law_take K ca vs H Q E) : vs.length = P__law_take.length := by obtain ⟨b, m, n, rfl, _⟩ := h; rfl
theorem p__law_take {K ca vs H Q E} (T : Ct K ca) (h : sp__law_take K ca vs H Q E) : t__law_take K ca { nx := fun _ H' => Q .non H', rt := Q } (start N__law_take vs) H := by
  obtain ⟨b, m, n, rfl, ⟨x, y, z, hb, hx, hy, hy2, hz, hzn⟩, hn, hm, hm2, q⟩ := h
  have fr : ∀ l, Fr b H (upd H b (.lst l)) := fun l a o e hne => by rw [upd_ne hne]; exact e
  refine oS_of (rdS_l hb) (oK_of rfl ?_)
  show bB (decide (0 < x)) _ _
  refine bB_d (fun hlt => ?_) (fun hlt => ?_)
  · refine oS_of (rdS_l hb) (oK_of rfl ?_)
    refine ⟨hm, ?_⟩
    refine oS_of (rdS_l hb) (oK_of rfl ?_)
    refine ⟨⟨hm, by omega⟩, ?_⟩
    refine oK_of (mutL_of hb) (oK_of rfl ?_)
    refine q _ _ (Int.emod_nonneg _ (by omega)) (Int.emod_lt_of_pos _ hm) ⟨x / m, y, z, upd_same, ?_, hy, hy2, hz, by omega⟩ (fr _)
    exact Int.ediv_nonneg hx (by omega)
  · refine oS_of (rdS_l hb) (oK_of rfl ?_)
    refine oK_of (mutL_of hb) (oK_of rfl ?_)
    have hb2 : (upd H b (.lst [.int x, .int y, .int (z + 1)])) b = some (.lst [.int x, .int y, .int (z + 1)]) := upd_same
    refine oS_of (rdS_l hb2) (oK_of rfl ?_)
    refine oS_of (rdS_l hb2) (oK_of rfl ?_)
    refine ⟨.inl ⟨by decide, by decide⟩, ?_⟩
    refine ⟨⟨by decide, by decide, by omega⟩, by decide, ?_⟩
    refine oS_of (rdS_l hb2) (oK_of rfl ?_)
    refine ⟨.inl ⟨by decide, by decide⟩, ?_⟩
    have e1 := Int.emod_nonneg ((y + 7919 * (z + 1) + 43) ^ Int.toNat 5) (show (2147483647 : Int) ≠ 0 by decide)
    have e2 := Int.emod_lt_of_pos ((y + 7919 * (z + 1) + 43) ^ Int.toNat 5) (show (0 : Int) < 2147483647 by decide)
    refine ⟨⟨by decide, by decide, by omega⟩, by decide, ?_⟩
    refine ⟨⟨by decide, by decide⟩, hm, ?_⟩
    exact q _ _ (Int.emod_nonneg _ (by omega)) (Int.emod_lt_of_pos _ hm) ⟨x, y, z + 1, upd_same, hx, hy, hy2, by omega, by omega⟩ (fr _)
/-! all the marks -/
theorem marks_at (i k : Nat) (hi : i < 3) (hk : k < 4) : ∃ c, (sl "#|/")[i]? = some c ∧ marks[1 + 4 * i + k]? = some (⟨#[c]⟩ ++ Str.ofString (toString (k : Int))) := by
  match i, k, hi, hk with
  | 0, 0, _, _ => exact ⟨35, by decide +kernel, by decide +kernel⟩
  | 0, 1, _, _ => exact ⟨35, by decide +kernel, by decide +kernel⟩
  | 0, 2, _, _ => exact ⟨35, by decide +kernel, by decide +kernel⟩
  | 0, 3, _, _ => exact ⟨35, by decide +kernel, by decide +kernel⟩
  | 1, 0, _, _ => exact ⟨124, by decide +kernel, by decide +kernel⟩
  | 1, 1, _, _ => exact ⟨124, by decide +kernel, by decide +kernel⟩
  | 1, 2, _, _ => exact ⟨124, by decide +kernel, by decide +kernel⟩
  | 1, 3, _, _ => exact ⟨124, by decide +kernel, by decide +kernel⟩
  | 2, 0, _, _ => exact ⟨47, by decide +kernel, by decide +kernel⟩
  | 2, 1, _, _ => exact ⟨47, by decide +kernel, by decide +kernel⟩
  | 2, 2, _, _ => exact ⟨47, by decide +kernel, by decide +kernel⟩
  | 2, 3, _, _ => exact ⟨47, by decide +kernel, by decide +kernel⟩
theorem rest_take {n : Nat} {z : Str} (h : marks[1 + n]? = some z) : ((marks.drop 1).take (n + 1)).map V.str = ((marks.drop 1).take n).map V.str ++ [V.str z] := by
  rw [List.take_add_one, List.getElem?_drop, h, List.map_append]
  rfl
theorem len_all_marks {K ca vs H Q E} (h : sp_all_marks K ca vs H Q E) : vs.length = P_all_marks.length := by obtain ⟨rfl, _⟩ := h; rfl
theorem p_all_marks {K ca vs H Q E} (T : Ct K ca) (h : sp_all_marks K ca vs H Q E) : t_all_marks K ca { nx := fun _ H' => Q .non H', rt := Q } (start N_all_marks vs) H := by
  obtain ⟨rfl, q⟩ := h
  refine ⟨by decide, fun p hp => ?_⟩
  have e0 : Ex H (upd H p (.lst [.str " "])) := Ex.new hp
  walk_at "u"
  refine lc2s (.str "#|/") (fun R h => h) trivial (fun D i H' => (upd H p (.lst [.str " "])) D = none ∧ Ex (upd H p (.lst [.str " "])) H' ∧ H' D = some (.lst (((marks.drop 1).take (4 * i)).map V.str))) (fun D hD => ⟨hD, Ex.new hD, upd_same⟩) (fun _ _ _ _ _ => trivial) ?_ ?_
  · rintro D i y H1 hy ⟨hD, e1, hl⟩
    have hi : i < 3 := by
      have := (List.getElem?_eq_some_iff.mp hy).1
      have e : (chars "#|/").length = 3 := by decide +kernel
      omega
    refine ⟨rfl, ?_⟩
    dsimp only [tYes]
    rw [if_pos rfl]
    refine ⟨4, rfl, by decide, by decide, ?_⟩
    dsimp only
    refine in_it (g := gName 1) (tt := tYes) (vs := [1]) (D := D) (te := tOp (uAdd K) (uVar 0) (tCB uStr (tCons (uVar 1) (tNil)))) (walk_range (lo := 0) (n := Int.toNat 4)) (fun k H' => (upd H p (.lst [.str " "])) D = none ∧ Ex (upd H p (.lst [.str " "])) H' ∧ H' D = some (.lst (((marks.drop 1).take (4 * i + k)).map V.str))) ⟨hD, e1, hl⟩ (fun _ _ _ _ => trivial) ?_ ?_
    · rintro k x H2 H2' hk ⟨hD, e2, hl2⟩ ⟨rfl, rfl⟩
      have hk : k < 4 := hk
      obtain ⟨c, hc, hm⟩ := marks_at i k hi hk
      have hy2 : y = V.str ⟨#[c]⟩ := by
        have hy : ((sl "#|/").map fun c => V.str ⟨#[c]⟩)[i]? = some y := hy
        rw [List.getElem?_map, hc] at hy
        exact (Option.some.inj hy).symm
      subst hy2
      refine ⟨rfl, ?_⟩
      have e0 : (0 : Int) + (k : Int) = (k : Int) := Int.zero_add _
      dsimp only [tYes]
      rw [e0]
      refine bB_t rfl ?_
      refine ⟨log_small (by omega) (by omega), ?_, _, hl2, ?_, hD, Ex.mut e2 hD, ?_⟩
      · show 1 + (Str.ofString (toString (k : Int))).length ≤ sizeLine
        have := len_small (i := (k : Int)) (by omega) (by omega)
        rw [sizeLine_eq]; omega
      · rw [List.length_map, List.length_take, sizeLine_eq]; omega
      · have := rest_take (n := 4 * i + k) (by rw [← hm]; congr 1; omega)
        rw [upd_same, ← Nat.add_assoc, this]
    · rintro H2 ⟨hD, e2, hl2⟩
      exact ⟨hD, e2, hl2⟩
  · rintro D H2 hD ⟨_, e2, hl2⟩
    have hpD : p ≠ D := ne_of_none (upd_same (H := H) (a := p) (o := .lst [.str " "])) hD
    refine ⟨[.str " "], _, e2 _ _ upd_same, hl2, by decide, fun r hr => ?_⟩
    refine q r _ ((e0.trans e2).free hr) ((e0.trans e2).trans (Ex.new hr)) ?_
    rw [upd_same]
    rfl
theorem three_kinds (i : Nat) (hi : i < 3) : ∃ z : Str, [V.str "#", .str "|", .str "/"][i]? = some (.str z) ∧ z.length = 1 ∧ (marks.take (1 + 4 * (i + 1))).map V.str = (marks.take (1 + 4 * i)).map V.str ++ [V.str (z ++ "0"), .str (z ++ "1"), .str (z ++ "2"), .str (z ++ "3")] := by
  match i, hi with
  | 0, _ => exact ⟨"#", by decide +kernel, by decide +kernel, by decide +kernel⟩
  | 1, _ => exact ⟨"|", by decide +kernel, by decide +kernel, by decide +kernel⟩
  | 2, _ => exact ⟨"/", by decide +kernel, by decide +kernel, by decide +kernel⟩
theorem len__law_marks {K ca vs H Q E} (h : sp__law_marks K ca vs H Q E) : vs.length = P__law_marks.length := by obtain ⟨rfl, _⟩ := h; rfl
theorem p__law_marks {K ca vs H Q E} (T : Ct K ca) (h : sp__law_marks K ca vs H Q E) : t__law_marks K ca { nx := fun _ H' => Q .non H', rt := Q } (start N__law_marks vs) H := by
  obtain ⟨rfl, q⟩ := h
  refine ⟨by decide, fun p hp => ?_⟩
  walk_at "u"
  have e0 : Ex H (upd H p (.lst [.str " "])) := Ex.new hp
  have key : ∀ a, (upd H p (.lst [.str " "])) a = none → tFor (uIter K fun σ H Q => Q (.ref a) H) (gName 1) (tAsg (tOp (uAdd K) (uVar 0) (tLst (tCons (tOp (uAdd K) (uVar 1) (tC (.str "0"))) (tCons (tOp (uAdd K) (uVar 1) (tC (.str "1"))) (tCons (tOp (uAdd K) (uVar 1) (tC (.str "2"))) (tCons (tOp (uAdd K) (uVar 1) (tC (.str "3"))) (tNil))))))) (gName 0))
      { nx := tRet (uVar 0) { nx := fun _ H' => Q .non H', rt := Q }, rt := Q } [some (.ref p), none] (upd (upd H p (.lst [.str " "])) a (.lst [.str "#", .str "|", .str "/"])) := by
    intro a ha
    have ea := e0.trans (Ex.new (o := .lst [.str "#", .str "|", .str "/"]) ha)
    refine fors (.lst a [.str "#", .str "|", .str "/"]) (fun R h => h) (rdL_of upd_same) (fun i σ H' => ∃ r x, σ = [some (.ref r), x] ∧ H r = none ∧ Ex H H' ∧ H' a = some (.lst [.str "#", .str "|", .str "/"]) ∧ H' r = some (.lst ((marks.take (1 + 4 * i)).map V.str))) ?_ ?_ ?_ ?_
    · refine ⟨p, none, rfl, hp, ea, upd_same, ?_⟩
      rw [upd_ne (ne_of_none (upd_same (H := H)) ha), upd_same]
      rfl
    · rintro i σ H' _ ⟨r, x, rfl, _, _, h3, _⟩
      exact rdL_of h3
    · rintro i y σ H' hy ⟨r, x, rfl, hr, e2, h3, h4⟩
      have hi : i < 3 := (List.getElem?_eq_some_iff.mp hy).1
      obtain ⟨z, hz, hl, hm⟩ := three_kinds i hi
      rw [hz] at hy
      cases hy
      have sz : ∀ w : Str, w.length = 1 → z.length + w.length ≤ sizeLine := fun w hw => by rw [hl, hw]; decide
      refine ⟨sz _ (by decide +kernel), sz _ (by decide +kernel), sz _ (by decide +kernel), sz _ (by decide +kernel), by show 4 ≤ sizeLine; decide, fun b hb => ?_⟩
      refine ⟨_, _, (by rw [upd_ne (ne_of_none h4 hb)]; exact h4), upd_same, ?_, fun d hd => ?_⟩
      · rw [List.length_map, List.length_take, sizeLine_eq]; show _ + 4 ≤ _; omega
      · have e3 := (e2.trans (Ex.new (o := .lst [.str (z ++ "0"), .str (z ++ "1"), .str (z ++ "2"), .str (z ++ "3")]) hb))
        refine ⟨d, _, rfl, e3.free hd, e3.trans (Ex.new hd), ?_, ?_⟩
        · rw [upd_ne (ne_of_none (by rw [upd_ne (ne_of_none h3 hb)]; exact h3) hd), upd_ne (ne_of_none h3 hb)]; exact h3
        · rw [upd_same, hm]
    · rintro σ H' ⟨r, x, rfl, hr, e2, h3, h4⟩
      exact q r H' hr e2 h4
  refine ⟨by decide, fun a ha => ?_⟩
  exact key a ha

/-- an exception with its field comes to a clause: the told row -/
theorem told_exc {K : PySem.W.Frag} {ca : Nat → Addr} {H : Hp} {Q : VK} {v : V} {i : Nat} {σ : L2.St} {D : Ends} {W : XK} (X : XfC K (ca i)) (N : PySem.W.findIn K (.ref (ca i)) "value" = some none) {tag : Str} (hσ : 3 < σ.length)
    (q : ∀ p H', H p = none → Ex H H' → H' p = some (.lst [.str tag, v]) → Q (.ref p) H') {d : Addr} (hd : H d = none) {a : Addr} :
    tRet (tLst (tCons (tC (.str tag)) (tCons (uXf K a (.ref (ca i)) (some d) 3 "value") (tNil)))) { D with rt := Q } (σ.set 3 (some (.ref a))) (upd H d (.xd [("value", v)])) := by
  refine ⟨ca i, d, _, v, rfl, X, N, ?_, rfl, upd_same, rfl, ?_⟩
  · rw [List.getElem?_set_self hσ]
  · refine ⟨by show 2 ≤ sizeLine; decide, fun p hp => ?_⟩
    exact q p _ ((Ex.new hd).free hp) ((Ex.new hd).trans (Ex.new hp)) upd_same
/-- .. and a value that is told -/
theorem told_val {H : Hp} {Q : VK} {v : V} {tag : Str} {p : Addr} (q : ∀ p H', H p = none → Ex H H' → H' p = some (.lst [.str tag, v]) → Q (.ref p) H') (hp : H p = none) : Q (.ref p) (upd H p (.lst [.str tag, v])) := q p _ hp (Ex.new hp) upd_same
theorem len__law_told {K ca vs H Q E} (h : sp__law_told K ca vs H Q E) : vs.length = P__law_told.length := by obtain ⟨way, v, u, rfl, _⟩ := h; rfl
theorem p__law_told {K ca vs H Q E} (T : Ct K ca) (h : sp__law_told K ca vs H Q E) : t__law_told K ca { nx := fun _ H' => Q .non H', rt := Q } (start N__law_told vs) H := by
  obtain ⟨way, v, u, rfl, h0, h3, hv, hu, q⟩ := h
  -- the two clauses
  have mk : (∀ p H', H p = none → Ex H H' → H' p = some (.lst [.str "mark", v]) → Q (.ref p) H') → Rs ca 2 v H (WE (clW K (fun _ _ _ _ => False) { nx := fun _ H' => Q .non H', rt := Q } [⟨.ref (ca 2), 3, fun a cls d => tRet (tLst (tCons (tC (.str "mark")) (tCons (uXf K a cls d 3 "value") (tNil))))⟩, ⟨.ref (ca 3), 3, fun a cls d => tRet (tLst (tCons (tC (.str "integer")) (tCons (uXf K a cls d 3 "value") (tNil))))⟩]) (start N__law_told [.int way, v, u])) := by
    intro q d hd
    refine oK_of T.e_InvalidMark_InvalidMark ?_
    refine bB_t rfl fun a ha => ?_
    exact told_exc (D := { nx := fun _ H' => Q .non H', rt := Q }) (W := fun _ _ _ => False) T.x_InvalidMark T.n_InvalidMark (by show 3 < 4; decide) q hd
  have mi : (∀ p H', H p = none → Ex H H' → H' p = some (.lst [.str "integer", u]) → Q (.ref p) H') → Rs ca 3 u H (WE (clW K (fun _ _ _ _ => False) { nx := fun _ H' => Q .non H', rt := Q } [⟨.ref (ca 2), 3, fun a cls d => tRet (tLst (tCons (tC (.str "mark")) (tCons (uXf K a cls d 3 "value") (tNil))))⟩, ⟨.ref (ca 3), 3, fun a cls d => tRet (tLst (tCons (tC (.str "integer")) (tCons (uXf K a cls d 3 "value") (tNil))))⟩]) (start N__law_told [.int way, v, u])) := by
    intro q d hd
    refine oK_of T.e_InvalidInteger_InvalidMark ?_
    refine bB_f rfl ?_
    refine oK_of T.e_InvalidInteger_InvalidInteger ?_
    refine bB_t rfl fun a ha => ?_
    exact told_exc (D := { nx := fun _ H' => Q .non H', rt := Q }) (W := fun _ _ _ => False) T.x_InvalidInteger T.n_InvalidInteger (by show 3 < 4; decide) q hd
  have lo : ∀ {p : Addr} {w : V}, True → ([V.str "told", w]).length ≤ sizeLine := fun {p w} _ => by show 2 ≤ sizeLine; decide
  show bB (decide (V.int way = V.int 0)) _ _
  refine bB_d (fun h1 => ?_) (fun h1 => ?_)
  · injection h1 with h1
    subst h1
    refine ⟨v, rfl, hv, fun hm => ?_, fun hm => ?_⟩
    · have e : told 0 v u = (Str.ofString "told", kindOf v) := by unfold told; rw [if_neg (by decide), if_pos hm, if_pos rfl]
      rw [e] at q
      exact ⟨by show 2 ≤ sizeLine; decide, fun p hp => told_val q hp⟩
    · have e : told 0 v u = (Str.ofString "mark", v) := by unfold told; rw [if_neg (by decide), if_neg (by rw [hm]; decide)]
      rw [e] at q
      exact mk q
  · show bB (decide (V.int way = V.int 1)) _ _
    refine bB_d (fun h2 => ?_) (fun h2 => ?_)
    · injection h2 with h2
      subst h2
      refine ⟨v, rfl, hv, fun hm => ?_, fun hm => ?_⟩
      · have e : told 1 v u = (Str.ofString "told", indOf v) := by unfold told; rw [if_neg (by decide), if_pos hm, if_neg (by decide), if_pos rfl]
        rw [e] at q
        exact ⟨by show 2 ≤ sizeLine; decide, fun p hp => told_val q hp⟩
      · have e : told 1 v u = (Str.ofString "mark", v) := by unfold told; rw [if_neg (by decide), if_neg (by rw [hm]; decide)]
        rw [e] at q
        exact mk q
    · show bB (decide (V.int way = V.int 2)) _ _
      refine bB_d (fun h4 => ?_) (fun h4 => ?_)
      · injection h4 with h4
        subst h4
        refine ⟨v, rfl, hv, fun hm => ?_, fun hm => ?_⟩
        · have e : told 2 v u = (Str.ofString "told", plaOf v) := by unfold told; rw [if_neg (by decide), if_pos hm, if_neg (by decide), if_neg (by decide)]
          rw [e] at q
          exact ⟨by show 2 ≤ sizeLine; decide, fun p hp => told_val q hp⟩
        · have e : told 2 v u = (Str.ofString "mark", v) := by unfold told; rw [if_neg (by decide), if_neg (by rw [hm]; decide)]
          rw [e] at q
          exact mk q
      · have h1 : way ≠ 0 := fun e => h1 (by rw [e])
        have h2 : way ≠ 1 := fun e => h2 (by rw [e])
        have h4 : way ≠ 2 := fun e => h4 (by rw [e])
        obtain rfl : way = 3 := by omega
        refine ⟨v, u, rfl, hv, hu, fun hm => ?_, fun hm hi => ?_, fun i hm hi => ?_⟩
        · have e : told 3 v u = (Str.ofString "mark", v) := by unfold told; rw [if_pos rfl, if_neg (by rw [hm]; decide)]
          rw [e] at q
          exact mk q
        · have e : told 3 v u = (Str.ofString "integer", u) := by
            unfold told; rw [if_pos rfl, if_pos hm]
            cases u <;> first | rfl | cases hi
          rw [e] at q
          exact mi q
        · subst hi
          have e : told 3 v (.int i) = (Str.ofString "told", brkV v i) := by unfold told; rw [if_pos rfl, if_pos hm]
          rw [e] at q
          exact ⟨by show 2 ≤ sizeLine; decide, fun p hp => told_val q hp⟩

theorem cps_minus : (Str.ofString "-").cps.toList = [45] := by decide +kernel
theorem cps_zero : (Str.ofString "0").cps.toList = [48] := by decide +kernel
theorem cps_none : (Str.ofString "").cps.toList = [] := by decide +kernel
theorem sl_from1 (z : Str) : sl (cutS z (some 1) none) = (sl z).drop 1 := by
  rw [sl_cut]
  have e1 : HT.sIx z.length z.length none = z.length := rfl
  have e2 : HT.sIx z.length 0 (some 1) = min 1 z.length := by
    simp [HT.sIx]
    try omega
  rw [e1, e2, sl_len]
  generalize sl z = l
  cases l with
  | nil => rfl
  | cons c r => simp
theorem digs_minus (r : List Nat) : digs (45 :: r) = r := rfl
theorem digs_other {c : Nat} {r : List Nat} (h : c ≠ 45) : digs (c :: r) = c :: r := by
  unfold digs
  split
  · rename_i e; injection e with e1 e2; exact absurd e1 h
  · rfl
theorem at_head {α : Type} (c : α) (r : List α) : atI (c :: r) 0 = some c := by
  unfold atI ixN
  rw [if_pos (by decide), if_pos (by show (0 : Int) < ((c :: r).length : Int); rw [List.length_cons]; omega)]
  rfl
/-- what parse_integer does behind its digits -/
def tPz (K : PySem.W.Frag) : TS := (tSeq (uIfS (uOr (uT (tOp (uEq2 K) (uVar 3) (tC (.str "")))) (uNot (uT (tCB (uAll K) (tCons (tLc (uIter K (uVar 3)) (gName 5) (tYes) (tOp (uIn K false) (uVar 5) (tC (.str "0123456789"))) [5]) (tNil)))))) (tRet (tC .non)) (tNext)) (tSeq (uIfS (uAnd (uT (tOp (uEq2 K) (tOp (uIx K) (uVar 3) (tC (.int 0))) (tC (.str "0")))) (uT (tOp (uNe2 K) (uVar 0) (tC (.str "0"))))) (tRet (tC .non)) (tNext)) (tSeq (tAsg (tCB uInt (tCons (uVar 0) (tNil))) (gName 4)) (tRet (uIf (uT (uChain uLe uLe (uVar 1) (uVar 4) (uVar 2))) (uVar 4) (tC .non))))))
theorem valL_no1 {l : List Nat} (h : digs l = []) : valL l = none := by unfold valL; rw [if_pos h]
theorem valL_no2 {l : List Nat} (h : (digs l).all isDig = false) : valL l = none := by
  unfold valL
  split
  · rfl
  · first | rfl | rw [if_pos h]
theorem valL_no3 {l : List Nat} (h1 : (digs l).head? = some 48) (h2 : l ≠ [48]) : valL l = none := by
  unfold valL
  split
  · rfl
  · split
    · rfl
    · rw [if_pos ⟨h1, h2⟩]
theorem valL_yes {l : List Nat} (h1 : digs l ≠ []) (h2 : (digs l).all isDig = true) (h3 : ¬ ((digs l).head? = some 48 ∧ l ≠ [48])) :
    valL l = some (if l.head? = some 45 then -(NumText.digitsVal (digs l) : Int) else (NumText.digitsVal (digs l) : Int)) := by
  unfold valL
  rw [if_neg h1, if_neg (by rw [h2]; decide), if_neg h3]
theorem allDig {l : List Nat} (h : l.all isDig = true) : NumText.AllDigits l := fun c hc => by
  have := List.all_eq_true.mp h c hc
  unfold isDig at this
  rw [Bool.and_eq_true, decide_eq_true_eq, decide_eq_true_eq] at this
  exact this
theorem int_val {z : Str} (hz : z.length ≤ 640) (h1 : digs (sl z) ≠ []) (h2 : (digs (sl z)).all isDig = true) :
    PySem.intText? z = some (if (sl z).head? = some 45 then -(NumText.digitsVal (digs (sl z)) : Int) else (NumText.digitsVal (digs (sl z)) : Int)) := by
  match e : sl z with
  | [] => rw [e] at h1; exact absurd rfl h1
  | c :: r =>
    rw [e] at h1 h2
    by_cases hc : c = 45
    · subst hc
      rw [digs_minus] at h1 h2 ⊢
      rw [if_pos (show (45 :: r).head? = some 45 from rfl)]
      exact intText_neg e (allDig h2) h1 (by omega)
    · rw [digs_other hc] at h1 h2 ⊢
      rw [if_neg (by simpa using hc)]
      have := intText_digits (x := z) (by show NumText.AllDigits (sl z); rw [e]; exact allDig h2) (by show sl z ≠ []; rw [e]; exact h1) (by omega)
      rw [this]
      show some ((NumText.digitsVal (sl z) : Nat) : Int) = _
      rw [e]
theorem chars_map (z : Str) (f : Nat → V) (g : V → V) (h : ∀ c, g (.str ⟨#[c]⟩) = f c) : (chars z).map g = (sl z).map f := by
  unfold chars
  rw [List.map_map]
  exact List.map_congr_left fun c _ => h c
theorem chars_at {z : Str} {i : Nat} {y : V} (h : (chars z)[i]? = some y) : ∃ c, (sl z)[i]? = some c ∧ y = .str ⟨#[c]⟩ := by
  unfold chars at h
  rw [List.getElem?_map] at h
  cases e : z.cps.toList[i]? with
  | none => rw [e] at h; cases h
  | some c => rw [e] at h; exact ⟨c, rfl, (Option.some.inj h).symm⟩
theorem chars_len (z : Str) : (chars z).length = z.length := by unfold chars; rw [List.length_map]; rfl
theorem parse_rest {K : PySem.W.Frag} {z dz : Str} {lo hi : Int} {H : Hp} {Q : VK} (hz : z.length ≤ 31) (hd : sl dz = digs (sl z)) (hl : dz.length ≤ 31) (q : ∀ H', Ex H H' → Q (within (valV (sl z)) lo hi) H') :
    tPz K { nx := fun _ H' => Q .non H', rt := Q } [some (.str z), some (.int lo), some (.int hi), some (.str dz), none, none] H := by
  have no : valL (sl z) = none → ∀ H', Ex H H' → Q .non H' := fun e H' x => by
    have := q H' x
    unfold valV at this
    rw [e] at this
    exact this
  show bB (decide (V.str dz = V.str "")) _ _
  rw [eq_fix dz "" cps_none]
  refine bB_d (fun h1 => ?_) (fun h1 => ?_)
  · exact no (valL_no1 (hd.symm.trans h1)) H (Ex.refl H)
  · walk_at "u"
    refine lcf (.str dz) (fun R h => h) trivial (fun _ _ => trivial) (fun _ => true) (fun y => match y with | .str w => .bl (w.cps.toList.all isDig) | _ => .non) ?_ ?_ ?_ ?_ ?_
    · rw [chars_len, sizeLine_eq]; omega
    · intro y; rfl
    · intro i y H' hy e R hR
      exact hR H' (Ex.refl _)
    · intro i y H' hy _ e R hR
      obtain ⟨c, _, rfl⟩ := chars_at hy
      show R (.bl (decide (c ∈ (Str.ofString "0123456789").cps.toList))) H'
      rw [mem_ten]
      have := hR H' (Ex.refl _)
      simpa using this
    · intro D H' hD e hl'
      refine oK_of (rdL_of hl') ⟨(sl dz).map isDig, ?_, ?_⟩
      · rw [List.filter_eq_self.mpr (by simp), chars_map dz (fun c => .bl (isDig c)) _ (fun c => by simp), List.map_map]
        rfl
      · rw [List.all_map]
        show bB (!(sl dz).all isDig) _ _
        refine bB_of (fun h2 => ?_) (fun h2 => ?_)
        · exact no (valL_no2 (by rw [← hd]; simpa using h2)) H' e
        · have h2 : (digs (sl z)).all isDig = true := by rw [← hd]; simpa using h2
          match ed : sl dz with
          | [] => exact absurd ed h1
          | c :: r =>
            have hh : (digs (sl z)).head? = some c := by rw [← hd, ed]; rfl
            have hne : digs (sl z) ≠ [] := by rw [← hd, ed]; simp
            have fin : ¬ ((digs (sl z)).head? = some 48 ∧ sl z ≠ [48]) → tSeq (tAsg (tCB uInt (tCons (uVar 0) (tNil))) (gName 4)) (tRet (uIf (uT (uChain uLe uLe (uVar 1) (uVar 4) (uVar 2))) (uVar 4) (tC .non))) { nx := fun _ H' => Q .non H', rt := Q } [some (.str z), some (.int lo), some (.int hi), some (.str dz), none, none] H' := by
              intro h3
              refine ⟨by omega, oK_of (int_val (by omega) hne h2) ?_⟩
              have q := q H' e
              unfold valV at q
              rw [valL_yes hne h2 h3] at q
              generalize (if (sl z).head? = some 45 then -(NumText.digitsVal (digs (sl z)) : Int) else (NumText.digitsVal (digs (sl z)) : Int)) = n at q
              have q : Q (if lo ≤ n ∧ n ≤ hi then .int n else .non) H' := q
              show bV (.bl (decide (lo ≤ n))) _ _
              refine bV_d (fun h4 => ?_) (fun h4 => ?_)
              · show bB (decide (n ≤ hi)) _ _
                refine bB_d (fun h5 => ?_) (fun h5 => ?_)
                · rw [if_pos ⟨h4, h5⟩] at q; exact q
                · rw [if_neg (fun h => h5 h.2)] at q; exact q
              · rw [if_neg (fun h => h4 h.1)] at q; exact q
            refine ⟨by rw [sizeLine_eq]; omega, oK_of (x := c) (by rw [show dz.cps.toList = c :: r from ed]; exact at_head c r) ?_⟩
            show bB (decide (V.str ⟨#[c]⟩ = V.str "0")) _ _
            rw [eq_fix _ "0" cps_zero]
            refine bB_d (fun h3 => ?_) (fun h3 => ?_)
            · have h3 : c = 48 := by have h3 : [c] = [48] := h3; simpa using h3
              subst h3
              show bB (!decide (V.str z = V.str "0")) _ _
              rw [eq_fix z "0" cps_zero]
              refine bB_n (fun h4 => ?_) (fun h4 => ?_)
              · exact no (valL_no3 hh h4) H' e
              · exact fin (fun h => h.2 h4)
            · exact fin (fun h => h3 (by rw [hh] at h; have := Option.some.inj h.1; subst this; rfl))
theorem len_parse_integer {K ca vs H Q E} (h : sp_parse_integer K ca vs H Q E) : vs.length = P_parse_integer.length := by obtain ⟨v, lo, hi, rfl, _⟩ := h; rfl
theorem p_parse_integer {K ca vs H Q E} (T : Ct K ca) (h : sp_parse_integer K ca vs H Q E) : t_parse_integer K ca { nx := fun _ H' => Q .non H', rt := Q } (start N_parse_integer vs) H := by
  obtain ⟨v, lo, hi, rfl, hk, q⟩ := h
  cases v with
  | str z =>
    have hs : z.length ≤ 1000 := hk.2
    have q : ∀ H', Ex H H' → Q (if z.length ≤ 31 then within (valV (sl z)) lo hi else .non) H' := q
    show bB (decide (V.str z = V.str "")) _ _
    rw [eq_fix z "" cps_none]
    refine bB_d (fun h1 => ?_) (fun h1 => ?_)
    · have := q H (Ex.refl H)
      rw [if_pos (by show (sl z).length ≤ 31; rw [show sl z = [] from h1]; decide), show sl z = [] from h1] at this
      exact this
    · refine ⟨by rw [sizeLine_eq]; omega, ?_⟩
      show bB (decide ((31 : Int) < (z.length : Int))) _ _
      refine bB_d (fun h2 => ?_) (fun h2 => ?_)
      · have := q H (Ex.refl H)
        rw [if_neg (by omega)] at this
        exact this
      · have hz : z.length ≤ 31 := by omega
        rw [if_pos hz] at q
        match e : sl z with
        | [] => exact absurd e h1
        | c :: r =>
          refine ⟨by rw [sizeLine_eq]; omega, oK_of (x := c) (by rw [show z.cps.toList = c :: r from e]; exact at_head c r) ?_⟩
          show bB (decide (V.str ⟨#[c]⟩ = V.str "-")) _ _
          rw [eq_fix _ "-" cps_minus]
          refine bB_d (fun h3 => ?_) (fun h3 => ?_)
          · have h3 : c = 45 := by have h3 : [c] = [45] := h3; simpa using h3
            subst h3
            refine ⟨by rw [sizeLine_eq]; omega, ?_⟩
            exact parse_rest hz (by rw [sl_from1, e]; rfl) (Nat.le_trans (slen_cut _ _ _) hz) q
          · exact parse_rest hz (by rw [e, digs_other]; rintro rfl; exact h3 rfl) hz q
  | ref a =>
    obtain ⟨t, e, ht⟩ := tyOf_ref hk.1
    refine oK_of e ?_
    rcases ht with rfl | rfl | rfl <;> exact q H (Ex.refl H)
  | non => exact q H (Ex.refl H)
  | bl b => exact q H (Ex.refl H)
  | int z => exact q H (Ex.refl H)
  | byt b => cases hk.1
  | flt b => cases hk.1
  | ty b => cases hk.1

theorem sl_to1 (z : Str) : sl (cutS z none (some 1)) = (sl z).take 1 := by
  rw [sl_cut]
  have e1 : HT.sIx z.length 0 none = 0 := rfl
  have e2 : HT.sIx z.length z.length (some 1) = min 1 z.length := by
    simp [HT.sIx]
    try omega
  rw [e1, e2, sl_len]
  generalize sl z = l
  cases l with
  | nil => rfl
  | cons c r => simp
theorem dv_lt : ∀ (l : List Nat) (a : Nat), l.all isDig = true → l.foldl (fun acc c => acc * 10 + (c - 48)) a < (a + 1) * 10 ^ l.length
  | [], a, _ => by simp
  | c :: r, a, h => by
    rw [List.all_cons, Bool.and_eq_true] at h
    have hc := h.1
    unfold isDig at hc
    rw [Bool.and_eq_true, decide_eq_true_eq, decide_eq_true_eq] at hc
    have := dv_lt r (a * 10 + (c - 48)) h.2
    refine Nat.lt_of_lt_of_le this ?_
    rw [List.length_cons, Nat.pow_succ, Nat.mul_comm (10 ^ r.length) 10, ← Nat.mul_assoc]
    exact Nat.mul_le_mul_right _ (by omega)
theorem valL_lt {l : List Nat} {n : Int} (h : valL l = some n) (hl : l.length ≤ 31) : -(10 ^ 40) < n ∧ n < 10 ^ 40 := by
  unfold valL at h
  split at h
  · cases h
  · split at h
    · cases h
    · split at h
      · cases h
      · rename_i h1 h2 h3
        have hd : (digs l).all isDig = true := by cases e : (digs l).all isDig <;> simp_all
        have := dv_lt (digs l) 0 hd
        have h4 : (digs l).length ≤ 31 := by
          match l with
          | [] => decide
          | c :: r =>
            by_cases hc : c = 45
            · subst hc; rw [digs_minus]; rw [List.length_cons] at hl; omega
            · rw [digs_other hc]; exact hl
        have h5 : NumText.digitsVal (digs l) < 10 ^ 31 := by
          have e : NumText.digitsVal (digs l) = (digs l).foldl (fun acc c => acc * 10 + (c - 48)) 0 := rfl
          rw [e]
          refine Nat.lt_of_lt_of_le this ?_
          rw [Nat.zero_add, Nat.one_mul]
          exact Nat.pow_le_pow_right (by decide) h4
        have h6 : (10 : Nat) ^ 31 ≤ 10 ^ 40 := by decide
        injection h with h
        split at h <;> omega
theorem occ_digit {c : Nat} (h : isDig c = true) : ∃ rest, Builtin.Str.occurrences "0123456789" ⟨#[c]⟩ 0 (Str.ofString "0123456789").length 1 = (c - 48) :: rest := by
  unfold isDig at h
  rw [Bool.and_eq_true, decide_eq_true_eq, decide_eq_true_eq] at h
  obtain ⟨k, rfl⟩ : ∃ k, c = 48 + k := ⟨c - 48, by omega⟩
  have hk : k ≤ 9 := by omega
  match k, hk with
  | 0, _ => exact ⟨[], by decide +kernel⟩
  | 1, _ => exact ⟨[], by decide +kernel⟩
  | 2, _ => exact ⟨[], by decide +kernel⟩
  | 3, _ => exact ⟨[], by decide +kernel⟩
  | 4, _ => exact ⟨[], by decide +kernel⟩
  | 5, _ => exact ⟨[], by decide +kernel⟩
  | 6, _ => exact ⟨[], by decide +kernel⟩
  | 7, _ => exact ⟨[], by decide +kernel⟩
  | 8, _ => exact ⟨[], by decide +kernel⟩
  | 9, _ => exact ⟨[], by decide +kernel⟩
/-- what _law_value does behind its digits -/
def tVz (K : PySem.W.Frag) : TS := (tSeq (uIfS (uOr (uT (tOp (uEq2 K) (uVar 1) (tC (.str "")))) (uT (tOp (uNe2 K) (tLc (uIter K (uVar 1)) (gName 3) (uT (tOp (uIn K true) (uVar 3) (tC (.str "0123456789")))) (uVar 3) [3]) (tLst (tNil))))) (tRet (tC .non)) (tNext)) (tSeq (uIfS (uAnd (uT (tOp (uEq2 K) (tOp (uIx K) (uVar 1) (tC (.int 0))) (tC (.str "0")))) (uT (tOp (uNe2 K) (uVar 0) (tC (.str "0"))))) (tRet (tC .non)) (tNext)) (tSeq (tAsg (tC (.int 0)) (gName 2)) (tSeq (tFor (uIter K (uVar 1)) (gName 3) (tAsg (tOp (uAdd K) (tOp uMul2 (tC (.int 10)) (uVar 2)) (tM1 uIndex (tC (.str "0123456789")) (uVar 3))) (gName 2))) (tRet (uIf (uT (tOp (uEq2 K) (tOp (uIx K) (uVar 0) (tC (.int 0))) (tC (.str "-")))) (tOp uSub (tC (.int 0)) (uVar 2)) (uVar 2)))))))
theorem val_rest {K : PySem.W.Frag} {z dz : Str} {H : Hp} {Q : VK} (hz : z.length ≤ 1000) (hd : sl dz = digs (sl z)) (hl : dz.length ≤ 1000) (so : sok dz) (q : ∀ H', Ex H H' → Q (valV (sl z)) H') :
    tVz K { nx := fun _ H' => Q .non H', rt := Q } [some (.str z), some (.str dz), none, none] H := by
  have no : valL (sl z) = none → ∀ H', Ex H H' → Q .non H' := fun e H' x => by
    have := q H' x
    unfold valV at this
    rw [e] at this
    exact this
  show bB (decide (V.str dz = V.str "")) _ _
  rw [eq_fix dz "" cps_none]
  refine bB_d (fun h1 => ?_) (fun h1 => ?_)
  · exact no (valL_no1 (hd.symm.trans h1)) H (Ex.refl H)
  · walk_at "u"
    refine lcf (.str dz) (fun R h => h) trivial (fun _ _ => trivial) (fun y => match y with | .str w => !(w.cps.toList.all isDig) | _ => false) (fun y => y) ?_ ?_ ?_ ?_ ?_
    · rw [chars_len, sizeLine_eq]; omega
    · intro y; rfl
    · intro i y H' hy e R hR
      obtain ⟨c, _, rfl⟩ := chars_at hy
      show R (!decide (c ∈ (Str.ofString "0123456789").cps.toList)) H'
      rw [mem_ten]
      have := hR H' (Ex.refl _)
      simpa using this
    · intro i y H' hy _ e R hR
      exact hR H' (Ex.refl _)
    · intro D H' hD e hl'
      have el : ((chars dz).filter fun y => match y with | .str w => !(w.cps.toList.all isDig) | _ => false).map (fun y => y) = (((sl dz).filter fun c => !isDig c).map fun c => (⟨#[c]⟩ : Str)).map V.str := by
        rw [List.map_id']
        unfold chars
        rw [List.filter_map, List.map_map]
        congr 1
        apply List.filter_congr
        intro c _
        simp
      rw [el] at hl'
      refine ⟨by decide, fun p hp => ?_⟩
      have hpD : D ≠ p := ne_of_none hl' hp
      refine .inl ⟨.list ((((sl dz).filter fun c => !isDig c).map fun c => (⟨#[c]⟩ : Str)).map PyData.str), .list [], .lst (rdL_sq (rdL_of (by rw [upd_ne hpD]; exact hl'))) (dpAll_str _), .lst (rdL_sq (rdL_of upd_same)) .nil, shaped_strs _ ?_, by decide +kernel, ?_⟩
      · intro w hw
        obtain ⟨c, hc, rfl⟩ := List.mem_map.mp hw
        exact sok_one (so c (List.mem_filter.mp hc).1)
      · rw [eqv_nil]
        have e2 : Ex H (upd H' p (.lst [])) := e.trans (Ex.new hp)
        show bB (!List.isEmpty _) _ _
        refine bB_of (fun h2 => ?_) (fun h2 => ?_)
        · refine no (valL_no2 ?_) _ e2
          rw [← hd]
          rw [Bool.not_eq_true', List.isEmpty_eq_false_iff_exists_mem] at h2
          obtain ⟨x, hx⟩ := h2
          obtain ⟨w, hw, _⟩ := List.mem_map.mp hx
          obtain ⟨c, hc, _⟩ := List.mem_map.mp hw
          obtain ⟨h3, h4⟩ := List.mem_filter.mp hc
          cases e5 : (sl dz).all isDig with
          | false => rfl
          | true => rw [List.all_eq_true.mp e5 c h3] at h4; cases h4
        · have h2 : (sl dz).all isDig = true := by
            rw [Bool.not_eq_false', List.isEmpty_iff, List.map_eq_nil_iff, List.map_eq_nil_iff, List.filter_eq_nil_iff] at h2
            exact List.all_eq_true.mpr fun c hc => by simpa using h2 c hc
          have h2' : (digs (sl z)).all isDig = true := by rw [← hd]; exact h2
          match ed : sl dz with
          | [] => exact absurd ed h1
          | c :: r =>
            have hh : (digs (sl z)).head? = some c := by rw [← hd, ed]; rfl
            have hne : digs (sl z) ≠ [] := by rw [← hd, ed]; simp
            have fin : ¬ ((digs (sl z)).head? = some 48 ∧ sl z ≠ [48]) → tSeq (tAsg (tC (.int 0)) (gName 2)) (tSeq (tFor (uIter K (uVar 1)) (gName 3) (tAsg (tOp (uAdd K) (tOp uMul2 (tC (.int 10)) (uVar 2)) (tM1 uIndex (tC (.str "0123456789")) (uVar 3))) (gName 2))) (tRet (uIf (uT (tOp (uEq2 K) (tOp (uIx K) (uVar 0) (tC (.int 0))) (tC (.str "-")))) (tOp uSub (tC (.int 0)) (uVar 2)) (uVar 2)))) { nx := fun _ H' => Q .non H', rt := Q } [some (.str z), some (.str dz), none, none] (upd H' p (.lst [])) := by
              intro h3
              walk_at "u"
              refine fors (.str dz) (fun R h => h) trivial (fun i σ H2 => ∃ x, σ = [some (.str z), some (.str dz), some (.int (NumText.digitsVal ((sl dz).take i) : Nat)), x] ∧ Ex H H2) ⟨none, rfl, e2⟩ (fun _ _ _ _ _ => trivial) ?_ ?_
              · rintro i y σ H2 hy ⟨x, rfl, e3⟩
                obtain ⟨c, hc, rfl⟩ := chars_at hy
                obtain ⟨rs, eo⟩ := occ_digit (List.all_eq_true.mp h2 c (List.mem_of_getElem? hc))
                refine ⟨.inl ⟨by decide, by decide⟩, ⟨_, rfl⟩, _, rs, eo, some (V.str ⟨#[c]⟩), ?_, e3⟩
                have e5 : NumText.digitsVal ((sl dz).take (i + 1)) = NumText.digitsVal ((sl dz).take i) * 10 + (c - 48) := by
                  rw [List.take_add_one, hc]
                  unfold NumText.digitsVal
                  rw [List.foldl_append]
                  rfl
                rw [e5]
                exact congrArg (fun n : Int => [some (V.str z), some (V.str dz), some (V.int n), some (V.str ⟨#[c]⟩)]) (show (10 * (NumText.digitsVal ((sl dz).take i) : Int) + ((c - 48 : Nat) : Int)) = ((NumText.digitsVal ((sl dz).take i) * 10 + (c - 48) : Nat) : Int) by omega)
              · rintro σ H2 ⟨x, rfl, e3⟩
                rw [chars_len, sl_len, List.take_length]
                have q := q H2 e3
                unfold valV at q
                rw [valL_yes hne h2' h3, ← hd] at q
                have hz0 : ∃ c0 r0, sl z = c0 :: r0 := by
                  match e6 : sl z with
                  | [] => rw [e6] at hne; exact absurd rfl hne
                  | c0 :: r0 => exact ⟨c0, r0, rfl⟩
                obtain ⟨c0, r0, e6⟩ := hz0
                refine ⟨by rw [sizeLine_eq]; omega, oK_of (x := c0) (by rw [show z.cps.toList = c0 :: r0 from e6]; exact at_head c0 r0) ?_⟩
                show bB (decide (V.str ⟨#[c0]⟩ = V.str "-")) _ _
                rw [eq_fix _ "-" cps_minus]
                refine bB_d (fun h4 => ?_) (fun h4 => ?_)
                · have h4 : c0 = 45 := by have h4 : [c0] = [45] := h4; simpa using h4
                  rw [e6, if_pos (by rw [h4]; rfl)] at q
                  show Q (.int (0 - (NumText.digitsVal (sl dz) : Int))) H2
                  rw [Int.zero_sub]
                  exact q
                · rw [e6, if_neg (by intro h; apply h4; have : c0 = 45 := by simpa using h
                                     subst this; rfl)] at q
                  exact q
            refine ⟨by rw [sizeLine_eq]; omega, oK_of (x := c) (by rw [show dz.cps.toList = c :: r from ed]; exact at_head c r) ?_⟩
            show bB (decide (V.str ⟨#[c]⟩ = V.str "0")) _ _
            rw [eq_fix _ "0" cps_zero]
            refine bB_d (fun h3 => ?_) (fun h3 => ?_)
            · have h3 : c = 48 := by have h3 : [c] = [48] := h3; simpa using h3
              subst h3
              show bB (!decide (V.str z = V.str "0")) _ _
              rw [eq_fix z "0" cps_zero]
              refine bB_n (fun h4 => ?_) (fun h4 => ?_)
              · exact no (valL_no3 hh h4) _ e2
              · exact fin (fun h => h.2 h4)
            · exact fin (fun h => h3 (by rw [hh] at h; have := Option.some.inj h.1; subst this; rfl))
theorem len__law_value {K ca vs H Q E} (h : sp__law_value K ca vs H Q E) : vs.length = P__law_value.length := by obtain ⟨z, rfl, _⟩ := h; rfl
theorem p__law_value {K ca vs H Q E} (T : Ct K ca) (h : sp__law_value K ca vs H Q E) : t__law_value K ca { nx := fun _ H' => Q .non H', rt := Q } (start N__law_value vs) H := by
  obtain ⟨z, rfl, hz, so, q⟩ := h
  refine ⟨by rw [sizeLine_eq]; omega, ?_⟩
  show bB (decide (V.str (cutS z none (some 1)) = V.str "-")) _ _
  rw [eq_fix _ "-" cps_minus]
  have e0 : (cutS z none (some 1)).cps.toList = (sl z).take 1 := sl_to1 z
  rw [e0]
  refine bB_d (fun h3 => ?_) (fun h3 => ?_)
  · refine ⟨by rw [sizeLine_eq]; omega, ?_⟩
    refine val_rest hz ?_ (Nat.le_trans (slen_cut _ _ _) hz) (sok_cut so _ _) q
    rw [sl_from1]
    match e : sl z with
    | [] => rw [e] at h3; cases h3
    | c :: r =>
      rw [e] at h3
      have : c = 45 := by simpa using h3
      subst this; rfl
  · refine val_rest hz ?_ hz so q
    match e : sl z with
    | [] => rfl
    | c :: r =>
      rw [e] at h3
      rw [digs_other]
      rintro rfl
      exact h3 rfl

def datV (v : V) : PyData := match v with | .int n => .int n | _ => .none
def NumV (v : V) : Prop := v = .non ∨ ∃ n : Int, v = .int n ∧ -(10 ^ 40) < n ∧ n < 10 ^ 40
theorem repr_num {K : PySem.W.Frag} {H : Hp} {Q : VK} {v : V} (h : NumV v) (q : Q (.str (datV v).shown) H) : uRepr K [v] H Q := by
  rcases h with rfl | ⟨n, rfl, h1, h2⟩
  · refine ⟨.none, .non, by simp [PyData.showable], ?_, by simp [PyData.depth], q⟩
    have e : PyData.shown .none = ("None" : Str) := by simp [PyData.shown]
    rw [e]; decide +kernel
  · refine ⟨.int n, .int n, ?_, ?_, by simp [PyData.depth], q⟩
    · simp only [PyData.showable, decide_eq_true_eq]; exact log_small h1 h2
    · have e : PyData.shown (.int n) = Str.ofString (toString n) := by simp [PyData.shown]
      rw [e]
      have := len_small h1 h2
      rw [sizeLine_eq]; omega
theorem repr_rd {K : PySem.W.Frag} {te : TE} {σ : L2.St} {H : Hp} {Q : VK} {v : V} (h : NumV v) (ht : ∀ R : VK, R v H → te σ H R) (q : Q (.str (datV v).shown) H) : tCB (uRepr K) (tCons te tNil) σ H Q := ht _ (repr_num h q)
theorem uVar_of {σ : L2.St} {i : Nat} {v : V} {H : Hp} {Q : VK} (h : σ[i]? = some (some v)) (q : Q v H) : uVar i σ H Q := by unfold uVar; rw [h]; exact q
theorem num_val {l : List Nat} (h : l.length ≤ 31) : NumV (valV l) := by
  unfold valV
  cases e : valL l with
  | none => exact .inl rfl
  | some n => exact .inr ⟨n, rfl, valL_lt e h⟩
theorem num_within {v : V} (h : NumV v) (lo hi : Int) : NumV (within v lo hi) := by
  rcases h with rfl | ⟨n, rfl, h1, h2⟩
  · exact .inl rfl
  · show NumV (if lo ≤ n ∧ n ≤ hi then .int n else .non)
    split
    · exact .inr ⟨n, rfl, h1, h2⟩
    · exact .inl rfl
theorem due_ok {σ : L2.St} {H : Hp} {Q : VK} {v : V} {lo hi : Int} {tl th : TE} (h3 : σ[3]? = some (some v)) (hv : NumV v) (hl : ∀ R : VK, R (.int lo) H → tl σ H R) (hh : ∀ R : VK, R (.int hi) H → th σ H R) (q : Q (within v lo hi) H) :
    uIf (uAnd (uT (tOp (uIs true) (uVar 3) (tC .non))) (uT (uChain uLe uLe tl (uVar 3) th))) (uVar 3) (tC .non) σ H Q := by
  have hu : ∀ R : VK, R v H → uVar 3 σ H R := fun R r => by unfold uVar; rw [h3]; exact r
  unfold uIf uAnd uT tOp
  refine hu _ ?_
  rcases hv with rfl | ⟨n, rfl, _, _⟩
  · exact q
  · show uT (uChain uLe uLe tl (uVar 3) th) σ H _
    unfold uT uChain
    refine hl _ (hu _ ?_)
    have q : Q (if lo ≤ n ∧ n ≤ hi then .int n else .non) H := q
    show bV (.bl (decide (lo ≤ n))) _ _
    refine bV_d (fun h4 => ?_) (fun h4 => ?_)
    · refine hh _ ?_
      show bB (decide (n ≤ hi)) _ _
      refine bB_d (fun h5 => ?_) (fun h5 => ?_)
      · rw [if_pos ⟨h4, h5⟩] at q; exact hu _ q
      · rw [if_neg (fun h => h5 h.2)] at q; exact q
    · rw [if_neg (fun h => h4 h.1)] at q; exact q
theorem parse_str {z : Str} {lo hi : Int} (h : z.length ≤ 31) : parseV (.str z) lo hi = within (valV (sl z)) lo hi := by
  show (if z.length ≤ 31 then within (valV (sl z)) lo hi else .non) = _
  rw [if_pos h]
/-- what stands behind the loop -/
def tNz (K : PySem.W.Frag) (ca : Nat → Addr) : TS := (tSeq (tAsg (uIf (uAnd (uT (tOp (uIs true) (uVar 3) (tC .non))) (uT (uChain uLe uLe (tC (.int 0)) (uVar 3) (uVar 2)))) (uVar 3) (tC .non)) (gName 4)) (tRet (tOp (uEq2 K) (tCB (uRepr K) (tCons (tCallN 1 1 (sp_parse_integer K ca) gV_parse_integer_high E0 (tCons (uVar 0) (tNil)) (tCons (uVar 2) (tNil))) (tNil))) (tCB (uRepr K) (tCons (uVar 4) (tNil))))))
theorem nz_ok {K : PySem.W.Frag} {ca : Nat → Addr} {z : Str} {lo hi : Int} {H : Hp} {Q : VK} {x4 x5 x6 : Option V} (hz : z.length ≤ 31) (q : ∀ H', Ex H H' → Q (.bl true) H') :
    tNz K ca { nx := fun _ H' => Q .non H', rt := Q } [some (.str z), some (.int lo), some (.int hi), some (valV (sl z)), x4, x5, x6] H := by
  have nv := num_val (l := sl z) hz
  refine due_ok (σ := [some (.str z), some (.int lo), some (.int hi), some (valV (sl z)), x4, x5, x6]) (H := H) (tl := tC (.int 0)) (th := uVar 2) (lo := 0) (hi := hi) rfl nv (fun R r => r) (fun R r => r) ?_
  refine ⟨rfl, rfl, .str z, 0, hi, rfl, kn_str (by omega), fun H1 e1 => ?_⟩
  rw [parse_str hz]
  dsimp only [tNil]
  refine repr_num (num_within nv 0 hi) ?_
  refine repr_rd (te := uVar 4) (num_within nv 0 hi) (fun R r => r) ?_
  show Q (.bl (decide (V.str _ = V.str _))) H1
  rw [decide_eq_true rfl]
  exact q H1 e1
theorem len__law_number_right {K ca vs H Q E} (h : sp__law_number_right K ca vs H Q E) : vs.length = P__law_number_right.length := by obtain ⟨z, lo, hi, rfl, _⟩ := h; rfl
theorem p__law_number_right {K ca vs H Q E} (T : Ct K ca) (h : sp__law_number_right K ca vs H Q E) : t__law_number_right K ca { nx := fun _ H' => Q .non H', rt := Q } (start N__law_number_right vs) H := by
  obtain ⟨z, lo, hi, rfl, hz, so, q⟩ := h
  have nv := num_val (l := sl z) hz
  refine ⟨z, rfl, by omega, so, fun H1 e1 => ?_⟩
  refine due_ok (σ := [some (.str z), some (.int lo), some (.int hi), some (valV (sl z)), none, none, none]) (H := H1) (tl := uVar 1) (th := uVar 2) (lo := lo) (hi := hi) rfl nv (fun R r => r) (fun R r => r) ?_
  refine ⟨rfl, rfl, .str z, lo, hi, rfl, kn_str (by omega), fun H2 e2 => ?_⟩
  rw [parse_str hz]
  dsimp only [tNil]
  refine repr_num (num_within nv lo hi) ?_
  refine repr_rd (te := uVar 4) (num_within nv lo hi) (fun R r => r) ?_
  show bB (!decide (V.str _ = V.str _)) _ _
  refine bB_f (by simp) ?_
  refine ⟨.str z, 0, 999, rfl, kn_str (by omega), fun H3 e3 => ?_⟩
  rw [parse_str hz]
  refine ⟨by show 2 ≤ sizeLine; decide, fun p1 hp1 => ?_⟩
  refine ⟨rfl, rfl, .str z, lo, 999, rfl, kn_str (by omega), fun H4 e4 => ?_⟩
  rw [parse_str hz]
  refine ⟨by show 2 ≤ sizeLine; decide, fun p2 hp2 => ?_⟩
  refine ⟨by show 2 ≤ sizeLine; decide, fun a ha => ?_⟩
  have h1 : H4 p1 = some (.tup [.int 0, within (valV (sl z)) 0 999]) := e4 _ _ upd_same
  have e5 : Ex H (upd (upd H4 p2 (.tup [.int lo, within (valV (sl z)) lo 999])) a (.lst [.ref p1, .ref p2])) := (((((e1.trans e2).trans e3).trans (Ex.new hp1)).trans e4).trans (Ex.new hp2)).trans (Ex.new ha)
  have h1' : (upd (upd H4 p2 (.tup [.int lo, within (valV (sl z)) lo 999])) a (.lst [.ref p1, .ref p2])) p1 = some (.tup [.int 0, within (valV (sl z)) 0 999]) := (Ex.new ha) _ _ ((Ex.new hp2) _ _ h1)
  have h2' : (upd (upd H4 p2 (.tup [.int lo, within (valV (sl z)) lo 999])) a (.lst [.ref p1, .ref p2])) p2 = some (.tup [.int lo, within (valV (sl z)) lo 999]) := (Ex.new ha) _ _ upd_same
  generalize hH5 : upd (upd H4 p2 (.tup [.int lo, within (valV (sl z)) lo 999])) a (.lst [.ref p1, .ref p2]) = H5 at e5 h1' h2'
  have h3' : H5 a = some (.lst [.ref p1, .ref p2]) := by rw [← hH5]; exact upd_same
  have key : tFor (uIter K fun σ H Q => Q (.ref a) H) (gTup K 2 (gCons (gName 5) (gCons (gName 6) (gNil)))) (uIfS (uT (tOp (uNe2 K) (tCB (uRepr K) (tCons (uVar 6) (tNil))) (tCB (uRepr K) (tCons (uIf (uAnd (uT (tOp (uIs true) (uVar 3) (tC .non))) (uT (uChain uLe uLe (uVar 5) (uVar 3) (tC (.int 999))))) (uVar 3) (tC .non)) (tNil))))) (tRet (tC (.bl false))) (tNext))
      { nx := tNz K ca { nx := fun _ H' => Q .non H', rt := Q }, rt := Q } [some (.str z), some (.int lo), some (.int hi), some (valV (sl z)), some (within (valV (sl z)) lo hi), none, none] H5 := by
    refine fors (.lst a [.ref p1, .ref p2]) (fun R h => h) (rdL_of h3') (fun i σ H' => ∃ x5 x6, σ = [some (.str z), some (.int lo), some (.int hi), some (valV (sl z)), some (within (valV (sl z)) lo hi), x5, x6] ∧ H' = H5) ⟨none, none, rfl, rfl⟩ ?_ ?_ ?_
    · rintro i σ H' _ ⟨_, _, rfl, rfl⟩
      exact rdL_of h3'
    · rintro i y σ H' hy ⟨x5, x6, rfl, rfl⟩
      have one : ∀ (t : Addr) (b : Int), y = .ref t → H' t = some (.tup [.int b, within (valV (sl z)) b 999]) → gTup K 2 (gCons (gName 5) (gCons (gName 6) (gNil))) y [some (.str z), some (.int lo), some (.int hi), some (valV (sl z)), some (within (valV (sl z)) lo hi), x5, x6] H'
          fun σ2 H2 => uIfS (uT (tOp (uNe2 K) (tCB (uRepr K) (tCons (uVar 6) (tNil))) (tCB (uRepr K) (tCons (uIf (uAnd (uT (tOp (uIs true) (uVar 3) (tC .non))) (uT (uChain uLe uLe (uVar 5) (uVar 3) (tC (.int 999))))) (uVar 3) (tC .non)) (tNil))))) (tRet (tC (.bl false))) (tNext)
            { nx := fun σ H'_1 => ∃ x5 x6, σ = [some (.str z), some (.int lo), some (.int hi), some (valV (sl z)), some (within (valV (sl z)) lo hi), x5, x6] ∧ H'_1 = H', ct := fun σ H'_1 => ∃ x5 x6, σ = [some (.str z), some (.int lo), some (.int hi), some (valV (sl z)), some (within (valV (sl z)) lo hi), x5, x6] ∧ H'_1 = H', bk := tNz K ca { nx := fun _ H' => Q .non H', rt := Q }, rt := Q } σ2 H2 := by
        intro t b ey ht
        refine ⟨t, _, ey, rdT_sq (rdT_of ht), rfl, _, _, rfl, _, _, rfl, rfl, ?_⟩
        dsimp only [uIfS, uT, tOp, tCB, tCons, tNil]
        refine uVar_of (v := within (valV (sl z)) b 999) rfl ?_
        refine repr_num (num_within nv b 999) ?_
        refine due_ok (σ := [some (.str z), some (.int lo), some (.int hi), some (valV (sl z)), some (within (valV (sl z)) lo hi), some (.int b), some (within (valV (sl z)) b 999)]) (H := H') (tl := uVar 5) (th := tC (.int 999)) (lo := b) (hi := 999) rfl nv (fun R r => r) (fun R r => r) ?_
        refine repr_num (num_within nv b 999) ?_
        show bB (!decide (V.str _ = V.str _)) _ _
        refine bB_f (by simp) ?_
        exact ⟨_, _, rfl, rfl⟩
      match i, hy with
      | 0, hy => exact one p1 0 (by simpa using hy.symm) h1'
      | 1, hy => exact one p2 lo (by simpa using hy.symm) h2'
      | n + 2, hy => simp at hy
    · rintro σ H' ⟨x5, x6, rfl, rfl⟩
      exact nz_ok hz fun H6 e6 => q H6 (e5.trans e6)
  exact key

theorem wordsL_nl : ∀ (l : List Nat) (fs : List (List Nat)) (w : List Nat), 10 ∈ l → wordsL fs w l = none
  | c :: r, fs, w, h => by
    unfold wordsL
    by_cases h1 : c = 10 ∨ (c = 32 ∧ w = [])
    · rw [if_pos h1]
    · rw [if_neg h1]
      have hr : 10 ∈ r := by
        rcases List.mem_cons.mp h with e | e
        · exact absurd (.inl e.symm) h1
        · exact e
      split
      · exact wordsL_nl r _ _ hr
      · exact wordsL_nl r _ _ hr
theorem spl_cons (w : List Nat) (c : Nat) (r : List Nat) : TL.spl [32] 0 w (c :: r) = if c = 32 then w :: TL.spl [32] 0 [] r else TL.spl [32] 0 (w ++ [c]) r := by
  show (if TL.pre [32] (c :: r) = true then w :: TL.spl [32] 0 [] r else TL.spl [32] 0 (w ++ [c]) r) = _
  have e : TL.pre [32] (c :: r) = decide (c = 32) := by
    simp [TL.pre]
    try (constructor <;> intro h <;> omega)
  rw [e]
  simp
theorem wordsL_spl : ∀ (l : List Nat) (fs : List (List Nat)) (w : List Nat), 10 ∉ l → wordsL fs w l = if [] ∈ TL.spl [32] 0 w l then none else some (fs ++ TL.spl [32] 0 w l)
  | [], fs, w, _ => by
    show (if w = [] then none else some (fs ++ [w])) = if [] ∈ [w] then none else some (fs ++ [w])
    by_cases h : w = []
    · subst h; simp
    · rw [if_neg h, if_neg (by simpa using h)]
  | c :: r, fs, w, h => by
    have h10 : c ≠ 10 := fun e => h (by rw [e]; exact List.mem_cons_self)
    have hr : 10 ∉ r := fun e => h (List.mem_cons_of_mem _ e)
    rw [spl_cons]
    unfold wordsL
    by_cases hc : c = 32
    · have e32 : (if c = 32 then w :: TL.spl [32] 0 [] r else TL.spl [32] 0 (w ++ [c]) r) = w :: TL.spl [32] 0 [] r := if_pos hc
      rw [e32]
      by_cases hw : w = []
      · rw [if_pos (.inr ⟨hc, hw⟩), if_pos (by rw [hw]; exact List.mem_cons_self)]
      · rw [if_neg (by rintro (e | ⟨_, e⟩); exact h10 e; exact hw e), if_pos hc, wordsL_spl r _ _ hr]
        by_cases hm : [] ∈ TL.spl [32] 0 [] r
        · rw [if_pos hm, if_pos (List.mem_cons_of_mem _ hm)]
        · rw [if_neg hm, if_neg (by rw [List.mem_cons]; rintro (e | e); exact hw e.symm; exact hm e)]
          simp
    · have e32 : (if c = 32 then w :: TL.spl [32] 0 [] r else TL.spl [32] 0 (w ++ [c]) r) = TL.spl [32] 0 (w ++ [c]) r := if_neg hc
      rw [e32, if_neg (by rintro (e | ⟨e, _⟩); exact h10 e; exact hc e), if_neg hc, wordsL_spl r _ _ hr]
theorem uIn_one {K : PySem.W.Frag} {a : Str} {c : Nat} {z : Str} {H : Hp} {Q : VK} (h : a.cps.toList = [c]) (q : Q (.bl (decide (c ∈ sl z))) H) : uIn K false (.str a) (.str z) H Q := by
  have e := str_one h
  subst e
  exact q
theorem cps_nl : (Str.ofString "\n").cps.toList = [10] := by decide +kernel
theorem split_blank (z : Str) : Txt.split z (Str.ofString " ") = (TL.spl [32] 0 [] (sl z)).map SX.S := by
  have e1 : z = SX.S (sl z) := (SX.S_tl z).symm
  have e2 : Str.ofString " " = SX.S [32] := toList_inj cps_blank
  rw [e2]
  have := SX.split_S (a := sl z) (b := [32]) (by simp) (by decide)
  rw [SX.S_tl z] at this
  exact this
theorem inV_empty : ∀ ws : List (List Nat), inV (.str (Str.ofString "")) (wsV ws) = decide ([] ∈ ws)
  | [] => rfl
  | w :: ws => by
    have ih := inV_empty ws
    have e : inV (.str (Str.ofString "")) (wsV (w :: ws)) = (eqV (.str (SX.S w)) (.str (Str.ofString "")) || inV (.str (Str.ofString "")) (wsV ws)) := rfl
    rw [e, ih]
    have e2 : eqV (.str (SX.S w)) (.str (Str.ofString "")) = decide (w = []) := by
      have e3 : Str.ofString "" = SX.S [] := toList_inj cps_none
      rw [e3]
      show (SX.S w == SX.S []) = _
      exact SX.S_beq_eq
    rw [e2]
    rw [← Bool.decide_or]
    apply decide_eq_decide.mpr
    rw [List.mem_cons]
    exact ⟨fun h => h.imp Eq.symm id, fun h => h.imp Eq.symm id⟩
theorem flat_ws (ws : List (List Nat)) : (wsV ws).all flatV = true := by
  unfold wsV
  rw [List.all_map]
  exact List.all_eq_true.mpr fun _ _ => rfl
theorem len_split_words {K ca vs H Q E} (h : sp_split_words K ca vs H Q E) : vs.length = P_split_words.length := by obtain ⟨v, rfl, _⟩ := h; rfl
theorem p_split_words {K ca vs H Q E} (T : Ct K ca) (h : sp_split_words K ca vs H Q E) : t_split_words K ca { nx := fun _ H' => Q .non H', rt := Q } (start N_split_words vs) H := by
  obtain ⟨v, rfl, hk, q⟩ := h
  cases v with
  | str z =>
    have hs : z.length ≤ 1000 := hk.2
    have q : ToldW (wordsL [] [] (sl z)) H Q := q
    unfold t_split_words
    walk_at "u"
    refine uVar_of (v := .str z) rfl ?_
    refine oK_of (x := .str) rfl ?_
    refine bB_f rfl ?_
    refine uVar_of (v := .str z) rfl ?_
    refine uIn_one cps_nl ?_
    refine bB_d (fun h1 => ?_) (fun h1 => ?_)
    · rw [wordsL_nl _ _ _ h1] at q
      exact q H (Ex.refl H)
    · rw [wordsL_spl _ _ _ h1] at q
      refine ⟨⟨_, rfl⟩, by decide +kernel, by rw [sizeLine_eq]; omega, fun p hp => ?_⟩
      rw [split_blank]
      have ew : ((TL.spl [32] 0 [] (sl z)).map SX.S).map V.str = wsV (TL.spl [32] 0 [] (sl z)) := by rw [List.map_map]; rfl
      rw [ew]
      refine oS_of (rdS_l upd_same) ⟨rfl, flat_ws _, ?_⟩
      show bB (inV (.str (Str.ofString "")) (wsV (TL.spl [32] 0 [] (sl z)))) _ _
      rw [inV_empty]
      refine bB_d (fun h2 => ?_) (fun h2 => ?_)
      · rw [if_pos h2] at q
        exact q _ (Ex.new hp)
      · rw [if_neg h2] at q
        exact q p _ hp (Ex.new hp) upd_same
  | ref a =>
    obtain ⟨t, e, ht⟩ := tyOf_ref hk.1
    refine oK_of e ?_
    rcases ht with rfl | rfl | rfl <;> exact q H (Ex.refl H)
  | non => exact q H (Ex.refl H)
  | bl b => exact q H (Ex.refl H)
  | int z => exact q H (Ex.refl H)
  | byt b => cases hk.1
  | flt b => cases hk.1
  | ty b => cases hk.1

theorem S_snoc (w : List Nat) (c : Nat) : SX.S w ++ (⟨#[c]⟩ : Str) = SX.S (w ++ [c]) := SX.S_cat w [c]
theorem wsV_snoc (fs : List (List Nat)) (w : List Nat) : wsV (fs ++ [w]) = wsV fs ++ [V.str (SX.S w)] := by unfold wsV; rw [List.map_append]; rfl
theorem len__law_words {K ca vs H Q E} (h : sp__law_words K ca vs H Q E) : vs.length = P__law_words.length := by obtain ⟨z, rfl, _⟩ := h; rfl
theorem p__law_words {K ca vs H Q E} (T : Ct K ca) (h : sp__law_words K ca vs H Q E) : t__law_words K ca { nx := fun _ H' => Q .non H', rt := Q } (start N__law_words vs) H := by
  obtain ⟨z, rfl, hz, q⟩ := h
  refine ⟨by decide, fun p hp => ?_⟩
  walk_at "u"
  have eS : Str.ofString "" = SX.S [] := toList_inj cps_none
  refine fors (.str z) (fun R h => h) trivial (fun i σ H' => ∃ fs w x, σ = [some (.str z), some (.ref p), some (.str (SX.S w)), x] ∧ Ex H H' ∧ H' p = some (.lst (wsV fs)) ∧ fs.length ≤ i ∧ w.length ≤ i ∧ wordsL fs w ((sl z).drop i) = wordsL [] [] (sl z)) ?_ (fun _ _ _ _ _ => trivial) ?_ ?_
  · refine ⟨[], [], none, ?_, Ex.new hp, upd_same, Nat.le_refl _, Nat.le_refl _, rfl⟩
    rw [← eS]; rfl
  · rintro i y σ H' hy ⟨fs, w, x, rfl, e1, hl, hf, hw, hk⟩
    obtain ⟨c, hc, rfl⟩ := chars_at hy
    have hi : i < z.length := (List.getElem?_eq_some_iff.mp hc).1
    have hd : (sl z).drop i = c :: (sl z).drop (i + 1) := by
      rw [List.drop_eq_getElem_cons hi]
      congr 1
      have := (List.getElem?_eq_some_iff.mp hc).2
      exact this
    rw [hd] at hk
    have c1 : ∀ (a : String) (k : Nat), (Str.ofString a).cps.toList = [k] → decide (V.str ⟨#[c]⟩ = V.str (Str.ofString a)) = decide (c = k) := fun a k h => by
      rw [eq_fix _ a h]
      apply decide_eq_decide.mpr
      show [c] = [k] ↔ _
      simp
    have cw : decide (V.str (SX.S w) = V.str (Str.ofString "")) = decide (w = []) := by rw [eq_fix _ "" cps_none]
    have no : (c = 10 ∨ (c = 32 ∧ w = [])) → Q .non H' := fun h => by
      have e : wordsL fs w (c :: (sl z).drop (i + 1)) = none := by unfold wordsL; rw [if_pos h]
      rw [← hk, e] at q
      exact q H' e1
    have go : ¬ (c = 10 ∨ (c = 32 ∧ w = [])) → uIfS (uT (tOp (uEq2 K) (uVar 3) (tC (.str " ")))) (tSeq (tDrop (tBM K "list" uAppend (uVar 1) (tCons (uVar 2) (tNil)))) (tAsg (tC (.str "")) (gName 2))) (tAsg (tOp (uAdd K) (uVar 2) (uVar 3)) (gName 2))
        { nx := fun σ H' => ∃ fs w x, σ = [some (.str z), some (.ref p), some (.str (SX.S w)), x] ∧ Ex H H' ∧ H' p = some (.lst (wsV fs)) ∧ fs.length ≤ i + 1 ∧ w.length ≤ i + 1 ∧ wordsL fs w ((sl z).drop (i + 1)) = wordsL [] [] (sl z), rt := Q } [some (.str z), some (.ref p), some (.str (SX.S w)), some (.str ⟨#[c]⟩)] H' := by
      intro h
      have e : wordsL fs w (c :: (sl z).drop (i + 1)) = if c = 32 then wordsL (fs ++ [w]) [] ((sl z).drop (i + 1)) else wordsL fs (w ++ [c]) ((sl z).drop (i + 1)) := by
        rw [wordsL, if_neg h]
      rw [e] at hk
      show bB (decide (V.str ⟨#[c]⟩ = V.str (Str.ofString " "))) _ _
      rw [c1 " " 32 cps_blank]
      refine bB_d (fun h2 => ?_) (fun h2 => ?_)
      · rw [if_pos h2] at hk
        refine ⟨.inl ⟨rfl, _, .inl (.inl hl)⟩, oK_of (mutL_of hl) ⟨?_, ?_⟩⟩
        · unfold wsV; rw [List.length_map, sizeLine_eq]; omega
        · refine ⟨fs ++ [w], [], some (.str ⟨#[c]⟩), ?_, Ex.mut e1 hp, ?_, ?_, by simp, hk⟩
          · rw [← eS]; rfl
          · rw [upd_same, wsV_snoc]
          · rw [List.length_append]; show _ + 1 ≤ _; omega
      · rw [if_neg h2] at hk
        refine ⟨?_, fs, w ++ [c], some (.str ⟨#[c]⟩), ?_, e1, hl, by omega, ?_, hk⟩
        · rw [SX.S_len]; show _ + 1 ≤ _; rw [sizeLine_eq]; omega
        · rw [← S_snoc]; rfl
        · rw [List.length_append]; show _ + 1 ≤ _; omega
    show bB (decide (V.str ⟨#[c]⟩ = V.str (Str.ofString "\n"))) _ _
    rw [c1 "\n" 10 cps_nl]
    refine bB_d (fun h1 => no (.inl h1)) (fun h1 => ?_)
    show bB (decide (V.str ⟨#[c]⟩ = V.str (Str.ofString " "))) _ _
    rw [c1 " " 32 cps_blank]
    refine bB_d (fun h2 => ?_) (fun h2 => ?_)
    · show bB (decide (V.str (SX.S w) = V.str (Str.ofString ""))) _ _
      rw [cw]
      refine bB_d (fun h3 => no (.inr ⟨h2, h3⟩)) (fun h3 => ?_)
      exact go (by rintro (e | ⟨_, e⟩); exact h1 e; exact h3 e)
    · exact go (by rintro (e | ⟨e, _⟩); exact h1 e; exact h2 e)
  · rintro σ H' ⟨fs, w, x, rfl, e1, hl, hf, hw, hk⟩
    rw [chars_len, sl_len, List.drop_length] at hk
    rw [chars_len] at hf
    have hk : (if w = [] then none else some (fs ++ [w])) = wordsL [] [] (sl z) := hk
    rw [← hk] at q
    show bB (decide (V.str (SX.S w) = V.str (Str.ofString ""))) _ _
    rw [eq_fix _ "" cps_none]
    refine bB_d (fun h3 => ?_) (fun h3 => ?_)
    · have h3 : w = [] := h3
      rw [if_pos h3] at q
      exact q H' e1
    · have h3 : w ≠ [] := h3
      rw [if_neg h3] at q
      refine ⟨by show 1 ≤ sizeLine; decide, fun r hr => ?_⟩
      refine ⟨wsV fs, [.str (SX.S w)], (by rw [upd_ne (ne_of_none hl hr)]; exact hl), upd_same, ?_, fun d hd => ?_⟩
      · unfold wsV; rw [List.length_map, sizeLine_eq]; show _ + 1 ≤ _; omega
      · have e2 := e1.trans (Ex.new (o := .lst [.str (SX.S w)]) hr)
        refine q d _ (e2.free hd) (e2.trans (Ex.new hd)) ?_
        rw [upd_same, wsV_snoc]

theorem sok_of (s : String) : sok (Str.ofString s) := fun c hc => by
  rw [show sl (Str.ofString s) = s.toList.map Char.toNat from by rw [Str.ofString_eq_toList]] at hc
  obtain ⟨ch, _, rfl⟩ := List.mem_map.mp hc
  have h := ch.valid
  have e : ch.toNat = ch.val.toNat := rfl
  rw [e]
  rcases h with h | h
  · have : ch.val.toNat < 55296 := h
    omega
  · have : ch.val.toNat < 1114112 := h.2
    exact this
theorem slen_cuts (z : Str) {r s : Int} (h0 : 0 ≤ r) (h1 : r ≤ s) : (cutS z none (some r)).length + (cutS z (some s) none).length ≤ z.length := by
  have e1 : (cutS z none (some r)).length ≤ min r.toNat z.length := by
    rw [sl_len, sl_cut, List.length_take]
    have : HT.sIx z.length z.length (some r) = min r.toNat z.length := by
      show (if r < 0 then _ else _) = _
      rw [if_neg (by omega)]
    rw [this]
    show min (min r.toNat z.length - 0) _ ≤ _
    omega
  have e2 : (cutS z (some s) none).length ≤ z.length - min s.toNat z.length := by
    rw [sl_len, sl_cut, List.length_take, List.length_drop]
    have : HT.sIx z.length 0 (some s) = min s.toNat z.length := by
      show (if s < 0 then _ else _) = _
      rw [if_neg (by omega)]
    rw [this]
    show min _ _ ≤ _
    have : (sl z).length = z.length := rfl
    omega
  omega
theorem len__law_text {K ca vs H Q E} (h : sp__law_text K ca vs H Q E) : vs.length = P__law_text.length := by obtain ⟨b, n, rfl, _⟩ := h; rfl
theorem p__law_text {K ca vs H Q E} (T : Ct K ca) (h : sp__law_text K ca vs H Q E) : t__law_text K ca { nx := fun _ H' => Q .non H', rt := Q } (start N__law_text vs) H := by
  obtain ⟨b, n, rfl, B, hn, q⟩ := h
  refine ⟨b, _, n, rfl, B, by omega, by decide, by decide, fun r1 H1 a1 c1 B1 f1 => ?_⟩
  refine ⟨b, _, _, rfl, B1, by omega, by decide, by decide, fun r2 H2 a2 c2 B2 f2 => ?_⟩
  refine ⟨⟨by decide, by decide, by decide⟩, b, _, _, rfl, B2, by omega, by decide, by decide, fun r3 H3 a3 c3 B3 f3 => ?_⟩
  have c3 : r3 < 100000000 := c3
  refine ⟨⟨by decide, by decide, by decide⟩, ⟨.inl ⟨by omega, by omega⟩, ?_⟩⟩
  refine ⟨⟨by decide, by decide, by decide⟩, b, _, _, rfl, B3, by omega, by decide, by decide, fun r4 H4 a4 c4 B4 f4 => ?_⟩
  have c4 : r4 < 100000000 := c4
  refine ⟨by show 3 ≤ sizeLine; decide, fun p hp => ?_⟩
  have F4 : Fr b H H4 := ((f1.trans f2).trans f3).trans f4
  -- the sign, the number
  refine ⟨by show 2 ≤ sizeLine; decide, fun p2 hp2 => ?_⟩
  have B5 := (B4.new (o := .lst [.int r1, .int r2, .int (r3 * 10 ^ Int.toNat 21 + r4)]) hp).new (o := .lst [.str "", .str "-"]) hp2
  refine ⟨b, _, _, rfl, B5, by omega, by decide, by decide, fun r6 H6 a6 c6 B6 f6 => ?_⟩
  have hne : p ≠ p2 := ne_of_none (upd_same (H := H4)) hp2
  have hp6 := f6 p2 _ upd_same ((B4.new hp).ne hp2)
  have hp6' : H6 p = some (.lst [.int r1, .int r2, .int (r3 * 10 ^ Int.toNat 21 + r4)]) := f6 p _ (by rw [upd_ne hne, upd_same]) (B4.ne hp)
  have F6 : Fr b H H6 := F4.trans (((Fr.new hp).trans (Fr.new hp2)).trans f6)
  obtain ⟨v1, hv1, hm1⟩ := pick (xs := [V.str "", V.str "-"]) a6 c6
  refine oS_of (rdS_l hp6) (oK_of hv1 ?_)
  have hv1 : ∃ w : Str, v1 = .str w ∧ w.length ≤ 1 ∧ sok w := by
    simp only [List.mem_cons, List.not_mem_nil, or_false] at hm1
    rcases hm1 with rfl | rfl
    · exact ⟨_, rfl, by decide +kernel, sok_of _⟩
    · exact ⟨_, rfl, by decide +kernel, sok_of _⟩
  obtain ⟨w1, rfl, hw1, ho1⟩ := hv1
  refine ⟨b, _, _, rfl, B6, by omega, by decide, by decide, fun r7 H7 a7 c7 B7 f7 => ?_⟩
  have hp7 := f7 p _ hp6' (B4.ne hp)
  have F7 := F6.trans f7
  obtain ⟨v2, hv2, hm2⟩ := pick (xs := [V.int r1, .int r2, .int (r3 * 10 ^ Int.toNat 21 + r4)]) a7 c7
  refine oS_of (rdS_l hp7) (oK_of hv2 ?_)
  have hv2 : ∃ i : Int, v2 = .int i ∧ 0 ≤ i ∧ i < 10 ^ 29 := by
    have e21 : (10 : Int) ^ Int.toNat 21 = 1000000000000000000000 := by decide
    simp only [List.mem_cons, List.not_mem_nil, or_false] at hm2
    rcases hm2 with rfl | rfl | rfl
    · exact ⟨_, rfl, by omega, by omega⟩
    · exact ⟨_, rfl, by omega, by omega⟩
    · refine ⟨_, rfl, ?_, ?_⟩
      · rw [e21]; omega
      · rw [e21]; omega
  obtain ⟨i, rfl, hi0, hi1⟩ := hv2
  have hil : (Str.ofString (toString i)).length ≤ 29 := toString_length_le hi0 (by decide) hi1
  refine ⟨log_small (by omega) (by omega), szl (by omega), ?_⟩
  have ht : (w1 ++ Str.ofString (toString i)).length ≤ 30 := by rw [slen_app]; omega
  have hto : sok (w1 ++ Str.ofString (toString i)) := sok_app ho1 (sok_of _)
  generalize w1 ++ Str.ofString (toString i) = t at ht hto
  -- the place, the sign
  refine ⟨szl (by omega), b, _, _, rfl, B7, by omega, by show (0 : Int) < (t.length : Int) + 1; omega, by show (t.length : Int) + 1 ≤ _; omega, fun r8 H8 a8 c8 B8 f8 => ?_⟩
  refine ⟨b, _, _, rfl, B8, by omega, by decide, by decide, fun r9 H9 a9 c9 B9 f9 => ⟨by decide +kernel, ?_⟩⟩
  have F9 := (F7.trans f8).trans f9
  obtain ⟨c, hc, hcm⟩ := pick (xs := (Str.ofString "0123456789-+ ._a\n").cps.toList) a9 (by rw [show (Str.ofString "0123456789-+ ._a\n").cps.toList.length = 17 by decide +kernel]; exact c9)
  refine oK_of hc ?_
  have hco : sok ⟨#[c]⟩ := sok_one (sok_of "0123456789-+ ._a\n" c hcm)
  have l1 : (⟨#[c]⟩ : Str).length = 1 := rfl
  have k1 := slen_cuts t a8 (Int.le_refl r8)
  have k2 := slen_cuts t a8 (show r8 ≤ r8 + 1 by omega)
  have l0 : (Str.ofString "0").length = 1 := by decide +kernel
  have lm : (Str.ofString "-").length = 1 := by decide +kernel
  refine ⟨szl (by omega), ⟨szl (by omega), ⟨szl (by omega), ⟨szl (by rw [slen_app]; omega), ?_⟩⟩⟩⟩
  refine ⟨szl (by omega), ⟨szl (by omega), ⟨szl (by omega), ⟨szl (by rw [slen_app]; omega), ?_⟩⟩⟩⟩
  refine ⟨szl (by omega), ⟨szl (by omega), ?_⟩⟩
  refine ⟨by show 7 ≤ sizeLine; decide, fun p3 hp3 => ?_⟩
  refine ⟨b, _, _, rfl, B9.new hp3, by omega, by decide, by decide, fun r10 H10 a10 c10 B10 f10 => ?_⟩
  have hp10 := f10 p3 _ upd_same (B9.ne hp3)
  obtain ⟨v, hv, hm⟩ := pick (xs := [V.str t, V.str t, V.str (cutS t none (some r8) ++ ⟨#[c]⟩ ++ cutS t (some r8) none), V.str (cutS t none (some r8) ++ ⟨#[c]⟩ ++ cutS t (some (r8 + 1)) none), V.str ("0" ++ t), V.str ("-" ++ t), V.str ""]) a10 c10
  refine oS_of (rdS_l hp10) (oK_of hv ?_)
  have hv : ∃ w : Str, v = .str w ∧ w.length ≤ 31 ∧ sok w := by
    simp only [List.mem_cons, List.not_mem_nil, or_false] at hm
    rcases hm with rfl | rfl | rfl | rfl | rfl | rfl | rfl
    · exact ⟨_, rfl, by omega, hto⟩
    · exact ⟨_, rfl, by omega, hto⟩
    · exact ⟨_, rfl, by rw [slen_app, slen_app]; omega, sok_app (sok_app (sok_cut hto _ _) hco) (sok_cut hto _ _)⟩
    · exact ⟨_, rfl, by rw [slen_app, slen_app]; omega, sok_app (sok_app (sok_cut hto _ _) hco) (sok_cut hto _ _)⟩
    · exact ⟨_, rfl, by rw [slen_app]; omega, sok_app (sok_of _) hto⟩
    · exact ⟨_, rfl, by rw [slen_app]; omega, sok_app (sok_of _) hto⟩
    · exact ⟨_, rfl, by decide +kernel, sok_of _⟩
  obtain ⟨w, rfl, hw, hwo⟩ := hv
  exact q w H10 hw hwo (B10.le (by omega)) (F9.trans ((Fr.new hp3).trans f10))

abbrev signs : Str := Str.ofString "abcdefghijklmnopqrstuvwxyz0123456789ABCDEFGHIJKLMNOPQRSTUVWXYZ!#$&()*+,-./:;<=>?\x40[]^_{|}~'"
theorem signs_len : (sl signs).length = 91 ∨ (sl signs).length = 90 ∨ (sl signs).length = 92 ∨ (sl signs).length = 89 ∨ (sl signs).length = 93 := by decide +kernel
theorem joinL_len (s : List Nat) : ∀ ps : List (List Nat), (TL.joinL s ps).length ≤ (ps.map (·.length)).sum + ps.length * s.length
  | [] => by simp [TL.joinL]
  | [p] => by simp [TL.joinL]
  | p :: q :: r => by
    have := joinL_len s (q :: r)
    show (p ++ (s ++ TL.joinL s (q :: r))).length ≤ _
    rw [List.length_append, List.length_append, List.map_cons, List.sum_cons, List.length_cons, Nat.succ_mul]
    omega
theorem joinL_mem (s : List Nat) {c : Nat} : ∀ ps : List (List Nat), c ∈ TL.joinL s ps → c ∈ s ∨ ∃ p ∈ ps, c ∈ p
  | [], h => by simp [TL.joinL] at h
  | [p], h => .inr ⟨p, List.mem_cons_self, by simpa [TL.joinL] using h⟩
  | p :: q :: r, h => by
    have h : c ∈ p ++ (s ++ TL.joinL s (q :: r)) := h
    rw [List.mem_append, List.mem_append] at h
    rcases h with h | h | h
    · exact .inr ⟨p, List.mem_cons_self, h⟩
    · exact .inl h
    · rcases joinL_mem s (q :: r) h with h | ⟨x, hx, h⟩
      · exact .inl h
      · exact .inr ⟨x, List.mem_cons_of_mem _ hx, h⟩
theorem slen_join (a : Str) (ps : List Str) : (Txt.join a ps).length ≤ (ps.map (·.length)).sum + ps.length * a.length := by
  rw [sl_len, sl_join]
  have := joinL_len (sl a) (ps.map sl)
  rw [List.map_map, List.length_map] at this
  exact this
theorem sok_join {a : Str} {ps : List Str} (ha : sok a) (h : ∀ p ∈ ps, sok p) : sok (Txt.join a ps) := fun c hc => by
  rw [sl_join] at hc
  rcases joinL_mem _ _ hc with hc | ⟨x, hx, hc⟩
  · exact ha c hc
  · obtain ⟨p, hp, rfl⟩ := List.mem_map.mp hx
    exact h p hp c hc
theorem sum_le {m : Nat} : ∀ {ps : List Str}, (∀ p ∈ ps, p.length ≤ m) → (ps.map (·.length)).sum ≤ ps.length * m
  | [], _ => by simp
  | p :: ps, h => by
    have h1 := h p List.mem_cons_self
    have h2 := sum_le (m := m) (ps := ps) fun q hq => h q (List.mem_cons_of_mem _ hq)
    rw [List.map_cons, List.sum_cons, List.length_cons, Nat.succ_mul]
    omega
/-- one word more -/
def tWd (K : PySem.W.Frag) (ca : Nat → Addr) : TS := (tDrop (tBM K "list" uAppend (uVar 2) (tCons (tM1 (uJoin K) (tC (.str "")) (tLc (iRng1 (tCons (tOp (uAdd K) (tC (.int 1)) (tCall (sp__law_take K ca) [] E0 (tCons (uVar 0) (tCons (tC (.int 4)) (tNil))))) (tNil))) (gName 7) (tYes) (tOp (uIx K) (uVar 1) (tCall (sp__law_take K ca) [] E0 (tCons (uVar 0) (tCons (tCB (uLen K) (tCons (uVar 1) (tNil))) (tNil))))) [7])) (tNil))))
/-- behind the words -/
def tLr (K : PySem.W.Frag) (ca : Nat → Addr) : TS := (tSeq (tAsg (tM1 (uJoin K) (tC (.str " ")) (uVar 2)) (gName 4)) (tSeq (tAsg (tCall (sp__law_take K ca) [] E0 (tCons (uVar 0) (tCons (tOp (uAdd K) (tCB (uLen K) (tCons (uVar 4) (tNil))) (tC (.int 1))) (tNil)))) (gName 5)) (tSeq (tAsg (tLst (tCons (uVar 4) (tCons (uVar 4) (tCons (uVar 4) (tCons (tOp (uAdd K) (tC (.str " ")) (uVar 4)) (tCons (tOp (uAdd K) (uVar 4) (tC (.str " "))) (tCons (tOp (uAdd K) (tOp (uAdd K) (L2.tSl (uSl K) (uVar 4) (tNoPart) (uPart (uVar 5))) (tC (.str " "))) (L2.tSl (uSl K) (uVar 4) (uPart (uVar 5)) (tNoPart))) (tCons (tOp (uAdd K) (tOp (uAdd K) (L2.tSl (uSl K) (uVar 4) (tNoPart) (uPart (uVar 5))) (tC (.str "\n"))) (L2.tSl (uSl K) (uVar 4) (uPart (uVar 5)) (tNoPart))) (tCons (tC (.str "")) (tNil)))))))))) (gName 6)) (tRet (tOp (uIx K) (uVar 6) (tCall (sp__law_take K ca) [] E0 (tCons (uVar 0) (tCons (tC (.int 8)) (tNil)))))))))
theorem wd_ok {K : PySem.W.Frag} {ca : Nat → Addr} {H : Hp} {b p : Addr} {n : Nat} {ws : List Str} {D : Ends} {x3 : Option V} (B : BoxAt H b n) (hn : n ≤ 990000) (hp : H p = some (.lst (ws.map V.str))) (hpb : p ≠ b) (hl : ws.length ≤ 100)
    (k : ∀ H' w, BoxAt H' b (n + 5) → (∀ a o, H a = some o → a ≠ b → a ≠ p → H' a = some o) → H' p = some (.lst ((ws ++ [w]).map V.str)) → w.length ≤ 4 → sok w → D.nx [some (.ref b), some (.str signs), some (.ref p), x3, none, none, none, none] H') :
    tWd K ca D [some (.ref b), some (.str signs), some (.ref p), x3, none, none, none, none] H := by
  refine ⟨.inl ⟨rfl, _, .inl (.inl hp)⟩, ⟨_, rfl⟩, ?_⟩
  refine ⟨b, _, n, rfl, B, by omega, by decide, by decide, fun r1 H1 a1 c1 B1 f1 => ?_⟩
  have hp1 := f1 p _ hp hpb
  have key : ∀ (Q : VK), (∀ D' H' (ys : List Str), H1 D' = none → BoxAt H' b (n + 5) → (∀ a o, H1 a = some o → a ≠ b → H' a = some o) → H' D' = some (.lst (ys.map V.str)) → ys.length ≤ 4 → (∀ y ∈ ys, y.length ≤ 1 ∧ sok y) → Q (.ref D') H') →
      tLc (iRng1 fun _ _ R => R [.int (1 + r1)] H1) (gName 7) (tYes) (tOp (uIx K) (uVar 1) (tCall (sp__law_take K ca) [] E0 (tCons (uVar 0) (tCons (tCB (uLen K) (tCons (uVar 1) (tNil))) (tNil))))) [7] [some (.ref b), some (.str signs), some (.ref p), x3, none, none, none, none] H1 Q := by
    intro Q kq
    refine lcr (n := 1 + r1) (fun R h => h) (by omega) (by omega) (fun D' i H' => ∃ ys : List Str, H1 D' = none ∧ BoxAt H' b (n + 1 + i) ∧ (∀ a o, H1 a = some o → a ≠ b → H' a = some o) ∧ H' D' = some (.lst (ys.map V.str)) ∧ ys.length = i ∧ (∀ y ∈ ys, y.length ≤ 1 ∧ sok y)) ?_ (fun y => rfl) ?_ ?_
    · exact fun D' hD => ⟨[], hD, (B1.new hD).le (by omega), fun a o h _ => Ex.new hD a o h, upd_same, rfl, fun y hy => by cases hy⟩
    · rintro D' i H' hi ⟨ys, hD, B', fr, hl', hy, hk⟩
      have sz : signs.length ≤ sizeLine := by decide +kernel
      have lo : (0 : Int) < (signs.length : Int) := by decide +kernel
      have hi2 : (signs.length : Int) ≤ 100000000 := by decide +kernel
      refine ⟨sz, b, _, _, rfl, B', by omega, lo, hi2, fun r H2 a2 c2 B2 f2 => ⟨sz, ?_⟩⟩
      obtain ⟨c, hc, hcm⟩ := pick (xs := sl signs) a2 c2
      have hDb : D' ≠ b := B1.ne hD
      refine oK_of hc ⟨_, f2 D' _ hl' hDb, ?_, ys ++ [⟨#[c]⟩], hD, ?_, ?_, ?_, ?_, ?_⟩
      · rw [List.length_map]; exact szt (by omega)
      · obtain ⟨x, y, z, e, rest⟩ := B2
        exact ⟨x, y, z, by rw [upd_ne (Ne.symm hDb)]; exact e, by omega⟩
      · intro a o h hne
        rw [upd_ne (ne_of_none h hD)]
        exact f2 a o (fr a o h hne) hne
      · rw [upd_same, List.map_append]; rfl
      · rw [List.length_append, hy]; rfl
      · intro y hy2
        rcases List.mem_append.mp hy2 with hy2 | hy2
        · exact hk y hy2
        · have : y = ⟨#[c]⟩ := by simpa using hy2
          subst this
          exact ⟨Nat.le_refl 1, sok_one (sok_of _ c hcm)⟩
    · rintro D' H' hD ⟨ys, _, B', fr, hl', hy, hk⟩
      exact kq D' H' ys hD (B'.le (by omega)) fr hl' (by omega) hk
  refine key (fun y H2 => uJoin K (.str (Str.ofString "")) [y] H2 fun x H3 => uAppend (.ref p) [x] H3 fun _ H4 => D.nx [some (.ref b), some (.str signs), some (.ref p), x3, none, none, none, none] H4) fun D' H' ys hD B' fr hl' hy hk => ?_
  have hs := sum_le (m := 1) fun y hy => (hk y hy).1
  refine oS_of (rdS_l hl') ⟨ys, rfl, ?_, ?_⟩
  · show _ + ys.length * 0 ≤ _; omega
  · have hp' := fr p _ hp1 hpb
    have hpD : p ≠ D' := ne_of_none hp1 hD
    refine oK_of (mutL_of hp') ⟨?_, ?_⟩
    · rw [List.length_map]; exact szt (by omega)
    · refine k _ (Txt.join "" ys) ?_ ?_ ?_ ?_ ?_
      · obtain ⟨x, y, z, e, rest⟩ := B'
        exact ⟨x, y, z, by rw [upd_ne (Ne.symm hpb)]; exact e, rest⟩
      · intro a o h h1 h2
        rw [upd_ne h2]
        exact fr a o (f1 a o h h1) h1
      · rw [upd_same, List.map_append]; rfl
      · rw [slen_join0]; omega
      · exact sok_join0 fun y hy => (hk y hy).2
theorem lr_ok {K : PySem.W.Frag} {ca : Nat → Addr} {H : Hp} {Q : VK} {b p : Addr} {n : Nat} {ws : List Str} {x3 : Option V} (B : BoxAt H b n) (hn : n ≤ 990000) (hp : H p = some (.lst (ws.map V.str))) (hl : ws.length ≤ 5) (hw : ∀ w ∈ ws, w.length ≤ 4 ∧ sok w)
    (q : ∀ z H', z.length ≤ 100 → sok z → BoxAt H' b (n + 2) → Fr b H H' → Q (.str z) H') : tLr K ca { nx := fun _ H' => Q .non H', rt := Q } [some (.ref b), some (.str signs), some (.ref p), x3, none, none, none, none] H := by
  have hs := sum_le (m := 4) fun y hy => (hw y hy).1
  have lb : (Str.ofString " ").length = 1 := by decide +kernel
  have lf : (Str.ofString "\n").length = 1 := by decide +kernel
  refine ⟨⟨_, rfl⟩, oS_of (rdS_l hp) ⟨ws, rfl, by rw [lb]; omega, ?_⟩⟩
  have ht : (Txt.join (Str.ofString " ") ws).length ≤ 25 := by
    have := slen_join (Str.ofString " ") ws
    rw [lb] at this; omega
  have hto : sok (Txt.join (Str.ofString " ") ws) := sok_join (sok_of _) fun w h => (hw w h).2
  generalize Txt.join (Str.ofString " ") ws = t at ht hto
  refine ⟨szl (by omega), b, _, _, rfl, B, by omega, by show (0 : Int) < (t.length : Int) + 1; omega, by show (t.length : Int) + 1 ≤ _; omega, fun r8 H8 a8 c8 B8 f8 => ?_⟩
  have k1 := slen_cuts t a8 (Int.le_refl r8)
  refine ⟨szl (by omega), ⟨szl (by omega), ?_⟩⟩
  refine ⟨szl (by omega), ⟨szl (by omega), ⟨szl (by omega), ⟨szl (by rw [slen_app]; omega), ?_⟩⟩⟩⟩
  refine ⟨szl (by omega), ⟨szl (by omega), ⟨szl (by omega), ⟨szl (by rw [slen_app]; omega), ?_⟩⟩⟩⟩
  refine ⟨by show 8 ≤ sizeLine; decide, fun p3 hp3 => ?_⟩
  refine ⟨b, _, _, rfl, B8.new hp3, by omega, by decide, by decide, fun r10 H10 a10 c10 B10 f10 => ?_⟩
  have hp10 := f10 p3 _ upd_same (B8.ne hp3)
  obtain ⟨v, hv, hm⟩ := pick (xs := [V.str t, V.str t, V.str t, V.str (" " ++ t), V.str (t ++ " "), V.str (cutS t none (some r8) ++ " " ++ cutS t (some r8) none), V.str (cutS t none (some r8) ++ "\n" ++ cutS t (some r8) none), V.str ""]) a10 c10
  refine oS_of (rdS_l hp10) (oK_of hv ?_)
  have hv : ∃ w : Str, v = .str w ∧ w.length ≤ 100 ∧ sok w := by
    simp only [List.mem_cons, List.not_mem_nil, or_false] at hm
    rcases hm with rfl | rfl | rfl | rfl | rfl | rfl | rfl | rfl
    · exact ⟨_, rfl, by omega, hto⟩
    · exact ⟨_, rfl, by omega, hto⟩
    · exact ⟨_, rfl, by omega, hto⟩
    · exact ⟨_, rfl, by rw [slen_app]; omega, sok_app (sok_of _) hto⟩
    · exact ⟨_, rfl, by rw [slen_app]; omega, sok_app hto (sok_of _)⟩
    · exact ⟨_, rfl, by rw [slen_app, slen_app]; omega, sok_app (sok_app (sok_cut hto _ _) (sok_of _)) (sok_cut hto _ _)⟩
    · exact ⟨_, rfl, by rw [slen_app, slen_app]; omega, sok_app (sok_app (sok_cut hto _ _) (sok_of _)) (sok_cut hto _ _)⟩
    · exact ⟨_, rfl, by decide +kernel, sok_of _⟩
  obtain ⟨w, rfl, hw, hwo⟩ := hv
  exact q w H10 hw hwo B10 (f8.trans ((Fr.new hp3).trans f10))
theorem len__law_line {K ca vs H Q E} (h : sp__law_line K ca vs H Q E) : vs.length = P__law_line.length := by obtain ⟨b, n, rfl, _⟩ := h; rfl
theorem p__law_line {K ca vs H Q E} (T : Ct K ca) (h : sp__law_line K ca vs H Q E) : t__law_line K ca { nx := fun _ H' => Q .non H', rt := Q } (start N__law_line vs) H := by
  obtain ⟨b, n, rfl, B, hn, q⟩ := h
  refine ⟨by decide, fun p hp => ?_⟩
  have B0 := B.new (o := .lst []) hp
  have hpb : p ≠ b := B.ne hp
  refine ⟨b, _, n, rfl, B0, by omega, by decide, by decide, fun r1 H1 a1 c1 B1 f1 => ?_⟩
  have F1 : Fr b H H1 := (Fr.new hp).trans f1
  have key : tFor (iRng1 fun _ H R => R [.int (1 + r1)] H) (gName 3) (tWd K ca) { nx := tLr K ca { nx := fun _ H' => Q .non H', rt := Q }, rt := Q } [some (.ref b), some (.str signs), some (.ref p), none, none, none, none, none] H1 := by
    refine forr (n := 1 + r1) (fun R h => h) (by omega) (by omega) (fun i σ H' => ∃ (ws : List Str) (x : Option V), σ = [some (.ref b), some (.str signs), some (.ref p), x, none, none, none, none] ∧ BoxAt H' b (n + 1 + 5 * i) ∧ Fr b H H' ∧ H' p = some (.lst (ws.map V.str)) ∧ ws.length = i ∧ ∀ w ∈ ws, w.length ≤ 4 ∧ sok w) ?_ ?_ ?_
    · exact ⟨[], none, rfl, B1, F1, f1 p _ upd_same hpb, rfl, fun w hw => by cases hw⟩
    · rintro i σ H' hi ⟨ws, x, rfl, B', F', hp', hl, hw⟩
      refine wd_ok B' (by omega) hp' hpb (by omega) fun H2 w B2 f2 hp2 hw1 hw2 => ?_
      refine ⟨ws ++ [w], _, rfl, B2.le (by omega), ?_, hp2, by rw [List.length_append, hl]; rfl, ?_⟩
      · intro a o h hne
        exact f2 a o (F' a o h hne) hne (ne_of_none h hp)
      · intro y hy
        rcases List.mem_append.mp hy with hy | hy
        · exact hw y hy
        · have : y = w := by simpa using hy
          subst this; exact ⟨hw1, hw2⟩
    · rintro σ H' ⟨ws, x, rfl, B', F', hp', hl, hw⟩
      exact lr_ok B' (by omega) hp' (by omega) hw fun z H2 hz hzo B2 f2 => q z H2 hz hzo (B2.le (by omega)) (F'.trans f2)
  exact key

def tM14 (K : PySem.W.Frag) (ca : Nat → Addr) : TS := tSeq (tAsg (tOp (uIx K) (tLst (tCons (tC .non) (tCons (tC (.bl true)) (tCons (tC (.bl false)) (tCons (tC (.str "1")) (tCons (tLst (tCons (tC (.int 1)) (tNil))) (tCons (tDNewK) (tNil)))))))) (tCall (sp__law_take K ca) [] E0 (tCons (uVar 0) (tCons (tC (.int 6)) (tNil))))) (gName 7)) (tRet (tOp (uEq2 K) (tCall (sp__law_told K ca) [] E0 (tCons (tC (.int 3)) (tCons (uVar 5) (tCons (uVar 7) (tNil))))) (tLst (tCons (tC (.str "integer")) (tCons (uVar 7) (tNil))))))
def tM12 (K : PySem.W.Frag) (ca : Nat → Addr) : TS := tSeq (tAsg (tOp (uIx K) (tLst (tCons (tC .non) (tCons (tC (.str "")) (tCons (tC (.str " ")) (tCons (tC (.str "#0")) (tCons (tC (.str "|/")) (tCons (tC (.int 5)) (tCons (tLst (tCons (tC (.str "|")) (tNil))) (tCons (tC (.str "a")) (tNil)))))))))) (tCall (sp__law_take K ca) [] E0 (tCons (uVar 0) (tCons (tC (.int 8)) (tNil))))) (gName 7)) (tSeq (uIfS (uT (tOp (uNe2 K) (tCall (sp__law_told K ca) [] E0 (tCons (tC (.int 3)) (tCons (uVar 7) (tCons (tOp (uIx K) (tLst (tCons (tC .non) (tCons (tC (.int 1)) (tNil)))) (tCall (sp__law_take K ca) [] E0 (tCons (uVar 0) (tCons (tC (.int 2)) (tNil))))) (tNil))))) (tLst (tCons (tC (.str "mark")) (tCons (uVar 7) (tNil)))))) (tRet (tC (.bl false))) (tNext)) (tM14 K ca))
def tM10 (K : PySem.W.Frag) (ca : Nat → Addr) : TS := tSeq (tAsg (tOp (uIx K) (tLst (tCons (tC .non) (tCons (tC (.str "")) (tCons (tC (.str "#")) (tCons (tC (.str "#4")) (tCons (tC (.str " 0")) (tCons (tC (.str "|03")) (tCons (tC (.int 5)) (tCons (tC (.bl true)) (tCons (tLst (tCons (tC (.str "#0")) (tNil))) (tCons (tDNewK) (tCons (tC (.str "a0")) (tCons (tC (.str "0#")) (tNil)))))))))))))) (tCall (sp__law_take K ca) [] E0 (tCons (uVar 0) (tCons (tC (.int 12)) (tNil))))) (gName 7)) (tSeq (uIfS (uT (tOp (uNe2 K) (tLc (iRng1 (tCons (tC (.int 3)) (tNil))) (gName 8) (tYes) (tCall (sp__law_told K ca) [] E0 (tCons (uVar 8) (tCons (uVar 7) (tCons (tC .non) (tNil))))) [8]) (tOp uMul2 (tLst (tCons (tLst (tCons (tC (.str "mark")) (tCons (uVar 7) (tNil)))) (tNil))) (tC (.int 3))))) (tRet (tC (.bl false))) (tNext)) (tM12 K ca))
def tM7 (K : PySem.W.Frag) (ca : Nat → Addr) : TS := tSeq (tAsg (tOp (uIx K) (tC (.str "#|/")) (tCall (sp__law_take K ca) [] E0 (tCons (uVar 0) (tCons (tC (.int 3)) (tNil))))) (gName 5)) (tSeq (tAsg (tOp (uIx K) (tLst (tCons (tOp uSub (tCall (sp__law_take K ca) [] E0 (tCons (uVar 0) (tCons (tC (.int 6)) (tNil)))) (tC (.int 1))) (tCons (tOp uPow (tC (.int 10)) (tC (.int 29))) (tCons (tUn uNeg (tOp uPow (tC (.int 10)) (tC (.int 29)))) (tCons (tC (.int 3)) (tCons (tC (.int 4)) (tNil))))))) (tCall (sp__law_take K ca) [] E0 (tCons (uVar 0) (tCons (tC (.int 5)) (tNil))))) (gName 6)) (tSeq (uIfS (uT (tOp (uNe2 K) (tCall (sp__law_told K ca) [] E0 (tCons (tC (.int 3)) (tCons (uVar 5) (tCons (uVar 6) (tNil))))) (tLst (tCons (tC (.str "told")) (tCons (tOp (uAdd K) (uVar 5) (tOp (uIx K) (tC (.str "0123")) (tCB uMax2 (tCons (tC (.int 0)) (tCons (tCB uMin2 (tCons (tC (.int 3)) (tCons (uVar 6) (tNil)))) (tNil)))))) (tNil)))))) (tRet (tC (.bl false))) (tNext)) (tM10 K ca)))
theorem kn_self {H H' : Hp} {v : V} (h : Kn H v) {K : PySem.W.Frag} {n : Nat} : Sm K H' (n + 1) v v := by
  refine sm_self ?_
  cases v with
  | ref a => exact .inr ⟨a, rfl⟩
  | byt x => cases h.1
  | flt x => cases h.1
  | ty x => cases h.1
  | _ => exact .inl rfl
/-- two rows of a text and the same value -/
theorem sm_row {K : PySem.W.Frag} {H Hv : Hp} {a b : Addr} {tag : Str} {v : V} (ha : H a = some (.lst [.str tag, v])) (hb : H b = some (.lst [.str tag, v])) (hv : Kn Hv v) : SmL K H (.ref a) (.ref b) :=
  ⟨a, b, _, _, rfl, rfl, .inl (.inl ha), .inl (.inl hb), .cons (.inl ⟨rfl, rfl⟩) (.cons (kn_self hv) .nil)⟩
theorem m14_ok {K : PySem.W.Frag} {ca : Nat → Addr} {H : Hp} {Q : VK} {b : Addr} {n c : Nat} {x1 x2 x3 x4 x6 x7 : Option V} (B : BoxAt H b n) (hn : n ≤ 990000) (hc : c ∈ [35, 124, 47]) (q : ∀ H', BoxAt H' b (n + 1) → Fr b H H' → Q (.bl true) H') :
    tM14 K ca { nx := fun _ H' => Q .non H', rt := Q } [some (.ref b), x1, x2, x3, x4, some (.str ⟨#[c]⟩), x6, x7, none] H := by
  refine ⟨by show 1 ≤ sizeLine; decide, fun p1 h1 => fun p2 h2 => ⟨by show 6 ≤ sizeLine; decide, fun p h3 => ?_⟩⟩
  have B3 := ((B.new (o := .lst [.int 1]) h1).new (o := .dK []) h2).new (o := .lst [.non, .bl true, .bl false, .str "1", .ref p1, .ref p2]) h3
  refine ⟨b, _, _, rfl, B3, by omega, by decide, by decide, fun r H4 a4 c4 B4 f4 => ?_⟩
  have F4 : Fr b H H4 := (((Fr.new h1).trans (Fr.new h2)).trans (Fr.new h3)).trans f4
  have hp := f4 p _ upd_same (((B.new h1).new h2).ne h3)
  have g1 : H4 p1 = some (.lst [.int 1]) := f4 p1 _ (Ex.new h3 _ _ (Ex.new h2 _ _ upd_same)) (B.ne h1)
  have g2 : H4 p2 = some (.dK []) := f4 p2 _ (Ex.new h3 _ _ upd_same) ((B.new h1).ne h2)
  obtain ⟨v, hv, hm⟩ := pick (xs := [V.non, .bl true, .bl false, .str "1", .ref p1, .ref p2]) a4 c4
  refine oS_of (rdS_l hp) (oK_of hv ?_)
  have hv : Kn H4 v ∧ intV v = false := by
    simp only [List.mem_cons, List.not_mem_nil, or_false] at hm
    rcases hm with rfl | rfl | rfl | rfl | rfl | rfl
    · exact ⟨kn_non, rfl⟩
    · exact ⟨kn_bl _, rfl⟩
    · exact ⟨kn_bl _, rfl⟩
    · exact ⟨kn_str (by decide +kernel), rfl⟩
    · exact ⟨kn_ref g1 rfl, rfl⟩
    · exact ⟨kn_ref g2 rfl, rfl⟩
  obtain ⟨hk, hi⟩ := hv
  have ek : kindV (.str ⟨#[c]⟩) = true := by show decide (c ∈ [35, 124, 47]) = true; exact decide_eq_true hc
  have et : told 3 (.str ⟨#[c]⟩) v = (Str.ofString "integer", v) := by
    unfold told
    rw [if_pos rfl, if_pos ek]
    cases v <;> first | rfl | cases hi
  refine ⟨3, _, v, rfl, by decide, by decide, kn_str (by show 1 ≤ 1000; decide), hk, fun r1 H5 hr1 e5 hl5 => ?_⟩
  rw [et] at hl5
  refine ⟨by show 2 ≤ sizeLine; decide, fun r2 hr2 => ?_⟩
  refine .inr ⟨sm_row (Hv := H4) (Ex.new hr2 _ _ hl5) upd_same hk, ?_⟩
  exact q _ (((B4.ex e5).new hr2).le (by omega)) ((F4.trans (Fr.ex e5)).trans (Fr.new hr2))
theorem m12_ok {K : PySem.W.Frag} {ca : Nat → Addr} {H : Hp} {Q : VK} {b : Addr} {n c : Nat} {x1 x2 x3 x4 x6 x7 : Option V} (B : BoxAt H b n) (hn : n ≤ 980000) (hc : c ∈ [35, 124, 47]) (q : ∀ H', BoxAt H' b (n + 3) → Fr b H H' → Q (.bl true) H') :
    tM12 K ca { nx := fun _ H' => Q .non H', rt := Q } [some (.ref b), x1, x2, x3, x4, some (.str ⟨#[c]⟩), x6, x7, none] H := by
  refine ⟨by show 1 ≤ sizeLine; decide, fun p1 h1 => ⟨by show 8 ≤ sizeLine; decide, fun p h3 => ?_⟩⟩
  have B3 := (B.new (o := .lst [.str "|"]) h1).new (o := .lst [.non, .str "", .str " ", .str "#0", .str "|/", .int 5, .ref p1, .str "a"]) h3
  refine ⟨b, _, _, rfl, B3, by omega, by decide, by decide, fun r H4 a4 c4 B4 f4 => ?_⟩
  have F4 : Fr b H H4 := ((Fr.new h1).trans (Fr.new h3)).trans f4
  have hp := f4 p _ upd_same ((B.new h1).ne h3)
  have g1 : H4 p1 = some (.lst [.str "|"]) := f4 p1 _ (Ex.new h3 _ _ upd_same) (B.ne h1)
  obtain ⟨v, hv, hm⟩ := pick (xs := [V.non, .str "", .str " ", .str "#0", .str "|/", .int 5, .ref p1, .str "a"]) a4 c4
  refine oS_of (rdS_l hp) (oK_of hv ?_)
  have hv : Kn H4 v ∧ kindV v = false ∧ v ≠ .ref b := by
    simp only [List.mem_cons, List.not_mem_nil, or_false] at hm
    rcases hm with rfl | rfl | rfl | rfl | rfl | rfl | rfl | rfl
    · exact ⟨kn_non, rfl, by simp⟩
    · exact ⟨kn_str (by decide +kernel), by decide +kernel, by simp⟩
    · exact ⟨kn_str (by decide +kernel), by decide +kernel, by simp⟩
    · exact ⟨kn_str (by decide +kernel), by decide +kernel, by simp⟩
    · exact ⟨kn_str (by decide +kernel), by decide +kernel, by simp⟩
    · exact ⟨kn_int _, rfl, by simp⟩
    · exact ⟨kn_ref g1 rfl, rfl, fun e => B.ne h1 (by injection e)⟩
    · exact ⟨kn_str (by decide +kernel), by decide +kernel, by simp⟩
  obtain ⟨hk, hi, hvb⟩ := hv
  -- [None, 1][take]
  refine ⟨by show 2 ≤ sizeLine; decide, fun p5 h5 => ?_⟩
  refine ⟨b, _, _, rfl, B4.new h5, by omega, by decide, by decide, fun r6 H6 a6 c6 B6 f6 => ?_⟩
  have hp6 := f6 p5 _ upd_same (B4.ne h5)
  obtain ⟨u, hu, hm6⟩ := pick (xs := [V.non, .int 1]) a6 c6
  refine oS_of (rdS_l hp6) (oK_of hu ?_)
  have hu : Kn H6 u := by
    simp only [List.mem_cons, List.not_mem_nil, or_false] at hm6
    rcases hm6 with rfl | rfl
    · exact kn_non
    · exact kn_int _
  have hk6 : Kn H6 v := (hk.ex (Ex.new h5)).fr f6 hvb
  have et : told 3 v u = (Str.ofString "mark", v) := by
    unfold told
    rw [if_pos rfl, if_neg (by rw [hi]; decide)]
  refine ⟨3, v, u, rfl, by decide, by decide, hk6, hu, fun r1 H7 hr1 e7 hl7 => ?_⟩
  rw [et] at hl7
  refine ⟨by show 2 ≤ sizeLine; decide, fun r2 hr2 => ?_⟩
  refine .inr ⟨sm_row (Hv := H6) (Ex.new hr2 _ _ hl7) upd_same hk6, ?_⟩
  refine bB_f rfl ?_
  exact m14_ok ((B6.ex e7).new hr2) (by omega) hc fun H8 B8 f8 => q H8 (B8.le (by omega)) ((((F4.trans (Fr.new h5)).trans f6).trans ((Fr.ex e7).trans (Fr.new hr2))).trans f8)

theorem marks_row {K : PySem.W.Frag} {ca : Nat → Addr} {H : Hp} {Q : VK} {v : V} {x0 x1 x2 x3 x4 x5 x6 : Option V} (hk : Kn H v) (hm : markV v = false)
    (q : ∀ D H' (rs : List Addr), H D = none → Ex H H' → H' D = some (.lst (rs.map V.ref)) → rs.length = 3 → (∀ r ∈ rs, H' r = some (.lst [.str "mark", v])) → Q (.ref D) H') :
    tLc (iRng1 (tCons (tC (.int 3)) (tNil))) (gName 8) (tYes) (tCall (sp__law_told K ca) [] E0 (tCons (uVar 8) (tCons (uVar 7) (tCons (tC .non) (tNil))))) [8] [x0, x1, x2, x3, x4, x5, x6, some v, none] H Q := by
  refine lcr (n := 3) (fun R h => h) (by decide) (by decide) (fun D i H' => ∃ rs : List Addr, H D = none ∧ Ex H H' ∧ H' D = some (.lst (rs.map V.ref)) ∧ rs.length = i ∧ (∀ r ∈ rs, H' r = some (.lst [.str "mark", v])) ∧ D ∉ rs) ?_ (fun y => rfl) ?_ ?_
  · exact fun D hD => ⟨[], hD, Ex.new hD, upd_same, rfl, fun r hr => (by cases hr), by simp⟩
  · rintro D i H' hi ⟨rs, hD, e, hl, hn, hr, hd⟩
    have et : told (i : Int) v .non = (Str.ofString "mark", v) := by
      unfold told
      rw [if_neg (by omega), if_neg (by rw [hm]; decide)]
    refine ⟨(i : Int), v, .non, rfl, by omega, by omega, hk.ex e, kn_non, fun r H2 hr2 e2 hl2 => ?_⟩
    rw [et] at hl2
    have hDr : D ≠ r := ne_of_none hl hr2
    refine ⟨_, e2 _ _ hl, ?_, rs ++ [r], hD, Ex.mut (e.trans e2) hD, ?_, ?_, ?_, ?_⟩
    · rw [List.length_map]; exact szt (by omega)
    · rw [upd_same, List.map_append]; rfl
    · rw [List.length_append, hn]; rfl
    · intro y hy
      rcases List.mem_append.mp hy with hy | hy
      · have hyD : y ≠ D := fun z => hd (z ▸ hy)
        rw [upd_ne hyD]
        exact e2 _ _ (hr y hy)
      · have : y = r := by simpa using hy
        subst this
        rw [upd_ne (Ne.symm hDr)]
        exact hl2
    · rw [List.mem_append]
      rintro (h | h)
      · exact hd h
      · exact hDr (by simpa using h)
  · rintro D H' hD ⟨rs, _, e, hl, hn, hr, _⟩
    exact q D H' rs hD e hl hn hr
theorem sm_rows {K : PySem.W.Frag} {H Hv : Hp} {a : Addr} {v : V} (ha : H a = some (.lst [.str "mark", v])) (hv : Kn Hv v) : ∀ rs : List Addr, (∀ r ∈ rs, H r = some (.lst [.str "mark", v])) → Paired (Sm K H 40) (rs.map V.ref) (List.replicate rs.length (V.ref a))
  | [], _ => .nil
  | r :: rs, h => .cons (.inr (.inr ⟨r, a, _, _, rfl, rfl, .inl (.inl (h r List.mem_cons_self)), .inl (.inl ha), .cons (.inl ⟨rfl, rfl⟩) (.cons (kn_self hv) .nil)⟩)) (sm_rows ha hv rs fun y hy => h y (List.mem_cons_of_mem _ hy))
theorem m10_ok {K : PySem.W.Frag} {ca : Nat → Addr} {H : Hp} {Q : VK} {b : Addr} {n c : Nat} {x1 x2 x3 x4 x6 x7 : Option V} (B : BoxAt H b n) (hn : n ≤ 970000) (hc : c ∈ [35, 124, 47]) (q : ∀ H', BoxAt H' b (n + 4) → Fr b H H' → Q (.bl true) H') :
    tM10 K ca { nx := fun _ H' => Q .non H', rt := Q } [some (.ref b), x1, x2, x3, x4, some (.str ⟨#[c]⟩), x6, x7, none] H := by
  refine ⟨by show 1 ≤ sizeLine; decide, fun p1 h1 => fun p2 h2 => ⟨by show 12 ≤ sizeLine; decide, fun p h3 => ?_⟩⟩
  have B3 := ((B.new (o := .lst [.str "#0"]) h1).new (o := .dK []) h2).new (o := .lst [.non, .str "", .str "#", .str "#4", .str " 0", .str "|03", .int 5, .bl true, .ref p1, .ref p2, .str "a0", .str "0#"]) h3
  refine ⟨b, _, _, rfl, B3, by omega, by decide, by decide, fun r H4 a4 c4 B4 f4 => ?_⟩
  have F4 : Fr b H H4 := (((Fr.new h1).trans (Fr.new h2)).trans (Fr.new h3)).trans f4
  have hp := f4 p _ upd_same (((B.new h1).new h2).ne h3)
  have g1 : H4 p1 = some (.lst [.str "#0"]) := f4 p1 _ (Ex.new h3 _ _ (Ex.new h2 _ _ upd_same)) (B.ne h1)
  have g2 : H4 p2 = some (.dK []) := f4 p2 _ (Ex.new h3 _ _ upd_same) ((B.new h1).ne h2)
  obtain ⟨v, hv, hm⟩ := pick (xs := [V.non, .str "", .str "#", .str "#4", .str " 0", .str "|03", .int 5, .bl true, .ref p1, .ref p2, .str "a0", .str "0#"]) a4 c4
  refine oS_of (rdS_l hp) (oK_of hv ?_)
  have hv : Kn H4 v ∧ markV v = false := by
    simp only [List.mem_cons, List.not_mem_nil, or_false] at hm
    rcases hm with rfl | rfl | rfl | rfl | rfl | rfl | rfl | rfl | rfl | rfl | rfl | rfl
    · exact ⟨kn_non, rfl⟩
    · exact ⟨kn_str (by decide +kernel), by decide +kernel⟩
    · exact ⟨kn_str (by decide +kernel), by decide +kernel⟩
    · exact ⟨kn_str (by decide +kernel), by decide +kernel⟩
    · exact ⟨kn_str (by decide +kernel), by decide +kernel⟩
    · exact ⟨kn_str (by decide +kernel), by decide +kernel⟩
    · exact ⟨kn_int _, rfl⟩
    · exact ⟨kn_bl _, rfl⟩
    · exact ⟨kn_ref g1 rfl, rfl⟩
    · exact ⟨kn_ref g2 rfl, rfl⟩
    · exact ⟨kn_str (by decide +kernel), by decide +kernel⟩
    · exact ⟨kn_str (by decide +kernel), by decide +kernel⟩
  obtain ⟨hk, hi⟩ := hv
  dsimp only [gName, tSeq, uIfS, uT, tOp, List.set]
  refine marks_row (K := K) (ca := ca) (H := H4) (x0 := some (.ref b)) (x1 := x1) (x2 := x2) (x3 := x3) (x4 := x4) (x5 := some (.str ⟨#[c]⟩)) (x6 := x6) hk hi fun D H5 rs hD e5 hl5 hn5 hr5 => ?_
  refine ⟨by show 2 ≤ sizeLine; decide, fun q1 hq1 => ⟨by show 1 ≤ sizeLine; decide, fun q2 hq2 => ?_⟩⟩
  refine oK_of (mutL_of upd_same) ⟨by decide, by decide, by show 1 * 3 ≤ sizeLine; decide, fun q3 hq3 => ?_⟩
  have e6 := ((Ex.new (o := .lst [.str "mark", v]) hq1).trans (Ex.new (o := .lst [.ref q1]) hq2)).trans (Ex.new (o := .lst (List.replicate (Int.toNat 3) [V.ref q1]).flatten) hq3)
  have hq1' := (Ex.new (o := .lst (List.replicate (Int.toNat 3) [V.ref q1]).flatten) hq3) q1 _ ((Ex.new (o := .lst [.ref q1]) hq2) q1 _ (upd_same (H := H5) (o := .lst [.str "mark", v])))
  refine .inr ⟨⟨D, q3, _, _, rfl, rfl, .inl (.inl (e6 _ _ hl5)), .inl (.inl upd_same), ?_⟩, ?_⟩
  · have := sm_rows (K := K) (Hv := H4) hq1' hk rs fun r hr => e6 _ _ (hr5 r hr)
    rw [hn5] at this
    exact this
  · refine bB_f rfl ?_
    exact m12_ok ((((B4.ex e5).new hq1).new hq2).new hq3) (by omega) hc fun H8 B8 f8 => q H8 (B8.le (by omega)) (((F4.trans (Fr.ex e5)).trans (Fr.ex e6)).trans f8)
theorem clip_at (i : Int) : atI (Str.ofString "0123").cps.toList (if (if i < 3 then i else 3) > 0 then (if i < 3 then i else 3) else 0) = some (48 + clip i) := by
  rw [cps_digits]
  have h : (if (if i < 3 then i else 3) > 0 then (if i < 3 then i else 3) else 0 : Int) = (clip i : Int) ∧ clip i ≤ 3 := by
    unfold clip
    by_cases h1 : i < 0
    · rw [if_pos h1, if_pos (show i < 3 by omega), if_neg (show ¬ i > 0 by omega)]; decide
    · rw [if_neg h1]
      by_cases h2 : i < 3
      · rw [if_pos h2, if_pos h2]
        by_cases h3 : i > 0
        · rw [if_pos h3]; omega
        · rw [if_neg h3]; constructor
          · show (0 : Int) = _; omega
          · omega
      · rw [if_neg h2, if_neg h2]; decide
  rw [h.1]
  have h2 := h.2
  generalize clip i = n at h2
  match n, h2 with
  | 0, _ => rfl
  | 1, _ => rfl
  | 2, _ => rfl
  | 3, _ => rfl
theorem m7_ok {K : PySem.W.Frag} {ca : Nat → Addr} {H : Hp} {Q : VK} {b : Addr} {n : Nat} {x1 x2 x3 x4 x5 x6 x7 : Option V} (B : BoxAt H b n) (hn : n ≤ 960000) (q : ∀ H', BoxAt H' b (n + 7) → Fr b H H' → Q (.bl true) H') :
    tM7 K ca { nx := fun _ H' => Q .non H', rt := Q } [some (.ref b), x1, x2, x3, x4, x5, x6, x7, none] H := by
  refine ⟨b, _, _, rfl, B, by omega, by decide, by decide, fun r1 H1 a1 c1 B1 f1 => ⟨by decide +kernel, ?_⟩⟩
  obtain ⟨c, hc, hcm⟩ := pick (xs := (Str.ofString "#|/").cps.toList) a1 (by rw [cps_kinds]; exact c1)
  refine oK_of hc ?_
  rw [cps_kinds] at hcm
  refine ⟨b, _, _, rfl, B1, by omega, by decide, by decide, fun r2 H2 a2 c2 B2 f2 => ?_⟩
  refine ⟨⟨by decide, by decide, by decide⟩, ⟨by decide, by decide, by decide⟩, by show 5 ≤ sizeLine; decide, fun p hp => ?_⟩
  refine ⟨b, _, _, rfl, B2.new hp, by omega, by decide, by decide, fun r3 H3 a3 c3 B3 f3 => ?_⟩
  have hp3 := f3 p _ upd_same (B2.ne hp)
  have F3 : Fr b H H3 := (f1.trans f2).trans ((Fr.new hp).trans f3)
  obtain ⟨v, hv, hm⟩ := pick (xs := [V.int (r2 - 1), .int (10 ^ Int.toNat 29), .int (-(10 ^ Int.toNat 29)), .int 3, .int 4]) a3 c3
  refine oS_of (rdS_l hp3) (oK_of hv ?_)
  obtain ⟨i, rfl⟩ : ∃ i, v = .int i := by
    simp only [List.mem_cons, List.not_mem_nil, or_false] at hm
    rcases hm with rfl | rfl | rfl | rfl | rfl <;> exact ⟨_, rfl⟩
  have ek : kindV (.str ⟨#[c]⟩) = true := by show decide (c ∈ [35, 124, 47]) = true; exact decide_eq_true hcm
  have et : told 3 (.str ⟨#[c]⟩) (.int i) = (Str.ofString "told", .str (brk ⟨#[c]⟩ i)) := by
    unfold told
    rw [if_pos rfl, if_pos ek]
    rfl
  refine ⟨3, _, _, rfl, by decide, by decide, kn_str (by show 1 ≤ 1000; decide), kn_int i, fun r4 H4 hr4 e4 hl4 => ?_⟩
  rw [et] at hl4
  refine ⟨by decide +kernel, oK_of (clip_at i) ⟨by show 1 + 1 ≤ sizeLine; decide, by show 2 ≤ sizeLine; decide, fun r5 hr5 => ?_⟩⟩
  refine .inr ⟨sm_row (Hv := H4) (Ex.new hr5 _ _ hl4) upd_same (kn_str ?_), ?_⟩
  · unfold brk; rw [slen_app]; show 1 + 1 ≤ 1000; decide
  · refine bB_f rfl ?_
    exact m10_ok ((B3.ex e4).new hr5) (by omega) hcm fun H8 B8 f8 => q H8 (B8.le (by omega)) ((F3.trans ((Fr.ex e4).trans (Fr.new hr5))).trans f8)

/-- the marks one by one -/
theorem marks_fact (k : Nat) (hk : k < 13) : ∃ m : Str, marks[k]? = some m ∧ isMark m = true ∧ indL (sl m) = (if (k : Int) = 0 then 0 else ((k : Int) - 1) % 4) ∧ plaL (sl m) = (k : Int) ∧ m.length ≤ 2 ∧ sok m := by
  match k, hk with
  | 0, _ => exact ⟨_, rfl, by decide +kernel, by decide +kernel, by decide +kernel, by decide +kernel, by decide +kernel⟩
  | 1, _ => exact ⟨_, rfl, by decide +kernel, by decide +kernel, by decide +kernel, by decide +kernel, by decide +kernel⟩
  | 2, _ => exact ⟨_, rfl, by decide +kernel, by decide +kernel, by decide +kernel, by decide +kernel, by decide +kernel⟩
  | 3, _ => exact ⟨_, rfl, by decide +kernel, by decide +kernel, by decide +kernel, by decide +kernel, by decide +kernel⟩
  | 4, _ => exact ⟨_, rfl, by decide +kernel, by decide +kernel, by decide +kernel, by decide +kernel, by decide +kernel⟩
  | 5, _ => exact ⟨_, rfl, by decide +kernel, by decide +kernel, by decide +kernel, by decide +kernel, by decide +kernel⟩
  | 6, _ => exact ⟨_, rfl, by decide +kernel, by decide +kernel, by decide +kernel, by decide +kernel, by decide +kernel⟩
  | 7, _ => exact ⟨_, rfl, by decide +kernel, by decide +kernel, by decide +kernel, by decide +kernel, by decide +kernel⟩
  | 8, _ => exact ⟨_, rfl, by decide +kernel, by decide +kernel, by decide +kernel, by decide +kernel, by decide +kernel⟩
  | 9, _ => exact ⟨_, rfl, by decide +kernel, by decide +kernel, by decide +kernel, by decide +kernel, by decide +kernel⟩
  | 10, _ => exact ⟨_, rfl, by decide +kernel, by decide +kernel, by decide +kernel, by decide +kernel, by decide +kernel⟩
  | 11, _ => exact ⟨_, rfl, by decide +kernel, by decide +kernel, by decide +kernel, by decide +kernel, by decide +kernel⟩
  | 12, _ => exact ⟨_, rfl, by decide +kernel, by decide +kernel, by decide +kernel, by decide +kernel, by decide +kernel⟩
def dueD (m : Str) (k : Nat) : PyData := .list [.list [.str ⟨#[(sl m).headD 0]⟩, .int (indL (sl m)), .int k], .list (marks.map PyData.str)]
theorem due_fact (k : Nat) (hk : k < 13) {m : Str} (h : marks[k]? = some m) : (dueD m k).showable = true ∧ (dueD m k).shown.length ≤ sizeLine ∧ (dueD m k).depth ≤ 40 := by
  match k, hk with
  | 0, _ => cases h; exact ⟨by decide +kernel, by decide +kernel, by decide +kernel⟩
  | 1, _ => cases h; exact ⟨by decide +kernel, by decide +kernel, by decide +kernel⟩
  | 2, _ => cases h; exact ⟨by decide +kernel, by decide +kernel, by decide +kernel⟩
  | 3, _ => cases h; exact ⟨by decide +kernel, by decide +kernel, by decide +kernel⟩
  | 4, _ => cases h; exact ⟨by decide +kernel, by decide +kernel, by decide +kernel⟩
  | 5, _ => cases h; exact ⟨by decide +kernel, by decide +kernel, by decide +kernel⟩
  | 6, _ => cases h; exact ⟨by decide +kernel, by decide +kernel, by decide +kernel⟩
  | 7, _ => cases h; exact ⟨by decide +kernel, by decide +kernel, by decide +kernel⟩
  | 8, _ => cases h; exact ⟨by decide +kernel, by decide +kernel, by decide +kernel⟩
  | 9, _ => cases h; exact ⟨by decide +kernel, by decide +kernel, by decide +kernel⟩
  | 10, _ => cases h; exact ⟨by decide +kernel, by decide +kernel, by decide +kernel⟩
  | 11, _ => cases h; exact ⟨by decide +kernel, by decide +kernel, by decide +kernel⟩
  | 12, _ => cases h; exact ⟨by decide +kernel, by decide +kernel, by decide +kernel⟩
theorem told_row {K : PySem.W.Frag} {ca : Nat → Addr} {H : Hp} {Q : VK} {m : Str} {k : Int} {p1 : Addr} {x0 x2 x4 x5 x6 x7 : Option V} (hp : H p1 = some (.lst (marks.map V.str))) (hk : atI (marks.map V.str) k = some (.str m)) (hm : isMark m = true) (hl : m.length ≤ 2)
    (q : ∀ D H', H D = none → Ex H H' → H' D = some (.lst [kindOf (.str m), indOf (.str m), plaOf (.str m)]) → Q (.ref D) H') :
    tLc (iRng1 (tCons (tC (.int 3)) (tNil))) (gName 8) (tYes) (tOp (uIx K) (tCall (sp__law_told K ca) [] E0 (tCons (uVar 8) (tCons (tOp (uIx K) (uVar 1) (uVar 3)) (tCons (tC .non) (tNil))))) (tC (.int 1))) [8] [x0, some (.ref p1), x2, some (.int k), x4, x5, x6, x7, none] H Q := by
  refine lcr (n := 3) (fun R h => h) (by decide) (by decide) (fun D i H' => H D = none ∧ Ex H H' ∧ H' D = some (.lst (([kindOf (.str m), indOf (.str m), plaOf (.str m)]).take i))) ?_ (fun y => rfl) ?_ ?_
  · exact fun D hD => ⟨hD, Ex.new hD, upd_same⟩
  · rintro D i H' hi ⟨hD, e, hl'⟩
    refine oS_of (rdS_l (e _ _ hp)) (oK_of hk ?_)
    refine ⟨(i : Int), .str m, .non, rfl, by omega, by omega, kn_str (by omega), kn_non, fun r H2 hr2 e2 hl2 => ?_⟩
    have hDr : D ≠ r := ne_of_none hl' hr2
    refine oS_of (rdS_l hl2) (oK_of (x := (told (i : Int) (.str m) .non).2) rfl ?_)
    refine ⟨_, e2 _ _ hl', ?_, hD, Ex.mut (e.trans e2) hD, ?_⟩
    · rw [List.length_take]; exact szt (by show min i 3 < _; omega)
    · have hm' : markV (.str m) = true := hm
      have hi3 : i < 3 := by omega
      rw [upd_same]
      match i, hi3 with
      | 0, _ => 
        have et : told ((0 : Nat) : Int) (.str m) .non = (Str.ofString "told", kindOf (.str m)) := by unfold told; rw [if_neg (by decide), if_pos hm', if_pos (by decide)]
        rw [et]; rfl
      | 1, _ => 
        have et : told ((1 : Nat) : Int) (.str m) .non = (Str.ofString "told", indOf (.str m)) := by unfold told; rw [if_neg (by decide), if_pos hm', if_neg (by decide), if_pos (by decide)]
        rw [et]; rfl
      | 2, _ => 
        have et : told ((2 : Nat) : Int) (.str m) .non = (Str.ofString "told", plaOf (.str m)) := by unfold told; rw [if_neg (by decide), if_pos hm', if_neg (by decide), if_neg (by decide)]
        rw [et]; rfl
  · rintro D H' hD ⟨_, e, hl'⟩
    exact q D H' hD e hl'
/-- repr of such a row -/
theorem repr_due {K : PySem.W.Frag} {H : Hp} {Q : VK} {m : Str} {k : Nat} {a b c : Addr} (hk : k < 13) (hm : marks[k]? = some m) (ha : H a = some (.lst [.ref b, .ref c])) (hb : H b = some (.lst [kindOf (.str m), .int (indL (sl m)), .int k])) (hc : H c = some (.lst (marks.map V.str)))
    (q : Q (.str (dueD m k).shown) H) : uRepr K [.ref a] H Q := by
  obtain ⟨h1, h2, h3⟩ := due_fact k hk hm
  refine ⟨dueD m k, ?_, h1, h2, h3, q⟩
  exact .lst (.inl (.inl ha)) (.cons (.lst (.inl (.inl hb)) (.cons (.str _) (.cons (.int _) (.cons (.int _) .nil)))) (.cons (.lst (.inl (.inl hc)) (dpAll_str _)) .nil))
theorem sm_marks {K : PySem.W.Frag} {H : Hp} {a b : Addr} (ha : H a = some (.lst (marks.map V.str))) (hb : H b = some (.lst (marks.map V.str))) : SmL K H (.ref a) (.ref b) :=
  ⟨a, b, _, _, rfl, rfl, .inl (.inl ha), .inl (.inl hb), Paired.sm_refl fun x hx => by
    obtain ⟨z, _, rfl⟩ := List.mem_map.mp hx
    exact .inl ⟨rfl, rfl⟩⟩
theorem marks_at' {k : Int} (h0 : 0 ≤ k) (h1 : k < 13) {m : Str} (h : marks[k.toNat]? = some m) : atI (marks.map V.str) k = some (.str m) := at_of (show k = (k.toNat : Int) by omega) (by rw [List.getElem?_map, h]; rfl)
theorem len__law_marks_right {K ca vs H Q E} (h : sp__law_marks_right K ca vs H Q E) : vs.length = P__law_marks_right.length := by obtain ⟨b, n, rfl, _⟩ := h; rfl
theorem p__law_marks_right {K ca vs H Q E} (T : Ct K ca) (h : sp__law_marks_right K ca vs H Q E) : t__law_marks_right K ca { nx := fun _ H' => Q .non H', rt := Q } (start N__law_marks_right vs) H := by
  obtain ⟨b, n, rfl, B, hn, q⟩ := h
  refine ⟨rfl, fun p1 H1 hp1 e1 hl1 => ?_⟩
  refine ⟨rfl, fun p2 H2 hp2 e2 hl2 => ?_⟩
  have hp12 : p1 ≠ p2 := ne_of_none hl1 hp2
  refine .inr ⟨sm_marks hl2 (e2 _ _ hl1), ?_⟩
  refine bB_f rfl ?_
  refine ⟨.inl ⟨rfl, _, .inl (.inl hl2)⟩, oK_of (mutL_of hl2) ⟨by decide, ?_⟩⟩
  have b2 : p2 ≠ b := (B.ex e1).ne hp2
  have b1 : p1 ≠ b := B.ne hp1
  have B3 : BoxAt (upd H2 p2 (.lst (marks.map V.str ++ [.str "late"]))) b n := by
    obtain ⟨x, y, z, e, r⟩ := (B.ex e1).ex e2
    exact ⟨x, y, z, by rw [upd_ne (Ne.symm b2)]; exact e, r⟩
  have E3 : Ex H (upd H2 p2 (.lst (marks.map V.str ++ [.str "late"]))) := fun a o h => by
    rw [upd_ne (ne_of_none (e1 a o h) hp2)]
    exact e2 a o (e1 a o h)
  refine ⟨b, _, _, rfl, B3, by omega, by decide, by decide, fun k H4 k0 k1 B4 f4 => ?_⟩
  have hm4 : H4 p1 = some (.lst (marks.map V.str)) := f4 p1 _ (by rw [upd_ne hp12]; exact e2 _ _ hl1) b1
  have F4 : Fr b H H4 := (Fr.ex E3).trans f4
  obtain ⟨m, hm, hmk, hmi, hmp, hml, hmo⟩ := marks_fact k.toNat (by omega)
  have hkk : ((k.toNat : Nat) : Int) = k := by omega
  rw [hkk] at hmi hmp
  have hat := marks_at' k0 k1 hm
  -- due
  refine oS_of (rdS_l hm4) (oK_of hat ?_)
  dsimp only [tC]
  refine at_kind (K := K) (by omega) hmk ?_
  have key : ∀ (R : VK), R (.int (indL (sl m))) H4 → uIf (uT (tOp (uEq2 K) (uVar 3) (tC (.int 0)))) (tC (.int 0)) (tOp uMod (tOp uSub (uVar 3) (tC (.int 1))) (tC (.int 4))) [some (.ref b), some (.ref p1), some (.ref p2), some (.int k), none, none, none, none, none] H4 R := by
    intro R hR
    rw [hmi] at hR
    show bB (decide (V.int k = V.int 0)) _ _
    refine bB_d (fun h => ?_) (fun h => ?_)
    · injection h with h
      rw [if_pos h] at hR
      exact hR
    · rw [if_neg (fun e => h (by rw [e]))] at hR
      exact ⟨by decide, hR⟩
  refine key _ ?_
  refine ⟨by show 3 ≤ sizeLine; decide, fun q1 hq1 => ?_⟩
  refine ⟨rfl, fun p3 H5 hp3 e5 hl5 => ?_⟩
  refine ⟨by show 2 ≤ sizeLine; decide, fun d0 hd0 => ?_⟩
  have hq1' := (Ex.new (o := .lst [.ref q1, .ref p3]) hd0) _ _ (e5 _ _ (upd_same (H := H4) (o := .lst [kindOf (.str m), .int (indL (sl m)), .int k])))
  have hp3' := (Ex.new (o := .lst [.ref q1, .ref p3]) hd0) _ _ hl5
  have e6 : Ex H4 (upd H5 d0 (.lst [.ref q1, .ref p3])) := ((Ex.new hq1).trans e5).trans (Ex.new hd0)
  have hm6 := e6 _ _ hm4
  have hd6 : (upd H5 d0 (.lst [.ref q1, .ref p3])) d0 = some (.lst [.ref q1, .ref p3]) := upd_same
  generalize upd H5 d0 (.lst [.ref q1, .ref p3]) = H6 at hq1' hp3' e6 hm6 hd6
  have B6 := B4.ex e6
  have F6 := F4.trans (Fr.ex e6)
  dsimp only [gName, tSeq, uIfS, uT, tOp, tCB, tCons, tNil, tLst, List.set]
  refine told_row (K := K) (ca := ca) (x0 := some (.ref b)) (x2 := some (.ref p2)) (x4 := some (.ref d0)) (x5 := none) (x6 := none) (x7 := none) hm6 hat hmk hml fun D H7 hD e7 hl7 => ?_
  refine uVar_of (v := .ref p1) rfl ?_
  refine ⟨by show 2 ≤ sizeLine; decide, fun e0 he0 => ?_⟩
  have hl7 : H7 D = some (.lst [kindOf (.str m), .int (indL (sl m)), .int ((k.toNat : Nat) : Int)]) := by
    rw [hl7, hkk]
    show some (HO.lst [kindOf (.str m), .int (indL (sl m)), .int (plaL (sl m))]) = _
    rw [hmp]
  refine repr_due (by omega) hm upd_same (Ex.new he0 _ _ hl7) (Ex.new he0 _ _ (e7 _ _ hm6)) ?_
  refine uVar_of (v := .ref d0) rfl ?_
  refine repr_due (by omega) hm (Ex.new he0 _ _ (e7 _ _ hd6)) (Ex.new he0 _ _ (e7 _ _ (by rw [hkk]; exact hq1'))) (Ex.new he0 _ _ (e7 _ _ hp3')) ?_
  show bB (!decide (V.str _ = V.str _)) _ _
  refine bB_f (by simp) ?_
  exact m7_ok ((B6.ex e7).new he0) (by omega) fun H8 B8 f8 => q H8 (B8.le (by omega)) ((F6.trans ((Fr.ex e7).trans (Fr.new he0))).trans f8)

def tAg (K : PySem.W.Frag) (ca : Nat → Addr) : TS := tSeq (tAsg (tCall (sp_split_words K ca) [] E0 (tCons (uVar 9) (tNil))) (gName 11)) (tSeq (uIfS (uT (tOp (uNe2 K) (tCB (uRepr K) (tCons (uVar 11) (tNil))) (tCB (uRepr K) (tCons (tCall (sp__law_words K ca) [] E0 (tCons (uVar 9) (tNil))) (tNil))))) (tRet (tC (.bl false))) (tNext)) (uIfS (uT (tOp (uIs true) (uVar 11) (tC .non))) (tDrop (tBM K "list" uAppend (uVar 11) (tCons (tC (.str "more")) (tNil)))) (tNext)))
def tOd (K : PySem.W.Frag) (ca : Nat → Addr) : TS := uIfS (uOr (uT (tOp (uIs true) (tCallN 1 2 (sp_parse_integer K ca) gV_parse_integer_low_high E0 (tCons (uVar 12) (tNil)) (tCons (tC (.int 0)) (tCons (tC (.int 9)) (tNil)))) (tC .non))) (uT (tOp (uIs true) (tCall (sp_split_words K ca) [] E0 (tCons (uVar 12) (tNil))) (tC .non)))) (tRet (tC (.bl false))) (tNext)
def tTn (K : PySem.W.Frag) (ca : Nat → Addr) : TS := tSeq (tAsg (tCall (sp__law_text K ca) [] E0 (tCons (uVar 2) (tNil))) (gName 4)) (tSeq (tAsg (tCall (sp__law_value K ca) [] E0 (tCons (uVar 4) (tNil))) (gName 5)) (tSeq (tAsg (uIf (uT (tOp (uIs false) (uVar 5) (tC .non))) (tC (.int 5)) (uVar 5)) (gName 6)) (tSeq (tAsg (tOp (uIx K) (tLst (tCons (tC (.int 0)) (tCons (tOp uSub (uVar 6) (tC (.int 1))) (tCons (uVar 6) (tCons (tOp (uAdd K) (uVar 6) (tC (.int 1))) (tCons (tUn uNeg (tC (.int 3))) (tNil))))))) (tCall (sp__law_take K ca) [] E0 (tCons (uVar 2) (tCons (tC (.int 5)) (tNil))))) (gName 7)) (tSeq (tAsg (tOp (uIx K) (tLst (tCons (uVar 6) (tCons (tOp uSub (uVar 6) (tC (.int 1))) (tCons (tOp (uAdd K) (uVar 6) (tC (.int 1))) (tCons (tOp uPow (tC (.int 10)) (tC (.int 29))) (tCons (tC (.int 0)) (tNil))))))) (tCall (sp__law_take K ca) [] E0 (tCons (uVar 2) (tCons (tC (.int 5)) (tNil))))) (gName 8)) (tSeq (uIfS (uOr (uNot (uT (tCall (sp__law_marks_right K ca) [] E0 (tCons (uVar 2) (tNil))))) (uNot (uT (tCall (sp__law_number_right K ca) [] E0 (tCons (uVar 4) (tCons (uVar 7) (tCons (uVar 8) (tNil)))))))) (tRet (tC (.bl false))) (tNext)) (tSeq (tAsg (tCall (sp__law_line K ca) [] E0 (tCons (uVar 2) (tNil))) (gName 9)) (tFor (iRng1 (tCons (tC (.int 2)) (tNil))) (gName 10) (tSeq (tAsg (tCall (sp_split_words K ca) [] E0 (tCons (uVar 9) (tNil))) (gName 11)) (tSeq (uIfS (uT (tOp (uNe2 K) (tCB (uRepr K) (tCons (uVar 11) (tNil))) (tCB (uRepr K) (tCons (tCall (sp__law_words K ca) [] E0 (tCons (uVar 9) (tNil))) (tNil))))) (tRet (tC (.bl false))) (tNext)) (uIfS (uT (tOp (uIs true) (uVar 11) (tC .non))) (tDrop (tBM K "list" uAppend (uVar 11) (tCons (tC (.str "more")) (tNil)))) (tNext)))))))))))
theorem wordsL_size : ∀ (l : List Nat) (fs : List (List Nat)) (w : List Nat) (ws : List (List Nat)), wordsL fs w l = some ws → (ws.map (·.length)).sum + ws.length ≤ (fs.map (·.length)).sum + fs.length + w.length + l.length + 1
  | [], fs, w, ws, h => by
    unfold wordsL at h
    split at h
    · cases h
    · cases h
      rw [List.map_append, List.sum_append, List.length_append]
      simp; omega
  | c :: r, fs, w, ws, h => by
    unfold wordsL at h
    split at h
    · cases h
    · split at h
      · have := wordsL_size r _ _ _ h
        rw [List.map_append, List.sum_append, List.length_append] at this
        simp at this ⊢; omega
      · have := wordsL_size r _ _ _ h
        rw [List.length_append] at this
        simp at this ⊢; omega
theorem wordsL_ok (P : Nat → Prop) : ∀ (l : List Nat) (fs : List (List Nat)) (w : List Nat) (ws : List (List Nat)), (∀ c ∈ l, P c) → (∀ c ∈ w, P c) → (∀ x ∈ fs, ∀ c ∈ x, P c) → wordsL fs w l = some ws → ∀ x ∈ ws, ∀ c ∈ x, P c
  | [], fs, w, ws, h1, h2, h3, h => by
    unfold wordsL at h
    split at h
    · cases h
    · cases h
      intro x hx
      rcases List.mem_append.mp hx with hx | hx
      · exact h3 x hx
      · have : x = w := by simpa using hx
        subst this; exact h2
  | c :: r, fs, w, ws, h1, h2, h3, h => by
    have h1' : ∀ d ∈ r, P d := fun d hd => h1 d (List.mem_cons_of_mem _ hd)
    unfold wordsL at h
    split at h
    · cases h
    · split at h
      · refine wordsL_ok P r _ _ _ h1' (fun d hd => by cases hd) (fun x hx => ?_) h
        rcases List.mem_append.mp hx with hx | hx
        · exact h3 x hx
        · have : x = w := by simpa using hx
          subst this; exact h2
      · refine wordsL_ok P r _ _ _ h1' (fun d hd => ?_) h3 h
        rcases List.mem_append.mp hd with hd | hd
        · exact h2 d hd
        · have : d = c := by simpa using hd
          subst this; exact h1 d List.mem_cons_self
def wsD (ws : List (List Nat)) : List PyData := ws.map fun w => PyData.str (SX.S w)
theorem dp_ws {K : PySem.W.Frag} {H : Hp} : ∀ ws : List (List Nat), DpAll K H (wsV ws) (wsD ws)
  | [] => .nil
  | w :: ws => .cons (.str _) (dp_ws ws)
theorem wsD_facts : ∀ ws : List (List Nat), (∀ x ∈ ws, ∀ c ∈ x, c < 1114112) → PyData.showableAll (wsD ws) = true ∧ PyData.depthAll (wsD ws) = 0 ∧ PyData.leavesShortAll 8 (wsD ws) = true ∧ PyData.weightAll (wsD ws) = (ws.map (·.length)).sum + ws.length
  | [], _ => ⟨rfl, rfl, rfl, rfl⟩
  | w :: ws, h => by
    obtain ⟨h1, h2, h3, h4⟩ := wsD_facts ws fun x hx => h x (List.mem_cons_of_mem _ hx)
    have e : wsD (w :: ws) = PyData.str (SX.S w) :: wsD ws := rfl
    have hw := h w List.mem_cons_self
    refine ⟨?_, ?_, ?_, ?_⟩
    · rw [e]; simp only [PyData.showableAll, PyData.showable, h1, Bool.and_self]
    · rw [e]; simp only [PyData.depthAll, PyData.depth, h2]; rfl
    · rw [e]; simp only [PyData.leavesShortAll, PyData.leavesShort, h3, Bool.and_true, List.all_eq_true, decide_eq_true_eq]
      intro c hc
      have : c ∈ w := hc
      have := hw c this
      omega
    · rw [e]; simp only [PyData.weightAll, PyData.weight, h4, List.map_cons, List.sum_cons, List.length_cons]
      have : w.toArray.size = w.length := by simp
      have e3 : (SX.S w).cps.size = w.length := this
      rw [e3]
      omega
theorem repr_ws {K : PySem.W.Frag} {H : Hp} {Q : VK} {a : Addr} {ws : List (List Nat)} (ha : H a = some (.lst (wsV ws))) (h1 : (ws.map (·.length)).sum + ws.length ≤ 1000) (h2 : ∀ x ∈ ws, ∀ c ∈ x, c < 1114112) (q : Q (.str (PyData.list (wsD ws)).shown) H) : uRepr K [.ref a] H Q := by
  obtain ⟨g1, g2, g3, g4⟩ := wsD_facts ws h2
  refine ⟨.list (wsD ws), .lst (.inl (.inl ha)) (dp_ws ws), by simp only [PyData.showable, g1], ?_, by simp only [PyData.depth, g2]; decide, q⟩
  have := PyData.shown_le 8 (by decide) (.list (wsD ws)) (by simp only [PyData.leavesShort, g3])
  have e : PyData.weight (.list (wsD ws)) = PyData.weightAll (wsD ws) := by simp only [PyData.weight]
  rw [e, g4] at this
  exact szl (by omega)
theorem repr_none {K : PySem.W.Frag} {H : Hp} {Q : VK} (q : Q (.str (PyData.shown .none)) H) : uRepr K [.non] H Q := by
  refine ⟨.none, .non, by simp [PyData.showable], ?_, by simp [PyData.depth], q⟩
  have e : PyData.shown .none = ("None" : Str) := by simp [PyData.shown]
  rw [e]; decide +kernel
theorem ne_self {K : PySem.W.Frag} {z : Str} {H : Hp} {Q : VK} (q : Q (.bl false) H) : uNe2 K (.str z) (.str z) H Q := by
  have e : (!decide (V.str z = V.str z)) = false := by simp
  show Q (.bl (!decide (V.str z = V.str z))) H
  rw [e]; exact q
theorem ag_ok {K : PySem.W.Frag} {ca : Nat → Addr} {H : Hp} {D : Ends} {z : Str} {a b : Addr} {ns : List Int} {n : Nat} {x0 x1 x2 x3 x4 x5 x6 x7 x8 x10 x11 x12 : Option V} (hz : z.length ≤ 100) (so : sok z) (B : BoxAt H b n) (S : ScriptAt K H a ns)
    (k : ∀ H' x11, BoxAt H' b n → ScriptAt K H' a ns → D.nx [x0, x1, x2, x3, x4, x5, x6, x7, x8, some (.str z), x10, x11, x12] H') :
    tAg K ca D [x0, x1, x2, x3, x4, x5, x6, x7, x8, some (.str z), x10, x11, x12] H := by
  refine ⟨.str z, rfl, kn_str (by omega), ?_⟩
  dsimp only
  cases hw : wordsL [] [] (sl z) with
  | none =>
    intro H1 e1
    dsimp only [gName, tSeq, uIfS, uT, tOp, tCB, tCons, tNil, List.set]
    refine uVar_of (v := .non) rfl ?_
    refine repr_none ?_
    refine ⟨z, rfl, by omega, ?_⟩
    rw [hw]
    intro H2 e2
    show uRepr K [.non] H2 _
    refine repr_none ?_
    refine ne_self ?_
    exact k H2 _ (B.ex (e1.trans e2)) (S.ex (e1.trans e2))
  | some ws =>
    intro p H1 hp e1 hl1
    have g1 := wordsL_size _ _ _ _ hw
    have g2 := wordsL_ok (fun c => c < 1114112) _ _ _ _ so (fun _ h => by cases h) (fun _ h => by cases h) hw
    have hzl : z.cps.size ≤ 100 := hz
    simp at g1
    dsimp only [gName, tSeq, uIfS, uT, tOp, tCB, tCons, tNil, List.set]
    refine uVar_of (v := .ref p) rfl ?_
    refine repr_ws hl1 (by omega) g2 ?_
    refine ⟨z, rfl, by omega, ?_⟩
    rw [hw]
    intro p2 H2 hp2 e2 hl2
    show uRepr K [.ref p2] H2 _
    refine repr_ws hl2 (by omega) g2 ?_
    refine ne_self ?_
    have hl := e2 _ _ hl1
    refine ⟨.inl ⟨rfl, _, .inl (.inl hl)⟩, oK_of (mutL_of hl) ⟨?_, ?_⟩⟩
    · unfold wsV; rw [List.length_map]; exact szt (by omega)
    · have e := Ex.mut (o := .lst (wsV ws ++ [.str "more"])) (e1.trans e2) hp
      exact k _ _ (B.ex e) (S.ex e)
theorem sw_other {K : PySem.W.Frag} {ca : Nat → Addr} {H : Hp} {Q : VK} {E : XK} {y : V} (hk : Kn H y) (hs : ∀ z, y ≠ .str z) (q : ∀ H', Ex H H' → Q .non H') : sp_split_words K ca [y] H Q E := by
  refine ⟨y, rfl, hk, ?_⟩
  cases y <;> first | exact absurd rfl (hs _) | exact q
theorem od_ok {K : PySem.W.Frag} {ca : Nat → Addr} {H : Hp} {D : Ends} {y : V} {x0 x1 x2 x3 x4 x5 x6 x7 x8 x9 x10 x11 : Option V} (hk : Kn H y) (hs : ∀ z, y ≠ .str z)
    (k : ∀ H', Ex H H' → D.nx [x0, x1, x2, x3, x4, x5, x6, x7, x8, x9, x10, x11, some y] H') :
    tOd K ca D [x0, x1, x2, x3, x4, x5, x6, x7, x8, x9, x10, x11, some y] H := by
  have e0 : parseV y 0 9 = .non := by
    cases y <;> first | rfl | exact absurd rfl (hs _)
  refine ⟨rfl, rfl, y, 0, 9, rfl, hk, fun H1 e1 => ?_⟩
  rw [e0]
  exact sw_other (K := K) (ca := ca) (E := E0) (hk.ex e1) hs fun H2 e2 => k H2 (e1.trans e2)
theorem near_ok {σ : L2.St} {H : Hp} {R : VK} {l : List Nat} (h5 : σ[5]? = some (some (valV l))) (k : ∀ nr : Int, R (.int nr) H) : uIf (uT (tOp (uIs false) (uVar 5) (tC .non))) (tC (.int 5)) (uVar 5) σ H R := by
  have hu : ∀ R : VK, R (valV l) H → uVar 5 σ H R := fun R r => by unfold uVar; rw [h5]; exact r
  unfold uIf uT tOp
  refine hu _ ?_
  unfold valV at hu ⊢
  cases e : valL l with
  | none => exact k 5
  | some m =>
    rw [e] at hu
    exact hu _ (k m)
theorem tn_ok {K : PySem.W.Frag} {ca : Nat → Addr} {H : Hp} {D : Ends} {a b : Addr} {ns : List Int} {n : Nat} {x0 x1 x3 x4 x5 x6 x7 x8 x9 x10 x11 x12 : Option V} (B : BoxAt H b n) (hn : n ≤ 800000) (S : ScriptAt K H a ns)
    (k : ∀ H' x4 x5 x6 x7 x8 x9 x10 x11, BoxAt H' b (n + 70) → ScriptAt K H' a ns → D.nx [x0, x1, some (.ref b), x3, x4, x5, x6, x7, x8, x9, x10, x11, x12] H') :
    tTn K ca D [x0, x1, some (.ref b), x3, x4, x5, x6, x7, x8, x9, x10, x11, x12] H := by
  refine ⟨b, n, rfl, B, by omega, fun z H1 hz so B1 f1 => ?_⟩
  refine ⟨z, rfl, by omega, so, fun H2 e2 => ?_⟩
  have S2 := (S.box B f1).ex e2
  have B2 := B1.ex e2
  refine near_ok (σ := [x0, x1, some (.ref b), x3, some (.str z), some (valV (sl z)), x6, x7, x8, x9, x10, x11, x12]) (l := sl z) rfl fun nr => ?_
  refine ⟨by show 5 ≤ sizeLine; decide, fun p hp => ?_⟩
  refine ⟨b, _, _, rfl, B2.new hp, by omega, by decide, by decide, fun r3 H3 a3 c3 B3 f3 => ?_⟩
  have hp3 := f3 p _ upd_same (B2.ne hp)
  have S3 := S2.box B2 ((Fr.new hp).trans f3)
  obtain ⟨v, hv, hm⟩ := pick (xs := [V.int 0, .int (nr - 1), .int nr, .int (nr + 1), .int (-3)]) a3 c3
  refine oS_of (rdS_l hp3) (oK_of hv ?_)
  obtain ⟨lo, rfl⟩ : ∃ i, v = .int i := by
    simp only [List.mem_cons, List.not_mem_nil, or_false] at hm
    rcases hm with rfl | rfl | rfl | rfl | rfl <;> exact ⟨_, rfl⟩
  refine ⟨⟨by decide, by decide, by decide⟩, by show 5 ≤ sizeLine; decide, fun p4 hp4 => ?_⟩
  refine ⟨b, _, _, rfl, B3.new hp4, by omega, by decide, by decide, fun r5 H5 a5 c5 B5 f5 => ?_⟩
  have hp5 := f5 p4 _ upd_same (B3.ne hp4)
  have S5 := S3.box B3 ((Fr.new hp4).trans f5)
  obtain ⟨v, hv, hm⟩ := pick (xs := [V.int nr, .int (nr - 1), .int (nr + 1), .int (10 ^ Int.toNat 29), .int 0]) a5 c5
  refine oS_of (rdS_l hp5) (oK_of hv ?_)
  obtain ⟨hi, rfl⟩ : ∃ i, v = .int i := by
    simp only [List.mem_cons, List.not_mem_nil, or_false] at hm
    rcases hm with rfl | rfl | rfl | rfl | rfl <;> exact ⟨_, rfl⟩
  refine ⟨b, _, rfl, B5, by omega, fun H6 B6 f6 => ?_⟩
  refine ⟨z, lo, hi, rfl, hz, so, fun H7 e7 => ?_⟩
  have S7 := (S5.box B5 f6).ex e7
  have B7 := B6.ex e7
  refine ⟨b, _, rfl, B7, by omega, fun zl H8 hzl sol B8 f8 => ?_⟩
  have S8 := S7.box B7 f8
  have key : tFor (iRng1 fun _ H R => R [.int 2] H) (gName 10) (tAg K ca) D [x0, x1, some (.ref b), x3, some (.str z), some (valV (sl z)), some (.int nr), some (.int lo), some (.int hi), some (.str zl), x10, x11, x12] H8 := by
    refine forr (n := 2) (fun R h => h) (by decide) (by decide) (fun i σ H' => ∃ x10 x11, σ = [x0, x1, some (.ref b), x3, some (.str z), some (valV (sl z)), some (.int nr), some (.int lo), some (.int hi), some (.str zl), x10, x11, x12] ∧ BoxAt H' b (n + 70) ∧ ScriptAt K H' a ns) ?_ ?_ ?_
    · exact ⟨_, _, rfl, B8.le (by omega), S8⟩
    · rintro i σ H' hi' ⟨x10, x11, rfl, B', S'⟩
      exact ag_ok hzl sol B' S' fun H9 x11 B9 S9 => ⟨_, _, rfl, B9, S9⟩
    · rintro σ H' ⟨x10, x11, rfl, B', S'⟩
      exact k _ _ _ _ _ _ _ _ _ B' S'
  exact key
theorem len_law {K ca vs H Q E} (h : sp_law K ca vs H Q E) : vs.length = P_law.length := by obtain ⟨a, ns, rfl, _⟩ := h; rfl
theorem p_law {K ca vs H Q E} (T : Ct K ca) (h : sp_law K ca vs H Q E) : t_law K ca { nx := fun _ H' => Q .non H', rt := Q } (start N_law vs) H := by
  obtain ⟨a, ns, rfl, hS, hlen, k⟩ := h
  refine forr (n := if (if (ns.length : Int) < 20 then (ns.length : Int) else 20) > 1 then (if (ns.length : Int) < 20 then (ns.length : Int) else 20) else 1) (H1 := H) (fun R h => ?_) ?_ ?_
    (fun i σ H' => ∃ x1 x2 x3 x4 x5 x6 x7 x8 x9 x10 x11 x12, σ = [some (.ref a), x1, x2, x3, x4, x5, x6, x7, x8, x9, x10, x11, x12] ∧ ScriptAt K H' a ns) ?_ ?_ ?_
  · refine oS_l hS.sq ?_
    rw [List.length_map]
    exact h
  · split <;> split <;> omega
  · split <;> split <;> omega
  · exact ⟨none, none, none, none, none, none, none, none, none, none, none, none, rfl, hS⟩
  · rintro i σ H1 hi ⟨x1, x2, x3, x4, x5, x6, x7, x8, x9, x10, x11, x12, rfl, hS1⟩
    have hi : (i : Int) < 63 := by split at hi <;> split at hi <;> omega
    refine ⟨a, ns, _, rfl, hS1, by omega, by omega, fun cell => ⟨cell, rfl, fun b H2 nb e2 B2 => ?_⟩⟩
    walk_at "u"
    refine forr (tb := tTn K ca) (n := 3) (H1 := H2) (fun R h => h) (by decide) (by decide) (fun j σ H' => ∃ x3 x4 x5 x6 x7 x8 x9 x10 x11, σ = [some (.ref a), some (.int (i : Int)), some (.ref b), x3, x4, x5, x6, x7, x8, x9, x10, x11, x12] ∧ ScriptAt K H' a ns ∧ BoxAt H' b (70 * j)) ?_ ?_ ?_
    · exact ⟨_, _, _, _, _, _, _, _, _, rfl, hS1.ex e2, B2⟩
    · rintro j σ H3 hj ⟨x3, x4, x5, x6, x7, x8, x9, x10, x11, rfl, S3, B3⟩
      exact tn_ok B3 (by omega) S3 fun H' _ _ _ _ _ _ _ _ B' S' => ⟨_, _, _, _, _, _, _, _, _, rfl, S', B'.le (by omega)⟩
    · rintro σ H3 ⟨x3, x4, x5, x6, x7, x8, x9, x10, x11, rfl, S3, B3⟩
      refine ⟨by show 1 ≤ sizeLine; decide, fun q1 n1 => ⟨by show 1 ≤ sizeLine; decide, fun q2 n2 => fun q3 n3 => fun q4 n4 => ⟨upd_same, [(Sum.inr "5", .int 5)], rfl, by show 1 ≤ 15; decide, by show 2 ≤ sizeLine; decide, fun q5 n5 => ⟨by show 8 ≤ sizeLine; decide, fun q6 n6 => ?_⟩⟩⟩⟩
      have g1 : Ex H3 _ := Ex.new (o := .lst [.str "5"]) n1
      have g2 := Ex.new (o := .tup [.str "5"]) n2
      have g3 := Ex.new (o := .dK []) n3
      have n4' := n4
      have g4 := Ex.mut (o := .dK (mergeK [] [(Sum.inr "5", .int 5)])) (Ex.new (o := .dK []) n4) n4'
      have g5 := Ex.new (o := .lst [.str "a", .str "b"]) n5
      have g6 := Ex.new (o := .lst [.non, .int 5, .bl true, .ref q1, .ref q2, .ref q3, .ref q4, .ref q5]) n6
      have S9 := (((((S3.ex g1).ex g2).ex g3).ex g4).ex g5).ex g6
      have k1 := g6 _ _ (g5 _ _ (g4 _ _ (g3 _ _ (g2 q1 _ upd_same))))
      have k2 := g6 _ _ (g5 _ _ (g4 _ _ (g3 q2 _ upd_same)))
      have k3 := g6 _ _ (g5 _ _ (g4 q3 _ upd_same))
      have k4 := g6 _ _ (g5 q4 _ upd_same)
      have k5 := g6 q5 _ upd_same
      have k6 := upd_same (H := upd (upd (upd (upd (upd (upd H3 q1 (.lst [.str "5"])) q2 (.tup [.str "5"])) q3 (.dK [])) q4 (.dK [])) q4 (.dK (mergeK [] [(Sum.inr (Str.ofString "5"), .int 5)]))) q5 (.lst [.str "a", .str "b"])) (a := q6) (o := .lst [.non, .int 5, .bl true, .ref q1, .ref q2, .ref q3, .ref q4, .ref q5])
      generalize hH : upd (upd (upd (upd (upd (upd (upd H3 q1 (.lst [.str "5"])) q2 (.tup [.str "5"])) q3 (.dK [])) q4 (.dK [])) q4 (.dK (mergeK [] [(Sum.inr (Str.ofString "5"), .int 5)]))) q5 (.lst [.str "a", .str "b"])) q6 (.lst [.non, .int 5, .bl true, .ref q1, .ref q2, .ref q3, .ref q4, .ref q5]) = H4 at S9 k1 k2 k3 k4 k5 k6
      clear hH
      refine for_src (tb := tOd K ca) (.lst q6 _) (rdL_of k6) (fun j σ H' => ∃ x12, σ = [some (.ref a), some (.int (i : Int)), some (.ref b), x3, x4, x5, x6, x7, x8, x9, x10, x11, x12] ∧ Ex H4 H') ⟨x12, rfl, Ex.refl _⟩ ?_ ?_ ?_
      · rintro j σ H' _ ⟨x12, rfl, e⟩
        exact rdL_of (e _ _ k6)
      · rintro j y σ H' hj ⟨x12, rfl, e⟩
        have hy := List.mem_of_getElem? hj
        have hk : Kn H4 y ∧ ∀ z, y ≠ .str z := by
          simp only [List.mem_cons, List.not_mem_nil, or_false] at hy
          rcases hy with rfl | rfl | rfl | rfl | rfl | rfl | rfl | rfl
          · exact ⟨kn_non, fun _ h => by cases h⟩
          · exact ⟨kn_int _, fun _ h => by cases h⟩
          · exact ⟨kn_bl _, fun _ h => by cases h⟩
          · exact ⟨kn_ref k1 rfl, fun _ h => by cases h⟩
          · exact ⟨kn_ref k2 rfl, fun _ h => by cases h⟩
          · exact ⟨kn_ref k3 rfl, fun _ h => by cases h⟩
          · exact ⟨kn_ref k4 rfl, fun _ h => by cases h⟩
          · exact ⟨kn_ref k5 rfl, fun _ h => by cases h⟩
        exact od_ok (hk.1.ex e) hk.2 fun H' e' => ⟨_, rfl, e.trans e'⟩
      · rintro σ H' ⟨x12, rfl, e⟩
        exact ⟨_, _, _, _, _, _, _, _, _, _, _, _, rfl, S9.ex e⟩
  · rintro σ H' ⟨x1, x2, x3, x4, x5, x6, x7, x8, x9, x10, x11, x12, rfl, hS1⟩
    exact k H'

section
variable {P : Program} {w : World} {K : PySem.W.Frag} {mg : Str → Option Value} {base : Heap} {a : Nat → Addr} {d : Nat → FuncData} {ca : Nat → Addr}
theorem okI_InvalidMark (T : Tx K mg a d ca) : FnOk P w K mg base CX0 1 (a 21) (d 21) ["self", "value"] (U.spI (ca 2) "value") :=
  T.F_InvalidMark.ok scI_InvalidMark (fun vs H Q E h => U.len_spI h) (fun cdv A outer s H vs Q E hr h => ⟨U.tI K "value" "not a mark", pss_cons (ps_expr (U.pe_binit T.y_ReflowError rfl T.w_ReflowError (pa_cons (U.pu 0) (pa_cons pe_str pa_nil)))) (pss_one (ps_ost (U.pu 0) (U.pu 1))), U.p_init T.x_InvalidMark h⟩)
theorem okI_InvalidInteger (T : Tx K mg a d ca) : FnOk P w K mg base CX0 1 (a 22) (d 22) ["self", "value"] (U.spI (ca 3) "value") :=
  T.F_InvalidInteger.ok scI_InvalidInteger (fun vs H Q E h => U.len_spI h) (fun cdv A outer s H vs Q E hr h => ⟨U.tI K "value" "not an integer that is asked for", pss_cons (ps_expr (U.pe_binit T.y_ReflowError rfl T.w_ReflowError (pa_cons (U.pu 0) (pa_cons pe_str pa_nil)))) (pss_one (ps_ost (U.pu 0) (U.pu 1))), U.p_init T.x_InvalidInteger h⟩)
theorem v_is_mark (T : Tx K mg a d ca)   {fa : Addr} {cdv : Value} {A : Around} {outer : List Env} {s : Shared} {H : Hp} {E : XK} (hr : Room 0 (A.deeper (envOfC "is_mark" (defScope s_is_mark) s.heap.objs.size fa cdv))) :
    PSs ((cxOf CX0 P w K mg base N_is_mark "is_mark" (defScope s_is_mark) fa cdv A outer s H E).nox) (defBody s_is_mark) (t_is_mark K ca) :=
  pss_cons (pus_if (put_not (put_val (pue_isi .str (pu 0) rfl T.z_isinstance rfl T.z_str (by decide +kernel)))) (pss_one (ps_ret (pe_bl))) (pss_nil)) (pss_one (ps_ret (pue_or (pe_cmpR (ou_eq2 hr.units) (pu 0) (pe_str) (nomark _)) (pe_one (pue_and (pe_cmpR (ou_eq2 hr.units) (pe_callB cu_len rfl T.z_len (by decide +kernel) (pa_cons (pu 0) (pa_nil))) (pe_int) (nomark _)) (pue_and (pe_cmpR ou_in (pe_ix iu_ix (pu 0) (pe_int) (fun _ _ => rfl)) (pe_glob rfl T.c_KINDS.choose_spec ⟨_, rfl⟩) (by rfl)) (pe_one (pe_cmpR ou_in (pe_ix iu_ix (pu 0) (pe_int) (fun _ _ => rfl)) (pe_str) (by rfl)))))))))
theorem v_need_mark (T : Tx K mg a d ca) (G_is_mark : FnOk P w K mg base CX0 1 (a 0) (d 0) P_is_mark (sp_is_mark K ca)) (I_InvalidMark : FnOk P w K mg base CX0 1 (a 21) (d 21) ["self", "value"] (U.spI (ca 2) "value")) {fa : Addr} {cdv : Value} {A : Around} {outer : List Env} {s : Shared} {H : Hp} {E : XK} (hr : Room 2 (A.deeper (envOfC "need_mark" (defScope s_need_mark) s.heap.objs.size fa cdv))) :
    PSs (cxOf (L2.CX P w) P w K mg base N_need_mark "need_mark" (defScope s_need_mark) fa cdv A outer s H E) (defBody s_need_mark) (t_need_mark K ca E) :=
  pss_one (pus_if (put_not (put_val (pe_call G_is_mark (hr.mono (by decide)) rfl T.m_is_mark T.f_is_mark.kp T.b_is_mark .nil pass0 (pa_cons (pu 0) (pa_nil))))) (pss_one (ps_raiseu rfl (takes_of rfl rfl rfl rfl) (pmku T.x_InvalidMark I_InvalidMark (hr.mono (by decide)) T.i_InvalidMark pass0 rfl (pa_cons (pu 0) (pa_nil))))) (pss_nil))
theorem v_kind_of (T : Tx K mg a d ca) (G_need_mark : FnOk P w K mg base (L2.CX P w) 3 (a 1) (d 1) P_need_mark (sp_need_mark K ca))  {fa : Addr} {cdv : Value} {A : Around} {outer : List Env} {s : Shared} {H : Hp} {E : XK} (hr : Room 3 (A.deeper (envOfC "kind_of" (defScope s_kind_of) s.heap.objs.size fa cdv))) :
    PSs (cxOf (L2.CX P w) P w K mg base N_kind_of "kind_of" (defScope s_kind_of) fa cdv A outer s H E) (defBody s_kind_of) (t_kind_of K ca E) :=
  pss_cons (ps_expr (pe_call G_need_mark (hr.mono (by decide)) rfl T.m_need_mark T.f_need_mark.kp T.b_need_mark .nil (passes_call (takes_of rfl rfl rfl rfl) (fun _ _ _ _ h => h)) (pa_cons (pu 0) (pa_nil)))) (pss_one (ps_ret (pe_ix iu_ix (pu 0) (pe_int) (fun _ _ => rfl))))
theorem v_indent_of (T : Tx K mg a d ca) (G_need_mark : FnOk P w K mg base (L2.CX P w) 3 (a 1) (d 1) P_need_mark (sp_need_mark K ca))  {fa : Addr} {cdv : Value} {A : Around} {outer : List Env} {s : Shared} {H : Hp} {E : XK} (hr : Room 3 (A.deeper (envOfC "indent_of" (defScope s_indent_of) s.heap.objs.size fa cdv))) :
    PSs (cxOf (L2.CX P w) P w K mg base N_indent_of "indent_of" (defScope s_indent_of) fa cdv A outer s H E) (defBody s_indent_of) (t_indent_of K ca E) :=
  pss_cons (ps_expr (pe_call G_need_mark (hr.mono (by decide)) rfl T.m_need_mark T.f_need_mark.kp T.b_need_mark .nil (passes_call (takes_of rfl rfl rfl rfl) (fun _ _ _ _ h => h)) (pa_cons (pu 0) (pa_nil)))) (pss_one (ps_ret (pue_if (put_cmp (ou_eq2 hr.units) (pu 0) (pe_str) (nomark _)) (pe_int) (pe_callTy cu_int rfl T.z_int (by decide +kernel) (pa_cons (pe_ix iu_ix (pu 0) (pe_int) (fun _ _ => rfl)) (pa_nil))))))
theorem v_break_of (T : Tx K mg a d ca)  (I_InvalidInteger : FnOk P w K mg base CX0 1 (a 22) (d 22) ["self", "value"] (U.spI (ca 3) "value")) (I_InvalidMark : FnOk P w K mg base CX0 1 (a 21) (d 21) ["self", "value"] (U.spI (ca 2) "value")) {fa : Addr} {cdv : Value} {A : Around} {outer : List Env} {s : Shared} {H : Hp} {E : XK} (hr : Room 2 (A.deeper (envOfC "break_of" (defScope s_break_of) s.heap.objs.size fa cdv))) :
    PSs (cxOf (L2.CX P w) P w K mg base N_break_of "break_of" (defScope s_break_of) fa cdv A outer s H E) (defBody s_break_of) (t_break_of K ca E) :=
  pss_cons (pus_if (PW.pt (puw_or (put_not (put_val (pue_isi .str (pu 0) rfl T.z_isinstance rfl T.z_str (by decide +kernel)))) (puw_or (put_cmp (ou_ne2 hr.units) (pe_callB cu_len rfl T.z_len (by decide +kernel) (pa_cons (pu 0) (pa_nil))) (pe_int) (nomark _)) (pw_or1 (put_cmp ou_notin (pu 0) (pe_glob rfl T.c_KINDS.choose_spec ⟨_, rfl⟩) (by rfl)))))) (pss_one (ps_raiseu rfl (takes_of rfl rfl rfl rfl) (pmku T.x_InvalidMark I_InvalidMark (hr.mono (by decide)) T.i_InvalidMark pass0 rfl (pa_cons (pu 0) (pa_nil))))) (pss_nil)) (pss_cons (pus_if (PW.pt (puw_or (put_not (put_val (pue_isi .int (pu 1) rfl T.z_isinstance rfl T.z_int (by decide +kernel)))) (pw_or1 (put_val (pue_isi .bl (pu 1) rfl T.z_isinstance rfl T.z_bool (by decide +kernel)))))) (pss_one (ps_raiseu rfl (takes_of rfl rfl rfl rfl) (pmku T.x_InvalidInteger I_InvalidInteger (hr.mono (by decide)) T.i_InvalidInteger pass0 rfl (pa_cons (pu 1) (pa_nil))))) (pss_nil)) (pss_one (ps_ret (pe_op ou_add (pu 0) (pe_callTy cu_str rfl T.z_str (by decide +kernel) (pa_cons (pe_callB (cu_min rfl) rfl T.z_min (by decide +kernel) (pa_cons (pe_callTy cu_int rfl T.z_int (by decide +kernel) (pa_cons (pe_glob rfl T.c_MOST_INDENT.choose_spec ⟨_, rfl⟩) (pa_nil))) (pa_cons (pe_callB (cu_max rfl) rfl T.z_max (by decide +kernel) (pa_cons (pe_int) (pa_cons (pe_callTy cu_int rfl T.z_int (by decide +kernel) (pa_cons (pu 1) (pa_nil))) (pa_nil)))) (pa_nil)))) (pa_nil)))))))
theorem v_all_marks (T : Tx K mg a d ca)   {fa : Addr} {cdv : Value} {A : Around} {outer : List Env} {s : Shared} {H : Hp} {E : XK} (hr : Room 0 (A.deeper (envOfC "all_marks" (defScope s_all_marks) s.heap.objs.size fa cdv))) :
    PSs ((cxOf CX0 P w K mg base N_all_marks "all_marks" (defScope s_all_marks) fa cdv A outer s H E).nox) (defBody s_all_marks) (t_all_marks K ca) :=
  pss_one (ps_ret (pe_op ou_add (pe_lst (pa_cons (pe_str) (pa_nil))) (pe_lc2 (own := [("kind", 0), ("indent", 1)]) (vs1 := [1]) (g := gName 0) (tt := tYes) (wi1 := iRng1 (tCons (tOp (uAdd K) (tC (.int 3)) (tC (.int 1))) (tNil))) (g1 := gName 1) (tt1 := tYes) (te := tOp (uAdd K) (uVar 0) (tCB uStr (tCons (uVar 1) (tNil)))) rfl sc_all_marks.nd (piu (pe_glob rfl T.c_KINDS.choose_spec ⟨_, rfl⟩)) (blkOk_by (own := [("kind", 0), ("indent", 1)]) (N := N_all_marks) (sc := defScope s_all_marks) (by decide +kernel)) (by decide) (fun _ _ _ _ _ => pg_name (i := 0) sc_all_marks.nd rfl (Or.inl rfl)) (fun _ _ _ _ _ => pts_nil) (fun _ _ _ _ _ => pi_range1 rfl T.z_range (pa_cons (pe_op ou_add (pe_glob rfl T.c_MOST_INDENT.choose_spec ⟨_, rfl⟩) (pe_int)) (pa_nil))) (fun _ _ _ _ _ => pg_name (i := 1) sc_all_marks.nd rfl (Or.inl rfl)) (fun _ _ _ _ _ => pts_nil) (fun _ _ _ _ _ => pe_op ou_add (pu 0) (pe_callTy cu_str rfl T.z_str (by decide +kernel) (pa_cons (pu 1) (pa_nil)))))))
theorem v_mark_place (T : Tx K mg a d ca) (G_need_mark : FnOk P w K mg base (L2.CX P w) 3 (a 1) (d 1) P_need_mark (sp_need_mark K ca))  {fa : Addr} {cdv : Value} {A : Around} {outer : List Env} {s : Shared} {H : Hp} {E : XK} (hr : Room 3 (A.deeper (envOfC "mark_place" (defScope s_mark_place) s.heap.objs.size fa cdv))) :
    PSs (cxOf (L2.CX P w) P w K mg base N_mark_place "mark_place" (defScope s_mark_place) fa cdv A outer s H E) (defBody s_mark_place) (t_mark_place K ca E) :=
  pss_cons (ps_expr (pe_call G_need_mark (hr.mono (by decide)) rfl T.m_need_mark T.f_need_mark.kp T.b_need_mark .nil (passes_call (takes_of rfl rfl rfl rfl) (fun _ _ _ _ h => h)) (pa_cons (pu 0) (pa_nil)))) (pss_one (ps_ret (pue_if (put_cmp (ou_eq2 hr.units) (pu 0) (pe_str) (nomark _)) (pe_int) (pe_op ou_add (pe_op ou_add (pe_int) (pe_op ou_mul2 (pe_op ou_add (pe_glob rfl T.c_MOST_INDENT.choose_spec ⟨_, rfl⟩) (pe_int)) (pe_m1 F.slot_str_index F.type_str_index mu_index (pe_glob rfl T.c_KINDS.choose_spec ⟨_, rfl⟩) (pe_ix iu_ix (pu 0) (pe_int) (fun _ _ => rfl))))) (pe_callTy cu_int rfl T.z_int (by decide +kernel) (pa_cons (pe_ix iu_ix (pu 0) (pe_int) (fun _ _ => rfl)) (pa_nil)))))))
theorem v_parse_integer (T : Tx K mg a d ca)   {fa : Addr} {cdv : Value} {A : Around} {outer : List Env} {s : Shared} {H : Hp} {E : XK} (hr : Room 0 (A.deeper (envOfC "parse_integer" (defScope s_parse_integer) s.heap.objs.size fa cdv))) :
    PSs ((cxOf CX0 P w K mg base N_parse_integer "parse_integer" (defScope s_parse_integer) fa cdv A outer s H E).nox) (defBody s_parse_integer) (t_parse_integer K ca) :=
  pss_cons (pus_if (PW.pt (puw_or (put_not (put_val (pue_isi .str (pu 0) rfl T.z_isinstance rfl T.z_str (by decide +kernel)))) (puw_or (put_cmp (ou_eq2 hr.units) (pu 0) (pe_str) (nomark _)) (pw_or1 (put_cmp ou_gt (pe_callB cu_len rfl T.z_len (by decide +kernel) (pa_cons (pu 0) (pa_nil))) (pe_int) (nomark _)))))) (pss_one (ps_ret (pe_non))) (pss_nil)) (pss_cons (ps_set (i := 3) sc_parse_integer.nd rfl (Or.inl rfl) (pue_if (put_cmp (ou_eq2 hr.units) (pe_ix iu_ix (pu 0) (pe_int) (fun _ _ => rfl)) (pe_str) (nomark _)) (pe_slice su_sl (pu 0) (pou_some (pe_int)) (po_none)) (pu 0))) (pss_cons (pus_if (PW.pt (puw_or (put_cmp (ou_eq2 hr.units) (pu 3) (pe_str) (nomark _)) (pw_or1 (put_not (put_val (pe_callB (cu_all rfl) rfl T.z_all (by decide +kernel) (pa_cons (pe_lc (own := [("sign", 5)]) (g := gName 5) (tt := tYes) (te := tOp (uIn K false) (uVar 5) (tC (.str "0123456789"))) rfl sc_parse_integer.nd (piu (pu 3)) (blkOk_by (own := [("sign", 5)]) (N := N_parse_integer) (sc := defScope s_parse_integer) (by decide +kernel)) (fun _ _ _ _ _ => pg_name (i := 5) sc_parse_integer.nd rfl (Or.inl rfl)) (fun _ _ _ _ _ => pts_nil) (fun _ _ _ _ _ => pe_cmpR ou_in (pu 5) (pe_str) (by rfl))) (pa_nil)))))))) (pss_one (ps_ret (pe_non))) (pss_nil)) (pss_cons (pus_if (PW.pt (puw_and (put_cmp (ou_eq2 hr.units) (pe_ix iu_ix (pu 3) (pe_int) (fun _ _ => rfl)) (pe_str) (nomark _)) (pw_and1 (put_cmp (ou_ne2 hr.units) (pu 0) (pe_str) (nomark _))))) (pss_one (ps_ret (pe_non))) (pss_nil)) (pss_cons (ps_set (i := 4) sc_parse_integer.nd rfl (Or.inl rfl) (pe_callTy cu_int rfl T.z_int (by decide +kernel) (pa_cons (pu 0) (pa_nil)))) (pss_one (ps_ret (pue_if (put_chain ou_le ou_le (pu 1) (pu 4) (pu 2)) (pu 4) (pe_non))))))))
theorem v_split_words (T : Tx K mg a d ca)   {fa : Addr} {cdv : Value} {A : Around} {outer : List Env} {s : Shared} {H : Hp} {E : XK} (hr : Room 0 (A.deeper (envOfC "split_words" (defScope s_split_words) s.heap.objs.size fa cdv))) :
    PSs ((cxOf CX0 P w K mg base N_split_words "split_words" (defScope s_split_words) fa cdv A outer s H E).nox) (defBody s_split_words) (t_split_words K ca) :=
  pss_cons (pus_if (PW.pt (puw_or (put_not (put_val (pue_isi .str (pu 0) rfl T.z_isinstance rfl T.z_str (by decide +kernel)))) (pw_or1 (put_cmp ou_in (pe_str) (pu 0) (by rfl))))) (pss_one (ps_ret (pe_non))) (pss_nil)) (pss_cons (ps_set (i := 1) sc_split_words.nd rfl (Or.inl rfl) (pe_m1 F.slot_str_split F.type_str_split mu_split (pu 0) (pe_str))) (pss_one (ps_ret (pue_if (put_cmp ou_in (pe_str) (pu 1) (by rfl)) (pe_non) (pu 1)))))
theorem v__law_cell (T : Tx K mg a d ca)   {fa : Addr} {cdv : Value} {A : Around} {outer : List Env} {s : Shared} {H : Hp} {E : XK} (hr : Room 0 (A.deeper (envOfC "_law_cell" (defScope s__law_cell) s.heap.objs.size fa cdv))) :
    PSs ((cxOf CX0 P w K mg base N__law_cell "_law_cell" (defScope s__law_cell) fa cdv A outer s H E).nox) (defBody s__law_cell) (t__law_cell K ca) :=
  pss_cons (pus_if (put_cmp ou_lt (pu 1) (pe_callB cu_len rfl T.z_len (by decide +kernel) (pa_cons (pu 0) (pa_nil))) (nomark _)) (pss_one (ps_ret (pe_ix iu_ix (pu 0) (pu 1) (fun _ _ => rfl)))) (pss_nil)) (pss_one (ps_ret (pe_op ou_add (pe_op ou_mul2 (pe_int) (pu 1)) (pe_int))))
theorem v__law_box (T : Tx K mg a d ca)   {fa : Addr} {cdv : Value} {A : Around} {outer : List Env} {s : Shared} {H : Hp} {E : XK} (hr : Room 0 (A.deeper (envOfC "_law_box" (defScope s__law_box) s.heap.objs.size fa cdv))) :
    PSs ((cxOf CX0 P w K mg base N__law_box "_law_box" (defScope s__law_box) fa cdv A outer s H E).nox) (defBody s__law_box) (t__law_box K ca) :=
  pss_one (ps_ret (pe_lst (pa_cons (pe_callB (cu_max rfl) rfl T.z_max (by decide +kernel) (pa_cons (pe_int) (pa_cons (pe_op ou_sub (pu 0) (pe_op ou_pow (pe_int) (pe_int))) (pa_nil)))) (pa_cons (pe_op ou_mod (pu 0) (pe_int)) (pa_cons (pe_int) (pa_nil))))))
theorem v__law_take (T : Tx K mg a d ca)   {fa : Addr} {cdv : Value} {A : Around} {outer : List Env} {s : Shared} {H : Hp} {E : XK} (hr : Room 0 (A.deeper (envOfC "_law_take" (defScope s__law_take) s.heap.objs.size fa cdv))) :
    PSs ((cxOf CX0 P w K mg base N__law_take "_law_take" (defScope s__law_take) fa cdv A outer s H E).nox) (defBody s__law_take) (t__law_take K ca) :=
  pss_cons (pus_if (put_cmp ou_gt (pe_ix iu_ix (pu 0) (pe_int) (fun _ _ => rfl)) (pe_int) (nomark _)) (pss_cons (ps_set (i := 2) sc__law_take.nd rfl (Or.inl rfl) (pe_op ou_mod (pe_ix iu_ix (pu 0) (pe_int) (fun _ _ => rfl)) (pu 1))) (pss_cons (ps_asg (pe_op ou_fdiv (pe_ix iu_ix (pu 0) (pe_int) (fun _ _ => rfl)) (pu 1)) (pg_sub (pu 0) (pe_int) setu)) (pss_one (ps_ret (pu 2))))) (pss_nil)) (pss_cons (ps_asg (pe_op ou_add (pe_ix iu_ix (pu 0) (pe_int) (fun _ _ => rfl)) (pe_int)) (pg_sub (pu 0) (pe_int) setu)) (pss_cons (ps_set (i := 3) sc__law_take.nd rfl (Or.inl rfl) (pe_op ou_mod (pe_op ou_pow (pe_op ou_add (pe_op ou_add (pe_ix iu_ix (pu 0) (pe_int) (fun _ _ => rfl)) (pe_op ou_mul2 (pe_int) (pe_ix iu_ix (pu 0) (pe_int) (fun _ _ => rfl)))) (pe_int)) (pe_int)) (pe_int))) (pss_cons (ps_set (i := 3) sc__law_take.nd rfl (Or.inl rfl) (pe_op ou_mod (pe_op ou_pow (pe_op ou_add (pu 3) (pe_op ou_mul2 (pe_int) (pe_ix iu_ix (pu 0) (pe_int) (fun _ _ => rfl)))) (pe_int)) (pe_int))) (pss_one (ps_ret (pe_op ou_mod (pe_op ou_fdiv (pu 3) (pe_int)) (pu 1)))))))
theorem v__law_marks (T : Tx K mg a d ca)   {fa : Addr} {cdv : Value} {A : Around} {outer : List Env} {s : Shared} {H : Hp} {E : XK} (hr : Room 0 (A.deeper (envOfC "_law_marks" (defScope s__law_marks) s.heap.objs.size fa cdv))) :
    PSs ((cxOf CX0 P w K mg base N__law_marks "_law_marks" (defScope s__law_marks) fa cdv A outer s H E).nox) (defBody s__law_marks) (t__law_marks K ca) :=
  pss_cons (ps_set (i := 0) sc__law_marks.nd rfl (Or.inl rfl) (pe_lst (pa_cons (pe_str) (pa_nil)))) (pss_cons (ps_for PassesOwn.never rfl (piu (pe_lst (pa_cons (pe_str) (pa_cons (pe_str) (pa_cons (pe_str) (pa_nil)))))) (pg_name (i := 1) sc__law_marks.nd rfl (Or.inl rfl)) (pss_one (ps_set (i := 0) sc__law_marks.nd rfl (Or.inl rfl) (pe_op ou_add (pu 0) (pe_lst (pa_cons (pe_op ou_add (pu 1) (pe_str)) (pa_cons (pe_op ou_add (pu 1) (pe_str)) (pa_cons (pe_op ou_add (pu 1) (pe_str)) (pa_cons (pe_op ou_add (pu 1) (pe_str)) (pa_nil)))))))))) (pss_one (ps_ret (pu 0))))
theorem v__law_told (T : Tx K mg a d ca) (G_kind_of : FnOk P w K mg base (L2.CX P w) 4 (a 2) (d 2) P_kind_of (sp_kind_of K ca)) (G_indent_of : FnOk P w K mg base (L2.CX P w) 4 (a 3) (d 3) P_indent_of (sp_indent_of K ca)) (G_break_of : FnOk P w K mg base (L2.CX P w) 3 (a 4) (d 4) P_break_of (sp_break_of K ca)) (G_mark_place : FnOk P w K mg base (L2.CX P w) 4 (a 6) (d 6) P_mark_place (sp_mark_place K ca))  {fa : Addr} {cdv : Value} {A : Around} {outer : List Env} {s : Shared} {H : Hp} {E : XK} (hr : Room 4 (A.deeper (envOfC "_law_told" (defScope s__law_told) s.heap.objs.size fa cdv))) :
    PSs ((cxOf CX0 P w K mg base N__law_told "_law_told" (defScope s__law_told) fa cdv A outer s H E).nox) (defBody s__law_told) (t__law_told K ca) :=
  pss_one (pus_try (W0 := (fun _ _ _ _ => False)) (tb := fun W => tSeq (uIfS (uT (tOp (uEq2 K) (uVar 0) (tC (.int 0)))) (tRet (tLst (tCons (tC (.str "told")) (tCons (tCallS (sp_kind_of K ca) (WE W) (tCons (uVar 1) (tNil))) (tNil))))) (tNext)) (tSeq (uIfS (uT (tOp (uEq2 K) (uVar 0) (tC (.int 1)))) (tRet (tLst (tCons (tC (.str "told")) (tCons (tCallS (sp_indent_of K ca) (WE W) (tCons (uVar 1) (tNil))) (tNil))))) (tNext)) (tSeq (uIfS (uT (tOp (uEq2 K) (uVar 0) (tC (.int 2)))) (tRet (tLst (tCons (tC (.str "told")) (tCons (tCallS (sp_mark_place K ca) (WE W) (tCons (uVar 1) (tNil))) (tNil))))) (tNext)) (tRet (tLst (tCons (tC (.str "told")) (tCons (tCallS (sp_break_of K ca) (WE W) (tCons (uVar 1) (tCons (uVar 2) (tNil)))) (tNil)))))))) rfl rfl sc__law_told.nd takes0 (fun W pn xe tk po => pss_cons (pus_if (put_cmp (ou_eq2 hr.units) (pu 0) (pe_int) (nomark _)) (pss_one (ps_ret (pe_lst (pa_cons (pe_str) (pa_cons (pe_callS G_kind_of (hr.mono (by decide)) rfl T.m_kind_of T.f_kind_of.kp T.b_kind_of (fun σ => passAt tk σ) (pa_cons (pu 1) (pa_nil))) (pa_nil)))))) (pss_nil)) (pss_cons (pus_if (put_cmp (ou_eq2 hr.units) (pu 0) (pe_int) (nomark _)) (pss_one (ps_ret (pe_lst (pa_cons (pe_str) (pa_cons (pe_callS G_indent_of (hr.mono (by decide)) rfl T.m_indent_of T.f_indent_of.kp T.b_indent_of (fun σ => passAt tk σ) (pa_cons (pu 1) (pa_nil))) (pa_nil)))))) (pss_nil)) (pss_cons (pus_if (put_cmp (ou_eq2 hr.units) (pu 0) (pe_int) (nomark _)) (pss_one (ps_ret (pe_lst (pa_cons (pe_str) (pa_cons (pe_callS G_mark_place (hr.mono (by decide)) rfl T.m_mark_place T.f_mark_place.kp T.b_mark_place (fun σ => passAt tk σ) (pa_cons (pu 1) (pa_nil))) (pa_nil)))))) (pss_nil)) (pss_one (ps_ret (pe_lst (pa_cons (pe_str) (pa_cons (pe_callS G_break_of (hr.mono (by decide)) rfl T.m_break_of T.f_break_of.kp T.b_break_of (fun σ => passAt tk σ) (pa_cons (pu 1) (pa_cons (pu 2) (pa_nil)))) (pa_nil))))))))) (.more (k := ⟨.ref (ca 2), 3, fun a cls d => tRet (tLst (tCons (tC (.str "mark")) (tCons (uXf K a cls d 3 "value") (tNil))))⟩) ⟨rfl, by decide, Or.inl T.m_InvalidMark⟩ rfl rfl (fun a oe cls d pn hz hf => pss_one (ps_ret (pe_lst (pa_cons (pe_str) (pa_cons (pue_xf 3 hz hf) (pa_nil)))))) (.more (k := ⟨.ref (ca 3), 3, fun a cls d => tRet (tLst (tCons (tC (.str "integer")) (tCons (uXf K a cls d 3 "value") (tNil))))⟩) ⟨rfl, by decide, Or.inl T.m_InvalidInteger⟩ rfl rfl (fun a oe cls d pn hz hf => pss_one (ps_ret (pe_lst (pa_cons (pe_str) (pa_cons (pue_xf 3 hz hf) (pa_nil)))))) (.rest))))
theorem v__law_marks_right (T : Tx K mg a d ca) (G_all_marks : FnOk P w K mg base CX0 1 (a 5) (d 5) P_all_marks (sp_all_marks K ca)) (G__law_take : FnOk P w K mg base CX0 1 (a 11) (d 11) P__law_take (sp__law_take K ca)) (G__law_marks : FnOk P w K mg base CX0 1 (a 12) (d 12) P__law_marks (sp__law_marks K ca)) (G__law_told : FnOk P w K mg base CX0 5 (a 13) (d 13) P__law_told (sp__law_told K ca))  {fa : Addr} {cdv : Value} {A : Around} {outer : List Env} {s : Shared} {H : Hp} {E : XK} (hgd : (A.deeper (envOfC "_law_marks_right" (defScope s__law_marks_right) s.heap.objs.size fa cdv)).guards = some []) (hr : Room 5 (A.deeper (envOfC "_law_marks_right" (defScope s__law_marks_right) s.heap.objs.size fa cdv))) :
    PSs ((cxOf CX0 P w K mg base N__law_marks_right "_law_marks_right" (defScope s__law_marks_right) fa cdv A outer s H E).nox) (defBody s__law_marks_right) (t__law_marks_right K ca) :=
  pss_cons (ps_set (i := 1) sc__law_marks_right.nd rfl (Or.inr rfl) (pe_call0 G__law_marks (hr.mono (by decide)) rfl T.m__law_marks T.f__law_marks.kp T.b__law_marks .nil pass0)) (pss_cons (ps_set (i := 2) sc__law_marks_right.nd rfl (Or.inl rfl) (pe_call0 G_all_marks (hr.mono (by decide)) rfl T.m_all_marks T.f_all_marks.kp T.b_all_marks .nil pass0)) (pss_cons (pus_if (put_cmp (ou_ne2 hr.units) (pu 2) (pu 1) (nomark _)) (pss_one (ps_ret (pe_bl))) (pss_nil)) (pss_cons (ps_expr (pe_bm PySem.F.plainAttrs_list PySem.F.slot_list_append PySem.F.type_list_append mu_append (pu 2) (pa_cons (pe_str) (pa_nil)))) (pss_cons (ps_set (i := 3) sc__law_marks_right.nd rfl (Or.inr rfl) (pe_call G__law_take (hr.mono (by decide)) rfl T.m__law_take T.f__law_take.kp T.b__law_take .nil pass0 (pa_cons (pu 0) (pa_cons (pe_int) (pa_nil))))) (pss_cons (ps_set (i := 4) sc__law_marks_right.nd rfl (Or.inl rfl) (pe_lst (pa_cons (pe_lst (pa_cons (pe_ix iu_ix (pe_ix iu_ix (pu 1) (pu 3) (fun _ _ => rfl)) (pe_int) (fun _ _ => rfl)) (pa_cons (pue_if (put_cmp (ou_eq2 hr.units) (pu 3) (pe_int) (nomark _)) (pe_int) (pe_op ou_mod (pe_op ou_sub (pu 3) (pe_int)) (pe_int))) (pa_cons (pu 3) (pa_nil))))) (pa_cons (pe_call0 G_all_marks (hr.mono (by decide)) rfl T.m_all_marks T.f_all_marks.kp T.b_all_marks .nil pass0) (pa_nil))))) (pss_cons (pus_if (put_cmp (ou_ne2 hr.units) (pe_callB (cu_repr hgd hr.units) rfl T.z_repr (by decide +kernel) (pa_cons (pe_lst (pa_cons (pe_lc (own := [("_law_way", 8)]) (g := gName 8) (tt := tYes) (te := tOp (uIx K) (tCall (sp__law_told K ca) [] E0 (tCons (uVar 8) (tCons (tOp (uIx K) (uVar 1) (uVar 3)) (tCons (tC .non) (tNil))))) (tC (.int 1))) rfl sc__law_marks_right.nd (pi_range1 rfl T.z_range (pa_cons (pe_int) (pa_nil))) (blkOk_by (own := [("_law_way", 8)]) (N := N__law_marks_right) (sc := defScope s__law_marks_right) (by decide +kernel)) (fun _ _ _ _ _ => pg_name (i := 8) sc__law_marks_right.nd rfl (Or.inl rfl)) (fun _ _ _ _ _ => pts_nil) (fun _ _ _ _ _ => pe_ix iu_ix (pe_call G__law_told (hr.mono (by decide)) rfl T.m__law_told T.f__law_told.kp T.b__law_told .nil pass0 (pa_cons (pu 8) (pa_cons (pe_ix iu_ix (pu 1) (pu 3) (fun _ _ => rfl)) (pa_cons (pe_non) (pa_nil))))) (pe_int) (fun _ _ => rfl))) (pa_cons (pu 1) (pa_nil)))) (pa_nil))) (pe_callB (cu_repr hgd hr.units) rfl T.z_repr (by decide +kernel) (pa_cons (pu 4) (pa_nil))) (nomark _)) (pss_one (ps_ret (pe_bl))) (pss_nil)) (pss_cons (ps_set (i := 5) sc__law_marks_right.nd rfl (Or.inl rfl) (pe_ix iu_ix (pe_str) (pe_call G__law_take (hr.mono (by decide)) rfl T.m__law_take T.f__law_take.kp T.b__law_take .nil pass0 (pa_cons (pu 0) (pa_cons (pe_int) (pa_nil)))) (fun _ _ => rfl))) (pss_cons (ps_set (i := 6) sc__law_marks_right.nd rfl (Or.inl rfl) (pe_ix iu_ix (pe_lst (pa_cons (pe_op ou_sub (pe_call G__law_take (hr.mono (by decide)) rfl T.m__law_take T.f__law_take.kp T.b__law_take .nil pass0 (pa_cons (pu 0) (pa_cons (pe_int) (pa_nil)))) (pe_int)) (pa_cons (pe_op ou_pow (pe_int) (pe_int)) (pa_cons (pe_un ou_neg (pe_op ou_pow (pe_int) (pe_int))) (pa_cons (pe_int) (pa_cons (pe_int) (pa_nil))))))) (pe_call G__law_take (hr.mono (by decide)) rfl T.m__law_take T.f__law_take.kp T.b__law_take .nil pass0 (pa_cons (pu 0) (pa_cons (pe_int) (pa_nil)))) (fun _ _ => rfl))) (pss_cons (pus_if (put_cmp (ou_ne2 hr.units) (pe_call G__law_told (hr.mono (by decide)) rfl T.m__law_told T.f__law_told.kp T.b__law_told .nil pass0 (pa_cons (pe_int) (pa_cons (pu 5) (pa_cons (pu 6) (pa_nil))))) (pe_lst (pa_cons (pe_str) (pa_cons (pe_op ou_add (pu 5) (pe_ix iu_ix (pe_str) (pe_callB (cu_max rfl) rfl T.z_max (by decide +kernel) (pa_cons (pe_int) (pa_cons (pe_callB (cu_min rfl) rfl T.z_min (by decide +kernel) (pa_cons (pe_int) (pa_cons (pu 6) (pa_nil)))) (pa_nil)))) (fun _ _ => rfl))) (pa_nil)))) (nomark _)) (pss_one (ps_ret (pe_bl))) (pss_nil)) (pss_cons (ps_set (i := 7) sc__law_marks_right.nd rfl (Or.inr rfl) (pe_ix iu_ix (pe_lst (pa_cons (pe_non) (pa_cons (pe_str) (pa_cons (pe_str) (pa_cons (pe_str) (pa_cons (pe_str) (pa_cons (pe_str) (pa_cons (pe_int) (pa_cons (pe_bl) (pa_cons (pe_lst (pa_cons (pe_str) (pa_nil))) (pa_cons (pe_dnewK) (pa_cons (pe_str) (pa_cons (pe_str) (pa_nil)))))))))))))) (pe_call G__law_take (hr.mono (by decide)) rfl T.m__law_take T.f__law_take.kp T.b__law_take .nil pass0 (pa_cons (pu 0) (pa_cons (pe_int) (pa_nil)))) (fun _ _ => rfl))) (pss_cons (pus_if (put_cmp (ou_ne2 hr.units) (pe_lc (own := [("_law_way", 8)]) (g := gName 8) (tt := tYes) (te := tCall (sp__law_told K ca) [] E0 (tCons (uVar 8) (tCons (uVar 7) (tCons (tC .non) (tNil))))) rfl sc__law_marks_right.nd (pi_range1 rfl T.z_range (pa_cons (pe_int) (pa_nil))) (blkOk_by (own := [("_law_way", 8)]) (N := N__law_marks_right) (sc := defScope s__law_marks_right) (by decide +kernel)) (fun _ _ _ _ _ => pg_name (i := 8) sc__law_marks_right.nd rfl (Or.inl rfl)) (fun _ _ _ _ _ => pts_nil) (fun _ _ _ _ _ => pe_call G__law_told (hr.mono (by decide)) rfl T.m__law_told T.f__law_told.kp T.b__law_told .nil pass0 (pa_cons (pu 8) (pa_cons (pu 7) (pa_cons (pe_non) (pa_nil)))))) (pe_op ou_mul2 (pe_lst (pa_cons (pe_lst (pa_cons (pe_str) (pa_cons (pu 7) (pa_nil)))) (pa_nil))) (pe_int)) (nomark _)) (pss_one (ps_ret (pe_bl))) (pss_nil)) (pss_cons (ps_set (i := 7) sc__law_marks_right.nd rfl (Or.inr rfl) (pe_ix iu_ix (pe_lst (pa_cons (pe_non) (pa_cons (pe_str) (pa_cons (pe_str) (pa_cons (pe_str) (pa_cons (pe_str) (pa_cons (pe_int) (pa_cons (pe_lst (pa_cons (pe_str) (pa_nil))) (pa_cons (pe_str) (pa_nil)))))))))) (pe_call G__law_take (hr.mono (by decide)) rfl T.m__law_take T.f__law_take.kp T.b__law_take .nil pass0 (pa_cons (pu 0) (pa_cons (pe_int) (pa_nil)))) (fun _ _ => rfl))) (pss_cons (pus_if (put_cmp (ou_ne2 hr.units) (pe_call G__law_told (hr.mono (by decide)) rfl T.m__law_told T.f__law_told.kp T.b__law_told .nil pass0 (pa_cons (pe_int) (pa_cons (pu 7) (pa_cons (pe_ix iu_ix (pe_lst (pa_cons (pe_non) (pa_cons (pe_int) (pa_nil)))) (pe_call G__law_take (hr.mono (by decide)) rfl T.m__law_take T.f__law_take.kp T.b__law_take .nil pass0 (pa_cons (pu 0) (pa_cons (pe_int) (pa_nil)))) (fun _ _ => rfl)) (pa_nil))))) (pe_lst (pa_cons (pe_str) (pa_cons (pu 7) (pa_nil)))) (nomark _)) (pss_one (ps_ret (pe_bl))) (pss_nil)) (pss_cons (ps_set (i := 7) sc__law_marks_right.nd rfl (Or.inr rfl) (pe_ix iu_ix (pe_lst (pa_cons (pe_non) (pa_cons (pe_bl) (pa_cons (pe_bl) (pa_cons (pe_str) (pa_cons (pe_lst (pa_cons (pe_int) (pa_nil))) (pa_cons (pe_dnewK) (pa_nil)))))))) (pe_call G__law_take (hr.mono (by decide)) rfl T.m__law_take T.f__law_take.kp T.b__law_take .nil pass0 (pa_cons (pu 0) (pa_cons (pe_int) (pa_nil)))) (fun _ _ => rfl))) (pss_one (ps_ret (pe_cmpR (ou_eq2 hr.units) (pe_call G__law_told (hr.mono (by decide)) rfl T.m__law_told T.f__law_told.kp T.b__law_told .nil pass0 (pa_cons (pe_int) (pa_cons (pu 5) (pa_cons (pu 7) (pa_nil))))) (pe_lst (pa_cons (pe_str) (pa_cons (pu 7) (pa_nil)))) (nomark _))))))))))))))))))
theorem v__law_text (T : Tx K mg a d ca) (G__law_take : FnOk P w K mg base CX0 1 (a 11) (d 11) P__law_take (sp__law_take K ca))  {fa : Addr} {cdv : Value} {A : Around} {outer : List Env} {s : Shared} {H : Hp} {E : XK} (hr : Room 1 (A.deeper (envOfC "_law_text" (defScope s__law_text) s.heap.objs.size fa cdv))) :
    PSs ((cxOf CX0 P w K mg base N__law_text "_law_text" (defScope s__law_text) fa cdv A outer s H E).nox) (defBody s__law_text) (t__law_text K ca) :=
  pss_cons (ps_set (i := 1) sc__law_text.nd rfl (Or.inl rfl) (pe_lst (pa_cons (pe_call G__law_take (hr.mono (by decide)) rfl T.m__law_take T.f__law_take.kp T.b__law_take .nil pass0 (pa_cons (pu 0) (pa_cons (pe_int) (pa_nil)))) (pa_cons (pe_call G__law_take (hr.mono (by decide)) rfl T.m__law_take T.f__law_take.kp T.b__law_take .nil pass0 (pa_cons (pu 0) (pa_cons (pe_int) (pa_nil)))) (pa_cons (pe_op ou_add (pe_op ou_mul2 (pe_call G__law_take (hr.mono (by decide)) rfl T.m__law_take T.f__law_take.kp T.b__law_take .nil pass0 (pa_cons (pu 0) (pa_cons (pe_op ou_pow (pe_int) (pe_int)) (pa_nil)))) (pe_op ou_pow (pe_int) (pe_int))) (pe_call G__law_take (hr.mono (by decide)) rfl T.m__law_take T.f__law_take.kp T.b__law_take .nil pass0 (pa_cons (pu 0) (pa_cons (pe_op ou_pow (pe_int) (pe_int)) (pa_nil))))) (pa_nil)))))) (pss_cons (ps_set (i := 2) sc__law_text.nd rfl (Or.inl rfl) (pe_op ou_add (pe_ix iu_ix (pe_lst (pa_cons (pe_str) (pa_cons (pe_str) (pa_nil)))) (pe_call G__law_take (hr.mono (by decide)) rfl T.m__law_take T.f__law_take.kp T.b__law_take .nil pass0 (pa_cons (pu 0) (pa_cons (pe_int) (pa_nil)))) (fun _ _ => rfl)) (pe_callTy cu_str rfl T.z_str (by decide +kernel) (pa_cons (pe_ix iu_ix (pu 1) (pe_call G__law_take (hr.mono (by decide)) rfl T.m__law_take T.f__law_take.kp T.b__law_take .nil pass0 (pa_cons (pu 0) (pa_cons (pe_int) (pa_nil)))) (fun _ _ => rfl)) (pa_nil))))) (pss_cons (ps_set (i := 3) sc__law_text.nd rfl (Or.inl rfl) (pe_call G__law_take (hr.mono (by decide)) rfl T.m__law_take T.f__law_take.kp T.b__law_take .nil pass0 (pa_cons (pu 0) (pa_cons (pe_op ou_add (pe_callB cu_len rfl T.z_len (by decide +kernel) (pa_cons (pu 2) (pa_nil))) (pe_int)) (pa_nil))))) (pss_cons (ps_set (i := 4) sc__law_text.nd rfl (Or.inl rfl) (pe_ix iu_ix (pe_str) (pe_call G__law_take (hr.mono (by decide)) rfl T.m__law_take T.f__law_take.kp T.b__law_take .nil pass0 (pa_cons (pu 0) (pa_cons (pe_int) (pa_nil)))) (fun _ _ => rfl))) (pss_cons (ps_set (i := 5) sc__law_text.nd rfl (Or.inl rfl) (pe_lst (pa_cons (pu 2) (pa_cons (pu 2) (pa_cons (pe_op ou_add (pe_op ou_add (pe_slice su_sl (pu 2) (po_none) (pou_some (pu 3))) (pu 4)) (pe_slice su_sl (pu 2) (pou_some (pu 3)) (po_none))) (pa_cons (pe_op ou_add (pe_op ou_add (pe_slice su_sl (pu 2) (po_none) (pou_some (pu 3))) (pu 4)) (pe_slice su_sl (pu 2) (pou_some (pe_op ou_add (pu 3) (pe_int))) (po_none))) (pa_cons (pe_op ou_add (pe_str) (pu 2)) (pa_cons (pe_op ou_add (pe_str) (pu 2)) (pa_cons (pe_str) (pa_nil)))))))))) (pss_one (ps_ret (pe_ix iu_ix (pu 5) (pe_call G__law_take (hr.mono (by decide)) rfl T.m__law_take T.f__law_take.kp T.b__law_take .nil pass0 (pa_cons (pu 0) (pa_cons (pe_int) (pa_nil)))) (fun _ _ => rfl))))))))
theorem v__law_value (T : Tx K mg a d ca)   {fa : Addr} {cdv : Value} {A : Around} {outer : List Env} {s : Shared} {H : Hp} {E : XK} (hr : Room 0 (A.deeper (envOfC "_law_value" (defScope s__law_value) s.heap.objs.size fa cdv))) :
    PSs ((cxOf CX0 P w K mg base N__law_value "_law_value" (defScope s__law_value) fa cdv A outer s H E).nox) (defBody s__law_value) (t__law_value K ca) :=
  pss_cons (ps_set (i := 1) sc__law_value.nd rfl (Or.inl rfl) (pue_if (put_cmp (ou_eq2 hr.units) (pe_slice su_sl (pu 0) (po_none) (pou_some (pe_int))) (pe_str) (nomark _)) (pe_slice su_sl (pu 0) (pou_some (pe_int)) (po_none)) (pu 0))) (pss_cons (pus_if (PW.pt (puw_or (put_cmp (ou_eq2 hr.units) (pu 1) (pe_str) (nomark _)) (pw_or1 (put_cmp (ou_ne2 hr.units) (pe_lc (own := [("_law_sign", 3)]) (g := gName 3) (tt := uT (tOp (uIn K true) (uVar 3) (tC (.str "0123456789")))) (te := uVar 3) rfl sc__law_value.nd (piu (pu 1)) (blkOk_by (own := [("_law_sign", 3)]) (N := N__law_value) (sc := defScope s__law_value) (by decide +kernel)) (fun _ _ _ _ _ => pg_name (i := 3) sc__law_value.nd rfl (Or.inl rfl)) (fun _ _ _ _ _ => pts_one (put_cmp ou_notin (pu 3) (pe_str) (by rfl))) (fun _ _ _ _ _ => pu 3)) (pe_lst (pa_nil)) (nomark _))))) (pss_one (ps_ret (pe_non))) (pss_nil)) (pss_cons (pus_if (PW.pt (puw_and (put_cmp (ou_eq2 hr.units) (pe_ix iu_ix (pu 1) (pe_int) (fun _ _ => rfl)) (pe_str) (nomark _)) (pw_and1 (put_cmp (ou_ne2 hr.units) (pu 0) (pe_str) (nomark _))))) (pss_one (ps_ret (pe_non))) (pss_nil)) (pss_cons (ps_set (i := 2) sc__law_value.nd rfl (Or.inl rfl) (pe_int)) (pss_cons (ps_for PassesOwn.never rfl (piu (pu 1)) (pg_name (i := 3) sc__law_value.nd rfl (Or.inl rfl)) (pss_one (ps_set (i := 2) sc__law_value.nd rfl (Or.inl rfl) (pe_op ou_add (pe_op ou_mul2 (pe_int) (pu 2)) (pe_m1 F.slot_str_index F.type_str_index mu_index (pe_str) (pu 3)))))) (pss_one (ps_ret (pue_if (put_cmp (ou_eq2 hr.units) (pe_ix iu_ix (pu 0) (pe_int) (fun _ _ => rfl)) (pe_str) (nomark _)) (pe_op ou_sub (pe_int) (pu 2)) (pu 2))))))))
theorem v__law_number_right (T : Tx K mg a d ca) (G_parse_integer : FnOk P w K mg base CX0 1 (a 7) (d 7) P_parse_integer (sp_parse_integer K ca)) (G__law_value : FnOk P w K mg base CX0 1 (a 16) (d 16) P__law_value (sp__law_value K ca))  {fa : Addr} {cdv : Value} {A : Around} {outer : List Env} {s : Shared} {H : Hp} {E : XK} (hgd : (A.deeper (envOfC "_law_number_right" (defScope s__law_number_right) s.heap.objs.size fa cdv)).guards = some []) (hr : Room 1 (A.deeper (envOfC "_law_number_right" (defScope s__law_number_right) s.heap.objs.size fa cdv))) :
    PSs ((cxOf CX0 P w K mg base N__law_number_right "_law_number_right" (defScope s__law_number_right) fa cdv A outer s H E).nox) (defBody s__law_number_right) (t__law_number_right K ca) :=
  pss_cons (ps_set (i := 3) sc__law_number_right.nd rfl (Or.inl rfl) (pe_call G__law_value (hr.mono (by decide)) rfl T.m__law_value T.f__law_value.kp T.b__law_value .nil pass0 (pa_cons (pu 0) (pa_nil)))) (pss_cons (ps_set (i := 4) sc__law_number_right.nd rfl (Or.inl rfl) (pue_if (PW.pt (puw_and (put_cmp ou_isnot (pu 3) (pe_non) (nomark _)) (pw_and1 (put_chain ou_le ou_le (pu 1) (pu 3) (pu 2))))) (pu 3) (pe_non))) (pss_cons (pus_if (put_cmp (ou_ne2 hr.units) (pe_callB (cu_repr hgd hr.units) rfl T.z_repr (by decide +kernel) (pa_cons (pe_callE G_parse_integer (hr.mono (by decide)) rfl T.m_parse_integer T.f_parse_integer.kp T.k_parse_integer_low_high pass0 (pa_cons (pu 0) (pa_nil)) (pk_cons (pu 1) (pk_cons (pu 2) (pk_nil)))) (pa_nil))) (pe_callB (cu_repr hgd hr.units) rfl T.z_repr (by decide +kernel) (pa_cons (pu 4) (pa_nil))) (nomark _)) (pss_one (ps_ret (pe_bl))) (pss_nil)) (pss_cons (ps_for PassesOwn.never rfl (piu (pe_lst (pa_cons (pe_tup (pa_cons (pe_int) (pa_cons (pe_callD G_parse_integer (hr.mono (by decide)) rfl T.m_parse_integer T.f_parse_integer.kp T.b_parse_integer pass0 (pa_cons (pu 0) (pa_nil))) (pa_nil)))) (pa_cons (pe_tup (pa_cons (pu 1) (pa_cons (pe_callE G_parse_integer (hr.mono (by decide)) rfl T.m_parse_integer T.f_parse_integer.kp T.k_parse_integer_low pass0 (pa_cons (pu 0) (pa_nil)) (pk_cons (pu 1) (pk_nil))) (pa_nil)))) (pa_nil))))) (pg_tup rfl (pgs_cons (pg_name (i := 5) sc__law_number_right.nd rfl (Or.inl rfl)) (pgs_cons (pg_name (i := 6) sc__law_number_right.nd rfl (Or.inl rfl)) (pgs_nil)))) (pss_one (pus_if (put_cmp (ou_ne2 hr.units) (pe_callB (cu_repr hgd hr.units) rfl T.z_repr (by decide +kernel) (pa_cons (pu 6) (pa_nil))) (pe_callB (cu_repr hgd hr.units) rfl T.z_repr (by decide +kernel) (pa_cons (pue_if (PW.pt (puw_and (put_cmp ou_isnot (pu 3) (pe_non) (nomark _)) (pw_and1 (put_chain ou_le ou_le (pu 5) (pu 3) (pe_int))))) (pu 3) (pe_non)) (pa_nil))) (nomark _)) (pss_one (ps_ret (pe_bl))) (pss_nil)))) (pss_cons (ps_set (i := 4) sc__law_number_right.nd rfl (Or.inl rfl) (pue_if (PW.pt (puw_and (put_cmp ou_isnot (pu 3) (pe_non) (nomark _)) (pw_and1 (put_chain ou_le ou_le (pe_int) (pu 3) (pu 2))))) (pu 3) (pe_non))) (pss_one (ps_ret (pe_cmpR (ou_eq2 hr.units) (pe_callB (cu_repr hgd hr.units) rfl T.z_repr (by decide +kernel) (pa_cons (pe_callE G_parse_integer (hr.mono (by decide)) rfl T.m_parse_integer T.f_parse_integer.kp T.k_parse_integer_high pass0 (pa_cons (pu 0) (pa_nil)) (pk_cons (pu 2) (pk_nil))) (pa_nil))) (pe_callB (cu_repr hgd hr.units) rfl T.z_repr (by decide +kernel) (pa_cons (pu 4) (pa_nil))) (nomark _))))))))
theorem v__law_words (T : Tx K mg a d ca)   {fa : Addr} {cdv : Value} {A : Around} {outer : List Env} {s : Shared} {H : Hp} {E : XK} (hr : Room 0 (A.deeper (envOfC "_law_words" (defScope s__law_words) s.heap.objs.size fa cdv))) :
    PSs ((cxOf CX0 P w K mg base N__law_words "_law_words" (defScope s__law_words) fa cdv A outer s H E).nox) (defBody s__law_words) (t__law_words K ca) :=
  pss_cons (pus_par (i := 1) (j := 2) rfl sc__law_words.nd rfl rfl (by decide) rfl rfl (pa_cons (pe_lst (pa_nil)) (pa_cons (pe_str) (pa_nil))) (by rfl)) (pss_cons (ps_for PassesOwn.never rfl (piu (pu 0)) (pg_name (i := 3) sc__law_words.nd rfl (Or.inl rfl)) (pss_cons (pus_if (PW.pt (puw_or (put_cmp (ou_eq2 hr.units) (pu 3) (pe_str) (nomark _)) (pw_or1 (PW.pt (puw_and (put_cmp (ou_eq2 hr.units) (pu 3) (pe_str) (nomark _)) (pw_and1 (put_cmp (ou_eq2 hr.units) (pu 2) (pe_str) (nomark _)))))))) (pss_one (ps_ret (pe_non))) (pss_nil)) (pss_one (pus_if (put_cmp (ou_eq2 hr.units) (pu 3) (pe_str) (nomark _)) (pss_cons (ps_expr (pe_bm PySem.F.plainAttrs_list PySem.F.slot_list_append PySem.F.type_list_append mu_append (pu 1) (pa_cons (pu 2) (pa_nil)))) (pss_one (ps_set (i := 2) sc__law_words.nd rfl (Or.inl rfl) (pe_str)))) (pss_one (ps_set (i := 2) sc__law_words.nd rfl (Or.inl rfl) (pe_op ou_add (pu 2) (pu 3)))))))) (pss_one (ps_ret (pue_if (put_cmp (ou_eq2 hr.units) (pu 2) (pe_str) (nomark _)) (pe_non) (pe_op ou_add (pu 1) (pe_lst (pa_cons (pu 2) (pa_nil))))))))
theorem v__law_line (T : Tx K mg a d ca) (G__law_take : FnOk P w K mg base CX0 1 (a 11) (d 11) P__law_take (sp__law_take K ca))  {fa : Addr} {cdv : Value} {A : Around} {outer : List Env} {s : Shared} {H : Hp} {E : XK} (hr : Room 1 (A.deeper (envOfC "_law_line" (defScope s__law_line) s.heap.objs.size fa cdv))) :
    PSs ((cxOf CX0 P w K mg base N__law_line "_law_line" (defScope s__law_line) fa cdv A outer s H E).nox) (defBody s__law_line) (t__law_line K ca) :=
  pss_cons (ps_set (i := 1) sc__law_line.nd rfl (Or.inr rfl) (pe_str)) (pss_cons (ps_set (i := 2) sc__law_line.nd rfl (Or.inl rfl) (pe_lst (pa_nil))) (pss_cons (ps_for PassesOwn.never rfl (pi_range1 rfl T.z_range (pa_cons (pe_op ou_add (pe_int) (pe_call G__law_take (hr.mono (by decide)) rfl T.m__law_take T.f__law_take.kp T.b__law_take .nil pass0 (pa_cons (pu 0) (pa_cons (pe_int) (pa_nil))))) (pa_nil))) (pg_name (i := 3) sc__law_line.nd rfl (Or.inl rfl)) (pss_one (ps_expr (pe_bm PySem.F.plainAttrs_list PySem.F.slot_list_append PySem.F.type_list_append mu_append (pu 2) (pa_cons (pe_m1 F.slot_str_join F.type_str_join mu_join (pe_str) (pe_lc (own := [("_law_j", 7)]) (g := gName 7) (tt := tYes) (te := tOp (uIx K) (uVar 1) (tCall (sp__law_take K ca) [] E0 (tCons (uVar 0) (tCons (tCB (uLen K) (tCons (uVar 1) (tNil))) (tNil))))) rfl sc__law_line.nd (pi_range1 rfl T.z_range (pa_cons (pe_op ou_add (pe_int) (pe_call G__law_take (hr.mono (by decide)) rfl T.m__law_take T.f__law_take.kp T.b__law_take .nil pass0 (pa_cons (pu 0) (pa_cons (pe_int) (pa_nil))))) (pa_nil))) (blkOk_by (own := [("_law_j", 7)]) (N := N__law_line) (sc := defScope s__law_line) (by decide +kernel)) (fun _ _ _ _ _ => pg_name (i := 7) sc__law_line.nd rfl (Or.inl rfl)) (fun _ _ _ _ _ => pts_nil) (fun _ _ _ _ _ => pe_ix iu_ix (pu 1) (pe_call G__law_take (hr.mono (by decide)) rfl T.m__law_take T.f__law_take.kp T.b__law_take .nil pass0 (pa_cons (pu 0) (pa_cons (pe_callB cu_len rfl T.z_len (by decide +kernel) (pa_cons (pu 1) (pa_nil))) (pa_nil)))) (fun _ _ => rfl)))) (pa_nil)))))) (pss_cons (ps_set (i := 4) sc__law_line.nd rfl (Or.inl rfl) (pe_m1 F.slot_str_join F.type_str_join mu_join (pe_str) (pu 2))) (pss_cons (ps_set (i := 5) sc__law_line.nd rfl (Or.inl rfl) (pe_call G__law_take (hr.mono (by decide)) rfl T.m__law_take T.f__law_take.kp T.b__law_take .nil pass0 (pa_cons (pu 0) (pa_cons (pe_op ou_add (pe_callB cu_len rfl T.z_len (by decide +kernel) (pa_cons (pu 4) (pa_nil))) (pe_int)) (pa_nil))))) (pss_cons (ps_set (i := 6) sc__law_line.nd rfl (Or.inl rfl) (pe_lst (pa_cons (pu 4) (pa_cons (pu 4) (pa_cons (pu 4) (pa_cons (pe_op ou_add (pe_str) (pu 4)) (pa_cons (pe_op ou_add (pu 4) (pe_str)) (pa_cons (pe_op ou_add (pe_op ou_add (pe_slice su_sl (pu 4) (po_none) (pou_some (pu 5))) (pe_str)) (pe_slice su_sl (pu 4) (pou_some (pu 5)) (po_none))) (pa_cons (pe_op ou_add (pe_op ou_add (pe_slice su_sl (pu 4) (po_none) (pou_some (pu 5))) (pe_str)) (pe_slice su_sl (pu 4) (pou_some (pu 5)) (po_none))) (pa_cons (pe_str) (pa_nil))))))))))) (pss_one (ps_ret (pe_ix iu_ix (pu 6) (pe_call G__law_take (hr.mono (by decide)) rfl T.m__law_take T.f__law_take.kp T.b__law_take .nil pass0 (pa_cons (pu 0) (pa_cons (pe_int) (pa_nil)))) (fun _ _ => rfl)))))))))
theorem v_law (T : Tx K mg a d ca) (G_parse_integer : FnOk P w K mg base CX0 1 (a 7) (d 7) P_parse_integer (sp_parse_integer K ca)) (G_split_words : FnOk P w K mg base CX0 1 (a 8) (d 8) P_split_words (sp_split_words K ca)) (G__law_cell : FnOk P w K mg base CX0 1 (a 9) (d 9) P__law_cell (sp__law_cell K ca)) (G__law_box : FnOk P w K mg base CX0 1 (a 10) (d 10) P__law_box (sp__law_box K ca)) (G__law_take : FnOk P w K mg base CX0 1 (a 11) (d 11) P__law_take (sp__law_take K ca)) (G__law_marks_right : U.FnG P w K mg base CX0 6 (a 14) (d 14) P__law_marks_right (sp__law_marks_right K ca)) (G__law_text : FnOk P w K mg base CX0 2 (a 15) (d 15) P__law_text (sp__law_text K ca)) (G__law_value : FnOk P w K mg base CX0 1 (a 16) (d 16) P__law_value (sp__law_value K ca)) (G__law_number_right : U.FnG P w K mg base CX0 2 (a 17) (d 17) P__law_number_right (sp__law_number_right K ca)) (G__law_words : FnOk P w K mg base CX0 1 (a 18) (d 18) P__law_words (sp__law_words K ca)) (G__law_line : FnOk P w K mg base CX0 2 (a 19) (d 19) P__law_line (sp__law_line K ca))  {fa : Addr} {cdv : Value} {A : Around} {outer : List Env} {s : Shared} {H : Hp} {E : XK} (hgd : (A.deeper (envOfC "law" (defScope s_law) s.heap.objs.size fa cdv)).guards = some []) (hr : Room 6 (A.deeper (envOfC "law" (defScope s_law) s.heap.objs.size fa cdv))) :
    PSs ((cxOf CX0 P w K mg base N_law "law" (defScope s_law) fa cdv A outer s H E).nox) (defBody s_law) (t_law K ca) :=
  pss_cons (ps_for PassesOwn.never rfl (pi_range1 rfl T.z_range (pa_cons (pe_callB (cu_max rfl) rfl T.z_max (by decide +kernel) (pa_cons (pe_int) (pa_cons (pe_callB (cu_min rfl) rfl T.z_min (by decide +kernel) (pa_cons (pe_int) (pa_cons (pe_callB cu_len rfl T.z_len (by decide +kernel) (pa_cons (pu 0) (pa_nil))) (pa_nil)))) (pa_nil)))) (pa_nil))) (pg_name (i := 1) sc_law.nd rfl (Or.inl rfl)) (pss_cons (ps_set (i := 2) sc_law.nd rfl (Or.inl rfl) (pe_call G__law_box (hr.mono (by decide)) rfl T.m__law_box T.f__law_box.kp T.b__law_box .nil pass0 (pa_cons (pe_call G__law_cell (hr.mono (by decide)) rfl T.m__law_cell T.f__law_cell.kp T.b__law_cell .nil pass0 (pa_cons (pu 0) (pa_cons (pu 1) (pa_nil)))) (pa_nil)))) (pss_cons (ps_for PassesOwn.never rfl (pi_range1 rfl T.z_range (pa_cons (pe_int) (pa_nil))) (pg_name (i := 3) sc_law.nd rfl (Or.inl rfl)) (pss_cons (ps_set (i := 4) sc_law.nd rfl (Or.inl rfl) (pe_call G__law_text (hr.mono (by decide)) rfl T.m__law_text T.f__law_text.kp T.b__law_text .nil pass0 (pa_cons (pu 2) (pa_nil)))) (pss_cons (ps_set (i := 5) sc_law.nd rfl (Or.inl rfl) (pe_call G__law_value (hr.mono (by decide)) rfl T.m__law_value T.f__law_value.kp T.b__law_value .nil pass0 (pa_cons (pu 4) (pa_nil)))) (pss_cons (ps_set (i := 6) sc_law.nd rfl (Or.inl rfl) (pue_if (put_cmp ou_is (pu 5) (pe_non) (nomark _)) (pe_int) (pu 5))) (pss_cons (ps_set (i := 7) sc_law.nd rfl (Or.inl rfl) (pe_ix iu_ix (pe_lst (pa_cons (pe_int) (pa_cons (pe_op ou_sub (pu 6) (pe_int)) (pa_cons (pu 6) (pa_cons (pe_op ou_add (pu 6) (pe_int)) (pa_cons (pe_un ou_neg (pe_int)) (pa_nil))))))) (pe_call G__law_take (hr.mono (by decide)) rfl T.m__law_take T.f__law_take.kp T.b__law_take .nil pass0 (pa_cons (pu 2) (pa_cons (pe_int) (pa_nil)))) (fun _ _ => rfl))) (pss_cons (ps_set (i := 8) sc_law.nd rfl (Or.inl rfl) (pe_ix iu_ix (pe_lst (pa_cons (pu 6) (pa_cons (pe_op ou_sub (pu 6) (pe_int)) (pa_cons (pe_op ou_add (pu 6) (pe_int)) (pa_cons (pe_op ou_pow (pe_int) (pe_int)) (pa_cons (pe_int) (pa_nil))))))) (pe_call G__law_take (hr.mono (by decide)) rfl T.m__law_take T.f__law_take.kp T.b__law_take .nil pass0 (pa_cons (pu 2) (pa_cons (pe_int) (pa_nil)))) (fun _ _ => rfl))) (pss_cons (pus_if (PW.pt (puw_or (put_not (put_val (pe_callG G__law_marks_right hgd (hr.mono (by decide)) rfl T.m__law_marks_right T.f__law_marks_right.kp T.b__law_marks_right pass0 (pa_cons (pu 2) (pa_nil))))) (pw_or1 (put_not (put_val (pe_callG G__law_number_right hgd (hr.mono (by decide)) rfl T.m__law_number_right T.f__law_number_right.kp T.b__law_number_right pass0 (pa_cons (pu 4) (pa_cons (pu 7) (pa_cons (pu 8) (pa_nil)))))))))) (pss_one (ps_ret (pe_bl))) (pss_nil)) (pss_cons (ps_set (i := 9) sc_law.nd rfl (Or.inl rfl) (pe_call G__law_line (hr.mono (by decide)) rfl T.m__law_line T.f__law_line.kp T.b__law_line .nil pass0 (pa_cons (pu 2) (pa_nil)))) (pss_one (ps_for PassesOwn.never rfl (pi_range1 rfl T.z_range (pa_cons (pe_int) (pa_nil))) (pg_name (i := 10) sc_law.nd rfl (Or.inl rfl)) (pss_cons (ps_set (i := 11) sc_law.nd rfl (Or.inl rfl) (pe_call G_split_words (hr.mono (by decide)) rfl T.m_split_words T.f_split_words.kp T.b_split_words .nil pass0 (pa_cons (pu 9) (pa_nil)))) (pss_cons (pus_if (put_cmp (ou_ne2 hr.units) (pe_callB (cu_repr hgd hr.units) rfl T.z_repr (by decide +kernel) (pa_cons (pu 11) (pa_nil))) (pe_callB (cu_repr hgd hr.units) rfl T.z_repr (by decide +kernel) (pa_cons (pe_call G__law_words (hr.mono (by decide)) rfl T.m__law_words T.f__law_words.kp T.b__law_words .nil pass0 (pa_cons (pu 9) (pa_nil))) (pa_nil))) (nomark _)) (pss_one (ps_ret (pe_bl))) (pss_nil)) (pss_one (pus_if (put_cmp ou_isnot (pu 11) (pe_non) (nomark _)) (pss_one (ps_expr (pe_bm PySem.F.plainAttrs_list PySem.F.slot_list_append PySem.F.type_list_append mu_append (pu 11) (pa_cons (pe_str) (pa_nil))))) (pss_nil))))))))))))))) (pss_one (ps_for PassesOwn.never rfl (piu (pe_lst (pa_cons (pe_non) (pa_cons (pe_int) (pa_cons (pe_bl) (pa_cons (pe_lst (pa_cons (pe_str) (pa_nil))) (pa_cons (pe_tup (pa_cons (pe_str) (pa_nil))) (pa_cons (pe_dnewK) (pa_cons (pe_disp (pps_cons (pe_str) (pe_int) (pps_nil)) (by rfl) (by rfl) (fun z => by cases z) (by decide)) (pa_cons (pe_lst (pa_cons (pe_str) (pa_cons (pe_str) (pa_nil)))) (pa_nil))))))))))) (pg_name (i := 12) sc_law.nd rfl (Or.inl rfl)) (pss_one (pus_if (PW.pt (puw_or (put_cmp ou_isnot (pe_callE G_parse_integer (hr.mono (by decide)) rfl T.m_parse_integer T.f_parse_integer.kp T.k_parse_integer_low_high pass0 (pa_cons (pu 12) (pa_nil)) (pk_cons (pe_int) (pk_cons (pe_int) (pk_nil)))) (pe_non) (nomark _)) (pw_or1 (put_cmp ou_isnot (pe_call G_split_words (hr.mono (by decide)) rfl T.m_split_words T.f_split_words.kp T.b_split_words .nil pass0 (pa_cons (pu 12) (pa_nil))) (pe_non) (nomark _))))) (pss_one (ps_ret (pe_bl))) (pss_nil)))))))) (pss_one (ps_ret (pe_bl)))
end
section
variable {P : Program} {w : World} {K : PySem.W.Frag} {mg : Str → Option Value} {base : Heap} {a : Nat → Addr} {d : Nat → FuncData} {ca : Nat → Addr}
theorem ok_is_mark (T : Tx K mg a d ca) : FnOk P w K mg base CX0 1 (a 0) (d 0) P_is_mark (sp_is_mark K ca) :=
  T.f_is_mark.ok sc_is_mark (fun vs H Q E h => len_is_mark h) (fun cdv A outer s H vs Q E hr h => ⟨t_is_mark K ca, v_is_mark T  hr, p_is_mark T.ct h⟩)
theorem ok_all_marks (T : Tx K mg a d ca) : FnOk P w K mg base CX0 1 (a 5) (d 5) P_all_marks (sp_all_marks K ca) :=
  T.f_all_marks.ok sc_all_marks (fun vs H Q E h => len_all_marks h) (fun cdv A outer s H vs Q E hr h => ⟨t_all_marks K ca, v_all_marks T  hr, p_all_marks T.ct h⟩)
theorem ok_parse_integer (T : Tx K mg a d ca) : FnOk P w K mg base CX0 1 (a 7) (d 7) P_parse_integer (sp_parse_integer K ca) :=
  T.f_parse_integer.ok sc_parse_integer (fun vs H Q E h => len_parse_integer h) (fun cdv A outer s H vs Q E hr h => ⟨t_parse_integer K ca, (v_parse_integer T  hr).nox, p_parse_integer T.ct h⟩)
theorem ok_split_words (T : Tx K mg a d ca) : FnOk P w K mg base CX0 1 (a 8) (d 8) P_split_words (sp_split_words K ca) :=
  T.f_split_words.ok sc_split_words (fun vs H Q E h => len_split_words h) (fun cdv A outer s H vs Q E hr h => ⟨t_split_words K ca, v_split_words T  hr, p_split_words T.ct h⟩)
theorem ok__law_cell (T : Tx K mg a d ca) : FnOk P w K mg base CX0 1 (a 9) (d 9) P__law_cell (sp__law_cell K ca) :=
  T.f__law_cell.ok sc__law_cell (fun vs H Q E h => len__law_cell h) (fun cdv A outer s H vs Q E hr h => ⟨t__law_cell K ca, v__law_cell T  hr, p__law_cell T.ct h⟩)
theorem ok__law_box (T : Tx K mg a d ca) : FnOk P w K mg base CX0 1 (a 10) (d 10) P__law_box (sp__law_box K ca) :=
  T.f__law_box.ok sc__law_box (fun vs H Q E h => len__law_box h) (fun cdv A outer s H vs Q E hr h => ⟨t__law_box K ca, v__law_box T  hr, p__law_box T.ct h⟩)
theorem ok__law_take (T : Tx K mg a d ca) : FnOk P w K mg base CX0 1 (a 11) (d 11) P__law_take (sp__law_take K ca) :=
  T.f__law_take.ok sc__law_take (fun vs H Q E h => len__law_take h) (fun cdv A outer s H vs Q E hr h => ⟨t__law_take K ca, v__law_take T  hr, p__law_take T.ct h⟩)
theorem ok__law_marks (T : Tx K mg a d ca) : FnOk P w K mg base CX0 1 (a 12) (d 12) P__law_marks (sp__law_marks K ca) :=
  T.f__law_marks.ok sc__law_marks (fun vs H Q E h => len__law_marks h) (fun cdv A outer s H vs Q E hr h => ⟨t__law_marks K ca, v__law_marks T  hr, p__law_marks T.ct h⟩)
theorem ok__law_value (T : Tx K mg a d ca) : FnOk P w K mg base CX0 1 (a 16) (d 16) P__law_value (sp__law_value K ca) :=
  T.f__law_value.ok sc__law_value (fun vs H Q E h => len__law_value h) (fun cdv A outer s H vs Q E hr h => ⟨t__law_value K ca, v__law_value T  hr, p__law_value T.ct h⟩)
theorem ok__law_words (T : Tx K mg a d ca) : FnOk P w K mg base CX0 1 (a 18) (d 18) P__law_words (sp__law_words K ca) :=
  T.f__law_words.ok sc__law_words (fun vs H Q E h => len__law_words h) (fun cdv A outer s H vs Q E hr h => ⟨t__law_words K ca, v__law_words T  hr, p__law_words T.ct h⟩)
theorem ok__law_text (T : Tx K mg a d ca) : FnOk P w K mg base CX0 2 (a 15) (d 15) P__law_text (sp__law_text K ca) :=
  T.f__law_text.ok sc__law_text (fun vs H Q E h => len__law_text h) (fun cdv A outer s H vs Q E hr h => ⟨t__law_text K ca, v__law_text T (ok__law_take T) hr, p__law_text T.ct h⟩)
theorem ok__law_number_right (T : Tx K mg a d ca) : U.FnG P w K mg base CX0 2 (a 17) (d 17) P__law_number_right (sp__law_number_right K ca) :=
  U.okG T.f__law_number_right sc__law_number_right (fun vs H Q E h => len__law_number_right h) (fun cdv A outer s H vs Q E hg hr h => ⟨t__law_number_right K ca, v__law_number_right T (ok_parse_integer T) (ok__law_value T) hg hr, p__law_number_right T.ct h⟩)
theorem ok__law_line (T : Tx K mg a d ca) : FnOk P w K mg base CX0 2 (a 19) (d 19) P__law_line (sp__law_line K ca) :=
  T.f__law_line.ok sc__law_line (fun vs H Q E h => len__law_line h) (fun cdv A outer s H vs Q E hr h => ⟨t__law_line K ca, v__law_line T (ok__law_take T) hr, p__law_line T.ct h⟩)
theorem ok_need_mark (T : Tx K mg a d ca) : FnOk P w K mg base (L2.CX P w) 3 (a 1) (d 1) P_need_mark (sp_need_mark K ca) :=
  T.f_need_mark.okX sc_need_mark (fun vs H Q E h => len_need_mark h) (fun cdv A outer s H vs Q E hr h => ⟨t_need_mark K ca E, v_need_mark T (ok_is_mark T) (okI_InvalidMark T) hr, p_need_mark T.ct h⟩)
theorem ok_break_of (T : Tx K mg a d ca) : FnOk P w K mg base (L2.CX P w) 3 (a 4) (d 4) P_break_of (sp_break_of K ca) :=
  T.f_break_of.okX sc_break_of (fun vs H Q E h => len_break_of h) (fun cdv A outer s H vs Q E hr h => ⟨t_break_of K ca E, v_break_of T (okI_InvalidInteger T) (okI_InvalidMark T) hr, p_break_of T.ct h⟩)
theorem ok_kind_of (T : Tx K mg a d ca) : FnOk P w K mg base (L2.CX P w) 4 (a 2) (d 2) P_kind_of (sp_kind_of K ca) :=
  T.f_kind_of.okX sc_kind_of (fun vs H Q E h => len_kind_of h) (fun cdv A outer s H vs Q E hr h => ⟨t_kind_of K ca E, v_kind_of T (ok_need_mark T) hr, p_kind_of T.ct h⟩)
theorem ok_indent_of (T : Tx K mg a d ca) : FnOk P w K mg base (L2.CX P w) 4 (a 3) (d 3) P_indent_of (sp_indent_of K ca) :=
  T.f_indent_of.okX sc_indent_of (fun vs H Q E h => len_indent_of h) (fun cdv A outer s H vs Q E hr h => ⟨t_indent_of K ca E, v_indent_of T (ok_need_mark T) hr, p_indent_of T.ct h⟩)
theorem ok_mark_place (T : Tx K mg a d ca) : FnOk P w K mg base (L2.CX P w) 4 (a 6) (d 6) P_mark_place (sp_mark_place K ca) :=
  T.f_mark_place.okX sc_mark_place (fun vs H Q E h => len_mark_place h) (fun cdv A outer s H vs Q E hr h => ⟨t_mark_place K ca E, v_mark_place T (ok_need_mark T) hr, p_mark_place T.ct h⟩)
theorem ok__law_told (T : Tx K mg a d ca) : FnOk P w K mg base CX0 5 (a 13) (d 13) P__law_told (sp__law_told K ca) :=
  T.f__law_told.ok sc__law_told (fun vs H Q E h => len__law_told h) (fun cdv A outer s H vs Q E hr h => ⟨t__law_told K ca, v__law_told T (ok_kind_of T) (ok_indent_of T) (ok_break_of T) (ok_mark_place T) hr, p__law_told T.ct h⟩)
theorem ok__law_marks_right (T : Tx K mg a d ca) : U.FnG P w K mg base CX0 6 (a 14) (d 14) P__law_marks_right (sp__law_marks_right K ca) :=
  U.okG T.f__law_marks_right sc__law_marks_right (fun vs H Q E h => len__law_marks_right h) (fun cdv A outer s H vs Q E hg hr h => ⟨t__law_marks_right K ca, v__law_marks_right T (ok_all_marks T) (ok__law_take T) (ok__law_marks T) (ok__law_told T) hg hr, p__law_marks_right T.ct h⟩)
theorem ok_law (T : Tx K mg a d ca) : U.FnG P w K mg base CX0 7 (a 20) (d 20) P_law (sp_law K ca) :=
  U.okG T.f_law sc_law (fun vs H Q E h => len_law h) (fun cdv A outer s H vs Q E hg hr h => ⟨t_law K ca, v_law T (ok_parse_integer T) (ok_split_words T) (ok__law_cell T) (ok__law_box T) (ok__law_take T) (ok__law_marks_right T) (ok__law_text T) (ok__law_value T) (ok__law_number_right T) (ok__law_words T) (ok__law_line T) hg hr, p_law T.ct h⟩)
end
theorem all_mk {l : PySem.W.OpenLaw} {w : World} {K : PySem.W.Frag} {h : Heap} {mg : Str → Option Value} {fa : Addr} (X : K.In h) (G : h.Ns mainGlobals mg) (hfa : mg "law" = some (.ref fa))
    {f0 : Addr} {od0 an0 : Option Addr} {sl0 : Array (Option Value)} {oc0 dc0 pm0 cd0 ct0 : Value} {kV0 : Value}
    {f1 : Addr} {od1 an1 : Option Addr} {sl1 : Array (Option Value)} {oc1 dc1 pm1 cd1 ct1 : Value} {kV1 : Value}
    {f2 : Addr} {od2 an2 : Option Addr} {sl2 : Array (Option Value)} {oc2 dc2 pm2 cd2 ct2 : Value} {kV2 : Value}
    {f3 : Addr} {od3 an3 : Option Addr} {sl3 : Array (Option Value)} {oc3 dc3 pm3 cd3 ct3 : Value} {kV3 : Value}
    {f4 : Addr} {od4 an4 : Option Addr} {sl4 : Array (Option Value)} {oc4 dc4 pm4 cd4 ct4 : Value} {kV4 : Value}
    {f5 : Addr} {od5 an5 : Option Addr} {sl5 : Array (Option Value)} {oc5 dc5 pm5 cd5 ct5 : Value} {kV5 : Value}
    {f6 : Addr} {od6 an6 : Option Addr} {sl6 : Array (Option Value)} {oc6 dc6 pm6 cd6 ct6 : Value} {kV6 : Value}
    {f7 : Addr} {od7 an7 : Option Addr} {sl7 : Array (Option Value)} {oc7 dc7 pm7 cd7 ct7 : Value} {D7 : Addr}
    {kt7_0 : Tok}
    {kt7_1 : Tok}
    {f8 : Addr} {od8 an8 : Option Addr} {sl8 : Array (Option Value)} {oc8 dc8 pm8 cd8 ct8 : Value} {kV8 : Value}
    {f9 : Addr} {od9 an9 : Option Addr} {sl9 : Array (Option Value)} {oc9 dc9 pm9 cd9 ct9 : Value} {kV9 : Value}
    {f10 : Addr} {od10 an10 : Option Addr} {sl10 : Array (Option Value)} {oc10 dc10 pm10 cd10 ct10 : Value} {kV10 : Value}
    {f11 : Addr} {od11 an11 : Option Addr} {sl11 : Array (Option Value)} {oc11 dc11 pm11 cd11 ct11 : Value} {kV11 : Value}
    {f12 : Addr} {od12 an12 : Option Addr} {sl12 : Array (Option Value)} {oc12 dc12 pm12 cd12 ct12 : Value} {kV12 : Value}
    {f13 : Addr} {od13 an13 : Option Addr} {sl13 : Array (Option Value)} {oc13 dc13 pm13 cd13 ct13 : Value} {kV13 : Value}
    {f14 : Addr} {od14 an14 : Option Addr} {sl14 : Array (Option Value)} {oc14 dc14 pm14 cd14 ct14 : Value} {kV14 : Value}
    {f15 : Addr} {od15 an15 : Option Addr} {sl15 : Array (Option Value)} {oc15 dc15 pm15 cd15 ct15 : Value} {kV15 : Value}
    {f16 : Addr} {od16 an16 : Option Addr} {sl16 : Array (Option Value)} {oc16 dc16 pm16 cd16 ct16 : Value} {kV16 : Value}
    {f17 : Addr} {od17 an17 : Option Addr} {sl17 : Array (Option Value)} {oc17 dc17 pm17 cd17 ct17 : Value} {kV17 : Value}
    {f18 : Addr} {od18 an18 : Option Addr} {sl18 : Array (Option Value)} {oc18 dc18 pm18 cd18 ct18 : Value} {kV18 : Value}
    {f19 : Addr} {od19 an19 : Option Addr} {sl19 : Array (Option Value)} {oc19 dc19 pm19 cd19 ct19 : Value} {kV19 : Value}
    {f20 : Addr} {od20 an20 : Option Addr} {sl20 : Array (Option Value)} {oc20 dc20 pm20 cd20 ct20 : Value} {kV20 : Value}
    {C0 : Addr}
    {C2 : Addr}
    {C3 : Addr}
    {nm2 q2 : Str} {NN2 : Addr} {bs2 : List Value} {sn2 : List Str} {sub2 : List Value} {ab2 : Bool} {col2 : Option Bool} {dd2 : Option Addr} {m02 m12 m22 m32 m52 : Option Value}
    {f21 : Addr} {od21 an21 : Option Addr} {sl21 : Array (Option Value)} {oc21 kV21 dc21 pm21 cd21 ct21 : Value}
    {nm3 q3 : Str} {NN3 : Addr} {bs3 : List Value} {sn3 : List Str} {sub3 : List Value} {ab3 : Bool} {col3 : Option Bool} {dd3 : Option Addr} {m03 m13 m23 m33 m53 : Option Value}
    {f22 : Addr} {od22 an22 : Option Addr} {sl22 : Array (Option Value)} {oc22 kV22 dc22 pm22 cd22 ct22 : Value}
    {tk0 : Tok}
    {tk1 : Tok}
    (a0 : PySem.W.nsIn K mainGlobals "is_mark" = some (some (.ref f0)))
    (l0 : K.lookup f0 = some ⟨oc0, od0, .func (PySem.W.fnOf "is_mark" "is_mark" (defArgs s_is_mark) (defBody s_is_mark) (defScope s_is_mark) .none kV0 dc0 pm0 an0 cd0 ct0), sl0⟩)
    (c0 : PySem.W.codeIn K cd0 "is_mark" = true)
    (k0 : PySem.W.keepIn K (.ref f0) = true)
    (a1 : PySem.W.nsIn K mainGlobals "need_mark" = some (some (.ref f1)))
    (l1 : K.lookup f1 = some ⟨oc1, od1, .func (PySem.W.fnOf "need_mark" "need_mark" (defArgs s_need_mark) (defBody s_need_mark) (defScope s_need_mark) .none kV1 dc1 pm1 an1 cd1 ct1), sl1⟩)
    (c1 : PySem.W.codeIn K cd1 "need_mark" = true)
    (k1 : PySem.W.keepIn K (.ref f1) = true)
    (a2 : PySem.W.nsIn K mainGlobals "kind_of" = some (some (.ref f2)))
    (l2 : K.lookup f2 = some ⟨oc2, od2, .func (PySem.W.fnOf "kind_of" "kind_of" (defArgs s_kind_of) (defBody s_kind_of) (defScope s_kind_of) .none kV2 dc2 pm2 an2 cd2 ct2), sl2⟩)
    (c2 : PySem.W.codeIn K cd2 "kind_of" = true)
    (k2 : PySem.W.keepIn K (.ref f2) = true)
    (a3 : PySem.W.nsIn K mainGlobals "indent_of" = some (some (.ref f3)))
    (l3 : K.lookup f3 = some ⟨oc3, od3, .func (PySem.W.fnOf "indent_of" "indent_of" (defArgs s_indent_of) (defBody s_indent_of) (defScope s_indent_of) .none kV3 dc3 pm3 an3 cd3 ct3), sl3⟩)
    (c3 : PySem.W.codeIn K cd3 "indent_of" = true)
    (k3 : PySem.W.keepIn K (.ref f3) = true)
    (a4 : PySem.W.nsIn K mainGlobals "break_of" = some (some (.ref f4)))
    (l4 : K.lookup f4 = some ⟨oc4, od4, .func (PySem.W.fnOf "break_of" "break_of" (defArgs s_break_of) (defBody s_break_of) (defScope s_break_of) .none kV4 dc4 pm4 an4 cd4 ct4), sl4⟩)
    (c4 : PySem.W.codeIn K cd4 "break_of" = true)
    (k4 : PySem.W.keepIn K (.ref f4) = true)
    (a5 : PySem.W.nsIn K mainGlobals "all_marks" = some (some (.ref f5)))
    (l5 : K.lookup f5 = some ⟨oc5, od5, .func (PySem.W.fnOf "all_marks" "all_marks" (defArgs s_all_marks) (defBody s_all_marks) (defScope s_all_marks) .none kV5 dc5 pm5 an5 cd5 ct5), sl5⟩)
    (c5 : PySem.W.codeIn K cd5 "all_marks" = true)
    (k5 : PySem.W.keepIn K (.ref f5) = true)
    (a6 : PySem.W.nsIn K mainGlobals "mark_place" = some (some (.ref f6)))
    (l6 : K.lookup f6 = some ⟨oc6, od6, .func (PySem.W.fnOf "mark_place" "mark_place" (defArgs s_mark_place) (defBody s_mark_place) (defScope s_mark_place) .none kV6 dc6 pm6 an6 cd6 ct6), sl6⟩)
    (c6 : PySem.W.codeIn K cd6 "mark_place" = true)
    (k6 : PySem.W.keepIn K (.ref f6) = true)
    (a7 : PySem.W.nsIn K mainGlobals "parse_integer" = some (some (.ref f7)))
    (l7 : K.lookup f7 = some ⟨oc7, od7, .func (PySem.W.fnOf "parse_integer" "parse_integer" (defArgs s_parse_integer) (defBody s_parse_integer) (defScope s_parse_integer) .none (.ref D7) dc7 pm7 an7 cd7 ct7), sl7⟩)
    (c7 : PySem.W.codeIn K cd7 "parse_integer" = true)
    (k7 : PySem.W.keepIn K (.ref f7) = true)
    (d7_0 : PySem.W.nsIn K D7 "low" = some (some (.int 0 kt7_0)))
    (d7_1 : PySem.W.nsIn K D7 "high" = some (some (.int 999 kt7_1)))
    (a8 : PySem.W.nsIn K mainGlobals "split_words" = some (some (.ref f8)))
    (l8 : K.lookup f8 = some ⟨oc8, od8, .func (PySem.W.fnOf "split_words" "split_words" (defArgs s_split_words) (defBody s_split_words) (defScope s_split_words) .none kV8 dc8 pm8 an8 cd8 ct8), sl8⟩)
    (c8 : PySem.W.codeIn K cd8 "split_words" = true)
    (k8 : PySem.W.keepIn K (.ref f8) = true)
    (a9 : PySem.W.nsIn K mainGlobals "_law_cell" = some (some (.ref f9)))
    (l9 : K.lookup f9 = some ⟨oc9, od9, .func (PySem.W.fnOf "_law_cell" "_law_cell" (defArgs s__law_cell) (defBody s__law_cell) (defScope s__law_cell) .none kV9 dc9 pm9 an9 cd9 ct9), sl9⟩)
    (c9 : PySem.W.codeIn K cd9 "_law_cell" = true)
    (k9 : PySem.W.keepIn K (.ref f9) = true)
    (a10 : PySem.W.nsIn K mainGlobals "_law_box" = some (some (.ref f10)))
    (l10 : K.lookup f10 = some ⟨oc10, od10, .func (PySem.W.fnOf "_law_box" "_law_box" (defArgs s__law_box) (defBody s__law_box) (defScope s__law_box) .none kV10 dc10 pm10 an10 cd10 ct10), sl10⟩)
    (c10 : PySem.W.codeIn K cd10 "_law_box" = true)
    (k10 : PySem.W.keepIn K (.ref f10) = true)
    (a11 : PySem.W.nsIn K mainGlobals "_law_take" = some (some (.ref f11)))
    (l11 : K.lookup f11 = some ⟨oc11, od11, .func (PySem.W.fnOf "_law_take" "_law_take" (defArgs s__law_take) (defBody s__law_take) (defScope s__law_take) .none kV11 dc11 pm11 an11 cd11 ct11), sl11⟩)
    (c11 : PySem.W.codeIn K cd11 "_law_take" = true)
    (k11 : PySem.W.keepIn K (.ref f11) = true)
    (a12 : PySem.W.nsIn K mainGlobals "_law_marks" = some (some (.ref f12)))
    (l12 : K.lookup f12 = some ⟨oc12, od12, .func (PySem.W.fnOf "_law_marks" "_law_marks" (defArgs s__law_marks) (defBody s__law_marks) (defScope s__law_marks) .none kV12 dc12 pm12 an12 cd12 ct12), sl12⟩)
    (c12 : PySem.W.codeIn K cd12 "_law_marks" = true)
    (k12 : PySem.W.keepIn K (.ref f12) = true)
    (a13 : PySem.W.nsIn K mainGlobals "_law_told" = some (some (.ref f13)))
    (l13 : K.lookup f13 = some ⟨oc13, od13, .func (PySem.W.fnOf "_law_told" "_law_told" (defArgs s__law_told) (defBody s__law_told) (defScope s__law_told) .none kV13 dc13 pm13 an13 cd13 ct13), sl13⟩)
    (c13 : PySem.W.codeIn K cd13 "_law_told" = true)
    (k13 : PySem.W.keepIn K (.ref f13) = true)
    (a14 : PySem.W.nsIn K mainGlobals "_law_marks_right" = some (some (.ref f14)))
    (l14 : K.lookup f14 = some ⟨oc14, od14, .func (PySem.W.fnOf "_law_marks_right" "_law_marks_right" (defArgs s__law_marks_right) (defBody s__law_marks_right) (defScope s__law_marks_right) .none kV14 dc14 pm14 an14 cd14 ct14), sl14⟩)
    (c14 : PySem.W.codeIn K cd14 "_law_marks_right" = true)
    (k14 : PySem.W.keepIn K (.ref f14) = true)
    (a15 : PySem.W.nsIn K mainGlobals "_law_text" = some (some (.ref f15)))
    (l15 : K.lookup f15 = some ⟨oc15, od15, .func (PySem.W.fnOf "_law_text" "_law_text" (defArgs s__law_text) (defBody s__law_text) (defScope s__law_text) .none kV15 dc15 pm15 an15 cd15 ct15), sl15⟩)
    (c15 : PySem.W.codeIn K cd15 "_law_text" = true)
    (k15 : PySem.W.keepIn K (.ref f15) = true)
    (a16 : PySem.W.nsIn K mainGlobals "_law_value" = some (some (.ref f16)))
    (l16 : K.lookup f16 = some ⟨oc16, od16, .func (PySem.W.fnOf "_law_value" "_law_value" (defArgs s__law_value) (defBody s__law_value) (defScope s__law_value) .none kV16 dc16 pm16 an16 cd16 ct16), sl16⟩)
    (c16 : PySem.W.codeIn K cd16 "_law_value" = true)
    (k16 : PySem.W.keepIn K (.ref f16) = true)
    (a17 : PySem.W.nsIn K mainGlobals "_law_number_right" = some (some (.ref f17)))
    (l17 : K.lookup f17 = some ⟨oc17, od17, .func (PySem.W.fnOf "_law_number_right" "_law_number_right" (defArgs s__law_number_right) (defBody s__law_number_right) (defScope s__law_number_right) .none kV17 dc17 pm17 an17 cd17 ct17), sl17⟩)
    (c17 : PySem.W.codeIn K cd17 "_law_number_right" = true)
    (k17 : PySem.W.keepIn K (.ref f17) = true)
    (a18 : PySem.W.nsIn K mainGlobals "_law_words" = some (some (.ref f18)))
    (l18 : K.lookup f18 = some ⟨oc18, od18, .func (PySem.W.fnOf "_law_words" "_law_words" (defArgs s__law_words) (defBody s__law_words) (defScope s__law_words) .none kV18 dc18 pm18 an18 cd18 ct18), sl18⟩)
    (c18 : PySem.W.codeIn K cd18 "_law_words" = true)
    (k18 : PySem.W.keepIn K (.ref f18) = true)
    (a19 : PySem.W.nsIn K mainGlobals "_law_line" = some (some (.ref f19)))
    (l19 : K.lookup f19 = some ⟨oc19, od19, .func (PySem.W.fnOf "_law_line" "_law_line" (defArgs s__law_line) (defBody s__law_line) (defScope s__law_line) .none kV19 dc19 pm19 an19 cd19 ct19), sl19⟩)
    (c19 : PySem.W.codeIn K cd19 "_law_line" = true)
    (k19 : PySem.W.keepIn K (.ref f19) = true)
    (a20 : PySem.W.nsIn K mainGlobals "law" = some (some (.ref f20)))
    (l20 : K.lookup f20 = some ⟨oc20, od20, .func (PySem.W.fnOf "law" "law" (defArgs s_law) (defBody s_law) (defScope s_law) .none kV20 dc20 pm20 an20 cd20 ct20), sl20⟩)
    (c20 : PySem.W.codeIn K cd20 "law" = true)
    (k20 : PySem.W.keepIn K (.ref f20) = true)
    (gC0 : PySem.W.nsIn K mainGlobals "ReflowError" = some (some (.ref C0)))
    (gC2 : PySem.W.nsIn K mainGlobals "InvalidMark" = some (some (.ref C2)))
    (gC3 : PySem.W.nsIn K mainGlobals "InvalidInteger" = some (some (.ref C3)))
    (bg0 : PySem.W.specialIn K (.ref C0) "__getattribute__" = some (some (.builtin "type.__getattribute__")))
    (br0 : PySem.W.readsIn K C0 (.type "type") = true)
    (bf0 : PySem.W.findCls K (.ref C0) (.type "type") "__init__" = some (.val (.builtin "ValueError.__init__")))
    (xL2 : K.lookup C2 = some (excClassObj nm2 q2 C2 NN2 bs2 [.ref C0, .type "ValueError", .type "Exception", .type "BaseException", .type "object"] true sn2 sub2 ab2 col2 dd2 m02 m12 m22 m32 m52 "ValueError.__new__"))
    (sa2 : PySem.W.findIn K (.ref C2) "__setattr__" = some (some (.builtin "object.__setattr__")))
    (ga2 : PySem.W.findIn K (.ref C2) "__getattribute__" = some (some (.builtin "BaseException.__getattribute__")))
    (gg2 : PySem.W.findIn K (.ref C2) "__getattr__" = some none)
    (nb2 : PySem.W.findIn K (.ref C2) "value" = some none)
    (ai2 : PySem.W.findIn K (.ref C2) "__init__" = some (some (.ref f21)))
    (ti2 : PySem.W.typeIn K (.ref f21) = some (.type "function"))
    (l21 : K.lookup f21 = some ⟨oc21, od21, .func (PySem.W.fnOf "__init__" "InvalidMark.__init__" (defArgs sI_InvalidMark) (defBody sI_InvalidMark) (defScope sI_InvalidMark) .none kV21 dc21 pm21 an21 cd21 ct21), sl21⟩)
    (c21 : PySem.W.codeIn K cd21 "InvalidMark.__init__" = true)
    (k21 : PySem.W.keepIn K (.ref f21) = true)
    (kC2 : PySem.W.keepIn K (.ref C2) = true)
    (eC2 : PySem.W.subIn K (.ref C2) (.type "BaseException") = some true)
    (tC2 : PySem.W.typeIn K (.ref C2) = some (.type "type"))
    (hC2 : PySem.W.hasDictIn K C2 = true)
    (iC2 : PySem.W.isClsIn K C2 = true)
    (xL3 : K.lookup C3 = some (excClassObj nm3 q3 C3 NN3 bs3 [.ref C0, .type "ValueError", .type "Exception", .type "BaseException", .type "object"] true sn3 sub3 ab3 col3 dd3 m03 m13 m23 m33 m53 "ValueError.__new__"))
    (sa3 : PySem.W.findIn K (.ref C3) "__setattr__" = some (some (.builtin "object.__setattr__")))
    (ga3 : PySem.W.findIn K (.ref C3) "__getattribute__" = some (some (.builtin "BaseException.__getattribute__")))
    (gg3 : PySem.W.findIn K (.ref C3) "__getattr__" = some none)
    (nb3 : PySem.W.findIn K (.ref C3) "value" = some none)
    (ai3 : PySem.W.findIn K (.ref C3) "__init__" = some (some (.ref f22)))
    (ti3 : PySem.W.typeIn K (.ref f22) = some (.type "function"))
    (l22 : K.lookup f22 = some ⟨oc22, od22, .func (PySem.W.fnOf "__init__" "InvalidInteger.__init__" (defArgs sI_InvalidInteger) (defBody sI_InvalidInteger) (defScope sI_InvalidInteger) .none kV22 dc22 pm22 an22 cd22 ct22), sl22⟩)
    (c22 : PySem.W.codeIn K cd22 "InvalidInteger.__init__" = true)
    (k22 : PySem.W.keepIn K (.ref f22) = true)
    (kC3 : PySem.W.keepIn K (.ref C3) = true)
    (eC3 : PySem.W.subIn K (.ref C3) (.type "BaseException") = some true)
    (tC3 : PySem.W.typeIn K (.ref C3) = some (.type "type"))
    (hC3 : PySem.W.hasDictIn K C3 = true)
    (iC3 : PySem.W.isClsIn K C3 = true)
    (s3_3 : PySem.W.subIn K (.ref C3) (.ref C3) = some true)
    (s3_2 : PySem.W.subIn K (.ref C3) (.ref C2) = some false)
    (s2_3 : PySem.W.subIn K (.ref C2) (.ref C3) = some false)
    (s2_2 : PySem.W.subIn K (.ref C2) (.ref C2) = some true)
    (z0 : PySem.W.nsIn K mainGlobals "all" = some none)
    (z1 : PySem.W.nsIn K mainGlobals "bool" = some none)
    (z2 : PySem.W.nsIn K mainGlobals "int" = some none)
    (z3 : PySem.W.nsIn K mainGlobals "isinstance" = some none)
    (z4 : PySem.W.nsIn K mainGlobals "len" = some none)
    (z5 : PySem.W.nsIn K mainGlobals "max" = some none)
    (z6 : PySem.W.nsIn K mainGlobals "min" = some none)
    (z7 : PySem.W.nsIn K mainGlobals "range" = some none)
    (z8 : PySem.W.nsIn K mainGlobals "repr" = some none)
    (z9 : PySem.W.nsIn K mainGlobals "str" = some none)
    (q_0 : PySem.W.nsIn K mainGlobals "KINDS" = some (some (.str "#|/" tk0)))
    (q_1 : PySem.W.nsIn K mainGlobals "MOST_INDENT" = some (some (.int (3) tk1)))
    : ∃ (ca : Nat → Addr) (fd : FuncData), (∀ (s : Shared) (v : Value), BindsTo s fd ⟨[v], []⟩ [("_law_script", v)]) ∧ ∀ base : Heap, K.In base → base.Ns mainGlobals mg → U.FnG l.prog w K mg base CX0 7 fa fd ["_law_script"] (sp_law K ca) := by
  have e := hfa.symm.trans (PySem.W.mg_of X G a20)
  cases e
  have F0 := fun_mk (st := s_is_mark) l0 c0 k0
  have b0 := F0.binds (ps := P_is_mark) fun _ _ _ _ _ _ us hl => match us, hl with | [_], _ => rfl
  have F1 := fun_mk (st := s_need_mark) l1 c1 k1
  have b1 := F1.binds (ps := P_need_mark) fun _ _ _ _ _ _ us hl => match us, hl with | [_], _ => rfl
  have F2 := fun_mk (st := s_kind_of) l2 c2 k2
  have b2 := F2.binds (ps := P_kind_of) fun _ _ _ _ _ _ us hl => match us, hl with | [_], _ => rfl
  have F3 := fun_mk (st := s_indent_of) l3 c3 k3
  have b3 := F3.binds (ps := P_indent_of) fun _ _ _ _ _ _ us hl => match us, hl with | [_], _ => rfl
  have F4 := fun_mk (st := s_break_of) l4 c4 k4
  have b4 := F4.binds (ps := P_break_of) fun _ _ _ _ _ _ us hl => match us, hl with | [_, _], _ => rfl
  have F5 := fun_mk (st := s_all_marks) l5 c5 k5
  have b5 := F5.binds (ps := P_all_marks) fun _ _ _ _ _ _ us hl => match us, hl with | [], _ => rfl
  have F6 := fun_mk (st := s_mark_place) l6 c6 k6
  have b6 := F6.binds (ps := P_mark_place) fun _ _ _ _ _ _ us hl => match us, hl with | [_], _ => rfl
  have F7 : FunD K "parse_integer" "parse_integer" (defArgs s_parse_integer) (defBody s_parse_integer) (defScope s_parse_integer) [] [("low", .int 0), ("high", .int 999)] f7 (PySem.W.fnOf "parse_integer" "parse_integer" (defArgs s_parse_integer) (defBody s_parse_integer) (defScope s_parse_integer) .none (.ref D7) dc7 pm7 an7 cd7 ct7) := ⟨⟨oc7, od7, .none, .ref D7, dc7, pm7, an7, cd7, ct7, sl7, rfl, l7, c7, .inl ⟨rfl, rfl⟩, .inr ⟨D7, rfl, List.forall_mem_cons.mpr ⟨⟨_, d7_0, ⟨_, rfl⟩⟩, List.forall_mem_cons.mpr ⟨⟨_, d7_1, ⟨_, rfl⟩⟩, fun _ hh => nomatch hh⟩⟩⟩⟩, k7⟩
  have b7 := F7.binds0 (ps := P_parse_integer) 1 (by decide) rfl fun _ _ _ _ _ _ us ks h1 h2 => match us, ks, h1, h2 with | [_], [_, _], _, _ => ⟨_, _, _, _, _, _, rfl, rfl, _, _, _, _, _, _, rfl, rfl, rfl⟩
  have kb7_high := F7.kbinds0 (ps := P_parse_integer) 1 ["high"] [("low", .int 0)] (fun {α} => g_parse_integer_high (α := α)) (by decide) (by decide) (fun r1 r2 r3 => by unfold g_parse_integer_high; repeat (first | exact r1 | apply Vals.append | apply Vals.take | apply Vals.drop | exact r2 | exact r3)) fun _ _ _ _ _ _ us mv ws h1 h2 h3 => match us, mv, ws, h1, h2, h3 with | [_], [_], [_], _, _, _ => ⟨_, _, _, _, _, _, rfl, rfl, rfl⟩
  have kb7_low := F7.kbinds0 (ps := P_parse_integer) 1 ["low"] [("high", .int 999)] (fun {α} => g_parse_integer_low (α := α)) (by decide) (by decide) (fun r1 r2 r3 => by unfold g_parse_integer_low; repeat (first | exact r1 | apply Vals.append | apply Vals.take | apply Vals.drop | exact r2 | exact r3)) fun _ _ _ _ _ _ us mv ws h1 h2 h3 => match us, mv, ws, h1, h2, h3 with | [_], [_], [_], _, _, _ => ⟨_, _, _, _, _, _, rfl, rfl, rfl⟩
  have kb7_low_high := F7.kbinds0 (ps := P_parse_integer) 1 ["low", "high"] [] (fun {α} => g_parse_integer_low_high (α := α)) (by decide) (by decide) (fun r1 r2 r3 => by unfold g_parse_integer_low_high; repeat (first | exact r1 | apply Vals.append | apply Vals.take | apply Vals.drop | exact r2 | exact r3)) fun _ _ _ _ _ _ us mv ws h1 h2 h3 => match us, mv, ws, h1, h2, h3 with | [_], [], [_, _], _, _, _ => rfl
  have F8 := fun_mk (st := s_split_words) l8 c8 k8
  have b8 := F8.binds (ps := P_split_words) fun _ _ _ _ _ _ us hl => match us, hl with | [_], _ => rfl
  have F9 := fun_mk (st := s__law_cell) l9 c9 k9
  have b9 := F9.binds (ps := P__law_cell) fun _ _ _ _ _ _ us hl => match us, hl with | [_, _], _ => rfl
  have F10 := fun_mk (st := s__law_box) l10 c10 k10
  have b10 := F10.binds (ps := P__law_box) fun _ _ _ _ _ _ us hl => match us, hl with | [_], _ => rfl
  have F11 := fun_mk (st := s__law_take) l11 c11 k11
  have b11 := F11.binds (ps := P__law_take) fun _ _ _ _ _ _ us hl => match us, hl with | [_, _], _ => rfl
  have F12 := fun_mk (st := s__law_marks) l12 c12 k12
  have b12 := F12.binds (ps := P__law_marks) fun _ _ _ _ _ _ us hl => match us, hl with | [], _ => rfl
  have F13 := fun_mk (st := s__law_told) l13 c13 k13
  have b13 := F13.binds (ps := P__law_told) fun _ _ _ _ _ _ us hl => match us, hl with | [_, _, _], _ => rfl
  have F14 := fun_mk (st := s__law_marks_right) l14 c14 k14
  have b14 := F14.binds (ps := P__law_marks_right) fun _ _ _ _ _ _ us hl => match us, hl with | [_], _ => rfl
  have F15 := fun_mk (st := s__law_text) l15 c15 k15
  have b15 := F15.binds (ps := P__law_text) fun _ _ _ _ _ _ us hl => match us, hl with | [_], _ => rfl
  have F16 := fun_mk (st := s__law_value) l16 c16 k16
  have b16 := F16.binds (ps := P__law_value) fun _ _ _ _ _ _ us hl => match us, hl with | [_], _ => rfl
  have F17 := fun_mk (st := s__law_number_right) l17 c17 k17
  have b17 := F17.binds (ps := P__law_number_right) fun _ _ _ _ _ _ us hl => match us, hl with | [_, _, _], _ => rfl
  have F18 := fun_mk (st := s__law_words) l18 c18 k18
  have b18 := F18.binds (ps := P__law_words) fun _ _ _ _ _ _ us hl => match us, hl with | [_], _ => rfl
  have F19 := fun_mk (st := s__law_line) l19 c19 k19
  have b19 := F19.binds (ps := P__law_line) fun _ _ _ _ _ _ us hl => match us, hl with | [_], _ => rfl
  have F20 := fun_mk (st := s_law) l20 c20 k20
  have b20 := F20.binds (ps := P_law) fun _ _ _ _ _ _ us hl => match us, hl with | [_], _ => rfl
  have F21 := fun_mk (st := sI_InvalidMark) l21 c21 k21
  have b21 := F21.binds (ps := ["self", "value"]) fun _ _ _ _ _ _ us hl => match us, hl with | [_, _], _ => rfl
  have F22 := fun_mk (st := sI_InvalidInteger) l22 c22 k22
  have b22 := F22.binds (ps := ["self", "value"]) fun _ _ _ _ _ _ us hl => match us, hl with | [_, _], _ => rfl
  have T : Tx K mg (fun i => ([f0, f1, f2, f3, f4, f5, f6, f7, f8, f9, f10, f11, f12, f13, f14, f15, f16, f17, f18, f19, fa, f21, f22] : List Addr).getD i 0) (fun i => ([PySem.W.fnOf "is_mark" "is_mark" (defArgs s_is_mark) (defBody s_is_mark) (defScope s_is_mark) .none kV0 dc0 pm0 an0 cd0 ct0, PySem.W.fnOf "need_mark" "need_mark" (defArgs s_need_mark) (defBody s_need_mark) (defScope s_need_mark) .none kV1 dc1 pm1 an1 cd1 ct1, PySem.W.fnOf "kind_of" "kind_of" (defArgs s_kind_of) (defBody s_kind_of) (defScope s_kind_of) .none kV2 dc2 pm2 an2 cd2 ct2, PySem.W.fnOf "indent_of" "indent_of" (defArgs s_indent_of) (defBody s_indent_of) (defScope s_indent_of) .none kV3 dc3 pm3 an3 cd3 ct3, PySem.W.fnOf "break_of" "break_of" (defArgs s_break_of) (defBody s_break_of) (defScope s_break_of) .none kV4 dc4 pm4 an4 cd4 ct4, PySem.W.fnOf "all_marks" "all_marks" (defArgs s_all_marks) (defBody s_all_marks) (defScope s_all_marks) .none kV5 dc5 pm5 an5 cd5 ct5, PySem.W.fnOf "mark_place" "mark_place" (defArgs s_mark_place) (defBody s_mark_place) (defScope s_mark_place) .none kV6 dc6 pm6 an6 cd6 ct6, PySem.W.fnOf "parse_integer" "parse_integer" (defArgs s_parse_integer) (defBody s_parse_integer) (defScope s_parse_integer) .none (.ref D7) dc7 pm7 an7 cd7 ct7, PySem.W.fnOf "split_words" "split_words" (defArgs s_split_words) (defBody s_split_words) (defScope s_split_words) .none kV8 dc8 pm8 an8 cd8 ct8, PySem.W.fnOf "_law_cell" "_law_cell" (defArgs s__law_cell) (defBody s__law_cell) (defScope s__law_cell) .none kV9 dc9 pm9 an9 cd9 ct9, PySem.W.fnOf "_law_box" "_law_box" (defArgs s__law_box) (defBody s__law_box) (defScope s__law_box) .none kV10 dc10 pm10 an10 cd10 ct10, PySem.W.fnOf "_law_take" "_law_take" (defArgs s__law_take) (defBody s__law_take) (defScope s__law_take) .none kV11 dc11 pm11 an11 cd11 ct11, PySem.W.fnOf "_law_marks" "_law_marks" (defArgs s__law_marks) (defBody s__law_marks) (defScope s__law_marks) .none kV12 dc12 pm12 an12 cd12 ct12, PySem.W.fnOf "_law_told" "_law_told" (defArgs s__law_told) (defBody s__law_told) (defScope s__law_told) .none kV13 dc13 pm13 an13 cd13 ct13, PySem.W.fnOf "_law_marks_right" "_law_marks_right" (defArgs s__law_marks_right) (defBody s__law_marks_right) (defScope s__law_marks_right) .none kV14 dc14 pm14 an14 cd14 ct14, PySem.W.fnOf "_law_text" "_law_text" (defArgs s__law_text) (defBody s__law_text) (defScope s__law_text) .none kV15 dc15 pm15 an15 cd15 ct15, PySem.W.fnOf "_law_value" "_law_value" (defArgs s__law_value) (defBody s__law_value) (defScope s__law_value) .none kV16 dc16 pm16 an16 cd16 ct16, PySem.W.fnOf "_law_number_right" "_law_number_right" (defArgs s__law_number_right) (defBody s__law_number_right) (defScope s__law_number_right) .none kV17 dc17 pm17 an17 cd17 ct17, PySem.W.fnOf "_law_words" "_law_words" (defArgs s__law_words) (defBody s__law_words) (defScope s__law_words) .none kV18 dc18 pm18 an18 cd18 ct18, PySem.W.fnOf "_law_line" "_law_line" (defArgs s__law_line) (defBody s__law_line) (defScope s__law_line) .none kV19 dc19 pm19 an19 cd19 ct19, PySem.W.fnOf "law" "law" (defArgs s_law) (defBody s_law) (defScope s_law) .none kV20 dc20 pm20 an20 cd20 ct20, PySem.W.fnOf "__init__" "InvalidMark.__init__" (defArgs sI_InvalidMark) (defBody sI_InvalidMark) (defScope sI_InvalidMark) .none kV21 dc21 pm21 an21 cd21 ct21, PySem.W.fnOf "__init__" "InvalidInteger.__init__" (defArgs sI_InvalidInteger) (defBody sI_InvalidInteger) (defScope sI_InvalidInteger) .none kV22 dc22 pm22 an22 cd22 ct22] : List FuncData).getD i (PySem.W.fnOf "law" "law" (defArgs s_law) (defBody s_law) (defScope s_law) .none kV20 dc20 pm20 an20 cd20 ct20)) (fun i => ([C0, 0, C2, C3] : List Addr).getD i 0) := {
    ct := { yes := trivial, x_InvalidMark := ⟨ga2, gg2, eC2, hC2⟩, n_InvalidMark := nb2, x_InvalidInteger := ⟨ga3, gg3, eC3, hC3⟩, n_InvalidInteger := nb3, e_InvalidInteger_InvalidInteger := U.exm_of eC3 iC3 tC3 s3_3, e_InvalidInteger_InvalidMark := U.exm_of eC2 iC2 tC2 s3_2, e_InvalidMark_InvalidInteger := U.exm_of eC3 iC3 tC3 s2_3, e_InvalidMark_InvalidMark := U.exm_of eC2 iC2 tC2 s2_2 },
    f_is_mark := F0, m_is_mark := PySem.W.mg_of X G a0, b_is_mark := b0,
    f_need_mark := F1, m_need_mark := PySem.W.mg_of X G a1, b_need_mark := b1,
    f_kind_of := F2, m_kind_of := PySem.W.mg_of X G a2, b_kind_of := b2,
    f_indent_of := F3, m_indent_of := PySem.W.mg_of X G a3, b_indent_of := b3,
    f_break_of := F4, m_break_of := PySem.W.mg_of X G a4, b_break_of := b4,
    f_all_marks := F5, m_all_marks := PySem.W.mg_of X G a5, b_all_marks := b5,
    f_mark_place := F6, m_mark_place := PySem.W.mg_of X G a6, b_mark_place := b6,
    f_parse_integer := F7, m_parse_integer := PySem.W.mg_of X G a7, b_parse_integer := b7,
    k_parse_integer_high := kb7_high.elim fun _ h => ⟨_, h⟩,
    k_parse_integer_low := kb7_low.elim fun _ h => ⟨_, h⟩,
    k_parse_integer_low_high := kb7_low_high.elim fun _ h => ⟨_, h⟩,
    f_split_words := F8, m_split_words := PySem.W.mg_of X G a8, b_split_words := b8,
    f__law_cell := F9, m__law_cell := PySem.W.mg_of X G a9, b__law_cell := b9,
    f__law_box := F10, m__law_box := PySem.W.mg_of X G a10, b__law_box := b10,
    f__law_take := F11, m__law_take := PySem.W.mg_of X G a11, b__law_take := b11,
    f__law_marks := F12, m__law_marks := PySem.W.mg_of X G a12, b__law_marks := b12,
    f__law_told := F13, m__law_told := PySem.W.mg_of X G a13, b__law_told := b13,
    f__law_marks_right := F14, m__law_marks_right := PySem.W.mg_of X G a14, b__law_marks_right := b14,
    f__law_text := F15, m__law_text := PySem.W.mg_of X G a15, b__law_text := b15,
    f__law_value := F16, m__law_value := PySem.W.mg_of X G a16, b__law_value := b16,
    f__law_number_right := F17, m__law_number_right := PySem.W.mg_of X G a17, b__law_number_right := b17,
    f__law_words := F18, m__law_words := PySem.W.mg_of X G a18, b__law_words := b18,
    f__law_line := F19, m__law_line := PySem.W.mg_of X G a19, b__law_line := b19,
    f_law := F20, m_law := PySem.W.mg_of X G a20, b_law := b20,
    x_InvalidMark := ⟨PySem.W.mg_of X G gC2, ⟨⟨_, _, _, _, _, _, _, _, _, _, _, _, _, _, _, xL2, rfl⟩, sa2, eC2, tC2, kC2⟩, ai2, ti2, nb2, ⟨ga2, gg2, eC2, hC2⟩, iC2⟩,
    F_InvalidMark := F21, i_InvalidMark := b21, m_InvalidMark := PySem.W.mg_of X G gC2,
    x_InvalidInteger := ⟨PySem.W.mg_of X G gC3, ⟨⟨_, _, _, _, _, _, _, _, _, _, _, _, _, _, _, xL3, rfl⟩, sa3, eC3, tC3, kC3⟩, ai3, ti3, nb3, ⟨ga3, gg3, eC3, hC3⟩, iC3⟩,
    F_InvalidInteger := F22, i_InvalidInteger := b22, m_InvalidInteger := PySem.W.mg_of X G gC3,
    y_ReflowError := ⟨bg0, _, br0, bf0⟩, w_ReflowError := PySem.W.mg_of X G gC0,
    z_all := PySem.W.mg_none_of X G z0,
    z_bool := PySem.W.mg_none_of X G z1,
    z_int := PySem.W.mg_none_of X G z2,
    z_isinstance := PySem.W.mg_none_of X G z3,
    z_len := PySem.W.mg_none_of X G z4,
    z_max := PySem.W.mg_none_of X G z5,
    z_min := PySem.W.mg_none_of X G z6,
    z_range := PySem.W.mg_none_of X G z7,
    z_repr := PySem.W.mg_none_of X G z8,
    z_str := PySem.W.mg_none_of X G z9,
    c_KINDS := ⟨_, PySem.W.mg_of X G q_0⟩,
    c_MOST_INDENT := ⟨_, PySem.W.mg_of X G q_1⟩ }
  exact ⟨_, _, fun s v => .of_eq rfl, fun base _ _ => ok_law T⟩
theorem walk {l : PySem.W.OpenLaw} {q : Program} {loose : List Str} {XP : (Str → Option Value) → Heap → Prop} {YP : World → Heap → Prop} {d : DefRec} {K : Params → PySem.W.Frag} (hn : l.most = some 63) (hdf : d.params.defaults = [])
    (hY : ∀ (w : World) (h : Heap), YP w h → (K w.params).In h)
    (F : ∀ (w : World) (mg : Str → Option Value) (fa : Addr) (h : Heap), (K w.params).In h → h.Ns mainGlobals mg → mg d.name = some (.ref fa) →
      ∃ (ca : Nat → Addr) (fd : FuncData), (∀ (s : Shared) (u : Value), BindsTo s fd ⟨[u], []⟩ [("_law_script", u)]) ∧ ∀ base : Heap, (K w.params).In base → base.Ns mainGlobals mg → U.FnG l.prog w (K w.params) mg base CX0 7 fa fd ["_law_script"] (sp_law (K w.params) ca)) :
    PySem.W.WalkO q loose XP YP l.row.toRowW d [] (fun f vs => PySem.call f vs) :=
  U.walk_ofG (n := 63) (k := 7) (x := "_law_script") (sp := fun w ca => sp_law (K w.params) ca) hn (by decide) hdf ⟨rfl, by decide, by decide⟩ hY F (fun _ _ _ a ns hl hO hS => ⟨a, ns, rfl, U.script_of hO hS, hl, fun _ => rfl⟩)
end Lw
open PySem PySem.W PyProof.Rows
set_option maxRecDepth 100000 in
set_option maxHeartbeats 0 in
theorem PySem.Challenge.cw_reflows_k02_marks_numbers_words_holds : PySem.Challenge.rw_reflows_k02_marks_numbers_words.Holds := by
  w_on; o_law; k_head; (case hw => w_witness2)
  k_fill
  refine Lw.walk (l := PySem.Challenge.rw_reflows_k02_marks_numbers_words) rfl rfl (fun w h Y => PySem.W.kIn_of Y) ?F
  case F =>
    intro w mg fa h KX G hmg
    refine' Lw.all_mk KX G hmg ?a0 ?l0 ?c0 ?k0 ?a1 ?l1 ?c1 ?k1 ?a2 ?l2 ?c2 ?k2 ?a3 ?l3 ?c3 ?k3 ?a4 ?l4 ?c4 ?k4 ?a5 ?l5 ?c5 ?k5 ?a6 ?l6 ?c6 ?k6 ?a7 ?l7 ?c7 ?k7 ?d7_0 ?d7_1 ?a8 ?l8 ?c8 ?k8 ?a9 ?l9 ?c9 ?k9 ?a10 ?l10 ?c10 ?k10 ?a11 ?l11 ?c11 ?k11 ?a12 ?l12 ?c12 ?k12 ?a13 ?l13 ?c13 ?k13 ?a14 ?l14 ?c14 ?k14 ?a15 ?l15 ?c15 ?k15 ?a16 ?l16 ?c16 ?k16 ?a17 ?l17 ?c17 ?k17 ?a18 ?l18 ?c18 ?k18 ?a19 ?l19 ?c19 ?k19 ?a20 ?l20 ?c20 ?k20 ?gC0 ?gC2 ?gC3 ?bg0 ?br0 ?bf0 ?xL2 ?sa2 ?ga2 ?gg2 ?nb2 ?ai2 ?ti2 ?l21 ?c21 ?k21 ?kC2 ?eC2 ?tC2 ?hC2 ?iC2 ?xL3 ?sa3 ?ga3 ?gg3 ?nb3 ?ai3 ?ti3 ?l22 ?c22 ?k22 ?kC3 ?eC3 ?tC3 ?hC3 ?iC3 ?s3_3 ?s3_2 ?s2_3 ?s2_2 ?z0 ?z1 ?z2 ?z3 ?z4 ?z5 ?z6 ?z7 ?z8 ?z9 ?q_0 ?q_1
    (case a0 => first | k_is | rfl)
    (case l0 => first | k_is | rfl)
    (case c0 => first | k_is | rfl)
    (case k0 => first | k_is | rfl)
    (case a1 => first | k_is | rfl)
    (case l1 => first | k_is | rfl)
    (case c1 => first | k_is | rfl)
    (case k1 => first | k_is | rfl)
    (case a2 => first | k_is | rfl)
    (case l2 => first | k_is | rfl)
    (case c2 => first | k_is | rfl)
    (case k2 => first | k_is | rfl)
    (case a3 => first | k_is | rfl)
    (case l3 => first | k_is | rfl)
    (case c3 => first | k_is | rfl)
    (case k3 => first | k_is | rfl)
    (case a4 => first | k_is | rfl)
    (case l4 => first | k_is | rfl)
    (case c4 => first | k_is | rfl)
    (case k4 => first | k_is | rfl)
    (case a5 => first | k_is | rfl)
    (case l5 => first | k_is | rfl)
    (case c5 => first | k_is | rfl)
    (case k5 => first | k_is | rfl)
    (case a6 => first | k_is | rfl)
    (case l6 => first | k_is | rfl)
    (case c6 => first | k_is | rfl)
    (case k6 => first | k_is | rfl)
    (case a7 => first | k_is | rfl)
    (case l7 => first | k_is | rfl)
    (case c7 => first | k_is | rfl)
    (case k7 => first | k_is | rfl)
    (case d7_0 => first | k_is | rfl)
    (case d7_1 => first | k_is | rfl)
    (case a8 => first | k_is | rfl)
    (case l8 => first | k_is | rfl)
    (case c8 => first | k_is | rfl)
    (case k8 => first | k_is | rfl)
    (case a9 => first | k_is | rfl)
    (case l9 => first | k_is | rfl)
    (case c9 => first | k_is | rfl)
    (case k9 => first | k_is | rfl)
    (case a10 => first | k_is | rfl)
    (case l10 => first | k_is | rfl)
    (case c10 => first | k_is | rfl)
    (case k10 => first | k_is | rfl)
    (case a11 => first | k_is | rfl)
    (case l11 => first | k_is | rfl)
    (case c11 => first | k_is | rfl)
    (case k11 => first | k_is | rfl)
    (case a12 => first | k_is | rfl)
    (case l12 => first | k_is | rfl)
    (case c12 => first | k_is | rfl)
    (case k12 => first | k_is | rfl)
    (case a13 => first | k_is | rfl)
    (case l13 => first | k_is | rfl)
    (case c13 => first | k_is | rfl)
    (case k13 => first | k_is | rfl)
    (case a14 => first | k_is | rfl)
    (case l14 => first | k_is | rfl)
    (case c14 => first | k_is | rfl)
    (case k14 => first | k_is | rfl)
    (case a15 => first | k_is | rfl)
    (case l15 => first | k_is | rfl)
    (case c15 => first | k_is | rfl)
    (case k15 => first | k_is | rfl)
    (case a16 => first | k_is | rfl)
    (case l16 => first | k_is | rfl)
    (case c16 => first | k_is | rfl)
    (case k16 => first | k_is | rfl)
    (case a17 => first | k_is | rfl)
    (case l17 => first | k_is | rfl)
    (case c17 => first | k_is | rfl)
    (case k17 => first | k_is | rfl)
    (case a18 => first | k_is | rfl)
    (case l18 => first | k_is | rfl)
    (case c18 => first | k_is | rfl)
    (case k18 => first | k_is | rfl)
    (case a19 => first | k_is | rfl)
    (case l19 => first | k_is | rfl)
    (case c19 => first | k_is | rfl)
    (case k19 => first | k_is | rfl)
    (case a20 => first | k_is | rfl)
    (case l20 => first | k_is | rfl)
    (case c20 => first | k_is | rfl)
    (case k20 => first | k_is | rfl)
    (case gC0 => first | k_is | rfl)
    (case gC2 => first | k_is | rfl)
    (case gC3 => first | k_is | rfl)
    (case bg0 => first | k_is | rfl)
    (case br0 => first | k_is | rfl)
    (case bf0 => first | k_is | rfl)
    (case xL2 => first | k_is | rfl)
    (case sa2 => first | k_is | rfl)
    (case ga2 => first | k_is | rfl)
    (case gg2 => first | k_is | rfl)
    (case nb2 => first | k_is | rfl)
    (case ai2 => first | k_is | rfl)
    (case ti2 => first | k_is | rfl)
    (case l21 => first | k_is | rfl)
    (case c21 => first | k_is | rfl)
    (case k21 => first | k_is | rfl)
    (case kC2 => first | k_is | rfl)
    (case eC2 => first | k_is | rfl)
    (case tC2 => first | k_is | rfl)
    (case hC2 => first | k_is | rfl)
    (case iC2 => first | k_is | rfl)
    (case xL3 => first | k_is | rfl)
    (case sa3 => first | k_is | rfl)
    (case ga3 => first | k_is | rfl)
    (case gg3 => first | k_is | rfl)
    (case nb3 => first | k_is | rfl)
    (case ai3 => first | k_is | rfl)
    (case ti3 => first | k_is | rfl)
    (case l22 => first | k_is | rfl)
    (case c22 => first | k_is | rfl)
    (case k22 => first | k_is | rfl)
    (case kC3 => first | k_is | rfl)
    (case eC3 => first | k_is | rfl)
    (case tC3 => first | k_is | rfl)
    (case hC3 => first | k_is | rfl)
    (case iC3 => first | k_is | rfl)
    (case s3_3 => first | k_is | rfl)
    (case s3_2 => first | k_is | rfl)
    (case s2_3 => first | k_is | rfl)
    (case s2_2 => first | k_is | rfl)
    (case z0 => first | k_is | rfl)
    (case z1 => first | k_is | rfl)
    (case z2 => first | k_is | rfl)
    (case z3 => first | k_is | rfl)
    (case z4 => first | k_is | rfl)
    (case z5 => first | k_is | rfl)
    (case z6 => first | k_is | rfl)
    (case z7 => first | k_is | rfl)
    (case z8 => first | k_is | rfl)
    (case z9 => first | k_is | rfl)
    (case q_0 => first | k_is | rfl)
    (case q_1 => first | k_is | rfl)
