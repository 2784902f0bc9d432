import PyProof.Rows.All
import Wide.All
import OpenK.AllK
import Wide.FinOn
import HandS.ForMost
import HandS.IsInst
import HandS.Walk
import HandS.Flow
import HandS.Zip
import PyProof.NeKinds
import PySem.Challenge.RW_reflows_k01_kinds_of_words
set_option Elab.async false
set_option linter.all false
set_option maxRecDepth 100000
set_option maxHeartbeats 4000000
namespace PySem.SeqAt
open AutoSeq1 (wpAny_loadPart')
open MeetsSeq
theorem dict_ne_declines_tuple (l b : Addr) (es : Array DictEntry) (items2 : Array Value) (n n2 : Nat) (dd2 : Option Addr) (sl2 : Array (Option Value)) :
    Meets (Builtin.«dict.__ne__» ⟨[.ref l, .ref b], []⟩) (fun _ R s => s.heap.get? l = some { cls := .type "dict", dict := none, data := .dict es n, slots := #[] } ∧ s.heap.get? b = some { cls := .type "tuple", dict := dd2, data := .seq items2 n2, slots := sl2 } ∧ R (.ok (.ret .notImplemented)) s) :=
  .of_wp fun prog w A R s h => by
    obtain ⟨hp, g, d, tk, os⟩ := s; obtain ⟨hl, hb, h⟩ := h; have f1 := F.sub_tuple_dict
    unfold Builtin.«dict.__ne__»
    wp_walk using wpAny_loadPart' hl, wpAny_loadPart' hb
    exact ⟨_, rfl, h⟩
theorem tuple_ne_declines_dict (l b : Addr) (es : Array DictEntry) (items : Array Value) (n n2 : Nat) (dd : Option Addr) (sl : Array (Option Value)) :
    Meets (Builtin.«tuple.__ne__» ⟨[.ref l, .ref b], []⟩) (fun _ R s => s.heap.get? l = some { cls := .type "tuple", dict := dd, data := .seq items n, slots := sl } ∧ s.heap.get? b = some { cls := .type "dict", dict := none, data := .dict es n2, slots := #[] } ∧ R (.ok (.ret .notImplemented)) s) :=
  .of_wp fun prog w A R s h => by obtain ⟨hp, g, d, tk, os⟩ := s; obtain ⟨hl, hb, h⟩ := h; have f1 := F.sub_dict_tuple; wp_walk using wpAny_loadPart' hl, wpAny_loadPart' hb; exact ⟨_, rfl, h⟩
theorem RcNeAt.dict_tuple {A : Around} {s : Shared} {l b : Addr} {o : Obj} {es : Array DictEntry} {ep : Nat} {items2 : Array Value} (ho : s.heap.get? l = some o) (hx : o.ExactDict) (hd : o.data = .dict es ep) (hb : s.heap.IsTuple b items2) (hu : A.units < cLine) : RcNeAt A s (.ref l) (.ref b) true := fun prog w E Q h => by
  obtain ⟨cls, dd, data, sl⟩ := o
  obtain ⟨⟨cls2, dd2, data2, sl2⟩, ho2, hc2, n2, hd2⟩ := id hb
  obtain ⟨h1, h2, h3⟩ := hx
  simp only at h1 h2 h3 hd hc2 hd2
  subst h1 h2 h3 hd hc2 hd2
  have hne : l ≠ b := fun e => by
    subst e
    have e := Option.some.inj (ho.symm.trans ho2)
    injection e with e1
    injection e1 with e1
    exact absurd e1 (by decide)
  exact (rc_ne_decline_or (k := false) ⟨_, ho, rfl⟩ ⟨_, ho2, rfl⟩ (by decide) F.sub_tuple_dict F.slot_dict_ne F.slot_tuple_ne_refl
    (fun _ hq => call_meets F.slot_dict_ne ⟨_, ho, rfl⟩ F.entry_dict_ne (F.args_dict_ne_2 _ _) (dict_ne_declines_tuple l b es items2 ep n2 dd2 sl2) ⟨ho, ho2, hq⟩)
    (fun _ hq => call_meets F.slot_tuple_ne_refl ⟨_, ho2, rfl⟩ F.entry_tuple_ne (F.args_tuple_ne_2 _ _) (tuple_ne_declines_dict b l es items2 n2 ep dd2 sl2) ⟨ho2, ho, hq⟩)
    (fun _ hq => wpAny_isSame_ref_other hne ho ho2 (by simp) hq) (.inr hu) h)
end PySem.SeqAt
namespace U
open PySem L2

/-! ### weakening of judgements -/
section
variable {X : Cx}
theorem PEi {e : Expr} {t u : TE} (h : PE X e t) (i : ∀ σ H Q, u σ H Q → t σ H Q) : PE X e u := ⟨fun pins s σ H Q I k => h.run pins s σ H Q I (i σ H Q k)⟩
theorem PTi {e : Expr} {t u : TT} (h : PT X e t) (i : ∀ σ H Q, u σ H Q → t σ H Q) : PT X e u := ⟨fun pins s σ H Q I k => h.run pins s σ H Q I (i σ H Q k)⟩
theorem PWi {e : Expr} {t u : TT} (h : PW X e t) (i : ∀ σ H Q, u σ H Q → t σ H Q) : PW X e u := ⟨fun wh pins s σ H Q I k => h.run wh pins s σ H Q I (i σ H Q k)⟩
theorem PSi {e : Stmt} {t u : TS} (h : PS X e t) (i : ∀ D σ H, u D σ H → t D σ H) : PS X e u := ⟨fun pins s σ H D I k => h.run pins s σ H D I (i D σ H k)⟩
theorem OpRi {f : Value → Value → Sem Value} {r r' : R2} (h : OpR X f r) (i : ∀ x y H Q, r' x y H Q → r x y H Q) : OpR X f r' := fun pins s σ H x y v u Q I rx ry k => h pins s σ H x y v u Q I rx ry (i x y H Q k)
theorem CallRi {f : Value} {r r' : List V → Hp → VK → Prop} (h : CallR X f r) (i : ∀ xs H Q, r' xs H Q → r xs H Q) : CallR X f r' := fun pins s σ H xs us Q I r k => h pins s σ H xs us Q I r (i xs H Q k)
theorem IxRi {r r' : R2} (h : IxR X r) (i : ∀ x y H Q, r' x y H Q → r x y H Q) : IxR X r' := fun value slice pins s σ H x y v u Q I rx ry q hs => h value slice pins s σ H x y v u Q I rx ry (i x y H Q q) hs
theorem SlRi {r r' : V → Option Int → Option Int → Hp → VK → Prop} (h : L2.SlR X r) (i : ∀ x lo hi H Q, r' x lo hi H Q → r x lo hi H Q) : L2.SlR X r' := fun pins s σ H x v vl vu lo hi sl Q I rx hs pl pu q => h pins s σ H x v vl vu lo hi sl Q I rx hs pl pu (i x lo hi H Q q)
theorem MtRi {id : String} {r r' : V → List V → Hp → VK → Prop} (h : MtR X id r) (i : ∀ x xs H Q, r' x xs H Q → r x xs H Q) : MtR X id r' := fun pins s σ H x xs v us Q I rx rs q => h pins s σ H x xs v us Q I rx rs (i x xs H Q q)
theorem PIi {tg iter : Expr} {t u : TI} (h : PI X tg iter t) (i : ∀ σ H R, u σ H R → t σ H R) : PI X tg iter u := ⟨fun pins s σ H R I k => h.run pins s σ H R I (i σ H R k)⟩
theorem POi {e : Option Expr} {t u : TO} (h : PO X e t) (i : ∀ σ H Q, u σ H Q → t σ H Q) : PO X e u := ⟨fun pins s σ H Q I k => h.run pins s σ H Q I (i σ H Q k)⟩
end

/-! ### branches by name -/
def bV (x : V) (A B : Prop) : Prop := match x with | .bl true => A | .bl false => B | _ => False
def bB (c : Bool) (A B : Prop) : Prop := match c with | true => A | false => B
def oK {α : Type} (o : Option α) (f : α → Prop) : Prop := match o with | some x => f x | none => False
section
variable {A B : Prop} {α : Type}
theorem bV_of {c : Bool} (h1 : c = true → A) (h2 : c = false → B) : bV (.bl c) A B := by
  cases c
  · exact h2 rfl
  · exact h1 rfl
theorem bB_of {c : Bool} (h1 : c = true → A) (h2 : c = false → B) : bB c A B := by
  cases c
  · exact h2 rfl
  · exact h1 rfl
theorem bV_t {c : Bool} (hc : c = true) (h : A) : bV (.bl c) A B := by subst hc; exact h
theorem bV_f {c : Bool} (hc : c = false) (h : B) : bV (.bl c) A B := by subst hc; exact h
theorem bB_t {c : Bool} (hc : c = true) (h : A) : bB c A B := by subst hc; exact h
theorem bB_f {c : Bool} (hc : c = false) (h : B) : bB c A B := by subst hc; exact h
theorem bV_d {p : Prop} [Decidable p] (h1 : p → A) (h2 : ¬ p → B) : bV (.bl (decide p)) A B := bV_of (fun h => h1 (of_decide_eq_true h)) fun h => h2 (of_decide_eq_false h)
theorem bB_d {p : Prop} [Decidable p] (h1 : p → A) (h2 : ¬ p → B) : bB (decide p) A B := bB_of (fun h => h1 (of_decide_eq_true h)) fun h => h2 (of_decide_eq_false h)
theorem bB_n {p : Prop} [Decidable p] (h1 : ¬ p → A) (h2 : p → B) : bB (!decide p) A B := bB_of (fun h => h1 (by simpa using h)) fun h => h2 (by simpa using h)
theorem bB_if (c : Bool) (A B : Prop) : bB c A B = if c = true then A else B := by
  cases c <;> simp [bB]
theorem oK_of {o : Option α} {f : α → Prop} {x : α} (h : o = some x) (k : f x) : oK o f := by subst h; exact k
theorem oK_ex {o : Option α} {f : α → Prop} (h : oK o f) : ∃ x, o = some x ∧ f x := by
  cases o with
  | none => exact h.elim
  | some x => exact ⟨x, rfl, h⟩
end

/-! ### names, tests -/
def uVar (i : Nat) : TE := fun σ H Q => match σ[i]? with | some (some v) => Q v H | _ => False
def uT (t : TE) : TT := fun σ H Q => t σ H fun x H1 => match x with | .bl k => Q k H1 | _ => False
def uAndV (ta tb : TE) : TE := fun σ H Q => ta σ H fun x H1 => bV x (tb σ H1 Q) (Q (.bl false) H1)
def uOrV (ta tb : TE) : TE := fun σ H Q => ta σ H fun x H1 => bV x (Q (.bl true) H1) (tb σ H1 Q)
def uNotV (ta : TE) : TE := fun σ H Q => ta σ H fun x H1 => match x with | .bl k => Q (.bl (!k)) H1 | _ => False
def uAnd (t u : TT) : TT := fun σ H Q => t σ H fun c H1 => bB c (u σ H1 Q) (Q false H1)
def uOr (t u : TT) : TT := fun σ H Q => t σ H fun c H1 => bB c (Q true H1) (u σ H1 Q)
def uNot (t : TT) : TT := fun σ H Q => t σ H fun c H1 => Q (!c) H1
def uIf (t : TT) (ta tb : TE) : TE := fun σ H Q => t σ H fun c H1 => bB c (ta σ H1 Q) (tb σ H1 Q)
def uIfS (t : TT) (a b : TS) : TS := fun D σ H => t σ H fun c H1 => bB c (a D σ H1) (b D σ H1)
section
variable {X : Cx} {a b : Expr} {ta tb : TE} {pos : Pos} {tA tB' : TT} {rest : List Expr}
theorem pu (i : Nat) {x : Str} {pos : Pos} (hN : X.N[i]? = some x := by rfl) (hv : Vis X.env.scope x := by first | exact Or.inl rfl | exact Or.inr (Or.inl rfl) | exact Or.inr (Or.inr rfl)) (hd : (x == ("__debug__" : Str)) = false := by decide)
    (hcd : (x == ("__classdict__" : Str)) = false := by decide) : PE X (.Name x pos) (uVar i) := PEi (pe_var hN hv hd hcd) fun σ H Q h => by
  unfold uVar at h
  split at h
  · exact ⟨_, by assumption, h⟩
  · exact h.elim
theorem uT_tB {t : TE} {σ H Q} (h : uT t σ H Q) : ∃ (R : VK), t σ H R ∧ ∀ x H1, R x H1 → ∃ c, x = V.bl c ∧ Q c H1 := by
  refine ⟨_, h, fun x H1 r => ?_⟩
  split at r
  · exact ⟨_, rfl, r⟩
  · exact r.elim
end
/-- readings are monotone in what follows (needed to pass from the computing form to the layer's) -/
theorem t_iff {p q : VK} (e : p = q) {t : TE} {σ H} (h : t σ H p) : t σ H q := e ▸ h
theorem k_bl (Q : Bool → Hp → Prop) : (fun (x : V) (H1 : Hp) => match x with | .bl k => Q k H1 | _ => False) = (fun x H1 => ∃ c, x = V.bl c ∧ Q c H1) := by
  funext x H1
  cases x <;> simp
theorem k_and (f : Hp → Prop) (g : Hp → Prop) : (fun (x : V) (H1 : Hp) => bV x (f H1) (g H1)) = (fun x H1 => ∃ c, x = V.bl c ∧ if c = true then f H1 else g H1) := by
  funext x H1
  unfold bV
  cases x with
  | bl b => cases b <;> simp
  | _ => simp
theorem k_b (f : Hp → Prop) (g : Hp → Prop) : (fun (c : Bool) (H1 : Hp) => bB c (f H1) (g H1)) = (fun c H1 => if c = true then f H1 else g H1) := by
  funext c H1
  unfold bB
  cases c <;> simp
section
variable {X : Cx} {a b : Expr} {ta tb : TE} {pos : Pos} {tA tB' : TT} {rest : List Expr}
theorem uT_eq (t : TE) : uT t = tB t := by funext σ H Q; unfold uT tB; rw [k_bl]
theorem uT_eq' (t : TE) : uT t = tTest t := by funext σ H Q; unfold uT tTest; rw [k_bl]
theorem uAndV_eq (ta tb : TE) : uAndV ta tb = tAndV ta tb := by funext σ H Q; unfold uAndV tAndV; rw [k_and]
theorem uOrV_eq (ta tb : TE) : uOrV ta tb = tOrV ta tb := by funext σ H Q; unfold uOrV tOrV; rw [k_and]
theorem uNotV_eq (ta : TE) : uNotV ta = tNotV ta := by
  funext σ H Q; unfold uNotV tNotV
  exact congrArg (ta σ H) (k_bl fun c H1 => Q (.bl (!c)) H1)
theorem uAnd_eq (t u : TT) : uAnd t u = tAnd t u := by funext σ H Q; unfold uAnd tAnd; rw [k_b]
theorem uOr_eq (t u : TT) : uOr t u = tOr t u := by funext σ H Q; unfold uOr tOr; rw [k_b]
theorem uIf_eq (t : TT) (ta tb : TE) : uIf t ta tb = tIf t ta tb := by funext σ H Q; unfold uIf tIf; rw [k_b]
theorem uIfS_eq (t : TT) (a b : TS) : uIfS t a b = tIfS t a b := by funext D σ H; unfold uIfS tIfS; rw [k_b]
theorem put_val {e : Expr} {t : TE} (h : PE X e t) (he : ∀ whole, isTrue e X.env whole = (do let v ← whole; standAt e.pos; holding [v] (truthy v)) := by intro _; rfl) : PT X e (uT t) := by
  rw [uT_eq]; exact pt_val h he
theorem put_cmp {op : CmpOp} {r : R2} (ho : OpR X (compareOp op) r) (ha : PE X a ta) (hb : PE X b tb) (hm : behindInMarks op b = false) : PT X (.Compare a [op] [b] pos) (uT (tOp r ta tb)) := by
  rw [uT_eq']; exact pt_cmpR ho ha hb hm
theorem pue_and (ha : PE X a ta) (hb : PE X (.BoolOp .And (b :: rest) pos) tb) : PE X (.BoolOp .And (a :: b :: rest) pos) (uAndV ta tb) := by rw [uAndV_eq]; exact pe_and ha hb
theorem pue_or (ha : PE X a ta) (hb : PE X (.BoolOp .Or (b :: rest) pos) tb) : PE X (.BoolOp .Or (a :: b :: rest) pos) (uOrV ta tb) := by rw [uOrV_eq]; exact pe_or ha hb
theorem pue_not (ha : PE X a ta) : PE X (.UnaryOp .Not a pos) (uNotV ta) := by rw [uNotV_eq]; exact pe_not ha
theorem puw_and (ha : PT X a tA) (hb : PW X (.BoolOp .And (b :: rest) pos) tB') : PW X (.BoolOp .And (a :: b :: rest) pos) (uAnd tA tB') := by rw [uAnd_eq]; exact pw_and ha hb
theorem puw_or (ha : PT X a tA) (hb : PW X (.BoolOp .Or (b :: rest) pos) tB') : PW X (.BoolOp .Or (a :: b :: rest) pos) (uOr tA tB') := by rw [uOr_eq]; exact pw_or ha hb
theorem put_not (ha : PT X a tA) : PT X (.UnaryOp .Not a pos) (uNot tA) := pt_not ha
theorem pue_if {c : Expr} (hc : PT X c tA) (ha : PE X a ta) (hb : PE X b tb) : PE X (.IfExp c a b pos) (uIf tA ta tb) := by rw [uIf_eq]; exact pe_ifExp hc ha hb
theorem pus_if {c : Expr} {p q : List Stmt} {t u : TS} (hc : PT X c tA) (ha : PSs X p t) (hb : PSs X q u) : PS X (.If c p q pos) (uIfS tA t u) := by rw [uIfS_eq]; exact ps_if hc ha hb
end

/-! ### operators -/
def uAdd (K : PySem.W.Frag) : R2 := fun x y H Q => match x, y with
  | .int i, .int j => Q (.int (i + j)) H
  | .str i, .str j => i.length + j.length ≤ sizeLine ∧ Q (.str (i ++ j)) H
  | .ref l, .ref b => ∃ xs zs, H l = some (.lst xs) ∧ H b = some (.lst zs) ∧ xs.length + zs.length ≤ sizeLine ∧ ∀ p, H p = none → Q (.ref p) (upd H p (.lst (xs ++ zs)))
  | _, _ => False
def uSub : R2 := fun x y H Q => match x, y with
  | .int i, .int j => Q (.int (i - j)) H
  | _, _ => False
def uMul : R2 := fun x y H Q => match x, y with
  | .int i, .int j => CMul i j ∧ Q (.int (i * j)) H
  | _, _ => False
def uFdiv : R2 := fun x y H Q => match x, y with
  | .int i, .int j => CDiv i j ∧ Q (.int (i / j)) H
  | _, _ => False
def uMod : R2 := fun x y H Q => match x, y with
  | .int i, .int j => 0 < j ∧ Q (.int (i % j)) H
  | _, _ => False
def uPow : R2 := fun x y H Q => match x, y with
  | .int i, .int j => CPow i j ∧ Q (.int (i ^ j.toNat)) H
  | _, _ => False
def uCmpI (p : Int → Int → Bool) (q : List Nat → List Nat → Bool) : R2 := fun x y H Q => match x, y with
  | .int i, .int j => Q (.bl (p i j)) H
  | .str i, .str j => Q (.bl (q i.cps.toList j.cps.toList)) H
  | _, _ => False
abbrev uLt : R2 := uCmpI (fun i j => decide (i < j)) (fun i j => decide (i < j))
abbrev uLe : R2 := uCmpI (fun i j => decide (i ≤ j)) (fun i j => !decide (j < i))
abbrev uGt : R2 := uCmpI (fun i j => decide (j < i)) (fun i j => decide (j < i))
abbrev uGe : R2 := uCmpI (fun i j => decide (j ≤ i)) (fun i j => !decide (i < j))
section
variable {X : Cx}
theorem ou_add : OpR X (binaryOp .Add) (uAdd X.K) := OpRi (op_add.or (op_add_str.or op_cat)) fun x y H Q h => by
  unfold uAdd at h
  split at h
  · exact .inl ⟨_, _, rfl, rfl, h⟩
  · exact .inr (.inl ⟨_, _, rfl, rfl, h⟩)
  · obtain ⟨xs, zs, h1, h2, h3, h4⟩ := h
    exact .inr (.inr ⟨_, _, xs, zs, rfl, rfl, h1, h2, h3, h4⟩)
  · exact h.elim
theorem ou_sub : OpR X (binaryOp .Sub) uSub := OpRi op_sub fun x y H Q h => by
  unfold uSub at h
  split at h
  · exact ⟨_, _, rfl, rfl, h⟩
  · exact h.elim
theorem ou_mul : OpR X (binaryOp .Mult) uMul := OpRi op_mul fun x y H Q h => by
  unfold uMul at h
  split at h
  · exact ⟨_, _, rfl, rfl, h⟩
  · exact h.elim
theorem ou_fdiv : OpR X (binaryOp .FloorDiv) uFdiv := OpRi op_fdiv fun x y H Q h => by
  unfold uFdiv at h
  split at h
  · exact ⟨_, _, rfl, rfl, h⟩
  · exact h.elim
theorem ou_mod : OpR X (binaryOp .Mod) uMod := OpRi op_mod fun x y H Q h => by
  unfold uMod at h
  split at h
  · exact ⟨_, _, rfl, rfl, h⟩
  · exact h.elim
theorem ou_pow : OpR X (binaryOp .Pow) uPow := OpRi op_pow fun x y H Q h => by
  unfold uPow at h
  split at h
  · exact ⟨_, _, rfl, rfl, h⟩
  · exact h.elim
theorem uCmp_or {p : Int → Int → Bool} {q : List Nat → List Nat → Bool} {f : Value → Value → Sem Value} (h1 : OpR X f (rI0 fun i j => .bl (p i j))) (h2 : OpR X f (fun x y H Q => ∃ i j, x = .str i ∧ y = .str j ∧ Q (.bl (q i.cps.toList j.cps.toList)) H)) : OpR X f (uCmpI p q) :=
  OpRi (h1.or h2) fun x y H Q h => by
  unfold uCmpI at h
  split at h
  · exact .inl ⟨_, _, rfl, rfl, h⟩
  · exact .inr ⟨_, _, rfl, rfl, h⟩
  · exact h.elim
theorem ou_lt : OpR X (compareOp .Lt) uLt := uCmp_or op_lt op_lt_str
theorem ou_le : OpR X (compareOp .LtE) uLe := uCmp_or op_le op_le_str
theorem ou_gt : OpR X (compareOp .Gt) uGt := uCmp_or op_gt op_gt_str
theorem ou_ge : OpR X (compareOp .GtE) uGe := uCmp_or op_ge op_ge_str
end

/-! ### what is read at an address -/
def seqOf (c : String) (o : Obj) : Option (List V) := match o with
  | ⟨.type d, none, .seq its _, _⟩ => if c = d ∧ its.size ≤ sizeLine then its.toList.mapM absV else none
  | _ => none
def kS (K : PySem.W.Frag) (c : String) (a : Addr) : Option (List V) := match K.lookup a with
  | some o => seqOf c o
  | none => none
def rdL (K : PySem.W.Frag) (H : Hp) (a : Addr) : Option (List V) := match H a with
  | some (.lst xs) => some xs
  | some (.frz _ (.lst xs)) => some xs
  | some _ => none
  | none => kS K "list" a
def rdT (K : PySem.W.Frag) (H : Hp) (a : Addr) : Option (List V) := match H a with
  | some (.tup xs) => some xs
  | some (.frz _ (.tup xs)) => some xs
  | some _ => none
  | none => kS K "tuple" a
def rdS (K : PySem.W.Frag) (H : Hp) (a : Addr) : Option (List V) := match rdL K H a with
  | some xs => some xs
  | none => rdT K H a
theorem mapM_vals : ∀ {us : List Value} {xs : List V}, us.mapM absV = some xs → Vals xs us := by
  intro us
  induction us with
  | nil => intro xs h; simp at h; subst h; exact .nil
  | cons u r ih =>
    intro xs h
    rw [List.mapM_cons] at h
    cases e1 : absV u with
    | none => rw [e1] at h; cases h
    | some x =>
      cases e2 : r.mapM absV with
      | none => rw [e1, e2] at h; cases h
      | some ys =>
        rw [e1, e2] at h
        cases h
        refine .cons ?_ (ih e2)
        cases u <;> simp [absV] at e1 <;> subst e1 <;> first | rfl | exact ⟨_, rfl⟩
theorem kS_spec {K : PySem.W.Frag} {c : String} {a : Addr} {xs : List V} (h : kS K c a = some xs) : ∃ (o : Obj) (its : Array Value) (n : Nat), K.lookup a = some o ∧ o.cls = .type c ∧ o.dict = none ∧ o.data = .seq its n ∧ its.size ≤ sizeLine ∧ Vals xs its.toList := by
  unfold kS at h
  split at h
  · rename_i o e
    unfold seqOf at h
    split at h
    · split at h
      · rename_i hc
        obtain ⟨rfl, hz⟩ := hc
        exact ⟨_, _, _, e, rfl, rfl, rfl, hz, mapM_vals h⟩
      · cases h
    · cases h
  · cases h
theorem rdL_sq {K : PySem.W.Frag} {H : Hp} {a : Addr} {xs : List V} (h : rdL K H a = some xs) : SqL K H a xs := by
  unfold rdL at h
  split at h
  · cases h; exact .inl (.inl (by assumption))
  · cases h; exact .inl (.inr ⟨_, by assumption⟩)
  · cases h
  · exact .inr (kS_spec h)
theorem rdT_sq {K : PySem.W.Frag} {H : Hp} {a : Addr} {xs : List V} (h : rdT K H a = some xs) : SqT K H a xs := by
  unfold rdT at h
  split at h
  · cases h; exact .inl (.inl (by assumption))
  · cases h; exact .inl (.inr ⟨_, by assumption⟩)
  · cases h
  · obtain ⟨o, its, n, h1, h2, h3, h4, h5, h6⟩ := kS_spec h
    exact .inr ⟨o, its, n, h1, h2, h4, h5, h6⟩
theorem rdS_sq {K : PySem.W.Frag} {H : Hp} {a : Addr} {xs : List V} (h : rdS K H a = some xs) : SqL K H a xs ∨ SqT K H a xs := by
  unfold rdS at h
  split at h
  · cases h; exact .inl (rdL_sq (by assumption))
  · exact .inr (rdT_sq h)
theorem rdL_of {K : PySem.W.Frag} {H : Hp} {a : Addr} {xs : List V} (h : H a = some (.lst xs)) : rdL K H a = some xs := by unfold rdL; rw [h]
theorem rdT_of {K : PySem.W.Frag} {H : Hp} {a : Addr} {xs : List V} (h : H a = some (.tup xs)) : rdT K H a = some xs := by unfold rdT; rw [h]
theorem rdS_ofL {K : PySem.W.Frag} {H : Hp} {a : Addr} {xs : List V} (h : rdL K H a = some xs) : rdS K H a = some xs := by unfold rdS; rw [h]
theorem rdS_l {K : PySem.W.Frag} {H : Hp} {a : Addr} {xs : List V} (h : H a = some (.lst xs)) : rdS K H a = some xs := rdS_ofL (rdL_of h)
theorem rdS_t {K : PySem.W.Frag} {H : Hp} {a : Addr} {xs : List V} (h : H a = some (.tup xs)) : rdS K H a = some xs := by
  unfold rdS rdL rdT; rw [h]

/-- a list or a tuple is read -/
def oS (K : PySem.W.Frag) (H : Hp) (p : Addr) (f : List V → Prop) : Prop := ∃ xs, (SqL K H p xs ∨ SqT K H p xs) ∧ f xs
theorem oS_of {K : PySem.W.Frag} {H : Hp} {p : Addr} {f : List V → Prop} {xs : List V} (h : rdS K H p = some xs) (k : f xs) : oS K H p f := ⟨xs, rdS_sq h, k⟩
theorem oS_l {K : PySem.W.Frag} {H : Hp} {p : Addr} {f : List V → Prop} {xs : List V} (h : SqL K H p xs) (k : f xs) : oS K H p f := ⟨xs, .inl h, k⟩

/-! ### growth of heaps -/
abbrev Ex (H H' : Hp) : Prop := ∀ a o, H a = some o → H' a = some o
theorem Ex.refl (H : Hp) : Ex H H := fun _ _ h => h
theorem Ex.trans {H H1 H2 : Hp} (a : Ex H H1) (b : Ex H1 H2) : Ex H H2 := fun x o h => b x o (a x o h)
theorem Ex.new {H : Hp} {p : Addr} {o : HO} (h : H p = none) : Ex H (upd H p o) := fun a u e => by
  rw [upd_ne (ne_of_none e h)]
  exact e
theorem Ex.mut {H H' : Hp} {p : Addr} {o : HO} (e : Ex H H') (h : H p = none) : Ex H (upd H' p o) := fun a u ha => by
  rw [upd_ne (ne_of_none ha h)]
  exact e a u ha
theorem Ex.free {H H' : Hp} (e : Ex H H') {p : Addr} (h : H' p = none) : H p = none := by
  cases h1 : H p with
  | none => rfl
  | some o => rw [e p o h1] at h; cases h
/-- all but b stays -/
def Fr (b : Addr) (H H' : Hp) : Prop := ∀ a o, H a = some o → a ≠ b → H' a = some o
theorem Fr.refl (b : Addr) (H : Hp) : Fr b H H := fun _ _ h _ => h
theorem Fr.trans {b : Addr} {H H1 H2 : Hp} (x : Fr b H H1) (y : Fr b H1 H2) : Fr b H H2 := fun a o h n => y a o (x a o h n) n
theorem Fr.ex {b : Addr} {H H1 : Hp} (x : Ex H H1) : Fr b H H1 := fun a o h _ => x a o h
theorem Fr.new {b p : Addr} {H : Hp} {o : HO} (h : H p = none) : Fr b H (upd H p o) := Fr.ex (Ex.new h)

/-! ### equality, membership -/
def uEq (K : PySem.W.Frag) : R2 := fun x y H Q => match scal x y with
  | true => Q (.bl (decide (x = y))) H
  | false => ∃ d e, Dp K H x d ∧ Dp K H y e ∧ SeqAt.shaped d = true ∧ SeqAt.shaped e = true ∧ Q (.bl (PyData.eqv d e)) H
def uNe (K : PySem.W.Frag) : R2 := fun x y H Q => match scal x y with
  | true => Q (.bl (!decide (x = y))) H
  | false => (∃ d e, Dp K H x d ∧ Dp K H y e ∧ SeqAt.shaped d = true ∧ SeqAt.shaped e = true ∧ Q (.bl (!PyData.eqv d e)) H) ∨
      ∃ a b kvs ys, x = .ref a ∧ y = .ref b ∧ H a = some (.dK kvs) ∧ H b = some (.tup ys) ∧ Q (.bl true) H
def uIn (K : PySem.W.Frag) (neg : Bool) : R2 := fun x y H Q => match y with
  | .str z => (match x with
    | .str w => (match w.cps.toList with
      | [c] => Q (.bl (if neg then !decide (c ∈ z.cps.toList) else decide (c ∈ z.cps.toList))) H
      | _ => False)
    | _ => False)
  | .ref p => oS K H p fun xs => flatV x = true ∧ xs.all flatV = true ∧ Q (.bl (if neg then !inV x xs else inV x xs)) H
  | _ => False
theorem str_one {w : Str} {c : Nat} (h : w.cps.toList = [c]) : w = ⟨#[c]⟩ := by
  obtain ⟨⟨l⟩⟩ := w
  have h : l = [c] := h
  subst h
  rfl
theorem uIn_sp {K : PySem.W.Frag} {neg : Bool} {x y : V} {H : Hp} {Q : VK} (h : uIn K neg x y H Q) :
    (∃ (c : Nat) (z : Str), x = .str ⟨#[c]⟩ ∧ y = .str z ∧ Q (.bl (if neg then !decide (c ∈ z.cps.toList) else decide (c ∈ z.cps.toList))) H) ∨ rIn K neg x y H Q := by
  unfold uIn at h
  split at h
  · split at h
    · split at h
      · rename_i e
        exact .inl ⟨_, _, by rw [str_one e], rfl, h⟩
      · exact h.elim
    · exact h.elim
  · obtain ⟨xs, e, h1, h2, h3⟩ := h
    exact .inr ⟨_, _, rfl, e, h1, h2, h3⟩
  · exact h.elim
section
variable {X : Cx}
theorem ou_eq (hu : X.A.units + 64 < cLine) : OpR X (compareOp .Eq) (uEq X.K) := OpRi (op_eq.or (op_eqD hu)) fun x y H Q h => by
  unfold uEq at h
  split at h
  · exact .inl ⟨by assumption, h⟩
  · exact .inr h
theorem op_ne_dt (hu : X.A.units + 64 < cLine) : OpR X (compareOp .NotEq) (fun x y H Q => ∃ a b kvs ys, x = V.ref a ∧ y = .ref b ∧ H a = some (.dK kvs) ∧ H b = some (.tup ys) ∧ Q (.bl true) H) := by
  intro pins s σ H x y v u Q I rx ry h
  obtain ⟨a, b, kvs, ys, rfl, rfl, ha, hb, q⟩ := h
  cases rx
  cases ry
  obtain ⟨_, _, vs, _, o, es, ep, h1, h2, h3, _⟩ := (show ObjOk X.prog X.w H s.heap a (.dK kvs) from I.hok a _ ha)
  obtain ⟨_, its, _, ht⟩ := (show ObjOk X.prog X.w H s.heap b (.tup ys) from I.hok b _ hb)
  exact SeqAt.RcNeAt.dict_tuple h1 h2 h3 ht (by omega) X.prog X.w X.xe _ ⟨.bl true, H, I, rfl, q⟩
theorem ou_ne (hu : X.A.units + 64 < cLine) : OpR X (compareOp .NotEq) (uNe X.K) := OpRi (op_ne.or ((op_neD hu).or (op_ne_dt hu))) fun x y H Q h => by
  unfold uNe at h
  split at h
  · exact .inl ⟨by assumption, h⟩
  · exact .inr h
theorem ou_in : OpR X (compareOp .In) (uIn X.K false) := OpRi (op_in_sign.or op_in_seq) fun x y H Q h => uIn_sp h
theorem ou_notin : OpR X (compareOp .NotIn) (uIn X.K true) := OpRi (op_notIn_sign.or op_notIn_seq) fun x y H Q h => uIn_sp h
end
/-- a < b < c -/
def uChain (r r' : R2) (ta tb tc : TE) : TE := fun σ H Q => ta σ H fun x H1 => tb σ H1 fun y H2 => r x y H2 fun z H3 => bV z (tc σ H3 fun w H4 => r' y w H4 Q) (Q (.bl false) H3)
theorem uChain_eq (r r' : R2) (ta tb tc : TE) : uChain r r' ta tb tc = tChain r r' ta tb tc := by
  funext σ H Q; unfold uChain tChain
  congr 1; funext x H1; congr 1; funext y H2
  rw [k_and]
section
variable {X : Cx} {a b c : Expr} {ta tb tc : TE} {pos : Pos}
theorem pue_chain {op op' : CmpOp} {r r' : R2} (ho : OpR X (compareOp op) r) (ho' : OpR X (compareOp op') r') (ha : PE X a ta) (hb : PE X b tb) (hc : PE X c tc) (hl : lastMarks [op, op'] [b, c] = false := by rfl) :
    PE X (.Compare a [op, op'] [b, c] pos) (uChain r r' ta tb tc) := by rw [uChain_eq]; exact pe_chain ho ho' ha hb hc hl
theorem put_chain {op op' : CmpOp} {r r' : R2} (ho : OpR X (compareOp op) r) (ho' : OpR X (compareOp op') r') (ha : PE X a ta) (hb : PE X b tb) (hc : PE X c tc) (hl : lastMarks [op, op'] [b, c] = false := by rfl) :
    PT X (.Compare a [op, op'] [b, c] pos) (uT (uChain r r' ta tb tc)) := by rw [uT_eq', uChain_eq]; exact pt_chain ho ho' ha hb hc hl
end

/-! ### items and slices -/
def uIx (K : PySem.W.Frag) : R2 := fun x y H Q => match x, y with
  | .str z, .int i => z.length ≤ sizeLine ∧ oK (atI z.cps.toList i) fun c => Q (.str ⟨#[c]⟩) H
  | .ref p, .int i => oS K H p fun xs => oK (atI xs i) fun v => Q v H
  | _, _ => False
theorem iu_ix {X : Cx} : IxR X (uIx X.K) := IxRi ix_seq fun x y H Q h => by
  unfold uIx at h
  split at h
  · obtain ⟨h1, h2⟩ := h
    obtain ⟨c, e, h2⟩ := oK_ex h2
    exact .inr (.inr ⟨_, _, _, rfl, rfl, h1, e, h2⟩)
  · obtain ⟨xs, e, h⟩ := h
    obtain ⟨v, e2, h⟩ := oK_ex h
    rcases e with q | q
    · exact .inl ⟨_, _, _, _, rfl, rfl, q, e2, h⟩
    · exact .inr (.inl ⟨_, _, _, _, rfl, rfl, q, e2, h⟩)
  · exact h.elim
def uPart (t : TE) : TO := fun σ H Q => t σ H fun x H1 => match x with | .int i => Q (some i) H1 | _ => False
theorem pou_some {X : Cx} {e : Expr} {te : TE} (h : PE X e te) : PO X (some e) (uPart te) := by
  have : uPart te = tPart te := by
    funext σ H Q; unfold uPart tPart; congr 1; funext x H1
    cases x <;> simp
  rw [this]; exact po_some h
/-- texts and lists -/
def uSl (K : PySem.W.Frag) : V → Option Int → Option Int → Hp → VK → Prop := fun x lo hi H Q => match x with
  | .str z => z.length ≤ sizeLine ∧ Q (.str (cutS z lo hi)) H
  | .ref a => (match rdL K H a with
    | some xs => ∀ p, H p = none → Q (.ref p) (upd H p (.lst (cutV xs lo hi)))
    | none => (match rdT K H a with
      | some xs => ¬ (HT.sIx xs.length 0 lo = 0 ∧ HT.sIx xs.length xs.length hi = xs.length) ∧ ∀ p, H p = none → Q (.ref p) (upd H p (.tup (cutV xs lo hi)))
      | none => False))
  | _ => False
theorem su_sl {X : Cx} : L2.SlR X (uSl X.K) := SlRi (sl_str.or (sl_list.or sl_tup)) fun x lo hi H Q h => by
  unfold uSl at h
  split at h
  · exact .inl ⟨_, rfl, h.1, h.2⟩
  · split at h
    · exact .inr (.inl ⟨_, _, rfl, rdL_sq (by assumption), h⟩)
    · split at h
      · exact .inr (.inr ⟨_, _, rfl, rdT_sq (by assumption), h.1, h.2⟩)
      · exact h.elim
  · exact h.elim

/-! ### builtins -/
def uLen (K : PySem.W.Frag) : List V → Hp → VK → Prop := fun xs H Q => match xs with
  | [.str z] => z.length ≤ sizeLine ∧ Q (.int z.length) H
  | [.ref p] => oS K H p fun ys => Q (.int ys.length) H
  | _ => False
def uMax2 : List V → Hp → VK → Prop := fun xs H Q => match xs with
  | [.int i, .int j] => Q (.int (if j > i then j else i)) H
  | _ => False
def uMin2 : List V → Hp → VK → Prop := fun xs H Q => match xs with
  | [.int i, .int j] => Q (.int (if j < i then j else i)) H
  | _ => False
def uStr : List V → Hp → VK → Prop := fun xs H Q => match xs with
  | [.int i] => i.natAbs.log2 < 1920 ∧ Q (.str (toString i)) H
  | _ => False
section
variable {X : Cx}
theorem cu_len : CallR X (.builtin "len") (uLen X.K) := CallRi call_len fun xs H Q h => by
  unfold uLen at h
  split at h
  · exact ⟨_, _, rfl, ⟨h.1, rfl⟩, h.2⟩
  · obtain ⟨ys, e, h⟩ := h
    rcases e with q | q
    · exact ⟨_, _, rfl, .inl ⟨_, q, rfl⟩, h⟩
    · exact ⟨_, _, rfl, .inr ⟨_, q, rfl⟩, h⟩
  · exact h.elim
theorem cu_max (hc : X.calm = true) : CallR X (.builtin "max") uMax2 := CallRi (call_max2 hc) fun xs H Q h => by
  unfold uMax2 at h
  split at h
  · exact ⟨_, _, rfl, h⟩
  · exact h.elim
theorem cu_min (hc : X.calm = true) : CallR X (.builtin "min") uMin2 := CallRi (call_min2 hc) fun xs H Q h => by
  unfold uMin2 at h
  split at h
  · exact ⟨_, _, rfl, h⟩
  · exact h.elim
theorem cu_str : CallR X (.type "str") uStr := CallRi call_str_int fun xs H Q h => by
  unfold uStr at h
  split at h
  · exact ⟨_, rfl, h⟩
  · exact h.elim
end
/-! ### kinds of values -/
inductive Ty | non | bl | int | str | lst | tup | dct
  deriving DecidableEq
def Ty.nm : Ty → String | .non => "NoneType" | .bl => "bool" | .int => "int" | .str => "str" | .lst => "list" | .tup => "tuple" | .dct => "dict"
def tyO : HO → Option Ty
  | .lst _ => some .lst
  | .tup _ => some .tup
  | .dK _ => some .dct
  | .dT _ => some .dct
  | .frz _ (.lst _) => some .lst
  | .frz _ (.tup _) => some .tup
  | _ => none
def tyOf (H : Hp) : V → Option Ty
  | .non => some .non | .bl _ => some .bl | .int _ => some .int | .str _ => some .str
  | .ref a => (H a).bind tyO
  | _ => none
theorem tyOf_x {K : PySem.W.Frag} {H : Hp} {v : V} {t : Ty} (h : tyOf H v = some t) : TyX K H v (.type t.nm) := by
  cases v with
  | non => cases h; exact .base .non
  | bl b => cases h; exact .base (.bl b)
  | int i => cases h; exact .base (.int i)
  | str x => cases h; exact .base (.str x)
  | byt b => cases h
  | flt b => cases h
  | ty n => cases h
  | ref a =>
    have h : (H a).bind tyO = some t := h
    cases e : H a with
    | none => rw [e] at h; cases h
    | some o =>
      rw [e] at h
      have h : tyO o = some t := h
      unfold tyO at h
      split at h <;> first | (cases h; done) | (cases h; first | exact .base (.lst e) | exact .base (.tup e) | exact .base (.dK e) | exact .base (.dT e) | exact .base (.frz e) | exact .fTuple e)
/-- is a thing of the one kind a thing of the other -/
def isT (t c : Ty) : Bool := decide (t = c) || (decide (t = .bl) && decide (c = .int))
theorem isT_kit (t c : Ty) : kitB t.nm c.nm = some (isT t c) := by cases t <;> cases c <;> decide +kernel
def uIsi (c : Ty) (te : TE) : TE := fun σ H Q => te σ H fun x H1 => oK (tyOf H1 x) fun t => Q (.bl (isT t c)) H1
def rIsiC (c : Ty) : List V → Hp → VK → Prop := fun xs H Q => match xs with
  | [x, y] => y = .ty c.nm ∧ oK (tyOf H x) fun t => Q (.bl (isT t c)) H
  | _ => False
def uIsiT (cs : List Ty) : List V → Hp → VK → Prop := fun xs H Q => match xs with
  | [x, .ref p] => H p = some (.tup (cs.map fun c => .ty c.nm)) ∧ oK (tyOf H x) fun t => Q (.bl (cs.any (isT t))) H
  | _ => False
theorem kitAny_any {K : PySem.W.Frag} (t : Ty) : ∀ cs : List Ty, PySem.W.kitAny K (.type t.nm) (cs.map fun c => Value.type c.nm) = some (cs.any (isT t))
  | [] => rfl
  | c :: cs => by
    have ih := kitAny_any (K := K) t cs
    have h1 := kit_ty (K := K) (isT_kit t c)
    rw [List.map_cons, List.any_cons]
    cases hb : isT t c with
    | true => exact kitAny_cons (h1.trans (by rw [hb])) (fun z => Bool.noConfusion z) fun _ => rfl
    | false => exact kitAny_cons (h1.trans (by rw [hb])) (fun _ => by rw [Bool.false_or]; exact ih) fun z => Bool.noConfusion z
theorem pairedCls : ∀ cs : List Ty, Paired ClsV (cs.map fun c => V.ty c.nm) (cs.map fun c => Value.type c.nm)
  | [] => .nil
  | c :: cs => .cons (.ty _) (pairedCls cs)
theorem uIsi_eq (c : Ty) (te : TE) : uIsi c te = tCB (rIsiC c) (tCons te (tCons (tC (.ty c.nm)) tNil)) := by
  funext σ H Q
  show te σ H _ = te σ H _
  congr 1; funext x H1
  show _ = (V.ty c.nm = V.ty c.nm ∧ _)
  simp
section
variable {X : Cx} {e : Expr} {te : TE} {p pos q : Pos}
theorem cu_isi (c : Ty) : CallR X (.builtin "isinstance") (rIsiC c) := CallRi call_isi fun xs H Q h => by
  unfold rIsiC at h
  split at h
  · obtain ⟨rfl, h⟩ := h
    obtain ⟨t, e, h⟩ := oK_ex h
    exact ⟨_, _, _, _, _, rfl, .ty _, tyOf_x e, kit_ty (isT_kit _ _), h⟩
  · exact h.elim
theorem cu_isiT (cs : List Ty) : CallR X (.builtin "isinstance") (uIsiT cs) := CallRi call_isiT fun xs H Q h => by
  unfold uIsiT at h
  split at h
  · obtain ⟨h1, h⟩ := h
    obtain ⟨t, e, h⟩ := oK_ex h
    exact ⟨_, _, _, _, _, _, rfl, h1, pairedCls cs, tyOf_x e, kitAny_any _ _, h⟩
  · exact h.elim
theorem pue_isi {n : Str} (c : Ty) (he : PE X e te) (hg : Gl X "isinstance") (hm : X.mg "isinstance" = none) (hn : Gl X n) (hmn : X.mg n = none) (hv : bootBuiltins n = some (.type c.nm)) (hnn : n ≠ "__name__" := by decide) (hnd : (n == ("__debug__" : Str)) = false := by decide)
    (hs1 : starEach [e, .Name n q] X.env = (false, eval e X.env) :: starEach [.Name n q] X.env := by rfl) (hs2 : starEach [.Name n q] X.env = (false, eval (.Name n q) X.env) :: starEach [] X.env := by rfl) (hs3 : ((backTo pos (starEach [.Name n q] X.env)).any fun x => x.fst) = false := by rfl) :
    PE X (.Call (.Name "isinstance" p) [e, .Name n q] [] pos) (uIsi c te) := by
  rw [uIsi_eq]
  have h2 : PE X (.Name n q) (tC (.ty c.nm)) := pe_bltn hn hmn hv rfl hnn hnd
  exact pe_callB (cu_isi c) hg hm (by decide +kernel) (pa_cons he (pa_cons h2 pa_nil hs2) hs1) (by decide) (by decide) hs1 hs3
end

/-! ### loops -/
def chars (z : Str) : List V := z.cps.toList.map fun c => V.str ⟨#[c]⟩
/-- what a walk over a value gives -/
def items (K : PySem.W.Frag) (H : Hp) : V → Option (List V)
  | .str z => some (chars z)
  | .ref a => rdS K H a
  | _ => none
/-- the walk over x at H1 -/
def goIt (K : PySem.W.Frag) (x : V) (H1 : Hp) (R : It → Hp → Prop) : Prop := match x with
  | .str z => R (Its z) H1
  | .ref a => (match rdL K H1 a with
    | some _ => R (Itl K a) H1
    | none => (match rdT K H1 a with
      | some _ => R (Itt K a) H1
      | none => False))
  | _ => False
def uIter (K : PySem.W.Frag) (te : TE) : TI := fun σ H R => te σ H fun x H1 => goIt K x H1 R
theorem piu {X : Cx} {tg e : Expr} {te : TE} (he : PE X e te) : PI X tg e (uIter X.K te) := by
  refine ⟨fun pins s σ H R I h => ?_⟩
  refine thn (he.run pins s σ H _ I h) fun v s1 ⟨y, H1, I1, r1, q⟩ => ?_
  dsimp only at q
  unfold goIt at q
  split at q
  · rename_i x
    obtain ⟨t, rfl⟩ := r1
    cases ha : x.cps.all (· < 128)
    · exact wpAny_pyIter_wide ha (pi_one (tk := s1.toks) I1 _ (turn_str _ x t "str_iterator" (.inr rfl)) ⟨_, Heap.get?_push_size _ rfl, rfl, rfl⟩ q)
    · exact wpAny_pyIter_ascii ha (pi_one (tk := s1.toks) I1 _ (turn_str _ x t "str_ascii_iterator" (.inl rfl)) ⟨_, Heap.get?_push_size _ rfl, rfl, rfl⟩ q)
  · rename_i a
    split at q
    · rename_i xs hx
      have hq := rdL_sq hx
      cases r1
      obtain ⟨its, rv, p, hz⟩ := I1.list hq
      refine wpAny_pyIter_list p.isList ?_
      refine ⟨s1.heap.objs.size, [s1.heap.objs.size], _, _, H1, rfl, I1.kept (t' := s1.toks) fun b o e => Heap.get?_push_of_some _ e, turn_list a _, ⟨_, Heap.get?_push_size _ rfl, rfl, rfl⟩, fun b hb => ?_, q⟩
      have e : b = s1.heap.objs.size := by simpa using hb
      subst e
      exact I1.fpOk (Nat.le_refl _) (I1.hok.fresh (Nat.le_refl _))
    · split at q
      · rename_i xs hx
        have hq := rdT_sq hx
        cases r1
        obtain ⟨its, rv, p, hz⟩ := I1.tuple hq
        refine wpAny_pyIter_tuple (show s1.heap.IsTuple a its.toArray from p) ?_
        refine ⟨s1.heap.objs.size, [s1.heap.objs.size], _, _, H1, rfl, I1.kept (t' := s1.toks) fun b o e => Heap.get?_push_of_some _ e, turn_tuple a _, ⟨_, Heap.get?_push_size _ rfl, rfl, rfl⟩, fun b hb => ?_, q⟩
        have e : b = s1.heap.objs.size := by simpa using hb
        subst e
        exact I1.fpOk (Nat.le_refl _) (I1.hok.fresh (Nat.le_refl _))
      · exact q.elim
  · exact q.elim
theorem walk_chars {z : Str} : Walk (Its z) (chars z).length (fun _ => True) (YAt (chars z)) := by
  have hl : (chars z).length = z.cps.size := by unfold chars; simp
  rw [hl]
  refine ⟨fun _ _ hi _ => hi, fun _ _ => Nat.le_refl _, fun i H v H' hi _ y => ?_⟩
  obtain ⟨e, c, hc, rfl⟩ := y
  refine ⟨e, ?_⟩
  unfold chars
  rw [List.getElem?_map, Array.getElem?_toList, hc]
  rfl
/-- what is walked: the value, its items, what must stay -/
inductive Src (K : PySem.W.Frag) : V → It → List V → (Hp → Prop) → Prop
  | str (z : Str) : Src K (.str z) (Its z) (chars z) (fun _ => True)
  | lst (a : Addr) (xs : List V) : Src K (.ref a) (Itl K a) xs (fun H => rdL K H a = some xs)
  | tup (a : Addr) (xs : List V) : Src K (.ref a) (Itt K a) xs (fun H => rdL K H a = none ∧ rdT K H a = some xs)
theorem Src.walk {K : PySem.W.Frag} {x : V} {J : It} {xs : List V} {G : Hp → Prop} (S : Src K x J xs G) : Walk J xs.length G (YAt xs) := by
  cases S with
  | str z => exact walk_chars
  | lst a => exact walk_list.mono (fun _ g => rdL_sq g) fun _ _ _ _ _ _ y => y
  | tup a => exact walk_tup.mono (fun _ g => rdT_sq g.2) fun _ _ _ _ _ _ y => y
theorem Src.go {K : PySem.W.Frag} {x : V} {J : It} {xs : List V} {G : Hp → Prop} (S : Src K x J xs G) {H1 : Hp} (g : G H1) {R : It → Hp → Prop} (h : R J H1) : goIt K x H1 R := by
  cases S with
  | str z => exact h
  | lst a => show match rdL K H1 a with | some _ => _ | none => _; rw [show rdL K H1 a = some xs from g]; exact h
  | tup a =>
    show match rdL K H1 a with | some _ => _ | none => _
    rw [g.1]
    show match rdT K H1 a with | some _ => _ | none => _
    rw [g.2]; exact h
theorem for_src {K : PySem.W.Frag} {x : V} {J : It} {xs : List V} {G : Hp → Prop} (S : Src K x J xs G) {g : TG} {tb : TS} {D : Ends} {σ : St} {H : Hp} (hG : G H) (Pv : Nat → St → Hp → Prop) (h0 : Pv 0 σ H) (hst : ∀ i σ H, i ≤ xs.length → Pv i σ H → G H)
    (hs : ∀ i y σ H, xs[i]? = some y → Pv i σ H → g y σ H fun σ2 H2 => tb { D with nx := Pv (i + 1), ct := Pv (i + 1), bk := D.nx } σ2 H2) (hd : ∀ σ H, Pv xs.length σ H → D.nx σ H) :
    goIt K x H fun J H1 => ∃ W : Nat → Nat → St → Hp → Prop, (∃ m, W 0 m σ H1) ∧ ∀ i m σ H, W i m σ H →
      (J.stop i H ∧ D.nx σ H) ∨ (J.go i H ∧ ∃ N : St → Hp → Prop, (∀ σ' H', N σ' H' → ∃ m', m' < m ∧ W (i + 1) m' σ' H') ∧ ∀ x H', J.yld i H x H' → g x σ H' fun σ2 H2 => tb { D with nx := N, ct := N, bk := D.nx } σ2 H2) :=
  S.go hG (for_it S.walk Pv h0 hst (fun i y σ H H' hi p q => by obtain ⟨e, hy⟩ := q; subst e; exact hs i y σ _ hy p) hd)
/-- a comprehension over it -/
theorem lc_src {K : PySem.W.Frag} {x : V} {J : It} {xs : List V} {G : Hp → Prop} (S : Src K x J xs G) {g : TG} {tt : TT} {te : TE} {vs : List Nat} {σ : St} {H1 : Hp} {Q : VK} (hG : G H1) (Pv : Addr → Nat → Hp → Prop)
    (h0 : ∀ D, H1 D = none → Pv D 0 (upd H1 D (.lst []))) (hst : ∀ D i H, i ≤ xs.length → Pv D i H → G H)
    (hs : ∀ D i y H, xs[i]? = some y → Pv D i H → g y (wipe σ vs) H fun σ2 H2 => wipe σ2 vs = wipe σ vs ∧ tt σ2 H2 fun b H3 =>
      if b = true then te σ2 H3 fun y H4 => ∃ acc, H4 D = some (.lst acc) ∧ acc.length < sizeLine ∧ Pv D (i + 1) (upd H4 D (.lst (acc ++ [y]))) else Pv D (i + 1) H3) (hd : ∀ D H, H1 D = none → Pv D xs.length H → Q (.ref D) H) :
    goIt K x H1 fun J H1 => ∀ D, H1 D = none → ∃ W : Nat → Nat → Hp → Prop, (∃ m, W 0 m (upd H1 D (.lst []))) ∧ ∀ i m H, W i m H →
      (J.stop i H ∧ Q (.ref D) H) ∨ (J.go i H ∧ ∃ Nx : Hp → Prop, (∀ H', Nx H' → ∃ m', m' < m ∧ W (i + 1) m' H') ∧ ∀ x H', J.yld i H x H' → g x (wipe σ vs) H' fun σ2 H2 => wipe σ2 vs = wipe σ vs ∧ tt σ2 H2 fun b H3 =>
        if b = true then te σ2 H3 fun y H4 => ∃ acc, H4 D = some (.lst acc) ∧ acc.length < sizeLine ∧ Nx (upd H4 D (.lst (acc ++ [y]))) else Nx H3) :=
  S.go hG fun D hD => lc_it S.walk (Pv D) (h0 D hD) (hst D) (fun i y H H' hi p q => by obtain ⟨e, hy⟩ := q; subst e; exact hs D i y _ hy p) fun H p => hd D H hD p
/-- .. whose items are flat: f x where c x -/
theorem take_map {α : Type} {c : V → Bool} {f : V → α} {xs : List V} {i : Nat} {y : V} (h : xs[i]? = some y) :
    (((xs.take (i + 1)).filter c).map f) = ((xs.take i).filter c).map f ++ (if c y then [f y] else []) := by
  rw [List.take_add_one, h, List.filter_append, List.map_append]
  show _ ++ List.map f (List.filter c [y]) = _
  rw [List.filter_cons]
  cases hc : c y <;> simp
theorem lc_flat {K : PySem.W.Frag} {x : V} {J : It} {xs : List V} {G : Hp → Prop} (S : Src K x J xs G) {j : Nat} {tt : TT} {te : TE} {vs : List Nat} {σ : St} {H1 : Hp} {Q : VK} (hG : G H1) (hGx : ∀ H', Ex H1 H' → G H') (c : V → Bool) (f : V → V) (hz : xs.length < sizeLine)
    (hw : ∀ y, wipe ((wipe σ vs).set j (some y)) vs = wipe σ vs)
    (ht : ∀ (i : Nat) y H', xs[i]? = some y → Ex H1 H' → ∀ R : Bool → Hp → Prop, (∀ H2, Ex H' H2 → R (c y) H2) → tt ((wipe σ vs).set j (some y)) H' R)
    (he : ∀ (i : Nat) y H', xs[i]? = some y → c y = true → Ex H1 H' → ∀ R : VK, (∀ H2, Ex H' H2 → R (f y) H2) → te ((wipe σ vs).set j (some y)) H' R)
    (hd : ∀ D H, H1 D = none → Ex H1 H → H D = some (.lst ((xs.filter c).map f)) → Q (.ref D) H) :
    goIt K x H1 fun J H1 => ∀ D, H1 D = none → ∃ W : Nat → Nat → Hp → Prop, (∃ m, W 0 m (upd H1 D (.lst []))) ∧ ∀ i m H, W i m H →
      (J.stop i H ∧ Q (.ref D) H) ∨ (J.go i H ∧ ∃ Nx : Hp → Prop, (∀ H', Nx H' → ∃ m', m' < m ∧ W (i + 1) m' H') ∧ ∀ x H', J.yld i H x H' → gName j x (wipe σ vs) H' fun σ2 H2 => wipe σ2 vs = wipe σ vs ∧ tt σ2 H2 fun b H3 =>
        if b = true then te σ2 H3 fun y H4 => ∃ acc, H4 D = some (.lst acc) ∧ acc.length < sizeLine ∧ Nx (upd H4 D (.lst (acc ++ [y]))) else Nx H3) := by
  refine lc_src S hG (fun D i H => H1 D = none ∧ Ex H1 H ∧ H D = some (.lst (((xs.take i).filter c).map f))) (fun D hD => ⟨hD, Ex.new hD, upd_same⟩) (fun D i H _ p => hGx H p.2.1) ?_ ?_
  · intro D i y H hy ⟨hD, e, hl⟩
    have hi : i < xs.length := (List.getElem?_eq_some_iff.mp hy).1
    refine ⟨hw y, ht i y H hy e _ fun H3 e3 => ?_⟩
    have tm := take_map (c := c) (f := f) hy
    cases hc : c y with
    | false =>
      rw [hc] at tm
      rw [if_neg (by decide)]
      refine ⟨hD, e.trans e3, ?_⟩
      rw [tm]; simp only [Bool.false_eq_true, if_false, List.append_nil]; exact e3 D _ hl
    | true =>
      rw [hc] at tm
      rw [if_pos rfl]
      refine he i y H3 hy hc (e.trans e3) _ fun H4 e4 => ⟨_, e4 D _ (e3 D _ hl), ?_, hD, Ex.mut ((e.trans e3).trans e4) hD, ?_⟩
      · rw [List.length_map]
        have := List.length_filter_le c (xs.take i)
        rw [List.length_take] at this
        omega
      · rw [tm]; simp only [if_true]; exact upd_same
  · intro D H hD ⟨_, e, hl⟩
    rw [List.take_length] at hl
    exact hd D H hD e hl

/-! ### further builtins -/
def uAll (K : PySem.W.Frag) : List V → Hp → VK → Prop := fun xs H Q => match xs with
  | [.ref a] => oK (rdL K H a) fun ys => ∃ bs : List Bool, ys = bs.map V.bl ∧ Q (.bl (bs.all id)) H
  | _ => False
def uAny (K : PySem.W.Frag) : List V → Hp → VK → Prop := fun xs H Q => match xs with
  | [.ref a] => oK (rdL K H a) fun ys => ∃ bs : List Bool, ys = bs.map V.bl ∧ Q (.bl (bs.any id)) H
  | _ => False
def uList (K : PySem.W.Frag) : List V → Hp → VK → Prop := fun xs H Q => match xs with
  | [.ref a] => oS K H a fun ys => ∀ l, H l = none → Q (.ref l) (upd H l (.lst ys))
  | _ => False
def uTuple (K : PySem.W.Frag) : List V → Hp → VK → Prop := fun xs H Q => match xs with
  | [.ref a] => (match rdL K H a with
    | some ys => ∀ l, H l = none → Q (.ref l) (upd H l (.tup ys))
    | none => (match rdT K H a with
      | some _ => Q (.ref a) H
      | none => False))
  | _ => False
def uJoin (K : PySem.W.Frag) : V → List V → Hp → VK → Prop := fun x xs H Q => match x, xs with
  | .str a, [.ref p] => oS K H p fun vs => ∃ ys : List Str, vs = ys.map V.str ∧ (ys.map (·.length)).sum + ys.length * a.length ≤ 16777216 ∧ Q (.str (Txt.join a ys)) H
  | _, _ => False
/-- a list that may be changed -/
def mutL (H : Hp) (l : Addr) : Option (List V) := match H l with
  | some (.lst xs) => some xs
  | _ => none
theorem mutL_of {H : Hp} {l : Addr} {xs : List V} (h : H l = some (.lst xs)) : mutL H l = some xs := by unfold mutL; rw [h]
theorem of_mutL {H : Hp} {l : Addr} {xs : List V} (h : mutL H l = some xs) : H l = some (.lst xs) := by
  unfold mutL at h
  split at h
  · cases h; assumption
  · cases h
def uAppend : V → List V → Hp → VK → Prop := fun x vs H Q => match x, vs with
  | .ref l, [y] => oK (mutL H l) fun xs => xs.length < sizeLine ∧ Q .non (upd H l (.lst (xs ++ [y])))
  | _, _ => False
def uSetL : V → V → V → Hp → (Hp → Prop) → Prop := fun o i v H Q => match o, i with
  | .ref p, .int k => oK (mutL H p) fun xs => oK (ixN xs.length k) fun j => Q (upd H p (.lst (xs.set j v)))
  | _, _ => False
def tPar2 (i j : Nat) (ta : TA) : TS := fun D σ H => ta σ H fun vs H1 => match vs with
  | [v, w] => D.nx ((σ.set i (some v)).set j (some w)) H1
  | _ => False
def uNeg : V → Hp → VK → Prop := fun x H Q => match x with
  | .int i => Q (.int (-i)) H
  | _ => False
section
variable {X : Cx}
theorem cu_all (hc : X.calm = true) : CallR X (.builtin "all") (uAll X.K) := CallRi (cr_all hc) fun xs H Q h => by
  unfold uAll at h
  split at h
  · obtain ⟨ys, e, bs, rfl, h⟩ := oK_ex h
    exact ⟨_, bs, rfl, rdL_sq e, h⟩
  · exact h.elim
theorem cu_any (hc : X.calm = true) : CallR X (.builtin "any") (uAny X.K) := CallRi (cr_any hc) fun xs H Q h => by
  unfold uAny at h
  split at h
  · obtain ⟨ys, e, bs, rfl, h⟩ := oK_ex h
    exact ⟨_, bs, rfl, rdL_sq e, h⟩
  · exact h.elim
theorem cu_list : CallR X (.type "list") (uList X.K) := CallRi call_list_of fun xs H Q h => by
  unfold uList at h
  split at h
  · obtain ⟨ys, e, h⟩ := h
    exact ⟨_, _, rfl, e, h⟩
  · exact h.elim
theorem cu_tuple : CallR X (.type "tuple") (uTuple X.K) := CallRi call_tuple_of fun xs H Q h => by
  unfold uTuple at h
  split at h
  · split at h
    · exact ⟨_, _, rfl, .inl ⟨rdL_sq (by assumption), h⟩⟩
    · split at h
      · exact ⟨_, _, rfl, .inr ⟨rdT_sq (by assumption), h⟩⟩
      · exact h.elim
  · exact h.elim
theorem mu_join : MtR X "str.join" (uJoin X.K) := MtRi mt_join fun x xs H Q h => by
  unfold uJoin at h
  split at h
  · obtain ⟨vs, e, ys, rfl, h1, h2⟩ := h
    exact ⟨_, _, ys, rfl, rfl, e, h1, h2⟩
  · exact h.elim
theorem mu_append : MtR X "list.append" uAppend := MtRi (r := rAppend) mt_append fun x xs H Q h => by
  unfold uAppend at h
  split at h
  · obtain ⟨xs, e, h1, h2⟩ := oK_ex h
    exact ⟨_, _, _, rfl, rfl, of_mutL e, h1, h2⟩
  · exact h.elim
theorem setu : PSet X uSetL := fun pins s σ H o i v ov iv u Q I ro ri rv h => set_list pins s σ H o i v ov iv u Q I ro ri rv (by
  unfold uSetL at h
  split at h
  · obtain ⟨xs, e, h⟩ := oK_ex h
    obtain ⟨j, e2, h⟩ := oK_ex h
    exact ⟨_, _, _, _, rfl, rfl, of_mutL e, e2, h⟩
  · exact h.elim)
theorem tPar2_eq (i j : Nat) (ta : TA) : tPar2 i j ta = tPar i j ta := by
  funext D σ H
  unfold tPar2 tPar
  congr 1; funext vs H1
  match vs with
  | [] => simp
  | [_] => simp
  | [v, w] => exact propext ⟨fun h => ⟨v, w, rfl, h⟩, fun ⟨_, _, e, h⟩ => by cases e; exact h⟩
  | _ :: _ :: _ :: _ => simp
theorem pus_par {i j : Nat} {x y : Str} {a b : Expr} {ta : TA} {px py pt pos : Pos} {kt k2 pt2} (hc : X.calm = true) (hN : X.N.Nodup) (hi : X.N[i]? = some x) (hj : X.N[j]? = some y) (hij : i ≠ j)
    (hx : X.env.scope.names.lookup x = some .local) (hy : X.env.scope.names.lookup y = some .local) (ha : PA X [a, b] ta)
    (hw : swappedStores [.Tuple [.Name x px, .Name y py] kt pt] (.Tuple [a, b] k2 pt2) X.env = pure (some [x, y]))
    (hs : swapsWithSole [.Tuple [.Name x px, .Name y py] kt pt] (.Tuple [a, b] k2 pt2) pos.line X.env = pure false := by rfl) :
    PS X (.Assign [.Tuple [.Name x px, .Name y py] kt pt] (.Tuple [a, b] k2 pt2) pos) (tPar2 i j ta) := by
  rw [tPar2_eq]; exact ps_par hc hN hi hj hij hx hy ha hw hs
theorem ou_neg : UnR X (unaryOp .USub) uNeg := fun pins s σ H x v Q I r h => un_neg pins s σ H x v Q I r (by
  unfold uNeg at h
  split at h
  · exact ⟨_, rfl, h⟩
  · exact h.elim)
end

/-! ### loops and comprehensions, the walked thing evaluated -/
section
variable {K : PySem.W.Frag} {x : V} {J : It} {xs : List V} {G : Hp → Prop} {tx : TE} {σ : St} {H H1 : Hp}
theorem lcf (S : Src K x J xs G) {j : Nat} {tt : TT} {te : TE} {vs : List Nat} {Q : VK} (hx : ∀ R : VK, R x H1 → tx σ H R) (hG : G H1) (hGx : ∀ H', Ex H1 H' → G H') (c : V → Bool) (f : V → V) (hz : xs.length < sizeLine)
    (hw : ∀ y, wipe ((wipe σ vs).set j (some y)) vs = wipe σ vs)
    (ht : ∀ (i : Nat) y H', xs[i]? = some y → Ex H1 H' → ∀ R : Bool → Hp → Prop, (∀ H2, Ex H' H2 → R (c y) H2) → tt ((wipe σ vs).set j (some y)) H' R)
    (he : ∀ (i : Nat) y H', xs[i]? = some y → c y = true → Ex H1 H' → ∀ R : VK, (∀ H2, Ex H' H2 → R (f y) H2) → te ((wipe σ vs).set j (some y)) H' R)
    (hd : ∀ D H, H1 D = none → Ex H1 H → H D = some (.lst ((xs.filter c).map f)) → Q (.ref D) H) :
    tLc (uIter K tx) (gName j) tt te vs σ H Q := hx _ (lc_flat S hG hGx c f hz hw ht he hd)
theorem lcs (S : Src K x J xs G) {g : TG} {tt : TT} {te : TE} {vs : List Nat} {Q : VK} (hx : ∀ R : VK, R x H1 → tx σ H R) (hG : G H1) (Pv : Addr → Nat → Hp → Prop)
    (h0 : ∀ D, H1 D = none → Pv D 0 (upd H1 D (.lst []))) (hst : ∀ D i H, i ≤ xs.length → Pv D i H → G H)
    (hs : ∀ D i y H, xs[i]? = some y → Pv D i H → g y (wipe σ vs) H fun σ2 H2 => wipe σ2 vs = wipe σ vs ∧ tt σ2 H2 fun b H3 =>
      bB b (te σ2 H3 fun y H4 => ∃ acc, H4 D = some (.lst acc) ∧ acc.length < sizeLine ∧ Pv D (i + 1) (upd H4 D (.lst (acc ++ [y])))) (Pv D (i + 1) H3)) (hd : ∀ D H, H1 D = none → Pv D xs.length H → Q (.ref D) H) :
    tLc (uIter K tx) g tt te vs σ H Q := hx _ (lc_src S hG Pv h0 hst (by simp only [bB_if] at hs; exact hs) hd)
theorem fors (S : Src K x J xs G) {g : TG} {tb : TS} {D : Ends} (hx : ∀ R : VK, R x H1 → tx σ H R) (hG : G H1) (Pv : Nat → St → Hp → Prop) (h0 : Pv 0 σ H1) (hst : ∀ i σ H, i ≤ xs.length → Pv i σ H → G H)
    (hs : ∀ i y σ H, xs[i]? = some y → Pv i σ H → g y σ H fun σ2 H2 => tb { D with nx := Pv (i + 1), ct := Pv (i + 1), bk := D.nx } σ2 H2) (hd : ∀ σ H, Pv xs.length σ H → D.nx σ H) :
    tFor (uIter K tx) g tb D σ H := hx _ (for_src S hG Pv h0 hst hs hd)
end
/-- for over range(n) -/
theorem forr {ta : TA} {j : Nat} {tb : TS} {D : Ends} {σ : St} {H H1 : Hp} {n : Int} (hx : ∀ R : List V → Hp → Prop, R [.int n] H1 → ta σ H R) (hn : n < 2 ^ 62) (hn0 : -(2 ^ 62) ≤ n) (Pv : Nat → St → Hp → Prop) (h0 : Pv 0 σ H1)
    (hs : ∀ (i : Nat) σ H, (i : Int) < n → Pv i σ H → tb { D with nx := Pv (i + 1), ct := Pv (i + 1), bk := D.nx } (σ.set j (some (.int (i : Int)))) H) (hd : ∀ σ H, Pv n.toNat σ H → D.nx σ H) :
    tFor (iRng1 ta) (gName j) tb D σ H := hx _ ⟨n, rfl, hn0, hn, for_it walk_range Pv h0 (fun _ _ _ _ _ => trivial) (fun i y σ H H' hi p q => by
      obtain ⟨e, ey⟩ := q
      subst e; subst ey
      have e0 : (0 : Int) + (i : Int) = (i : Int) := Int.zero_add _
      show tb _ (σ.set j (some (.int ((0 : Int) + (i : Int))))) _
      rw [e0]
      exact hs i σ _ (by omega) p) hd⟩
/-- [e for k in range(n)] -/
theorem lcr {ta : TA} {j : Nat} {tt : TT} {te : TE} {vs : List Nat} {σ : St} {H H1 : Hp} {Q : VK} {n : Int} (hx : ∀ R : List V → Hp → Prop, R [.int n] H1 → ta σ H R) (hn : n < 2 ^ 62) (hn0 : -(2 ^ 62) ≤ n) (Pv : Addr → Nat → Hp → Prop)
    (h0 : ∀ D, H1 D = none → Pv D 0 (upd H1 D (.lst [])))
    (hw : ∀ y, wipe ((wipe σ vs).set j (some y)) vs = wipe σ vs)
    (hs : ∀ D (i : Nat) H, (i : Int) < n → Pv D i H → tt ((wipe σ vs).set j (some (.int (i : Int)))) H fun b H3 =>
      bB b (te ((wipe σ vs).set j (some (.int (i : Int)))) H3 fun y H4 => ∃ acc, H4 D = some (.lst acc) ∧ acc.length < sizeLine ∧ Pv D (i + 1) (upd H4 D (.lst (acc ++ [y])))) (Pv D (i + 1) H3)) (hd : ∀ D H, H1 D = none → Pv D n.toNat H → Q (.ref D) H) :
    tLc (iRng1 ta) (gName j) tt te vs σ H Q := hx _ ⟨n, rfl, hn0, hn, fun D hD => lc_it walk_range (Pv D) (h0 D hD) (fun _ _ _ _ => trivial) (fun i y H H' hi p q => by
      obtain ⟨e, ey⟩ := q
      subst e; subst ey
      have e0 : (0 : Int) + (i : Int) = (i : Int) := Int.zero_add _
      dsimp only
      rw [e0]
      simp only [bB_if] at hs
      exact ⟨hw _, hs D i _ (by omega) p⟩) fun H p => hd D H hD p⟩

/-! ### texts -/
abbrev sl (z : Str) : List Nat := z.cps.toList
theorem sl_inj {a b : Str} (h : sl a = sl b) : a = b := by
  obtain ⟨⟨l⟩⟩ := a
  obtain ⟨⟨m⟩⟩ := b
  have h : l = m := h
  subst h; rfl
theorem sl_len (z : Str) : z.length = (sl z).length := rfl
theorem sl_app (a b : Str) : sl (a ++ b) = sl a ++ sl b := TL.tl_append a b
theorem slen_app (a b : Str) : (a ++ b).length = a.length + b.length := by rw [sl_len, sl_app, List.length_append]; rfl
theorem sl_cut (z : Str) (lo hi : Option Int) : sl (cutS z lo hi) = ((sl z).drop (HT.sIx z.length 0 lo)).take (HT.sIx z.length z.length hi - HT.sIx z.length 0 lo) := rfl
theorem slen_cut (z : Str) (lo hi : Option Int) : (cutS z lo hi).length ≤ z.length := by
  rw [sl_len, sl_cut, List.length_take, List.length_drop, sl_len]
  omega
theorem sl_join (y : Str) (ps : List Str) : sl (Txt.join y ps) = TL.joinL (sl y) (ps.map sl) := by
  rw [TL.join_eq]; exact TL.tl_join y ps
theorem joinL_nil : ∀ ps : List (List Nat), TL.joinL [] ps = ps.flatten
  | [] => rfl
  | [p] => by simp [TL.joinL]
  | p :: q :: r => by
    show p ++ ([] ++ TL.joinL [] (q :: r)) = _
    rw [joinL_nil (q :: r)]; simp
theorem slen_join0 (ps : List Str) : (Txt.join "" ps).length = (ps.map (·.length)).sum := by
  rw [sl_len, sl_join]
  show (TL.joinL [] _).length = _
  rw [joinL_nil, List.length_flatten, List.map_map]
  rfl
/-- small sizes -/
theorem szl {n : Nat} (h : n ≤ 100000) : n ≤ sizeLine := Nat.le_trans h (by decide)
theorem szt {n : Nat} (h : n < 100000) : n < sizeLine := Nat.lt_of_lt_of_le h (by decide)
/-- an item of a list at a drawn place -/
theorem pick {α : Type} {xs : List α} {r : Int} (h0 : 0 ≤ r) (h1 : r < xs.length) : ∃ v, atI xs r = some v ∧ v ∈ xs := by
  have hj : r.toNat < xs.length := by omega
  refine ⟨xs[r.toNat], ?_, List.getElem_mem hj⟩
  unfold atI ixN
  rw [if_pos h0, if_pos h1]
  simp [hj]

/-! ### the script -/
def ScriptAt (K : PySem.W.Frag) (H : Hp) (a : Addr) (ns : List Int) : Prop :=
  (∃ o, H a = some (.frz o (.lst (ns.map V.int)))) ∨
    ∃ (o : Obj) (its : Array Value) (n : Nat), K.lookup a = some o ∧ o.cls = .type "list" ∧ o.dict = none ∧ o.data = .seq its n ∧ its.size ≤ sizeLine ∧ Vals (ns.map V.int) its.toList
theorem script_of {K : PySem.W.Frag} {H : Hp} {a : Addr} {ns : List Int} (hO : Only H) (hS : SqL K H a (ns.map V.int)) : ScriptAt K H a ns := by
  rcases hS with (h | ⟨o, h⟩) | h
  · rcases hO a with z | ⟨o, xs, z⟩
    · rw [h] at z; cases z
    · rw [h] at z; cases z
  · exact .inl ⟨o, h⟩
  · exact .inr h
theorem ScriptAt.sq {K : PySem.W.Frag} {H : Hp} {a : Addr} {ns : List Int} (h : ScriptAt K H a ns) : SqL K H a (ns.map V.int) := by
  rcases h with ⟨o, h⟩ | h
  · exact .inl (.inr ⟨o, h⟩)
  · exact .inr h
theorem ScriptAt.ex {K : PySem.W.Frag} {H H' : Hp} {a : Addr} {ns : List Int} (h : ScriptAt K H a ns) (e : Ex H H') : ScriptAt K H' a ns := by
  rcases h with ⟨o, h⟩ | h
  · exact .inl ⟨o, e _ _ h⟩
  · exact .inr h
theorem ScriptAt.fr {K : PySem.W.Frag} {H H' : Hp} {a b : Addr} {ns : List Int} {xs : List V} (h : ScriptAt K H a ns) (e : Fr b H H') (hb : H b = some (.lst xs)) : ScriptAt K H' a ns := by
  rcases h with ⟨o, h⟩ | h
  · exact .inl ⟨o, e _ _ h (ne_of h hb (by intro z; cases z))⟩
  · exact .inr h
/-- data of flat things -/
theorem dpAll_str {K : PySem.W.Frag} {H : Hp} : ∀ zs : List Str, DpAll K H (zs.map V.str) (zs.map PyData.str)
  | [] => .nil
  | z :: zs => .cons (.str z) (dpAll_str zs)
/-- all signs are code points -/
def sok (z : Str) : Prop := ∀ c ∈ sl z, c < 1114112
theorem sok_ok {z : Str} (h : sok z) : PyData.strOk z = true := by
  unfold PyData.strOk
  rw [← Array.all_toList, List.all_eq_true]
  intro c hc
  exact decide_eq_true (h c hc)
instance (z : Str) : Decidable (sok z) := inferInstanceAs (Decidable (∀ c ∈ sl z, c < 1114112))
theorem sok_app {a b : Str} (ha : sok a) (hb : sok b) : sok (a ++ b) := fun c hc => by
  rw [sl_app, List.mem_append] at hc
  exact hc.elim (ha c) (hb c)
theorem sok_cut {z : Str} (h : sok z) (lo hi : Option Int) : sok (cutS z lo hi) := fun c hc => h c (by
  rw [sl_cut] at hc
  exact List.mem_of_mem_drop (List.mem_of_mem_take hc))
theorem sok_one {c : Nat} (h : c < 1114112) : sok ⟨#[c]⟩ := fun d hd => by
  have : d = c := by simpa [sl] using hd
  omega
theorem sok_join0 {ps : List Str} (h : ∀ p ∈ ps, sok p) : sok (Txt.join "" ps) := fun c hc => by
  rw [sl_join] at hc
  have hc : c ∈ TL.joinL [] (ps.map sl) := hc
  rw [joinL_nil, List.mem_flatten] at hc
  obtain ⟨l, hl, hc⟩ := hc
  obtain ⟨p, hp, rfl⟩ := List.mem_map.mp hl
  exact h p hp c hc
theorem canLay_strs : ∀ zs : List Str, (∀ z ∈ zs, sok z) → PyData.canLayAll0 (zs.map PyData.str) = true
  | [], _ => rfl
  | z :: zs, h => by
    show (PyData.canLay0 (.str z) && PyData.canLayAll0 (zs.map PyData.str)) = true
    rw [canLay_strs zs fun y hy => h y (List.mem_cons_of_mem _ hy)]
    simp only [PyData.canLay0, Bool.and_true]
    exact sok_ok (h z List.mem_cons_self)
theorem depth_strs : ∀ zs : List Str, PyData.depthAll (zs.map PyData.str) ≤ 1
  | [] => by simp [PyData.depthAll]
  | z :: zs => by
    have := depth_strs zs
    simp only [List.map_cons, PyData.depthAll, PyData.depth]
    omega
theorem shaped_strs (zs : List Str) (h : ∀ z ∈ zs, sok z) : SeqAt.shaped (.list (zs.map PyData.str)) = true := by
  unfold SeqAt.shaped
  have h1 := canLay_strs zs h
  have h2 := depth_strs zs
  simp only [PyData.canLay0, h1, Bool.true_and, decide_eq_true_eq]
  simp only [PyData.depth]
  omega
theorem eqv_nil (ds : List PyData) : PyData.eqv (.list ds) (.list []) = ds.isEmpty := by
  cases ds <;> simp [PyData.eqv, PyData.eqvAll]
end U

namespace Lw
open PySem PySem.Spec PyProof.Rows L2 U
def topS (i : Nat) : Stmt := PySem.Challenge.pw_reflows_k01_kinds_of_words.main.body.getD i (.Pass ⟨0, 0, 0, 0⟩)
abbrev s_is_integer : Stmt := topS 4
abbrev N_is_integer : List Str := ["value", "low", "high"]
abbrev P_is_integer : List Str := ["value", "low", "high"]
theorem sc_is_integer : FnScope N_is_integer P_is_integer (defScope s_is_integer) := ⟨rfl, rfl, rfl, by decide +kernel, rfl, by decide +kernel, by decide +kernel⟩
abbrev s_is_word : Stmt := topS 5
abbrev N_is_word : List Str := ["value", "sign"]
abbrev P_is_word : List Str := ["value"]
theorem sc_is_word : FnScope N_is_word P_is_word (defScope s_is_word) := ⟨rfl, rfl, rfl, by decide +kernel, rfl, by decide +kernel, by decide +kernel⟩
abbrev s_is_mark : Stmt := topS 6
abbrev N_is_mark : List Str := ["value"]
abbrev P_is_mark : List Str := ["value"]
theorem sc_is_mark : FnScope N_is_mark P_is_mark (defScope s_is_mark) := ⟨rfl, rfl, rfl, by decide +kernel, rfl, by decide +kernel, by decide +kernel⟩
abbrev s_is_token : Stmt := topS 7
abbrev N_is_token : List Str := ["value"]
abbrev P_is_token : List Str := ["value"]
theorem sc_is_token : FnScope N_is_token P_is_token (defScope s_is_token) := ⟨rfl, rfl, rfl, by decide +kernel, rfl, by decide +kernel, by decide +kernel⟩
abbrev s__law_cell : Stmt := topS 9
abbrev N__law_cell : List Str := ["_law_script", "_law_k"]
abbrev P__law_cell : List Str := ["_law_script", "_law_k"]
theorem sc__law_cell : FnScope N__law_cell P__law_cell (defScope s__law_cell) := ⟨rfl, rfl, rfl, by decide +kernel, rfl, by decide +kernel, by decide +kernel⟩
abbrev s__law_box : Stmt := topS 10
abbrev N__law_box : List Str := ["_law_cell_here"]
abbrev P__law_box : List Str := ["_law_cell_here"]
theorem sc__law_box : FnScope N__law_box P__law_box (defScope s__law_box) := ⟨rfl, rfl, rfl, by decide +kernel, rfl, by decide +kernel, by decide +kernel⟩
abbrev s__law_take : Stmt := topS 11
abbrev N__law_take : List Str := ["_law_box_here", "_law_many", "_law_digit", "_law_number_here"]
abbrev P__law_take : List Str := ["_law_box_here", "_law_many"]
theorem sc__law_take : FnScope N__law_take P__law_take (defScope s__law_take) := ⟨rfl, rfl, rfl, by decide +kernel, rfl, by decide +kernel, by decide +kernel⟩
abbrev s__law_number : Stmt := topS 12
abbrev N__law_number : List Str := ["_law_box_here", "_law_far", "_law_some"]
abbrev P__law_number : List Str := ["_law_box_here"]
theorem sc__law_number : FnScope N__law_number P__law_number (defScope s__law_number) := ⟨rfl, rfl, rfl, by decide +kernel, rfl, by decide +kernel, by decide +kernel⟩
abbrev s__law_string : Stmt := topS 13
abbrev N__law_string : List Str := ["_law_box_here", "_law_letters", "_law_many", "_law_first", "_law_step", "_law_text", "_law_at", "_law_sign", "_law_k"]
abbrev P__law_string : List Str := ["_law_box_here"]
theorem sc__law_string : FnScope N__law_string P__law_string (defScope s__law_string) := ⟨rfl, rfl, rfl, by decide +kernel, rfl, by decide +kernel, by decide +kernel⟩
abbrev s__law_mark : Stmt := topS 14
abbrev N__law_mark : List Str := ["_law_box_here", "_law_kind", "_law_text"]
abbrev P__law_mark : List Str := ["_law_box_here"]
theorem sc__law_mark : FnScope N__law_mark P__law_mark (defScope s__law_mark) := ⟨rfl, rfl, rfl, by decide +kernel, rfl, by decide +kernel, by decide +kernel⟩
abbrev s__law_is_mark : Stmt := topS 15
abbrev N__law_is_mark : List Str := ["_law_text"]
abbrev P__law_is_mark : List Str := ["_law_text"]
theorem sc__law_is_mark : FnScope N__law_is_mark P__law_is_mark (defScope s__law_is_mark) := ⟨rfl, rfl, rfl, by decide +kernel, rfl, by decide +kernel, by decide +kernel⟩
abbrev s__law_is_word : Stmt := topS 16
abbrev N__law_is_word : List Str := ["_law_text", "_law_sign"]
abbrev P__law_is_word : List Str := ["_law_text"]
theorem sc__law_is_word : FnScope N__law_is_word P__law_is_word (defScope s__law_is_word) := ⟨rfl, rfl, rfl, by decide +kernel, rfl, by decide +kernel, by decide +kernel⟩
abbrev s__law_is : Stmt := topS 17
abbrev N__law_is : List Str := ["_law_found", "_law_due"]
abbrev P__law_is : List Str := ["_law_found", "_law_due"]
theorem sc__law_is : FnScope N__law_is P__law_is (defScope s__law_is) := ⟨rfl, rfl, rfl, by decide +kernel, rfl, by decide +kernel, by decide +kernel⟩
abbrev s_law : Stmt := topS 18
abbrev N_law : List Str := ["_law_script", "_law_k", "_law_box_here", "_law_low", "_law_high", "_law_number_here", "_law_odd", "_law_turn", "_law_word", "_law_mark_here", "_law_some"]
abbrev P_law : List Str := ["_law_script"]
theorem sc_law : FnScope N_law P_law (defScope s_law) := ⟨rfl, rfl, rfl, by decide +kernel, rfl, by decide +kernel, by decide +kernel⟩
/-! ### the mathematics and the promises -/
def isInt (v : V) (lo hi : Int) : Bool := match v with | .int i => decide (lo ≤ i) && decide (i ≤ hi) | _ => false
def letter (c : Nat) : Bool := decide (97 ≤ c) && decide (c ≤ 122)
def isWord (z : Str) : Bool := decide (1 ≤ z.length) && decide (z.length ≤ 30) && z.cps.toList.all letter
def isMarkL : List Nat → Bool
  | [c] => decide (c = 32)
  | [k, i] => (decide (k = 35) || decide (k = 124) || decide (k = 47)) && (decide (48 ≤ i) && decide (i ≤ 51))
  | _ => false
def isMark (z : Str) : Bool := isMarkL z.cps.toList
def wordV (v : V) : Bool := match v with | .str z => isWord z | _ => false
def markV (v : V) : Bool := match v with | .str z => isMark z | _ => false
def small (v : V) : Prop := match v with | .str z => z.length ≤ 1000 | _ => True
/-- a value of a known kind, no long text -/
def Kn (H : Hp) (v : V) : Prop := (tyOf H v).isSome = true ∧ small v
def tokV (K : PySem.W.Frag) (H : Hp) (v : V) : Bool := match v with
  | .ref a => (match H a with | some (.tup [x, y]) => markV x && wordV y | _ => false)
  | _ => false
def BoxAt (H : Hp) (b : Addr) (n : Nat) : Prop := ∃ x y z : Int, H b = some (.lst [.int x, .int y, .int z]) ∧ 0 ≤ x ∧ 0 ≤ y ∧ y < 2147483629 ∧ 0 ≤ z ∧ z ≤ n
def sp_is_integer (K : PySem.W.Frag) : Sp := fun vs H Q _ => ∃ v lo hi, vs = [v, .int lo, .int hi] ∧ Kn H v ∧ Q (.bl (isInt v lo hi)) H
def sp_is_word (K : PySem.W.Frag) : Sp := fun vs H Q _ => ∃ v, vs = [v] ∧ Kn H v ∧ ∀ H', Ex H H' → Q (.bl (wordV v)) H'
def sp_is_mark (K : PySem.W.Frag) : Sp := fun vs H Q _ => ∃ v, vs = [v] ∧ Kn H v ∧ Q (.bl (markV v)) H
/-- .. and if it is a tuple, so are its items -/
def Kn1 (H : Hp) (v : V) : Prop := match v with
  | .ref a => (match H a with | some (.tup xs) => ∀ x ∈ xs, Kn H x | some (.lst _) => True | some (.dK _) => True | _ => False)
  | .byt _ => False | .flt _ => False | .ty _ => False
  | v => small v
def sp_is_token (K : PySem.W.Frag) : Sp := fun vs H Q _ => ∃ v, vs = [v] ∧ Kn1 H v ∧ ∀ H', Ex H H' → Q (.bl (tokV K H v)) H'
def sp__law_cell (K : PySem.W.Frag) : Sp := fun vs H Q _ => ∃ (a : Addr) (ns : List Int) (k : Int), vs = [.ref a, .int k] ∧ ScriptAt K H a ns ∧ 0 ≤ k ∧ k ≤ 1000 ∧ ∀ n, Q (.int n) H
def sp__law_box (K : PySem.W.Frag) : Sp := fun vs H Q _ => ∃ c, vs = [.int c] ∧ ∀ p H', H p = none → Ex H H' → BoxAt H' p 0 → Q (.ref p) H'
def sp__law_take (K : PySem.W.Frag) : Sp := fun vs H Q _ => ∃ b m n, vs = [.ref b, .int m] ∧ BoxAt H b n ∧ n ≤ 1000000 ∧ 0 < m ∧ m ≤ 100000000 ∧ ∀ r H', 0 ≤ r → r < m → BoxAt H' b (n + 1) → Fr b H H' → Q (.int r) H'
def sp__law_number (K : PySem.W.Frag) : Sp := fun vs H Q _ => ∃ b n, vs = [.ref b] ∧ BoxAt H b n ∧ n ≤ 900000 ∧ ∀ i H', -(10 ^ 40) < i → i < 10 ^ 40 → BoxAt H' b (n + 8) → Fr b H H' → Q (.int i) H'
def sp__law_string (K : PySem.W.Frag) : Sp := fun vs H Q _ => ∃ b n, vs = [.ref b] ∧ BoxAt H b n ∧ n ≤ 900000 ∧ ∀ z H', z.length ≤ 100 → sok z → BoxAt H' b (n + 10) → Fr b H H' → Q (.str z) H'
def sp__law_mark (K : PySem.W.Frag) : Sp := fun vs H Q _ => ∃ b n, vs = [.ref b] ∧ BoxAt H b n ∧ n ≤ 900000 ∧ ∀ z H', z.length ≤ 100 → sok z → BoxAt H' b (n + 3) → Fr b H H' → Q (.str z) H'
def sp__law_is_mark (K : PySem.W.Frag) : Sp := fun vs H Q _ => ∃ z, vs = [.str z] ∧ z.length ≤ 1000 ∧ ∀ H', Ex H H' → Q (.bl (isMark z)) H'
def sp__law_is_word (K : PySem.W.Frag) : Sp := fun vs H Q _ => ∃ z, vs = [.str z] ∧ z.length ≤ 1000 ∧ sok z ∧ ∀ H', Ex H H' → Q (.bl (isWord z)) H'
def sp__law_is (K : PySem.W.Frag) : Sp := fun vs H Q _ => ∃ x y, vs = [.bl x, .bl y] ∧ Q (.bl (decide (x = y))) H
def sp_law (K : PySem.W.Frag) : Sp := fun vs H Q _ => ∃ (a : Addr) (ns : List Int), vs = [.ref a] ∧ ScriptAt K H a ns ∧ ns.length ≤ 63 ∧ ∀ H', Q (.bl true) H'
def t_is_integer (K : PySem.W.Frag) : TS := tRet (uAndV (uIsi .int (uVar 0)) (uAndV (uNotV (uIsi .bl (uVar 0))) (uChain uLe uLe (uVar 1) (uVar 0) (uVar 2))))
def t_is_word (K : PySem.W.Frag) : TS := tSeq (uIfS (uOr (uNot (uT (uIsi .str (uVar 0)))) (uNot (uT (uChain uLe uLe (tC (.int 1)) (tCB (uLen K) (tCons (uVar 0) (tNil))) (tC (.int 30)))))) (tRet (tC (.bl false))) (tNext)) (tRet (tCB (uAll K) (tCons (tLc (uIter K (uVar 0)) (gName 1) (tYes) (tOp (uIn K false) (uVar 1) (tC (.str "abcdefghijklmnopqrstuvwxyz"))) [1]) (tNil))))
def t_is_mark (K : PySem.W.Frag) : TS := tSeq (uIfS (uNot (uT (uIsi .str (uVar 0)))) (tRet (tC (.bl false))) (tNext)) (tRet (uOrV (tOp (uEq K) (uVar 0) (tC (.str " "))) (uAndV (tOp (uEq K) (tCB (uLen K) (tCons (uVar 0) (tNil))) (tC (.int 2))) (uAndV (tOp (uIn K false) (tOp (uIx K) (uVar 0) (tC (.int 0))) (tC (.str "#|/"))) (tOp (uIn K false) (tOp (uIx K) (uVar 0) (tC (.int 1))) (tC (.str "0123")))))))
def t_is_token (K : PySem.W.Frag) : TS := tRet (uAndV (uIsi .tup (uVar 0)) (uAndV (tOp (uEq K) (tCB (uLen K) (tCons (uVar 0) (tNil))) (tC (.int 2))) (uAndV (tCall (sp_is_mark K) [] E0 (tCons (tOp (uIx K) (uVar 0) (tC (.int 0))) (tNil))) (tCall (sp_is_word K) [] E0 (tCons (tOp (uIx K) (uVar 0) (tC (.int 1))) (tNil))))))
def t__law_cell (K : PySem.W.Frag) : TS := tSeq (uIfS (uT (tOp uLt (uVar 1) (tCB (uLen K) (tCons (uVar 0) (tNil))))) (tRet (tOp (uIx K) (uVar 0) (uVar 1))) (tNext)) (tRet (tOp (uAdd K) (tOp uMul (tC (.int 7919)) (uVar 1)) (tC (.int 131))))
def t__law_box (K : PySem.W.Frag) : TS := tRet (tLst (tCons (tCB uMax2 (tCons (tC (.int 0)) (tCons (tOp uSub (uVar 0) (tOp uPow (tC (.int 10)) (tC (.int 18)))) (tNil)))) (tCons (tOp uMod (uVar 0) (tC (.int 2147483629))) (tCons (tC (.int 0)) (tNil)))))
def t__law_take (K : PySem.W.Frag) : TS := tSeq (uIfS (uT (tOp uGt (tOp (uIx K) (uVar 0) (tC (.int 0))) (tC (.int 0)))) (tSeq (tAsg (tOp uMod (tOp (uIx K) (uVar 0) (tC (.int 0))) (uVar 1)) (gName 2)) (tSeq (tAsg (tOp uFdiv (tOp (uIx K) (uVar 0) (tC (.int 0))) (uVar 1)) (gSub (uVar 0) (tC (.int 0)) uSetL)) (tRet (uVar 2)))) (tNext)) (tSeq (tAsg (tOp (uAdd K) (tOp (uIx K) (uVar 0) (tC (.int 2))) (tC (.int 1))) (gSub (uVar 0) (tC (.int 2)) uSetL)) (tSeq (tAsg (tOp uMod (tOp uPow (tOp (uAdd K) (tOp (uAdd K) (tOp (uIx K) (uVar 0) (tC (.int 1))) (tOp uMul (tC (.int 7919)) (tOp (uIx K) (uVar 0) (tC (.int 2))))) (tC (.int 43))) (tC (.int 5))) (tC (.int 2147483647))) (gName 3)) (tSeq (tAsg (tOp uMod (tOp uPow (tOp (uAdd K) (uVar 3) (tOp uMul (tC (.int 104729)) (tOp (uIx K) (uVar 0) (tC (.int 2))))) (tC (.int 3))) (tC (.int 2147483587))) (gName 3)) (tRet (tOp uMod (tOp uFdiv (uVar 3) (tC (.int 8))) (uVar 1))))))
def t__law_number (K : PySem.W.Frag) : TS := tSeq (tAsg (tOp (uAdd K) (tOp (uAdd K) (tOp uMul (tCall (sp__law_take K) [] E0 (tCons (uVar 0) (tCons (tOp uPow (tC (.int 10)) (tC (.int 8))) (tNil)))) (tOp uPow (tC (.int 10)) (tC (.int 22)))) (tOp uMul (tCall (sp__law_take K) [] E0 (tCons (uVar 0) (tCons (tOp uPow (tC (.int 10)) (tC (.int 8))) (tNil)))) (tOp uPow (tC (.int 10)) (tC (.int 11))))) (tCall (sp__law_take K) [] E0 (tCons (uVar 0) (tCons (tOp uPow (tC (.int 10)) (tC (.int 8))) (tNil))))) (gName 1)) (tSeq (tAsg (tLst (tCons (tCall (sp__law_take K) [] E0 (tCons (uVar 0) (tCons (tC (.int 41)) (tNil)))) (tCons (tCall (sp__law_take K) [] E0 (tCons (uVar 0) (tCons (tOp uPow (tC (.int 10)) (tC (.int 8))) (tNil)))) (tCons (uVar 1) (tCons (tOp uSub (tOp uSub (tOp uPow (tC (.int 10)) (tC (.int 30))) (tC (.int 9))) (tCall (sp__law_take K) [] E0 (tCons (uVar 0) (tCons (tC (.int 3)) (tNil))))) (tNil)))))) (gName 2)) (tRet (tOp uMul (tOp (uIx K) (uVar 2) (tCall (sp__law_take K) [] E0 (tCons (uVar 0) (tCons (tC (.int 4)) (tNil))))) (tOp (uIx K) (tLst (tCons (tC (.int 1)) (tCons (tUn uNeg (tC (.int 1))) (tNil)))) (tCall (sp__law_take K) [] E0 (tCons (uVar 0) (tCons (tC (.int 2)) (tNil))))))))
def t__law_string (K : PySem.W.Frag) : TS := tSeq (tAsg (tC (.str "abcdefghijklmnopqrstuvwxyz")) (gName 1)) (tSeq (tAsg (tOp (uIx K) (tLst (tCons (tCall (sp__law_take K) [] E0 (tCons (uVar 0) (tCons (tC (.int 5)) (tNil)))) (tCons (tOp (uAdd K) (tC (.int 28)) (tCall (sp__law_take K) [] E0 (tCons (uVar 0) (tCons (tC (.int 4)) (tNil))))) (tNil)))) (tCall (sp__law_take K) [] E0 (tCons (uVar 0) (tCons (tC (.int 2)) (tNil))))) (gName 2)) (tSeq (tAsg (tTup (tCons (tCall (sp__law_take K) [] E0 (tCons (uVar 0) (tCons (tC (.int 26)) (tNil)))) (tCons (tCall (sp__law_take K) [] E0 (tCons (uVar 0) (tCons (tC (.int 26)) (tNil)))) (tNil)))) (gTup K 2 (gCons (gName 3) (gCons (gName 4) (gNil))))) (tSeq (tAsg (tM1 (uJoin K) (tC (.str "")) (tLc (iRng1 (tCons (uVar 2) (tNil))) (gName 8) (tYes) (tOp (uIx K) (uVar 1) (tOp uMod (tOp (uAdd K) (uVar 3) (tOp uMul (uVar 4) (uVar 8))) (tC (.int 26)))) [8])) (gName 5)) (tSeq (uIfS (uT (tOp (uEq K) (tCall (sp__law_take K) [] E0 (tCons (uVar 0) (tCons (tC (.int 3)) (tNil)))) (tC (.int 0)))) (tSeq (tAsg (tCall (sp__law_take K) [] E0 (tCons (uVar 0) (tCons (tOp (uAdd K) (tCB (uLen K) (tCons (uVar 5) (tNil))) (tC (.int 1))) (tNil)))) (gName 6)) (tSeq (tAsg (tOp (uIx K) (tC (.str "ABZ019 _-.?$!\n,@{")) (tCall (sp__law_take K) [] E0 (tCons (uVar 0) (tCons (tC (.int 17)) (tNil))))) (gName 7)) (tAsg (tOp (uIx K) (tLst (tCons (tOp (uAdd K) (tOp (uAdd K) (L2.tSl (uSl K) (uVar 5) (tNoPart) (uPart (uVar 6))) (uVar 7)) (L2.tSl (uSl K) (uVar 5) (uPart (tOp (uAdd K) (uVar 6) (tC (.int 1)))) (tNoPart))) (tCons (tOp (uAdd K) (tOp (uAdd K) (L2.tSl (uSl K) (uVar 5) (tNoPart) (uPart (uVar 6))) (uVar 7)) (L2.tSl (uSl K) (uVar 5) (uPart (uVar 6)) (tNoPart))) (tNil)))) (tCall (sp__law_take K) [] E0 (tCons (uVar 0) (tCons (tC (.int 2)) (tNil))))) (gName 5)))) (tNext)) (tRet (uVar 5))))))
def t__law_mark (K : PySem.W.Frag) : TS := tSeq (tAsg (tOp (uIx K) (tLst (tCons (tC (.str " ")) (tCons (tC (.str "#")) (tCons (tC (.str "|")) (tCons (tC (.str "/")) (tCons (tC (.str "")) (tCons (tC (.str "-")) (tCons (tC (.str "a")) (tNil))))))))) (tCall (sp__law_take K) [] E0 (tCons (uVar 0) (tCons (tC (.int 7)) (tNil))))) (gName 1)) (tSeq (tAsg (tOp (uAdd K) (uVar 1) (tOp (uIx K) (tLst (tCons (tC (.str "0")) (tCons (tC (.str "1")) (tCons (tC (.str "2")) (tCons (tC (.str "3")) (tCons (tC (.str "4")) (tCons (tC (.str "")) (tCons (tC (.str "a")) (tCons (tC (.str " ")) (tCons (tC (.str "9")) (tCons (tC (.str "01")) (tCons (tC (.str "12")) (tCons (tC (.str "23")) (tCons (tC (.str "0123")) (tNil))))))))))))))) (tCall (sp__law_take K) [] E0 (tCons (uVar 0) (tCons (tC (.int 13)) (tNil)))))) (gName 2)) (tRet (tOp (uAdd K) (uVar 2) (tOp (uIx K) (tLst (tCons (tC (.str "")) (tCons (tC (.str "")) (tCons (tC (.str "")) (tCons (tC (.str "0")) (tCons (tC (.str " ")) (tNil))))))) (tCall (sp__law_take K) [] E0 (tCons (uVar 0) (tCons (tC (.int 5)) (tNil))))))))
def t__law_is_mark (K : PySem.W.Frag) : TS := tSeq (uIfS (uT (tOp (uEq K) (uVar 0) (tC (.str " ")))) (tRet (tC (.bl true))) (tNext)) (tRet (uAndV (tOp (uEq K) (tCB (uLen K) (tCons (uVar 0) (tNil))) (tC (.int 2))) (uAndV (tOp (uIn K false) (tOp (uIx K) (uVar 0) (tC (.int 0))) (tTup (tCons (tC (.str "#")) (tCons (tC (.str "|")) (tCons (tC (.str "/")) (tNil)))))) (tOp (uIn K false) (tOp (uIx K) (uVar 0) (tC (.int 1))) (tTup (tCons (tC (.str "0")) (tCons (tC (.str "1")) (tCons (tC (.str "2")) (tCons (tC (.str "3")) (tNil))))))))))
def t__law_is_word (K : PySem.W.Frag) : TS := tRet (uAndV (uChain uLt uLt (tC (.int 0)) (tCB (uLen K) (tCons (uVar 0) (tNil))) (tC (.int 31))) (tOp (uEq K) (tLc (uIter K (uVar 0)) (gName 1) (uNot (uT (uChain uLe uLe (tC (.str "a")) (uVar 1) (tC (.str "z"))))) (uVar 1) [1]) (tLst (tNil))))
def t__law_is (K : PySem.W.Frag) : TS := tRet (uAndV (uIsi .bl (uVar 0)) (tOp (uEq K) (uVar 0) (uVar 1)))
def t_law (K : PySem.W.Frag) : TS := tSeq (tFor (iRng1 (tCons (tCB uMax2 (tCons (tC (.int 1)) (tCons (tCB uMin2 (tCons (tC (.int 30)) (tCons (tCB (uLen K) (tCons (uVar 0) (tNil))) (tNil)))) (tNil)))) (tNil))) (gName 1) (tSeq (tAsg (tCall (sp__law_box K) [] E0 (tCons (tCall (sp__law_cell K) [] E0 (tCons (uVar 0) (tCons (uVar 1) (tNil)))) (tNil))) (gName 2)) (tSeq (tAsg (tCall (sp__law_number K) [] E0 (tCons (uVar 2) (tNil))) (gName 3)) (tSeq (tAsg (tOp (uIx K) (tLst (tCons (tOp (uAdd K) (tOp uSub (uVar 3) (tC (.int 2))) (tCall (sp__law_take K) [] E0 (tCons (uVar 2) (tCons (tC (.int 6)) (tNil))))) (tCons (tCall (sp__law_number K) [] E0 (tCons (uVar 2) (tNil))) (tNil)))) (tCall (sp__law_take K) [] E0 (tCons (uVar 2) (tCons (tC (.int 2)) (tNil))))) (gName 4)) (tSeq (tFor (uIter K (tLst (tCons (tOp uSub (uVar 3) (tC (.int 1))) (tCons (uVar 3) (tCons (tOp (uAdd K) (uVar 3) (tC (.int 1))) (tCons (tOp uSub (uVar 4) (tC (.int 1))) (tCons (uVar 4) (tCons (tOp (uAdd K) (uVar 4) (tC (.int 1))) (tCons (tC (.int 0)) (tCons (tCall (sp__law_number K) [] E0 (tCons (uVar 2) (tNil))) (tNil))))))))))) (gName 5) (uIfS (uNot (uT (tCall (sp__law_is K) [] E0 (tCons (tCall (sp_is_integer K) [] E0 (tCons (uVar 5) (tCons (uVar 3) (tCons (uVar 4) (tNil))))) (tCons (uChain uLe uLe (uVar 3) (uVar 5) (uVar 4)) (tNil)))))) (tRet (tC (.bl false))) (tNext))) (tSeq (tFor (uIter K (tLst (tCons (tC .non) (tCons (tC (.bl true)) (tCons (tC (.bl false)) (tCons (tC (.str "")) (tCons (tC (.str "0")) (tCons (tCB uStr (tCons (uVar 3) (tNil))) (tCons (tLst (tCons (uVar 3) (tNil))) (tCons (tTup (tCons (uVar 3) (tNil))) (tCons (tDNewK) (tCons (tDisp [(tC (.str "a"), uVar 3)]) (tNil))))))))))))) (gName 6) (uIfS (uOr (uNot (uT (tCall (sp__law_is K) [] E0 (tCons (tCall (sp_is_integer K) [] E0 (tCons (uVar 6) (tCons (uVar 3) (tCons (uVar 4) (tNil))))) (tCons (tC (.bl false)) (tNil)))))) (uNot (uT (tCall (sp__law_is K) [] E0 (tCons (tCall (sp_is_integer K) [] E0 (tCons (uVar 6) (tCons (tC (.int 0)) (tCons (tC (.int 1)) (tNil))))) (tCons (tC (.bl false)) (tNil))))))) (tRet (tC (.bl false))) (tNext))) (tSeq (tFor (iRng1 (tCons (tC (.int 4)) (tNil))) (gName 7) (tSeq (tPar2 8 9 (tCons (tCall (sp__law_string K) [] E0 (tCons (uVar 2) (tNil))) (tCons (tCall (sp__law_mark K) [] E0 (tCons (uVar 2) (tNil))) (tNil)))) (tSeq (uIfS (uOr (uNot (uT (tCall (sp__law_is K) [] E0 (tCons (tCall (sp_is_word K) [] E0 (tCons (uVar 8) (tNil))) (tCons (tCall (sp__law_is_word K) [] E0 (tCons (uVar 8) (tNil))) (tNil)))))) (uNot (uT (tCall (sp__law_is K) [] E0 (tCons (tCall (sp_is_mark K) [] E0 (tCons (uVar 9) (tNil))) (tCons (tCall (sp__law_is_mark K) [] E0 (tCons (uVar 9) (tNil))) (tNil))))))) (tRet (tC (.bl false))) (tNext)) (tSeq (uIfS (uNot (uT (tCall (sp__law_is K) [] E0 (tCons (tCall (sp_is_token K) [] E0 (tCons (tTup (tCons (uVar 9) (tCons (uVar 8) (tNil)))) (tNil))) (tCons (uAndV (tCall (sp__law_is_mark K) [] E0 (tCons (uVar 9) (tNil))) (tCall (sp__law_is_word K) [] E0 (tCons (uVar 8) (tNil)))) (tNil)))))) (tRet (tC (.bl false))) (tNext)) (tSeq (tAsg (tLst (tCons (tLst (tCons (uVar 9) (tCons (uVar 8) (tNil)))) (tCons (tTup (tCons (uVar 9) (tNil))) (tCons (tTup (tCons (uVar 9) (tCons (uVar 8) (tCons (uVar 8) (tNil))))) (tCons (tTup (tCons (uVar 8) (tCons (uVar 9) (tNil)))) (tCons (tTup (tCons (uVar 9) (tCons (tLst (tCons (uVar 8) (tNil))) (tNil)))) (tCons (tTup (tCons (tC .non) (tCons (uVar 8) (tNil)))) (tCons (tTup (tCons (uVar 9) (tCons (tC (.int 5)) (tNil)))) (tNil))))))))) (gName 10)) (tSeq (tAsg (tOp (uIx K) (uVar 10) (tCall (sp__law_take K) [] E0 (tCons (uVar 2) (tCons (tC (.int 7)) (tNil))))) (gName 6)) (uIfS (uAnd (uNot (uT (tCall (sp__law_is K) [] E0 (tCons (tCall (sp_is_token K) [] E0 (tCons (uVar 6) (tNil))) (tCons (tC (.bl false)) (tNil)))))) (uNot (uAnd (uT (tCall (sp__law_is_mark K) [] E0 (tCons (uVar 8) (tNil)))) (uT (tCall (sp__law_is_word K) [] E0 (tCons (uVar 9) (tNil))))))) (tRet (tC (.bl false))) (tNext)))))))) (tFor (uIter K (tLst (tCons (tC .non) (tCons (tC (.bl true)) (tCons (tC (.int 0)) (tCons (uVar 3) (tCons (tLst (tCons (tC (.str "#0")) (tNil))) (tCons (tTup (tCons (tC (.str "#0")) (tNil))) (tCons (tTup (tCons (tC (.str "a")) (tNil))) (tCons (tDisp [(tC (.str "a"), tC (.str "a"))]) (tCons (tDNewK) (tCons (tTup (tCons (tC (.str "#0")) (tCons (tC (.str "a")) (tNil)))) (tNil))))))))))))) (gName 6) (tSeq (uIfS (uOr (uNot (uT (tCall (sp__law_is K) [] E0 (tCons (tCall (sp_is_word K) [] E0 (tCons (uVar 6) (tNil))) (tCons (tC (.bl false)) (tNil)))))) (uNot (uT (tCall (sp__law_is K) [] E0 (tCons (tCall (sp_is_mark K) [] E0 (tCons (uVar 6) (tNil))) (tCons (tC (.bl false)) (tNil))))))) (tRet (tC (.bl false))) (tNext)) (uIfS (uAnd (uT (tOp (uNe K) (uVar 6) (tTup (tCons (tC (.str "#0")) (tCons (tC (.str "a")) (tNil)))))) (uNot (uT (tCall (sp__law_is K) [] E0 (tCons (tCall (sp_is_token K) [] E0 (tCons (uVar 6) (tNil))) (tCons (tC (.bl false)) (tNil))))))) (tRet (tC (.bl false))) (tNext))))))))))) (tRet (tC (.bl true)))
structure Tx (K : PySem.W.Frag) (mg : Str → Option Value) (a : Nat → Addr) (d : Nat → FuncData) : Prop where
  f_is_integer : Fun K "is_integer" "is_integer" s_is_integer (a 0) (d 0)
  m_is_integer : mg "is_integer" = some (.ref (a 0))
  b_is_integer : Binds K (d 0) P_is_integer []
  f_is_word : Fun K "is_word" "is_word" s_is_word (a 1) (d 1)
  m_is_word : mg "is_word" = some (.ref (a 1))
  b_is_word : Binds K (d 1) P_is_word []
  f_is_mark : Fun K "is_mark" "is_mark" s_is_mark (a 2) (d 2)
  m_is_mark : mg "is_mark" = some (.ref (a 2))
  b_is_mark : Binds K (d 2) P_is_mark []
  f_is_token : Fun K "is_token" "is_token" s_is_token (a 3) (d 3)
  m_is_token : mg "is_token" = some (.ref (a 3))
  b_is_token : Binds K (d 3) P_is_token []
  f__law_cell : Fun K "_law_cell" "_law_cell" s__law_cell (a 4) (d 4)
  m__law_cell : mg "_law_cell" = some (.ref (a 4))
  b__law_cell : Binds K (d 4) P__law_cell []
  f__law_box : Fun K "_law_box" "_law_box" s__law_box (a 5) (d 5)
  m__law_box : mg "_law_box" = some (.ref (a 5))
  b__law_box : Binds K (d 5) P__law_box []
  f__law_take : Fun K "_law_take" "_law_take" s__law_take (a 6) (d 6)
  m__law_take : mg "_law_take" = some (.ref (a 6))
  b__law_take : Binds K (d 6) P__law_take []
  f__law_number : Fun K "_law_number" "_law_number" s__law_number (a 7) (d 7)
  m__law_number : mg "_law_number" = some (.ref (a 7))
  b__law_number : Binds K (d 7) P__law_number []
  f__law_string : Fun K "_law_string" "_law_string" s__law_string (a 8) (d 8)
  m__law_string : mg "_law_string" = some (.ref (a 8))
  b__law_string : Binds K (d 8) P__law_string []
  f__law_mark : Fun K "_law_mark" "_law_mark" s__law_mark (a 9) (d 9)
  m__law_mark : mg "_law_mark" = some (.ref (a 9))
  b__law_mark : Binds K (d 9) P__law_mark []
  f__law_is_mark : Fun K "_law_is_mark" "_law_is_mark" s__law_is_mark (a 10) (d 10)
  m__law_is_mark : mg "_law_is_mark" = some (.ref (a 10))
  b__law_is_mark : Binds K (d 10) P__law_is_mark []
  f__law_is_word : Fun K "_law_is_word" "_law_is_word" s__law_is_word (a 11) (d 11)
  m__law_is_word : mg "_law_is_word" = some (.ref (a 11))
  b__law_is_word : Binds K (d 11) P__law_is_word []
  f__law_is : Fun K "_law_is" "_law_is" s__law_is (a 12) (d 12)
  m__law_is : mg "_law_is" = some (.ref (a 12))
  b__law_is : Binds K (d 12) P__law_is []
  f_law : Fun K "law" "law" s_law (a 13) (d 13)
  m_law : mg "law" = some (.ref (a 13))
  b_law : Binds K (d 13) P_law []
  z_all : mg "all" = none
  z_bool : mg "bool" = none
  z_int : mg "int" = none
  z_isinstance : mg "isinstance" = none
  z_len : mg "len" = none
  z_max : mg "max" = none
  z_min : mg "min" = none
  z_range : mg "range" = none
  z_str : mg "str" = none
  z_tuple : mg "tuple" = none
  c_KINDS : ∃ t, mg "KINDS" = some (.str "#|/" t)
  c_LETTERS : ∃ t, mg "LETTERS" = some (.str "abcdefghijklmnopqrstuvwxyz" t)
  c_MOST_LETTERS : ∃ t, mg "MOST_LETTERS" = some (.int (30) t)
local macro_rules | `(tactic| walk_at "u") => `(tactic| dsimp only [tNext, tSeq, tRet, tRetN, tCB, tCons, tNil, tAsg, tDrop, tCall, tM1, tBM, tTup, tLst, tC, tOp, tUn, uT, uNot, uAnd, uOr, uIfS, uIf, uAndV, uOrV, uNotV, uChain, gSub, tPar2, uIsi, List.nil_append, List.cons_append])
theorem tyOf_ref {H : Hp} {a : Addr} (h : (tyOf H (.ref a)).isSome = true) : ∃ t, tyOf H (.ref a) = some t ∧ (t = .lst ∨ t = .tup ∨ t = .dct) := by
  have h : ((H a).bind tyO).isSome = true := h
  cases e : H a with
  | none => rw [e] at h; cases h
  | some o =>
    rw [e] at h
    have h : (tyO o).isSome = true := h
    cases e2 : tyO o with
    | none => rw [e2] at h; cases h
    | some t =>
      refine ⟨t, ?_, ?_⟩
      · show (H a).bind tyO = some t
        rw [e]; exact e2
      · unfold tyO at e2
        split at e2 <;> first | (cases e2; done) | (cases e2; simp)
theorem len_is_integer {K vs H Q E} (h : sp_is_integer K vs H Q E) : vs.length = P_is_integer.length := by obtain ⟨v, lo, hi, rfl, _⟩ := h; rfl
theorem p_is_integer {K vs H Q E} (h : sp_is_integer K vs H Q E) : t_is_integer K { nx := fun _ H' => Q .non H', rt := Q } (start N_is_integer vs) H := by
  obtain ⟨v, lo, hi, rfl, ⟨hk, hs⟩, q⟩ := h
  cases v with
  | int i =>
    have q : Q (.bl (decide (lo ≤ i) && decide (i ≤ hi))) H := q
    refine bV_d (fun h1 => ?_) (fun h1 => ?_)
    · rw [decide_eq_true h1, Bool.true_and] at q
      exact q
    · rw [decide_eq_false h1, Bool.false_and] at q
      exact q
  | ref a =>
    obtain ⟨t, e, ht⟩ := tyOf_ref hk
    refine oK_of e ?_
    rcases ht with rfl | rfl | rfl <;> exact q
  | non => exact q
  | bl b => exact q
  | str z => exact q
  | byt b => cases hk
  | flt b => cases hk
  | ty b => cases hk
/-! texts by their signs -/
theorem toList_inj {a b : Str} (h : a.cps.toList = b.cps.toList) : a = b := by
  obtain ⟨⟨l⟩⟩ := a
  obtain ⟨⟨m⟩⟩ := b
  have h : l = m := h
  subst h; rfl
theorem str_len (z : Str) : z.length = z.cps.toList.length := rfl
theorem cps_blank : (Str.ofString " ").cps.toList = [32] := by decide +kernel
theorem cps_kinds : (Str.ofString "#|/").cps.toList = [35, 124, 47] := by decide +kernel
theorem cps_digits : (Str.ofString "0123").cps.toList = [48, 49, 50, 51] := by decide +kernel
theorem cps_letters : (Str.ofString "abcdefghijklmnopqrstuvwxyz").cps.toList = List.range' 97 26 := by decide +kernel
theorem mem_letters (c : Nat) : decide (c ∈ (Str.ofString "abcdefghijklmnopqrstuvwxyz").cps.toList) = letter c := by
  rw [cps_letters]
  unfold letter
  rw [← Bool.decide_and]
  apply decide_eq_decide.mpr
  rw [List.mem_range'_1]
  omega
theorem eq_blank (z : Str) : decide (V.str z = V.str (Str.ofString " ")) = decide (z.cps.toList = [32]) := by
  apply decide_eq_decide.mpr
  constructor
  · intro h; injection h with h; rw [h]; exact cps_blank
  · intro h; rw [toList_inj (h.trans cps_blank.symm)]
theorem len_is_mark {K vs H Q E} (h : sp_is_mark K vs H Q E) : vs.length = P_is_mark.length := by obtain ⟨v, rfl, _⟩ := h; rfl
theorem isMark_two {z : Str} {k i : Nat} (h : z.cps.toList = [k, i]) : isMark z = (decide (k ∈ [35, 124, 47]) && decide (i ∈ [48, 49, 50, 51])) := by
  unfold isMark
  rw [h]
  unfold isMarkL
  rw [Bool.eq_iff_iff]
  simp
  omega
theorem isMark_other {z : Str} (h1 : z.cps.toList ≠ [32]) (h2 : z.length ≠ 2) : isMark z = false := by
  unfold isMark
  rw [str_len] at h2
  generalize z.cps.toList = l at *
  match l with
  | [] => rfl
  | [c] => simp at h1; simp [isMarkL, h1]
  | [_, _] => exact absurd rfl h2
  | _ :: _ :: _ :: _ => rfl
theorem p_is_mark {K vs H Q E} (h : sp_is_mark K vs H Q E) : t_is_mark K { nx := fun _ H' => Q .non H', rt := Q } (start N_is_mark vs) H := by
  obtain ⟨v, rfl, ⟨hk, hs⟩, q⟩ := h
  cases v with
  | str z =>
    have hs : z.length ≤ 1000 := hs
    have q : Q (V.bl (isMark z)) H := q
    show bV (.bl (decide (V.str z = V.str " "))) _ _
    rw [eq_blank]
    refine bV_d (fun h1 => ?_) (fun h1 => ?_)
    · have e : isMark z = true := by unfold isMark; rw [h1]; rfl
      rw [e] at q
      exact q
    · refine ⟨by rw [sizeLine_eq]; omega, ?_⟩
      show bV (.bl (decide (V.int (z.length : Int) = V.int 2))) _ _
      refine bV_d (fun h2 => ?_) (fun h2 => ?_)
      · injection h2 with h2
        have h2 : z.length = 2 := by omega
        have h3 : z.cps.toList.length = 2 := h2
        obtain ⟨k, i, e⟩ : ∃ k i, z.cps.toList = [k, i] := by
          match hz : z.cps.toList, h3 with
          | [k, i], _ => exact ⟨k, i, rfl⟩
        rw [isMark_two e] at q
        refine ⟨by rw [sizeLine_eq]; omega, ?_⟩
        have a0 : atI z.cps.toList 0 = some k := by rw [e]; rfl
        have a1 : atI z.cps.toList 1 = some i := by rw [e]; rfl
        refine oK_of a0 ?_
        show bV (.bl (decide (k ∈ (Str.ofString "#|/").cps.toList))) _ _
        rw [cps_kinds]
        refine bV_d (fun h4 => ?_) (fun h4 => ?_)
        · refine ⟨by rw [sizeLine_eq]; omega, oK_of a1 ?_⟩
          show Q (.bl (decide (i ∈ (Str.ofString "0123").cps.toList))) H
          rw [cps_digits]
          rw [decide_eq_true h4, Bool.true_and] at q
          exact q
        · rw [decide_eq_false h4, Bool.false_and] at q
          exact q
      · have h2 : z.length ≠ 2 := fun e => h2 (by rw [e]; rfl)
        rw [isMark_other h1 h2] at q
        exact q
  | ref a =>
    obtain ⟨t, e, ht⟩ := tyOf_ref hk
    refine oK_of e ?_
    rcases ht with rfl | rfl | rfl <;> exact q
  | non => exact q
  | bl b => exact q
  | int z => exact q
  | byt b => cases hk
  | flt b => cases hk
  | ty b => cases hk
theorem len_is_word {K vs H Q E} (h : sp_is_word K vs H Q E) : vs.length = P_is_word.length := by obtain ⟨v, rfl, _⟩ := h; rfl
theorem p_is_word {K vs H Q E} (h : sp_is_word K vs H Q E) : t_is_word K { nx := fun _ H' => Q .non H', rt := Q } (start N_is_word vs) H := by
  obtain ⟨v, rfl, ⟨hk, hs⟩, q⟩ := h
  cases v with
  | str z =>
    have hs : z.length ≤ 1000 := hs
    have q : ∀ H', Ex H H' → Q (V.bl (isWord z)) H' := q
    have hl : z.length ≤ sizeLine := by rw [sizeLine_eq]; omega
    refine ⟨hl, ?_⟩
    show bV (.bl (decide ((1 : Int) ≤ (z.length : Int)))) _ _
    unfold isWord at q
    refine bV_d (fun h1 => ?_) (fun h1 => ?_)
    · show bB (!decide ((z.length : Int) ≤ 30)) _ _
      refine bB_n (fun h2 => ?_) (fun h2 => ?_)
      · rw [decide_eq_false (show ¬ z.length ≤ 30 by omega), Bool.and_false, Bool.false_and] at q
        exact q H (Ex.refl H)
      · rw [decide_eq_true (show 1 ≤ z.length by omega), decide_eq_true (show z.length ≤ 30 by omega), Bool.true_and, Bool.true_and] at q
        walk_at "u"
        refine lcf (.str z) (fun R h => h) trivial (fun _ _ => trivial) (fun _ => true) (fun y => match y with | .str w => .bl (w.cps.toList.all letter) | _ => .non) ?_ ?_ ?_ ?_ ?_
        · unfold chars; rw [List.length_map, ← str_len, sizeLine_eq]; omega
        · intro y; rfl
        · intro i y H' hy e R hR
          exact hR H' (Ex.refl _)
        · intro i y H' hy _ e R hR
          have : ∃ c, y = V.str ⟨#[c]⟩ := by
            unfold chars at hy
            rw [List.getElem?_map] at hy
            cases e : z.cps.toList[i]? with
            | none => rw [e] at hy; cases hy
            | some c => rw [e] at hy; exact ⟨c, (Option.some.inj hy).symm⟩
          obtain ⟨c, rfl⟩ := this
          show R (.bl (decide (c ∈ (Str.ofString "abcdefghijklmnopqrstuvwxyz").cps.toList))) H'
          rw [mem_letters]
          have := hR H' (Ex.refl _)
          simpa using this
        · intro D H' hD e hl'
          refine oK_of (rdL_of hl') ⟨z.cps.toList.map letter, ?_, ?_⟩
          · unfold chars
            rw [List.filter_eq_self.mpr (by simp), List.map_map, List.map_map]
            apply List.map_congr_left
            intro c _
            simp
          · rw [List.all_map]
            exact q H' e
    · rw [decide_eq_false (show ¬ 1 ≤ z.length by omega), Bool.false_and, Bool.false_and] at q
      exact q H (Ex.refl H)
  | ref a =>
    obtain ⟨t, e, ht⟩ := tyOf_ref hk
    refine oK_of e ?_
    rcases ht with rfl | rfl | rfl <;> exact q H (Ex.refl H)
  | non => exact q H (Ex.refl H)
  | bl b => exact q H (Ex.refl H)
  | int z => exact q H (Ex.refl H)
  | byt b => cases hk
  | flt b => cases hk
  | ty b => cases hk

theorem len_is_token {K vs H Q E} (h : sp_is_token K vs H Q E) : vs.length = P_is_token.length := by obtain ⟨v, rfl, _⟩ := h; rfl
theorem p_is_token {K vs H Q E} (h : sp_is_token K vs H Q E) : t_is_token K { nx := fun _ H' => Q .non H', rt := Q } (start N_is_token vs) H := by
  obtain ⟨v, rfl, hk, q⟩ := h
  cases v with
  | ref a =>
    have hk : (match H a with | some (.tup xs) => ∀ x ∈ xs, Kn H x | some (.lst _) => True | some (.dK _) => True | _ => False) := hk
    split at hk
    · rename_i xs e
      refine oK_of (show (H a).bind tyO = some .tup by rw [e]; rfl) ?_
      refine oS_of (rdS_t e) ?_
      show bV (.bl (decide (V.int (xs.length : Int) = V.int 2))) _ _
      refine bV_d (fun h2 => ?_) (fun h2 => ?_)
      · injection h2 with h2
        have h2 : xs.length = 2 := by omega
        obtain ⟨x, y, rfl⟩ : ∃ x y, xs = [x, y] := by
          match xs, h2 with
          | [x, y], _ => exact ⟨x, y, rfl⟩
        have et : tokV K H (.ref a) = (markV x && wordV y) := by
          show (match H a with | some (.tup [x, y]) => markV x && wordV y | _ => false) = _
          rw [e]
        rw [et] at q
        refine oS_of (rdS_t e) (oK_of rfl ?_)
        refine ⟨x, rfl, hk x (by simp), ?_⟩
        refine bV_of (fun h3 => ?_) (fun h3 => ?_)
        · refine oS_of (rdS_t e) (oK_of rfl ?_)
          refine ⟨y, rfl, hk y (by simp), fun H' e' => ?_⟩
          rw [h3, Bool.true_and] at q
          exact q H' e'
        · rw [h3, Bool.false_and] at q
          exact q H (Ex.refl H)
      · have et : tokV K H (.ref a) = false := by
          show (match H a with | some (.tup [x, y]) => markV x && wordV y | _ => false) = _
          rw [e]
          match xs, h2 with
          | [], _ => rfl
          | [_], _ => rfl
          | [_, _], h2 => exact absurd rfl h2
          | _ :: _ :: _ :: _, _ => rfl
        rw [et] at q
        exact q H (Ex.refl H)
    · rename_i xs e
      have et : tokV K H (.ref a) = false := by
        show (match H a with | some (.tup [x, y]) => markV x && wordV y | _ => false) = _
        rw [e]
      rw [et] at q
      exact oK_of (show (H a).bind tyO = some .lst by rw [e]; rfl) (q H (Ex.refl H))
    · rename_i xs e
      have et : tokV K H (.ref a) = false := by
        show (match H a with | some (.tup [x, y]) => markV x && wordV y | _ => false) = _
        rw [e]
      rw [et] at q
      exact oK_of (show (H a).bind tyO = some .dct by rw [e]; rfl) (q H (Ex.refl H))
    · exact hk.elim
  | non => exact q H (Ex.refl H)
  | bl b => exact q H (Ex.refl H)
  | int z => exact q H (Ex.refl H)
  | str z => exact q H (Ex.refl H)
  | byt b => cases hk
  | flt b => cases hk
  | ty b => cases hk
theorem len__law_cell {K vs H Q E} (h : sp__law_cell K vs H Q E) : vs.length = P__law_cell.length := by obtain ⟨a, ns, k, rfl, _⟩ := h; rfl
theorem p__law_cell {K vs H Q E} (h : sp__law_cell K vs H Q E) : t__law_cell K { nx := fun _ H' => Q .non H', rt := Q } (start N__law_cell vs) H := by
  obtain ⟨a, ns, k, rfl, hS, h0, h1, q⟩ := h
  refine oS_l hS.sq ?_
  show bB (decide (k < ((ns.map V.int).length : Int))) _ _
  refine bB_d (fun hlt => ?_) (fun hlt => ?_)
  · rw [List.length_map] at hlt
    have hj : k.toNat < ns.length := by omega
    have ha : atI (ns.map V.int) k = some (V.int ns[k.toNat]) := at_of (show k = (k.toNat : Int) by omega) (by rw [List.getElem?_map]; simp [hj])
    exact oS_l hS.sq (oK_of ha (q _))
  · refine ⟨.inl ⟨by decide, by decide⟩, ?_⟩
    exact q _
theorem len__law_box {K vs H Q E} (h : sp__law_box K vs H Q E) : vs.length = P__law_box.length := by obtain ⟨c, rfl, _⟩ := h; rfl
theorem p__law_box {K vs H Q E} (h : sp__law_box K vs H Q E) : t__law_box K { nx := fun _ H' => Q .non H', rt := Q } (start N__law_box vs) H := by
  obtain ⟨c, rfl, q⟩ := h
  refine ⟨⟨by decide, by decide, by decide⟩, ?_⟩
  refine ⟨by decide, by show 3 ≤ sizeLine; decide, fun p hp => ?_⟩
  refine q p _ hp (Ex.new hp) ⟨_, _, _, upd_same, ?_, ?_, ?_, by decide, by decide⟩
  · split <;> omega
  · exact Int.emod_nonneg _ (by decide)
  · exact Int.emod_lt_of_pos _ (by decide)
theorem len__law_take {K vs H Q E} (h : sp__law_take K vs H Q E) : vs.length = P__law_take.length := by obtain ⟨b, m, n, rfl, _⟩ := h; rfl
theorem p__law_take {K vs H Q E} (h : sp__law_take K vs H Q E) : t__law_take K { nx := fun _ H' => Q .non H', rt := Q } (start N__law_take vs) H := by
  obtain ⟨b, m, n, rfl, ⟨x, y, z, hb, hx, hy, hy2, hz, hzn⟩, hn, hm, hm2, q⟩ := h
  have fr : ∀ l, Fr b H (upd H b (.lst l)) := fun l a o e hne => by rw [upd_ne hne]; exact e
  refine oS_of (rdS_l hb) (oK_of rfl ?_)
  show bB (decide (0 < x)) _ _
  refine bB_d (fun hlt => ?_) (fun hlt => ?_)
  · refine oS_of (rdS_l hb) (oK_of rfl ?_)
    refine ⟨hm, ?_⟩
    refine oS_of (rdS_l hb) (oK_of rfl ?_)
    refine ⟨⟨hm, by omega⟩, ?_⟩
    refine oK_of (mutL_of hb) (oK_of rfl ?_)
    refine q _ _ (Int.emod_nonneg _ (by omega)) (Int.emod_lt_of_pos _ hm) ⟨x / m, y, z, upd_same, ?_, hy, hy2, hz, by omega⟩ (fr _)
    exact Int.ediv_nonneg hx (by omega)
  · refine oS_of (rdS_l hb) (oK_of rfl ?_)
    refine oK_of (mutL_of hb) (oK_of rfl ?_)
    have hb2 : (upd H b (.lst [.int x, .int y, .int (z + 1)])) b = some (.lst [.int x, .int y, .int (z + 1)]) := upd_same
    refine oS_of (rdS_l hb2) (oK_of rfl ?_)
    refine oS_of (rdS_l hb2) (oK_of rfl ?_)
    refine ⟨.inl ⟨by decide, by decide⟩, ?_⟩
    refine ⟨⟨by decide, by decide, by omega⟩, by decide, ?_⟩
    refine oS_of (rdS_l hb2) (oK_of rfl ?_)
    refine ⟨.inl ⟨by decide, by decide⟩, ?_⟩
    have e1 := Int.emod_nonneg ((y + 7919 * (z + 1) + 43) ^ Int.toNat 5) (show (2147483647 : Int) ≠ 0 by decide)
    have e2 := Int.emod_lt_of_pos ((y + 7919 * (z + 1) + 43) ^ Int.toNat 5) (show (0 : Int) < 2147483647 by decide)
    refine ⟨⟨by decide, by decide, by omega⟩, by decide, ?_⟩
    refine ⟨⟨by decide, by decide⟩, hm, ?_⟩
    exact q _ _ (Int.emod_nonneg _ (by omega)) (Int.emod_lt_of_pos _ hm) ⟨x, y, z + 1, upd_same, hx, hy, hy2, by omega, by omega⟩ (fr _)

theorem len__law_number {K vs H Q E} (h : sp__law_number K vs H Q E) : vs.length = P__law_number.length := by obtain ⟨b, n, rfl, _⟩ := h; rfl
theorem BoxAt.new {H : Hp} {b p : Addr} {n : Nat} {o : HO} (h : BoxAt H b n) (hp : H p = none) : BoxAt (upd H p o) b n := by
  obtain ⟨x, y, z, e, r⟩ := h
  exact ⟨x, y, z, by rw [upd_ne (ne_of_none e hp)]; exact e, r⟩
theorem BoxAt.ex {H H' : Hp} {b : Addr} {n : Nat} (h : BoxAt H b n) (e : Ex H H') : BoxAt H' b n := by
  obtain ⟨x, y, z, h, r⟩ := h
  exact ⟨x, y, z, e _ _ h, r⟩
theorem BoxAt.le {H : Hp} {b : Addr} {n m : Nat} (h : BoxAt H b n) (e : n ≤ m) : BoxAt H b m := by
  obtain ⟨x, y, z, h, a, b, c, d, f⟩ := h
  exact ⟨x, y, z, h, a, b, c, d, by omega⟩
theorem p__law_number {K vs H Q E} (h : sp__law_number K vs H Q E) : t__law_number K { nx := fun _ H' => Q .non H', rt := Q } (start N__law_number vs) H := by
  obtain ⟨b, n, rfl, B, hn, q⟩ := h
  refine ⟨⟨by decide, by decide, by decide⟩, b, _, n, rfl, B, by omega, by decide, by decide, fun r1 H1 a1 c1 B1 f1 => ?_⟩
  refine ⟨⟨by decide, by decide, by decide⟩, .inl ⟨by omega, by have : r1 < 100000000 := c1; omega⟩, ?_⟩
  refine ⟨⟨by decide, by decide, by decide⟩, b, _, _, rfl, B1, by omega, by decide, by decide, fun r2 H2 a2 c2 B2 f2 => ?_⟩
  refine ⟨⟨by decide, by decide, by decide⟩, .inl ⟨by omega, by have : r2 < 100000000 := c2; omega⟩, ?_⟩
  refine ⟨⟨by decide, by decide, by decide⟩, b, _, _, rfl, B2, by omega, by decide, by decide, fun r3 H3 a3 c3 B3 f3 => ?_⟩
  refine ⟨b, _, _, rfl, B3, by omega, by decide, by decide, fun r4 H4 a4 c4 B4 f4 => ?_⟩
  refine ⟨⟨by decide, by decide, by decide⟩, b, _, _, rfl, B4, by omega, by decide, by decide, fun r5 H5 a5 c5 B5 f5 => ?_⟩
  refine ⟨⟨by decide, by decide, by decide⟩, b, _, _, rfl, B5, by omega, by decide, by decide, fun r6 H6 a6 c6 B6 f6 => ?_⟩
  refine ⟨by show 4 ≤ sizeLine; decide, fun p hp => ?_⟩
  refine ⟨b, _, _, rfl, B6.new hp, by omega, by decide, by decide, fun r7 H7 a7 c7 B7 f7 => ?_⟩
  have np : p ≠ b := by
    obtain ⟨_, _, _, e, _⟩ := B6
    exact (ne_of_none e hp).symm
  have hp7 := f7 p _ upd_same np
  obtain ⟨v, hv, hm⟩ := pick (xs := [V.int r4, V.int r5, V.int (r1 * 10 ^ Int.toNat 22 + r2 * 10 ^ Int.toNat 11 + r3), V.int (10 ^ Int.toNat 30 - 9 - r6)]) a7 c7
  refine oS_of (rdS_l hp7) (oK_of hv ?_)
  have hv : ∃ i : Int, v = .int i ∧ -(10 ^ 40) < i ∧ i < 10 ^ 40 := by
    have e5 : r5 < 100000000 := c5
    have e1 : r1 < 100000000 := c1
    have e2 : r2 < 100000000 := c2
    have e3 : r3 < 100000000 := c3
    simp only [List.mem_cons, List.not_mem_nil, or_false] at hm
    rcases hm with rfl | rfl | rfl | rfl
    · exact ⟨_, rfl, by omega, by omega⟩
    · exact ⟨_, rfl, by omega, by omega⟩
    · exact ⟨_, rfl, by simp only [Int.toNat]; omega, by simp only [Int.toNat]; omega⟩
    · exact ⟨_, rfl, by simp only [Int.toNat]; omega, by simp only [Int.toNat]; omega⟩
  obtain ⟨i, rfl, hi1, hi2⟩ := hv
  refine ⟨by show 2 ≤ sizeLine; decide, fun p2 hp2 => ?_⟩
  refine ⟨b, _, _, rfl, B7.new hp2, by omega, by decide, by decide, fun r8 H8 a8 c8 B8 f8 => ?_⟩
  have np2 : p2 ≠ b := by
    obtain ⟨_, _, _, e, _⟩ := B7
    exact (ne_of_none e hp2).symm
  have hp8 := f8 p2 _ upd_same np2
  have F : Fr b H H8 := ((((((f1.trans f2).trans f3).trans f4).trans f5).trans f6).trans ((Fr.new hp).trans f7)).trans ((Fr.new hp2).trans f8)
  have hr8 : r8 = 0 ∨ r8 = 1 := by omega
  rcases hr8 with rfl | rfl
  · refine oS_of (rdS_l hp8) (oK_of rfl ⟨.inr ⟨by decide, by decide⟩, ?_⟩)
    rw [Int.mul_one]
    exact q _ _ hi1 hi2 B8 F
  · refine oS_of (rdS_l hp8) (oK_of rfl ⟨.inr ⟨by decide, by decide⟩, ?_⟩)
    refine q _ _ (by omega) (by omega) B8 F

theorem BoxAt.ne {H : Hp} {b p : Addr} {n : Nat} (h : BoxAt H b n) (hp : H p = none) : p ≠ b := by
  obtain ⟨_, _, _, e, _⟩ := h
  exact (ne_of_none e hp).symm
theorem len__law_string {K vs H Q E} (h : sp__law_string K vs H Q E) : vs.length = P__law_string.length := by obtain ⟨b, n, rfl, _⟩ := h; rfl
theorem p__law_string {K vs H Q E} (h : sp__law_string K vs H Q E) : t__law_string K { nx := fun _ H' => Q .non H', rt := Q } (start N__law_string vs) H := by
  obtain ⟨b, n, rfl, B, hn, q⟩ := h
  -- _law_many
  refine ⟨b, _, n, rfl, B, by omega, by decide, by decide, fun r1 H1 a1 c1 B1 f1 => ?_⟩
  refine ⟨b, _, _, rfl, B1, by omega, by decide, by decide, fun r2 H2 a2 c2 B2 f2 => ?_⟩
  refine ⟨by show 2 ≤ sizeLine; decide, fun p hp => ?_⟩
  refine ⟨b, _, _, rfl, B2.new hp, by omega, by decide, by decide, fun r3 H3 a3 c3 B3 f3 => ?_⟩
  have hp3 := f3 p _ upd_same (B2.ne hp)
  have F3 : Fr b H H3 := (f1.trans f2).trans ((Fr.new hp).trans f3)
  obtain ⟨v, hv, hm⟩ := pick (xs := [V.int r1, V.int (28 + r2)]) a3 c3
  refine oS_of (rdS_l hp3) (oK_of hv ?_)
  have hv : ∃ i : Int, v = .int i ∧ 0 ≤ i ∧ i < 40 := by
    simp only [List.mem_cons, List.not_mem_nil, or_false] at hm
    rcases hm with rfl | rfl
    · exact ⟨_, rfl, by omega, by omega⟩
    · exact ⟨_, rfl, by omega, by omega⟩
  obtain ⟨many, rfl, hi1, hi2⟩ := hv
  -- first, step
  refine ⟨b, _, _, rfl, B3, by omega, by decide, by decide, fun r4 H4 a4 c4 B4 f4 => ?_⟩
  refine ⟨b, _, _, rfl, B4, by omega, by decide, by decide, fun r5 H5 a5 c5 B5 f5 => ?_⟩
  refine ⟨by show 2 ≤ sizeLine; decide, fun p2 hp2 => ?_⟩
  refine ⟨p2, _, rfl, SqT.of upd_same, rfl, _, _, rfl, _, _, rfl, rfl, ?_⟩
  have B6 := B5.new (o := .tup [.int r4, .int r5]) hp2
  have F6 : Fr b H _ := ((F3.trans f4).trans f5).trans (Fr.new (o := .tup [.int r4, .int r5]) hp2)
  -- ''.join([..])
  refine ⟨⟨_, rfl⟩, ?_⟩
  refine lcr (n := many) (fun R h => h) (by omega) (by omega) (fun D i H' => ∃ ys : List Str, Ex (upd H5 p2 (.tup [.int r4, .int r5])) H' ∧ (upd H5 p2 (.tup [.int r4, .int r5])) D = none ∧ H' D = some (.lst (ys.map V.str)) ∧ ys.length = i ∧ (ys.map (·.length)).sum = i ∧ ∀ y ∈ ys, sok y) ?_ (fun y => rfl) ?_ ?_
  · exact fun D hD => ⟨[], Ex.new hD, hD, upd_same, rfl, rfl, fun y hy => by cases hy⟩
  · rintro D i H' hi ⟨ys, e, hD, hl, hy, hs, hk⟩
    refine ⟨.inl ⟨by omega, by omega⟩, by decide, ⟨by decide, ?_⟩⟩
    have m0 := Int.emod_nonneg (r4 + r5 * (i : Int)) (show (26 : Int) ≠ 0 by decide)
    have m1 := Int.emod_lt_of_pos (r4 + r5 * (i : Int)) (show (0 : Int) < 26 by decide)
    obtain ⟨c, hc, hcm⟩ := pick (xs := (Str.ofString "abcdefghijklmnopqrstuvwxyz").cps.toList) m0 (by rw [cps_letters]; exact m1)
    refine oK_of hc ⟨_, hl, ?_, ys ++ [⟨#[c]⟩], Ex.mut e hD, hD, ?_, ?_, ?_, ?_⟩
    · rw [List.length_map]; exact szt (by omega)
    · rw [upd_same, List.map_append]; rfl
    · rw [List.length_append, hy]; rfl
    · rw [List.map_append, List.sum_append, hs]; rfl
    · intro y hy
      rcases List.mem_append.mp hy with hy | hy
      · exact hk y hy
      · have : y = ⟨#[c]⟩ := by simpa using hy
        subst this
        exact sok_one ((by decide +kernel : sok "abcdefghijklmnopqrstuvwxyz") c hcm)
  · rintro D H6 hD ⟨ys, e, _, hl, hy, hs, hk⟩
    have B7 := B6.ex e
    have F7 : Fr b H H6 := F6.trans (Fr.ex e)
    refine oS_of (rdS_l hl) ⟨ys, rfl, by rw [hs]; show many.toNat + ys.length * 0 ≤ _; omega, ?_⟩
    have hjl : (Txt.join "" ys).length = many.toNat := by rw [slen_join0, hs]
    have hok := sok_join0 hk
    generalize Txt.join "" ys = z at hjl hok
    -- if take == 0
    refine ⟨b, _, _, rfl, B7, by omega, by decide, by decide, fun r8 H8 a8 c8 B8 f8 => ?_⟩
    have F8 := F7.trans f8
    show bB (decide (V.int r8 = V.int 0)) _ _
    refine bB_d (fun h0 => ?_) (fun h0 => ?_)
    · refine ⟨szl (by omega), b, _, _, rfl, B8, by omega, by show (0 : Int) < (z.length : Int) + 1; omega, by show (z.length : Int) + 1 ≤ _; omega, fun r9 H9 a9 c9 B9 f9 => ?_⟩
      refine ⟨b, _, _, rfl, B9, by omega, by decide, by decide, fun r10 H10 a10 c10 B10 f10 => ⟨by decide, ?_⟩⟩
      obtain ⟨c, hc, hcm⟩ := pick (xs := (Str.ofString "ABZ019 _-.?$!\n,@{").cps.toList) a10 (by rw [show (Str.ofString "ABZ019 _-.?$!\n,@{").cps.toList.length = 17 by decide +kernel]; exact c10)
      refine oK_of hc ?_
      have sz := fun lo hi => slen_cut z lo hi
      have l1 : ∀ a : Str, (⟨#[c]⟩ : Str).length = 1 := fun _ => rfl
      refine ⟨szl (by omega), ⟨szl (by have := sz none (some r9); rw [l1 z]; omega), ⟨szl (by omega), ⟨szl (by have := sz none (some r9); have := sz (some (r9 + 1)) none; rw [slen_app, l1 z]; omega), ?_⟩⟩⟩⟩
      refine ⟨szl (by omega), ⟨szl (by have := sz none (some r9); rw [l1 z]; omega), ⟨szl (by omega), ⟨szl (by have := sz none (some r9); have := sz (some r9) none; rw [slen_app, l1 z]; omega), ?_⟩⟩⟩⟩
      refine ⟨by show 2 ≤ sizeLine; decide, fun p3 hp3 => ?_⟩
      refine ⟨b, _, _, rfl, B10.new hp3, by omega, by decide, by decide, fun r11 H11 a11 c11 B11 f11 => ?_⟩
      have hp11 := f11 p3 _ upd_same (B10.ne hp3)
      obtain ⟨v, hv, hm⟩ := pick (xs := [V.str (cutS z none (some r9) ++ ⟨#[c]⟩ ++ cutS z (some (r9 + 1)) none), V.str (cutS z none (some r9) ++ ⟨#[c]⟩ ++ cutS z (some r9) none)]) a11 c11
      refine oS_of (rdS_l hp11) (oK_of hv ?_)
      have hco : sok ⟨#[c]⟩ := sok_one ((by decide +kernel : sok "ABZ019 _-.?$!\n,@{") c hcm)
      have hv : ∃ w : Str, v = .str w ∧ w.length ≤ 100 ∧ sok w := by
        simp only [List.mem_cons, List.not_mem_nil, or_false] at hm
        rcases hm with rfl | rfl
        · refine ⟨_, rfl, ?_, sok_app (sok_app (sok_cut hok _ _) hco) (sok_cut hok _ _)⟩
          rw [slen_app, slen_app, l1 z]
          have := sz none (some r9); have := sz (some (r9 + 1)) none; omega
        · refine ⟨_, rfl, ?_, sok_app (sok_app (sok_cut hok _ _) hco) (sok_cut hok _ _)⟩
          rw [slen_app, slen_app, l1 z]
          have := sz none (some r9); have := sz (some r9) none; omega
      obtain ⟨w, rfl, hw, hwo⟩ := hv
      exact q w H11 hw hwo (B11.le (by omega)) (((F8.trans f9).trans f10).trans ((Fr.new hp3).trans f11))
    · exact q z H8 (by omega) hok (B8.le (by omega)) F8
theorem len__law_mark {K vs H Q E} (h : sp__law_mark K vs H Q E) : vs.length = P__law_mark.length := by obtain ⟨b, n, rfl, _⟩ := h; rfl
theorem p__law_mark {K vs H Q E} (h : sp__law_mark K vs H Q E) : t__law_mark K { nx := fun _ H' => Q .non H', rt := Q } (start N__law_mark vs) H := by
  obtain ⟨b, n, rfl, B, hn, q⟩ := h
  refine ⟨by show 7 ≤ sizeLine; decide, fun p hp => ?_⟩
  refine ⟨b, _, _, rfl, B.new hp, by omega, by decide, by decide, fun r1 H1 a1 c1 B1 f1 => ?_⟩
  have hp1 := f1 p _ upd_same (B.ne hp)
  obtain ⟨v, hv, hm⟩ := pick (xs := [V.str " ", V.str "#", V.str "|", V.str "/", V.str "", V.str "-", V.str "a"]) a1 c1
  refine oS_of (rdS_l hp1) (oK_of hv ?_)
  have hv : ∃ w : Str, v = .str w ∧ w.length ≤ 4 ∧ sok w := by
    simp only [List.mem_cons, List.not_mem_nil, or_false] at hm
    rcases hm with rfl | rfl | rfl | rfl | rfl | rfl | rfl <;> exact ⟨_, rfl, by decide, by decide +kernel⟩
  obtain ⟨w1, rfl, hw1, ho1⟩ := hv
  refine ⟨by show 13 ≤ sizeLine; decide, fun p2 hp2 => ?_⟩
  refine ⟨b, _, _, rfl, B1.new hp2, by omega, by decide, by decide, fun r2 H2 a2 c2 B2 f2 => ?_⟩
  have hp2' := f2 p2 _ upd_same (B1.ne hp2)
  obtain ⟨v, hv, hm⟩ := pick (xs := [V.str "0", V.str "1", V.str "2", V.str "3", V.str "4", V.str "", V.str "a", V.str " ", V.str "9", V.str "01", V.str "12", V.str "23", V.str "0123"]) a2 c2
  refine oS_of (rdS_l hp2') (oK_of hv ?_)
  have hv : ∃ w : Str, v = .str w ∧ w.length ≤ 4 ∧ sok w := by
    simp only [List.mem_cons, List.not_mem_nil, or_false] at hm
    rcases hm with rfl | rfl | rfl | rfl | rfl | rfl | rfl | rfl | rfl | rfl | rfl | rfl | rfl <;> exact ⟨_, rfl, by decide, by decide +kernel⟩
  obtain ⟨w2, rfl, hw2, ho2⟩ := hv
  refine ⟨szl (by omega), ?_⟩
  refine ⟨by show 5 ≤ sizeLine; decide, fun p3 hp3 => ?_⟩
  refine ⟨b, _, _, rfl, B2.new hp3, by omega, by decide, by decide, fun r3 H3 a3 c3 B3 f3 => ?_⟩
  have hp3' := f3 p3 _ upd_same (B2.ne hp3)
  obtain ⟨v, hv, hm⟩ := pick (xs := [V.str "", V.str "", V.str "", V.str "0", V.str " "]) a3 c3
  refine oS_of (rdS_l hp3') (oK_of hv ?_)
  have hv : ∃ w : Str, v = .str w ∧ w.length ≤ 4 ∧ sok w := by
    simp only [List.mem_cons, List.not_mem_nil, or_false] at hm
    rcases hm with rfl | rfl | rfl | rfl | rfl <;> exact ⟨_, rfl, by decide, by decide +kernel⟩
  obtain ⟨w3, rfl, hw3, ho3⟩ := hv
  refine ⟨szl (by rw [slen_app]; omega), ?_⟩
  exact q _ _ (by rw [slen_app, slen_app]; omega) (sok_app (sok_app ho1 ho2) ho3) B3 (((Fr.new hp).trans f1).trans (((Fr.new hp2).trans f2).trans ((Fr.new hp3).trans f3)))

theorem len__law_is_mark {K vs H Q E} (h : sp__law_is_mark K vs H Q E) : vs.length = P__law_is_mark.length := by obtain ⟨z, rfl, _⟩ := h; rfl
theorem beq_one (a : String) (c k : Nat) (h : (Str.ofString a).cps.toList = [c]) : (Str.ofString a == (⟨#[k]⟩ : Str)) = decide (k = c) := by
  rw [Bool.eq_iff_iff, decide_eq_true_eq, beq_iff_eq]
  constructor
  · intro e
    have := congrArg (fun z : Str => z.cps.toList) e
    dsimp only at this
    rw [h] at this
    injection this with e1
    exact e1.symm
  · intro e
    subst e
    exact toList_inj h
theorem inV_kinds (k : Nat) : inV (.str ⟨#[k]⟩) [.str "#", .str "|", .str "/"] = decide (k ∈ [35, 124, 47]) := by
  show ((Str.ofString "#" == (⟨#[k]⟩ : Str)) || ((Str.ofString "|" == (⟨#[k]⟩ : Str)) || ((Str.ofString "/" == (⟨#[k]⟩ : Str)) || false))) = _
  rw [beq_one "#" 35 k (by decide +kernel), beq_one "|" 124 k (by decide +kernel), beq_one "/" 47 k (by decide +kernel), Bool.eq_iff_iff]
  simp
theorem inV_digits (k : Nat) : inV (.str ⟨#[k]⟩) [.str "0", .str "1", .str "2", .str "3"] = decide (k ∈ [48, 49, 50, 51]) := by
  show ((Str.ofString "0" == (⟨#[k]⟩ : Str)) || ((Str.ofString "1" == (⟨#[k]⟩ : Str)) || ((Str.ofString "2" == (⟨#[k]⟩ : Str)) || ((Str.ofString "3" == (⟨#[k]⟩ : Str)) || false)))) = _
  rw [beq_one "0" 48 k (by decide +kernel), beq_one "1" 49 k (by decide +kernel), beq_one "2" 50 k (by decide +kernel), beq_one "3" 51 k (by decide +kernel), Bool.eq_iff_iff]
  simp
theorem p__law_is_mark {K vs H Q E} (h : sp__law_is_mark K vs H Q E) : t__law_is_mark K { nx := fun _ H' => Q .non H', rt := Q } (start N__law_is_mark vs) H := by
  obtain ⟨z, rfl, hs, q⟩ := h
  show bB (decide (V.str z = V.str " ")) _ _
  rw [eq_blank]
  refine bB_d (fun h1 => ?_) (fun h1 => ?_)
  · have e : isMark z = true := by unfold isMark; rw [h1]; rfl
    rw [e] at q
    exact q H (Ex.refl H)
  · refine ⟨szl (by omega), ?_⟩
    show bV (.bl (decide (V.int (z.length : Int) = V.int 2))) _ _
    refine bV_d (fun h2 => ?_) (fun h2 => ?_)
    · injection h2 with h2
      have h2 : z.length = 2 := by omega
      have h3 : z.cps.toList.length = 2 := h2
      obtain ⟨k, i, e⟩ : ∃ k i, z.cps.toList = [k, i] := by
        match hz : z.cps.toList, h3 with
        | [k, i], _ => exact ⟨k, i, rfl⟩
      rw [isMark_two e] at q
      have a0 : atI z.cps.toList 0 = some k := by rw [e]; rfl
      have a1 : atI z.cps.toList 1 = some i := by rw [e]; rfl
      refine ⟨szl (by omega), oK_of a0 ?_⟩
      refine ⟨by show 3 ≤ sizeLine; decide, fun p hp => oS_of (rdS_t upd_same) ⟨rfl, rfl, ?_⟩⟩
      show bV (.bl (inV (.str ⟨#[k]⟩) [.str "#", .str "|", .str "/"])) _ _
      rw [inV_kinds]
      refine bV_d (fun h4 => ?_) (fun h4 => ?_)
      · refine ⟨szl (by omega), oK_of a1 ?_⟩
        refine ⟨by show 4 ≤ sizeLine; decide, fun p2 hp2 => oS_of (rdS_t upd_same) ⟨rfl, rfl, ?_⟩⟩
        show Q (.bl (inV (.str ⟨#[i]⟩) [.str "0", .str "1", .str "2", .str "3"])) _
        rw [inV_digits]
        rw [decide_eq_true h4, Bool.true_and] at q
        exact q _ ((Ex.new hp).trans (Ex.new hp2))
      · rw [decide_eq_false h4, Bool.false_and] at q
        exact q _ (Ex.new hp)
    · have h2 : z.length ≠ 2 := fun e => h2 (by rw [e]; rfl)
      rw [isMark_other h1 h2] at q
      exact q H (Ex.refl H)
theorem len__law_is {K vs H Q E} (h : sp__law_is K vs H Q E) : vs.length = P__law_is.length := by obtain ⟨x, y, rfl, _⟩ := h; rfl
theorem p__law_is {K vs H Q E} (h : sp__law_is K vs H Q E) : t__law_is K { nx := fun _ H' => Q .non H', rt := Q } (start N__law_is vs) H := by
  obtain ⟨x, y, rfl, q⟩ := h
  show Q (.bl (decide (V.bl x = V.bl y))) H
  have : decide (V.bl x = V.bl y) = decide (x = y) := by
    apply decide_eq_decide.mpr
    constructor
    · intro e; injection e
    · intro e; rw [e]
  rw [this]; exact q
theorem len__law_is_word {K vs H Q E} (h : sp__law_is_word K vs H Q E) : vs.length = P__law_is_word.length := by obtain ⟨z, rfl, _⟩ := h; rfl
theorem cps_a : (Str.ofString "a").cps.toList = [97] := by decide +kernel
theorem cps_z : (Str.ofString "z").cps.toList = [122] := by decide +kernel
theorem lt_one (a b : Nat) : decide ([a] < [b]) = decide (a < b) := by
  apply decide_eq_decide.mpr
  simp [List.cons_lt_cons_iff]
theorem p__law_is_word {K vs H Q E} (h : sp__law_is_word K vs H Q E) : t__law_is_word K { nx := fun _ H' => Q .non H', rt := Q } (start N__law_is_word vs) H := by
  obtain ⟨z, rfl, hs, ho, q⟩ := h
  unfold isWord at q
  refine ⟨szl (by omega), ?_⟩
  show bV (.bl (decide ((0 : Int) < (z.length : Int)))) _ _
  refine bV_d (fun h1 => ?_) (fun h1 => ?_)
  · show bV (.bl (decide ((z.length : Int) < 31))) _ _
    refine bV_d (fun h2 => ?_) (fun h2 => ?_)
    · rw [decide_eq_true (show 1 ≤ z.length by omega), decide_eq_true (show z.length ≤ 30 by omega), Bool.true_and, Bool.true_and] at q
      walk_at "u"
      refine lcf (.str z) (fun R h => h) trivial (fun _ _ => trivial) (fun y => match y with | .str w => !(w.cps.toList.all letter) | _ => false) (fun y => y) ?_ ?_ ?_ ?_ ?_
      · unfold chars; rw [List.length_map, ← str_len, sizeLine_eq]; omega
      · intro y; rfl
      · intro i y H' hy e R hR
        have : ∃ c, y = V.str ⟨#[c]⟩ := by
          unfold chars at hy
          rw [List.getElem?_map] at hy
          cases e : z.cps.toList[i]? with
          | none => rw [e] at hy; cases hy
          | some c => rw [e] at hy; exact ⟨c, (Option.some.inj hy).symm⟩
        obtain ⟨c, rfl⟩ := this
        have hr : ∀ b : Bool, b = letter c → R (!b) H' := fun b hb => by
          have := hR H' (Ex.refl _)
          simp only [List.all_cons, List.all_nil, Bool.and_true] at this
          rw [hb]; exact this
        show bV (.bl (!decide (sl (⟨#[c]⟩ : Str) < (Str.ofString "a").cps.toList))) _ _
        rw [cps_a]
        show bV (.bl (!decide ([c] < [97]))) _ _
        rw [lt_one]
        refine bV_of (fun h3 => ?_) (fun h3 => ?_)
        · show R (!(!decide ((Str.ofString "z").cps.toList < [c]))) H'
          rw [cps_z, lt_one]
          refine hr _ ?_
          have h3 : 97 ≤ c := by simpa using h3
          unfold letter
          rw [decide_eq_true h3, Bool.true_and]
          rw [Bool.eq_iff_iff]; simp
        · refine hr _ ?_
          have h3 : c < 97 := by simpa using h3
          unfold letter
          rw [decide_eq_false (by omega), Bool.false_and]
      · intro i y H' hy _ e R hR
        exact hR H' (Ex.refl _)
      · intro D H' hD e hl'
        refine ⟨by show 0 ≤ sizeLine; decide, fun p hp => ?_⟩
        have hl2 : (upd H' p (.lst [])) D = some (.lst (((chars z).filter fun y => match y with | .str w => !(w.cps.toList.all letter) | _ => false).map fun y => y)) := by
          rw [upd_ne (ne_of_none hl' hp)]; exact hl'
        rw [List.map_id'] at hl2
        have hf : ((chars z).filter fun y => match y with | .str w => !(w.cps.toList.all letter) | _ => false) = ((z.cps.toList.filter fun c => !letter c).map fun c => (⟨#[c]⟩ : Str)).map V.str := by
          unfold chars
          rw [List.filter_map, List.map_map]
          congr 1
          apply List.filter_congr
          intro c _
          simp
        rw [hf] at hl2
        show ∃ d e, _
        refine ⟨_, _, .lst (SqL.of hl2) (dpAll_str _), .lst (SqL.of upd_same) .nil, shaped_strs _ ?_, by decide, ?_⟩
        · intro y hy
          obtain ⟨c, hc, rfl⟩ := List.mem_map.mp hy
          exact sok_one (ho c (List.mem_filter.mp hc).1)
        · rw [eqv_nil]
          have : (List.map PyData.str (List.map (fun c => (⟨#[c]⟩ : Str)) (z.cps.toList.filter fun c => !letter c))).isEmpty = z.cps.toList.all letter := by
            generalize z.cps.toList = l
            rw [Bool.eq_iff_iff]
            simp [List.isEmpty_iff, List.filter_eq_nil_iff]
          rw [this]
          exact q _ (e.trans (Ex.new hp))
    · rw [decide_eq_false (show ¬ z.length ≤ 30 by omega), Bool.and_false, Bool.false_and] at q
      exact q H (Ex.refl H)
  · rw [decide_eq_false (show ¬ 1 ≤ z.length by omega), Bool.false_and, Bool.false_and] at q
    exact q H (Ex.refl H)

theorem _root_.U.ScriptAt.box {K : PySem.W.Frag} {H H' : Hp} {a b : Addr} {ns : List Int} {n : Nat} (h : ScriptAt K H a ns) (B : BoxAt H b n) (f : U.Fr b H H') : ScriptAt K H' a ns := by
  obtain ⟨x, y, z, e, _⟩ := B
  exact h.fr f e
theorem kn_ref {H : Hp} {p : Addr} {o : HO} (h : H p = some o) (ho : (tyO o).isSome = true) : Kn H (.ref p) := ⟨by show ((H p).bind tyO).isSome = true; rw [h]; exact ho, trivial⟩
theorem log_small {i : Int} (h1 : -(10 ^ 40) < i) (h2 : i < 10 ^ 40) : i.natAbs.log2 < 1920 := by
  by_cases h : i.natAbs = 0
  · rw [h]; decide
  · rw [Nat.log2_lt h]
    have : i.natAbs < 10 ^ 40 := by omega
    exact Nat.lt_of_lt_of_le this (by decide +kernel)
theorem len_small {i : Int} (h1 : -(10 ^ 40) < i) (h2 : i < 10 ^ 40) : (Str.ofString (toString i)).length ≤ 1000 := by
  have h := int_text_length_le10 (a := i) (k := 40) (by decide) (by omega)
  rw [PySem.ofString_length]
  omega
theorem tokV_tup {K : PySem.W.Frag} {H : Hp} {p : Addr} {x y : V} (h : H p = some (.tup [x, y])) : tokV K H (.ref p) = (markV x && wordV y) := by
  show (match H p with | some (.tup [x, y]) => markV x && wordV y | _ => false) = _
  rw [h]
theorem tokV_no {K : PySem.W.Frag} {H : Hp} {p : Addr} {o : HO} (h : H p = some o) (hn : ∀ x y, o ≠ .tup [x, y]) : tokV K H (.ref p) = false := by
  show (match H p with | some (.tup [x, y]) => markV x && wordV y | _ => false) = _
  rw [h]
  split
  · rename_i e
    exact absurd (Option.some.inj e) (hn _ _)
  · rfl
theorem kn1_tup {H : Hp} {p : Addr} {xs : List V} (h : H p = some (.tup xs)) (k : ∀ x ∈ xs, Kn H x) : Kn1 H (.ref p) := by
  show (match H p with | some (.tup xs) => ∀ x ∈ xs, Kn H x | some (.lst _) => True | some (.dK _) => True | _ => False)
  rw [h]; exact k
theorem kn1_lst {H : Hp} {p : Addr} {xs : List V} (h : H p = some (.lst xs)) : Kn1 H (.ref p) := by
  show (match H p with | some (.tup xs) => ∀ x ∈ xs, Kn H x | some (.lst _) => True | some (.dK _) => True | _ => False)
  rw [h]; trivial
theorem kn1_dct {H : Hp} {p : Addr} {xs : List (Key × V)} (h : H p = some (.dK xs)) : Kn1 H (.ref p) := by
  show (match H p with | some (.tup xs) => ∀ x ∈ xs, Kn H x | some (.lst _) => True | some (.dK _) => True | _ => False)
  rw [h]; trivial
theorem kn_str {H : Hp} {z : Str} (h : z.length ≤ 1000) : Kn H (.str z) := ⟨rfl, h⟩
/-- the odd token of a turn -/
def tRest (K : PySem.W.Frag) : TS := tSeq (tAsg (tLst (tCons (tLst (tCons (uVar 9) (tCons (uVar 8) (tNil)))) (tCons (tTup (tCons (uVar 9) (tNil))) (tCons (tTup (tCons (uVar 9) (tCons (uVar 8) (tCons (uVar 8) (tNil))))) (tCons (tTup (tCons (uVar 8) (tCons (uVar 9) (tNil)))) (tCons (tTup (tCons (uVar 9) (tCons (tLst (tCons (uVar 8) (tNil))) (tNil)))) (tCons (tTup (tCons (tC .non) (tCons (uVar 8) (tNil)))) (tCons (tTup (tCons (uVar 9) (tCons (tC (.int 5)) (tNil)))) (tNil))))))))) (gName 10)) (tSeq (tAsg (tOp (uIx K) (uVar 10) (tCall (sp__law_take K) [] E0 (tCons (uVar 2) (tCons (tC (.int 7)) (tNil))))) (gName 6)) (uIfS (uAnd (uNot (uT (tCall (sp__law_is K) [] E0 (tCons (tCall (sp_is_token K) [] E0 (tCons (uVar 6) (tNil))) (tCons (tC (.bl false)) (tNil)))))) (uNot (uAnd (uT (tCall (sp__law_is_mark K) [] E0 (tCons (uVar 8) (tNil)))) (uT (tCall (sp__law_is_word K) [] E0 (tCons (uVar 9) (tNil))))))) (tRet (tC (.bl false))) (tNext)))
theorem rest_ok {K : PySem.W.Frag} {H : Hp} {a b : Addr} {ns : List Int} {z w : Str} {n : Nat} {D : Ends} {x0 x1 x3 x4 x5 x6 x7 x10 : Option V} (hz1 : z.length ≤ 100) (hw1 : w.length ≤ 100) (hz2 : sok z) (hw2 : sok w) (S : ScriptAt K H a ns) (B : BoxAt H b n) (hn : n ≤ 900000)
    (k : ∀ (v : V) H', ScriptAt K H' a ns → BoxAt H' b (n + 1) → ∀ l : Addr, D.nx [x0, x1, some (.ref b), x3, x4, x5, some v, x7, some (.str z), some (.str w), some (.ref l)] H') :
    tRest K D [x0, x1, some (.ref b), x3, x4, x5, x6, x7, some (.str z), some (.str w), x10] H := by
  refine ⟨by show 2 ≤ sizeLine; decide, fun p1 n1 => ⟨by show 1 ≤ sizeLine; decide, fun p2 n2 => ⟨by show 3 ≤ sizeLine; decide, fun p3 n3 => ⟨by show 2 ≤ sizeLine; decide, fun p4 n4 => ⟨by show 1 ≤ sizeLine; decide, fun p5 n5 =>
    ⟨by show 2 ≤ sizeLine; decide, fun p6 n6 => ⟨by show 2 ≤ sizeLine; decide, fun p7 n7 => ⟨by show 2 ≤ sizeLine; decide, fun p8 n8 => ⟨by show 7 ≤ sizeLine; decide, fun p9 n9 => ?_⟩⟩⟩⟩⟩⟩⟩⟩⟩
  have g1 : Ex H _ := Ex.new (o := .lst [.str w, .str z]) n1
  have g2 := Ex.new (o := .tup [.str w]) n2
  have g3 := Ex.new (o := .tup [.str w, .str z, .str z]) n3
  have g4 := Ex.new (o := .tup [.str z, .str w]) n4
  have g5 := Ex.new (o := .lst [.str z]) n5
  have g6 := Ex.new (o := .tup [.str w, .ref p5]) n6
  have g7 := Ex.new (o := .tup [.non, .str z]) n7
  have g8 := Ex.new (o := .tup [.str w, .int 5]) n8
  have g9 := Ex.new (o := .lst [.ref p1, .ref p2, .ref p3, .ref p4, .ref p6, .ref p7, .ref p8]) n9
  have G := (((((((g1.trans g2).trans g3).trans g4).trans g5).trans g6).trans g7).trans g8).trans g9
  have h1 := (((((((g2.trans g3).trans g4).trans g5).trans g6).trans g7).trans g8).trans g9) p1 _ upd_same
  have h2 := ((((((g3.trans g4).trans g5).trans g6).trans g7).trans g8).trans g9) p2 _ upd_same
  have h3 := (((((g4.trans g5).trans g6).trans g7).trans g8).trans g9) p3 _ upd_same
  have h4 := ((((g5.trans g6).trans g7).trans g8).trans g9) p4 _ upd_same
  have h5 := (((g6.trans g7).trans g8).trans g9) p5 _ upd_same
  have h6 := ((g7.trans g8).trans g9) p6 _ upd_same
  have h7 := (g8.trans g9) p7 _ upd_same
  have h8 := g9 p8 _ upd_same
  have B9 := B.ex G
  have S9 := S.ex G
  refine ⟨b, _, _, rfl, B9, by omega, by decide, by decide, fun r H1 a1 c1 B1 f1 => ?_⟩
  have h9 := f1 p9 _ upd_same (B.ne ((((((((g1.trans g2).trans g3).trans g4).trans g5).trans g6).trans g7).trans g8).free n9))
  obtain ⟨v, hv, hm⟩ := pick (xs := [V.ref p1, V.ref p2, V.ref p3, V.ref p4, V.ref p6, V.ref p7, V.ref p8]) a1 c1
  refine oS_of (rdS_l h9) (oK_of hv ?_)
  have b1 := f1 p1 _ h1 (B.ne n1)
  have b2 := f1 p2 _ h2 (B.ne (g1.free n2))
  have b3 := f1 p3 _ h3 (B.ne ((g1.trans g2).free n3))
  have b4 := f1 p4 _ h4 (B.ne (((g1.trans g2).trans g3).free n4))
  have b5 := f1 p5 _ h5 (B.ne ((((g1.trans g2).trans g3).trans g4).free n5))
  have b6 := f1 p6 _ h6 (B.ne (((((g1.trans g2).trans g3).trans g4).trans g5).free n6))
  have b7 := f1 p7 _ h7 (B.ne ((((((g1.trans g2).trans g3).trans g4).trans g5).trans g6).free n7))
  have b8 := f1 p8 _ h8 (B.ne (((((((g1.trans g2).trans g3).trans g4).trans g5).trans g6).trans g7).free n8))
  have hv : Kn1 H1 v ∧ (tokV K H1 v = false ∨ tokV K H1 v = (isMark z && isWord w)) := by
    simp only [List.mem_cons, List.not_mem_nil, or_false] at hm
    rcases hm with rfl | rfl | rfl | rfl | rfl | rfl | rfl
    · exact ⟨kn1_lst b1, .inl (tokV_no b1 (by intro x y e; cases e))⟩
    · exact ⟨kn1_tup b2 (by simp only [List.mem_cons, List.not_mem_nil, or_false]; rintro x rfl; exact kn_str (by omega)), .inl (tokV_no b2 (by intro x y e; cases e))⟩
    · exact ⟨kn1_tup b3 (by simp only [List.mem_cons, List.not_mem_nil, or_false]; rintro x (rfl | rfl | rfl) <;> exact kn_str (by omega)), .inl (tokV_no b3 (by intro x y e; cases e))⟩
    · exact ⟨kn1_tup b4 (by simp only [List.mem_cons, List.not_mem_nil, or_false]; rintro x (rfl | rfl) <;> exact kn_str (by omega)), .inr (tokV_tup b4)⟩
    · exact ⟨kn1_tup b6 (by simp only [List.mem_cons, List.not_mem_nil, or_false]; rintro x (rfl | rfl); exact kn_str (by omega); exact kn_ref b5 rfl), .inl ((tokV_tup b6).trans (by simp [wordV]))⟩
    · exact ⟨kn1_tup b7 (by simp only [List.mem_cons, List.not_mem_nil, or_false]; rintro x (rfl | rfl); exact ⟨rfl, trivial⟩; exact kn_str (by omega)), .inl ((tokV_tup b7).trans (by simp [markV]))⟩
    · exact ⟨kn1_tup b8 (by simp only [List.mem_cons, List.not_mem_nil, or_false]; rintro x (rfl | rfl); exact kn_str (by omega); exact ⟨rfl, trivial⟩), .inl ((tokV_tup b8).trans (by simp [wordV]))⟩
  obtain ⟨hk, ht⟩ := hv
  have S1 := S9.box B9 f1
  refine ⟨v, rfl, hk, fun H2 e2 => ?_⟩
  refine ⟨_, _, rfl, ?_⟩
  refine bB_of (fun hc => ?_) (fun hc => ?_)
  · have ht' : tokV K H1 v = true := by simpa using hc
    rw [ht'] at ht
    have ht2 : (isMark z && isWord w) = true := by rcases ht with h | h; cases h; exact h.symm
    obtain ⟨q1, q2⟩ := Bool.and_eq_true_iff.mp ht2
    refine ⟨z, rfl, by omega, fun H3 e3 => ?_⟩
    refine bB_t q1 ⟨w, rfl, by omega, hw2, fun H4 e4 => ?_⟩
    refine bB_f (by rw [q2]; rfl) ?_
    exact k v _ (((S1.ex e2).ex e3).ex e4) (((B1.ex e2).ex e3).ex e4) p9
  · exact k v _ (S1.ex e2) (B1.ex e2) p9
theorem scal_ref (y : V) (t : Addr) : scal y (.ref t) = false := by cases y <;> rfl
theorem tyOf_ex {H H' : Hp} {v : V} {t : Ty} (h : tyOf H v = some t) (e : Ex H H') : tyOf H' v = some t := by
  cases v with
  | ref a =>
    have h : (H a).bind tyO = some t := h
    cases q : H a with
    | none => rw [q] at h; cases h
    | some o =>
      rw [q] at h
      show (H' a).bind tyO = some t
      rw [e _ _ q]; exact h
  | _ => exact h
theorem Kn.ex {H H' : Hp} {v : V} (h : Kn H v) (e : Ex H H') : Kn H' v := by
  obtain ⟨h1, h2⟩ := h
  obtain ⟨t, ht⟩ := Option.isSome_iff_exists.mp h1
  exact ⟨by rw [tyOf_ex ht e]; rfl, h2⟩
theorem Kn1.ex {H H' : Hp} {v : V} (h : Kn1 H v) (e : Ex H H') : Kn1 H' v := by
  cases v with
  | ref a =>
    have h : (match H a with | some (.tup xs) => ∀ x ∈ xs, Kn H x | some (.lst _) => True | some (.dK _) => True | _ => False) := h
    split at h
    · rename_i q; exact kn1_tup (e _ _ q) fun x hx => (h x hx).ex e
    · rename_i q; exact kn1_lst (e _ _ q)
    · rename_i q; exact kn1_dct (e _ _ q)
    · exact h.elim
  | _ => exact h
theorem tokV_ex {K : PySem.W.Frag} {H H' : Hp} {v : V} (h : Kn1 H v) (e : Ex H H') : tokV K H' v = tokV K H v := by
  cases v with
  | ref a =>
    have h : (match H a with | some (.tup xs) => ∀ x ∈ xs, Kn H x | some (.lst _) => True | some (.dK _) => True | _ => False) := h
    cases q : H a with
    | none => rw [q] at h; exact h.elim
    | some o =>
      show (match H' a with | some (.tup [x, y]) => markV x && wordV y | _ => false) = (match H a with | some (.tup [x, y]) => markV x && wordV y | _ => false)
      rw [e _ _ q, q]
  | _ => rfl
def OddY (K : PySem.W.Frag) (H : Hp) (y : V) : Prop := Kn H y ∧ wordV y = false ∧ markV y = false ∧ Kn1 H y ∧
  ((∃ d, (∀ H', Ex H H' → Dp K H' y d) ∧ SeqAt.shaped d = true ∧ (PyData.eqv d (.tuple [.str "#0", .str "a"]) = true ∨ tokV K H y = false)) ∨ ∃ a kvs, y = .ref a ∧ H a = some (.dK kvs) ∧ tokV K H y = false)
/-- things that are none -/
def tLast (K : PySem.W.Frag) : TS := tFor (uIter K (tLst (tCons (tC .non) (tCons (tC (.bl true)) (tCons (tC (.int 0)) (tCons (uVar 3) (tCons (tLst (tCons (tC (.str "#0")) (tNil))) (tCons (tTup (tCons (tC (.str "#0")) (tNil))) (tCons (tTup (tCons (tC (.str "a")) (tNil))) (tCons (tDisp [(tC (.str "a"), tC (.str "a"))]) (tCons (tDNewK) (tCons (tTup (tCons (tC (.str "#0")) (tCons (tC (.str "a")) (tNil)))) (tNil))))))))))))) (gName 6) (tSeq (uIfS (uOr (uNot (uT (tCall (sp__law_is K) [] E0 (tCons (tCall (sp_is_word K) [] E0 (tCons (uVar 6) (tNil))) (tCons (tC (.bl false)) (tNil)))))) (uNot (uT (tCall (sp__law_is K) [] E0 (tCons (tCall (sp_is_mark K) [] E0 (tCons (uVar 6) (tNil))) (tCons (tC (.bl false)) (tNil))))))) (tRet (tC (.bl false))) (tNext)) (uIfS (uAnd (uT (tOp (uNe K) (uVar 6) (tTup (tCons (tC (.str "#0")) (tCons (tC (.str "a")) (tNil)))))) (uNot (uT (tCall (sp__law_is K) [] E0 (tCons (tCall (sp_is_token K) [] E0 (tCons (uVar 6) (tNil))) (tCons (tC (.bl false)) (tNil))))))) (tRet (tC (.bl false))) (tNext)))
theorem last_ok {K : PySem.W.Frag} {H : Hp} {a : Addr} {ns : List Int} {lo : Int} {D : Ends} {x0 x1 x2 x4 x5 x6 x7 x8 x9 x10 : Option V} (S : ScriptAt K H a ns)
    (k : ∀ H', ScriptAt K H' a ns → ∀ x6, D.nx [x0, x1, x2, some (.int lo), x4, x5, x6, x7, x8, x9, x10] H') :
    tLast K D [x0, x1, x2, some (.int lo), x4, x5, x6, x7, x8, x9, x10] H := by
  -- things that are none
  refine ⟨by show 1 ≤ sizeLine; decide, fun q1 n1 => ⟨by show 1 ≤ sizeLine; decide, fun q2 n2 => ⟨by show 1 ≤ sizeLine; decide, fun q3 n3 => fun q4 n4 => ⟨upd_same, [(Sum.inr "a", .str "a")], rfl, by show 1 ≤ 15; decide, fun q5 n5 => ⟨by show 2 ≤ sizeLine; decide, fun q6 n6 => ⟨by show 10 ≤ sizeLine; decide, fun q7 n7 => ?_⟩⟩⟩⟩⟩⟩
  have g1 : Ex H _ := Ex.new (o := .lst [.str "#0"]) n1
  have g2 := Ex.new (o := .tup [.str "#0"]) n2
  have g3 := Ex.new (o := .tup [.str "a"]) n3
  have g4 := Ex.mut (o := .dK (mergeK [] [(Sum.inr "a", .str "a")])) (Ex.new (o := .dK []) n4) n4
  have g5 := Ex.new (o := .dK []) n5
  have g6 := Ex.new (o := .tup [.str "#0", .str "a"]) n6
  have g7 := Ex.new (o := .lst [.non, .bl true, .int 0, .int lo, .ref q1, .ref q2, .ref q3, .ref q4, .ref q5, .ref q6]) n7
  have S12 := S.ex (((((((g1.trans g2).trans g3).trans g4).trans g5).trans g6).trans g7))
  have k1 := (((((g2.trans g3).trans g4).trans g5).trans g6).trans g7) q1 _ upd_same
  have k2 := ((((g3.trans g4).trans g5).trans g6).trans g7) q2 _ upd_same
  have k3 := (((g4.trans g5).trans g6).trans g7) q3 _ upd_same
  have k4 := ((g5.trans g6).trans g7) q4 _ upd_same
  have k5 := (g6.trans g7) q5 _ upd_same
  have k6 := g7 q6 _ upd_same
  refine for_src (.lst q7 _) (rdL_of upd_same) (fun j σ H' => ∃ x6, σ = [x0, x1, x2, some (V.int lo), x4, x5, x6, x7, x8, x9, x10] ∧ Ex (upd (upd (upd (upd (upd (upd (upd (upd H q1 (HO.lst [V.str "#0"])) q2 (HO.tup [V.str "#0"])) q3 (HO.tup [V.str "a"])) q4 (HO.dK [])) q4 (HO.dK (mergeK [] [(Sum.inr (Str.ofString "a"), V.str "a")]))) q5 (HO.dK [])) q6 (HO.tup [V.str "#0", V.str "a"])) q7 (.lst [.non, .bl true, .int 0, .int lo, .ref q1, .ref q2, .ref q3, .ref q4, .ref q5, .ref q6])) H') ⟨x6, rfl, Ex.refl _⟩ ?_ ?_ ?_
  · rintro j σ H' _ ⟨x6, rfl, e⟩
    exact rdL_of (e _ _ upd_same)
  · rintro j y σ H' hj ⟨x6, rfl, e⟩
    have hy := List.mem_of_getElem? hj
    have hk : OddY K (upd (upd (upd (upd (upd (upd (upd (upd H q1 (HO.lst [V.str "#0"])) q2 (HO.tup [V.str "#0"])) q3 (HO.tup [V.str "a"])) q4 (HO.dK [])) q4 (HO.dK (mergeK [] [(Sum.inr (Str.ofString "a"), V.str "a")]))) q5 (HO.dK [])) q6 (HO.tup [V.str "#0", V.str "a"])) q7 (.lst [.non, .bl true, .int 0, .int lo, .ref q1, .ref q2, .ref q3, .ref q4, .ref q5, .ref q6])) y := by
      simp only [List.mem_cons, List.not_mem_nil, or_false] at hy
      rcases hy with rfl | rfl | rfl | rfl | rfl | rfl | rfl | rfl | rfl | rfl
      · exact ⟨⟨rfl, trivial⟩, rfl, rfl, trivial, .inl ⟨_, fun H' _ => .non, rfl, .inr rfl⟩⟩
      · exact ⟨⟨rfl, trivial⟩, rfl, rfl, trivial, .inl ⟨_, fun H' _ => .bl true, rfl, .inr rfl⟩⟩
      · exact ⟨⟨rfl, trivial⟩, rfl, rfl, trivial, .inl ⟨_, fun H' _ => .int 0, rfl, .inr rfl⟩⟩
      · exact ⟨⟨rfl, trivial⟩, rfl, rfl, trivial, .inl ⟨_, fun H' _ => .int lo, rfl, .inr rfl⟩⟩
      · exact ⟨kn_ref k1 rfl, rfl, rfl, kn1_lst k1, .inl ⟨_, fun H' e => .lst (SqL.of (e _ _ k1)) (.cons (.str "#0") .nil), by decide +kernel, .inr (tokV_no k1 (by intro x y e; cases e))⟩⟩
      · exact ⟨kn_ref k2 rfl, rfl, rfl, kn1_tup k2 (by simp only [List.mem_cons, List.not_mem_nil, or_false]; rintro x rfl; exact kn_str (by decide)), .inl ⟨_, fun H' e => .tup (SqT.of (e _ _ k2)) (.cons (.str "#0") .nil), by decide +kernel, .inr (tokV_no k2 (by intro x y e; cases e))⟩⟩
      · exact ⟨kn_ref k3 rfl, rfl, rfl, kn1_tup k3 (by simp only [List.mem_cons, List.not_mem_nil, or_false]; rintro x rfl; exact kn_str (by decide)), .inl ⟨_, fun H' e => .tup (SqT.of (e _ _ k3)) (.cons (.str "a") .nil), by decide +kernel, .inr (tokV_no k3 (by intro x y e; cases e))⟩⟩
      · exact ⟨kn_ref k4 rfl, rfl, rfl, kn1_dct k4, .inr ⟨_, _, rfl, k4, tokV_no k4 (by intro x y e; cases e)⟩⟩
      · exact ⟨kn_ref k5 rfl, rfl, rfl, kn1_dct k5, .inr ⟨_, _, rfl, k5, tokV_no k5 (by intro x y e; cases e)⟩⟩
      · exact ⟨kn_ref k6 rfl, rfl, rfl, kn1_tup k6 (by simp only [List.mem_cons, List.not_mem_nil, or_false]; rintro x (rfl | rfl) <;> exact kn_str (by decide)), .inl ⟨_, fun H' e => .tup (SqT.of (e _ _ k6)) (.cons (.str "#0") (.cons (.str "a") .nil)), by decide +kernel, .inl (by decide +kernel)⟩⟩
    obtain ⟨hk, hw, hm, hk1, hne⟩ := hk
    refine ⟨y, rfl, hk.ex e, fun H13 e13 => ?_⟩
    rw [hw]
    refine ⟨_, _, rfl, bB_f rfl ?_⟩
    refine ⟨y, rfl, (hk.ex e).ex e13, ?_⟩
    rw [hm]
    refine ⟨_, _, rfl, bB_f rfl ?_⟩
    refine ⟨by show 2 ≤ sizeLine; decide, fun t nt => ?_⟩
    have E14 := (Ex.trans e e13).trans (Ex.new (o := .tup [.str "#0", .str "a"]) nt)
    have done : ∀ c : Bool, (c = true → tokV K (upd (upd (upd (upd (upd (upd (upd (upd H q1 (HO.lst [V.str "#0"])) q2 (HO.tup [V.str "#0"])) q3 (HO.tup [V.str "a"])) q4 (HO.dK [])) q4 (HO.dK (mergeK [] [(Sum.inr (Str.ofString "a"), V.str "a")]))) q5 (HO.dK [])) q6 (HO.tup [V.str "#0", V.str "a"])) q7 (.lst [.non, .bl true, .int 0, .int lo, .ref q1, .ref q2, .ref q3, .ref q4, .ref q5, .ref q6])) y = false) → bB c (uNot (uT (tCall (sp__law_is K) [] E0 (tCons (tCall (sp_is_token K) [] E0 (tCons (uVar 6) tNil)) (tCons (tC (.bl false)) tNil)))) [x0, x1, x2, some (V.int lo), x4, x5, some y, x7, x8, x9, x10] (upd H13 t (.tup [.str "#0", .str "a"]))
          fun c H1 => bB c (D.rt (.bl false) H1) (∃ x6, [x0, x1, x2, some (V.int lo), x4, x5, some y, x7, x8, x9, x10] = [x0, x1, x2, some (V.int lo), x4, x5, x6, x7, x8, x9, x10] ∧ Ex (upd (upd (upd (upd (upd (upd (upd (upd H q1 (HO.lst [V.str "#0"])) q2 (HO.tup [V.str "#0"])) q3 (HO.tup [V.str "a"])) q4 (HO.dK [])) q4 (HO.dK (mergeK [] [(Sum.inr (Str.ofString "a"), V.str "a")]))) q5 (HO.dK [])) q6 (HO.tup [V.str "#0", V.str "a"])) q7 (.lst [.non, .bl true, .int 0, .int lo, .ref q1, .ref q2, .ref q3, .ref q4, .ref q5, .ref q6])) H1))
          (bB false (D.rt (.bl false) (upd H13 t (.tup [.str "#0", .str "a"]))) (∃ x6, [x0, x1, x2, some (V.int lo), x4, x5, some y, x7, x8, x9, x10] = [x0, x1, x2, some (V.int lo), x4, x5, x6, x7, x8, x9, x10] ∧ Ex (upd (upd (upd (upd (upd (upd (upd (upd H q1 (HO.lst [V.str "#0"])) q2 (HO.tup [V.str "#0"])) q3 (HO.tup [V.str "a"])) q4 (HO.dK [])) q4 (HO.dK (mergeK [] [(Sum.inr (Str.ofString "a"), V.str "a")]))) q5 (HO.dK [])) q6 (HO.tup [V.str "#0", V.str "a"])) q7 (.lst [.non, .bl true, .int 0, .int lo, .ref q1, .ref q2, .ref q3, .ref q4, .ref q5, .ref q6])) (upd H13 t (.tup [.str "#0", .str "a"])))) := by
        intro c hc
        refine bB_of (fun h => ?_) (fun h => ?_)
        · refine ⟨y, rfl, hk1.ex E14, fun H15 e15 => ?_⟩
          rw [tokV_ex hk1 E14, hc h]
          refine ⟨_, _, rfl, bB_f rfl ?_⟩
          exact ⟨_, rfl, E14.trans e15⟩
        · exact ⟨_, rfl, E14⟩
    show uNe K y (.ref t) _ _
    unfold uNe
    rw [scal_ref]
    rcases hne with ⟨d, hd, hs, ht⟩ | ⟨ad, kvs, rfl, hd, ht⟩
    · refine .inl ⟨d, _, hd _ E14, .tup (SqT.of upd_same) (.cons (.str "#0") (.cons (.str "a") .nil)), hs, by decide +kernel, ?_⟩
      refine done _ fun hc => ?_
      rcases ht with ht | ht
      · rw [ht] at hc; cases hc
      · exact ht
    · refine .inr ⟨_, _, _, _, rfl, rfl, E14 _ _ hd, upd_same, ?_⟩
      exact done true fun _ => ht
  · rintro σ H' ⟨x6, rfl, e⟩
    exact k H' (S12.ex e) x6
theorem len_law {K vs H Q E} (h : sp_law K vs H Q E) : vs.length = P_law.length := by obtain ⟨a, ns, rfl, _⟩ := h; rfl
theorem isInt_int (i lo hi : Int) : isInt (.int i) lo hi = (decide (lo ≤ i) && decide (i ≤ hi)) := rfl
theorem p_law {K vs H Q E} (h : sp_law K vs H Q E) : t_law K { nx := fun _ H' => Q .non H', rt := Q } (start N_law vs) H := by
  obtain ⟨a, ns, rfl, hS, hlen, k⟩ := h
  refine forr (n := if (if (ns.length : Int) < 30 then (ns.length : Int) else 30) > 1 then (if (ns.length : Int) < 30 then (ns.length : Int) else 30) else 1) (H1 := H) (fun R h => ?_) ?_ ?_
    (fun i σ H' => ∃ x1 x2 x3 x4 x5 x6 x7 x8 x9 x10, σ = [some (.ref a), x1, x2, x3, x4, x5, x6, x7, x8, x9, x10] ∧ ScriptAt K H' a ns) ?_ ?_ ?_
  · refine oS_l hS.sq ?_
    rw [List.length_map]
    exact h
  · split <;> split <;> omega
  · split <;> split <;> omega
  · exact ⟨none, none, none, none, none, none, none, none, none, none, rfl, hS⟩
  · rintro i σ H1 hi ⟨x1, x2, x3, x4, x5, x6, x7, x8, x9, x10, rfl, hS1⟩
    have hi : (i : Int) < 63 := by split at hi <;> split at hi <;> omega
    -- box, low
    refine ⟨a, ns, _, rfl, hS1, by omega, by omega, fun cell => ⟨cell, rfl, fun b H2 nb e2 B2 => ?_⟩⟩
    refine ⟨b, 0, rfl, B2, by omega, fun lo H3 l1 l2 B3 f3 => ?_⟩
    -- high
    refine ⟨b, _, _, rfl, B3, by omega, by decide, by decide, fun r1 H4 a4 c4 B4 f4 => ?_⟩
    refine ⟨b, _, rfl, B4, by omega, fun hi2 H5 m1 m2 B5 f5 => ?_⟩
    refine ⟨by show 2 ≤ sizeLine; decide, fun p5 hp5 => ?_⟩
    refine ⟨b, _, _, rfl, B5.new hp5, by omega, by decide, by decide, fun r2 H6 a6 c6 B6 f6 => ?_⟩
    have hp6 := f6 p5 _ upd_same (B5.ne hp5)
    obtain ⟨v, hv, hm⟩ := pick (xs := [V.int (lo - 2 + r1), V.int hi2]) a6 c6
    refine oS_of (rdS_l hp6) (oK_of hv ?_)
    have hv : ∃ j : Int, v = .int j := by
      simp only [List.mem_cons, List.not_mem_nil, or_false] at hm
      rcases hm with rfl | rfl <;> exact ⟨_, rfl⟩
    obtain ⟨hi, rfl⟩ := hv
    have S6 : ScriptAt K H6 a ns := ((((hS1.ex e2).box B2 f3).box B3 f4).box B4 f5).box B5 ((Fr.new hp5).trans f6)
    -- the numbers
    refine ⟨b, _, rfl, B6, by omega, fun n3 H7 u1 u2 B7 f7 => ?_⟩
    refine ⟨by show 8 ≤ sizeLine; decide, fun p7 hp7 => ?_⟩
    have S7 := (S6.box B6 f7).ex (Ex.new (o := .lst [.int (lo - 1), .int lo, .int (lo + 1), .int (hi - 1), .int hi, .int (hi + 1), .int 0, .int n3]) hp7)
    have B7' := B7.new (o := .lst [.int (lo - 1), .int lo, .int (lo + 1), .int (hi - 1), .int hi, .int (hi + 1), .int 0, .int n3]) hp7
    refine for_src (.lst p7 _) (rdL_of upd_same) (fun j σ H' => ∃ x5, σ = [some (.ref a), some (.int (i : Int)), some (.ref b), some (.int lo), some (.int hi), x5, x6, x7, x8, x9, x10] ∧ H' = _) ⟨x5, rfl, rfl⟩ ?_ ?_ ?_
    · rintro j σ H' _ ⟨x5, rfl, rfl⟩
      exact rdL_of upd_same
    · rintro j y σ H' hj ⟨x5, rfl, rfl⟩
      have hy : ∃ m : Int, y = .int m := by
        have := List.mem_of_getElem? hj
        simp only [List.mem_cons, List.not_mem_nil, or_false] at this
        rcases this with rfl | rfl | rfl | rfl | rfl | rfl | rfl | rfl <;> exact ⟨_, rfl⟩
      obtain ⟨m, rfl⟩ := hy
      refine ⟨_, lo, hi, rfl, ⟨rfl, trivial⟩, ?_⟩
      rw [isInt_int]
      refine bV_d (fun h1 => ?_) (fun h1 => ?_)
      · rw [decide_eq_true h1, Bool.true_and]
        refine ⟨_, _, rfl, ?_⟩
        rw [decide_eq_true rfl]
        exact ⟨_, rfl, rfl⟩
      · rw [decide_eq_false h1, Bool.false_and]
        refine ⟨_, _, rfl, ?_⟩
        exact ⟨_, rfl, rfl⟩
    · rintro σ H' ⟨x5, rfl, rfl⟩
      generalize hH8 : upd H7 p7 (.lst [.int (lo - 1), .int lo, .int (lo + 1), .int (hi - 1), .int hi, .int (hi + 1), .int 0, .int n3]) = H8 at S7 B7'
      clear hH8
      -- the odd things
      refine ⟨log_small l1 l2, ⟨by show 1 ≤ sizeLine; decide, fun q1 n1 => ⟨by show 1 ≤ sizeLine; decide, fun q2 n2 => fun q3 n3' => fun q4 n4 => ⟨upd_same, [(Sum.inr "a", .int lo)], rfl, by show 1 ≤ 15; decide, by show 10 ≤ sizeLine; decide, fun q5 n5 => ?_⟩⟩⟩⟩
      have g1 : Ex H8 _ := Ex.new (o := .lst [.int lo]) n1
      have g2 := Ex.new (o := .tup [.int lo]) n2
      have g3 := Ex.new (o := .dK []) n3'
      have n4' := n4
      have g4 := Ex.mut (o := .dK (mergeK [] [(Sum.inr "a", .int lo)])) (Ex.new (o := .dK []) n4) n4'
      have g5 := Ex.new (o := .lst [.non, .bl true, .bl false, .str "", .str "0", .str (toString lo), .ref q1, .ref q2, .ref q3, .ref q4]) n5
      have S9 := ((((S7.ex g1).ex g2).ex g3).ex g4).ex g5
      have B9 := ((((B7'.ex g1).ex g2).ex g3).ex g4).ex g5
      have k1 := g5 _ _ (g4 _ _ (g3 _ _ (g2 q1 _ upd_same)))
      have k2 := g5 _ _ (g4 _ _ (g3 q2 _ upd_same))
      have k3 := g5 _ _ (g4 q3 _ upd_same)
      have k4 := g5 q4 _ upd_same
      refine for_src (.lst q5 _) (rdL_of upd_same) (fun j σ H' => ∃ x6, σ = [some (.ref a), some (.int (i : Int)), some (.ref b), some (.int lo), some (.int hi), x5, x6, x7, x8, x9, x10] ∧ H' = _) ⟨x6, rfl, rfl⟩ ?_ ?_ ?_
      · rintro j σ H' _ ⟨x5, rfl, rfl⟩
        exact rdL_of upd_same
      · rintro j y σ H' hj ⟨x6, rfl, rfl⟩
        have hy := List.mem_of_getElem? hj
        have hk : Kn (upd (upd (upd (upd (upd (upd H8 q1 (HO.lst [V.int lo])) q2 (HO.tup [V.int lo])) q3 (HO.dK [])) q4 (HO.dK [])) q4 (HO.dK (mergeK [] [(Sum.inr (Str.ofString "a"), V.int lo)]))) q5 (.lst [.non, .bl true, .bl false, .str "", .str "0", .str (toString lo), .ref q1, .ref q2, .ref q3, .ref q4])) y ∧ ∀ l h, isInt y l h = false := by
          simp only [List.mem_cons, List.not_mem_nil, or_false] at hy
          rcases hy with rfl | rfl | rfl | rfl | rfl | rfl | rfl | rfl | rfl | rfl
          · exact ⟨⟨rfl, trivial⟩, fun _ _ => rfl⟩
          · exact ⟨⟨rfl, trivial⟩, fun _ _ => rfl⟩
          · exact ⟨⟨rfl, trivial⟩, fun _ _ => rfl⟩
          · exact ⟨⟨rfl, by show _ ≤ 1000; decide⟩, fun _ _ => rfl⟩
          · exact ⟨⟨rfl, by show _ ≤ 1000; decide⟩, fun _ _ => rfl⟩
          · exact ⟨⟨rfl, len_small l1 l2⟩, fun _ _ => rfl⟩
          · exact ⟨kn_ref k1 rfl, fun _ _ => rfl⟩
          · exact ⟨kn_ref k2 rfl, fun _ _ => rfl⟩
          · exact ⟨kn_ref k3 rfl, fun _ _ => rfl⟩
          · exact ⟨kn_ref k4 rfl, fun _ _ => rfl⟩
        obtain ⟨hk, hf⟩ := hk
        refine ⟨y, lo, hi, rfl, hk, ?_⟩
        rw [hf]
        refine ⟨_, _, rfl, ?_⟩
        refine ⟨y, 0, 1, rfl, hk, ?_⟩
        rw [hf]
        refine ⟨_, _, rfl, ?_⟩
        exact ⟨_, rfl, rfl⟩
      · rintro σ H' ⟨x6, rfl, rfl⟩
        generalize hH10 : upd (upd (upd (upd (upd (upd H8 q1 (HO.lst [V.int lo])) q2 (HO.tup [V.int lo])) q3 (HO.dK [])) q4 (HO.dK [])) q4 (HO.dK (mergeK [] [(Sum.inr (Str.ofString "a"), V.int lo)]))) q5 (.lst [.non, .bl true, .bl false, .str "", .str "0", .str (toString lo), .ref q1, .ref q2, .ref q3, .ref q4]) = H10 at S9 B9
        clear hH10
        -- the words, marks and tokens
        walk_at "u"
        refine forr (n := 4) (H1 := H10) (fun R h => h) (by decide) (by decide) (fun j σ H' => ∃ x6 x7 x8 x9 x10, σ = [some (.ref a), some (.int (i : Int)), some (.ref b), some (.int lo), some (.int hi), x5, x6, x7, x8, x9, x10] ∧ ScriptAt K H' a ns ∧ BoxAt H' b (100 + 14 * j)) ?_ ?_ ?_
        · exact ⟨_, _, _, _, _, rfl, S9, B9.le (by omega)⟩
        · rintro j σ H11 hj ⟨x6, x7, x8, x9, x10, rfl, S11, B11⟩
          refine ⟨b, _, rfl, B11, by omega, fun z H12 hz1 hz2 B12 f12 => ?_⟩
          refine ⟨b, _, rfl, B12, by omega, fun w H13 hw1 hw2 B13 f13 => ?_⟩
          have S13 := (S11.box B11 f12).box B12 f13
          -- is_word, is_mark
          refine ⟨.str z, rfl, ⟨rfl, by show _ ≤ 1000; omega⟩, fun H14 e14 => ?_⟩
          refine ⟨z, rfl, by omega, hz2, fun H15 e15 => ?_⟩
          refine ⟨_, _, rfl, bB_f (by simp [wordV]) ?_⟩
          refine ⟨.str w, rfl, ⟨rfl, by show _ ≤ 1000; omega⟩, ?_⟩
          refine ⟨w, rfl, by omega, fun H16 e16 => ?_⟩
          refine ⟨_, _, rfl, bB_f (by simp [markV]) ?_⟩
          have E16 : Ex H13 H16 := (Ex.trans e14 e15).trans e16
          -- is_token((mark, word))
          refine ⟨by show 2 ≤ sizeLine; decide, fun p hp => ?_⟩
          refine ⟨.ref p, rfl, ?_, fun H17 e17 => ?_⟩
          · exact kn1_tup upd_same (by simp only [List.mem_cons, List.not_mem_nil, or_false]; rintro x (rfl | rfl); exact ⟨rfl, by show _ ≤ 1000; omega⟩; exact ⟨rfl, by show _ ≤ 1000; omega⟩)
          rw [tokV_tup upd_same]
          have E17 : Ex H13 H17 := (E16.trans (Ex.new hp)).trans e17
          refine ⟨w, rfl, by omega, fun H18 e18 => ?_⟩
          rcases Bool.eq_false_or_eq_true (isMark w) with h1 | h1
          · refine bV_t h1 ⟨z, rfl, by omega, hz2, fun H19 e19 => ?_⟩
            have E19 : Ex H13 H19 := (E17.trans e18).trans e19
            refine ⟨_, _, rfl, bB_f (by simp [markV, wordV, h1]) ?_⟩
            exact rest_ok hz1 hw1 hz2 hw2 (S13.ex E19) (B13.ex E19) (by omega) (fun v H' S' B' l => ⟨_, _, _, _, _, rfl, S', B'.le (by omega)⟩)
          · refine bV_f h1 ?_
            have E19 : Ex H13 H18 := E17.trans e18
            refine ⟨_, _, rfl, bB_f (by simp [markV, wordV, h1]) ?_⟩
            exact rest_ok hz1 hw1 hz2 hw2 (S13.ex E19) (B13.ex E19) (by omega) (fun v H' S' B' l => ⟨_, _, _, _, _, rfl, S', B'.le (by omega)⟩)
        · rintro σ H11 ⟨x6, x7, x8, x9, x10, rfl, S11, B11⟩
          exact last_ok S11 fun H' S' _ => ⟨_, _, _, _, _, _, _, _, _, _, rfl, S'⟩
  · rintro σ H' ⟨x1, x2, x3, x4, x5, x6, x7, x8, x9, x10, rfl, hS1⟩
    exact k H'

section
variable {P : Program} {w : World} {K : PySem.W.Frag} {mg : Str → Option Value} {base : Heap} {a : Nat → Addr} {d : Nat → FuncData}
theorem v_is_integer (T : Tx K mg a d)  {fa : Addr} {cdv : Value} {A : Around} {outer : List Env} {s : Shared} {H : Hp} {E : XK} (hr : Room 0 (A.deeper (envOfC "is_integer" (defScope s_is_integer) s.heap.objs.size fa cdv))) :
    PSs (cxOf CX0 P w K mg base N_is_integer "is_integer" (defScope s_is_integer) fa cdv A outer s H E).nox (defBody s_is_integer) (t_is_integer K) :=
  pss_one (ps_ret (pue_and (pue_isi .int (pu 0) rfl T.z_isinstance rfl T.z_int (by decide +kernel)) (pue_and (pue_not (pue_isi .bl (pu 0) rfl T.z_isinstance rfl T.z_bool (by decide +kernel))) (pe_one (pue_chain ou_le ou_le (pu 1) (pu 0) (pu 2))))))
theorem v_is_word (T : Tx K mg a d)  {fa : Addr} {cdv : Value} {A : Around} {outer : List Env} {s : Shared} {H : Hp} {E : XK} (hr : Room 0 (A.deeper (envOfC "is_word" (defScope s_is_word) s.heap.objs.size fa cdv))) :
    PSs (cxOf CX0 P w K mg base N_is_word "is_word" (defScope s_is_word) fa cdv A outer s H E).nox (defBody s_is_word) (t_is_word K) :=
  pss_cons (pus_if (PW.pt (puw_or (put_not (put_val (pue_isi .str (pu 0) rfl T.z_isinstance rfl T.z_str (by decide +kernel)))) (pw_or1 (put_not (put_chain ou_le ou_le (pe_int) (pe_callB cu_len rfl T.z_len (by decide +kernel) (pa_cons (pu 0) (pa_nil))) (pe_glob rfl T.c_MOST_LETTERS.choose_spec ⟨_, rfl⟩)))))) (pss_one (ps_ret (pe_bl))) (pss_nil)) (pss_one (ps_ret (pe_callB (cu_all rfl) rfl T.z_all (by decide +kernel) (pa_cons (pe_lc (own := [("sign", 1)]) (g := gName 1) (tt := tYes) (te := tOp (uIn K false) (uVar 1) (tC (.str "abcdefghijklmnopqrstuvwxyz"))) rfl sc_is_word.nd (piu (pu 0)) (blkOk_by (own := [("sign", 1)]) (N := N_is_word) (sc := defScope s_is_word) (by decide +kernel)) (fun _ _ _ _ _ => pg_name (i := 1) sc_is_word.nd rfl (Or.inl rfl)) (fun _ _ _ _ _ => pts_nil) (fun _ _ _ _ _ => pe_cmpR ou_in (pu 1) (pe_glob rfl T.c_LETTERS.choose_spec ⟨_, rfl⟩) (by rfl))) (pa_nil)))))
theorem v_is_mark (T : Tx K mg a d)  {fa : Addr} {cdv : Value} {A : Around} {outer : List Env} {s : Shared} {H : Hp} {E : XK} (hr : Room 0 (A.deeper (envOfC "is_mark" (defScope s_is_mark) s.heap.objs.size fa cdv))) :
    PSs (cxOf CX0 P w K mg base N_is_mark "is_mark" (defScope s_is_mark) fa cdv A outer s H E).nox (defBody s_is_mark) (t_is_mark K) :=
  pss_cons (pus_if (put_not (put_val (pue_isi .str (pu 0) rfl T.z_isinstance rfl T.z_str (by decide +kernel)))) (pss_one (ps_ret (pe_bl))) (pss_nil)) (pss_one (ps_ret (pue_or (pe_cmpR (ou_eq hr.units) (pu 0) (pe_str) (nomark _)) (pe_one (pue_and (pe_cmpR (ou_eq hr.units) (pe_callB cu_len rfl T.z_len (by decide +kernel) (pa_cons (pu 0) (pa_nil))) (pe_int) (nomark _)) (pue_and (pe_cmpR ou_in (pe_ix iu_ix (pu 0) (pe_int) (fun _ _ => rfl)) (pe_glob rfl T.c_KINDS.choose_spec ⟨_, rfl⟩) (by rfl)) (pe_one (pe_cmpR ou_in (pe_ix iu_ix (pu 0) (pe_int) (fun _ _ => rfl)) (pe_str) (by rfl)))))))))
theorem v_is_token (T : Tx K mg a d) (G_is_word : FnOk P w K mg base CX0 1 (a 1) (d 1) P_is_word (sp_is_word K)) (G_is_mark : FnOk P w K mg base CX0 1 (a 2) (d 2) P_is_mark (sp_is_mark K)) {fa : Addr} {cdv : Value} {A : Around} {outer : List Env} {s : Shared} {H : Hp} {E : XK} (hr : Room 1 (A.deeper (envOfC "is_token" (defScope s_is_token) s.heap.objs.size fa cdv))) :
    PSs (cxOf CX0 P w K mg base N_is_token "is_token" (defScope s_is_token) fa cdv A outer s H E).nox (defBody s_is_token) (t_is_token K) :=
  pss_one (ps_ret (pue_and (pue_isi .tup (pu 0) rfl T.z_isinstance rfl T.z_tuple (by decide +kernel)) (pue_and (pe_cmpR (ou_eq hr.units) (pe_callB cu_len rfl T.z_len (by decide +kernel) (pa_cons (pu 0) (pa_nil))) (pe_int) (nomark _)) (pue_and (pe_call G_is_mark (hr.mono (by decide)) rfl T.m_is_mark T.f_is_mark.kp T.b_is_mark .nil pass0 (pa_cons (pe_ix iu_ix (pu 0) (pe_int) (fun _ _ => rfl)) (pa_nil))) (pe_one (pe_call G_is_word (hr.mono (by decide)) rfl T.m_is_word T.f_is_word.kp T.b_is_word .nil pass0 (pa_cons (pe_ix iu_ix (pu 0) (pe_int) (fun _ _ => rfl)) (pa_nil))))))))
theorem v__law_cell (T : Tx K mg a d)  {fa : Addr} {cdv : Value} {A : Around} {outer : List Env} {s : Shared} {H : Hp} {E : XK} (hr : Room 0 (A.deeper (envOfC "_law_cell" (defScope s__law_cell) s.heap.objs.size fa cdv))) :
    PSs (cxOf CX0 P w K mg base N__law_cell "_law_cell" (defScope s__law_cell) fa cdv A outer s H E).nox (defBody s__law_cell) (t__law_cell K) :=
  pss_cons (pus_if (put_cmp ou_lt (pu 1) (pe_callB cu_len rfl T.z_len (by decide +kernel) (pa_cons (pu 0) (pa_nil))) (nomark _)) (pss_one (ps_ret (pe_ix iu_ix (pu 0) (pu 1) (fun _ _ => rfl)))) (pss_nil)) (pss_one (ps_ret (pe_op ou_add (pe_op ou_mul (pe_int) (pu 1)) (pe_int))))
theorem v__law_box (T : Tx K mg a d)  {fa : Addr} {cdv : Value} {A : Around} {outer : List Env} {s : Shared} {H : Hp} {E : XK} (hr : Room 0 (A.deeper (envOfC "_law_box" (defScope s__law_box) s.heap.objs.size fa cdv))) :
    PSs (cxOf CX0 P w K mg base N__law_box "_law_box" (defScope s__law_box) fa cdv A outer s H E).nox (defBody s__law_box) (t__law_box K) :=
  pss_one (ps_ret (pe_lst (pa_cons (pe_callB (cu_max rfl) rfl T.z_max (by decide +kernel) (pa_cons (pe_int) (pa_cons (pe_op ou_sub (pu 0) (pe_op ou_pow (pe_int) (pe_int))) (pa_nil)))) (pa_cons (pe_op ou_mod (pu 0) (pe_int)) (pa_cons (pe_int) (pa_nil))))))
theorem v__law_take (T : Tx K mg a d)  {fa : Addr} {cdv : Value} {A : Around} {outer : List Env} {s : Shared} {H : Hp} {E : XK} (hr : Room 0 (A.deeper (envOfC "_law_take" (defScope s__law_take) s.heap.objs.size fa cdv))) :
    PSs (cxOf CX0 P w K mg base N__law_take "_law_take" (defScope s__law_take) fa cdv A outer s H E).nox (defBody s__law_take) (t__law_take K) :=
  pss_cons (pus_if (put_cmp ou_gt (pe_ix iu_ix (pu 0) (pe_int) (fun _ _ => rfl)) (pe_int) (nomark _)) (pss_cons (ps_set (i := 2) sc__law_take.nd rfl (Or.inl rfl) (pe_op ou_mod (pe_ix iu_ix (pu 0) (pe_int) (fun _ _ => rfl)) (pu 1))) (pss_cons (ps_asg (pe_op ou_fdiv (pe_ix iu_ix (pu 0) (pe_int) (fun _ _ => rfl)) (pu 1)) (pg_sub (pu 0) (pe_int) setu)) (pss_one (ps_ret (pu 2))))) (pss_nil)) (pss_cons (ps_asg (pe_op ou_add (pe_ix iu_ix (pu 0) (pe_int) (fun _ _ => rfl)) (pe_int)) (pg_sub (pu 0) (pe_int) setu)) (pss_cons (ps_set (i := 3) sc__law_take.nd rfl (Or.inl rfl) (pe_op ou_mod (pe_op ou_pow (pe_op ou_add (pe_op ou_add (pe_ix iu_ix (pu 0) (pe_int) (fun _ _ => rfl)) (pe_op ou_mul (pe_int) (pe_ix iu_ix (pu 0) (pe_int) (fun _ _ => rfl)))) (pe_int)) (pe_int)) (pe_int))) (pss_cons (ps_set (i := 3) sc__law_take.nd rfl (Or.inl rfl) (pe_op ou_mod (pe_op ou_pow (pe_op ou_add (pu 3) (pe_op ou_mul (pe_int) (pe_ix iu_ix (pu 0) (pe_int) (fun _ _ => rfl)))) (pe_int)) (pe_int))) (pss_one (ps_ret (pe_op ou_mod (pe_op ou_fdiv (pu 3) (pe_int)) (pu 1)))))))
theorem v__law_number (T : Tx K mg a d) (G__law_take : FnOk P w K mg base CX0 1 (a 6) (d 6) P__law_take (sp__law_take K)) {fa : Addr} {cdv : Value} {A : Around} {outer : List Env} {s : Shared} {H : Hp} {E : XK} (hr : Room 1 (A.deeper (envOfC "_law_number" (defScope s__law_number) s.heap.objs.size fa cdv))) :
    PSs (cxOf CX0 P w K mg base N__law_number "_law_number" (defScope s__law_number) fa cdv A outer s H E).nox (defBody s__law_number) (t__law_number K) :=
  pss_cons (ps_set (i := 1) sc__law_number.nd rfl (Or.inl rfl) (pe_op ou_add (pe_op ou_add (pe_op ou_mul (pe_call G__law_take (hr.mono (by decide)) rfl T.m__law_take T.f__law_take.kp T.b__law_take .nil pass0 (pa_cons (pu 0) (pa_cons (pe_op ou_pow (pe_int) (pe_int)) (pa_nil)))) (pe_op ou_pow (pe_int) (pe_int))) (pe_op ou_mul (pe_call G__law_take (hr.mono (by decide)) rfl T.m__law_take T.f__law_take.kp T.b__law_take .nil pass0 (pa_cons (pu 0) (pa_cons (pe_op ou_pow (pe_int) (pe_int)) (pa_nil)))) (pe_op ou_pow (pe_int) (pe_int)))) (pe_call G__law_take (hr.mono (by decide)) rfl T.m__law_take T.f__law_take.kp T.b__law_take .nil pass0 (pa_cons (pu 0) (pa_cons (pe_op ou_pow (pe_int) (pe_int)) (pa_nil)))))) (pss_cons (ps_set (i := 2) sc__law_number.nd rfl (Or.inl rfl) (pe_lst (pa_cons (pe_call G__law_take (hr.mono (by decide)) rfl T.m__law_take T.f__law_take.kp T.b__law_take .nil pass0 (pa_cons (pu 0) (pa_cons (pe_int) (pa_nil)))) (pa_cons (pe_call G__law_take (hr.mono (by decide)) rfl T.m__law_take T.f__law_take.kp T.b__law_take .nil pass0 (pa_cons (pu 0) (pa_cons (pe_op ou_pow (pe_int) (pe_int)) (pa_nil)))) (pa_cons (pu 1) (pa_cons (pe_op ou_sub (pe_op ou_sub (pe_op ou_pow (pe_int) (pe_int)) (pe_int)) (pe_call G__law_take (hr.mono (by decide)) rfl T.m__law_take T.f__law_take.kp T.b__law_take .nil pass0 (pa_cons (pu 0) (pa_cons (pe_int) (pa_nil))))) (pa_nil))))))) (pss_one (ps_ret (pe_op ou_mul (pe_ix iu_ix (pu 2) (pe_call G__law_take (hr.mono (by decide)) rfl T.m__law_take T.f__law_take.kp T.b__law_take .nil pass0 (pa_cons (pu 0) (pa_cons (pe_int) (pa_nil)))) (fun _ _ => rfl)) (pe_ix iu_ix (pe_lst (pa_cons (pe_int) (pa_cons (pe_un ou_neg (pe_int)) (pa_nil)))) (pe_call G__law_take (hr.mono (by decide)) rfl T.m__law_take T.f__law_take.kp T.b__law_take .nil pass0 (pa_cons (pu 0) (pa_cons (pe_int) (pa_nil)))) (fun _ _ => rfl))))))
theorem v__law_string (T : Tx K mg a d) (G__law_take : FnOk P w K mg base CX0 1 (a 6) (d 6) P__law_take (sp__law_take K)) {fa : Addr} {cdv : Value} {A : Around} {outer : List Env} {s : Shared} {H : Hp} {E : XK} (hr : Room 1 (A.deeper (envOfC "_law_string" (defScope s__law_string) s.heap.objs.size fa cdv))) :
    PSs (cxOf CX0 P w K mg base N__law_string "_law_string" (defScope s__law_string) fa cdv A outer s H E).nox (defBody s__law_string) (t__law_string K) :=
  pss_cons (ps_set (i := 1) sc__law_string.nd rfl (Or.inr rfl) (pe_str)) (pss_cons (ps_set (i := 2) sc__law_string.nd rfl (Or.inl rfl) (pe_ix iu_ix (pe_lst (pa_cons (pe_call G__law_take (hr.mono (by decide)) rfl T.m__law_take T.f__law_take.kp T.b__law_take .nil pass0 (pa_cons (pu 0) (pa_cons (pe_int) (pa_nil)))) (pa_cons (pe_op ou_add (pe_int) (pe_call G__law_take (hr.mono (by decide)) rfl T.m__law_take T.f__law_take.kp T.b__law_take .nil pass0 (pa_cons (pu 0) (pa_cons (pe_int) (pa_nil))))) (pa_nil)))) (pe_call G__law_take (hr.mono (by decide)) rfl T.m__law_take T.f__law_take.kp T.b__law_take .nil pass0 (pa_cons (pu 0) (pa_cons (pe_int) (pa_nil)))) (fun _ _ => rfl))) (pss_cons (ps_asg (pe_tup (pa_cons (pe_call G__law_take (hr.mono (by decide)) rfl T.m__law_take T.f__law_take.kp T.b__law_take .nil pass0 (pa_cons (pu 0) (pa_cons (pe_int) (pa_nil)))) (pa_cons (pe_call G__law_take (hr.mono (by decide)) rfl T.m__law_take T.f__law_take.kp T.b__law_take .nil pass0 (pa_cons (pu 0) (pa_cons (pe_int) (pa_nil)))) (pa_nil)))) (pg_tup rfl (pgs_cons (pg_name (i := 3) sc__law_string.nd rfl (Or.inr rfl)) (pgs_cons (pg_name (i := 4) sc__law_string.nd rfl (Or.inr rfl)) (pgs_nil))))) (pss_cons (ps_set (i := 5) sc__law_string.nd rfl (Or.inl rfl) (pe_m1 F.slot_str_join F.type_str_join mu_join (pe_str) (pe_lc (own := [("_law_k", 8)]) (g := gName 8) (tt := tYes) (te := tOp (uIx K) (uVar 1) (tOp uMod (tOp (uAdd K) (uVar 3) (tOp uMul (uVar 4) (uVar 8))) (tC (.int 26)))) rfl sc__law_string.nd (pi_range1 rfl T.z_range (pa_cons (pu 2) (pa_nil))) (blkOk_by (own := [("_law_k", 8)]) (N := N__law_string) (sc := defScope s__law_string) (by decide +kernel)) (fun _ _ _ _ _ => pg_name (i := 8) sc__law_string.nd rfl (Or.inl rfl)) (fun _ _ _ _ _ => pts_nil) (fun _ _ _ _ _ => pe_ix iu_ix (pu 1) (pe_op ou_mod (pe_op ou_add (pu 3) (pe_op ou_mul (pu 4) (pu 8))) (pe_int)) (fun _ _ => rfl))))) (pss_cons (pus_if (put_cmp (ou_eq hr.units) (pe_call G__law_take (hr.mono (by decide)) rfl T.m__law_take T.f__law_take.kp T.b__law_take .nil pass0 (pa_cons (pu 0) (pa_cons (pe_int) (pa_nil)))) (pe_int) (nomark _)) (pss_cons (ps_set (i := 6) sc__law_string.nd rfl (Or.inl rfl) (pe_call G__law_take (hr.mono (by decide)) rfl T.m__law_take T.f__law_take.kp T.b__law_take .nil pass0 (pa_cons (pu 0) (pa_cons (pe_op ou_add (pe_callB cu_len rfl T.z_len (by decide +kernel) (pa_cons (pu 5) (pa_nil))) (pe_int)) (pa_nil))))) (pss_cons (ps_set (i := 7) sc__law_string.nd rfl (Or.inl rfl) (pe_ix iu_ix (pe_str) (pe_call G__law_take (hr.mono (by decide)) rfl T.m__law_take T.f__law_take.kp T.b__law_take .nil pass0 (pa_cons (pu 0) (pa_cons (pe_int) (pa_nil)))) (fun _ _ => rfl))) (pss_one (ps_set (i := 5) sc__law_string.nd rfl (Or.inl rfl) (pe_ix iu_ix (pe_lst (pa_cons (pe_op ou_add (pe_op ou_add (pe_slice su_sl (pu 5) (po_none) (pou_some (pu 6))) (pu 7)) (pe_slice su_sl (pu 5) (pou_some (pe_op ou_add (pu 6) (pe_int))) (po_none))) (pa_cons (pe_op ou_add (pe_op ou_add (pe_slice su_sl (pu 5) (po_none) (pou_some (pu 6))) (pu 7)) (pe_slice su_sl (pu 5) (pou_some (pu 6)) (po_none))) (pa_nil)))) (pe_call G__law_take (hr.mono (by decide)) rfl T.m__law_take T.f__law_take.kp T.b__law_take .nil pass0 (pa_cons (pu 0) (pa_cons (pe_int) (pa_nil)))) (fun _ _ => rfl)))))) (pss_nil)) (pss_one (ps_ret (pu 5)))))))
theorem v__law_mark (T : Tx K mg a d) (G__law_take : FnOk P w K mg base CX0 1 (a 6) (d 6) P__law_take (sp__law_take K)) {fa : Addr} {cdv : Value} {A : Around} {outer : List Env} {s : Shared} {H : Hp} {E : XK} (hr : Room 1 (A.deeper (envOfC "_law_mark" (defScope s__law_mark) s.heap.objs.size fa cdv))) :
    PSs (cxOf CX0 P w K mg base N__law_mark "_law_mark" (defScope s__law_mark) fa cdv A outer s H E).nox (defBody s__law_mark) (t__law_mark K) :=
  pss_cons (ps_set (i := 1) sc__law_mark.nd rfl (Or.inl rfl) (pe_ix iu_ix (pe_lst (pa_cons (pe_str) (pa_cons (pe_str) (pa_cons (pe_str) (pa_cons (pe_str) (pa_cons (pe_str) (pa_cons (pe_str) (pa_cons (pe_str) (pa_nil))))))))) (pe_call G__law_take (hr.mono (by decide)) rfl T.m__law_take T.f__law_take.kp T.b__law_take .nil pass0 (pa_cons (pu 0) (pa_cons (pe_int) (pa_nil)))) (fun _ _ => rfl))) (pss_cons (ps_set (i := 2) sc__law_mark.nd rfl (Or.inl rfl) (pe_op ou_add (pu 1) (pe_ix iu_ix (pe_lst (pa_cons (pe_str) (pa_cons (pe_str) (pa_cons (pe_str) (pa_cons (pe_str) (pa_cons (pe_str) (pa_cons (pe_str) (pa_cons (pe_str) (pa_cons (pe_str) (pa_cons (pe_str) (pa_cons (pe_str) (pa_cons (pe_str) (pa_cons (pe_str) (pa_cons (pe_str) (pa_nil))))))))))))))) (pe_call G__law_take (hr.mono (by decide)) rfl T.m__law_take T.f__law_take.kp T.b__law_take .nil pass0 (pa_cons (pu 0) (pa_cons (pe_int) (pa_nil)))) (fun _ _ => rfl)))) (pss_one (ps_ret (pe_op ou_add (pu 2) (pe_ix iu_ix (pe_lst (pa_cons (pe_str) (pa_cons (pe_str) (pa_cons (pe_str) (pa_cons (pe_str) (pa_cons (pe_str) (pa_nil))))))) (pe_call G__law_take (hr.mono (by decide)) rfl T.m__law_take T.f__law_take.kp T.b__law_take .nil pass0 (pa_cons (pu 0) (pa_cons (pe_int) (pa_nil)))) (fun _ _ => rfl))))))
theorem v__law_is_mark (T : Tx K mg a d)  {fa : Addr} {cdv : Value} {A : Around} {outer : List Env} {s : Shared} {H : Hp} {E : XK} (hr : Room 0 (A.deeper (envOfC "_law_is_mark" (defScope s__law_is_mark) s.heap.objs.size fa cdv))) :
    PSs (cxOf CX0 P w K mg base N__law_is_mark "_law_is_mark" (defScope s__law_is_mark) fa cdv A outer s H E).nox (defBody s__law_is_mark) (t__law_is_mark K) :=
  pss_cons (pus_if (put_cmp (ou_eq hr.units) (pu 0) (pe_str) (nomark _)) (pss_one (ps_ret (pe_bl))) (pss_nil)) (pss_one (ps_ret (pue_and (pe_cmpR (ou_eq hr.units) (pe_callB cu_len rfl T.z_len (by decide +kernel) (pa_cons (pu 0) (pa_nil))) (pe_int) (nomark _)) (pue_and (pe_cmpR ou_in (pe_ix iu_ix (pu 0) (pe_int) (fun _ _ => rfl)) (pe_tup (pa_cons (pe_str) (pa_cons (pe_str) (pa_cons (pe_str) (pa_nil))))) (by rfl)) (pe_one (pe_cmpR ou_in (pe_ix iu_ix (pu 0) (pe_int) (fun _ _ => rfl)) (pe_tup (pa_cons (pe_str) (pa_cons (pe_str) (pa_cons (pe_str) (pa_cons (pe_str) (pa_nil)))))) (by rfl)))))))
theorem v__law_is_word (T : Tx K mg a d)  {fa : Addr} {cdv : Value} {A : Around} {outer : List Env} {s : Shared} {H : Hp} {E : XK} (hr : Room 0 (A.deeper (envOfC "_law_is_word" (defScope s__law_is_word) s.heap.objs.size fa cdv))) :
    PSs (cxOf CX0 P w K mg base N__law_is_word "_law_is_word" (defScope s__law_is_word) fa cdv A outer s H E).nox (defBody s__law_is_word) (t__law_is_word K) :=
  pss_one (ps_ret (pue_and (pue_chain ou_lt ou_lt (pe_int) (pe_callB cu_len rfl T.z_len (by decide +kernel) (pa_cons (pu 0) (pa_nil))) (pe_int)) (pe_one (pe_cmpR (ou_eq hr.units) (pe_lc (own := [("_law_sign", 1)]) (g := gName 1) (tt := uNot (uT (uChain uLe uLe (tC (.str "a")) (uVar 1) (tC (.str "z"))))) (te := uVar 1) rfl sc__law_is_word.nd (piu (pu 0)) (blkOk_by (own := [("_law_sign", 1)]) (N := N__law_is_word) (sc := defScope s__law_is_word) (by decide +kernel)) (fun _ _ _ _ _ => pg_name (i := 1) sc__law_is_word.nd rfl (Or.inl rfl)) (fun _ _ _ _ _ => pts_one (put_not (put_chain ou_le ou_le (pe_str) (pu 1) (pe_str)))) (fun _ _ _ _ _ => pu 1)) (pe_lst (pa_nil)) (nomark _)))))
theorem v__law_is (T : Tx K mg a d)  {fa : Addr} {cdv : Value} {A : Around} {outer : List Env} {s : Shared} {H : Hp} {E : XK} (hr : Room 0 (A.deeper (envOfC "_law_is" (defScope s__law_is) s.heap.objs.size fa cdv))) :
    PSs (cxOf CX0 P w K mg base N__law_is "_law_is" (defScope s__law_is) fa cdv A outer s H E).nox (defBody s__law_is) (t__law_is K) :=
  pss_one (ps_ret (pue_and (pue_isi .bl (pu 0) rfl T.z_isinstance rfl T.z_bool (by decide +kernel)) (pe_one (pe_cmpR (ou_eq hr.units) (pu 0) (pu 1) (nomark _)))))
theorem v_law (T : Tx K mg a d) (G_is_integer : FnOk P w K mg base CX0 1 (a 0) (d 0) P_is_integer (sp_is_integer K)) (G_is_word : FnOk P w K mg base CX0 1 (a 1) (d 1) P_is_word (sp_is_word K)) (G_is_mark : FnOk P w K mg base CX0 1 (a 2) (d 2) P_is_mark (sp_is_mark K)) (G_is_token : FnOk P w K mg base CX0 2 (a 3) (d 3) P_is_token (sp_is_token K)) (G__law_cell : FnOk P w K mg base CX0 1 (a 4) (d 4) P__law_cell (sp__law_cell K)) (G__law_box : FnOk P w K mg base CX0 1 (a 5) (d 5) P__law_box (sp__law_box K)) (G__law_take : FnOk P w K mg base CX0 1 (a 6) (d 6) P__law_take (sp__law_take K)) (G__law_number : FnOk P w K mg base CX0 2 (a 7) (d 7) P__law_number (sp__law_number K)) (G__law_string : FnOk P w K mg base CX0 2 (a 8) (d 8) P__law_string (sp__law_string K)) (G__law_mark : FnOk P w K mg base CX0 2 (a 9) (d 9) P__law_mark (sp__law_mark K)) (G__law_is_mark : FnOk P w K mg base CX0 1 (a 10) (d 10) P__law_is_mark (sp__law_is_mark K)) (G__law_is_word : FnOk P w K mg base CX0 1 (a 11) (d 11) P__law_is_word (sp__law_is_word K)) (G__law_is : FnOk P w K mg base CX0 1 (a 12) (d 12) P__law_is (sp__law_is K)) {fa : Addr} {cdv : Value} {A : Around} {outer : List Env} {s : Shared} {H : Hp} {E : XK} (hr : Room 2 (A.deeper (envOfC "law" (defScope s_law) s.heap.objs.size fa cdv))) :
    PSs (cxOf CX0 P w K mg base N_law "law" (defScope s_law) fa cdv A outer s H E).nox (defBody s_law) (t_law K) :=
  pss_cons (ps_for PassesOwn.never rfl (pi_range1 rfl T.z_range (pa_cons (pe_callB (cu_max rfl) rfl T.z_max (by decide +kernel) (pa_cons (pe_int) (pa_cons (pe_callB (cu_min rfl) rfl T.z_min (by decide +kernel) (pa_cons (pe_int) (pa_cons (pe_callB cu_len rfl T.z_len (by decide +kernel) (pa_cons (pu 0) (pa_nil))) (pa_nil)))) (pa_nil)))) (pa_nil))) (pg_name (i := 1) sc_law.nd rfl (Or.inl rfl)) (pss_cons (ps_set (i := 2) sc_law.nd rfl (Or.inl rfl) (pe_call G__law_box (hr.mono (by decide)) rfl T.m__law_box T.f__law_box.kp T.b__law_box .nil pass0 (pa_cons (pe_call G__law_cell (hr.mono (by decide)) rfl T.m__law_cell T.f__law_cell.kp T.b__law_cell .nil pass0 (pa_cons (pu 0) (pa_cons (pu 1) (pa_nil)))) (pa_nil)))) (pss_cons (ps_set (i := 3) sc_law.nd rfl (Or.inl rfl) (pe_call G__law_number (hr.mono (by decide)) rfl T.m__law_number T.f__law_number.kp T.b__law_number .nil pass0 (pa_cons (pu 2) (pa_nil)))) (pss_cons (ps_set (i := 4) sc_law.nd rfl (Or.inl rfl) (pe_ix iu_ix (pe_lst (pa_cons (pe_op ou_add (pe_op ou_sub (pu 3) (pe_int)) (pe_call G__law_take (hr.mono (by decide)) rfl T.m__law_take T.f__law_take.kp T.b__law_take .nil pass0 (pa_cons (pu 2) (pa_cons (pe_int) (pa_nil))))) (pa_cons (pe_call G__law_number (hr.mono (by decide)) rfl T.m__law_number T.f__law_number.kp T.b__law_number .nil pass0 (pa_cons (pu 2) (pa_nil))) (pa_nil)))) (pe_call G__law_take (hr.mono (by decide)) rfl T.m__law_take T.f__law_take.kp T.b__law_take .nil pass0 (pa_cons (pu 2) (pa_cons (pe_int) (pa_nil)))) (fun _ _ => rfl))) (pss_cons (ps_for PassesOwn.never rfl (piu (pe_lst (pa_cons (pe_op ou_sub (pu 3) (pe_int)) (pa_cons (pu 3) (pa_cons (pe_op ou_add (pu 3) (pe_int)) (pa_cons (pe_op ou_sub (pu 4) (pe_int)) (pa_cons (pu 4) (pa_cons (pe_op ou_add (pu 4) (pe_int)) (pa_cons (pe_int) (pa_cons (pe_call G__law_number (hr.mono (by decide)) rfl T.m__law_number T.f__law_number.kp T.b__law_number .nil pass0 (pa_cons (pu 2) (pa_nil))) (pa_nil))))))))))) (pg_name (i := 5) sc_law.nd rfl (Or.inl rfl)) (pss_one (pus_if (put_not (put_val (pe_call G__law_is (hr.mono (by decide)) rfl T.m__law_is T.f__law_is.kp T.b__law_is .nil pass0 (pa_cons (pe_call G_is_integer (hr.mono (by decide)) rfl T.m_is_integer T.f_is_integer.kp T.b_is_integer .nil pass0 (pa_cons (pu 5) (pa_cons (pu 3) (pa_cons (pu 4) (pa_nil))))) (pa_cons (pue_chain ou_le ou_le (pu 3) (pu 5) (pu 4)) (pa_nil)))))) (pss_one (ps_ret (pe_bl))) (pss_nil)))) (pss_cons (ps_for PassesOwn.never rfl (piu (pe_lst (pa_cons (pe_non) (pa_cons (pe_bl) (pa_cons (pe_bl) (pa_cons (pe_str) (pa_cons (pe_str) (pa_cons (pe_callTy cu_str rfl T.z_str (by decide +kernel) (pa_cons (pu 3) (pa_nil))) (pa_cons (pe_lst (pa_cons (pu 3) (pa_nil))) (pa_cons (pe_tup (pa_cons (pu 3) (pa_nil))) (pa_cons (pe_dnewK) (pa_cons (pe_disp (pps_cons (pe_str) (pu 3) (pps_nil)) (by rfl) (by rfl) (fun z => by cases z) (by decide)) (pa_nil))))))))))))) (pg_name (i := 6) sc_law.nd rfl (Or.inl rfl)) (pss_one (pus_if (PW.pt (puw_or (put_not (put_val (pe_call G__law_is (hr.mono (by decide)) rfl T.m__law_is T.f__law_is.kp T.b__law_is .nil pass0 (pa_cons (pe_call G_is_integer (hr.mono (by decide)) rfl T.m_is_integer T.f_is_integer.kp T.b_is_integer .nil pass0 (pa_cons (pu 6) (pa_cons (pu 3) (pa_cons (pu 4) (pa_nil))))) (pa_cons (pe_bl) (pa_nil)))))) (pw_or1 (put_not (put_val (pe_call G__law_is (hr.mono (by decide)) rfl T.m__law_is T.f__law_is.kp T.b__law_is .nil pass0 (pa_cons (pe_call G_is_integer (hr.mono (by decide)) rfl T.m_is_integer T.f_is_integer.kp T.b_is_integer .nil pass0 (pa_cons (pu 6) (pa_cons (pe_int) (pa_cons (pe_int) (pa_nil))))) (pa_cons (pe_bl) (pa_nil))))))))) (pss_one (ps_ret (pe_bl))) (pss_nil)))) (pss_cons (ps_for PassesOwn.never rfl (pi_range1 rfl T.z_range (pa_cons (pe_int) (pa_nil))) (pg_name (i := 7) sc_law.nd rfl (Or.inl rfl)) (pss_cons (pus_par (i := 8) (j := 9) rfl sc_law.nd rfl rfl (by decide) rfl rfl (pa_cons (pe_call G__law_string (hr.mono (by decide)) rfl T.m__law_string T.f__law_string.kp T.b__law_string .nil pass0 (pa_cons (pu 2) (pa_nil))) (pa_cons (pe_call G__law_mark (hr.mono (by decide)) rfl T.m__law_mark T.f__law_mark.kp T.b__law_mark .nil pass0 (pa_cons (pu 2) (pa_nil))) (pa_nil))) (by rfl)) (pss_cons (pus_if (PW.pt (puw_or (put_not (put_val (pe_call G__law_is (hr.mono (by decide)) rfl T.m__law_is T.f__law_is.kp T.b__law_is .nil pass0 (pa_cons (pe_call G_is_word (hr.mono (by decide)) rfl T.m_is_word T.f_is_word.kp T.b_is_word .nil pass0 (pa_cons (pu 8) (pa_nil))) (pa_cons (pe_call G__law_is_word (hr.mono (by decide)) rfl T.m__law_is_word T.f__law_is_word.kp T.b__law_is_word .nil pass0 (pa_cons (pu 8) (pa_nil))) (pa_nil)))))) (pw_or1 (put_not (put_val (pe_call G__law_is (hr.mono (by decide)) rfl T.m__law_is T.f__law_is.kp T.b__law_is .nil pass0 (pa_cons (pe_call G_is_mark (hr.mono (by decide)) rfl T.m_is_mark T.f_is_mark.kp T.b_is_mark .nil pass0 (pa_cons (pu 9) (pa_nil))) (pa_cons (pe_call G__law_is_mark (hr.mono (by decide)) rfl T.m__law_is_mark T.f__law_is_mark.kp T.b__law_is_mark .nil pass0 (pa_cons (pu 9) (pa_nil))) (pa_nil))))))))) (pss_one (ps_ret (pe_bl))) (pss_nil)) (pss_cons (pus_if (put_not (put_val (pe_call G__law_is (hr.mono (by decide)) rfl T.m__law_is T.f__law_is.kp T.b__law_is .nil pass0 (pa_cons (pe_call G_is_token (hr.mono (by decide)) rfl T.m_is_token T.f_is_token.kp T.b_is_token .nil pass0 (pa_cons (pe_tup (pa_cons (pu 9) (pa_cons (pu 8) (pa_nil)))) (pa_nil))) (pa_cons (pue_and (pe_call G__law_is_mark (hr.mono (by decide)) rfl T.m__law_is_mark T.f__law_is_mark.kp T.b__law_is_mark .nil pass0 (pa_cons (pu 9) (pa_nil))) (pe_one (pe_call G__law_is_word (hr.mono (by decide)) rfl T.m__law_is_word T.f__law_is_word.kp T.b__law_is_word .nil pass0 (pa_cons (pu 8) (pa_nil))))) (pa_nil)))))) (pss_one (ps_ret (pe_bl))) (pss_nil)) (pss_cons (ps_set (i := 10) sc_law.nd rfl (Or.inl rfl) (pe_lst (pa_cons (pe_lst (pa_cons (pu 9) (pa_cons (pu 8) (pa_nil)))) (pa_cons (pe_tup (pa_cons (pu 9) (pa_nil))) (pa_cons (pe_tup (pa_cons (pu 9) (pa_cons (pu 8) (pa_cons (pu 8) (pa_nil))))) (pa_cons (pe_tup (pa_cons (pu 8) (pa_cons (pu 9) (pa_nil)))) (pa_cons (pe_tup (pa_cons (pu 9) (pa_cons (pe_lst (pa_cons (pu 8) (pa_nil))) (pa_nil)))) (pa_cons (pe_tup (pa_cons (pe_non) (pa_cons (pu 8) (pa_nil)))) (pa_cons (pe_tup (pa_cons (pu 9) (pa_cons (pe_int) (pa_nil)))) (pa_nil)))))))))) (pss_cons (ps_set (i := 6) sc_law.nd rfl (Or.inl rfl) (pe_ix iu_ix (pu 10) (pe_call G__law_take (hr.mono (by decide)) rfl T.m__law_take T.f__law_take.kp T.b__law_take .nil pass0 (pa_cons (pu 2) (pa_cons (pe_int) (pa_nil)))) (fun _ _ => rfl))) (pss_one (pus_if (PW.pt (puw_and (put_not (put_val (pe_call G__law_is (hr.mono (by decide)) rfl T.m__law_is T.f__law_is.kp T.b__law_is .nil pass0 (pa_cons (pe_call G_is_token (hr.mono (by decide)) rfl T.m_is_token T.f_is_token.kp T.b_is_token .nil pass0 (pa_cons (pu 6) (pa_nil))) (pa_cons (pe_bl) (pa_nil)))))) (pw_and1 (put_not (PW.pt (puw_and (put_val (pe_call G__law_is_mark (hr.mono (by decide)) rfl T.m__law_is_mark T.f__law_is_mark.kp T.b__law_is_mark .nil pass0 (pa_cons (pu 8) (pa_nil)))) (pw_and1 (put_val (pe_call G__law_is_word (hr.mono (by decide)) rfl T.m__law_is_word T.f__law_is_word.kp T.b__law_is_word .nil pass0 (pa_cons (pu 9) (pa_nil))))))))))) (pss_one (ps_ret (pe_bl))) (pss_nil))))))))) (pss_one (ps_for PassesOwn.never rfl (piu (pe_lst (pa_cons (pe_non) (pa_cons (pe_bl) (pa_cons (pe_int) (pa_cons (pu 3) (pa_cons (pe_lst (pa_cons (pe_str) (pa_nil))) (pa_cons (pe_tup (pa_cons (pe_str) (pa_nil))) (pa_cons (pe_tup (pa_cons (pe_str) (pa_nil))) (pa_cons (pe_disp (pps_cons (pe_str) (pe_str) (pps_nil)) (by rfl) (by rfl) (fun z => by cases z) (by decide)) (pa_cons (pe_dnewK) (pa_cons (pe_tup (pa_cons (pe_str) (pa_cons (pe_str) (pa_nil)))) (pa_nil))))))))))))) (pg_name (i := 6) sc_law.nd rfl (Or.inl rfl)) (pss_cons (pus_if (PW.pt (puw_or (put_not (put_val (pe_call G__law_is (hr.mono (by decide)) rfl T.m__law_is T.f__law_is.kp T.b__law_is .nil pass0 (pa_cons (pe_call G_is_word (hr.mono (by decide)) rfl T.m_is_word T.f_is_word.kp T.b_is_word .nil pass0 (pa_cons (pu 6) (pa_nil))) (pa_cons (pe_bl) (pa_nil)))))) (pw_or1 (put_not (put_val (pe_call G__law_is (hr.mono (by decide)) rfl T.m__law_is T.f__law_is.kp T.b__law_is .nil pass0 (pa_cons (pe_call G_is_mark (hr.mono (by decide)) rfl T.m_is_mark T.f_is_mark.kp T.b_is_mark .nil pass0 (pa_cons (pu 6) (pa_nil))) (pa_cons (pe_bl) (pa_nil))))))))) (pss_one (ps_ret (pe_bl))) (pss_nil)) (pss_one (pus_if (PW.pt (puw_and (put_cmp (ou_ne hr.units) (pu 6) (pe_tup (pa_cons (pe_str) (pa_cons (pe_str) (pa_nil)))) (nomark _)) (pw_and1 (put_not (put_val (pe_call G__law_is (hr.mono (by decide)) rfl T.m__law_is T.f__law_is.kp T.b__law_is .nil pass0 (pa_cons (pe_call G_is_token (hr.mono (by decide)) rfl T.m_is_token T.f_is_token.kp T.b_is_token .nil pass0 (pa_cons (pu 6) (pa_nil))) (pa_cons (pe_bl) (pa_nil))))))))) (pss_one (ps_ret (pe_bl))) (pss_nil))))))))))))) (pss_one (ps_ret (pe_bl)))
end
section
variable {P : Program} {w : World} {K : PySem.W.Frag} {mg : Str → Option Value} {base : Heap} {a : Nat → Addr} {d : Nat → FuncData}
theorem ok_is_integer (T : Tx K mg a d) : FnOk P w K mg base CX0 1 (a 0) (d 0) P_is_integer (sp_is_integer K) :=
  T.f_is_integer.ok sc_is_integer (fun vs H Q E h => len_is_integer h) (fun cdv A outer s H vs Q E hr h => ⟨t_is_integer K, v_is_integer T  hr, p_is_integer h⟩)
theorem ok_is_word (T : Tx K mg a d) : FnOk P w K mg base CX0 1 (a 1) (d 1) P_is_word (sp_is_word K) :=
  T.f_is_word.ok sc_is_word (fun vs H Q E h => len_is_word h) (fun cdv A outer s H vs Q E hr h => ⟨t_is_word K, v_is_word T  hr, p_is_word h⟩)
theorem ok_is_mark (T : Tx K mg a d) : FnOk P w K mg base CX0 1 (a 2) (d 2) P_is_mark (sp_is_mark K) :=
  T.f_is_mark.ok sc_is_mark (fun vs H Q E h => len_is_mark h) (fun cdv A outer s H vs Q E hr h => ⟨t_is_mark K, v_is_mark T  hr, p_is_mark h⟩)
theorem ok__law_cell (T : Tx K mg a d) : FnOk P w K mg base CX0 1 (a 4) (d 4) P__law_cell (sp__law_cell K) :=
  T.f__law_cell.ok sc__law_cell (fun vs H Q E h => len__law_cell h) (fun cdv A outer s H vs Q E hr h => ⟨t__law_cell K, v__law_cell T  hr, p__law_cell h⟩)
theorem ok__law_box (T : Tx K mg a d) : FnOk P w K mg base CX0 1 (a 5) (d 5) P__law_box (sp__law_box K) :=
  T.f__law_box.ok sc__law_box (fun vs H Q E h => len__law_box h) (fun cdv A outer s H vs Q E hr h => ⟨t__law_box K, v__law_box T  hr, p__law_box h⟩)
theorem ok__law_take (T : Tx K mg a d) : FnOk P w K mg base CX0 1 (a 6) (d 6) P__law_take (sp__law_take K) :=
  T.f__law_take.ok sc__law_take (fun vs H Q E h => len__law_take h) (fun cdv A outer s H vs Q E hr h => ⟨t__law_take K, v__law_take T  hr, p__law_take h⟩)
theorem ok__law_is_mark (T : Tx K mg a d) : FnOk P w K mg base CX0 1 (a 10) (d 10) P__law_is_mark (sp__law_is_mark K) :=
  T.f__law_is_mark.ok sc__law_is_mark (fun vs H Q E h => len__law_is_mark h) (fun cdv A outer s H vs Q E hr h => ⟨t__law_is_mark K, v__law_is_mark T  hr, p__law_is_mark h⟩)
theorem ok__law_is_word (T : Tx K mg a d) : FnOk P w K mg base CX0 1 (a 11) (d 11) P__law_is_word (sp__law_is_word K) :=
  T.f__law_is_word.ok sc__law_is_word (fun vs H Q E h => len__law_is_word h) (fun cdv A outer s H vs Q E hr h => ⟨t__law_is_word K, v__law_is_word T  hr, p__law_is_word h⟩)
theorem ok__law_is (T : Tx K mg a d) : FnOk P w K mg base CX0 1 (a 12) (d 12) P__law_is (sp__law_is K) :=
  T.f__law_is.ok sc__law_is (fun vs H Q E h => len__law_is h) (fun cdv A outer s H vs Q E hr h => ⟨t__law_is K, v__law_is T  hr, p__law_is h⟩)
theorem ok_is_token (T : Tx K mg a d) : FnOk P w K mg base CX0 2 (a 3) (d 3) P_is_token (sp_is_token K) :=
  T.f_is_token.ok sc_is_token (fun vs H Q E h => len_is_token h) (fun cdv A outer s H vs Q E hr h => ⟨t_is_token K, v_is_token T (ok_is_word T) (ok_is_mark T) hr, p_is_token h⟩)
theorem ok__law_number (T : Tx K mg a d) : FnOk P w K mg base CX0 2 (a 7) (d 7) P__law_number (sp__law_number K) :=
  T.f__law_number.ok sc__law_number (fun vs H Q E h => len__law_number h) (fun cdv A outer s H vs Q E hr h => ⟨t__law_number K, v__law_number T (ok__law_take T) hr, p__law_number h⟩)
theorem ok__law_string (T : Tx K mg a d) : FnOk P w K mg base CX0 2 (a 8) (d 8) P__law_string (sp__law_string K) :=
  T.f__law_string.ok sc__law_string (fun vs H Q E h => len__law_string h) (fun cdv A outer s H vs Q E hr h => ⟨t__law_string K, v__law_string T (ok__law_take T) hr, p__law_string h⟩)
theorem ok__law_mark (T : Tx K mg a d) : FnOk P w K mg base CX0 2 (a 9) (d 9) P__law_mark (sp__law_mark K) :=
  T.f__law_mark.ok sc__law_mark (fun vs H Q E h => len__law_mark h) (fun cdv A outer s H vs Q E hr h => ⟨t__law_mark K, v__law_mark T (ok__law_take T) hr, p__law_mark h⟩)
theorem ok_law (T : Tx K mg a d) : FnOk P w K mg base CX0 3 (a 13) (d 13) P_law (sp_law K) :=
  T.f_law.ok sc_law (fun vs H Q E h => len_law h) (fun cdv A outer s H vs Q E hr h => ⟨t_law K, v_law T (ok_is_integer T) (ok_is_word T) (ok_is_mark T) (ok_is_token T) (ok__law_cell T) (ok__law_box T) (ok__law_take T) (ok__law_number T) (ok__law_string T) (ok__law_mark T) (ok__law_is_mark T) (ok__law_is_word T) (ok__law_is T) hr, p_law h⟩)
end
theorem all_mk {l : PySem.W.OpenLaw} {w : World} {K : PySem.W.Frag} {h : Heap} {mg : Str → Option Value} {fa : Addr} (X : K.In h) (G : h.Ns mainGlobals mg) (hfa : mg "law" = some (.ref fa))
    {f0 : Addr} {od0 an0 : Option Addr} {sl0 : Array (Option Value)} {oc0 kV0 dc0 pm0 cd0 ct0 : Value}
    {f1 : Addr} {od1 an1 : Option Addr} {sl1 : Array (Option Value)} {oc1 kV1 dc1 pm1 cd1 ct1 : Value}
    {f2 : Addr} {od2 an2 : Option Addr} {sl2 : Array (Option Value)} {oc2 kV2 dc2 pm2 cd2 ct2 : Value}
    {f3 : Addr} {od3 an3 : Option Addr} {sl3 : Array (Option Value)} {oc3 kV3 dc3 pm3 cd3 ct3 : Value}
    {f4 : Addr} {od4 an4 : Option Addr} {sl4 : Array (Option Value)} {oc4 kV4 dc4 pm4 cd4 ct4 : Value}
    {f5 : Addr} {od5 an5 : Option Addr} {sl5 : Array (Option Value)} {oc5 kV5 dc5 pm5 cd5 ct5 : Value}
    {f6 : Addr} {od6 an6 : Option Addr} {sl6 : Array (Option Value)} {oc6 kV6 dc6 pm6 cd6 ct6 : Value}
    {f7 : Addr} {od7 an7 : Option Addr} {sl7 : Array (Option Value)} {oc7 kV7 dc7 pm7 cd7 ct7 : Value}
    {f8 : Addr} {od8 an8 : Option Addr} {sl8 : Array (Option Value)} {oc8 kV8 dc8 pm8 cd8 ct8 : Value}
    {f9 : Addr} {od9 an9 : Option Addr} {sl9 : Array (Option Value)} {oc9 kV9 dc9 pm9 cd9 ct9 : Value}
    {f10 : Addr} {od10 an10 : Option Addr} {sl10 : Array (Option Value)} {oc10 kV10 dc10 pm10 cd10 ct10 : Value}
    {f11 : Addr} {od11 an11 : Option Addr} {sl11 : Array (Option Value)} {oc11 kV11 dc11 pm11 cd11 ct11 : Value}
    {f12 : Addr} {od12 an12 : Option Addr} {sl12 : Array (Option Value)} {oc12 kV12 dc12 pm12 cd12 ct12 : Value}
    {f13 : Addr} {od13 an13 : Option Addr} {sl13 : Array (Option Value)} {oc13 kV13 dc13 pm13 cd13 ct13 : Value}
    {tk0 : Tok}
    {tk1 : Tok}
    {tk2 : Tok}
    (a0 : PySem.W.nsIn K mainGlobals "is_integer" = some (some (.ref f0))) (l0 : K.lookup f0 = some ⟨oc0, od0, .func (PySem.W.fnOf "is_integer" "is_integer" (defArgs s_is_integer) (defBody s_is_integer) (defScope s_is_integer) .none kV0 dc0 pm0 an0 cd0 ct0), sl0⟩) (c0 : PySem.W.codeIn K cd0 "is_integer" = true) (k0 : PySem.W.keepIn K (.ref f0) = true)
    (a1 : PySem.W.nsIn K mainGlobals "is_word" = some (some (.ref f1))) (l1 : K.lookup f1 = some ⟨oc1, od1, .func (PySem.W.fnOf "is_word" "is_word" (defArgs s_is_word) (defBody s_is_word) (defScope s_is_word) .none kV1 dc1 pm1 an1 cd1 ct1), sl1⟩) (c1 : PySem.W.codeIn K cd1 "is_word" = true) (k1 : PySem.W.keepIn K (.ref f1) = true)
    (a2 : PySem.W.nsIn K mainGlobals "is_mark" = some (some (.ref f2))) (l2 : K.lookup f2 = some ⟨oc2, od2, .func (PySem.W.fnOf "is_mark" "is_mark" (defArgs s_is_mark) (defBody s_is_mark) (defScope s_is_mark) .none kV2 dc2 pm2 an2 cd2 ct2), sl2⟩) (c2 : PySem.W.codeIn K cd2 "is_mark" = true) (k2 : PySem.W.keepIn K (.ref f2) = true)
    (a3 : PySem.W.nsIn K mainGlobals "is_token" = some (some (.ref f3))) (l3 : K.lookup f3 = some ⟨oc3, od3, .func (PySem.W.fnOf "is_token" "is_token" (defArgs s_is_token) (defBody s_is_token) (defScope s_is_token) .none kV3 dc3 pm3 an3 cd3 ct3), sl3⟩) (c3 : PySem.W.codeIn K cd3 "is_token" = true) (k3 : PySem.W.keepIn K (.ref f3) = true)
    (a4 : PySem.W.nsIn K mainGlobals "_law_cell" = some (some (.ref f4))) (l4 : K.lookup f4 = some ⟨oc4, od4, .func (PySem.W.fnOf "_law_cell" "_law_cell" (defArgs s__law_cell) (defBody s__law_cell) (defScope s__law_cell) .none kV4 dc4 pm4 an4 cd4 ct4), sl4⟩) (c4 : PySem.W.codeIn K cd4 "_law_cell" = true) (k4 : PySem.W.keepIn K (.ref f4) = true)
    (a5 : PySem.W.nsIn K mainGlobals "_law_box" = some (some (.ref f5))) (l5 : K.lookup f5 = some ⟨oc5, od5, .func (PySem.W.fnOf "_law_box" "_law_box" (defArgs s__law_box) (defBody s__law_box) (defScope s__law_box) .none kV5 dc5 pm5 an5 cd5 ct5), sl5⟩) (c5 : PySem.W.codeIn K cd5 "_law_box" = true) (k5 : PySem.W.keepIn K (.ref f5) = true)
    (a6 : PySem.W.nsIn K mainGlobals "_law_take" = some (some (.ref f6))) (l6 : K.lookup f6 = some ⟨oc6, od6, .func (PySem.W.fnOf "_law_take" "_law_take" (defArgs s__law_take) (defBody s__law_take) (defScope s__law_take) .none kV6 dc6 pm6 an6 cd6 ct6), sl6⟩) (c6 : PySem.W.codeIn K cd6 "_law_take" = true) (k6 : PySem.W.keepIn K (.ref f6) = true)
    (a7 : PySem.W.nsIn K mainGlobals "_law_number" = some (some (.ref f7))) (l7 : K.lookup f7 = some ⟨oc7, od7, .func (PySem.W.fnOf "_law_number" "_law_number" (defArgs s__law_number) (defBody s__law_number) (defScope s__law_number) .none kV7 dc7 pm7 an7 cd7 ct7), sl7⟩) (c7 : PySem.W.codeIn K cd7 "_law_number" = true) (k7 : PySem.W.keepIn K (.ref f7) = true)
    (a8 : PySem.W.nsIn K mainGlobals "_law_string" = some (some (.ref f8))) (l8 : K.lookup f8 = some ⟨oc8, od8, .func (PySem.W.fnOf "_law_string" "_law_string" (defArgs s__law_string) (defBody s__law_string) (defScope s__law_string) .none kV8 dc8 pm8 an8 cd8 ct8), sl8⟩) (c8 : PySem.W.codeIn K cd8 "_law_string" = true) (k8 : PySem.W.keepIn K (.ref f8) = true)
    (a9 : PySem.W.nsIn K mainGlobals "_law_mark" = some (some (.ref f9))) (l9 : K.lookup f9 = some ⟨oc9, od9, .func (PySem.W.fnOf "_law_mark" "_law_mark" (defArgs s__law_mark) (defBody s__law_mark) (defScope s__law_mark) .none kV9 dc9 pm9 an9 cd9 ct9), sl9⟩) (c9 : PySem.W.codeIn K cd9 "_law_mark" = true) (k9 : PySem.W.keepIn K (.ref f9) = true)
    (a10 : PySem.W.nsIn K mainGlobals "_law_is_mark" = some (some (.ref f10))) (l10 : K.lookup f10 = some ⟨oc10, od10, .func (PySem.W.fnOf "_law_is_mark" "_law_is_mark" (defArgs s__law_is_mark) (defBody s__law_is_mark) (defScope s__law_is_mark) .none kV10 dc10 pm10 an10 cd10 ct10), sl10⟩) (c10 : PySem.W.codeIn K cd10 "_law_is_mark" = true) (k10 : PySem.W.keepIn K (.ref f10) = true)
    (a11 : PySem.W.nsIn K mainGlobals "_law_is_word" = some (some (.ref f11))) (l11 : K.lookup f11 = some ⟨oc11, od11, .func (PySem.W.fnOf "_law_is_word" "_law_is_word" (defArgs s__law_is_word) (defBody s__law_is_word) (defScope s__law_is_word) .none kV11 dc11 pm11 an11 cd11 ct11), sl11⟩) (c11 : PySem.W.codeIn K cd11 "_law_is_word" = true) (k11 : PySem.W.keepIn K (.ref f11) = true)
    (a12 : PySem.W.nsIn K mainGlobals "_law_is" = some (some (.ref f12))) (l12 : K.lookup f12 = some ⟨oc12, od12, .func (PySem.W.fnOf "_law_is" "_law_is" (defArgs s__law_is) (defBody s__law_is) (defScope s__law_is) .none kV12 dc12 pm12 an12 cd12 ct12), sl12⟩) (c12 : PySem.W.codeIn K cd12 "_law_is" = true) (k12 : PySem.W.keepIn K (.ref f12) = true)
    (a13 : PySem.W.nsIn K mainGlobals "law" = some (some (.ref f13))) (l13 : K.lookup f13 = some ⟨oc13, od13, .func (PySem.W.fnOf "law" "law" (defArgs s_law) (defBody s_law) (defScope s_law) .none kV13 dc13 pm13 an13 cd13 ct13), sl13⟩) (c13 : PySem.W.codeIn K cd13 "law" = true) (k13 : PySem.W.keepIn K (.ref f13) = true)
    (z0 : PySem.W.nsIn K mainGlobals "all" = some none)
    (z1 : PySem.W.nsIn K mainGlobals "bool" = some none)
    (z2 : PySem.W.nsIn K mainGlobals "int" = some none)
    (z3 : PySem.W.nsIn K mainGlobals "isinstance" = some none)
    (z4 : PySem.W.nsIn K mainGlobals "len" = some none)
    (z5 : PySem.W.nsIn K mainGlobals "max" = some none)
    (z6 : PySem.W.nsIn K mainGlobals "min" = some none)
    (z7 : PySem.W.nsIn K mainGlobals "range" = some none)
    (z8 : PySem.W.nsIn K mainGlobals "str" = some none)
    (z9 : PySem.W.nsIn K mainGlobals "tuple" = some none)
    (q0 : PySem.W.nsIn K mainGlobals "KINDS" = some (some (.str "#|/" tk0)))
    (q1 : PySem.W.nsIn K mainGlobals "LETTERS" = some (some (.str "abcdefghijklmnopqrstuvwxyz" tk1)))
    (q2 : PySem.W.nsIn K mainGlobals "MOST_LETTERS" = some (some (.int (30) tk2)))
    : ∃ fd : FuncData, (∀ (s : Shared) (v : Value), BindsTo s fd ⟨[v], []⟩ [("_law_script", v)]) ∧ ∀ base : Heap, K.In base → base.Ns mainGlobals mg → FnOk l.prog w K mg base CX0 3 fa fd ["_law_script"] (sp_law K) := by
  have e := hfa.symm.trans (PySem.W.mg_of X G a13)
  cases e
  have F0 := fun_mk (st := s_is_integer) l0 c0 k0
  have b0 := F0.binds (ps := P_is_integer) fun _ _ _ _ _ _ us hl => match us, hl with | [_, _, _], _ => rfl
  have F1 := fun_mk (st := s_is_word) l1 c1 k1
  have b1 := F1.binds (ps := P_is_word) fun _ _ _ _ _ _ us hl => match us, hl with | [_], _ => rfl
  have F2 := fun_mk (st := s_is_mark) l2 c2 k2
  have b2 := F2.binds (ps := P_is_mark) fun _ _ _ _ _ _ us hl => match us, hl with | [_], _ => rfl
  have F3 := fun_mk (st := s_is_token) l3 c3 k3
  have b3 := F3.binds (ps := P_is_token) fun _ _ _ _ _ _ us hl => match us, hl with | [_], _ => rfl
  have F4 := fun_mk (st := s__law_cell) l4 c4 k4
  have b4 := F4.binds (ps := P__law_cell) fun _ _ _ _ _ _ us hl => match us, hl with | [_, _], _ => rfl
  have F5 := fun_mk (st := s__law_box) l5 c5 k5
  have b5 := F5.binds (ps := P__law_box) fun _ _ _ _ _ _ us hl => match us, hl with | [_], _ => rfl
  have F6 := fun_mk (st := s__law_take) l6 c6 k6
  have b6 := F6.binds (ps := P__law_take) fun _ _ _ _ _ _ us hl => match us, hl with | [_, _], _ => rfl
  have F7 := fun_mk (st := s__law_number) l7 c7 k7
  have b7 := F7.binds (ps := P__law_number) fun _ _ _ _ _ _ us hl => match us, hl with | [_], _ => rfl
  have F8 := fun_mk (st := s__law_string) l8 c8 k8
  have b8 := F8.binds (ps := P__law_string) fun _ _ _ _ _ _ us hl => match us, hl with | [_], _ => rfl
  have F9 := fun_mk (st := s__law_mark) l9 c9 k9
  have b9 := F9.binds (ps := P__law_mark) fun _ _ _ _ _ _ us hl => match us, hl with | [_], _ => rfl
  have F10 := fun_mk (st := s__law_is_mark) l10 c10 k10
  have b10 := F10.binds (ps := P__law_is_mark) fun _ _ _ _ _ _ us hl => match us, hl with | [_], _ => rfl
  have F11 := fun_mk (st := s__law_is_word) l11 c11 k11
  have b11 := F11.binds (ps := P__law_is_word) fun _ _ _ _ _ _ us hl => match us, hl with | [_], _ => rfl
  have F12 := fun_mk (st := s__law_is) l12 c12 k12
  have b12 := F12.binds (ps := P__law_is) fun _ _ _ _ _ _ us hl => match us, hl with | [_, _], _ => rfl
  have F13 := fun_mk (st := s_law) l13 c13 k13
  have b13 := F13.binds (ps := P_law) fun _ _ _ _ _ _ us hl => match us, hl with | [_], _ => rfl
  have T : Tx K mg (fun i => ([f0, f1, f2, f3, f4, f5, f6, f7, f8, f9, f10, f11, f12, fa] : List Addr).getD i 0) (fun i => ([PySem.W.fnOf "is_integer" "is_integer" (defArgs s_is_integer) (defBody s_is_integer) (defScope s_is_integer) .none kV0 dc0 pm0 an0 cd0 ct0, PySem.W.fnOf "is_word" "is_word" (defArgs s_is_word) (defBody s_is_word) (defScope s_is_word) .none kV1 dc1 pm1 an1 cd1 ct1, PySem.W.fnOf "is_mark" "is_mark" (defArgs s_is_mark) (defBody s_is_mark) (defScope s_is_mark) .none kV2 dc2 pm2 an2 cd2 ct2, PySem.W.fnOf "is_token" "is_token" (defArgs s_is_token) (defBody s_is_token) (defScope s_is_token) .none kV3 dc3 pm3 an3 cd3 ct3, PySem.W.fnOf "_law_cell" "_law_cell" (defArgs s__law_cell) (defBody s__law_cell) (defScope s__law_cell) .none kV4 dc4 pm4 an4 cd4 ct4, PySem.W.fnOf "_law_box" "_law_box" (defArgs s__law_box) (defBody s__law_box) (defScope s__law_box) .none kV5 dc5 pm5 an5 cd5 ct5, PySem.W.fnOf "_law_take" "_law_take" (defArgs s__law_take) (defBody s__law_take) (defScope s__law_take) .none kV6 dc6 pm6 an6 cd6 ct6, PySem.W.fnOf "_law_number" "_law_number" (defArgs s__law_number) (defBody s__law_number) (defScope s__law_number) .none kV7 dc7 pm7 an7 cd7 ct7, PySem.W.fnOf "_law_string" "_law_string" (defArgs s__law_string) (defBody s__law_string) (defScope s__law_string) .none kV8 dc8 pm8 an8 cd8 ct8, PySem.W.fnOf "_law_mark" "_law_mark" (defArgs s__law_mark) (defBody s__law_mark) (defScope s__law_mark) .none kV9 dc9 pm9 an9 cd9 ct9, PySem.W.fnOf "_law_is_mark" "_law_is_mark" (defArgs s__law_is_mark) (defBody s__law_is_mark) (defScope s__law_is_mark) .none kV10 dc10 pm10 an10 cd10 ct10, PySem.W.fnOf "_law_is_word" "_law_is_word" (defArgs s__law_is_word) (defBody s__law_is_word) (defScope s__law_is_word) .none kV11 dc11 pm11 an11 cd11 ct11, PySem.W.fnOf "_law_is" "_law_is" (defArgs s__law_is) (defBody s__law_is) (defScope s__law_is) .none kV12 dc12 pm12 an12 cd12 ct12, PySem.W.fnOf "law" "law" (defArgs s_law) (defBody s_law) (defScope s_law) .none kV13 dc13 pm13 an13 cd13 ct13] : List FuncData).getD i (PySem.W.fnOf "law" "law" (defArgs s_law) (defBody s_law) (defScope s_law) .none kV13 dc13 pm13 an13 cd13 ct13)) := {
    f_is_integer := F0, m_is_integer := PySem.W.mg_of X G a0, b_is_integer := b0,
    f_is_word := F1, m_is_word := PySem.W.mg_of X G a1, b_is_word := b1,
    f_is_mark := F2, m_is_mark := PySem.W.mg_of X G a2, b_is_mark := b2,
    f_is_token := F3, m_is_token := PySem.W.mg_of X G a3, b_is_token := b3,
    f__law_cell := F4, m__law_cell := PySem.W.mg_of X G a4, b__law_cell := b4,
    f__law_box := F5, m__law_box := PySem.W.mg_of X G a5, b__law_box := b5,
    f__law_take := F6, m__law_take := PySem.W.mg_of X G a6, b__law_take := b6,
    f__law_number := F7, m__law_number := PySem.W.mg_of X G a7, b__law_number := b7,
    f__law_string := F8, m__law_string := PySem.W.mg_of X G a8, b__law_string := b8,
    f__law_mark := F9, m__law_mark := PySem.W.mg_of X G a9, b__law_mark := b9,
    f__law_is_mark := F10, m__law_is_mark := PySem.W.mg_of X G a10, b__law_is_mark := b10,
    f__law_is_word := F11, m__law_is_word := PySem.W.mg_of X G a11, b__law_is_word := b11,
    f__law_is := F12, m__law_is := PySem.W.mg_of X G a12, b__law_is := b12,
    f_law := F13, m_law := PySem.W.mg_of X G a13, b_law := b13,
    z_all := PySem.W.mg_none_of X G z0,
    z_bool := PySem.W.mg_none_of X G z1,
    z_int := PySem.W.mg_none_of X G z2,
    z_isinstance := PySem.W.mg_none_of X G z3,
    z_len := PySem.W.mg_none_of X G z4,
    z_max := PySem.W.mg_none_of X G z5,
    z_min := PySem.W.mg_none_of X G z6,
    z_range := PySem.W.mg_none_of X G z7,
    z_str := PySem.W.mg_none_of X G z8,
    z_tuple := PySem.W.mg_none_of X G z9,
    c_KINDS := ⟨_, PySem.W.mg_of X G q0⟩,
    c_LETTERS := ⟨_, PySem.W.mg_of X G q1⟩,
    c_MOST_LETTERS := ⟨_, PySem.W.mg_of X G q2⟩ }
  exact ⟨_, fun s v => .of_eq rfl, fun base _ _ => ok_law T⟩
theorem walk {l : PySem.W.OpenLaw} {q : Program} {loose : List Str} {XP : (Str → Option Value) → Heap → Prop} {YP : World → Heap → Prop} {d : DefRec} {K : Params → PySem.W.Frag} (hn : l.most = some 63) (hdf : d.params.defaults = [])
    (hY : ∀ (w : World) (h : Heap), YP w h → (K w.params).In h)
    (F : ∀ (w : World) (mg : Str → Option Value) (fa : Addr) (h : Heap), (K w.params).In h → h.Ns mainGlobals mg → mg d.name = some (.ref fa) →
      ∃ fd : FuncData, (∀ (s : Shared) (u : Value), BindsTo s fd ⟨[u], []⟩ [("_law_script", u)]) ∧ ∀ base : Heap, (K w.params).In base → base.Ns mainGlobals mg → FnOk l.prog w (K w.params) mg base CX0 3 fa fd ["_law_script"] (sp_law (K w.params))) :
    PySem.W.WalkO q loose XP YP l.row.toRowW d [] (fun f vs => PySem.call f vs) :=
  L2.walk_of (n := 63) (k := 3) (x := "_law_script") (CX := fun _ => CX0) (sp := fun w => sp_law (K w.params)) hn (by decide) hdf ⟨rfl, by decide, by decide⟩ hY F (fun _ _ a ns hl hO hS => ⟨a, ns, rfl, U.script_of hO hS, hl, fun _ => rfl⟩) fun _ _ _ _ _ z => z
end Lw
open PySem PySem.W PyProof.Rows
set_option maxRecDepth 100000 in
set_option maxHeartbeats 0 in
theorem PySem.Challenge.cw_reflows_k01_kinds_of_words_holds : PySem.Challenge.rw_reflows_k01_kinds_of_words.Holds := by
  w_on; o_law; k_head; (case hw => w_witness2)
  k_fill
  refine Lw.walk (l := PySem.Challenge.rw_reflows_k01_kinds_of_words) rfl rfl (fun w h Y => PySem.W.kIn_of Y) ?F
  case F =>
    intro w mg fa h KX G hmg
    refine' Lw.all_mk KX G hmg ?a0 ?l0 ?c0 ?k0 ?a1 ?l1 ?c1 ?k1 ?a2 ?l2 ?c2 ?k2 ?a3 ?l3 ?c3 ?k3 ?a4 ?l4 ?c4 ?k4 ?a5 ?l5 ?c5 ?k5 ?a6 ?l6 ?c6 ?k6 ?a7 ?l7 ?c7 ?k7 ?a8 ?l8 ?c8 ?k8 ?a9 ?l9 ?c9 ?k9 ?a10 ?l10 ?c10 ?k10 ?a11 ?l11 ?c11 ?k11 ?a12 ?l12 ?c12 ?k12 ?a13 ?l13 ?c13 ?k13 ?z0 ?z1 ?z2 ?z3 ?z4 ?z5 ?z6 ?z7 ?z8 ?z9 ?q0 ?q1 ?q2
    (case a0 => k_is)
    (case l0 => k_is)
    (case c0 => k_is)
    (case k0 => k_is)
    (case a1 => k_is)
    (case l1 => k_is)
    (case c1 => k_is)
    (case k1 => k_is)
    (case a2 => k_is)
    (case l2 => k_is)
    (case c2 => k_is)
    (case k2 => k_is)
    (case a3 => k_is)
    (case l3 => k_is)
    (case c3 => k_is)
    (case k3 => k_is)
    (case a4 => k_is)
    (case l4 => k_is)
    (case c4 => k_is)
    (case k4 => k_is)
    (case a5 => k_is)
    (case l5 => k_is)
    (case c5 => k_is)
    (case k5 => k_is)
    (case a6 => k_is)
    (case l6 => k_is)
    (case c6 => k_is)
    (case k6 => k_is)
    (case a7 => k_is)
    (case l7 => k_is)
    (case c7 => k_is)
    (case k7 => k_is)
    (case a8 => k_is)
    (case l8 => k_is)
    (case c8 => k_is)
    (case k8 => k_is)
    (case a9 => k_is)
    (case l9 => k_is)
    (case c9 => k_is)
    (case k9 => k_is)
    (case a10 => k_is)
    (case l10 => k_is)
    (case c10 => k_is)
    (case k10 => k_is)
    (case a11 => k_is)
    (case l11 => k_is)
    (case c11 => k_is)
    (case k11 => k_is)
    (case a12 => k_is)
    (case l12 => k_is)
    (case c12 => k_is)
    (case k12 => k_is)
    (case a13 => k_is)
    (case l13 => k_is)
    (case c13 => k_is)
    (case k13 => k_is)
    (case z0 => k_is)
    (case z1 => k_is)
    (case z2 => k_is)
    (case z3 => k_is)
    (case z4 => k_is)
    (case z5 => k_is)
    (case z6 => k_is)
    (case z7 => k_is)
    (case z8 => k_is)
    (case z9 => k_is)
    (case q0 => k_is)
    (case q1 => k_is)
    (case q2 => k_is)
