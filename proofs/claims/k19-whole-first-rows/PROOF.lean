import PyProof.Rows.All
import Wide.All
import OpenK.AllK
import Wide.FinOn
import HandS.ForMost
import HandS.Property
import HandS.SetKeys
import HandS.DictComp
import HandS.IsInst
import HandS.Conv
import HandS.SortInts
import HandS.TupAny
import HandS.NoneIn
import HandS.Flow
import HandS.GenCall
import PyProof.GenRules
import PyProof.GenQ
import PySem.Challenge.RW_knownlate_k19_whole_first_rows
import PyProof.ZipIter
import HandS.GenList
import HandS.Deep
import HandS.Wide
import HandS.SetBool
import HandS.TupMul
import HandS.TupLe
import HandS.Defaults
import HandS.Codes
import HandS.SetFor
import HandS.Strs
import HandS.EndBits
set_option Elab.async false
set_option linter.all false
set_option maxRecDepth 100000
set_option autoImplicit false
/-! Judgements that keep the table of generators: the readings are those of the hand layer, the ends say more. -/
namespace KN
open PySem PySem.Spec PyProof.Rows L2
abbrev St := L2.St
/-- the invariant, the generators' table as it was; what is tracked anew is younger than the entry -/
structure JV (X : Cx) (G : Array GenState) (pins : List (Addr × Obj)) (σ : St) (H : Hp) (s : Shared) : Prop where
  iv : Inv X pins σ H s
  gs : s.gens = G
  nw : ∀ b, b < X.s_0.heap.objs.size → X.H_0 b = none → H b = none
section
variable {X : Cx} {G : Array GenState} {pins : List (Addr × Obj)} {σ : St} {H H' : Hp} {s : Shared} {h' : Heap}
theorem JV.tok (J : JV X G pins σ H s) (t : Nat) : JV X G pins σ H { s with toks := t } := ⟨J.iv.tok t, J.gs, J.nw⟩
theorem JV.kept {t' : Nat} (J : JV X G pins σ H s) (k : ∀ b u, s.heap.get? b = some u → h'.get? b = some u) : JV X G pins σ H { s with heap := h', toks := t' } := ⟨J.iv.kept k, J.gs, J.nw⟩
theorem JV.laid {a : Addr} {o : HO} {t' : Nat} (J : JV X G pins σ H s) (k : ∀ b u, s.heap.get? b = some u → h'.get? b = some u) (hp : s.heap.objs.size ≤ a) (new : ObjOk X.prog X.w (upd H a o) h' a o) :
    JV X G pins σ (upd H a o) { s with heap := h', toks := t' } := ⟨J.iv.laid k hp new, J.gs, fun b hb e => by
      rw [upd_ne (Nat.ne_of_lt (Nat.lt_of_lt_of_le hb (Nat.le_trans J.iv.sz hp)))]
      exact J.nw b hb e⟩
theorem JV.write {x e : Addr} {o : HO} {t' : Nat} (J : JV X G pins σ H s) (mu : Mut (H x)) (he : e = x ∨ H e = some (.own x)) (k : ∀ b u, b ≠ e → s.heap.get? b = some u → h'.get? b = some u) (heo : ∃ u, h'.get? e = some u)
    (new : ObjOk X.prog X.w (upd H x o) h' x o) : JV X G pins σ (upd H x o) { s with heap := h', toks := t' } := ⟨J.iv.write mu he k heo new, J.gs, fun b hb e => by
      have z := J.nw b hb e
      rw [upd_ne fun q => by subst q; rw [z] at mu; exact mu]
      exact z⟩
theorem JV.turned {t' : Nat} {it : Addr} (J : JV X G pins σ H s) (k : ∀ b o, b ≠ it → s.heap.get? b = some o → h'.get? b = some o) (f : FpOk X pins H it) : JV X G pins σ H { s with heap := h', toks := t' } := by
  obtain ⟨f0, f1, f2, f3, f4, f5⟩ := f
  exact ⟨J.iv.turned k f0 f1 f3 f4 f5, J.gs, J.nw⟩
theorem JV.fresh (J : JV X G pins σ H s) : H s.heap.objs.size = none := J.iv.hok.fresh (Nat.le_refl _)
end
/-! ### ends -/
def JE (X : Cx) (G : Array GenState) (pins : List (Addr × Obj)) (σ : St) (Q : VK) (u : Value) (s' : Shared) : Prop := ∃ v H', JV X G pins σ H' s' ∧ RelV v u ∧ Q v H'
def JT (X : Cx) (G : Array GenState) (pins : List (Addr × Obj)) (σ : St) (Q : Bool → Hp → Prop) (b : Bool) (s' : Shared) : Prop := ∃ H', JV X G pins σ H' s' ∧ Q b H'
def JA (X : Cx) (G : Array GenState) (pins : List (Addr × Obj)) (σ : St) (Q : List V → Hp → Prop) (us : List Value) (s' : Shared) : Prop := ∃ vs H', JV X G pins σ H' s' ∧ Vals vs us ∧ Q vs H'
def JS (X : Cx) (G : Array GenState) (pins : List (Addr × Obj)) (D : Ends) (f : Flow) (s' : Shared) : Prop :=
  match f with
  | .next => ∃ σ' H', JV X G pins σ' H' s' ∧ D.nx σ' H'
  | .brk => ∃ σ' H', JV X G pins σ' H' s' ∧ D.bk σ' H'
  | .cont => ∃ σ' H', JV X G pins σ' H' s' ∧ D.ct σ' H'
  | .ret u => ∃ v σ' H', JV X G pins σ' H' s' ∧ RelV v u ∧ D.rt v H'
/-- nothing is raised -/
abbrev NoX : Value → Shared → Prop := fun _ _ => False
structure GE (X : Cx) (e : Expr) (t : TE) : Prop where
  run : ∀ (G : Array GenState) (pins : List (Addr × Obj)) (s : Shared) (σ : St) (H : Hp) (Q : VK), JV X G pins σ H s → t σ H Q → wpAny (model X.prog X.w) X.A (eval e X.env) (JE X G pins σ Q) NoX s
structure GT (X : Cx) (e : Expr) (t : TT) : Prop where
  run : ∀ (G : Array GenState) (pins : List (Addr × Obj)) (s : Shared) (σ : St) (H : Hp) (Q : Bool → Hp → Prop), JV X G pins σ H s → t σ H Q → wpAny (model X.prog X.w) X.A (isTrue e X.env (eval e X.env)) (JT X G pins σ Q) NoX s
/-- a test whatever its whole is -/
structure GW (X : Cx) (e : Expr) (t : TT) : Prop where
  run : ∀ (whole : Sem Value) (G : Array GenState) (pins : List (Addr × Obj)) (s : Shared) (σ : St) (H : Hp) (Q : Bool → Hp → Prop), JV X G pins σ H s → t σ H Q → wpAny (model X.prog X.w) X.A (isTrue e X.env whole) (JT X G pins σ Q) NoX s
structure GA (X : Cx) (es : List Expr) (t : TA) : Prop where
  run : ∀ (pos : Pos) (G : Array GenState) (pins : List (Addr × Obj)) (s : Shared) (σ : St) (H : Hp) (Q : List V → Hp → Prop), JV X G pins σ H s → t σ H Q → wpAny (model X.prog X.w) X.A (spliced (backTo pos (starEach es X.env))) (JA X G pins σ Q) NoX s
structure GP (X : Cx) (st : Stmt) (t : TS) : Prop where
  run : ∀ (G : Array GenState) (pins : List (Addr × Obj)) (s : Shared) (σ : St) (H : Hp) (D : Ends), JV X G pins σ H s → t D σ H → wpAny (model X.prog X.w) X.A (exec st X.env) (JS X G pins D) NoX s
structure GPs (X : Cx) (st : List Stmt) (t : TS) : Prop where
  run : ∀ (G : Array GenState) (pins : List (Addr × Obj)) (s : Shared) (σ : St) (H : Hp) (D : Ends), JV X G pins σ H s → t D σ H → wpAny (model X.prog X.w) X.A (execs st X.env) (JS X G pins D) NoX s
theorem GW.gt {X : Cx} {e : Expr} {t : TT} (h : GW X e t) : GT X e t := ⟨h.run _⟩
section
variable {X : Cx} {a b c e : Expr} {ta tb tc te : TE} {pos : Pos}
/-! ### names, constants -/
theorem ge_var {i : Nat} {x : Str} (hN : X.N[i]? = some x) (hv : Vis X.env.scope x) (hd : (x == ("__debug__" : Str)) = false := by decide) (hcd : (x == ("__classdict__" : Str)) = false := by decide) : GE X (.Name x pos) (tVar i) := by
  constructor
  rintro G pins s σ H Q J ⟨v, e, q⟩
  obtain ⟨m, hn, hl⟩ := J.iv.loc
  obtain ⟨u, r, l⟩ := hl i x v hN e hv
  have fin : JE X G pins σ Q u s := ⟨v, H, J, r, q⟩
  rcases l with ⟨hk, hm⟩ | ⟨hk | hk, c, hc, hcell⟩
  · exact wpAny_Name (wpAny_loadName_local J.iv.ok.kind hk hn hm fin) hd
  · exact wpAny_Name (wpAny_loadName_cell J.iv.ok.kind hk hc hcell fin) hd
  · exact wpAny_Name (wpAny_loadName_free J.iv.ok.kind hk hc hcell fin hcd) hd
theorem gv (i : Nat) {x : Str} (hN : X.N[i]? = some x := by rfl) (hv : Vis X.env.scope x := by first | exact Or.inl rfl | exact Or.inr (Or.inl rfl) | exact Or.inr (Or.inr rfl)) (hd : (x == ("__debug__" : Str)) = false := by decide)
    (hcd : (x == ("__classdict__" : Str)) = false := by decide) : GE X (.Name x pos) (tVar i) := ge_var hN hv hd hcd
theorem ge_int {i j} : GE X (.Constant (.int i) j pos) (tC (.int i)) := ⟨fun G pins s σ H Q J q => wpAny_Constant_int ⟨.int i, H, J.tok _, ⟨_, rfl⟩, q⟩⟩
theorem ge_bl {b j} : GE X (.Constant (.bool b) j pos) (tC (.bl b)) := ⟨fun G pins s σ H Q J q => Constant_bool ⟨.bl b, H, J, rfl, q⟩⟩
theorem ge_non {j} : GE X (.Constant .none j pos) (tC .non) := ⟨fun G pins s σ H Q J q => Constant_none ⟨.non, H, J, rfl, q⟩⟩
theorem ge_glob {x : Str} {v : V} {u : Value} (hg : Gl X x) (hm : X.mg x = some u) (r : RelV v u) (hd : (x == ("__debug__" : Str)) = false := by decide) : GE X (.Name x pos) (tC v) :=
  ⟨fun G pins s σ H Q J q => ld_glob J.iv hg hm ⟨v, H, J, r, q⟩ hd⟩
theorem ge_bltn {x : Str} {v : V} {u : Value} (hg : Gl X x) (hm : X.mg x = none) (hv : bootBuiltins x = some u) (r : RelV v u) (hn : x ≠ "__name__" := by decide) (hd : (x == ("__debug__" : Str)) = false := by decide) : GE X (.Name x pos) (tC v) :=
  ⟨fun G pins s σ H Q J q => ld_blt J.iv hg hm hv ⟨v, H, J, r, q⟩ hn hd⟩
/-! ### arguments, displays -/
theorem ga_nil : GA X [] tNil := ⟨fun pos G pins s σ H Q J q => Calls.spliced_nil ⟨[], H, J, .nil, q⟩⟩
theorem ga_cons {es : List Expr} {t : TA} (ha : GE X e te) (hr : GA X es t) (hs : starEach (e :: es) X.env = (false, eval e X.env) :: starEach es X.env := by rfl) : GA X (e :: es) (tCons te t) := by
  constructor
  intro pos G pins s σ H Q J q
  rw [hs]
  show wpAny _ _ (spliced ((false, eval e X.env) :: backTo pos (starEach es X.env))) _ _ s
  refine Calls.spliced_cons (thn (ha.run G pins s σ H _ J q) ?_)
  rintro u s1 ⟨x, H1, J1, r1, q1⟩
  exact thn (hr.run pos G pins s1 σ H1 _ J1 q1) fun us s2 ⟨xs, H2, J2, r2, q2⟩ => ⟨x :: xs, H2, J2, .cons r1 r2, q2⟩
theorem ge_tup {es : List Expr} {t : TA} {x1} (h : GA X es t) : GE X (.Tuple es x1 pos) (tTup t) := by
  constructor
  intro G pins s σ H Q J q
  refine wpAny_Tuple_spliced (thn (h.run pos G pins s σ H _ J q) ?_)
  rintro us s1 ⟨xs, H1, J1, r, z, q1⟩
  refine ⟨by rw [← r.length]; exact z, .ref s1.heap.objs.size, _, J1.laid (o := .tup xs) (t' := s1.toks) (fun b u e => Heap.get?_push_of_some _ e) (Nat.le_refl _) ?_, rfl, q1 _ J1.fresh⟩
  exact ⟨z, us, r, ⟨_, Heap.get?_push_size _ rfl, rfl, _, rfl⟩⟩
theorem ge_lst {es : List Expr} {t : TA} (h : GA X es t) : GE X (.List es pos) (tLst t) := by
  constructor
  intro G pins s σ H Q J q
  refine wpAny_List_spliced (thn (h.run pos G pins s σ H _ J q) ?_)
  rintro us s1 ⟨xs, H1, J1, r, z, q1⟩
  refine ⟨by rw [← r.length]; exact z, .ref s1.heap.objs.size, _, J1.laid (o := .lst xs) (t' := s1.toks) (fun b u e => Heap.get?_push_of_some _ e) (Nat.le_refl _) ?_, rfl, q1 _ J1.fresh⟩
  exact ⟨z, us, 0, r, Heap.get?_push_size _ rfl⟩
theorem ge_dnew : GE X (.Dict [] [] pos) tDNewK := ⟨fun G pins s σ H Q J q =>
  wpAny_Dict_empty ⟨.ref s.heap.objs.size, _, J.laid (o := .dK []) (t' := s.toks) (fun _ _ e => Heap.get?_push_of_some _ e) (Nat.le_refl _) (dk_empty s.heap J.iv.big), rfl, q _ J.fresh⟩⟩
/-! ### attributes -/
theorem ge_fld {f : Str} (he : GE X e te) (hb : attributeBase e f X.env (eval e X.env) = eval e X.env) : GE X (.Attribute e f pos) (tFld X.K te f) := by
  constructor
  intro G pins s σ H Q J q
  refine attr_of hb (thn (he.run G pins s σ H _ J q) ?_)
  rintro u s1 ⟨x, H1, J1, rx, a, C, dx, fs, v, ex, ea, c, n, l, q1⟩
  subst ex
  obtain rfl : u = Value.ref a := rx
  obtain ⟨mA, O, r, _, _, _⟩ := ins_get J1.iv.hok ea
  obtain ⟨u1, hu, ru⟩ := RelO.some_of (v := v) (o := mA f) (by rw [← l]; exact r f)
  exact get_map J1.iv.kIn O (c.get f) c.hd n hu (handed_of ru) ⟨v, H1, J1.tok _, ru, q1⟩
/-! ### two values -/
theorem gbin (ha : GE X a ta) (hb : GE X b tb) {G : Array GenState} {pins : List (Addr × Obj)} {s : Shared} {σ : St} {H : Hp} {R : V → V → Hp → Prop} (J : JV X G pins σ H s)
    (h : ta σ H fun x H1 => tb σ H1 fun y H2 => R x y H2) {α : Type} {Q : α → Shared → Prop} {f : Value → Value → Sem α}
    (hf : ∀ v u s2 x y H2, JV X G pins σ H2 s2 → RelV x v → RelV y u → R x y H2 → wpAny (model X.prog X.w) X.A (f v u) Q NoX s2) :
    wpAny (model X.prog X.w) X.A (eval a X.env) (fun v s₁ => wpAny (model X.prog X.w) X.A (eval b X.env) (fun u s₂ => wpAny (model X.prog X.w) X.A (f v u) Q NoX s₂) NoX s₁) NoX s := by
  refine thn (ha.run G pins s σ H _ J h) ?_
  rintro v s1 ⟨x, H1, J1, r1, q1⟩
  refine thn (hb.run G pins s1 σ H1 _ J1 q1) ?_
  rintro u s2 ⟨y, H2, J2, r2, q2⟩
  exact hf v u s2 x y H2 J2 r1 r2 q2
/-- an operation on two values -/
def GOp (X : Cx) (f : Value → Value → Sem Value) (r : R2) : Prop :=
  ∀ (G : Array GenState) (pins : List (Addr × Obj)) (s : Shared) (σ : St) (H : Hp) (x y : V) (v u : Value) (Q : VK), JV X G pins σ H s → RelV x v → RelV y u → r x y H Q →
    wpAny (model X.prog X.w) X.A (f v u) (JE X G pins σ Q) NoX s
theorem ge_op {op : Operator} {r : R2} (ho : GOp X (binaryOp op) r) (ha : GE X a ta) (hb : GE X b tb) : GE X (.BinOp a op b pos) (tOp r ta tb) :=
  ⟨fun G pins s σ H Q J h => wpAny_BinOp (gbin ha hb J h fun v u s2 x y H2 J2 rx ry q => ho G pins s2 σ H2 x y v u Q J2 rx ry q)⟩
theorem go_sub : GOp X (binaryOp .Sub) (rI0 fun i j => .int (i - j)) := by
  rintro G pins s σ H x y v u Q J rx ry ⟨i, j, rfl, rfl, q⟩
  obtain ⟨t, rfl⟩ := rx
  obtain ⟨t', rfl⟩ := ry
  exact sub_int ⟨.int (i - j), H, J.tok _, ⟨_, rfl⟩, q⟩
theorem go_cat : GOp X (binaryOp .Add) (rCatA X.K) := by
  rintro G pins s σ H x y v u Q J rx ry ⟨a, b, xs, ys, rfl, rfl, ha, hb, hz, q0, q1, q2⟩
  cases rx
  cases ry
  obtain ⟨its, r1, p1, _⟩ := J.iv.tuple ha
  obtain ⟨its2, r2, p2, _⟩ := J.iv.tuple hb
  by_cases hx : xs = []
  · subst hx
    cases r1
    exact cat_tup0 p1 p2 ⟨.ref b, H, J, rfl, q0 rfl⟩
  · refine HT.cat_tup p1 p2 (fun z => hx (r1.nil_iff.mp z)) (fun z => ⟨.ref a, H, J, rfl, q1 hx (r2.nil_iff.mp z)⟩) (fun z => ?_) (by rw [← r1.length, ← r2.length]; exact hz)
    refine ⟨.ref s.heap.objs.size, _, J.laid (t' := s.toks) (o := .tup (xs ++ ys)) (fun b ob e => Heap.get?_push_of_some _ e) (Nat.le_refl _) ?_, rfl, q2 hx (fun w => z (r2.nil_iff.mpr w)) _ J.fresh⟩
    exact ⟨by rw [List.length_append]; exact hz, _, r1.append r2, IsTup.new _ _⟩
/-! ### comparisons -/
theorem ge_cmp {op : CmpOp} {r : R2} (ho : GOp X (compareOp op) r) (ha : GE X a ta) (hb : GE X b tb) (hm : behindInMarks op b = false) : GE X (.Compare a [op] [b] pos) (tOp r ta tb) :=
  ⟨fun G pins s σ H Q J h => wpAny_Compare1 (gbin ha hb J h fun v u s2 x y H2 J2 rx ry q => ho G pins s2 σ H2 x y v u Q J2 rx ry q) hm⟩
theorem gt_cmp {op : CmpOp} {r : R2} (ho : GOp X (compareOp op) r) (ha : GE X a ta) (hb : GE X b tb) (hm : behindInMarks op b = false) : GT X (.Compare a [op] [b] pos) (tTest (tOp r ta tb)) := by
  constructor
  intro G pins s σ H Q J h
  refine wpAny_isTrue_Compare1 ?_ hm
  refine thn (ha.run G pins s σ H _ J h) ?_
  rintro v s1 ⟨x, H1, J1, r1, q1⟩
  refine thn (hb.run G pins s1 σ H1 _ J1 q1) ?_
  rintro u s2 ⟨y, H2, J2, r2, q2⟩
  refine thn (ho G pins s2 σ H2 x y v u _ J2 r1 r2 q2) ?_
  rintro c s3 ⟨z, H3, J3, r3, k, e, q3⟩
  subst e
  cases r3
  exact wpAny_truthy_bool ⟨H3, J3, q3⟩
theorem gfin_bl {G : Array GenState} {pins : List (Addr × Obj)} {σ : St} {H : Hp} {s : Shared} {Q : VK} {k k' : Bool} (J : JV X G pins σ H s) (q : Q (.bl k) H) (e : k = k') : JE X G pins σ Q (.bool k') s := by
  subst e
  exact ⟨.bl k, H, J, rfl, q⟩
theorem go_isN : GOp X (compareOp .Is) (fun x y H Q => y = .non ∧ Q (.bl (decide (x = .non))) H) := by
  rintro G pins s σ H x y v u Q J rx ry ⟨rfl, q⟩
  cases ry
  exact is_none_gen (gfin_bl J q (by rw [rx.none_iff]))
theorem go_notN : GOp X (compareOp .IsNot) (fun x y H Q => y = .non ∧ Q (.bl (!decide (x = .non))) H) := by
  rintro G pins s σ H x y v u Q J rx ry ⟨rfl, q⟩
  cases ry
  exact isnot_none_gen (gfin_bl J q (by rw [rx.none_iff]))
theorem go_eqI : GOp X (compareOp .Eq) (rI0 fun i j => .bl (decide (i = j))) := by
  rintro G pins s σ H x y v u Q J rx ry ⟨i, j, rfl, rfl, q⟩
  obtain ⟨t, rfl⟩ := rx
  obtain ⟨t', rfl⟩ := ry
  exact eq_int (gfin_bl J q (by rw [Bool.beq_eq_decide_eq]))
theorem go_lt : GOp X (compareOp .Lt) (rI0 fun i j => .bl (decide (i < j))) := by
  rintro G pins s σ H x y v u Q J rx ry ⟨i, j, rfl, rfl, q⟩
  obtain ⟨t, rfl⟩ := rx
  obtain ⟨t', rfl⟩ := ry
  exact lt_int (gfin_bl J q rfl)
theorem go_le : GOp X (compareOp .LtE) (rI0 fun i j => .bl (decide (i ≤ j))) := by
  rintro G pins s σ H x y v u Q J rx ry ⟨i, j, rfl, rfl, q⟩
  obtain ⟨t, rfl⟩ := rx
  obtain ⟨t', rfl⟩ := ry
  exact le_int (gfin_bl J q rfl)
theorem go_ge : GOp X (compareOp .GtE) (rI0 fun i j => .bl (decide (j ≤ i))) := by
  rintro G pins s σ H x y v u Q J rx ry ⟨i, j, rfl, rfl, q⟩
  obtain ⟨t, rfl⟩ := rx
  obtain ⟨t', rfl⟩ := ry
  exact PyProof.Rows.ge_int (gfin_bl J q rfl)
/-- a key in a dict -/
theorem go_din : GOp X (compareOp .In) (fun y x H Q => ∃ a kvs k, x = .ref a ∧ y = kV k ∧ Rd H a (.dK kvs) ∧ Q (.bl (valV kvs k).isSome) H) := by
  rintro G pins s σ H y x u v Q J ry rx ⟨a, kvs, k, rfl, rfl, ha, q⟩
  cases rx
  obtain ⟨z, hd, vs, rel, dd⟩ := dk_rd J.iv.hok ha
  exact wpAny_in_of (kV_is ry) hd dd.mapOf (gfin_bl (J.tok _) q (rel.val k).isSome_eq)
theorem go_dnotin : GOp X (compareOp .NotIn) (fun y x H Q => ∃ a kvs k, x = .ref a ∧ y = kV k ∧ Rd H a (.dK kvs) ∧ Q (.bl (!(valV kvs k).isSome)) H) := by
  rintro G pins s σ H y x u v Q J ry rx ⟨a, kvs, k, rfl, rfl, ha, q⟩
  cases rx
  obtain ⟨z, hd, vs, rel, dd⟩ := dk_rd J.iv.hok ha
  exact wpAny_notIn_of (kV_is ry) hd dd.mapOf (gfin_bl (J.tok _) q (congrArg not (rel.val k).isSome_eq))
/-- a op b op' c -/
theorem ge_chain {op op' : CmpOp} {r r' : R2} (ho : GOp X (compareOp op) r) (ho' : GOp X (compareOp op') r') (ha : GE X a ta) (hb : GE X b tb) (hc : GE X c tc)
    (hm : lastMarks [op, op'] [b, c] = false := by with_unfolding_all rfl) : GE X (.Compare a [op, op'] [b, c] pos) (tChain r r' ta tb tc) := by
  constructor
  intro G pins s σ H Q J h
  refine Compare_chain (thn (ha.run G pins s σ H _ J h) ?_) hm
  rintro v s1 ⟨x, H1, J1, r1, q1⟩
  refine chain_link (thn (hb.run G pins s1 σ H1 _ J1 q1) ?_)
  rintro u s2 ⟨y, H2, J2, r2, q2⟩
  refine thn (ho G pins s2 σ H2 x y v u _ J2 r1 r2 q2) ?_
  rintro d s3 ⟨z, H3, J3, r3, k, e, q3⟩
  subst e
  cases r3
  refine wpAny_truthy_bool ?_
  cases k with
  | false => exact ite_ff ⟨.bl false, H3, J3, rfl, q3⟩
  | true =>
    refine ite_tt (chain_last (thn (hc.run G pins s3 σ H3 _ J3 q3) ?_))
    rintro w' s4 ⟨z', H4, J4, r4, q4⟩
    exact ho' G pins s4 σ H4 y z' u w' Q J4 r2 r4 q4
/-! ### tests -/
theorem gt_val {t : TE} (h : GE X e t) (he : ∀ whole, isTrue e X.env whole = (do let v ← whole; standAt e.pos; holding [v] (truthy v)) := by intro _; rfl) : GT X e (tB t) := by
  constructor
  intro G pins s σ H Q J hw
  refine isTrue_plain (thn (h.run G pins s σ H _ J hw) ?_) (he _)
  rintro v s1 ⟨x, H1, J1, r1, d, rfl, q⟩
  cases r1
  exact wpAny_truthy_bool ⟨H1, J1, q⟩
/-- a list's truth -/
theorem gt_list {t : TE} (h : GE X e t) (he : ∀ whole, isTrue e X.env whole = (do let v ← whole; standAt e.pos; holding [v] (truthy v)) := by intro _; rfl) :
    GT X e (fun σ H Q => t σ H fun x H' => ∃ p xs, x = .ref p ∧ SqL X.K H' p xs ∧ Q (!xs.isEmpty) H') := by
  constructor
  intro G pins s σ H Q J hw
  refine isTrue_plain (thn (h.run G pins s σ H _ J hw) ?_) (he _)
  rintro v s1 ⟨x, H1, J1, r1, p, xs, rfl, hx, q⟩
  cases r1
  have hn := line63
  obtain ⟨its, r, pl, hz⟩ := J1.iv.list hx
  have hlen := r.length
  exact wpAny_truthy_list pl.isList (by simp only [List.size_toArray]; omega) ⟨H1, J1.tok _, by rw [isEmpty_of r]; exact q⟩
theorem gt_not {t : TT} (h : GT X a t) : GT X (.UnaryOp .Not a pos) (tNot t) :=
  ⟨fun G pins s σ H Q J q => isTrue_not (h.run G pins s σ H (fun c H1 => Q (!c) H1) J q)⟩
theorem gw_and1 {t : TT} (h : GT X a t) : GW X (.BoolOp .And [a] pos) t := by
  constructor
  intro wh G pins s σ H Q J q
  refine isTrue_and (thn (h.run G pins s σ H Q J q) fun c s1 e => ?_)
  cases c with
  | true => exact isTrue_and_nil e
  | false => exact e
theorem gw_and {t u : TT} {rest : List Expr} (h : GT X a t) (hb : GW X (.BoolOp .And (b :: rest) pos) u) : GW X (.BoolOp .And (a :: b :: rest) pos) (tAnd t u) := by
  constructor
  intro wh G pins s σ H Q J q
  refine isTrue_and (thn (h.run G pins s σ H _ J q) ?_)
  rintro c s1 ⟨H1, J1, q1⟩
  cases c with
  | true => exact hb.run wh G pins s1 σ H1 Q J1 q1
  | false => exact ⟨H1, J1, q1⟩
theorem gw_or1 {t : TT} (h : GT X a t) : GW X (.BoolOp .Or [a] pos) t := by
  constructor
  intro wh G pins s σ H Q J q
  refine isTrue_or (thn (h.run G pins s σ H Q J q) fun c s1 e => ?_)
  cases c with
  | true => exact e
  | false => exact isTrue_or_nil e
theorem gw_or {t u : TT} {rest : List Expr} (h : GT X a t) (hb : GW X (.BoolOp .Or (b :: rest) pos) u) : GW X (.BoolOp .Or (a :: b :: rest) pos) (tOr t u) := by
  constructor
  intro wh G pins s σ H Q J q
  refine isTrue_or (thn (h.run G pins s σ H _ J q) ?_)
  rintro c s1 ⟨H1, J1, q1⟩
  cases c with
  | true => exact ⟨H1, J1, q1⟩
  | false => exact hb.run wh G pins s1 σ H1 Q J1 q1
/-- and, not as values of truth -/
theorem ge_one {op} (h : GE X a ta) : GE X (.BoolOp op [a] pos) ta := ⟨fun G pins s σ H Q J q => BoolOp_one (h.run G pins s σ H Q J q)⟩
theorem ge_and {rest : List Expr} (h : GE X a ta) (hb : GE X (.BoolOp .And (b :: rest) pos) tb) : GE X (.BoolOp .And (a :: b :: rest) pos) (tAndV ta tb) := by
  constructor
  intro G pins s σ H Q J q
  refine BoolOp_and (thn (h.run G pins s σ H _ J q) ?_)
  rintro v s1 ⟨x, H1, J1, r1, c, rfl, q1⟩
  cases r1
  refine wpAny_truthy_bool ?_
  cases c with
  | true => exact hb.run G pins s1 σ H1 Q J1 q1
  | false => exact ⟨.bl false, H1, J1, rfl, q1⟩
theorem ge_not (h : GE X a ta) : GE X (.UnaryOp .Not a pos) (tNotV ta) := by
  constructor
  intro G pins s σ H Q J q
  refine UnaryOp_ (thn (h.run G pins s σ H _ J q) ?_)
  rintro v s1 ⟨x, H1, J1, r1, c, rfl, q1⟩
  cases r1
  exact not_of (wpAny_truthy_bool ⟨.bl (!c), H1, J1, rfl, q1⟩)
/-! ### subscripts -/
theorem ge_ixL (ha : GE X a ta) (hb : GE X b tb) (hs : PlainIx b) : GE X (.Subscript a b pos) (tOp (fun x y H Q => ∃ (p : Addr) (xs : List V) (j : Nat) (v : V), x = .ref p ∧ y = .int j ∧ SqL X.K H p xs ∧ xs[j]? = some v ∧ Q v H) ta tb) := by
  constructor
  intro G pins s σ H Q J h
  refine Subscript_ (gbin ha hb J h ?_)
  rintro v u s2 x y H2 J2 rx ry ⟨p, xs, j, z, rfl, rfl, hq, he, q⟩
  cases rx
  obtain ⟨t, rfl⟩ := ry
  obtain ⟨its, r, pl, hz⟩ := J2.iv.list hq
  obtain ⟨w, ew, rw'⟩ := r.get he
  have hl := r.length
  have hn := line63
  have hj : j < xs.length := (List.getElem?_eq_some_iff.mp he).1
  have fin : JE X G pins σ Q w s2 := ⟨z, H2, J2, rw', q⟩
  exact item_listR pl.isList (Int.natCast_nonneg j) (by omega) (by rw [Int.toNat_natCast]; simpa using ew) fin (hs _ _)
theorem ge_ixT (ha : GE X a ta) (hb : GE X b tb) (hs : PlainIx b) : GE X (.Subscript a b pos) (tOp (fun x y H Q => ∃ (p : Addr) (xs : List V) (j : Nat) (v : V), x = .ref p ∧ y = .int j ∧ SqT X.K H p xs ∧ xs[j]? = some v ∧ Q v H) ta tb) := by
  constructor
  intro G pins s σ H Q J h
  refine Subscript_ (gbin ha hb J h ?_)
  rintro v u s2 x y H2 J2 rx ry ⟨p, xs, j, z, rfl, rfl, hq, he, q⟩
  cases rx
  obtain ⟨t, rfl⟩ := ry
  obtain ⟨its, r, pl, hz⟩ := J2.iv.tuple hq
  obtain ⟨w, ew, rw'⟩ := r.get he
  have hl := r.length
  have hn := line63
  have hj : j < xs.length := (List.getElem?_eq_some_iff.mp he).1
  have fin : JE X G pins σ Q w s2 := ⟨z, H2, J2, rw', q⟩
  exact subscriptTail_builtinR (x := w) pl.typeIs slot_tuple_getitem.lookup
    (getItem_tuple (j := j) (Q := fun r s' => r = w ∧ JE X G pins σ Q r s') pl (by omega) (by omega) (by rw [List.size_toArray, ← hl]; exact seqIndex_of (Int.natCast_nonneg j) (by omega)) (by simpa using ew) ⟨rfl, fin⟩) (hs _ _)
theorem ge_dget (ha : GE X a ta) (hb : GE X b tb) (hs : NoSl b) : GE X (.Subscript a b pos) (tOp (fun x y H Q => ∃ p kvs k v, x = .ref p ∧ y = kV k ∧ Rd H p (.dK kvs) ∧ valV kvs k = some v ∧ Q v H) ta tb) := by
  constructor
  intro G pins s σ H Q J h
  refine subD_of PySem.F.slot_dict_getitem.lookup hs (thn (ha.run G pins s σ H _ J h) ?_)
  rintro v s1 ⟨x, H1, J1, r1, q1⟩
  refine thn (hb.run G pins s1 σ H1 _ J1 q1) ?_
  rintro u s2 ⟨y, H2, J2, r2, p, kvs, k, z, rfl, rfl, hp, hv, q⟩
  cases r1
  obtain ⟨z0, hd, vs, rel, dd⟩ := dk_rd J2.iv.hok hp
  obtain ⟨w', hw, rw'⟩ := RelO.some_of (v := z) (o := valueAt vs k) (by rw [← hv]; exact rel.val k)
  exact ⟨dd.typeIs, wpAny_getItem_of (kV_is r2) dd.mapOf hw ⟨z, H2, J2.tok _, rw', q⟩⟩
end
end KN
/-! Calls, operations on values, statements and loops that keep the generators' table. -/
namespace KN
open PySem PySem.Spec PyProof.Rows L2
/-! ### a def's promise -/
abbrev GSp := List V → Hp → VK → Prop
/-- a call's end; what it tracks anew is new -/
def CEn (outer : List Env) (P : Program) (w : World) (H : Hp) (s : Shared) (Q : VK) (u : Value) (s' : Shared) : Prop :=
  ∃ v H', s'.os = s.os ∧ AllBare s'.gens ∧ Un (frs outer) [] H H' s.heap s'.heap ∧ HOk P w H' s'.heap ∧ RelV v u ∧ (∀ b, b < s.heap.objs.size → H b = none → H' b = none) ∧ Q v H'
def GR (outer : List Env) (P : Program) (w : World) (H : Hp) (s : Shared) (Q : VK) (r : Result) (s' : Shared) : Prop :=
  match r with
  | .ok (.ret u) => s'.gens = s.gens ∧ CEn outer P w H s Q u s'
  | _ => False
structure GFn (P : Program) (w : World) (K : PySem.W.Frag) (mg : Str → Option Value) (base : Heap) (k : Nat) (f : Addr) (fd : FuncData) (ps : List Str) (sp : GSp) : Prop where
  len : ∀ vs H Q, sp vs H Q → vs.length = ps.length
  run : ∀ (A : Around) (outer : List Env) (s : Shared) (H : Hp) (args : Args) (us : List Value) (vs : List V) (Q : VK), Room k A → Env0 P w K mg base A outer s H → BindsTo s fd args (ps.zip us) → Vals vs us → sp vs H Q →
    codeAny (model P w) A (.call (.ref f) args) (GR outer P w H s Q) s
theorem GFn.mono {P : Program} {w : World} {K : PySem.W.Frag} {mg : Str → Option Value} {base : Heap} {j k : Nat} {f : Addr} {fd : FuncData} {ps : List Str} {sp : GSp} (F : GFn P w K mg base j f fd ps sp) (h : j ≤ k) : GFn P w K mg base k f fd ps sp :=
  ⟨F.len, fun A outer s H args us vs Q hr => F.run A outer s H args us vs Q (hr.mono h)⟩
abbrev NoCX : CXT := fun _ _ _ _ _ _ => False
abbrev NoK : XK := fun _ _ _ => False
/-- a def's context -/
abbrev gx (P : Program) (w : World) (K : PySem.W.Frag) (mg : Str → Option Value) (base : Heap) (N : List Str) (qual : Str) (scope : Scope) (f : Addr) (cd : Value) (A : Around) (outer : List Env) (s : Shared) (H : Hp) : Cx :=
  cxOf NoCX P w K mg base N qual scope f cd A outer s H NoK
theorem gfn_of {P : Program} {w : World} {K : PySem.W.Frag} {mg : Str → Option Value} {base : Heap} {k : Nat} {f : Addr} {name qual : Str} {params : Arguments} {body : List Stmt} {scope : Scope} {dV kV doc pm cdv ct oc : Value} {an od : Option Addr}
    {osl : Array (Option Value)} {N ps : List Str} {sp : GSp} (lk : K.lookup f = some ⟨oc, od, .func (PySem.W.fnOf name qual params body scope dV kV doc pm an cdv ct), osl⟩) (hcd : PySem.W.codeIn K cdv qual = true) (S : FnScope N ps scope)
    (len : ∀ vs H Q, sp vs H Q → vs.length = ps.length)
    (hbody : ∀ (A : Around) (outer : List Env) (s : Shared) (H : Hp) (vs : List V) (Q : VK), Room k (A.deeper (envOfC qual scope s.heap.objs.size f cdv)) → sp vs H Q →
      ∃ t, GPs (gx P w K mg base N qual scope f cdv A outer s H) body t ∧ t { nx := fun _ H' => Q .non H', rt := Q } (start N vs) H) :
    GFn P w K mg base (k + 1) f (PySem.W.fnOf name qual params body scope dV kV doc pm an cdv ct) ps sp := by
  refine ⟨len, fun A outer s H args us vs Q hr e0 hb r hsp => ?_⟩
  have hl := len _ _ _ hsp
  have KX : K.In s.heap := e0.mod.kin.keeps fun b o e => (e0.bs b o e).1
  have lim : s.heap.NoLimit := e0.mod.nolimit.keeps fun b o e => (e0.bs b o e).1
  have hkind : ∀ y ∈ ps.zip us, scope.names.lookup y.1 = some .local ∨ (scope.names.lookup y.1 = some .cell ∧ ((cellsFrom (s.heap.objs.size + 1) scope.names []).lookup y.1).isSome = true) := by
    rintro ⟨n, v⟩ hy
    rcases S.par n (List.of_mem_zip hy).1 with q | q
    · exact .inl q
    · exact .inr ⟨q, PySem.W.cellsFrom_some _ _ _ (.inl q)⟩
  refine codeAny_call_function hr.depth (KX _ _ lk) rfl S.co S.gen rfl (PySem.W.codeRec_of KX hcd) (hb _ _ _ _ ?_)
  refine wpAny_newFunctionEnv_cells S.kind hkind ?_
  rintro env rfl s1 x
  refine ⟨lim.keeps x.toInCall.keep, codeAny_func ?_⟩
  obtain ⟨t, ht, hq⟩ := hbody A outer s H vs Q (hr.deeper _) hsp
  have I : Inv (gx P w K mg base N qual scope f cdv A outer s H) [] (start N vs) H s1 := inv_start S hr.hd e0 hl r x
  have hg : s1.gens = s.gens := by
    obtain ⟨h1, tk, e, _⟩ := x.done
    rw [e]
  refine wpAny_mono (ht.run s.gens [] s1 (start N vs) H _ ⟨I, hg, fun b _ e => e⟩ hq) (fun fl s' hs => ?_) fun e s' hs => False.elim hs
  cases fl with
  | ret u =>
    obtain ⟨v, σ', H', J, rv, q⟩ := hs
    exact ⟨J.gs, v, H', J.iv.os, J.iv.bare, J.iv.base, J.iv.hok, rv, J.nw, q⟩
  | next =>
    obtain ⟨σ', H', J, q⟩ := hs
    exact ⟨J.gs, .non, H', J.iv.os, J.iv.bare, J.iv.base, J.iv.hok, rfl, J.nw, q⟩
  | brk =>
    obtain ⟨_, _, _, q⟩ := hs
    exact False.elim q
  | cont =>
    obtain ⟨_, _, _, q⟩ := hs
    exact False.elim q
section
variable {X : Cx} {G : Array GenState} {pins : List (Addr × Obj)} {σ : St} {H : Hp} {s s' : Shared}
theorem JV.after {Q : VK} {u : Value} (J : JV X G pins σ H s) (h : s'.gens = s.gens ∧ CEn X.stack X.prog X.w H s Q u s') : JE X G pins σ Q u s' := by
  obtain ⟨hg, v, H', os, bare, un, hok, r, nw, q⟩ := h
  refine ⟨v, H', ⟨?_, hg.trans J.gs, fun b hb e => nw b (Nat.lt_of_lt_of_le hb J.iv.sz) (J.nw b hb e)⟩, r, q⟩
  exact J.iv.call' (ch := []) os un hok bare (fun b z => absurd z (by simp))
end
/-! ### calls -/
def gCall (sp : GSp) (t : TA) : TE := fun σ H Q => t σ H fun vs H1 => sp vs H1 Q
section
variable {X : Cx} {k : Nat} {f C : Addr} {fd : FuncData} {ps : List Str} {sp : GSp} {x m : Str} {p pos apos cpos : Pos} {e o : Expr} {es : List Expr} {ta : TE} {t : TA}
theorem grun_fn {G : Array GenState} {pins : List (Addr × Obj)} {σ : St} {H : Hp} {s : Shared} {Q : VK} {us : List Value} {vs : List V} (F : GFn X.prog X.w X.K X.mg X.base k f fd ps sp) (hr : Room k X.A) (hb : Binds X.K fd ps [])
    (J : JV X G pins σ H s) (r : Vals vs us) (h : sp vs H Q) : wpAny (model X.prog X.w) X.A (call (.ref f) us) (JE X G pins σ Q) NoX s := by
  have hl : (us ++ []).length = ps.length := by rw [List.append_nil, ← r.length]; exact F.len _ _ _ h
  have hb1 := hb s us J.iv.kIn hl
  rw [List.append_nil] at hb1
  refine wpAny_call (codeAny_mono (F.run X.A X.stack s H ⟨us, []⟩ us vs Q hr J.iv.env0 hb1 r h) fun r s' hq => ?_)
  cases r with
  | error e => exact False.elim hq
  | ok fl =>
    cases fl with
    | ret u => exact J.after hq
    | next => exact False.elim hq
    | brk => exact False.elim hq
    | cont => exact False.elim hq
theorem ge_call (F : GFn X.prog X.w X.K X.mg X.base k f fd ps sp) (hr : Room k X.A) (hg : Gl X x) (hm : X.mg x = some (.ref f)) (hk : PySem.W.keepIn X.K (.ref f) = true) (hb : Binds X.K fd ps [])
    (ha : GA X (e :: es) t) (hdb : (x == ("__debug__" : Str)) = false := by decide) (he : starEach (e :: es) X.env = (false, eval e X.env) :: starEach es X.env := by rfl) (hpl : (backTo pos (starEach es X.env)).any (·.1) = false := by rfl) :
    GE X (.Call (.Name x p) (e :: es) [] pos) (gCall sp t) := by
  constructor
  intro G pins s σ H Q J h
  refine wpAny_Call_Name_kw (ld_glob J.iv hg hm ?_ hdb)
  refine PySem.W.callWith_K (h₀ := X.base) J.iv.ok.mod.kin hk (thn (ha.run pos G pins s σ H _ J h) ?_) he hpl
  rintro us s1 ⟨vs, H1, J1, r, q⟩
  exact ⟨J1.iv.kIn, grun_fn F hr hb J1 r q⟩
/-- a property -/
def gProp (C : Addr) (sp : GSp) (ta : TE) : TE := fun σ H Q => ta σ H fun x H1 => ∃ a dx fs, x = .ref a ∧ H1 a = some (.ins C dx fs) ∧ sp [.ref a] H1 Q
theorem ge_prop {g pa : Addr} {nm : Str} (he : GE X e ta) (c : Cls X.K C) (hp : PropOf X.K C nm pa g) (F : GFn X.prog X.w X.K X.mg X.base k g fd ps sp) (hr : Room (k + 1) X.A) (hb : Binds X.K fd ps [])
    (hab : attributeBase e nm X.env (eval e X.env) = eval e X.env) : GE X (.Attribute e nm pos) (gProp C sp ta) := by
  constructor
  intro G pins s σ H Q J h
  refine attr_of hab (thn (he.run G pins s σ H _ J h) ?_)
  rintro u s1 ⟨x, H1, J1, rx, a, dx, fs, ex, ea, q⟩
  subst ex
  obtain rfl : u = Value.ref a := rx
  obtain ⟨mA, O, _, _, _, _⟩ := ins_get J1.iv.hok ea
  obtain ⟨od, W, _⟩ := O.look
  obtain ⟨rest, hrec⟩ := hp.rec_
  have J2 := J1.tok (s1.toks + 1)
  have hl : ([Value.ref a] ++ []).length = ps.length := by
    rw [← F.len _ _ _ q]
    rfl
  have hb1 := hb { s1 with toks := s1.toks + 1 } [.ref a] J2.iv.kIn hl
  rw [List.append_nil] at hb1
  have hc : (PySem.W.clsIn X.K C).isSome = true := by
    obtain ⟨cd, hc, _⟩ := PySem.W.any_some c.hd
    rw [hc]
    rfl
  refine PySem.W.get_bind J1.iv.kIn W (PySem.W.plainGet_of (c.get nm)).1 (PySem.W.findObj_data hc hp.at_ hp.get hp.tak) (PySem.W.plainGet_of (c.get nm)).2 (wpAny_call (PySem.W.prop_get (s := { s1 with toks := s1.toks + 1 }) J1.iv.kIn hrec ?_))
  refine codeAny_mono (F.run X.A.in1 X.stack { s1 with toks := s1.toks + 1 } H1 ⟨[.ref a], []⟩ [.ref a] [.ref a] Q hr.in1 J2.iv.env0.in1 hb1 (.cons rfl .nil) q) fun r s' hq => ?_
  cases r with
  | error er => exact False.elim hq
  | ok fl =>
    cases fl with
    | ret u =>
      obtain ⟨v, H', J3, rv, q3⟩ := J2.after hq
      show wpAny _ _ (handedOut u) _ _ _
      rw [PySem.W.handedOut_of (handed_of rv)]
      exact wpAny_pure ⟨v, H', J3, rv, q3⟩
    | next => exact False.elim hq
    | brk => exact False.elim hq
    | cont => exact False.elim hq
/-! ### built-ins by name -/
/-- a call of a known value -/
def GC (X : Cx) (f : Value) (r : List V → Hp → VK → Prop) : Prop :=
  ∀ (G : Array GenState) (pins : List (Addr × Obj)) (s : Shared) (σ : St) (H : Hp) (xs : List V) (us : List Value) (Q : VK), JV X G pins σ H s → Vals xs us → r xs H Q → wpAny (model X.prog X.w) X.A (call f us) (JE X G pins σ Q) NoX s
variable {r : List V → Hp → VK → Prop} {id T : String}
theorem ge_callB (hc : GC X (.builtin id) r) (hg : Gl X x) (hm : X.mg x = none) (hv : bootBuiltins x = some (.builtin id)) (ha : GA X (e :: es) t) (hn : x ≠ "__name__" := by decide) (hdb : (x == ("__debug__" : Str)) = false := by decide)
    (he : starEach (e :: es) X.env = (false, eval e X.env) :: starEach es X.env := by rfl) (hpl : (backTo pos (starEach es X.env)).any (·.1) = false := by rfl) : GE X (.Call (.Name x p) (e :: es) [] pos) (tCB r t) := by
  constructor
  intro G pins s σ H Q J h
  refine wpAny_Call_Name_kw (ld_blt J.iv hg hm hv ?_ hn hdb)
  refine PyProof.Rows.callWith_builtin1 (thn (ha.run pos G pins s σ H _ J h) ?_) he hpl
  rintro us s1 ⟨vs, H1, J1, r1, q1⟩
  exact hc G pins s1 σ H1 vs us Q J1 r1 q1
theorem ge_callTy (hc : GC X (.type T) r) (hg : Gl X x) (hm : X.mg x = none) (hv : bootBuiltins x = some (.type T)) (ha : GA X (e :: es) t) (hn : x ≠ "__name__" := by decide) (hdb : (x == ("__debug__" : Str)) = false := by decide)
    (he : starEach (e :: es) X.env = (false, eval e X.env) :: starEach es X.env := by rfl) (hpl : (backTo pos (starEach es X.env)).any (·.1) = false := by rfl) : GE X (.Call (.Name x p) (e :: es) [] pos) (tCB r t) := by
  constructor
  intro G pins s σ H Q J h
  refine wpAny_Call_Name_kw (ld_blt J.iv hg hm hv ?_ hn hdb)
  refine PyProof.Rows.callWith_type1 (thn (ha.run pos G pins s σ H _ J h) ?_) he hpl
  rintro us s1 ⟨vs, H1, J1, r1, q1⟩
  exact hc G pins s1 σ H1 vs us Q J1 r1 q1
/-- len of a list or a tuple -/
theorem gc_len : GC X (.builtin "len") (fun vs H Q => ∃ a ys, vs = [.ref a] ∧ (SqL X.K H a ys ∨ SqT X.K H a ys) ∧ Q (.int ys.length) H) := by
  rintro G pins s σ H xs us Q J r ⟨a, ys, rfl, hq, q⟩
  obtain ⟨u, rfl, rx⟩ := vals1 r
  cases rx
  have hn := line63
  rcases hq with hq | hq
  · obtain ⟨its, r', pl, hz⟩ := J.iv.list hq
    have hlen := r'.length
    exact Calls.call_len_list pl.isList (by simp only [List.size_toArray]; omega) ⟨.int ys.length, H, J.tok _, ⟨s.toks + 1, by rw [List.size_toArray, hlen]⟩, q⟩
  · obtain ⟨its, r', pl, hz⟩ := J.iv.tuple hq
    have hlen := r'.length
    exact len_tuple pl (by simp only [List.size_toArray]; omega) ⟨.int ys.length, H, J.tok _, ⟨s.toks + 1, by rw [List.size_toArray, hlen]⟩, q⟩
/-- list of a list: a copy -/
theorem gc_listL : GC X (.type "list") (fun vs H Q => ∃ a ys, vs = [.ref a] ∧ SqL X.K H a ys ∧ ∀ l, H l = none → Q (.ref l) (upd H l (.lst ys))) := by
  rintro G pins s σ H xs us Q J r ⟨a, ys, rfl, hq, q⟩
  obtain ⟨u, rfl, rx⟩ := vals1 r
  cases rx
  obtain ⟨its, r', pl, hz⟩ := J.iv.list hq
  have hlen := r'.length
  obtain ⟨ob, ho, hc, n, hd⟩ := pl.isList
  refine call_list_seq a (.inl rfl) ho hc hd (fun h' c' kp e => ?_) (by simp only [List.size_toArray]; omega)
  exact ⟨.ref s.heap.objs.size, _, J.laid (t' := s.toks) kp (Nat.le_refl _) (show ObjOk X.prog X.w _ h' _ (.lst ys) from ⟨hz, its, c', r', e⟩), rfl, q _ J.fresh⟩
/-- list of a dict: its keys -/
theorem gc_listD (hcalm : X.calm = true) : GC X (.type "list") (fun vs H Q => ∃ a kvs, vs = [.ref a] ∧ Rd H a (.dK kvs) ∧ ∀ l, H l = none → Q (.ref l) (upd H l (.lst (kvs.map fun kv => kV kv.1)))) := by
  rintro G pins s σ H xs us Q J r ⟨a, kvs, rfl, hd, q⟩
  obtain ⟨u, rfl, rx⟩ := vals1 r
  cases rx
  obtain ⟨z, lo, vs, rel, dd⟩ := dk_rd J.iv.hok hd
  obtain ⟨ep, hat⟩ := dd.dictAt
  have ek : (kvs.map fun kv => kV kv.1) = vs.map fun p => kV p.1 := by
    have e := congrArg (List.map kV) rel.keys
    rw [List.map_map, List.map_map] at e
    exact e
  refine PySem.W.kdl_call (PySem.W.kdl_dict (knd := mixKind X.prog X.w) (kvs := vs) (ep := ep) lo) (J.iv.ok.hd hcalm) hat (by rw [← rel.length]; exact z) fun h' tk acc c' hk hD hacc => ?_
  have hv : Vals (vs.map fun p => kV p.1) acc.toList := keys_at (by rw [Array.length_toList]; exact hacc.1) fun j v e => hacc.2 j v (by rw [← Array.getElem?_toList]; exact e)
  refine ⟨.ref s.heap.objs.size, upd H s.heap.objs.size (.lst (kvs.map fun kv => kV kv.1)), J.laid (t' := tk) hk (Nat.le_refl _) ?_, rfl, q _ J.fresh⟩
  exact ⟨by rw [List.length_map]; exact z, acc.toList, c', by rw [ek]; exact hv, by rw [Array.toArray_toList]; exact hD⟩
/-- sorted ints -/
theorem gc_sortI : GC X (.builtin "sorted") (rSortedI X.K) := by
  rintro G pins s σ H vs us Q J r ⟨a, ns, rfl, hs, q⟩
  obtain ⟨its, rv, hl, hz⟩ := J.iv.list hs
  rw [Vals.ref1 r]
  have hi := rv.ints
  refine SrtO.sorted_ord SrtO.swo_int hl.isList (by rw [← rv.length]; exact hz) (fun h2 h₁ a' _ _ => SrtO.ints_sortable hi h2) fun out h1 h2 => ?_
  obtain ⟨k1, k2, k3⟩ := SrtO.ints_out hi h1 h2
  obtain ⟨ep, he'⟩ := PyProof.Rows.sortedAll_at s.heap its out.toArray
  have hlen : ((out.map SrtO.iv).map V.int).length ≤ sizeLine := by
    rw [List.length_map, k2.length_eq]
    rw [List.length_map] at hz
    exact hz
  exact ⟨.ref _, upd H (s.heap.objs.size + 1) (.lst ((out.map SrtO.iv).map V.int)), J.laid (t' := s.toks) (fun _ _ => PyProof.Rows.sortedAll_old) (Nat.le_succ _) ⟨hlen, out, ep, vals_of_ints k1, he'⟩, rfl, q _ _ k2 k3 (J.iv.hok.fresh (Nat.le_succ _))⟩
/-- sorted texts, less than 64 -/
theorem gc_sortS : GC X (.builtin "sorted") (rSortedS X.K) := by
  rintro G pins s σ H vs us Q J r ⟨a, xs, rfl, hs, h64, q⟩
  obtain ⟨its, rv, hl, hz⟩ := J.iv.list hs
  rw [Vals.ref1 r]
  have hlen0 := rv.length
  rw [List.length_map] at hlen0
  refine PyProof.Rows.sorted_strs hl.isList rv.strs (by rw [← hlen0]; exact h64) fun out ys h1 h2 h3 => ?_
  obtain ⟨ep, he'⟩ := PyProof.Rows.sortedAll_at s.heap its out
  have hlen : (ys.map V.str).length ≤ sizeLine := by rw [List.length_map, h2.length_eq]; exact small64 h64
  exact ⟨.ref _, upd H (s.heap.objs.size + 1) (.lst (ys.map V.str)), J.laid (t' := s.toks) (fun _ _ => PyProof.Rows.sortedAll_old) (Nat.le_succ _) ⟨hlen, out.toList, ep, vals_of_strs h1, he'⟩, rfl, q ys _ h2 h3 (J.iv.hok.fresh (Nat.le_succ _))⟩
/-! ### methods of built-ins -/
def GM (X : Cx) (id : String) (r : V → List V → Hp → VK → Prop) : Prop :=
  ∀ (G : Array GenState) (pins : List (Addr × Obj)) (s : Shared) (σ : St) (H : Hp) (x : V) (xs : List V) (v : Value) (us : List Value) (Q : VK), JV X G pins σ H s → RelV x v → Vals xs us → r x xs H Q →
    wpAny (model X.prog X.w) X.A (call (.builtin id) (v :: us)) (JE X G pins σ Q) NoX s
variable {rm : V → List V → Hp → VK → Prop} {name : Str}
theorem ge_bm0 (pa : PlainAttrs T) (slot : Slot T name id) (hty : typeOf (.builtin id) = pure (.type "method_descriptor")) (hm : GM X id rm) (ho : GE X o ta)
    (hbase : attributeBase o name X.env (eval o X.env) = eval o X.env := by rfl) (hline : (apos.endLine == cpos.line) = true := by rfl) : GE X (.Call (.Attribute o name apos) [] [] cpos) (tBM0 X.K T rm ta) := by
  constructor
  intro G pins s σ H Q J h
  refine wpAny_Call_method0_late hbase hline (thn (ho.run G pins s σ H _ J h) ?_)
  rintro v s1 ⟨x, H1, J1, r1, ty, q1⟩
  obtain ⟨h1, h2⟩ := tyV_is J1.iv r1 ty
  exact ⟨T, id, pa, slot, hty, h1, h2, Calls.callWith_builtin rfl (PySem.evalArgs_none (hm G pins s1 σ H1 x [] v [] Q J1 r1 .nil q1))⟩
theorem ge_bm (pa : PlainAttrs T) (slot : Slot T name id) (hty : typeOf (.builtin id) = pure (.type "method_descriptor")) (hm : GM X id rm) (ho : GE X o ta) (ha : GA X (e :: es) t)
    (hbase : attributeBase o name X.env (eval o X.env) = eval o X.env := by rfl)
    (hfew : ((backTo cpos (starEach (e :: es) X.env)).all (fun x => !x.1) && (backToKw cpos (keywordEach [] X.env)).all (fun x => x.1.isSome)
      && decide ((e :: es).length + ([] : List Keyword).length + (if ([] : List Keyword).isEmpty then 0 else 1) < 30)) = true := by rfl)
    (hline : (apos.endLine == cpos.line) = true := by rfl) (hs : starEach (e :: es) X.env = (false, eval e X.env) :: starEach es X.env := by rfl) (hplain : (backTo cpos (starEach es X.env)).any (·.1) = false := by rfl) :
    GE X (.Call (.Attribute o name apos) (e :: es) [] cpos) (tBM X.K T rm ta t) := by
  constructor
  intro G pins s σ H Q J h
  refine wpAny_Call_method_late hbase hfew hline rfl (thn (ho.run G pins s σ H _ J h) ?_)
  rintro v s1 ⟨x, H1, J1, r1, ty, q1⟩
  obtain ⟨h1, h2⟩ := tyV_is J1.iv r1 ty
  refine ⟨T, id, pa, slot, hty, h1, h2, ?_⟩
  have hA := ha.run cpos G pins s1 σ H1 _ J1 q1
  rw [hs] at hA ⊢
  refine Calls.callWith_builtin (by show (false || (backTo cpos (starEach es X.env)).any (·.1)) = false; rw [hplain] <;> rfl) (Calls.evalArgs_plain ?_)
  refine thn hA ?_
  rintro us s2 ⟨vs, H2, J2, r2, q2⟩
  exact hm G pins s2 σ H2 x vs v us Q J2 r1 r2 q2
theorem JV.lset {G : Array GenState} {pins : List (Addr × Obj)} {σ : St} {H : Hp} {s : Shared} {l : Addr} {xs ys : List V} {its its' : List Value} {n : Nat} {f : Array Value → Array Value} {t' : Nat} (J : JV X G pins σ H s) (hH : H l = some (.lst xs))
    (e : s.heap.get? l = some { cls := .type "list", data := .seq its.toArray n }) (hf : f its.toArray = its'.toArray) (hv : Vals ys its') (hz : ys.length ≤ sizeLine) :
    JV X G pins σ (upd H l (.lst ys)) { s with heap := s.heap.update l (Obj.mapSeq f), toks := t' } := ⟨J.iv.lset hH e hf hv hz, J.gs, fun b hb z => by
    have q := J.nw b hb z
    rw [upd_ne fun w => by subst w; rw [q] at hH; cases hH]
    exact q⟩
theorem gm_append : GM X "list.append" rAppend := by
  rintro G pins s σ H x vs v us Q J rx rv ⟨l, xs, y, rfl, rfl, hH, hz, q⟩
  cases rx
  obtain ⟨u, rfl, ru⟩ := rv.one
  obtain ⟨z, its, n, r, hl, e⟩ := J.iv.lstM hH
  refine call_meets F.slot_list_append ⟨_, e, rfl⟩ F.entry_list_append (F.args_list_append_2 _ _) (PySem.list_append l its.toArray n u (by rw [List.size_toArray]; omega)) ⟨e, ?_⟩
  refine ⟨.non, _, J.lset (its' := its ++ [u]) hH e (by simp) (r.append (.cons ru .nil)) ?_, rfl, q⟩
  rw [List.length_append, List.length_singleton]
  omega
theorem gm_pop : GM X "list.pop" rPop := by
  rintro G pins s σ H x vs v us Q J rx rv ⟨l, xs, y, rfl, rfl, hH, hy, q⟩
  cases rx
  have hus := rv.zero
  subst hus
  obtain ⟨z, its, n, r, hl, e⟩ := J.iv.lstM hH
  obtain ⟨u, hu, ru⟩ := r.get hy
  have hy' : its.toArray[its.toArray.size - 1]? = some u := by
    show its.toArray[its.length - 1]? = some u
    rw [← Array.getElem?_toList, ← hl]
    exact hu
  refine call_meets F.slot_list_pop ⟨_, e, rfl⟩ F.entry_list_pop (F.args_list_pop_1 _) (MeetsSeq.list_pop_last l its.toArray n u hy' (by rw [List.size_toArray]; omega)) ⟨e, ?_⟩
  refine ⟨y, _, J.lset (its' := its.dropLast) hH e ?_ r.dropLast ?_, ru, q⟩
  · show its.toArray.eraseIdxIfInBounds (its.toArray.size - 1) = its.dropLast.toArray
    rw [List.size_toArray, List.eraseIdxIfInBounds_toArray, PyProof.Rows.Copied.eraseIdx_last]
  · rw [List.length_dropLast]
    omega
/-! ### dicts -/
def gDGet1 (td ty : TE) : TE := fun σ H Q => td σ H fun x H1 => ∃ a, x = .ref a ∧ IsD H1 a ∧ ty σ H1 fun y H2 => ∃ kvs k, y = kV k ∧ Rd H2 a (.dK kvs) ∧ Q ((valV kvs k).getD .non) H2
def gDGet2 (td ty tx : TE) : TE := fun σ H Q => td σ H fun x H1 => ∃ a, x = .ref a ∧ IsD H1 a ∧ ty σ H1 fun y H2 => tx σ H2 fun z H3 => ∃ kvs k, y = kV k ∧ Rd H3 a (.dK kvs) ∧ Q ((valV kvs k).getD z) H3
variable {ea eb : Expr} {td ty tx : TE}
theorem ge_dget1 (ho : GE X o td) (he : GE X ea ty) (m : M1 X o "get" apos ea cpos) : GE X (.Call (.Attribute o "get" apos) [ea] [] cpos) (gDGet1 td ty) := by
  constructor
  intro G pins s σ H Q J h
  refine wpAny_Call_method m.base m.few m.line PySem.F.plainAttrs_dict PySem.F.slot_dict_get PySem.F.type_dict_get (thn (ho.run G pins s σ H _ J h) ?_)
  rintro u s1 ⟨x, H1, J1, rx, a, ex, d, q1⟩
  subst ex
  obtain rfl : u = Value.ref a := rx
  obtain ⟨t1, t2, _⟩ := isD_at J1.iv d
  refine ⟨t1, t2, ?_⟩
  rw [m.trees]
  refine Calls.callWith_builtin rfl (Calls.evalArgs_plain (Calls.spliced_cons (thn (he.run G pins s1 σ H1 _ J1 q1) ?_)))
  rintro iv s2 ⟨y, H2, J2, ry, kvs, k, rfl, hp, q2⟩
  refine Calls.spliced_nil ?_
  obtain ⟨z, hd, vs, rel, dd⟩ := dk_rd J2.iv.hok hp
  refine call_meetsIn PySem.F.slot_dict_get dd.typeIs PySem.F.entry_dict_get (PySem.F.args_dict_get_2 _ _) (meets_dict_get (mixKind X.prog X.w) a (kV_is ry) hd) ⟨_, dd.mapOf, _, H2, J2.tok _, ?_, q2⟩
  exact (rel.val k).getD rfl
theorem ge_dget2 (ho : GE X o td) (he : GE X ea ty) (hf : GE X eb tx) (m : M2 X o "get" apos ea eb cpos) : GE X (.Call (.Attribute o "get" apos) [ea, eb] [] cpos) (gDGet2 td ty tx) := by
  constructor
  intro G pins s σ H Q J h
  refine wpAny_Call_method m.base m.few m.line PySem.F.plainAttrs_dict PySem.F.slot_dict_get PySem.F.type_dict_get (thn (ho.run G pins s σ H _ J h) ?_)
  rintro u s1 ⟨x, H1, J1, rx, a, ex, d, q1⟩
  subst ex
  obtain rfl : u = Value.ref a := rx
  obtain ⟨t1, t2, _⟩ := isD_at J1.iv d
  refine ⟨t1, t2, ?_⟩
  rw [m.trees]
  refine Calls.callWith_builtin rfl (Calls.evalArgs_plain (Calls.spliced_cons (thn (he.run G pins s1 σ H1 _ J1 q1) ?_)))
  rintro iv s2 ⟨y, H2, J2, ry, q2⟩
  refine Calls.spliced_cons (thn (hf.run G pins s2 σ H2 _ J2 q2) ?_)
  rintro fv s3 ⟨z0, H3, J3, rz, kvs, k, rfl, hp, q3⟩
  refine Calls.spliced_nil ?_
  obtain ⟨z, hd, vs, rel, dd⟩ := dk_rd J3.iv.hok hp
  refine call_meetsIn PySem.F.slot_dict_get dd.typeIs PySem.F.entry_dict_get (PySem.F.args_dict_get_3 _ _ _) (meets_dict_get_default (mixKind X.prog X.w) a (kV_is ry) hd fv) ⟨_, dd.mapOf, _, H3, J3.tok _, ?_, q3⟩
  exact (rel.val k).getD rz
theorem jd_write {G : Array GenState} {pins : List (Addr × Obj)} {σ : St} {H : Hp} {s : Shared} {a : Addr} {h' : Heap} {t' : Nat} {ob : HO} (J : JV X G pins σ H s) (mu : Mut (H a)) (hs : Heap.SameBut a s.heap h') (he : ∃ q, h'.get? a = some q) (new : ObjOk X.prog X.w (upd H a ob) h' a ob) :
    JV X G pins σ (upd H a ob) { s with heap := h', toks := t' } := J.write (x := a) (e := a) mu (.inl rfl) (fun b q hb z => (hs.2 b hb).trans z) he new
theorem ge_dsetd (ho : GE X o td) (he : GE X ea ty) (hf : GE X eb tx) (m : M2 X o "setdefault" apos ea eb cpos) : GE X (.Call (.Attribute o "setdefault" apos) [ea, eb] [] cpos) (tDSetd td ty tx) := by
  constructor
  intro G pins s σ H Q J h
  refine wpAny_Call_method m.base m.few m.line PySem.F.plainAttrs_dict PySem.F.slot_dict_setdefault PySem.F.type_dict_setdefault (thn (ho.run G pins s σ H _ J h) ?_)
  rintro u s1 ⟨x, H1, J1, rx, a, ex, d, q1⟩
  subst ex
  obtain rfl : u = Value.ref a := rx
  obtain ⟨t1, t2, _⟩ := isD_at J1.iv d
  refine ⟨t1, t2, ?_⟩
  rw [m.trees]
  refine Calls.callWith_builtin rfl (Calls.evalArgs_plain (Calls.spliced_cons (thn (he.run G pins s1 σ H1 _ J1 q1) ?_)))
  rintro iv s2 ⟨y, H2, J2, ry, q2⟩
  refine Calls.spliced_cons (thn (hf.run G pins s2 σ H2 _ J2 q2) ?_)
  rintro fv s3 ⟨z0, H3, J3, rz, kvs, k, hp, rfl, hl, q3, q4⟩
  refine Calls.spliced_nil ?_
  obtain ⟨z, hd, vs, rel, dd⟩ := dk_of J3.iv.hok hp
  have hz : vs.length ≤ sizeLine := by
    rw [← rel.length]
    exact z
  have q := rel.val k
  refine call_meetsIn PySem.F.slot_dict_setdefault dd.typeIs PySem.F.entry_dict_setdefault (PySem.F.args_dict_setdefault_3 _ _ _) (kt_meets_setdefault (mixKind X.prog X.w) a (kV_is ry) hd fv) ⟨vs, dd, hz, fun v hv => ?_, fun hn h' dd' hs => ?_⟩
  · rw [hv] at q
    cases q0 : valV kvs k with
    | none => rw [q0] at q; exact False.elim q
    | some v0 =>
      rw [q0] at q
      exact ⟨v0, H3, J3.tok _, q, q3 v0 q0⟩
  · rw [hn] at q
    cases q0 : valV kvs k with
    | some v0 => rw [q0] at q; exact False.elim q
    | none =>
      have hl2 : (putK kvs k z0).length ≤ sizeLine := by
        have := length_putK kvs k z0
        omega
      have hq : ∃ q, h'.get? a = some q := let ⟨q, _, _, hq, _⟩ := dd'; ⟨q, hq⟩
      exact ⟨z0, _, jd_write (t' := s3.toks + 1) J3 (by rw [hp]; exact True.intro) hs hq (dk_new hl2 hd (rel.put k rz) dd'), rz, q4 q0⟩
end
/-! ### blocks and small statements -/
section
variable {X : Cx} {st : Stmt} {rest : List Stmt} {t u : TS} {e : Expr} {te : TE} {pos : Pos}
theorem gps_nil : GPs X [] tNext := ⟨fun G pins s σ H D J h => wpAny_execs_nil ⟨σ, H, J, h⟩⟩
theorem gps_cons (h1 : GP X st t) (h2 : GPs X rest u) : GPs X (st :: rest) (tSeq t u) := by
  constructor
  intro G pins s σ H D J h
  refine wpAny_execs_cons (thn (h1.run G pins s σ H { D with nx := u D } J h) fun f s1 q => ?_)
  cases f with
  | next =>
    obtain ⟨σ', H', J', q⟩ := q
    exact h2.run G pins s1 σ' H' D J' q
  | ret v => exact q
  | brk => exact q
  | cont => exact q
theorem gps_one (h1 : GP X st t) : GPs X [st] t := by
  constructor
  intro G pins s σ H D J h
  refine wpAny_execs_cons (thn (h1.run G pins s σ H D J h) fun f s1 q => ?_)
  cases f with
  | next => exact wpAny_execs_nil q
  | ret v => exact q
  | brk => exact q
  | cont => exact q
theorem gp_pass : GP X (.Pass pos) tNext := ⟨fun G pins s σ H D J h => wpAny_Pass ⟨σ, H, J, h⟩⟩
theorem gp_expr (he : GE X e te) (hs : swapsWith e none pos.line X.env = pure false := by rfl) : GP X (.Expr e pos) (tDrop te) :=
  ⟨fun G pins s σ H D J h => wpAny_Expr_any (thn (he.run G pins s σ H _ J h) fun v s1 ⟨x, H1, J1, r1, q1⟩ => ⟨σ, H1, J1, q1⟩) J.iv.quiet hs⟩
theorem gp_ret (he : GE X e te) : GP X (.Return (some e) pos) (tRet te) :=
  ⟨fun G pins s σ H D J h => wpAny_Return_some (thn (he.run G pins s σ H _ J h) fun v s1 ⟨x, H1, J1, r1, q1⟩ => ⟨x, σ, H1, J1, r1, q1⟩)⟩
theorem gp_if {c : Expr} {a b : List Stmt} {tc : TT} (hc : GT X c tc) (ha : GPs X a t) (hb : GPs X b u) : GP X (.If c a b pos) (tIfS tc t u) := by
  constructor
  intro G pins s σ H D J h
  refine wpAny_If (thn (hc.run G pins s σ H _ J h) ?_)
  rintro d s1 ⟨H1, J1, q1⟩
  cases d with
  | true => exact ha.run G pins s1 σ H1 D J1 q1
  | false => exact hb.run G pins s1 σ H1 D J1 q1
theorem gp_never : GP X st tNever := ⟨fun G pins s σ H D J h => False.elim h⟩
theorem gps_never {sts : List Stmt} : GPs X sts tNever := ⟨fun G pins s σ H D J h => False.elim h⟩
end
/-! ### targets -/
structure GG (X : Cx) (target : Expr) (t : TG) : Prop where
  run : ∀ (G : Array GenState) (pins : List (Addr × Obj)) (s : Shared) (σ : St) (H : Hp) (v : V) (u : Value) (Q : St → Hp → Prop), JV X G pins σ H s → RelV v u → t v σ H Q →
    wpAny (model X.prog X.w) X.A (assign target X.env u) (fun _ s' => ∃ σ' H', JV X G pins σ' H' s' ∧ Q σ' H') NoX s
structure GGs (X : Cx) (ts : List Expr) (t : TGs) : Prop where
  run : ∀ (G : Array GenState) (pins : List (Addr × Obj)) (s : Shared) (σ : St) (H : Hp) (vs : List V) (us : List Value) (Q : St → Hp → Prop), JV X G pins σ H s → Vals vs us → t vs σ H Q →
    wpAny (model X.prog X.w) X.A (assignInOrder ((assignEach ts X.env).map (·.2)) us) (fun _ s' => ∃ σ' H', JV X G pins σ' H' s' ∧ Q σ' H') NoX s
/-- behind a store at a (the frame's dict, a cell): what doesn't hang on the map of names -/
theorem hok_off {X : Cx} {H : Hp} {s : Shared} {h' : Heap} {a : Addr} {oa : Obj} (hk : HOk X.prog X.w H s.heap) (ha : s.heap.get? a = some oa) (hn : H a = none) (hs : Heap.SameBut a s.heap h') : HOk X.prog X.w H h' := fun b ob e => by
  refine (hk b ob e).stay (fun c w' hc q => (hs.2 c ?_).trans q) (fun _ q => q) fun _ _ q => q
  intro z
  subst z
  rcases hc with z | hc
  · subst z; rw [hn] at e; cases e
  · rw [hn] at hc; cases hc
theorem un_off {X : Cx} {H : Hp} {s : Shared} {h' : Heap} {a : Addr} (u : Un X.fs X.ex X.H_0 H X.s_0.heap s.heap) (hs : Heap.SameBut a s.heap h') (lo : X.s_0.heap.objs.size ≤ a) : Un X.fs X.ex X.H_0 H X.s_0.heap h' := by
  have off : ∀ b o o', X.s_0.heap.get? b = some o → s.heap.get? b = some o' → h'.get? b = some o' := fun b o o' e e' =>
    (hs.2 b (Nat.ne_of_lt (Nat.lt_of_lt_of_le (Heap.lt_size e) lo))).trans e'
  refine ⟨fun b o e n hb hx => off b o _ e (u.keep b o e n hb hx), fun b o e n hb hx => ?_, u.free, fun b o e hx => ?_, u.tups, u.frzs, u.tbls⟩
  · obtain ⟨sl, e1⟩ := u.slot b o e n hb hx
    exact ⟨sl, off b o _ e e1⟩
  · obtain ⟨o1, e1⟩ := u.there b o e hx
    exact ⟨o1, off b o _ e e1⟩
theorem wp_store2 {X : Cx} {G : Array GenState} {pins : List (Addr × Obj)} {σ : St} {H : Hp} {s : Shared} {i : Nat} {x : Str} {v : V} {u : Value} {Q : Unit → Shared → Prop} (J : JV X G pins σ H s) (hN : X.N.Nodup) (hi : X.N[i]? = some x) (hx : Loc X.env.scope x) (r : RelV v u)
    (h : ∀ s' a, JV X G pins (σ.set i (some v)) H s' → Heap.SameBut a s.heap s'.heap → (a = X.env.locals ∨ X.env.cells.lookup x = some a) → Q () s') (hf : X.fn x = true ∨ X.env.scope.names.lookup x = some .local) : wpAny (model X.prog X.w) X.A (storeName X.env x u) Q NoX s := by
  have I := J.iv
  obtain ⟨m, hn, hl⟩ := id I.loc
  have hcls : (X.env.scope.kind == .class || (X.env.scope.kind == .module && X.env.locals != X.env.globals)) = false := by rw [I.ok.kind]; rfl
  have hiσ : i < σ.length := by rw [I.len]; exact (List.getElem?_eq_some_iff.mp hi).1
  have cne := I.cne
  rcases hx with hk | hk
  · refine wpAny_storeName_local hk hn (fun h' hn' hs => h _ _ ⟨?_, J.gs, J.nw⟩ hs (.inl rfl)) hcls
    obtain ⟨oL, _, _, hoL, _⟩ := id hn
    refine ⟨I.ok, I.os, I.bare, un_off I.base hs I.ok.above, ⟨_, hn', fun j y v' e1 e2 e3 => ?_⟩, fun y c e => ?_, I.free, I.freeC, fun p hp => ?_, hok_off I.hok hoL I.free hs, by simpa using I.len⟩
    · by_cases hj : j = i
      · subst hj
        rw [hi] at e1
        cases e1
        rw [List.getElem?_set_self hiσ] at e2
        cases e2
        exact ⟨u, r, .inl ⟨hk, by simp⟩⟩
      · rw [List.getElem?_set_ne (Ne.symm hj)] at e2
        obtain ⟨u', r', q⟩ := hl j y v' e1 e2 e3
        refine ⟨u', r', ?_⟩
        rcases q with ⟨k, e⟩ | ⟨k, c, e, z⟩
        · have hne : y ≠ x := fun e => hj (nodup_ix hN e1 (e ▸ hi))
          exact .inl ⟨k, by simp [hne, e]⟩
        · exact .inr ⟨k, c, e, z.sameBut hs (cne y c e)⟩
    · obtain ⟨w', z⟩ := I.cell y c e
      exact ⟨w', z.sameBut hs (cne y c e)⟩
    · obtain ⟨e, n, ne, nf, d⟩ := I.pin p hp
      exact ⟨(hs.2 p.1 ne).trans e, n, ne, nf, d⟩
  · have hfn : X.fn x = true := by
      rcases hf with z | z
      · exact z
      · rw [z] at hk; cases hk
    obtain ⟨c, hc⟩ := I.ok.has x (.inl hk)
    obtain ⟨w', z⟩ := I.cell x c hc
    obtain ⟨oc, hoc, hocd⟩ := id z
    have cab := I.ok.cab x c hfn hc
    refine wpAny_storeName_cell I.ok.kind hk hc z (fun h' hc' hs => h _ _ ⟨?_, J.gs, J.nw⟩ hs (.inr hc))
    refine ⟨I.ok, I.os, I.bare, un_off I.base hs cab, ⟨m, hn.sameBut hs (Ne.symm (cne x c hc)), fun j y v' e1 e2 e3 => ?_⟩, fun y c' e => ?_, I.free, I.freeC, fun p hp => ?_, hok_off I.hok hoc (I.freeC x c hc) hs, by simpa using I.len⟩
    · by_cases hj : j = i
      · subst hj
        rw [hi] at e1
        cases e1
        rw [List.getElem?_set_self hiσ] at e2
        cases e2
        exact ⟨u, r, .inr ⟨.inl hk, c, hc, hc'⟩⟩
      · rw [List.getElem?_set_ne (Ne.symm hj)] at e2
        obtain ⟨u', r', q⟩ := hl j y v' e1 e2 e3
        refine ⟨u', r', ?_⟩
        rcases q with q | ⟨k, c', e, z'⟩
        · exact .inl q
        · refine .inr ⟨k, c', e, z'.sameBut hs ?_⟩
          intro w
          subst w
          exact hj (nodup_ix hN e1 (I.ok.inj _ _ _ e hc ▸ hi))
    · by_cases hcc : c' = c
      · subst hcc; exact ⟨_, hc'⟩
      · obtain ⟨w2, z2⟩ := I.cell y c' e
        exact ⟨w2, z2.sameBut hs hcc⟩
    · obtain ⟨e, n, ne, nf, d⟩ := I.pin p hp
      refine ⟨(hs.2 p.1 fun q => ?_).trans e, n, ne, nf, d⟩
      rw [q, hoc] at e
      have q' : oc = p.2 := Option.some.inj e
      exact d w' (by rw [← q']; exact hocd)
theorem wp_store {X : Cx} {G : Array GenState} {pins : List (Addr × Obj)} {σ : St} {H : Hp} {s : Shared} {i : Nat} {x : Str} {v : V} {u : Value} {Q : Unit → Shared → Prop} (J : JV X G pins σ H s) (hN : X.N.Nodup) (hi : X.N[i]? = some x) (hx : Loc X.env.scope x) (r : RelV v u)
    (h : ∀ s', JV X G pins (σ.set i (some v)) H s' → Q () s') (hf : X.fn x = true ∨ X.env.scope.names.lookup x = some .local) : wpAny (model X.prog X.w) X.A (storeName X.env x u) Q NoX s :=
  wp_store2 J hN hi hx r (fun s' _ J' _ _ => h s' J') hf
section
variable {X : Cx} {pos : Pos}
theorem gg_name {i : Nat} {x : Str} (hN : X.N.Nodup) (hi : X.N[i]? = some x) (hx : Loc X.env.scope x) (hf : X.fn x = true ∨ X.env.scope.names.lookup x = some .local := by first | exact .inl rfl | exact .inr rfl | assumption) : GG X (.Name x pos) (gName i) :=
  ⟨fun G pins s σ H v u Q J r h => wpAny_assign_Name (wp_store J hN hi hx r (fun s' J' => ⟨_, H, J', h⟩) hf)⟩
theorem ggs_nil : GGs X [] gNil := by
  constructor
  rintro G pins s σ H vs us Q J r ⟨e, h⟩
  subst e
  cases r
  exact assignInOrder_nil ⟨σ, H, J, h⟩
theorem ggs_cons {e : Expr} {es : List Expr} {t : TG} {u : TGs} (h1 : GG X e t) (h2 : GGs X es u)
    (hs : (assignEach (e :: es) X.env).map (·.2) = assign e X.env :: (assignEach es X.env).map (·.2) := by rfl) : GGs X (e :: es) (gCons t u) := by
  constructor
  rintro G pins s σ H vs us Q J r ⟨v, vr, e1, h⟩
  subst e1
  cases r with
  | cons r rr =>
    rw [hs]
    refine assignInOrder_cons (thn (h1.run G pins s σ H _ _ _ J r h) ?_)
    rintro z s1 ⟨σ1, H1, J1, q1⟩
    exact h2.run G pins s1 σ1 H1 _ _ Q J1 rr q1
theorem gg_tup {es : List Expr} {k : Nat} {t : TGs} {n : Nat} (hc : X.calm = true) (h : GGs X es t)
    (hn : (assignEach es X.env).length = n := by rfl) (hst : (assignEach es X.env).findIdx? (·.1) = none := by rfl) : GG X (.Tuple es k pos) (gTup X.K n t) := by
  constructor
  rintro G pins s σ H v u Q J r ⟨a, xs, e1, hq, hl, hw⟩
  subst e1
  cases r
  obtain ⟨its, rv, ht, hz⟩ := J.iv.tuple hq
  refine assign_Tuple_tuple (J.iv.ok.hd hc) ht (by simp [hn, ← hl, rv.length]) hst fun h' hx => ?_
  have J1 : JV X G pins σ H { s with heap := h' } := J.kept (t' := s.toks) fun b o e => hx b o (Nat.ne_of_lt (Heap.lt_size e)) e
  exact h.run G pins _ σ H xs _ Q J1 (by simpa using rv) hw
theorem gp_set {i : Nat} {x : Str} {e : Expr} {te : TE} {pos' : Pos} (hN : X.N.Nodup) (hi : X.N[i]? = some x) (hx : Loc X.env.scope x) (he : GE X e te) (hs : swapsWith e (some (.Name x pos')) pos.line X.env = pure false := by rfl) (hf : X.fn x = true ∨ X.env.scope.names.lookup x = some .local := by first | exact .inl rfl | exact .inr rfl | assumption) :
    GP X (.Assign [.Name x pos'] e pos) (tAsg te (gName i)) := by
  constructor
  intro G pins s σ H D J h
  refine wpAny_Assign_Name (thn (he.run G pins s σ H _ J h) ?_) hs
  rintro v s1 ⟨y, H1, J1, r1, q1⟩
  exact wp_store J1 hN hi hx r1 (fun s2 J2 => ⟨_, H1, J2, q1⟩) hf
/-- targets in a row, one value -/
theorem gp_asg {tg e : Expr} {te : TE} {g : TG} (he : GE X e te) (hg : GG X tg g) (hs : swapsWithSole [tg] e pos.line X.env = pure false := by rfl) (hw : swappedStores [tg] e X.env = pure none := by rfl)
    (h1 : (assignEach [tg] X.env).map (·.2) = [assign tg X.env] := by rfl) : GP X (.Assign [tg] e pos) (tAsg te g) := by
  constructor
  intro G pins s σ H D J h
  refine wpAny_Assign_stores (thn (he.run G pins s σ H _ J h) ?_) hs hw
  rintro v s1 ⟨x, H1, J1, r1, q1⟩
  rw [h1]
  exact thn (hg.run G pins s1 σ H1 x v _ J1 r1 q1) fun _ s2 q => q
/-- d[k] = v -/
def gDSet (to ti : TE) : TG := fun v σ H Q => to σ H fun o H1 => ti σ H1 fun i H2 => ∃ a kvs k, o = .ref a ∧ i = kV k ∧ H2 a = some (.dK kvs) ∧ kvs.length < sizeLine ∧ Q σ (upd H2 a (.dK (putK kvs k v)))
theorem gg_dset {o i : Expr} {to ti : TE} (ho : GE X o to) (hi : GE X i ti)
    (ha : ∀ v, assign (.Subscript o i pos) X.env v = (do
      let ov ← holding [v] (eval o X.env)
      let iv ← holding [v, ov] (eval i X.env)
      standAt pos
      holding [v, ov, iv] (setItem ov iv v)
      release [v, ov, iv] []) := by intro _; rfl) : GG X (.Subscript o i pos) (gDSet to ti) := by
  constructor
  intro G pins s σ H v u Q J r h
  rw [ha]
  refine wpAny_bind (wpAny_holding (thn (ho.run G pins s σ H _ J h) ?_))
  rintro ov s1 ⟨x, H1, J1, r1, q1⟩
  refine wpAny_bind (wpAny_holding (thn (hi.run G pins s1 σ H1 _ J1 q1) ?_))
  rintro iv s2 ⟨y, H2, J2, r2, a, kvs, k, rfl, rfl, hp, hl, q2⟩
  cases r1
  refine wpAny_bind (wpAny_standAt (wpAny_bind (wpAny_holding ?_)))
  obtain ⟨z, hd, vs, rel, dd⟩ := dk_of J2.iv.hok hp
  have hzv : vs.length ≤ sizeLine := by rw [← rel.length]; exact z
  have hl2 : (putK kvs k v).length ≤ sizeLine := by have := length_putK kvs k v; omega
  refine wpAny_setItem_pairs (hsz := hzv) (kV_is r2) dd fun h' dd' hs => wpAny_release ⟨σ, _, ?_, q2⟩
  have he : ∃ q, h'.get? a = some q := let ⟨q, _, _, hq, _⟩ := dd'; ⟨q, hq⟩
  exact jd_write J2 (by rw [hp]; exact True.intro) hs he (dk_new hl2 hd (rel.put k r) dd')
/-- a op= b at a name, ints -/
theorem gp_addI {i : Nat} {x : Str} {e : Expr} {te : TE} {pos' : Pos} (hN : X.N.Nodup) (hi : X.N[i]? = some x) (hx : Loc X.env.scope x) (he : GE X e te) (hf : X.fn x = true ∨ X.env.scope.names.lookup x = some .local := by first | exact .inl rfl | exact .inr rfl | assumption) :
    GP X (.AugAssign (.Name x pos') .Add e pos) (tAug i te (ipI fun i j => i + j)) := by
  constructor
  rintro G pins s σ H D J ⟨v, e1, h⟩
  obtain ⟨m, hn, hl⟩ := J.iv.loc
  have vis : Vis X.env.scope x := by rcases hx with k | k; exact .inl k; exact .inr (.inl k)
  obtain ⟨u, r, l⟩ := hl i x v hi e1 vis
  refine wpAny_AugAssign_Name ?_
  have go : wpAny (model X.prog X.w) X.A (eval e X.env) (fun w s₂ => wpAny (model X.prog X.w) X.A (inplaceOp .Add u w) (fun r s₃ => wpAny (model X.prog X.w) X.A (storeName X.env x r) (fun _ => JS X G pins D .next) NoX s₃) NoX s₂) NoX s := by
    refine thn (he.run G pins s σ H _ J h) ?_
    rintro w s1 ⟨y, H1, J1, r1, a, b, rfl, rfl, q1⟩
    obtain ⟨t, rfl⟩ := r
    obtain ⟨t', rfl⟩ := r1
    exact iadd_int (wp_store (v := .int (a + b)) (J1.tok _) hN hi hx ⟨_, rfl⟩ (fun s3 J3 => ⟨_, H1, J3, q1⟩) hf)
  rcases l with ⟨hk, hm⟩ | ⟨hk, c, hc, hcell⟩
  · exact wpAny_loadName_local J.iv.ok.kind hk hn hm go
  · rcases hk with hk | hk
    · exact wpAny_loadName_cell J.iv.ok.kind hk hc hcell go
    · have hk' : X.env.scope.names.lookup x = some .free := hk
      rcases hx with k | k <;> (rw [k] at hk'; cases hk')
end
end KN
/-! Loops and comprehensions that keep the generators' table. -/
namespace KN
open PySem PySem.Spec PyProof.Rows L2
theorem passNo {M : Model} {A : Around} {env : Env} : PassesOwn M A env NoX := PassesOwn.never
/-- from no exception to any wish -/
theorem anyE {α : Type} {t : Sem α} {Q Q' : α → Shared → Prop} {M : Model} {A : Around} {E : Value → Shared → Prop} {s : Shared} (h : wpAny M A t Q NoX s) (hQ : ∀ a s, Q a s → Q' a s) : wpAny M A t Q' E s := wpAny_mono h hQ fun _ _ z => False.elim z
section
variable {X : Cx} {pos : Pos}
theorem gp_while {c : Expr} {body : List Stmt} {tc : TT} {tb : TS} (hc : GT X c tc) (hb : GPs X body tb) : GP X (.While c body [] pos) (tWhile tc tb) := by
  constructor
  rintro G pins s σ H D J ⟨W, ⟨m0, w0⟩, turn⟩
  refine wpAny_While (codeAny_whileLoop (fun n s' => ∃ σ' H', JV X G pins σ' H' s' ∧ W n σ' H') ?_ m0 ⟨σ, H, J, w0⟩)
  rintro n s1 ⟨σ1, H1, J1, w1⟩
  refine anyE (hc.run G pins s1 σ1 H1 _ J1 (turn n σ1 H1 w1)) ?_
  rintro b s2 ⟨H2, J2, q2⟩
  cases b with
  | true =>
    obtain ⟨N, hN, q2⟩ := q2
    rw [if_pos rfl]
    refine anyE (hb.run G pins s2 σ1 H2 _ J2 q2) fun f s3 q3 => ?_
    cases f with
    | next =>
      obtain ⟨σ3, H3, J3, n3⟩ := q3
      obtain ⟨m', hm, w3⟩ := hN σ3 H3 n3
      exact ⟨m', hm, σ3, H3, J3, w3⟩
    | cont =>
      obtain ⟨σ3, H3, J3, n3⟩ := q3
      obtain ⟨m', hm, w3⟩ := hN σ3 H3 n3
      exact ⟨m', hm, σ3, H3, J3, w3⟩
    | brk => exact q3
    | ret v => exact q3
  | false =>
    rw [if_neg Bool.false_ne_true]
    exact wpAny_execs_nil ⟨σ1, H2, J2, q2⟩
end
/-! ### iterators of one record -/
structure GTurn (P : Program) (w : World) (K : PySem.W.Frag) (tg : Expr) (It : It) (it : Addr) (tn : Nat → Heap → Prop) : Prop where
  obj : ∀ i h, tn i h → ∃ o, h.get? it = some o ∧ ∀ v, o.data ≠ .cell v
  keep : ∀ i h h', tn i h → (∀ o, h.get? it = some o → h'.get? it = some o) → tn i h'
  item : ∀ (X : Cx), X.prog = P → X.w = w → X.K = K → X.calm = true → ∀ (i : Nat) (G : Array GenState) (pins : List (Addr × Obj)) (s : Shared) (σ : St) (H : Hp), JV X G pins σ H s → FpOk X pins H it → tn i s.heap → It.go i H →
    wpAny (model P w) X.A (pyNext (.ref it)) (fun r s1 => ∃ u, r = some u ∧
      wpAny (model P w) X.A (letOwnedTupleGo tg (.ref it) u) (fun _ s2 => ∃ x H', JV X G pins σ H' s2 ∧ RelV x u ∧ It.yld i H x H' ∧ tn (i + 1) s2.heap ∧ H' it = none) NoX s1) NoX s
  done : ∀ (X : Cx), X.prog = P → X.w = w → X.K = K → X.calm = true → ∀ (i : Nat) (G : Array GenState) (pins : List (Addr × Obj)) (s : Shared) (σ : St) (H : Hp), JV X G pins σ H s → FpOk X pins H it → tn i s.heap → It.stop i H →
    wpAny (model P w) X.A (pyNext (.ref it)) (fun r s1 => r = none ∧ JV X G pins σ H s1) NoX s
  self : ∀ (A : Around) (i : Nat) (s : Shared) (Q : Value → Shared → Prop) (E : Value → Shared → Prop), tn i s.heap → Q (.ref it) s → wpAny (model P w) A (pyIter (.ref it)) Q E s
theorem gturn_list {P : Program} {w : World} {K : PySem.W.Frag} {tg : Expr} (a it : Addr) : GTurn P w K tg (Itl K a) it (fun i h => h.IsListIter it a i) where
  obj := by
    rintro i h ⟨o, e, c, d⟩
    exact ⟨o, e, fun v z => by rw [d] at z; cases z⟩
  keep := fun i h h' st k => st.at fun o e => k o e
  item := by
    rintro X rfl rfl rfl hc i G pins s σ H J hf st ⟨xs, x, hq, hx⟩
    obtain ⟨its, rv, p, hz⟩ := J.iv.list hq
    obtain ⟨u, hu, ru⟩ := rv.get hx
    refine wpAny_pyNext_list_item st p.isList (x := u) (by simpa using hu) fun h' st' sb => ?_
    have J1 : JV X G pins σ H { s with heap := h' } := J.turned (t' := s.toks) (fun b o hb e => (sb.2 b hb).trans e) hf
    obtain ⟨o, e, c, d⟩ := id st'
    exact ⟨u, rfl, go_of (s := { s with heap := h' }) e c d (by decide) ⟨x, H, J1, ru, ⟨rfl, fun ys hy => by rw [J.iv.list_inj hy hq]; exact hx⟩, st', hf.1⟩⟩
  done := by
    rintro X rfl rfl rfl hc i G pins s σ H J hf st ⟨xs, hq, hx⟩
    obtain ⟨its, rv, p, hz⟩ := J.iv.list hq
    have hl := rv.length
    exact wpAny_pyNext_list_end (J.iv.ok.hd hc) st p.isList (by simp; omega) fun h' eb => ⟨rfl, J.turned (t' := s.toks) (fun b o hb e => eb b o hb e) hf⟩
  self := fun _ _ _ _ _ st h => wpAny_pyIter_listiter st h
theorem gturn_rev {P : Program} {w : World} {K : PySem.W.Frag} {tg : Expr} (a it : Addr) (n : Nat) : GTurn P w K tg (Itv K a n) it (fun i h => i ≤ n ∧ h.IsRevIter it a ((n : Int) - 1 - (i : Nat))) where
  obj := by
    rintro i h ⟨_, o, e, c, d⟩
    exact ⟨o, e, fun v z => by rw [d] at z; cases z⟩
  keep := fun i h h' st k => ⟨st.1, st.2.at fun o e => k o e⟩
  item := by
    rintro X rfl rfl rfl hc i G pins s σ H J hf ⟨_, hit⟩ ⟨hin, xs, x, hq, hx⟩
    obtain ⟨its, rv, p, hz⟩ := J.iv.list hq
    obtain ⟨u, hu, ru⟩ := rv.get hx
    have e1 : (n : Int) - 1 - ((i : Nat) : Int) = ((n - 1 - i : Nat) : Int) := by omega
    rw [e1] at hit
    refine wpAny_pyNext_rev_item hit p.isList (x := u) (by simpa using hu) fun h' st' sb => ?_
    have e2 : ((n - 1 - i : Nat) : Int) - 1 = (n : Int) - 1 - ((i + 1 : Nat) : Int) := by omega
    rw [e2] at st'
    have J1 : JV X G pins σ H { s with heap := h' } := J.turned (t' := s.toks) (fun b o hb e => (sb.2 b hb).trans e) hf
    obtain ⟨o, e, c, d⟩ := id st'
    exact ⟨u, rfl, go_of (s := { s with heap := h' }) e c d (by decide) ⟨x, H, J1, ru, ⟨rfl, fun ys hy => by rw [J.iv.list_inj hy hq]; exact hx⟩, ⟨hin, st'⟩, hf.1⟩⟩
  done := by
    rintro X rfl rfl rfl hc i G pins s σ H J hf ⟨hin, hit⟩ hg
    have hge : n ≤ i := hg
    have e1 : (n : Int) - 1 - ((i : Nat) : Int) = -1 := by omega
    rw [e1] at hit
    exact wpAny_pyNext_rev_end (J.iv.ok.hd hc) hit fun h' eb => ⟨rfl, J.turned (t' := s.toks) (fun b o hb e => eb b o hb e) hf⟩
  self := fun A i s Q E st h => wpAny_pyIter_revIter st.2 h
theorem gturn_range {P : Program} {w : World} {K : PySem.W.Frag} {tg : Expr} (it : Addr) (lo : Int) (n : Nat) : GTurn P w K tg (Itr lo n) it (fun i h => IsRangeIter h it (lo + (i : Nat) * 1) ((n : Int) - (i : Nat)) 1) where
  obj := by
    intro i h st
    exact ⟨_, st, fun v z => by
      have z' : Data.fields _ = Data.cell v := z
      cases z'⟩
  keep := fun i h h' st k => k _ st
  item := by
    rintro X rfl rfl rfl hc i G pins s σ H J hf st hg
    have W := Walks.range (prog := X.prog) (w := X.w) (J.iv.ok.hd hc) it lo 1 n
    refine W.item i s _ _ hg st fun v h' tk hv st' kk => ?_
    obtain ⟨t, rfl⟩ := hv
    have J1 : JV X G pins σ H { s with heap := h', toks := tk } := J.turned (fun b o hb e => kk b o (by simpa using hb) e) hf
    refine ⟨_, rfl, go_of (s := { s with heap := h', toks := tk }) (n := "range_iterator") st' rfl rfl (by decide) ⟨.int (lo + i), H, J1, ⟨t, ?_⟩, ⟨rfl, rfl⟩, st', hf.1⟩⟩
    rw [Int.mul_one]
  done := by
    rintro X rfl rfl rfl hc i G pins s σ H J hf st hg
    exact wpAny_pyNext_range_end (J.iv.ok.hd hc) st (by have : n ≤ i := hg; omega) fun h' eb => ⟨rfl, J.turned (t' := s.toks) (fun b o hb e => eb b o hb e) hf⟩
  self := fun _ _ _ _ _ st h => wpAny_pyIter_rangeiter st h
/-- an iterator has come -/
def GIE (X : Cx) (G : Array GenState) (pins : List (Addr × Obj)) (σ : St) (tg : Expr) (R : It → Hp → Prop) (itv : Value) (s2 : Shared) : Prop :=
  ∃ (it : Addr) (tn : Nat → Heap → Prop) (I : It) (H' : Hp), itv = .ref it ∧ JV X G pins σ H' s2 ∧ GTurn X.prog X.w X.K tg I it tn ∧ tn 0 s2.heap ∧ FpOk X pins H' it ∧ R I H'
structure GI (X : Cx) (tg iter : Expr) (wi : TI) : Prop where
  run : ∀ (G : Array GenState) (pins : List (Addr × Obj)) (s : Shared) (σ : St) (H : Hp) (R : It → Hp → Prop), JV X G pins σ H s → wi σ H R →
    wpAny (model X.prog X.w) X.A (eval iter X.env) (fun v s1 => wpAny (model X.prog X.w) X.A (pyIter v) (GIE X G pins σ tg R) NoX s1) NoX s
section
variable {X : Cx} {tg : Expr} {pos : Pos}
theorem JV.fpNew {G : Array GenState} {pins : List (Addr × Obj)} {σ : St} {H : Hp} {s : Shared} (J : JV X G pins σ H s) : FpOk X pins H s.heap.objs.size := J.iv.fpOk (Nat.le_refl _) J.fresh
theorem gi_list {l : Expr} {tl : TE} (hl : GE X l tl) : GI X tg l (iList X.K tl) := by
  constructor
  intro G pins s σ H R J h
  refine thn (hl.run G pins s σ H _ J h) ?_
  rintro v s1 ⟨x, H1, J1, r1, a, e, ⟨xs, hq⟩, q⟩
  subst e
  cases r1
  obtain ⟨its, rv, p, hz⟩ := J1.iv.list hq
  refine wpAny_pyIter_list p.isList ?_
  exact ⟨s1.heap.objs.size, _, _, H1, rfl, J1.kept (t' := s1.toks) fun b o e => Heap.get?_push_of_some _ e, gturn_list a _, ⟨_, Heap.get?_push_size _ rfl, rfl, rfl⟩, J1.fpNew, q⟩
theorem gi_reversed {e : Expr} {ta : TA} {p pos : Pos} (hg : Gl X "reversed") (hm : X.mg "reversed" = none) (ha : GA X [e] ta) (hs : starEach [e] X.env = [(false, eval e X.env)] := by rfl) : GI X tg (.Call (.Name "reversed" p) [e] [] pos) (iRev X.K ta) := by
  constructor
  intro G pins s σ H R J h
  refine Call_ (ld_blt J.iv hg hm PyProof.Rows.boot_reversed (PyProof.Rows.callWith_type1 (thn (ha.run pos G pins s σ H _ J h) ?_) hs rfl))
  rintro us s1 ⟨vs, H1, J1, r1, a, xs, e, hq, q⟩
  subst e
  cases r1 with
  | cons r rr =>
    cases rr
    cases r
    obtain ⟨its, rv, p', hz⟩ := J1.iv.list hq
    have hl := rv.length
    have e1 : ((its.toArray.size : Nat) : Int) - 1 = (xs.length : Int) - 1 - ((0 : Nat) : Int) := by simp only [List.size_toArray]; omega
    refine call_reversed_list p'.isList (wpAny_pyIter_revIter (l := a) (i := ((its.toArray.size : Nat) : Int) - 1) ⟨_, Heap.get?_push_size _ rfl, rfl, rfl⟩ ?_)
    refine ⟨s1.heap.objs.size, _, _, H1, rfl, J1.kept (t' := s1.toks) fun b o e => Heap.get?_push_of_some _ e, gturn_rev a _ xs.length, ⟨Nat.zero_le _, ?_⟩, J1.fpNew, q⟩
    rw [← e1]
    exact ⟨_, Heap.get?_push_size _ rfl, rfl, rfl⟩
theorem grange_it {G : Array GenState} {pins : List (Addr × Obj)} {σ : St} {H : Hp} {s : Shared} {R : It → Hp → Prop} {lo hi : Int} {t u v : Tok} {tk : Nat} (J : JV X G pins σ H s) (h1 : -(2 ^ 62) ≤ lo) (h2 : lo < 2 ^ 62) (h3 : -(2 ^ 62) ≤ hi) (h4 : hi < 2 ^ 62)
    (q : R (Itr lo (hi - lo).toNat) H) : wpAny (model X.prog X.w) X.A (pyIter (.ref s.heap.objs.size)) (GIE X G pins σ tg R) NoX { s with heap := s.heap.push { cls := .type "range", data := .fields #[.int lo t, .int hi u, .int 1 v] }, toks := tk } := by
  refine wpAny_pyIter_range (IsRange.new ..) (small_one h1 h2 h3 h4) ?_
  have J1 : JV X G pins σ H { s with heap := s.heap.push { cls := .type "range", data := .fields #[.int lo t, .int hi u, .int 1 v] }, toks := tk } := J.kept fun b o e => Heap.get?_push_of_some _ e
  refine ⟨_, _, _, H, rfl, J1.kept (t' := tk) fun b o e => Heap.get?_push_of_some _ e, gturn_range _ lo (hi - lo).toNat, ?_, J1.fpNew, q⟩
  have e1 : lo + ((0 : Nat) : Int) * 1 = lo := by simp
  have e2 : (((hi - lo).toNat : Nat) : Int) - ((0 : Nat) : Int) = Builtin.Range.rangeSize lo hi 1 := by rw [rangeSize_one]; split <;> omega
  show IsRangeIter _ _ (lo + ((0 : Nat) : Int) * 1) ((((hi - lo).toNat : Nat) : Int) - ((0 : Nat) : Int)) 1
  rw [e1, e2]
  exact Heap.get?_push_size _ rfl
theorem gi_range1 {a : Expr} {ta : TA} {p pos : Pos} (hg : Gl X "range") (hm : X.mg "range" = none) (ha : GA X [a] ta) (hs : starEach [a] X.env = [(false, eval a X.env)] := by rfl) : GI X tg (.Call (.Name "range" p) [a] [] pos) (iRng1 ta) := by
  constructor
  intro G pins s σ H R J h
  refine Call_ (ld_blt J.iv hg hm boot_range (PyProof.Rows.callWith_type1 (thn (ha.run pos G pins s σ H _ J h) ?_) hs rfl))
  rintro us s1 ⟨vs, H1, J1, r1, j, e, q1, q2, q⟩
  subst e
  cases r1 with
  | cons r rr =>
    cases rr
    obtain ⟨t, rfl⟩ := r
    exact call_range_1 (grange_it J1 (by omega) (by omega) q1 q2 (by simpa using q))
theorem JV.pinned {G : Array GenState} {pins : List (Addr × Obj)} {σ : St} {H : Hp} {s : Shared} {it : Addr} (J : JV X G pins σ H s) (hf : FpOk X pins H it) (ho : ∃ o, s.heap.get? it = some o ∧ ∀ v, o.data ≠ .cell v) : JV X G (pins ++ pinsAt [it] s.heap) σ H s := by
  refine ⟨J.iv.pinned (fun b hb => ?_) (fun b hb => ?_), J.gs, J.nw⟩
  · rw [List.mem_singleton.mp hb]; exact hf
  · rw [List.mem_singleton.mp hb]; exact ho
theorem gp_for {iter : Expr} {body : List Stmt} {wi : TI} {g : TG} {tb : TS} (hc : X.calm = true) (hi : GI X tg iter wi) (hg : GG X tg g) (hb : GPs X body tb)
    (hs : ∀ x, foldedSetIterable iter X.env x = pure x := by intro _; rfl) : GP X (.For tg iter body [] pos) (tFor wi g tb) := by
  constructor
  intro G pins s σ H D J h
  refine wpAny_For (thn (hi.run G pins s σ H _ J h) fun v s1 h1 => thn h1 ?_) hs
  rintro itv s2 ⟨it, tn, I, H2, e, J2, T, st2, f2, W, ⟨m0, w0⟩, turn⟩
  subst e
  have stat : ∀ {H' : Hp}, H' it = none → FpOk X pins H' it := fun hn => ⟨hn, f2.2⟩
  refine codeAny_forLoop_any (fun n s' => ∃ i σ' H', JV X G pins σ' H' s' ∧ tn i s'.heap ∧ H' it = none ∧ W i n σ' H') ?_ m0 ⟨0, σ, H2, J2, st2, f2.1, w0⟩
  rintro n s3 ⟨i, σ3, H3, J3, st3, fr3, w3⟩
  rcases turn i n σ3 H3 w3 with ⟨stop, qn⟩ | ⟨go, N, hN, step⟩
  · refine anyE (T.done X rfl rfl rfl hc i G pins s3 σ3 H3 J3 (stat fr3) st3 stop) ?_
    rintro r s4 ⟨hr, J4⟩
    subst hr
    exact wpAny_execs_nil ⟨σ3, H3, J4, qn⟩
  · refine anyE (T.item X rfl rfl rfl hc i G pins s3 σ3 H3 J3 (stat fr3) st3 go) ?_
    rintro r s4 ⟨u, hr, h4⟩
    subst hr
    refine anyE h4 ?_
    rintro _ s5 ⟨x, H5, J5, r5, y5, st5, fr5⟩
    obtain ⟨o5, eo5, d5⟩ := T.obj _ _ st5
    have J5' := J5.pinned (stat fr5) ⟨o5, eo5, d5⟩
    have inp : (it, o5) ∈ X.pn ++ (pins ++ pinsAt [it] s5.heap) := List.mem_append_right _ (List.mem_append_right _ (mem_pinsAt (List.mem_singleton.mpr rfl) eo5))
    refine anyE (hg.run G _ s5 σ3 H5 x u _ J5' r5 (step x H5 y5)) ?_
    rintro _ s6 ⟨σ6, H6, J6, q6⟩
    refine anyE (hb.run G _ s6 σ6 H6 _ J6 q6) fun f s7 q7 => ?_
    have again : ∀ {σ7 : St} {H7 : Hp}, JV X G (pins ++ pinsAt [it] s5.heap) σ7 H7 s7 → N σ7 H7 → ∃ m, m < n ∧ ∃ i σ' H', JV X G pins σ' H' s7 ∧ tn i s7.heap ∧ H' it = none ∧ W i m σ' H' := fun {σ7 H7} J7 n7 => by
      obtain ⟨m', hm, w7⟩ := hN σ7 H7 n7
      have pp := J7.iv.pin (it, o5) inp
      exact ⟨m', hm, i + 1, σ7, H7, ⟨J7.iv.unpinned, J7.gs, J7.nw⟩, T.keep _ _ _ st5 fun o e => by rw [eo5] at e; cases e; exact pp.1, pp.2.1, w7⟩
    cases f with
    | next => obtain ⟨σ7, H7, J7, n7⟩ := q7; exact again J7 n7
    | cont => obtain ⟨σ7, H7, J7, n7⟩ := q7; exact again J7 n7
    | brk => obtain ⟨σ7, H7, J7, q7⟩ := q7; exact ⟨σ7, H7, ⟨J7.iv.unpinned, J7.gs, J7.nw⟩, q7⟩
    | ret v => obtain ⟨x7, σ7, H7, J7, r7, q7⟩ := q7; exact ⟨x7, σ7, H7, ⟨J7.iv.unpinned, J7.gs, J7.nw⟩, r7, q7⟩
/-! ### comprehensions -/
structure GTs (X : Cx) (ifs : List Expr) (t : TT) : Prop where
  run : ∀ (G : Array GenState) (pins : List (Addr × Obj)) (s : Shared) (σ : St) (H : Hp) (Q : Bool → Hp → Prop), JV X G pins σ H s → t σ H Q →
    wpAny (model X.prog X.w) X.A (forIn ifs true fun c r => if r = true then do let ok ← isTrue c X.env (eval c X.env); pure (ForInStep.yield ok) else pure (ForInStep.yield r)) (JT X G pins σ Q) NoX s
theorem gts_nil : GTs X [] tYes := ⟨fun G pins s σ H Q J h => wpAny_tests_nil ⟨H, J, h⟩⟩
theorem gts_one {c : Expr} {t : TT} (h : GT X c t) : GTs X [c] t := ⟨fun G pins s σ H Q J hw => wpAny_tests_one (h.run G pins s σ H Q J hw)⟩
/-- an item goes to the new list -/
theorem japp {G : Array GenState} {pins : List (Addr × Obj)} {σ : St} {H : Hp} {s : Shared} {E : Value → Shared → Prop} {D : Addr} {xs : List V} {y : V} {v : Value} {Q : Value → Shared → Prop} (J : JV X G pins σ H s) (hD : H D = some (.lst xs)) (hz : xs.length < sizeLine) (r : RelV y v)
    (h : ∀ s', JV X G pins σ (upd H D (.lst (xs ++ [y]))) s' → Q .none s') : wpAny (model X.prog X.w) X.A (call (.builtin "list.append") [.ref D, v]) Q E s := by
  obtain ⟨hz', its, n, ri, e⟩ := J.iv.hok D _ hD
  have hl := ri.length
  refine append_at (hsz := by rw [List.size_toArray]; omega) e fun h' sb ho' => ?_
  refine h { s with heap := h' } (J.write (t' := s.toks) (by rw [hD]; trivial) (.inl rfl) (fun b u hb q => (sb.2 b hb).trans q) ⟨_, ho'⟩ ⟨by rw [List.length_append]; exact hz, its ++ [v], n + 1, ri.append (.cons r .nil), ?_⟩)
  rw [ho']
  simp
theorem jset {G : Array GenState} {pins : List (Addr × Obj)} {σ : St} {H : Hp} {s : Shared} {E : Value → Shared → Prop} {D : Addr} {kvs : List (Key × V)} {k : Key} {v : V} {u r : Value} {Q : Unit → Shared → Prop} (J : JV X G pins σ H s) (hD : H D = some (.dK kvs)) (hz : kvs.length < sizeLine)
    (ry : RelV (kV k) u) (rv : RelV v r) (h : ∀ s', JV X G pins σ (upd H D (.dK (putK kvs k v))) s' → Q () s') : wpAny (model X.prog X.w) X.A (dictSet D u r) Q E s := by
  obtain ⟨z, hd, vs, rel, dd⟩ := dk_of J.iv.hok hD
  have hzv : vs.length ≤ sizeLine := by rw [← rel.length]; exact z
  have hl : (putK kvs k v).length ≤ sizeLine := by have := length_putK kvs k v; omega
  refine wpAny_dictSet_pairs (hsz := hzv) (kV_is ry) dd fun h' dd' hs => h _ ?_
  have he : ∃ q, h'.get? D = some q := let ⟨q, _, _, hq, _⟩ := dd'; ⟨q, hq⟩
  exact jd_write J (by rw [hD]; exact True.intro) hs he (dk_new hl hd (rel.put k rv) dd')
end
end KN
/-! Comprehensions that keep the generators' table. -/
namespace KN
open PySem PySem.Spec PyProof.Rows L2
section
variable {X : Cx} {tg iter : Expr} {ifs : List Expr} {scope : Scope} {own : List (Str × Nat)} {pos pos' : Pos} {wi : TI} {g : TG} {tt : TT}
/-- the block's cells, its env -/
abbrev bcl (X : Cx) (scope : Scope) (n : Nat) : List (Str × Addr) := cellsFrom (n + 1) scope.names (cloFrom X.env.cells scope.names [])
abbrev benv (X : Cx) (scope : Scope) (n : Nat) : Env := compEnvC scope (bcl X scope n) n X.env
/-- the block starts: what is known of the iterator there -/
theorem block_open {G : Array GenState} {pins : List (Addr × Obj)} {s : Shared} {σ : St} {H : Hp} {it : Addr} (J : JV X G pins σ H s) (ok : BlkOk X.N X.env.scope scope own) (hN : X.N.Nodup) (hf : FpOk X pins H it) (hlt : it < s.heap.objs.size) :
    JV (X.blk s H scope (benv X scope s.heap.objs.size) [it]) G [] (wipe σ (own.map (·.2))) H { s with heap := pushCells (s.heap.push { cls := .type "dict", data := .dict #[] }) scope.names } :=
  ⟨block_start J.iv ok hN fun b hb => by rw [List.mem_singleton.mp hb]; exact ⟨hf, hlt⟩, J.gs, fun b _ e => e⟩
theorem blk_fp {G : Array GenState} {s : Shared} {σ' : St} {H H' : Hp} {s' : Shared} {ce : Env} {it : Addr} (J : JV (X.blk s H scope ce [it]) G [] σ' H' s') (hn : H' it = none) : FpOk (X.blk s H scope ce [it]) [] H' it := by
  have hm : it ∈ [it] := List.mem_singleton.mpr rfl
  exact ⟨hn, (J.iv.ok.exf it hm).1, J.iv.ok.exfs it hm, .inl hm, fun x c e => (J.iv.ok.exf it hm).2 x c e, fun p hp => absurd (show p ∈ ([] : List (Addr × Obj)) ++ [] from hp) (by simp)⟩
/-- back in the def -/
theorem blk_back {G : Array GenState} {pins : List (Addr × Obj)} {s s' : Shared} {σ σ' : St} {H H' : Hp} {ce : Env} {it : Addr} (J : JV X G pins σ H s) (hf : FpOk X pins H it) (J' : JV (X.blk s H scope ce [it]) G [] σ' H' s') : JV X G pins σ H' s' := by
  refine ⟨J.iv.call' (ch := [it]) J'.iv.os J'.iv.base J'.iv.hok J'.iv.bare fun b hb => ?_, J'.gs, fun b hb e => J'.nw b (Nat.lt_of_lt_of_le hb J.iv.sz) (J.nw b hb e)⟩
  rw [List.mem_singleton.mp hb]
  exact ⟨hf.2.2.2.1, hf.2.1, hf.2.2.2.2.1, hf.2.2.2.2.2⟩
theorem clo_free {s : Shared} {pins : List (Addr × Obj)} {σ : St} {H : Hp} (I : Inv X pins σ H s) (ok : BlkOk X.N X.env.scope scope own) : ∀ y ∈ scope.names, y.2 = .free → ∃ c, X.env.cells.lookup y.1 = some c := fun y hy e => by
  rcases ok.free y hy e with k | k
  · exact I.ok.has _ (.inl k)
  · exact I.ok.has _ (.inr k)
/-- a turn's end in a block: from a state under the pin of the iterator, back to the loop's invariant -/
theorem blk_again {G : Array GenState} {s s7 s' : Shared} {H0 H' : Hp} {σ σ8 : St} {ce : Env} {it : Addr} {o7 : Obj} {vs : List Nat} (J : JV (X.blk s H0 scope ce [it]) G ([] ++ pinsAt [it] s7.heap) σ8 H' s') (e7 : s7.heap.get? it = some o7)
    (hw : wipe σ8 vs = wipe σ vs) : JV (X.blk s H0 scope ce [it]) G [] (wipe σ vs) H' s' ∧ s'.heap.get? it = some o7 ∧ H' it = none := by
  have inp : (it, o7) ∈ (X.blk s H0 scope ce [it]).pn ++ ([] ++ pinsAt [it] s7.heap) := List.mem_append_right _ (List.mem_append_right _ (mem_pinsAt (List.mem_singleton.mpr rfl) e7))
  have pp := J.iv.pin (it, o7) inp
  have hl : (wipe σ vs).length = σ8.length := by rw [← hw, wipe_length]
  refine ⟨⟨(J.iv.unpinned (pins := [])).weak hl (fun j v e => ?_), J.gs, J.nw⟩, pp.1, pp.2.1⟩
  rw [← hw] at e
  exact (wipe_some e).1
theorem jlc_core {G : Array GenState} {pins : List (Addr × Obj)} {s : Shared} {σ : St} {H : Hp} {Q : VK} {elt : Expr} {te : TE} {use : Option (Value → Sem Unit)} {Qf : Value → Shared → Prop}
    (hc : X.calm = true) (hN : X.N.Nodup) (J : JV X G pins σ H s) (hi : GI X tg iter wi) (ok : BlkOk X.N X.env.scope scope own)
    (hg : ∀ (s : Shared) (H : Hp) (C : Addr) (cl : List (Str × Addr)) (fp : List Addr), GG (X.blk s H scope (compEnvC scope cl C X.env) fp) tg g) (ht : ∀ (s : Shared) (H : Hp) (C : Addr) (cl : List (Str × Addr)) (fp : List Addr), GTs (X.blk s H scope (compEnvC scope cl C X.env) fp) ifs tt)
    (he : ∀ (s : Shared) (H : Hp) (C : Addr) (cl : List (Str × Addr)) (fp : List Addr), GE (X.blk s H scope (compEnvC scope cl C X.env) fp) elt te) (hs : ∀ x, foldedSetIterable iter X.env x = pure x)
    (h : tLc wi g tt te (own.map (·.2)) σ H Q)
    (hRR : ∀ D C s' m H', JV X G pins σ H' s' → Q (.ref D) H' → s'.heap.Ns C m → FpOk X pins H' C → compPost (model X.prog X.w) X.A NoX use Qf (.ref D) C (.ok .next) s') :
    wpAny (model X.prog X.w) X.A (comprehension (.ListComp elt [⟨tg, iter, ifs, 0⟩] scope pos) scope X.env pos' (newList []) false (eval iter X.env) use) Qf NoX s := by
  refine wpAny_comprehension_free (use := use) rfl hs (closure_ok (clo_free J.iv ok)) ok.kind (fun y hy e => by rw [ok.uniq y hy, e])
    (thn (hi.run G pins s σ H _ J h) fun xv s1 hx => thn hx ?_)
  rintro itv s2 ⟨it, tn, I, H2, e, J2, T, st2, f2, q⟩
  subst e
  refine wpAny_newObj_type (newEnv_comp ?_) (by show 0 ≤ sizeLine; decide)
  generalize hD : s2.heap.objs.size = D
  have hDn : H2 D = none := J2.iv.hok.fresh (Nat.le_of_eq hD)
  obtain ⟨W, ⟨m0, w0⟩, turn⟩ := q D hDn
  generalize hs3 : ({ s2 with heap := s2.heap.push { cls := .type "list", data := .seq ([] : List Value).toArray } } : Shared) = s3
  have J3 : JV X G pins σ (upd H2 D (.lst [])) s3 := by
    rw [← hs3]
    refine J2.laid (t' := s2.toks) (fun b o e => Heap.get?_push_of_some _ e) (Nat.le_of_eq hD) ⟨Nat.zero_le _, [], 0, .nil, ?_⟩
    rw [← hD]
    exact Heap.get?_push_size _ rfl
  have h3 : s3.heap = s2.heap.push { cls := .type "list", data := .seq ([] : List Value).toArray } := by rw [← hs3]
  obtain ⟨o2, eo2, _⟩ := T.obj _ _ st2
  have hlt := Heap.lt_size eo2
  have f3 : FpOk X pins (upd H2 D (.lst [])) it := ⟨by rw [upd_ne (by rw [← hD]; exact Nat.ne_of_lt hlt)]; exact f2.1, f2.2⟩
  have l3 : it < s3.heap.objs.size := by rw [h3, Heap.size_push]; exact Nat.lt_succ_of_lt hlt
  have st3 : tn 0 s3.heap := T.keep _ _ _ st2 fun o e => by rw [h3]; exact Heap.get?_push_of_some _ e
  have J4 := block_open J3 ok hN f3 l3
  have pg : GG (X.blk s3 (upd H2 D (.lst [])) scope (benv X scope s3.heap.objs.size) [it]) tg g := hg _ _ _ _ _
  have pt : GTs (X.blk s3 (upd H2 D (.lst [])) scope (benv X scope s3.heap.objs.size) [it]) ifs tt := ht _ _ _ _ _
  have pe : GE (X.blk s3 (upd H2 D (.lst [])) scope (benv X scope s3.heap.objs.size) [it]) elt te := he _ _ _ _ _
  show codeAny _ _ (.compStart (.ListComp elt [⟨tg, iter, ifs, 0⟩] scope pos) 0 (.ref it) (.ref D) (benv X scope s3.heap.objs.size)) (compPost (model X.prog X.w) X.A NoX use Qf (.ref D) s3.heap.objs.size) { s3 with heap := pushCells (s3.heap.push { cls := .type "dict", data := .dict #[] }) scope.names }
  have nfp : (upd H2 D (.lst [])) it = none := f3.1
  have hce0 : (benv X scope s3.heap.objs.size).locals = s3.heap.objs.size := rfl
  generalize hce : benv X scope s3.heap.objs.size = ce at J4 pg pt pe hce0 ⊢
  generalize hH3 : upd H2 D (.lst []) = H3 at J3 J4 pg pt pe w0 nfp f3
  generalize hs4 : ({ s3 with heap := pushCells (s3.heap.push { cls := .type "dict", data := .dict #[] }) scope.names } : Shared) = s4 at J4 ⊢
  have st4 : tn 0 s4.heap := T.keep _ _ _ st3 fun o e => by rw [← hs4]; exact pushCells_keeps _ _ _ _ (Heap.get?_push_of_some _ e)
  have loop : codeAny (model X.prog X.w) X.A (.compLoop (.ListComp elt [⟨tg, iter, ifs, 0⟩] scope pos) 0 (.ref it) (.ref D) ce) (compPost (model X.prog X.w) X.A NoX use Qf (.ref D) s3.heap.objs.size) s4 := by
    refine compLoop_any (fun n s' => ∃ i H', JV (X.blk s3 H3 scope ce [it]) G [] (wipe σ (own.map (·.2))) H' s' ∧ tn i s'.heap ∧ H' it = none ∧ W i n H') ?_ m0 ⟨0, H3, J4, st4, nfp, w0⟩
    rintro n s5 ⟨i, H5, J5, st5, n5, w5⟩
    rcases turn i n H5 w5 with ⟨stop, qq⟩ | ⟨go, Nx, hNx, step⟩
    · refine anyE (T.done (X.blk s3 H3 scope ce [it]) rfl rfl rfl hc i G [] s5 _ H5 J5 (blk_fp J5 n5) st5 stop) ?_
      rintro r s6 ⟨hr, J6⟩
      subst hr
      have J7 := blk_back J3 f3 J6
      have nC : H5 s3.heap.objs.size = none := by
        have z : H5 ce.locals = none := J6.iv.free
        rw [hce0] at z
        exact z
      obtain ⟨m, hn, _⟩ := J6.iv.loc
      have hn : s6.heap.Ns ce.locals m := hn
      rw [hce0] at hn
      exact hRR D s3.heap.objs.size s6 m H5 J7 qq hn (J3.iv.fpOk (Nat.le_refl _) nC)
    · refine anyE (T.item (X.blk s3 H3 scope ce [it]) rfl rfl rfl hc i G [] s5 _ H5 J5 (blk_fp J5 n5) st5 go) ?_
      rintro r s6 ⟨u, hr, h6⟩
      subst hr
      refine anyE h6 ?_
      rintro _ s7 ⟨x, H7, J7, r7, y7, st7, n7⟩
      obtain ⟨o7, e7, d7⟩ := T.obj _ _ st7
      have J7' := J7.pinned (blk_fp J7 n7) ⟨o7, e7, d7⟩
      refine anyE (pg.run G _ s7 _ H7 x u _ J7' r7 (step x H7 y7)) ?_
      rintro _ s8 ⟨σ8, H8, J8, hw8, q8⟩
      refine anyE (pt.run G _ s8 σ8 H8 _ J8 q8) ?_
      rintro b s9 ⟨H9, J9, q9⟩
      have fin : ∀ {s' : Shared} {H' : Hp}, JV (X.blk s3 H3 scope ce [it]) G ([] ++ pinsAt [it] s7.heap) σ8 H' s' → Nx H' → ∃ m, m < n ∧ ∃ i H', JV (X.blk s3 H3 scope ce [it]) G [] (wipe σ (own.map (·.2))) H' s' ∧ tn i s'.heap ∧ H' it = none ∧ W i m H' := fun {s' H'} J' nx => by
        obtain ⟨m', hm, w'⟩ := hNx H' nx
        obtain ⟨a1, a2, a3⟩ := blk_again J' e7 hw8
        exact ⟨m', hm, i + 1, H', a1, T.keep _ _ _ st7 fun o e => by rw [e7] at e; cases e; exact a2, a3, w'⟩
      cases b with
      | false =>
        simp only [Bool.false_eq_true, if_false] at q9 ⊢
        exact fin J9 q9
      | true =>
        simp only [if_true] at q9 ⊢
        refine anyE (pe.run G _ s9 σ8 H9 _ J9 q9) ?_
        rintro z s10 ⟨yv, H10, J10, r10, acc, hD10, hz10, nx⟩
        exact japp (X := X.blk s3 H3 scope ce [it]) J10 hD10 hz10 r10 fun s11 J11 => fin J11 nx
  exact codeAny_compStart_list loop (T.self X.A 0 _ _ _ st4 loop)
theorem ge_lc {elt : Expr} {te : TE} (hc : X.calm = true) (hN : X.N.Nodup) (hi : GI X tg iter wi) (ok : BlkOk X.N X.env.scope scope own)
    (hg : ∀ (s : Shared) (H : Hp) (C : Addr) (cl : List (Str × Addr)) (fp : List Addr), GG (X.blk s H scope (compEnvC scope cl C X.env) fp) tg g) (ht : ∀ (s : Shared) (H : Hp) (C : Addr) (cl : List (Str × Addr)) (fp : List Addr), GTs (X.blk s H scope (compEnvC scope cl C X.env) fp) ifs tt)
    (he : ∀ (s : Shared) (H : Hp) (C : Addr) (cl : List (Str × Addr)) (fp : List Addr), GE (X.blk s H scope (compEnvC scope cl C X.env) fp) elt te) (hs : ∀ x, foldedSetIterable iter X.env x = pure x := by intro _; rfl) :
    GE X (.ListComp elt [⟨tg, iter, ifs, 0⟩] scope pos) (tLc wi g tt te (own.map (·.2))) := by
  constructor
  intro G pins s σ H Q J h
  rw [eval_ListComp]
  refine jlc_core hc hN J hi ok hg ht he hs h ?_
  intro D C s' m H' J' q hn f
  exact ⟨m, hn, fun h'' sb => ⟨.ref D, H', J'.turned (t' := s'.toks) (fun b o hb e => (sb.2 b hb).trans e) f, rfl, q⟩⟩
/-- name = [..] on one line, a local name -/
theorem gp_setLc {i : Nat} {y : Str} {py spos : Pos} {elt : Expr} {te : TE} (hc : X.calm = true) (hN : X.N.Nodup) (hy : X.N[i]? = some y) (hyl : X.env.scope.names.lookup y = some .local)
    (hsw : swapsWith (.ListComp elt [⟨tg, iter, ifs, 0⟩] scope pos) (some (.Name y py)) spos.line X.env = pure true) (hi : GI X tg iter wi) (ok : BlkOk X.N X.env.scope scope own)
    (hg : ∀ (s : Shared) (H : Hp) (C : Addr) (cl : List (Str × Addr)) (fp : List Addr), GG (X.blk s H scope (compEnvC scope cl C X.env) fp) tg g) (ht : ∀ (s : Shared) (H : Hp) (C : Addr) (cl : List (Str × Addr)) (fp : List Addr), GTs (X.blk s H scope (compEnvC scope cl C X.env) fp) ifs tt)
    (he : ∀ (s : Shared) (H : Hp) (C : Addr) (cl : List (Str × Addr)) (fp : List Addr), GE (X.blk s H scope (compEnvC scope cl C X.env) fp) elt te) (hs : ∀ x, foldedSetIterable iter X.env x = pure x := by intro _; rfl) :
    GP X (.Assign [.Name y py] (.ListComp elt [⟨tg, iter, ifs, 0⟩] scope pos) spos) (tAsg (tLc wi g tt te (own.map (·.2))) (gName i)) := by
  constructor
  intro G pins s σ H D J h
  rw [exec_Assign_Name_used _ _ _ _ hsw]
  refine wpAny_bind (wpAny_standAt (wpAny_bind ?_))
  show wpAny _ X.A (do let _ ← comprehension (.ListComp elt [⟨tg, iter, ifs, 0⟩] scope pos) scope X.env (firstIterPos [⟨tg, iter, ifs, 0⟩] pos) (newList []) false (eval iter X.env) (some (assign (.Name y py) X.env))) _ _ s
  have h : tLc wi g tt te (own.map (·.2)) σ H (fun x H1 => gName i x σ H1 D.nx) := h
  refine wpAny_bind (thn (jlc_core (Qf := fun _ s' => JS X G pins D .next s') hc hN J hi ok hg ht he hs h ?_) fun _ s' hq => wpAny_pure (wpAny_pure hq))
  intro L C s' m H' J' q hn f
  show wpAny _ _ (assign (.Name y py) X.env (.ref L)) _ _ _
  refine wpAny_assign_Name (wp_store2 (v := V.ref L) J' hN hy (.inl hyl) rfl (fun s2 a J2 sb ha => ?_) (.inr hyl))
  have haC : C ≠ a := by
    rcases ha with z | z
    · rw [z]; exact f.2.1
    · exact fun e => f.2.2.2.2.1 y a z e.symm
  exact ⟨m, hn.sameBut sb haC, fun h3 sb3 => ⟨_, H', J2.turned (t' := s2.toks) (fun b o hb e => (sb3.2 b hb).trans e) f, q⟩⟩
theorem jdc_core {G : Array GenState} {pins : List (Addr × Obj)} {s : Shared} {σ : St} {H : Hp} {Q : VK} {kx vx : Expr} {tk tv : TE} {use : Option (Value → Sem Unit)} {Qf : Value → Shared → Prop}
    (hc : X.calm = true) (hN : X.N.Nodup) (J : JV X G pins σ H s) (hi : GI X tg iter wi) (ok : BlkOk X.N X.env.scope scope own)
    (hg : ∀ (s : Shared) (H : Hp) (C : Addr) (cl : List (Str × Addr)) (fp : List Addr), GG (X.blk s H scope (compEnvC scope cl C X.env) fp) tg g) (ht : ∀ (s : Shared) (H : Hp) (C : Addr) (cl : List (Str × Addr)) (fp : List Addr), GTs (X.blk s H scope (compEnvC scope cl C X.env) fp) ifs tt)
    (hk : ∀ (s : Shared) (H : Hp) (C : Addr) (cl : List (Str × Addr)) (fp : List Addr), GE (X.blk s H scope (compEnvC scope cl C X.env) fp) kx tk)
    (he : ∀ (s : Shared) (H : Hp) (C : Addr) (cl : List (Str × Addr)) (fp : List Addr), GE (X.blk s H scope (compEnvC scope cl C X.env) fp) vx tv) (hs : ∀ x, foldedSetIterable iter X.env x = pure x)
    (h : tDc wi g tt tk tv (own.map (·.2)) σ H Q)
    (hRR : ∀ D C s' m H', JV X G pins σ H' s' → Q (.ref D) H' → s'.heap.Ns C m → FpOk X pins H' C → compPost (model X.prog X.w) X.A NoX use Qf (.ref D) C (.ok .next) s') :
    wpAny (model X.prog X.w) X.A (comprehension (.DictComp kx vx [⟨tg, iter, ifs, 0⟩] scope pos) scope X.env pos' newDict false (eval iter X.env) use) Qf NoX s := by
  refine wpAny_comprehension_free (use := use) rfl hs (closure_ok (clo_free J.iv ok)) ok.kind (fun y hy e => by rw [ok.uniq y hy, e])
    (thn (hi.run G pins s σ H _ J h) fun xv s1 hx => thn hx ?_)
  rintro itv s2 ⟨it, tn, I, H2, e, J2, T, st2, f2, q⟩
  subst e
  refine wpAny_newObj_type (newEnv_comp ?_)
  generalize hD : s2.heap.objs.size = D
  have hDn : H2 D = none := J2.iv.hok.fresh (Nat.le_of_eq hD)
  obtain ⟨W, ⟨m0, w0⟩, turn⟩ := q D hDn
  generalize hs3 : ({ s2 with heap := s2.heap.push { cls := .type "dict", data := .dict #[] } } : Shared) = s3
  have J3 : JV X G pins σ (upd H2 D (.dK [])) s3 := by
    rw [← hs3]
    refine J2.laid (t' := s2.toks) (fun b o e => Heap.get?_push_of_some _ e) (Nat.le_of_eq hD) ?_
    rw [← hD]
    exact dk_empty s2.heap J2.iv.big
  have h3 : s3.heap = s2.heap.push { cls := .type "dict", data := .dict #[] } := by rw [← hs3]
  obtain ⟨o2, eo2, _⟩ := T.obj _ _ st2
  have hlt := Heap.lt_size eo2
  have f3 : FpOk X pins (upd H2 D (.dK [])) it := ⟨by rw [upd_ne (by rw [← hD]; exact Nat.ne_of_lt hlt)]; exact f2.1, f2.2⟩
  have l3 : it < s3.heap.objs.size := by rw [h3, Heap.size_push]; exact Nat.lt_succ_of_lt hlt
  have st3 : tn 0 s3.heap := T.keep _ _ _ st2 fun o e => by rw [h3]; exact Heap.get?_push_of_some _ e
  have J4 := block_open J3 ok hN f3 l3
  have pg : GG (X.blk s3 (upd H2 D (.dK [])) scope (benv X scope s3.heap.objs.size) [it]) tg g := hg _ _ _ _ _
  have pt : GTs (X.blk s3 (upd H2 D (.dK [])) scope (benv X scope s3.heap.objs.size) [it]) ifs tt := ht _ _ _ _ _
  have pk : GE (X.blk s3 (upd H2 D (.dK [])) scope (benv X scope s3.heap.objs.size) [it]) kx tk := hk _ _ _ _ _
  have pe : GE (X.blk s3 (upd H2 D (.dK [])) scope (benv X scope s3.heap.objs.size) [it]) vx tv := he _ _ _ _ _
  show codeAny _ _ (.compStart (.DictComp kx vx [⟨tg, iter, ifs, 0⟩] scope pos) 0 (.ref it) (.ref D) (benv X scope s3.heap.objs.size)) (compPost (model X.prog X.w) X.A NoX use Qf (.ref D) s3.heap.objs.size) { s3 with heap := pushCells (s3.heap.push { cls := .type "dict", data := .dict #[] }) scope.names }
  have nfp : (upd H2 D (.dK [])) it = none := f3.1
  have hce0 : (benv X scope s3.heap.objs.size).locals = s3.heap.objs.size := rfl
  generalize hce : benv X scope s3.heap.objs.size = ce at J4 pg pt pk pe hce0 ⊢
  generalize hH3 : upd H2 D (.dK []) = H3 at J3 J4 pg pt pk pe w0 nfp f3
  generalize hs4 : ({ s3 with heap := pushCells (s3.heap.push { cls := .type "dict", data := .dict #[] }) scope.names } : Shared) = s4 at J4 ⊢
  have st4 : tn 0 s4.heap := T.keep _ _ _ st3 fun o e => by rw [← hs4]; exact pushCells_keeps _ _ _ _ (Heap.get?_push_of_some _ e)
  have loop : codeAny (model X.prog X.w) X.A (.compLoop (.DictComp kx vx [⟨tg, iter, ifs, 0⟩] scope pos) 0 (.ref it) (.ref D) ce) (compPost (model X.prog X.w) X.A NoX use Qf (.ref D) s3.heap.objs.size) s4 := by
    refine compLoop_anyD (fun n s' => ∃ i H', JV (X.blk s3 H3 scope ce [it]) G [] (wipe σ (own.map (·.2))) H' s' ∧ tn i s'.heap ∧ H' it = none ∧ W i n H') ?_ m0 ⟨0, H3, J4, st4, nfp, w0⟩
    rintro n s5 ⟨i, H5, J5, st5, n5, w5⟩
    rcases turn i n H5 w5 with ⟨stop, qq⟩ | ⟨go, Nx, hNx, step⟩
    · refine anyE (T.done (X.blk s3 H3 scope ce [it]) rfl rfl rfl hc i G [] s5 _ H5 J5 (blk_fp J5 n5) st5 stop) ?_
      rintro r s6 ⟨hr, J6⟩
      subst hr
      have J7 := blk_back J3 f3 J6
      have nC : H5 s3.heap.objs.size = none := by
        have z : H5 ce.locals = none := J6.iv.free
        rw [hce0] at z
        exact z
      obtain ⟨m, hn, _⟩ := J6.iv.loc
      have hn : s6.heap.Ns ce.locals m := hn
      rw [hce0] at hn
      exact hRR D s3.heap.objs.size s6 m H5 J7 qq hn (J3.iv.fpOk (Nat.le_refl _) nC)
    · refine anyE (T.item (X.blk s3 H3 scope ce [it]) rfl rfl rfl hc i G [] s5 _ H5 J5 (blk_fp J5 n5) st5 go) ?_
      rintro r s6 ⟨u, hr, h6⟩
      subst hr
      refine anyE h6 ?_
      rintro _ s7 ⟨x, H7, J7, r7, y7, st7, n7⟩
      obtain ⟨o7, e7, d7⟩ := T.obj _ _ st7
      have J7' := J7.pinned (blk_fp J7 n7) ⟨o7, e7, d7⟩
      refine anyE (pg.run G _ s7 _ H7 x u _ J7' r7 (step x H7 y7)) ?_
      rintro _ s8 ⟨σ8, H8, J8, hw8, q8⟩
      refine anyE (pt.run G _ s8 σ8 H8 _ J8 q8) ?_
      rintro b s9 ⟨H9, J9, q9⟩
      have fin : ∀ {s' : Shared} {H' : Hp}, JV (X.blk s3 H3 scope ce [it]) G ([] ++ pinsAt [it] s7.heap) σ8 H' s' → Nx H' → ∃ m, m < n ∧ ∃ i H', JV (X.blk s3 H3 scope ce [it]) G [] (wipe σ (own.map (·.2))) H' s' ∧ tn i s'.heap ∧ H' it = none ∧ W i m H' := fun {s' H'} J' nx => by
        obtain ⟨m', hm, w'⟩ := hNx H' nx
        obtain ⟨a1, a2, a3⟩ := blk_again J' e7 hw8
        exact ⟨m', hm, i + 1, H', a1, T.keep _ _ _ st7 fun o e => by rw [e7] at e; cases e; exact a2, a3, w'⟩
      cases b with
      | false =>
        simp only [Bool.false_eq_true, if_false] at q9 ⊢
        exact fin J9 q9
      | true =>
        simp only [if_true] at q9 ⊢
        refine anyE (pk.run G _ s9 σ8 H9 _ J9 q9) ?_
        rintro z s10 ⟨yk, H10, J10, r10, q10⟩
        refine anyE (pe.run G _ s10 σ8 H10 _ J10 q10) ?_
        rintro z2 s11 ⟨yv, H11, J11, r11, kvs, k, ek, hD11, hz11, nx⟩
        subst ek
        exact jset (X := X.blk s3 H3 scope ce [it]) J11 hD11 hz11 r10 r11 fun s12 J12 => fin J12 nx
  exact codeAny_compStart_dict loop (T.self X.A 0 _ _ _ st4 loop)
theorem ge_dc {kx vx : Expr} {tk tv : TE} (hc : X.calm = true) (hN : X.N.Nodup) (hi : GI X tg iter wi) (ok : BlkOk X.N X.env.scope scope own)
    (hg : ∀ (s : Shared) (H : Hp) (C : Addr) (cl : List (Str × Addr)) (fp : List Addr), GG (X.blk s H scope (compEnvC scope cl C X.env) fp) tg g) (ht : ∀ (s : Shared) (H : Hp) (C : Addr) (cl : List (Str × Addr)) (fp : List Addr), GTs (X.blk s H scope (compEnvC scope cl C X.env) fp) ifs tt)
    (hk : ∀ (s : Shared) (H : Hp) (C : Addr) (cl : List (Str × Addr)) (fp : List Addr), GE (X.blk s H scope (compEnvC scope cl C X.env) fp) kx tk)
    (he : ∀ (s : Shared) (H : Hp) (C : Addr) (cl : List (Str × Addr)) (fp : List Addr), GE (X.blk s H scope (compEnvC scope cl C X.env) fp) vx tv) (hs : ∀ x, foldedSetIterable iter X.env x = pure x := by intro _; rfl) :
    GE X (.DictComp kx vx [⟨tg, iter, ifs, 0⟩] scope pos) (tDc wi g tt tk tv (own.map (·.2))) := by
  constructor
  intro G pins s σ H Q J h
  rw [arm_eval_DictComp]
  refine jdc_core hc hN J hi ok hg ht hk he hs h ?_
  intro D C s' m H' J' q hn f
  exact ⟨m, hn, fun h'' sb => ⟨.ref D, H', J'.turned (t' := s'.toks) (fun b o hb e => (sb.2 b hb).trans e) f, rfl, q⟩⟩
/-- name = {..} on one line, a local name -/
theorem gp_setDc {i : Nat} {y : Str} {py spos : Pos} {kx vx : Expr} {tk tv : TE} (hc : X.calm = true) (hN : X.N.Nodup) (hy : X.N[i]? = some y) (hyl : X.env.scope.names.lookup y = some .local)
    (hsw : swapsWith (.DictComp kx vx [⟨tg, iter, ifs, 0⟩] scope pos) (some (.Name y py)) spos.line X.env = pure true) (hi : GI X tg iter wi) (ok : BlkOk X.N X.env.scope scope own)
    (hg : ∀ (s : Shared) (H : Hp) (C : Addr) (cl : List (Str × Addr)) (fp : List Addr), GG (X.blk s H scope (compEnvC scope cl C X.env) fp) tg g) (ht : ∀ (s : Shared) (H : Hp) (C : Addr) (cl : List (Str × Addr)) (fp : List Addr), GTs (X.blk s H scope (compEnvC scope cl C X.env) fp) ifs tt)
    (hk : ∀ (s : Shared) (H : Hp) (C : Addr) (cl : List (Str × Addr)) (fp : List Addr), GE (X.blk s H scope (compEnvC scope cl C X.env) fp) kx tk)
    (he : ∀ (s : Shared) (H : Hp) (C : Addr) (cl : List (Str × Addr)) (fp : List Addr), GE (X.blk s H scope (compEnvC scope cl C X.env) fp) vx tv) (hs : ∀ x, foldedSetIterable iter X.env x = pure x := by intro _; rfl) :
    GP X (.Assign [.Name y py] (.DictComp kx vx [⟨tg, iter, ifs, 0⟩] scope pos) spos) (tAsg (tDc wi g tt tk tv (own.map (·.2))) (gName i)) := by
  constructor
  intro G pins s σ H D J h
  rw [exec_Assign_Name_used _ _ _ _ hsw]
  refine wpAny_bind (wpAny_standAt (wpAny_bind ?_))
  show wpAny _ X.A (do let _ ← comprehension (.DictComp kx vx [⟨tg, iter, ifs, 0⟩] scope pos) scope X.env (firstIterPos [⟨tg, iter, ifs, 0⟩] pos) newDict false (eval iter X.env) (some (assign (.Name y py) X.env))) _ _ s
  have h : tDc wi g tt tk tv (own.map (·.2)) σ H (fun x H1 => gName i x σ H1 D.nx) := h
  refine wpAny_bind (thn (jdc_core (Qf := fun _ s' => JS X G pins D .next s') hc hN J hi ok hg ht hk he hs h ?_) fun _ s' hq => wpAny_pure (wpAny_pure hq))
  intro L C s' m H' J' q hn f
  show wpAny _ _ (assign (.Name y py) X.env (.ref L)) _ _ _
  refine wpAny_assign_Name (wp_store2 (v := V.ref L) J' hN hy (.inl hyl) rfl (fun s2 a J2 sb ha => ?_) (.inr hyl))
  have haC : C ≠ a := by
    rcases ha with z | z
    · rw [z]; exact f.2.1
    · exact fun e => f.2.2.2.2.1 y a z e.symm
  exact ⟨m, hn.sameBut sb haC, fun h3 sb3 => ⟨_, H', J2.turned (t' := s2.toks) (fun b o hb e => (sb3.2 b hb).trans e) f, q⟩⟩
theorem swD_true {kx vx : Expr} {gs : List Comprehension} {py : Pos} {y : Str} {l : Nat} {env : Env} (hk : env.scope.kind = .function) (hy : env.scope.names.lookup y = some .local) (hl : (py.line == pos.line) = true)
    (ha : (scope.names.any fun (n, k) => n == y && (k == .local || k == .cell)) = false) : swapsWith (.DictComp kx vx gs scope pos) (some (.Name y py)) l env = pure true := by
  have ky : env.kindOf y = some .local := hy
  have hb : env.blockKind = .function := by unfold Env.blockKind; rw [hk]; rfl
  unfold swapsWith
  simp only [hb, ky, ha, Expr.pos, hl]
  rfl
end
end KN
/-! One stretch of a generator's run, from a stop to the next; what stays while it sleeps. -/
namespace KN
open PySem PySem.Spec PyProof.Rows L2
/-! ### a stretch -/
def SG (M : Model) (A : Around) (Φ : End → Shared → Prop) (c : Code) (t : Sem PySem.Fin) (fs : List Frame) (s : Shared) : Prop :=
  ∀ Γ p, Γ.code = c → Γ.Woken A → ∃ e s', Runs M Γ p t fs s e s' ∧ (e.quiet = true ∧ Φ e s')
/-- a sleeping generator goes on (or begins) -/
def Go1 (M : Model) (A : Around) (Φ : End → Shared → Prop) (gs : GenState) (s : Shared) : Prop :=
  match gs with
  | .fresh c => SG M A Φ c (M.den c) [] s
  | .suspended k _ c _ fs _ => SG M A Φ c (k (.send .none)) fs s
  | _ => False
section
variable {M : Model} {A : Around} {Φ : End → Shared → Prop} {c : Code} {fs : List Frame} {s : Shared}
theorem sg_wrap {α : Type} {m : Sem α} {K : α → Sem PySem.Fin} {H : Value → Sem PySem.Fin} {gd : Bool → Bool} {lv : List Value → List Value}
    (h : wpAny M (A.over c fs) m (fun a s' => SG M A Φ c (K a) fs s') (fun x s' => SG M A Φ c (H x) fs s') s) : SG M A Φ c (m.wrap K H gd lv) fs s := by
  rintro Γ p rfl hΓ
  exact runs_wrap_of_wp K H gd lv m (h (Γ.over fs) p (hΓ.over fs)) (fun a p' s' h' => h' Γ p' rfl hΓ) (fun x p' s' h' => h' Γ p' rfl hΓ)
theorem sg_at {p' : Pos} {k : Unit → Sem PySem.Fin} (h : SG M A Φ c (k ()) fs s) : SG M A Φ c (.at p' k) fs s :=
  sg_wrap (m := standAt p') (K := k) (H := .raise) (gd := id) (lv := id) (wpAny_standAt h)
theorem sg_point {l : List Value} {k : Unit → Sem PySem.Fin} (h : SG M A Φ c (k ()) fs s) : SG M A Φ c (.point l k) fs s :=
  sg_wrap (m := point) (K := k) (H := .raise) (gd := id) (lv := fun _ => l) (wpAny_point h)
theorem sg_call {c' : Code} {h : Option Value} {g : Bool} {l : List Value} {k : Result → Sem PySem.Fin} (hc : ∀ p, SG M A Φ c' (M.den c') (.ret k h g l c p [] :: fs) s) : SG M A Φ c (.call c' h g l k) fs s := by
  rintro Γ p rfl hΓ
  obtain ⟨e, s', hr, he⟩ := hc p (Γ.goto c') p rfl (hΓ.goto c')
  exact ⟨e, s', runs_call_seg hr, he⟩
theorem sg_leaf {k : Result → Sem PySem.Fin} {h : Option Value} {g : Bool} {l kp : List Value} {c₁ : Code} {p₁ : Pos} (r : Result) (hk : SG M A Φ c₁ (k r) fs s) : SG M A Φ c (leafOf r) (.ret k h g l c₁ p₁ kp :: fs) s := by
  rintro Γ p rfl hΓ
  obtain ⟨e, s', hr, he⟩ := hk (Γ.goto c₁) p₁ rfl (hΓ.goto c₁)
  exact ⟨e, s', Runs.pop r hr, he⟩
theorem sg_again {c' : Code} (hq : c'.quiet = true) (hc : SG M A Φ c' (M.den c') fs s) : SG M A Φ c (.pure (.again c')) fs s := by
  rintro Γ p rfl hΓ
  obtain ⟨e, s', hr, he⟩ := hc (Γ.goto c') p rfl (hΓ.goto c')
  exact ⟨e, s', Runs.head (c₁ := c') (fun _ _ x => .again hq x) hr, he⟩
theorem sg_end (r : Result) (h : Φ (.ret r) s) : SG M A Φ c (leafOf r) [] s := by
  rintro Γ p rfl _
  exact ⟨.ret r, s, Runs.leaf r, rfl, h⟩
theorem sg_yield {v : Value} {l : List Value} {k : Resume → Sem PySem.Fin} (hfs : splitAtGen fs = none) (hfg : fs.any Frame.guarded = false)
    (h : ∀ p, Φ (.susp v false l k c p fs) s) : SG M A Φ c (.yield v false l k) fs s := by
  rintro Γ p rfl _
  exact ⟨_, s, Runs.yield' fs hfs, by simp [End.quiet, hfg], h p⟩
theorem SG.imp {Φ' : End → Shared → Prop} {t : Sem PySem.Fin} (h : SG M A Φ c t fs s) (hi : ∀ e s', Φ e s' → Φ' e s') : SG M A Φ' c t fs s := fun Γ p h1 h2 =>
  let ⟨e, s', hr, hq, hp⟩ := h Γ p h1 h2
  ⟨e, s', hr, hq, hi e s' hp⟩
theorem Go1.imp {Φ' : End → Shared → Prop} {gs : GenState} (h : Go1 M A Φ gs s) (hi : ∀ e s', Φ e s' → Φ' e s') : Go1 M A Φ' gs s := by
  cases gs with
  | fresh c => exact SG.imp h hi
  | suspended k l c p fs cl => exact SG.imp h hi
  | running => exact False.elim h
  | finished => exact False.elim h
/-- the resumption, for one stretch -/
theorem wp_resume1 {α : Type} {E : Value → Shared → Prop} {g : Nat} {gs : GenState} {l : List Value} {k : GenResult → Sem α} {Q : α → Shared → Prop} (hg : s.gens[g]? = some gs)
    (hgo : Go1 M A Φ gs (s.setGen g .running)) (hk : ∀ e s₁, e.quiet = true → Φ e s₁ → wpAny M A (k e.result) Q E (s₁.setGen g e.genState)) : wpAny M A (.resume g (.send .none) l k) Q E s := by
  intro Γ p hΓ
  rw [Sem.wp_resume]
  have hB : ∀ c, (Γ.wake c p).Woken A := fun c => hΓ.wake c p
  cases gs with
  | fresh c =>
    obtain ⟨e, s₁, hr, hq, hp⟩ := (show SG M A Φ c (M.den c) [] (s.setGen g .running) from hgo) (Γ.wake c p) p rfl (hB c)
    exact ⟨_, _, by unfold Wakes; rw [hg]; exact ⟨e, s₁, hr, hq, rfl, rfl⟩, hk e s₁ hq hp Γ p hΓ⟩
  | suspended k₀ l₀ c₀ p₀ fs₀ cl =>
    obtain ⟨e, s₁, hr, hq, hp⟩ := (show SG M A Φ c₀ (k₀ (.send .none)) fs₀ (s.setGen g .running) from hgo) (Γ.wake c₀ p) p₀ rfl (hB c₀)
    exact ⟨_, _, by unfold Wakes; rw [hg]; exact ⟨e, s₁, hr, hq, rfl, rfl⟩, hk e s₁ hq hp Γ p hΓ⟩
  | running => exact False.elim hgo
  | finished => exact False.elim hgo
end
/-! ### the statements that hand out or hold one that does -/
section
variable {prog : Program} {w : World} {A : Around} {Φ : End → Shared → Prop} {c : Code} {fs : List Frame} {s : Shared} {env : Env} {K : Flow → Sem PySem.Fin} {H : Value → Sem PySem.Fin} {gd : Bool → Bool} {lv : List Value → List Value}
theorem sg_cons {st : Stmt} {rest : List Stmt} {M : Model}
    (h : SG M A Φ c ((exec st env).wrap (fun f => match f with | .next => (execs rest env).wrap K H gd lv | f => K f) H gd lv) fs s) : SG M A Φ c ((execs (st :: rest) env).wrap K H gd lv) fs s := by rw [execs_cons_wrap]; exact h
theorem sg_While {test : Expr} {body : List Stmt} {pos : Pos} {M : Model}
    (h : ∀ p k, (∀ f, k (.ok f) = K f) → SG M A Φ (.whileLoop test body [] env) (M.den (.whileLoop test body [] env)) (.ret k none (gd false) (lv []) c p [] :: fs) s) :
    SG M A Φ c ((exec (.While test body [] pos) env).wrap K H gd lv) fs s :=
  sg_at (sg_call fun p => h p _ fun f => rfl)
/-- a turn of the loop; nothing is raised in the test -/
theorem sg_whileLoop {test : Expr} {body : List Stmt}
    (h : ∀ J : Value → Sem PySem.Fin, wpAny (model prog w) (A.over (.whileLoop test body [] env) fs) (isTrue test env (eval test env)) (fun b s' =>
        if b = true then
          SG (model prog w) A Φ (.whileLoop test body [] env) ((execs body env).wrap (fun f => match f with
            | .next | .cont => .pure (.again (.whileLoop test body [] env))
            | .brk => .pure (.done .next)
            | .ret v => .pure (.done (.ret v))) J id id) fs s'
        else SG (model prog w) A Φ (.whileLoop test body [] env) (.pure (.done .next)) fs s') NoX s) :
    SG (model prog w) A Φ (.whileLoop test body [] env) ((model prog w).den (.whileLoop test body [] env)) fs s := by
  have h := h (fun e => (do noteFrame e env; theTreesLotGoes e : Sem Unit).wrap (fun _ => .raise e) .raise id id)
  show SG _ A Φ _ ((whileTurn test body [] env).onRaise (fun x => do noteFrame x env; theTreesLotGoes x)) fs s
  unfold whileTurn
  rw [Sem.onRaise_eq_wrap, Sem.bind_eq_wrap', Sem.wrap_wrap]
  refine sg_wrap (wpAny_mono h (fun b s' hb => ?_) fun x s' hx => False.elim hx)
  cases b with
  | true =>
    rw [if_pos rfl] at hb
    show SG _ A Φ _ (Sem.wrap _ _ _ _ (if true = true then _ else _)) fs s'
    rw [if_pos rfl, Sem.bind_eq_wrap', Sem.wrap_wrap]
    rw [Sem.wrap_congr (execs body env) _ _ (K' := fun f => match f with
          | .next | .cont => .pure (.again (.whileLoop test body [] env))
          | .brk => .pure (.done .next)
          | .ret v => .pure (.done (.ret v))) (H' := (fun e => (do noteFrame e env; theTreesLotGoes e : Sem Unit).wrap (fun _ => .raise e) .raise id id))
      (fun f => by cases f <;> rfl)
      (fun e => by first | exact Sem.bind_eq_wrap _ _ | (show (do noteFrame e env; theTreesLotGoes e : Sem Unit).bind (fun _ => .raise e) = _; rw [Sem.bind_eq_wrap]))]
    exact hb
  | false =>
    rw [if_neg Bool.false_ne_true] at hb
    show SG _ A Φ _ (Sem.wrap _ _ _ _ (if false = true then _ else _)) fs s'
    rw [if_neg Bool.false_ne_true, Sem.bind_eq_wrap', Sem.wrap_wrap]
    exact hb
theorem sg_func {body : List Stmt}
    (h : ∀ J : Value → Sem PySem.Fin, SG (model prog w) A Φ (.func body env) ((execs body env).wrap (fun f => .pure (.done (.ret (match f with | .ret v => v | _ => .none)))) J id id) [] s) :
    SG (model prog w) A Φ (.func body env) ((model prog w).den (.func body env)) [] s := by
  have h := h (fun e => (leaving env e).wrap (fun _ => .raise e) .raise id id)
  show SG _ A Φ _ (.point [] fun _ => ((execs body env).onRaise (leaving env)) >>= _) [] s
  refine sg_point ?_
  rw [Sem.onRaise_eq_wrap, Sem.bind_eq_wrap', Sem.wrap_wrap]
  rw [Sem.wrap_congr (execs body env) _ _ (K' := fun f => .pure (.done (.ret (match f with | .ret v => v | _ => .none))))
    (H' := fun e => (leaving env e).wrap (fun _ => .raise e) .raise id id) (fun f => by cases f <;> rfl)
    (fun e => by rw [Sem.bind_eq_wrap, Sem.wrap_wrap]; rfl)]
  exact h
end
end KN
/-! A generator that sleeps: what must stay, what it promises, how it wakes in a new place. -/
namespace KN
open PySem PySem.Spec PyProof.Rows L2
section
variable {prog : Program} {w : World} {A : Around} {Φ : End → Shared → Prop} {c : Code} {fs : List Frame} {s : Shared} {env : Env} {K : Flow → Sem PySem.Fin} {H : Value → Sem PySem.Fin} {gd : Bool → Bool} {lv : List Value → List Value}
theorem sg_If {test : Expr} {body orelse : List Stmt} {pos : Pos} {M : Model}
    (h : wpAny M (A.over c fs) (isTrue test env (eval test env)) (fun b s' => SG M A Φ c (if b = true then (execs body env).wrap K H gd lv else (execs orelse env).wrap K H gd lv) fs s') NoX s) :
    SG M A Φ c ((exec (.If test body orelse pos) env).wrap K H gd lv) fs s := by
  rw [exec_If]
  show SG M A Φ c (.at pos fun _ => ((isTrue test env (eval test env)) >>= fun b => if b = true then execs body env else execs orelse env).wrap K H gd lv) fs s
  refine sg_at ?_
  rw [Sem.bind_eq_wrap', Sem.wrap_wrap]
  refine sg_wrap (wpAny_mono h (fun b s' hb => ?_) fun _ _ z => False.elim z)
  cases b with
  | true => exact hb
  | false => exact hb
theorem sg_yieldStmt {M : Model} {e : Expr} {ypos pos : Pos} (hfs : splitAtGen fs = none) (hgd : gd false = false) (hfg : fs.any Frame.guarded = false)
    (h : wpAny M (A.over c fs) (eval e env) (fun v s' => ∀ (l : List Value) (k : Resume → Sem PySem.Fin) (p : Pos), (∀ (Φ' : End → Shared → Prop) (s'' : Shared), SG M A Φ' c (K .next) fs s'' → SG M A Φ' c (k (.send .none)) fs s'') → Φ (.susp v false l k c p fs) s') NoX s)
    (hco : env.scope.isCoroutine = false := by rfl) (hi : interactive env = false := by rfl) : SG M A Φ c ((exec (.Expr (.Yield (some e) ypos) pos) env).wrap K H gd lv) fs s := by
  rw [exec_Expr env _ pos hi rfl]
  show SG M A Φ c (.at pos fun _ => ((eval e env >>= fun v => (standAt ypos >>= fun _ => yieldOut env v)) >>= fun x => dropValue (.Yield (some e) ypos) pos x).wrap K H gd lv) fs s
  have hy : ∀ v, yieldOut env v = yieldValue v := fun v => by simp only [yieldOut, hco, Bool.false_eq_true, if_false]
  simp only [hy]
  refine sg_at ?_
  rw [Sem.bind_eq_wrap', Sem.bind_eq_wrap', Sem.wrap_wrap, Sem.wrap_wrap]
  refine sg_wrap (wpAny_mono h (fun v s' h' => ?_) fun _ _ x => False.elim x)
  refine sg_at ?_
  have hg0 : ∀ b : Bool, gd (id (id b)) = gd b := fun _ => rfl
  rintro Γ p rfl hΓ
  have := h' 
  refine ⟨_, s', Runs.yield' fs hfs, ?_, ?_⟩
  · show End.quiet (.susp v (gd false) _ _ _ _ fs) = true
    simp [End.quiet, hgd, hfg]
  · show Φ (.susp v (gd false) _ _ _ _ fs) s'
    rw [hgd]
    refine h' _ _ _ fun Φ' s'' hn => ?_
    exact hn
end
/-! ### the heap cut at a size -/
def cut (h : Heap) (n : Nat) : Heap := { h with objs := h.objs.extract 0 n }
theorem cut_get {h : Heap} {n b : Nat} : (cut h n).get? b = if b < n then h.get? b else none := by
  unfold cut Heap.get?
  by_cases hb : b < n
  · rw [if_pos hb]
    by_cases hs : b < h.objs.size
    · rw [Array.getElem?_extract, if_pos (by omega)]
      simp
    · have e1 : h.objs[b]? = none := Array.getElem?_eq_none_iff.mpr (by omega)
      have e2 : (h.objs.extract 0 n)[b]? = none := Array.getElem?_eq_none_iff.mpr (by rw [Array.size_extract]; omega)
      rw [e1, e2]
  · rw [if_neg hb]
    have e2 : (h.objs.extract 0 n)[b]? = none := Array.getElem?_eq_none_iff.mpr (by rw [Array.size_extract]; omega)
    rw [e2]
theorem cut_size {h : Heap} {n : Nat} (hn : n ≤ h.objs.size) : (cut h n).objs.size = n := by
  show (h.objs.extract 0 n).size = n
  rw [Array.size_extract]; omega
theorem cut_some {h : Heap} {n b : Nat} {o : Obj} (e : (cut h n).get? b = some o) : b < n ∧ h.get? b = some o := by
  rw [cut_get] at e
  by_cases hb : b < n
  · rw [if_pos hb] at e; exact ⟨hb, e⟩
  · rw [if_neg hb] at e; cases e
/-! ### what is known of a generator -/
structure Cfg where
  P : Program
  w : World
  base : Heap
  A : Around
  outer : List Env
  n0 : Nat
  Sh : Hp
/-- while it sleeps -/
structure Stay (cf : Cfg) (own : List Addr) (s s' : Shared) : Prop where
  os : s'.os = s.os
  bare : AllBare s'.gens
  keep : ∀ b o, b ∈ own → s.heap.get? b = some o → s'.heap.get? b = some o
  base : ∀ b o, cf.base.get? b = some o → s'.heap.get? b = some o
  funs : s'.heap.FunFrames cf.base cf.outer
  sh : HOk cf.P cf.w cf.Sh s'.heap
/-- while it runs -/
structure Guar (cf : Cfg) (own : List Addr) (s s' : Shared) : Prop where
  os : s'.os = s.os
  gens : s'.gens = s.gens
  keep : ∀ b o, s.heap.get? b = some o → b ∉ own → cf.Sh b = none → b ∉ frs cf.outer → s'.heap.get? b = some o
  slot : ∀ b o, s.heap.get? b = some o → b ∈ frs cf.outer → ∃ sl, s'.heap.get? b = some { o with slots := sl }
  sh : HOk cf.P cf.w cf.Sh s'.heap
/-- an item lies at a -/
def RowAt (a : Addr) (r : List V) (h : Heap) : Prop := r.length ≤ sizeLine ∧ ∃ its : List Value, Vals r its ∧ IsTup h a its.toArray
/-- rows to come; s: where it went to sleep -/
def Alive (cf : Cfg) : List (List V) → List Addr → GenState → Shared → Prop
  | [], own, gs, s => ∀ s1, Stay cf own s s1 → Go1 (model cf.P cf.w) cf.A (fun e s2 => e = .ret (.ok (.ret .none)) ∧ Guar cf own s1 s2) gs s1
  | r :: rs, own, gs, s => ∀ s1, Stay cf own s s1 → Go1 (model cf.P cf.w) cf.A (fun e s2 => ∃ (l : List Value) (k : Resume → Sem PySem.Fin) (c : Code) (p : Pos) (fs : List Frame) (a : Addr) (own2 : List Addr), e = .susp (.ref a) false l k c p fs ∧ e.quiet = true ∧
      Guar cf own s1 s2 ∧ RowAt a r s2.heap ∧ cf.n0 ≤ a ∧ (a ∈ own ∨ s1.heap.get? a = none) ∧ a ∉ own2 ∧ (∀ b ∈ own2, cf.n0 ≤ b ∧ (b ∈ own ∨ s1.heap.get? b = none) ∧ ∃ o, s2.heap.get? b = some o) ∧ Alive cf rs own2 e.genState s2) gs s1
/-! ### it wakes -/
/-- what is tracked where it wakes: what it shares, what it made, all else as it stands -/
def rebH (n0 : Nat) (own : List Addr) (Hs Sh : Hp) (h : Heap) : Hp := fun b => if b < n0 then Sh b else if b ∈ own then Hs b else (h.get? b).map fun o => .ext fun h' => h'.get? b = some o
/-- lists, tuples, dicts -/
def Plain : HO → Prop
  | .lst _ | .tup _ | .dK _ => True
  | _ => False
abbrev reb (X : Cx) (s' : Shared) (H' : Hp) : Cx := { X with s_0 := s', H_0 := H' }
theorem plain_any {P : Program} {w : World} {H H' : Hp} {h : Heap} {a : Addr} {o : HO} (p : Plain o) (x : ObjOk P w H h a o) : ObjOk P w H' h a o := by
  cases o with
  | lst xs => exact x
  | tup xs => exact x
  | dK kvs => exact x
  | _ => exact False.elim p
theorem plain_ex {P : Program} {w : World} {H : Hp} {h : Heap} {a : Addr} {o : HO} (p : Plain o) (x : ObjOk P w H h a o) : ∃ u, h.get? a = some u := by
  cases o with
  | lst xs => obtain ⟨z, its, n, r, e⟩ := x; exact ⟨_, e⟩
  | tup xs => obtain ⟨z, its, r, ob, e, c⟩ := x; exact ⟨_, e⟩
  | dK kvs => obtain ⟨z, y, vs, r, ob, es, ep, e, c⟩ := x; exact ⟨_, e⟩
  | _ => exact False.elim p
theorem plain_at {P : Program} {w : World} {H : Hp} {h h' : Heap} {a : Addr} {o : HO} (p : Plain o) (x : ObjOk P w H h a o) (k : ∀ u, h.get? a = some u → h'.get? a = some u) : ObjOk P w H h' a o := by
  cases o with
  | lst xs => obtain ⟨z, its, n, r, e⟩ := x; exact ⟨z, its, n, r, k _ e⟩
  | tup xs => obtain ⟨z, its, r, ob, e, c⟩ := x; exact ⟨z, its, r, ob, k _ e, c⟩
  | dK kvs => obtain ⟨z, y, vs, r, ob, es, ep, e, c⟩ := x; exact ⟨z, y, vs, r, ob, es, ep, k _ e, c⟩
  | _ => exact False.elim p
/-- the generator's context (X: as it was made) -/
structure GenCx (X : Cx) (cf : Cfg) : Prop where
  P : X.prog = cf.P
  w : X.w = cf.w
  base : X.base = cf.base
  outer : X.outer = cf.outer
  n0 : X.s_0.heap.objs.size = cf.n0
  ex : X.ex = []
  pn : X.pn = []
  sh0 : ∀ b o, cf.Sh b = some o → b < cf.n0
  shB : ∀ b o, cf.base.get? b = some o → cf.Sh b = none
  shF : ∀ b ∈ frs cf.outer, cf.Sh b = none
  shK : ∀ b o, cf.Sh b = some o → Plain o ∨ (∃ x, o = .own x) ∨ ∃ C dx fs, o = .ins C dx fs
theorem reb_inv {X : Cx} {cf : Cfg} (g : GenCx X cf) {own : List Addr} {Hs H : Hp} {σ : St} {s s1 : Shared} (I : Inv X [] σ H s) (hL : X.env.locals ∈ own) (hC : ∀ x c, X.env.cells.lookup x = some c → c ∈ own) (h0 : ∀ b ∈ own, cf.n0 ≤ b)
    (hs : ∀ b o, Hs b = some o → H b = some o ∧ Plain o) (St : Stay cf own s s1) :
    Inv (reb X { s1 with heap := cut s1.heap cf.n0 } (rebH cf.n0 own Hs cf.Sh s1.heap)) [] σ (rebH cf.n0 own Hs cf.Sh s1.heap) s1 := by
  obtain ⟨mL, nL, locL⟩ := id I.loc
  obtain ⟨oL, _, _, eL, _⟩ := id nL
  have eL1 := St.keep _ _ hL eL
  have hsz : cf.n0 ≤ s1.heap.objs.size := Nat.le_of_lt (Nat.lt_of_le_of_lt (h0 _ hL) (Heap.lt_size eL1))
  have hcut := cut_size hsz
  have fr0 : ∀ b ∈ X.fs, b < cf.n0 := fun b hb => by
    obtain ⟨_, o, e, _⟩ := I.ok.funs.mem hb
    rw [← g.n0]
    exact Heap.lt_size e
  have b0 : ∀ b o, X.base.get? b = some o → b < cf.n0 := fun b o e => by
    rw [← g.n0]
    exact Nat.lt_of_lt_of_le (Heap.lt_size e) I.ok.bsz
  have rlt : ∀ {b}, b < cf.n0 → rebH cf.n0 own Hs cf.Sh s1.heap b = cf.Sh b := fun {b} hb => by unfold rebH; rw [if_pos hb]
  have rown : ∀ {b}, b ∈ own → rebH cf.n0 own Hs cf.Sh s1.heap b = Hs b := fun {b} hb => by unfold rebH; rw [if_neg (Nat.not_lt.mpr (h0 b hb)), if_pos hb]
  have hnone : ∀ {b}, b ∈ own → H b = none → rebH cf.n0 own Hs cf.Sh s1.heap b = none := fun {b} hb e => by
    rw [rown hb]
    cases q : Hs b with
    | none => rfl
    | some o => have := (hs b o q).1; rw [e] at this; cases this
  have nx : ∀ b : Addr, b ∉ X.ex := fun b hb => by rw [g.ex] at hb; cases hb
  have cells1 : ∀ x c, X.env.cells.lookup x = some c → ∀ v, s.heap.IsCell c v → s1.heap.IsCell c v := fun x c e v ⟨o, eo, d⟩ => ⟨o, St.keep _ _ (hC x c e) eo, d⟩
  refine ⟨⟨I.ok.mod, I.ok.kind, I.ok.glob, I.ok.blt, ?_, I.ok.inj, I.ok.has, fun x c hx e => ?_, I.ok.hd, I.ok.frames, I.ok.stk, I.ok.exf, fun b o e => ?_, ?_, I.ok.noex, I.ok.exfs, ?_, fun b hb => ?_⟩,
    rfl, St.bare, Un.kept fun b u e => (cut_some e).2, ⟨mL, ?_, fun i x v e1 e2 e3 => ?_⟩, fun x c e => ?_, hnone hL I.free, fun x c e => hnone (hC x c e) (I.freeC x c e), fun p hp => ?_, fun b o e => ?_, I.len⟩
  · show (cut s1.heap cf.n0).objs.size ≤ X.env.locals
    rw [hcut]; exact h0 _ hL
  · show (cut s1.heap cf.n0).objs.size ≤ c
    rw [hcut]; exact h0 _ (hC x c e)
  · have hb := b0 b o e
    refine ⟨?_, ?_⟩
    · show (cut s1.heap cf.n0).get? b = some o
      rw [cut_get, if_pos hb]
      exact St.base b o (by rw [← g.base]; exact e)
    · show rebH _ _ _ _ _ b = none
      rw [rlt hb]
      exact g.shB b o (by rw [← g.base]; exact e)
  · show X.base.objs.size ≤ (cut s1.heap cf.n0).objs.size
    rw [hcut, ← g.n0]; exact I.ok.bsz
  · show (cut s1.heap cf.n0).FunFrames X.base X.outer
    have hf := St.funs
    rw [← g.base, ← g.outer] at hf
    have all : ∀ (l : List Env), (∀ b ∈ frs l, b < cf.n0) → s1.heap.FunFrames X.base l → (cut s1.heap cf.n0).FunFrames X.base l := by
      intro l
      induction l with
      | nil => intro _ _; trivial
      | cons env r ih =>
        rintro hlt ⟨hk, ⟨L, o, hf, hn, ho, hd⟩, hr⟩
        have hL : L < cf.n0 := hlt L (by unfold frs; rw [List.filterMap_cons, hf]; exact List.mem_cons_self)
        exact ⟨hk, ⟨L, o, hf, hn, by rw [cut_get, if_pos hL]; exact ho, hd⟩, ih (fun b hb => hlt b (by unfold frs; rw [List.filterMap_cons, hf]; exact List.mem_cons_of_mem _ hb)) hr⟩
    exact all X.outer fr0 hf
  · show rebH _ _ _ _ _ b = none
    rw [rlt (fr0 b hb)]
    exact g.shF b (by rw [← g.outer]; exact hb)
  · obtain ⟨o, es, ep, e, r⟩ := nL
    exact ⟨o, es, ep, St.keep _ _ hL e, r⟩
  · obtain ⟨u, r, l⟩ := locL i x v e1 e2 e3
    refine ⟨u, r, ?_⟩
    rcases l with l | ⟨k, c, e, z⟩
    · exact .inl l
    · exact .inr ⟨k, c, e, cells1 x c e _ z⟩
  · obtain ⟨v, z⟩ := I.cell x c e
    exact ⟨v, cells1 x c e v z⟩
  · have hp : p ∈ X.pn ++ [] := hp
    rw [g.pn] at hp
    exact absurd hp (by simp)
  · by_cases hb : b < cf.n0
    · rw [rlt hb] at e
      have x := St.sh b o e
      show ObjOk X.prog X.w _ _ _ _
      rw [g.P, g.w]
      rcases g.shK b o e with p | ⟨y, rfl⟩ | ⟨C, dx, fs, rfl⟩
      · exact plain_any p x
      · exact x
      · obtain ⟨x1, x2⟩ := x
        exact ⟨by rw [rlt (g.sh0 dx _ x1)]; exact x1, x2⟩
    · by_cases ho : b ∈ own
      · rw [rown ho] at e
        obtain ⟨e1, p⟩ := hs b o e
        exact plain_any p (plain_at p (I.hok b o e1) fun u q => St.keep b u ho q)
      · have e : ((s1.heap.get? b).map fun o => HO.ext fun h' => h'.get? b = some o) = some o := by
          have := e
          unfold rebH at this
          rw [if_neg hb, if_neg ho] at this
          exact this
        cases q : s1.heap.get? b with
        | none => rw [q] at e; cases e
        | some u =>
          rw [q] at e
          cases e
          exact ⟨q, ⟨u, q⟩, fun h1 h2 p k => k u p⟩
end KN
/-! What a stretch of a generator has kept; it falls asleep and wakes. -/
namespace KN
open PySem PySem.Spec PyProof.Rows L2
section
variable {X : Cx} {cf : Cfg} {own : List Addr} {Hs H2 : Hp} {σ2 : St} {s1 s2 : Shared}
/-- the context of a stretch that began at s1 -/
abbrev RX (X : Cx) (cf : Cfg) (own : List Addr) (Hs : Hp) (s1 : Shared) : Cx := reb X { s1 with heap := cut s1.heap cf.n0 } (rebH cf.n0 own Hs cf.Sh s1.heap)
theorem reb_lt {n0 : Nat} {own : List Addr} {Hs Sh : Hp} {h : Heap} {b : Addr} (hb : b < n0) : rebH n0 own Hs Sh h b = Sh b := by unfold rebH; rw [if_pos hb]
theorem reb_own {n0 : Nat} {own : List Addr} {Hs Sh : Hp} {h : Heap} {b : Addr} (h0 : n0 ≤ b) (hb : b ∈ own) : rebH n0 own Hs Sh h b = Hs b := by unfold rebH; rw [if_neg (Nat.not_lt.mpr h0), if_pos hb]
theorem reb_ext {n0 : Nat} {own : List Addr} {Hs Sh : Hp} {h : Heap} {b : Addr} {o : Obj} (h0 : n0 ≤ b) (hb : b ∉ own) (e : h.get? b = some o) : rebH n0 own Hs Sh h b = some (.ext fun h' => h'.get? b = some o) := by
  unfold rebH
  rw [if_neg (Nat.not_lt.mpr h0), if_neg hb, e]
  rfl
/-- all that is not its own is as it was -/
def Frz (cf : Cfg) (own : List Addr) (Hs : Hp) (s1 : Shared) (H : Hp) : Prop := ∀ b o, b ∉ own → rebH cf.n0 own Hs cf.Sh s1.heap b = some o → H b = some o
/-- made by it: in this stretch or before -/
def Own (cf : Cfg) (own : List Addr) (Hs : Hp) (s1 : Shared) (b : Addr) : Prop := b ∈ own ∨ rebH cf.n0 own Hs cf.Sh s1.heap b = none
theorem Frz.new {H : Hp} (f : Frz cf own Hs s1 H) {b : Addr} (e : H b = none) : Own cf own Hs s1 b := by
  by_cases hb : b ∈ own
  · exact .inl hb
  · refine .inr ?_
    cases q : rebH cf.n0 own Hs cf.Sh s1.heap b with
    | none => rfl
    | some o => rw [f b o hb q] at e; cases e
theorem guar_of (g : GenCx X cf) (h0 : ∀ b ∈ own, cf.n0 ≤ b) (sh1 : HOk cf.P cf.w cf.Sh s1.heap) (J : JV (RX X cf own Hs s1) s1.gens [] σ2 H2 s2) (f : Frz cf own Hs s1 H2) : Guar cf own s1 s2 where
  os := J.iv.os
  gens := J.gs
  keep := fun b o e hb hs hf => by
    by_cases hlt : b < cf.n0
    · refine J.iv.base.keep b o (by show (cut s1.heap cf.n0).get? b = some o; rw [cut_get, if_pos hlt]; exact e) (by show rebH _ _ _ _ _ b = none; rw [reb_lt hlt]; exact hs) ?_ ?_
      · show b ∉ frs X.outer
        rw [g.outer]; exact hf
      · show b ∉ X.ex
        rw [g.ex]; simp
    · have q := f b _ hb (reb_ext (Nat.not_lt.mp hlt) hb e)
      exact (J.iv.hok b _ q).1
  slot := fun b o e hf => by
    have hf' : b ∈ (RX X cf own Hs s1).fs := by show b ∈ frs X.outer; rw [g.outer]; exact hf
    obtain ⟨_, o1, e1, _⟩ := J.iv.ok.funs.mem hf'
    obtain ⟨hlt, _⟩ := cut_some (show (cut s1.heap cf.n0).get? b = some o1 from e1)
    refine J.iv.base.slot b o (by show (cut s1.heap cf.n0).get? b = some o; rw [cut_get, if_pos hlt]; exact e) (by show rebH _ _ _ _ _ b = none; rw [reb_lt hlt]; exact g.shF b hf) hf' ?_
    show b ∉ X.ex
    rw [g.ex]; simp
  sh := fun b o e => by
    have hlt := g.sh0 b o e
    have hb : b ∉ own := fun z => absurd (h0 b z) (Nat.not_le.mpr hlt)
    have q := f b o hb (by rw [reb_lt hlt]; exact e)
    have x := J.iv.hok b o q
    have x : ObjOk cf.P cf.w H2 s2.heap b o := by rw [← g.P, ← g.w]; exact x
    rcases g.shK b o e with p | ⟨y, rfl⟩ | ⟨C, dx, fs, rfl⟩
    · exact plain_any p x
    · exact x
    · obtain ⟨x1, x2⟩ := x
      exact ⟨(sh1 b _ e).1, x2⟩
/-- what it owns behind the stretch, but the item at a -/
def own2 (cf : Cfg) (own : List Addr) (s1 s2 : Shared) (a : Addr) : List Addr :=
  (own ++ (List.range s2.heap.objs.size).filter fun b => decide (cf.n0 ≤ b) && (s1.heap.get? b).isNone).filter fun b => decide (b ≠ a) && (s2.heap.get? b).isSome
theorem mem_own2 {a b : Addr} : b ∈ own2 cf own s1 s2 a ↔ b ≠ a ∧ (∃ o, s2.heap.get? b = some o) ∧ (b ∈ own ∨ (cf.n0 ≤ b ∧ s1.heap.get? b = none)) := by
  unfold own2
  rw [List.mem_filter, List.mem_append, List.mem_filter, List.mem_range]
  simp only [Bool.and_eq_true, decide_eq_true_eq, Option.isNone_iff_eq_none]
  constructor
  · rintro ⟨h1, h2, h3⟩
    exact ⟨h2, Option.isSome_iff_exists.mp h3, h1.elim .inl fun z => .inr z.2⟩
  · rintro ⟨h1, ⟨o, h2⟩, h3⟩
    exact ⟨h3.elim .inl fun z => .inr ⟨Heap.lt_size h2, z⟩, h1, by rw [h2]; rfl⟩
/-- what was tracked, but the item -/
noncomputable def kept2 (H2 : Hp) (a : Addr) : Hp := fun b => by
  classical
  exact if b = a then none else match H2 b with
    | some o => if Plain o then some o else none
    | none => none
theorem kept2_some {H2 : Hp} {a b : Addr} {o : HO} (e : kept2 H2 a b = some o) : H2 b = some o ∧ Plain o ∧ b ≠ a := by
  unfold kept2 at e
  split at e
  · cases e
  · rename_i hne
    split at e
    · rename_i o' e'
      split at e
      · rename_i p
        cases e
        exact ⟨e', p, hne⟩
      · cases e
    · cases e
theorem kept2_of {H2 : Hp} {a b : Addr} {o : HO} (e : H2 b = some o) (p : Plain o) (hne : b ≠ a) : kept2 H2 a b = some o := by
  unfold kept2
  rw [if_neg hne]
  simp only [e]
  rw [if_pos p]
/-- a tracked plain thing that it made is its own behind the stretch -/
theorem own_tracked (g : GenCx X cf) (h0 : ∀ b ∈ own, cf.n0 ≤ b) (hsz : cf.n0 ≤ s1.heap.objs.size) (J : JV (RX X cf own Hs s1) s1.gens [] σ2 H2 s2) (f : Frz cf own Hs s1 H2) {a b : Addr} {o : HO} (hn : Own cf own Hs s1 b) (e : H2 b = some o) (p : Plain o) :
    cf.n0 ≤ b ∧ (b ∈ own ∨ s1.heap.get? b = none) ∧ (b ≠ a → b ∈ own2 cf own s1 s2 a) := by
  have lo : cf.n0 ≤ b := by
    rcases hn with z | z
    · exact h0 b z
    · by_cases hlt : b < cf.n0
      · have q := J.nw b (by show b < (cut s1.heap cf.n0).objs.size; rw [cut_size hsz]; exact hlt) z
        rw [e] at q; cases q
      · exact Nat.not_lt.mp hlt
  have hor : b ∈ own ∨ s1.heap.get? b = none := by
    by_cases hb : b ∈ own
    · exact .inl hb
    · refine .inr ?_
      cases q : s1.heap.get? b with
      | none => rfl
      | some u =>
        have z := f b _ hb (reb_ext lo hb q)
        rw [e] at z
        cases z
        exact False.elim p
  refine ⟨lo, hor, fun hne => mem_own2.mpr ⟨hne, plain_ex p (J.iv.hok b o e), ?_⟩⟩
  rcases hor with z | z
  · exact .inl z
  · exact .inr ⟨lo, z⟩
/-- it wakes at s1' -/
theorem wake (g : GenCx X cf) (h0 : ∀ b ∈ own, cf.n0 ≤ b) (hsz : cf.n0 ≤ s1.heap.objs.size) (J : JV (RX X cf own Hs s1) s1.gens [] σ2 H2 s2) (f : Frz cf own Hs s1 H2) {a : Addr} {r : List V} (ea : H2 a = some (.tup r))
    (hL : X.env.locals ∈ own) (hC : ∀ x c, X.env.cells.lookup x = some c → c ∈ own) {s1' : Shared} (S : Stay cf (own2 cf own s1 s2 a) s2 s1') :
    JV (RX X cf (own2 cf own s1 s2 a) (kept2 H2 a) s1') s1'.gens [] σ2 (rebH cf.n0 (own2 cf own s1 s2 a) (kept2 H2 a) cf.Sh s1'.heap) s1' ∧
    (∀ b o, Own cf own Hs s1 b → H2 b = some o → Plain o → b ≠ a → rebH cf.n0 (own2 cf own s1 s2 a) (kept2 H2 a) cf.Sh s1'.heap b = some o ∧ b ∈ own2 cf own s1 s2 a) ∧
    (∀ b o, cf.Sh b = some o → rebH cf.n0 (own2 cf own s1 s2 a) (kept2 H2 a) cf.Sh s1'.heap b = some o) ∧
    X.env.locals ∈ own2 cf own s1 s2 a ∧ (∀ x c, X.env.cells.lookup x = some c → c ∈ own2 cf own s1 s2 a) ∧ (∀ b ∈ own2 cf own s1 s2 a, cf.n0 ≤ b) ∧ cf.n0 ≤ s1'.heap.objs.size := by
  have hL2 : X.env.locals ∈ own2 cf own s1 s2 a := mem_own2.mpr ⟨fun z => (by
    have q : H2 X.env.locals = none := J.iv.free
    rw [z, ea] at q; cases q), (by
    obtain ⟨m, ⟨o, _, _, e, _⟩, _⟩ := J.iv.loc
    exact ⟨o, e⟩), .inl hL⟩
  have hC2 : ∀ x c, X.env.cells.lookup x = some c → c ∈ own2 cf own s1 s2 a := fun x c e => mem_own2.mpr ⟨fun z => (by
    have q : H2 c = none := J.iv.freeC x c e
    rw [z, ea] at q; cases q), (by
    obtain ⟨v, o, ho, _⟩ := J.iv.cell x c e
    exact ⟨o, ho⟩), .inl (hC x c e)⟩
  have h02 : ∀ b ∈ own2 cf own s1 s2 a, cf.n0 ≤ b := fun b hb => by
    rcases (mem_own2.mp hb).2.2 with z | ⟨z, _⟩
    · exact h0 b z
    · exact z
  -- the generator's context as of this stretch
  have g1 : GenCx (RX X cf own Hs s1) cf := ⟨g.P, g.w, g.base, g.outer, cut_size hsz, g.ex, g.pn, g.sh0, g.shB, g.shF, g.shK⟩
  have I := reb_inv (X := RX X cf own Hs s1) g1 (own := own2 cf own s1 s2 a) (Hs := kept2 H2 a) J.iv hL2 hC2 h02 (fun b o e => ⟨(kept2_some e).1, (kept2_some e).2.1⟩) S
  obtain ⟨mL, nL, _⟩ := I.loc
  have hsz' : cf.n0 ≤ s1'.heap.objs.size := Nat.le_of_lt (Nat.lt_of_le_of_lt (h02 _ hL2) nL.lt)
  refine ⟨⟨I, rfl, fun b _ e => e⟩, fun b o hn e p hne => ?_, fun b o e => by rw [reb_lt (g.sh0 b o e)]; exact e, hL2, hC2, h02, hsz'⟩
  obtain ⟨lo, _, hm⟩ := own_tracked (a := a) g h0 hsz J f hn e p
  exact ⟨by rw [reb_own lo (hm hne)]; exact kept2_of e p hne, hm hne⟩
end
end KN
/-! The text by places; the small defs that a generator's code calls. -/
namespace KN
open PySem PySem.Spec PyProof.Rows L2
def top (i : Nat) : Stmt := PySem.Challenge.pw_knownlate_k19_whole_first_rows.main.body.getD i (.Pass ⟨0, 0, 0, 0⟩)
/-- a def by its body -/
theorem _root_.L2.Fun.gok {P : Program} {w : World} {K : PySem.W.Frag} {mg : Str → Option Value} {base : Heap} {x qual : Str} {st : Stmt} {f : Addr} {fd : FuncData} {N ps : List Str} {k : Nat} {sp : GSp} (F : Fun K x qual st f fd) (S : FnScope N ps (defScope st)) (len : ∀ vs H Q, sp vs H Q → vs.length = ps.length)
    (hbody : ∀ (cdv : Value) (A : Around) (outer : List Env) (s : Shared) (H : Hp) (vs : List V) (Q : VK), Room k (A.deeper (envOfC qual (defScope st) s.heap.objs.size f cdv)) → sp vs H Q →
      ∃ t, GPs (gx P w K mg base N qual (defScope st) f cdv A outer s H) (defBody st) t ∧ t { nx := fun _ H' => Q .non H', rt := Q } (start N vs) H) : GFn P w K mg base (k + 1) f fd ps sp := by
  obtain ⟨oc, od, kV, doc, pm, an, cdv, ct, osl, rfl, lk, hcd⟩ := F.ex
  exact gfn_of lk hcd S len fun A outer s H vs Q hr hsp => hbody cdv A outer s H vs Q hr hsp
section
variable {X : Cx}
theorem gc_isi : GC X (.builtin "isinstance") (rIsi X.K) := by
  rintro G pins s σ H xs us Q J r ⟨x, c, t, u, b, rfl, k, ty, e, q⟩
  obtain ⟨u1, u2, rfl, r1, r2⟩ := vals2 r
  have e2 := k.eq r2
  subst e2
  obtain ⟨P, Z, p, hx⟩ := kit_of J.iv r1 ty
  exact PySem.W.kia_one Z J.iv.kIn p e hx fun tk => ⟨.bl b, H, J.tok tk, rfl, q⟩
theorem ge_nm {x : Str} {v : V} {u : Value} {pos : Pos} (hm : X.mg x = some u) (r : RelV v u) (hg : Gl X x) (hd : (x == ("__debug__" : Str)) = false := by decide) : GE X (.Name x pos) (tC v) := ge_glob hg hm r hd
end
abbrev sIsInt : Stmt := top 15
abbrev sIsCount : Stmt := top 16
abbrev sStepsFrom : Stmt := top 31
abbrev sCheckWatch : Stmt := top 40
abbrev sSightOf : Stmt := top 41
abbrev sStart : Stmt := inClass (top 25) 1
abbrev sStates : Stmt := inClass (top 25) 6
/-! ### names -/
structure Bu (mg : Str → Option Value) : Prop where
  isinst : mg "isinstance" = none
  int : mg "int" = none
  bool : mg "bool" = none
  list : mg "list" = none
  sorted : mg "sorted" = none
  reversed : mg "reversed" = none
  len : mg "len" = none
  range : mg "range" = none
section
variable {P : Program} {w : World} {K : PySem.W.Frag} {mg : Str → Option Value} {base : Heap}
theorem sc15 : FnScope ["value"] ["value"] (defScope sIsInt) := ⟨rfl, rfl, rfl, by decide +kernel, rfl, by decide +kernel, by decide +kernel⟩
def gsIsInt : GSp := fun vs H Q => ∃ i : Int, vs = [.int i] ∧ Q (.bl true) H
theorem g_isint {f : Addr} {fd : FuncData} (F : Fun K "is_integer" "is_integer" sIsInt f fd) (B : Bu mg) : GFn P w K mg base 1 f fd ["value"] gsIsInt := by
  refine F.gok sc15 (fun vs H Q h => ?_) (fun cdv A outer s H vs Q hr h => ?_)
  · obtain ⟨i, rfl, _⟩ := h
    rfl
  · obtain ⟨i, rfl, q⟩ := h
    refine ⟨_, gps_one (gp_ret (ge_and (ge_callB gc_isi (by rfl) B.isinst (by rfl) (ga_cons (gv 0) (ga_cons (ge_bltn (v := .ty "int") (by rfl) B.int (by rfl) rfl) ga_nil)))
      (ge_one (ge_not (ge_callB gc_isi (by rfl) B.isinst (by rfl) (ga_cons (gv 0) (ga_cons (ge_bltn (v := .ty "bool") (by rfl) B.bool (by rfl) rfl) ga_nil))))))), ?_⟩
    refine ⟨_, rfl, _, _, _, _, true, rfl, .ty _, .base (.int i), by rfl, _, rfl, ?_⟩
    exact iteT ⟨_, rfl, _, _, _, _, false, rfl, .ty _, .base (.int i), by rfl, _, rfl, q⟩
end
end KN
/-! The data of a machine and of a watch; the small defs that read them. -/
namespace KN
open PySem PySem.Spec PyProof.Rows L2
abbrev Step := Int × Str × Int
/-- the numbers of the steps that leave q -/
def nums (st : List Step) (q : Int) : List Nat := (List.range st.length).filter fun i => decide ((st[i]?.map fun e => e.1) = some q)
def stepV (e : Step) : List V := [.int e.1, .str e.2.1, .int e.2.2]
def natV (i : Nat) : V := .int i
/-- where a machine lies -/
structure MD where
  m : Addr
  dm : Addr
  rl : Addr
  lv : Addr
  ms : Addr
  fs : List (Str × V)
  ra : List Addr
  lk : List (Key × V)
/-- a machine with these steps -/
structure MachAt (C : Addr) (H : Hp) (d : MD) (q0 : Int) (st : List Step) (reach : List Int) : Prop where
  ins : H d.m = some (.ins C d.dm d.fs)
  own : H d.dm = some (.own d.m)
  f1 : d.fs.lookup ("first_state" : Str) = some (.int q0)
  f2 : d.fs.lookup ("step_rows" : Str) = some (.ref d.rl)
  f3 : d.fs.lookup ("leaving" : Str) = some (.ref d.lv)
  f4 : d.fs.lookup ("met_states" : Str) = some (.ref d.ms)
  rows : H d.rl = some (.lst (d.ra.map .ref))
  rlen : d.ra.length = st.length
  row : ∀ (i : Nat) (a : Addr) (e : Step), d.ra[i]? = some a → st[i]? = some e → H a = some (.tup (stepV e))
  lea : H d.lv = some (.dK d.lk)
  l1 : ∀ q, nums st q = [] → valV d.lk (.inl q) = none
  l2 : ∀ q, nums st q ≠ [] → ∃ a, valV d.lk (.inl q) = some (.ref a) ∧ H a = some (.lst ((nums st q).map natV))
  met : H d.ms = some (.lst (reach.map .int))
structure WatchAt (C : Addr) (H : Hp) (w dw tb : Addr) (T : List (Str × Str)) : Prop where
  ins : H w = some (.ins C dw [("table", .ref tb)])
  own : H dw = some (.own w)
  tab : H tb = some (.dK (T.map fun p => (.inr p.1, .str p.2)))
theorem MachAt.same {C : Addr} {H H' : Hp} {d : MD} {q0 : Int} {st : List Step} {reach : List Int} (x : MachAt C H d q0 st reach) (s : Same H H') : MachAt C H' d q0 st reach :=
  ⟨s _ _ x.ins, s _ _ x.own, x.f1, x.f2, x.f3, x.f4, s _ _ x.rows, x.rlen, fun i a e h1 h2 => s _ _ (x.row i a e h1 h2), s _ _ x.lea, x.l1, fun q h => let ⟨a, h1, h2⟩ := x.l2 q h; ⟨a, h1, s _ _ h2⟩, s _ _ x.met⟩
theorem WatchAt.same {C : Addr} {H H' : Hp} {w dw tb : Addr} {T : List (Str × Str)} (x : WatchAt C H w dw tb T) (s : Same H H') : WatchAt C H' w dw tb T := ⟨s _ _ x.ins, s _ _ x.own, s _ _ x.tab⟩
/-- what a watch shows of a word -/
def see (T : List (Str × Str)) (x : Str) : Option Str := (T.find? fun p => decide (p.1 = x)).map (·.2)
def seeV : Option Str → V
  | some y => .str y
  | none => .non
theorem valV_see : ∀ (T : List (Str × Str)) (x : Str), valV (T.map fun p => ((Sum.inr p.1 : Key), V.str p.2)) (.inr x) = (see T x).map .str
  | [], _ => rfl
  | p :: T, x => by
    have ih := valV_see T x
    by_cases e : p.1 = x
    · have e' : (Sum.inr p.1 : Key) = .inr x := by rw [e]
      rw [List.map_cons, valV_pos (p := ((Sum.inr p.1 : Key), V.str p.2)) e']
      simp [see, List.find?_cons, e]
    · have e' : ¬ (Sum.inr p.1 : Key) = .inr x := fun q => e (Sum.inr.inj q)
      rw [List.map_cons, valV_neg (p := ((Sum.inr p.1 : Key), V.str p.2)) e', ih]
      simp [see, List.find?_cons, e]
theorem valV_tab (T : List (Str × Str)) (x : Str) : (valV (T.map fun p => ((Sum.inr p.1 : Key), V.str p.2)) (.inr x)).getD .non = seeV (see T x) := by
  rw [valV_see]
  cases see T x <;> rfl
/-- the class facts that a generator's code asks -/
structure TxG (K : PySem.W.Frag) (mg : Str → Option Value) (CM CW : Addr) : Prop where
  bu : Bu mg
  cM : Cls K CM
  cW : Cls K CW
  n1 : NoAttr K CM "first_state"
  n2 : NoAttr K CM "step_rows"
  n3 : NoAttr K CM "leaving"
  n4 : NoAttr K CM "met_states"
  n5 : NoAttr K CW "table"
  gW : mg "Watch" = some (.ref CW)
  wI : ∀ (H : Hp) (a dx : Addr) (fs : List (Str × V)), H a = some (.ins CW dx fs) → TyX K H (.ref a) (.ref CW)
  wK : PySem.W.kitOne K (.ref CW) (.ref CW) = some true
  most : ∃ t : Tok, mg "MOST_SIGHTS" = some (.int 8 t)
section
variable {P : Program} {w : World} {K : PySem.W.Frag} {mg : Str → Option Value} {base : Heap} {CM CW : Addr}
theorem sc16 : FnScope ["value", "most"] ["value", "most"] (defScope sIsCount) := ⟨rfl, rfl, rfl, by decide +kernel, rfl, by decide +kernel, by decide +kernel⟩
def gsIsCount : GSp := fun vs H Q => ∃ i j : Int, vs = [.int i, .int j] ∧ 0 ≤ i ∧ i ≤ j ∧ Q (.bl true) H
theorem g_iscount {f f1 : Addr} {fd fd1 : FuncData} (F : Fun K "is_count" "is_count" sIsCount f fd) (F1 : GFn P w K mg base 1 f1 fd1 ["value"] gsIsInt) (b1 : Binds K fd1 ["value"] []) (m1 : mg "is_integer" = some (.ref f1)) (k1 : PySem.W.keepIn K (.ref f1) = true) :
    GFn P w K mg base 2 f fd ["value", "most"] gsIsCount := by
  refine F.gok sc16 (fun vs H Q h => ?_) (fun cdv A outer s H vs Q hr h => ?_)
  · obtain ⟨i, j, rfl, _⟩ := h
    rfl
  · obtain ⟨i, j, rfl, h0, h1, q⟩ := h
    refine ⟨_, gps_one (gp_ret (ge_and (ge_call F1 hr (by rfl) m1 k1 b1 (ga_cons (gv 0) ga_nil)) (ge_one (ge_chain go_le go_le ge_int (gv 0) (gv 1))))), ?_⟩
    refine ⟨_, rfl, i, rfl, _, rfl, iteT ?_⟩
    refine ⟨_, rfl, _, _, rfl, rfl, _, rfl, ?_⟩
    rw [decide_eq_true h0]
    refine iteT ⟨_, rfl, _, _, rfl, rfl, ?_⟩
    show Q (.bl (decide (i ≤ j))) H
    rw [decide_eq_true h1]
    exact q
theorem sc31 : FnScope ["machine", "state"] ["machine", "state"] (defScope sStepsFrom) := ⟨rfl, rfl, rfl, by decide +kernel, rfl, by decide +kernel, by decide +kernel⟩
def gsStepsFrom (CM : Addr) : GSp := fun vs H Q => ∃ (d : MD) (q0 : Int) (st : List Step) (reach : List Int) (q : Int), vs = [.ref d.m, .int q] ∧ MachAt CM H d q0 st reach ∧ ∀ (H' : Hp) (p : Addr), Same H H' → H p = none → H' p = some (.lst ((nums st q).map natV)) → Q (.ref p) H'
theorem g_stepsfrom {f : Addr} {fd : FuncData} (F : Fun K "steps_from" "steps_from" sStepsFrom f fd) (T : TxG K mg CM CW) : GFn P w K mg base 1 f fd ["machine", "state"] (gsStepsFrom CM) := by
  refine F.gok sc31 (fun vs H Q h => ?_) (fun cdv A outer s H vs Q hr h => ?_)
  · obtain ⟨_, _, _, _, _, rfl, _⟩ := h
    rfl
  · obtain ⟨d, q0, st, reach, q, rfl, M, k⟩ := h
    refine ⟨_, gps_one (gp_ret (ge_callTy gc_listL (by rfl) T.bu.list (by rfl) (ga_cons (ge_dget2 (ge_fld (gv 0) rfl) (gv 1) (ge_lst ga_nil) ⟨rfl, rfl, rfl, rfl⟩) ga_nil))), ?_⟩
    refine ⟨_, rfl, d.m, CM, d.dm, d.fs, _, rfl, M.ins, T.cM, T.n3, M.f3, d.lv, rfl, .inl ⟨_, .inl M.lea⟩, _, rfl, Nat.zero_le _, fun p hp => ?_⟩
    have s0 : Same H (upd H p (.lst [])) := fun b o e => by rw [upd_ne (ne_of_none e hp)]; exact e
    refine ⟨d.lk, .inl q, rfl, .inl (s0 _ _ M.lea), ?_⟩
    by_cases e : nums st q = []
    · rw [M.l1 q e]
      refine ⟨p, [], rfl, SqL.of upd_same, fun l hl => ?_⟩
      have s1 : Same H (upd (upd H p (.lst [])) l (.lst [])) := fun b o z => by rw [upd_ne (ne_of_none (s0 _ _ z) hl)]; exact s0 _ _ z
      exact k _ l s1 (s0.free hl) (by rw [upd_same, e]; rfl)
    · obtain ⟨a, h1, h2⟩ := M.l2 q e
      rw [h1]
      refine ⟨a, _, rfl, SqL.of (s0 _ _ h2), fun l hl => ?_⟩
      have s1 : Same H (upd (upd H p (.lst [])) l (.lst ((nums st q).map natV))) := fun b o z => by rw [upd_ne (ne_of_none (s0 _ _ z) hl)]; exact s0 _ _ z
      exact k _ l s1 (s0.free hl) upd_same
theorem sc40 : FnScope ["watch"] ["watch"] (defScope sCheckWatch) := ⟨rfl, rfl, rfl, by decide +kernel, rfl, by decide +kernel, by decide +kernel⟩
def gsCheckWatch (CW : Addr) : GSp := fun vs H Q => ∃ (a dx : Addr) (fs : List (Str × V)), vs = [.ref a] ∧ H a = some (.ins CW dx fs) ∧ Q .non H
theorem g_checkwatch {f : Addr} {fd : FuncData} (F : Fun K "check_watch" "check_watch" sCheckWatch f fd) (T : TxG K mg CM CW) : GFn P w K mg base 1 f fd ["watch"] (gsCheckWatch CW) := by
  refine F.gok sc40 (fun vs H Q h => ?_) (fun cdv A outer s H vs Q hr h => ?_)
  · obtain ⟨_, _, _, rfl, _⟩ := h
    rfl
  · obtain ⟨a, dx, fs, rfl, ha, q⟩ := h
    refine ⟨_, gps_one (gp_if (gt_not (gt_val (ge_callB gc_isi (by rfl) T.bu.isinst (by rfl) (ga_cons (gv 0) (ga_cons (ge_nm (v := .ref CW) T.gW rfl (by rfl)) ga_nil))))) gps_never gps_nil), ?_⟩
    refine ⟨_, rfl, _, _, _, _, true, rfl, .own _, T.wI H a dx fs ha, T.wK, _, rfl, ?_⟩
    exact iteF q
theorem sc41 : FnScope ["watch", "word"] ["watch", "word"] (defScope sSightOf) := ⟨rfl, rfl, rfl, by decide +kernel, rfl, by decide +kernel, by decide +kernel⟩
def gsSightOf (CW : Addr) : GSp := fun vs H Q => ∃ (a dx tb : Addr) (T : List (Str × Str)) (x : Str), vs = [.ref a, .str x] ∧ WatchAt CW H a dx tb T ∧ Q (seeV (see T x)) H
theorem g_sightof {f : Addr} {fd : FuncData} (F : Fun K "sight_of" "sight_of" sSightOf f fd) (T : TxG K mg CM CW) : GFn P w K mg base 1 f fd ["watch", "word"] (gsSightOf CW) := by
  refine F.gok sc41 (fun vs H Q h => ?_) (fun cdv A outer s H vs Q hr h => ?_)
  · obtain ⟨_, _, _, _, _, rfl, _⟩ := h
    rfl
  · obtain ⟨a, dx, tb, tab, x, rfl, W, q⟩ := h
    refine ⟨_, gps_one (gp_ret (ge_dget1 (ge_fld (gv 0) rfl) (gv 1) ⟨rfl, rfl, rfl, rfl⟩)), ?_⟩
    refine ⟨_, rfl, a, CW, dx, _, _, rfl, W.ins, T.cW, T.n5, by rfl, tb, rfl, .inl ⟨_, .inl W.tab⟩, _, rfl, _, .inr x, rfl, .inl W.tab, ?_⟩
    rw [valV_tab]
    exact q
theorem scSt1 : FnScope ["self"] ["self"] (defScope sStart) := ⟨rfl, rfl, rfl, by decide +kernel, rfl, by decide +kernel, by decide +kernel⟩
def gsStart (CM : Addr) : GSp := fun vs H Q => ∃ (d : MD) (q0 : Int) (st : List Step) (reach : List Int), vs = [.ref d.m] ∧ MachAt CM H d q0 st reach ∧ Q (.int q0) H
theorem g_start {f : Addr} {fd : FuncData} (F : Fun K "start" "Machine.start" sStart f fd) (T : TxG K mg CM CW) : GFn P w K mg base 1 f fd ["self"] (gsStart CM) := by
  refine F.gok scSt1 (fun vs H Q h => ?_) (fun cdv A outer s H vs Q hr h => ?_)
  · obtain ⟨_, _, _, _, rfl, _⟩ := h
    rfl
  · obtain ⟨d, q0, st, reach, rfl, M, k⟩ := h
    refine ⟨_, gps_one (gp_ret (ge_fld (gv 0) rfl)), ?_⟩
    exact ⟨_, rfl, d.m, CM, d.dm, d.fs, _, rfl, M.ins, T.cM, T.n1, M.f1, k⟩
theorem scSt6 : FnScope ["self"] ["self"] (defScope sStates) := ⟨rfl, rfl, rfl, by decide +kernel, rfl, by decide +kernel, by decide +kernel⟩
def gsStates (CM : Addr) : GSp := fun vs H Q => ∃ (d : MD) (q0 : Int) (st : List Step) (reach : List Int), vs = [.ref d.m] ∧ MachAt CM H d q0 st reach ∧ ∀ (H' : Hp) (p : Addr), Same H H' → H p = none → H' p = some (.lst (reach.map .int)) → Q (.ref p) H'
theorem g_states {f : Addr} {fd : FuncData} (F : Fun K "states" "Machine.states" sStates f fd) (T : TxG K mg CM CW) : GFn P w K mg base 1 f fd ["self"] (gsStates CM) := by
  refine F.gok scSt6 (fun vs H Q h => ?_) (fun cdv A outer s H vs Q hr h => ?_)
  · obtain ⟨_, _, _, _, rfl, _⟩ := h
    rfl
  · obtain ⟨d, q0, st, reach, rfl, M, k⟩ := h
    refine ⟨_, gps_one (gp_ret (ge_callTy gc_listL (by rfl) T.bu.list (by rfl) (ga_cons (ge_fld (gv 0) rfl) ga_nil))), ?_⟩
    refine ⟨_, rfl, d.m, CM, d.dm, d.fs, _, rfl, M.ins, T.cM, T.n4, M.f4, d.ms, _, rfl, SqL.of M.met, fun l hl => ?_⟩
    exact k _ l (fun b o e => by rw [upd_ne (ne_of_none e hl)]; exact e) hl upd_same
end
end KN
/-! Plain facts: ascending lists, what a run can reach. -/
namespace KN
open PySem PySem.Spec PyProof.Rows L2
theorem asc_unique {α : Type} {lt : α → α → Prop} (irr : ∀ a, ¬ lt a a) (tr : ∀ a b c, lt a b → lt b c → lt a c) : ∀ {l m : List α}, l.Pairwise lt → m.Pairwise lt → (∀ a, a ∈ l ↔ a ∈ m) → l = m
  | [], [], _, _, _ => rfl
  | [], b :: m, _, _, h => absurd ((h b).mpr List.mem_cons_self) (by simp)
  | a :: l, [], _, _, h => absurd ((h a).mp List.mem_cons_self) (by simp)
  | a :: l, b :: m, hl, hm, h => by
    obtain ⟨hl1, hl2⟩ := List.pairwise_cons.mp hl
    obtain ⟨hm1, hm2⟩ := List.pairwise_cons.mp hm
    have e : a = b := by
      rcases List.mem_cons.mp ((h a).mp List.mem_cons_self) with z | z
      · exact z
      · rcases List.mem_cons.mp ((h b).mpr List.mem_cons_self) with y | y
        · exact y.symm
        · exact absurd (tr _ _ _ (hl1 b y) (hm1 a z)) (irr a)
    subst e
    have tail : ∀ x, x ∈ l ↔ x ∈ m := fun x => by
      constructor
      · intro hx
        rcases List.mem_cons.mp ((h x).mp (List.mem_cons_of_mem _ hx)) with z | z
        · subst z; exact absurd (hl1 x hx) (irr x)
        · exact z
      · intro hx
        rcases List.mem_cons.mp ((h x).mpr (List.mem_cons_of_mem _ hx)) with z | z
        · subst z; exact absurd (hm1 x hx) (irr x)
        · exact z
    rw [asc_unique irr tr hl2 hm2 tail]
theorem nd_le {α : Type} [DecidableEq α] : ∀ {l m : List α}, l.Nodup → (∀ a ∈ l, a ∈ m) → l.length ≤ m.length
  | [], _, _, _ => Nat.zero_le _
  | a :: l, m, hl, h => by
    obtain ⟨h1, h2⟩ := List.nodup_cons.mp hl
    have ha : a ∈ m := h a List.mem_cons_self
    have sub : ∀ b ∈ l, b ∈ m.erase a := fun b hb => by
      have hne : b ≠ a := fun e => h1 (e ▸ hb)
      exact (List.mem_erase_of_ne hne).mpr (h b (List.mem_cons_of_mem _ hb))
    have q := nd_le h2 sub
    have e := List.length_erase_of_mem ha
    have p : 0 < m.length := List.length_pos_of_mem ha
    rw [List.length_cons]
    omega
/-- the numbers a state may be -/
def uni : List Int := (List.range 100).map fun (n : Nat) => (n : Int)
theorem mem_uni {q : Int} : q ∈ uni ↔ 0 ≤ q ∧ q < 100 := by
  unfold uni
  rw [List.mem_map]
  constructor
  · rintro ⟨n, hn, rfl⟩
    have := List.mem_range.mp hn
    omega
  · rintro ⟨h0, h1⟩
    exact ⟨q.toNat, List.mem_range.mpr (by omega), by omega⟩
theorem uni_asc : uni.Pairwise (· < ·) := by
  unfold uni
  rw [List.pairwise_map]
  exact List.pairwise_lt_range.imp fun {a b} h => by omega
theorem uni_len : uni.length = 100 := by simp [uni]
theorem small_len {l : List Int} (h : l.Nodup) (h2 : ∀ q ∈ l, 0 ≤ q ∧ q < 100) : l.length ≤ 100 := by
  have q := nd_le h (m := uni) fun a ha => mem_uni.mpr (h2 a ha)
  rw [uni_len] at q
  exact q
/-- the states that are so, ascending -/
noncomputable def asc (p : Int → Prop) : List Int := by
  classical
  exact uni.filter fun q => decide (p q)
theorem mem_asc {p : Int → Prop} {q : Int} : q ∈ asc p ↔ (0 ≤ q ∧ q < 100) ∧ p q := by
  unfold asc
  rw [List.mem_filter, mem_uni]
  simp
theorem asc_asc (p : Int → Prop) : (asc p).Pairwise (· < ·) := uni_asc.filter _
theorem asc_eq {l : List Int} {p : Int → Prop} (hl : l.Pairwise (· < ·)) (h : ∀ q, q ∈ l ↔ p q) (hp : ∀ q, p q → 0 ≤ q ∧ q < 100) : l = asc p :=
  asc_unique (fun a => Int.lt_irrefl a) (fun a b c => Int.lt_trans) hl (asc_asc p) fun q => by
    rw [h q, mem_asc]
    exact ⟨fun z => ⟨hp q z, z⟩, fun z => z.2⟩
/-- ascending from sorted and free of repeats -/
theorem lt_of_le_nd {l : List Int} (h : l.Pairwise (· ≤ ·)) (n : l.Nodup) : l.Pairwise (· < ·) := by
  have z : l.Pairwise (fun a b => a ≤ b ∧ a ≠ b) := List.Pairwise.and h n
  exact z.imp fun {a b} q => by have q1 := q.1; have q2 := q.2; omega
/-! ### steps -/
def unseen (st : List Step) (T : List (Str × Str)) (q t : Int) : Prop := ∃ e ∈ st, e.1 = q ∧ e.2.2 = t ∧ see T e.2.1 = none
inductive UR (st : List Step) (T : List (Str × Str)) (S : Int → Prop) : Int → Prop where
  | base {q : Int} (h : S q) : UR st T S q
  | step {q t : Int} (h : UR st T S q) (u : unseen st T q t) : UR st T S t
/-- the closure under what is not seen -/
noncomputable def clo (st : List Step) (T : List (Str × Str)) (S : List Int) : List Int := asc (UR st T (· ∈ S))
/-- every state of the steps is small -/
def Small (st : List Step) : Prop := ∀ e ∈ st, (0 ≤ e.1 ∧ e.1 < 100) ∧ (0 ≤ e.2.2 ∧ e.2.2 < 100)
theorem ur_small {st : List Step} {T : List (Str × Str)} {S : Int → Prop} (hs : Small st) (h0 : ∀ q, S q → 0 ≤ q ∧ q < 100) {q : Int} (h : UR st T S q) : 0 ≤ q ∧ q < 100 := by
  cases h with
  | base h => exact h0 _ h
  | step _ u =>
    obtain ⟨e, he, _, rfl, _⟩ := u
    exact (hs e he).2
theorem mem_nums {st : List Step} {q : Int} {i : Nat} : i ∈ nums st q ↔ ∃ e, st[i]? = some e ∧ e.1 = q := by
  unfold nums
  rw [List.mem_filter, List.mem_range]
  simp only [decide_eq_true_eq]
  constructor
  · rintro ⟨h, h2⟩
    rw [List.getElem?_eq_getElem h] at h2 ⊢
    exact ⟨_, rfl, Option.some.inj h2⟩
  · rintro ⟨e, h, rfl⟩
    refine ⟨(List.getElem?_eq_some_iff.mp h).1, ?_⟩
    rw [h]
    rfl
/-- the closure's loop has come to its end -/
theorem clo_of {st : List Step} {T : List (Str × Str)} {S ks : List Int} (hs : Small st) (h0 : ∀ q ∈ S, 0 ≤ q ∧ q < 100) (sound : ∀ k ∈ ks, UR st T (· ∈ S) k) (base : ∀ q ∈ S, q ∈ ks) (closed : ∀ k ∈ ks, ∀ t, unseen st T k t → t ∈ ks) {l : List Int}
    (hp : l.Perm ks) (hn : ks.Nodup) (hl : l.Pairwise (· ≤ ·)) : l = clo st T S := by
  refine asc_eq (lt_of_le_nd hl (hp.symm.nodup hn)) (fun q => ?_) fun q h => ur_small hs h0 h
  rw [hp.mem_iff]
  constructor
  · exact sound q
  · intro h
    induction h with
    | base h => exact base _ h
    | step _ u ih => exact closed _ ih _ u
end KN
/-! The closure under what is not seen, as the text makes it. -/
namespace KN
open PySem PySem.Spec PyProof.Rows L2
/-- a dict comprehension over a list that stays -/
theorem dc_lst {K : PySem.W.Frag} {a : Addr} {xs : List V} {g : TG} {tt : TT} {tk tv : TE} {vs : List Nat} {σ : St} {H1 : Hp} {D : Addr} {Qd : Hp → Prop} (Pv : Nat → Hp → Prop) (h0 : Pv 0 (upd H1 D (.dK []))) (hl : ∀ i H, i ≤ xs.length → Pv i H → SqL K H a xs)
    (hs : ∀ i x H, xs[i]? = some x → Pv i H → g x (wipe σ vs) H fun σ2 H2 => wipe σ2 vs = wipe σ vs ∧ tt σ2 H2 fun b H3 =>
      if b = true then tk σ2 H3 fun y H4 => tv σ2 H4 fun z H5 => ∃ kvs k, y = kV k ∧ H5 D = some (.dK kvs) ∧ kvs.length < sizeLine ∧ Pv (i + 1) (upd H5 D (.dK (putK kvs k z))) else Pv (i + 1) H3) (hd : ∀ H, Pv xs.length H → Qd H) :
    ∃ W : Nat → Nat → Hp → Prop, (∃ m, W 0 m (upd H1 D (.dK []))) ∧ ∀ i m H, W i m H →
      ((Itl K a).stop i H ∧ Qd H) ∨ ((Itl K a).go i H ∧ ∃ Nx : Hp → Prop, (∀ H', Nx H' → ∃ m', m' < m ∧ W (i + 1) m' H') ∧ ∀ x H', (Itl K a).yld i H x H' → g x (wipe σ vs) H' fun σ2 H2 => wipe σ2 vs = wipe σ vs ∧ tt σ2 H2 fun b H3 =>
        if b = true then tk σ2 H3 fun y H4 => tv σ2 H4 fun z H5 => ∃ kvs k, y = kV k ∧ H5 D = some (.dK kvs) ∧ kvs.length < sizeLine ∧ Nx (upd H5 D (.dK (putK kvs k z))) else Nx H3) := by
  refine ⟨fun i m H => m = xs.length - i ∧ i ≤ xs.length ∧ Pv i H, ⟨xs.length, by simp, Nat.zero_le _, h0⟩, ?_⟩
  rintro i m H ⟨rfl, hi, p⟩
  have q := hl i H hi p
  by_cases hlt : i < xs.length
  · refine .inr ⟨⟨xs, xs[i], q, by simp [hlt]⟩, Pv (i + 1), fun H' p' => ⟨xs.length - (i + 1), by omega, rfl, hlt, p'⟩, fun x H' y => ?_⟩
    obtain ⟨e, y⟩ := y
    subst e
    exact hs i x _ (y xs q) p
  · have e : i = xs.length := by omega
    subst e
    exact .inl ⟨⟨xs, q, Nat.le_refl _⟩, hd H p⟩
/-! ### dicts that serve as sets of states -/
def setK (ks : List Int) : List (Key × V) := ks.map fun k => (.inl k, .bl true)
theorem setK_has : ∀ (ks : List Int) (k : Int), (valV (setK ks) (.inl k)).isSome = decide (k ∈ ks)
  | [], k => by simp [setK, valV]
  | j :: ks, k => by
    have ih := setK_has ks k
    by_cases e : j = k
    · have e' : (Sum.inl j : Key) = .inl k := by rw [e]
      unfold setK
      rw [List.map_cons, valV_pos (p := ((Sum.inl j : Key), V.bl true)) e']
      simp [e]
    · have e' : ¬ (Sum.inl j : Key) = .inl k := fun q => e (Sum.inl.inj q)
      unfold setK at ih ⊢
      rw [List.map_cons, valV_neg (p := ((Sum.inl j : Key), V.bl true)) e', ih]
      have e2 : ¬ k = j := fun q => e q.symm
      simp [e2]
theorem setK_none {ks : List Int} {k : Int} (h : k ∉ ks) : valV (setK ks) (.inl k) = none := by
  have q := setK_has ks k
  rw [decide_eq_false h] at q
  cases e : valV (setK ks) (.inl k) with
  | none => rfl
  | some v => rw [e] at q; cases q
/-- one key more -/
def addS (ks : List Int) (k : Int) : List Int := if k ∈ ks then ks else ks ++ [k]
theorem setK_put (ks : List Int) (k : Int) : putK (setK ks) (.inl k) (.bl true) = setK (addS ks k) := by
  unfold addS
  by_cases h : k ∈ ks
  · rw [if_pos h]
    unfold putK
    have e : ((setK ks).any fun kv => decide (kv.1 = (Sum.inl k : Key))) = true := by
      rw [valV_any, setK_has, decide_eq_true h]
    rw [if_pos e]
    unfold setK
    rw [List.map_map]
    refine List.map_congr_left fun a _ => ?_
    show (if (Sum.inl a : Key) = .inl k then ((Sum.inl a : Key), V.bl true) else (.inl a, .bl true)) = (.inl a, .bl true)
    split <;> rfl
  · rw [if_neg h, putK_new _ (setK_none h)]
    unfold setK
    rw [List.map_append]
    rfl
theorem setK_keys (ks : List Int) : ((setK ks).map fun kv => kV kv.1) = ks.map V.int := by
  unfold setK
  rw [List.map_map]
  rfl
theorem setK_len (ks : List Int) : (setK ks).length = ks.length := by unfold setK; rw [List.length_map]
theorem mem_addS {ks : List Int} {k j : Int} : j ∈ addS ks k ↔ j ∈ ks ∨ j = k := by
  unfold addS
  by_cases h : k ∈ ks
  · rw [if_pos h]
    exact ⟨.inl, fun z => z.elim id fun e => e ▸ h⟩
  · rw [if_neg h, List.mem_append, List.mem_singleton]
theorem nd_addS {ks : List Int} {k : Int} (h : ks.Nodup) : (addS ks k).Nodup := by
  unfold addS
  by_cases e : k ∈ ks
  · rw [if_pos e]; exact h
  · rw [if_neg e, List.nodup_append]
    exact ⟨h, by simp, fun a ha b hb => by rw [List.mem_singleton.mp hb]; exact fun q => e (q ▸ ha)⟩
theorem addS_new {ks : List Int} {k : Int} (h : k ∉ ks) : addS ks k = ks ++ [k] := if_neg h
theorem tYes_ok {σ : St} {H : Hp} {Q : Bool → Hp → Prop} (h : Q true H) : tYes σ H Q := h
theorem lt100 {n : Nat} (h : n ≤ 100) : n < sizeLine := Nat.lt_of_le_of_lt h (by decide)
end KN
namespace KN
open PySem PySem.Spec PyProof.Rows L2
abbrev sClo : Stmt := top 46
/-- the defs that the closures call -/
structure Cal (P : Program) (w : World) (K : PySem.W.Frag) (mg : Str → Option Value) (base : Heap) (CM CW f1 f2 : Addr) (fd1 fd2 : FuncData) : Prop where
  F1 : GFn P w K mg base 1 f1 fd1 ["machine", "state"] (gsStepsFrom CM)
  b1 : Binds K fd1 ["machine", "state"] []
  m1 : mg "steps_from" = some (.ref f1)
  k1 : PySem.W.keepIn K (.ref f1) = true
  F2 : GFn P w K mg base 1 f2 fd2 ["watch", "word"] (gsSightOf CW)
  b2 : Binds K fd2 ["watch", "word"] []
  m2 : mg "sight_of" = some (.ref f2)
  k2 : PySem.W.keepIn K (.ref f2) = true
theorem _root_.L2.Same.upd {H H' : Hp} {p : Addr} {o : HO} (s : Same H H') (h : H p = none) : Same H (upd H' p o) := fun b u e => by
  rw [upd_ne (ne_of_none e h)]
  exact s b u e
theorem same_rfl {H : Hp} : Same H H := fun _ _ e => e
/-- the loop's word: keys so far, states still to look at; hot: one that is being looked at -/
structure CI (st : List Step) (T : List (Str × Str)) (S ks ws : List Int) (hot : Int → Prop) : Prop where
  nd : ks.Nodup
  sm : ∀ k ∈ ks, 0 ≤ k ∧ k < 100
  sound : ∀ k ∈ ks, UR st T (· ∈ S) k
  base : ∀ k ∈ S, k ∈ ks
  sub : ∀ k ∈ ws, k ∈ ks
  closed : ∀ k ∈ ks, k ∉ ws → ¬ hot k → ∀ t, unseen st T k t → t ∈ ks
theorem CI.len {st : List Step} {T : List (Str × Str)} {S ks ws : List Int} {hot : Int → Prop} (c : CI st T S ks ws hot) : ks.length ≤ 100 := small_len c.nd c.sm
theorem CI.pop {st : List Step} {T : List (Str × Str)} {S ks ws : List Int} {q : Int} (c : CI st T S ks (ws ++ [q]) fun _ => False) : CI st T S ks ws (· = q) :=
  ⟨c.nd, c.sm, c.sound, c.base, fun k h => c.sub k (List.mem_append_left _ h), fun k h1 h2 h3 t u => c.closed k h1 (fun z => (List.mem_append.mp z).elim h2 fun y => h3 (List.mem_singleton.mp y)) (fun z => z) t u⟩
theorem CI.add {st : List Step} {T : List (Str × Str)} {S ks ws : List Int} {hot : Int → Prop} (c : CI st T S ks ws hot) (hs : Small st) {q t : Int} (hq : q ∈ ks) (u : unseen st T q t) : CI st T S (addS ks t) (ws ++ [t]) hot := by
  refine ⟨nd_addS c.nd, fun k h => ?_, fun k h => ?_, fun k h => mem_addS.mpr (.inl (c.base k h)), fun k h => ?_, fun k h1 h2 h3 y v => ?_⟩
  · rcases mem_addS.mp h with z | z
    · exact c.sm k z
    · subst z
      obtain ⟨e, he, _, rfl, _⟩ := u
      exact (hs e he).2
  · rcases mem_addS.mp h with z | z
    · exact c.sound k z
    · subst z; exact .step (c.sound q hq) u
  · rcases List.mem_append.mp h with z | z
    · exact mem_addS.mpr (.inl (c.sub k z))
    · exact mem_addS.mpr (.inr (List.mem_singleton.mp z))
  · rcases mem_addS.mp h1 with z | z
    · exact mem_addS.mpr (.inl (c.closed k z (fun w => h2 (List.mem_append_left _ w)) h3 y v))
    · exact absurd (List.mem_append_right _ (List.mem_singleton.mpr z)) h2
theorem CI.done {st : List Step} {T : List (Str × Str)} {S ks ws : List Int} {q : Int} (c : CI st T S ks ws (· = q)) (h : ∀ t, unseen st T q t → t ∈ ks) : CI st T S ks ws fun _ => False :=
  ⟨c.nd, c.sm, c.sound, c.base, c.sub, fun k h1 h2 _ t u => by
    by_cases e : k = q
    · subst e; exact h t u
    · exact c.closed k h1 h2 e t u⟩
theorem list_snoc : ∀ (l : List Int), l = [] ∨ ∃ l0 q, l = l0 ++ [q]
  | [] => .inl rfl
  | a :: l => .inr (by
    rcases list_snoc l with rfl | ⟨l0, q, rfl⟩
    · exact ⟨[], a, rfl⟩
    · exact ⟨a :: l0, q, rfl⟩)
section
variable {P : Program} {w : World} {K : PySem.W.Frag} {mg : Str → Option Value} {base : Heap} {CM CW f1 f2 : Addr} {fd1 fd2 : FuncData}
abbrev nClo : List Str := ["machine", "watch", "states", "met", "waiting", "state", "number", "row"]
theorem sc46 : FnScope nClo ["machine", "watch", "states"] (defScope sClo) := ⟨rfl, rfl, rfl, by decide +kernel, rfl, by decide +kernel, by decide +kernel⟩
def gsClo (CM CW : Addr) : GSp := fun vs H Q => ∃ (d : MD) (q0 : Int) (st : List Step) (reach : List Int) (wt dw tb a : Addr) (tab : List (Str × Str)) (S : List Int), vs = [.ref d.m, .ref wt, .ref a] ∧ MachAt CM H d q0 st reach ∧ WatchAt CW H wt dw tb tab ∧ H a = some (.lst (S.map .int)) ∧
  Small st ∧ (∀ q ∈ S, 0 ≤ q ∧ q < 100) ∧ ∀ (H' : Hp) (p : Addr), Same H H' → H p = none → H' p = some (.lst ((clo st tab S).map .int)) → Q (.ref p) H'
theorem g_clo {f : Addr} {fd : FuncData} (F : Fun K "unseen_closure" "unseen_closure" sClo f fd) (T : TxG K mg CM CW) (L : Cal P w K mg base CM CW f1 f2 fd1 fd2) : GFn P w K mg base 2 f fd ["machine", "watch", "states"] (gsClo CM CW) := by
  refine F.gok sc46 (fun vs H Q h => ?_) (fun cdv A outer s H vs Q hr h => ?_)
  · obtain ⟨_, _, _, _, _, _, _, _, _, _, rfl, _⟩ := h
    rfl
  · obtain ⟨d, q0, st, reach, wt, dw, tb, a, tab, S, rfl, M, W, hS, sm, s0, k⟩ := h
    refine ⟨_, gps_cons (gp_setDc (i := 3) (own := [("state", 5)]) rfl sc46.nd rfl rfl (swD_true rfl rfl rfl rfl) (gi_list (gv 2)) (blkOk_by rfl) (fun _ _ _ _ _ => gg_name (i := 5) sc46.nd rfl (Or.inl rfl) (.inr rfl)) (fun _ _ _ _ _ => gts_nil) (fun _ _ _ _ _ => gv 5) (fun _ _ _ _ _ => ge_bl))
      (gps_cons (gp_set (i := 4) sc46.nd rfl (Or.inl rfl) (ge_callTy (gc_listD rfl) (by rfl) T.bu.list (by rfl) (ga_cons (gv 3) ga_nil)))
      (gps_cons (gp_while (gt_list (gv 4))
        (gps_cons (gp_set (i := 5) sc46.nd rfl (Or.inl rfl) (ge_bm0 PySem.F.plainAttrs_list PySem.F.slot_list_pop PySem.F.type_list_pop gm_pop (gv 4)))
        (gps_one (gp_for rfl (gi_list (ge_call L.F1 hr (by rfl) L.m1 L.k1 L.b1 (ga_cons (gv 0) (ga_cons (gv 5) ga_nil)))) (gg_name (i := 6) sc46.nd rfl (Or.inl rfl))
          (gps_cons (gp_set (i := 7) sc46.nd rfl (Or.inl rfl) (ge_ixL (ge_fld (gv 0) rfl) (gv 6) (by intro _ _; rfl)))
          (gps_one (gp_if (gw_and (gt_cmp go_isN (ge_call L.F2 hr (by rfl) L.m2 L.k2 L.b2 (ga_cons (gv 1) (ga_cons (ge_ixT (gv 7) ge_int (by intro _ _; rfl)) ga_nil))) ge_non (nomark _)) (gw_and1 (gt_cmp go_dnotin (ge_ixT (gv 7) ge_int (by intro _ _; rfl)) (gv 3) (by rfl)))).gt
            (gps_cons (gp_asg ge_bl (gg_dset (gv 3) (ge_ixT (gv 7) ge_int (by intro _ _; rfl))))
            (gps_one (gp_expr (ge_bm PySem.F.plainAttrs_list PySem.F.slot_list_append PySem.F.type_list_append gm_append (gv 4) (ga_cons (ge_ixT (gv 7) ge_int (by intro _ _; rfl)) ga_nil)))))
            gps_nil)))))))
      (gps_one (gp_ret (ge_callB gc_sortI (by rfl) T.bu.sorted (by rfl) (ga_cons (ge_callTy (gc_listD rfl) (by rfl) T.bu.list (by rfl) (ga_cons (gv 3) ga_nil)) ga_nil)))))), ?_⟩
    -- met
    refine ⟨_, rfl, a, rfl, ⟨_, SqL.of hS⟩, fun md hmd => dc_lst (a := a) (xs := S.map .int) (fun i H' => ∃ ks, L2.Same H H' ∧ H' md = some (.dK (setK ks)) ∧ ks.Nodup ∧ ∀ q, q ∈ ks ↔ q ∈ S.take i)
      ⟨[], Same.upd same_rfl hmd, upd_same, List.nodup_nil, fun q => by simp⟩ (fun i H' _ ⟨_, s', _⟩ => SqL.of (s' _ _ hS)) ?_ ?_⟩
    · rintro i x H' hi ⟨ks, s', hd, nd, mem⟩
      obtain ⟨q, hq, rfl⟩ : ∃ q, S[i]? = some q ∧ x = V.int q := by
        rw [List.getElem?_map] at hi
        cases e : S[i]? with
        | none => rw [e] at hi; cases hi
        | some q => rw [e] at hi; exact ⟨q, rfl, (Option.some.inj hi).symm⟩
      have sub : ∀ k ∈ ks, 0 ≤ k ∧ k < 100 := fun k hk => s0 k (List.mem_of_mem_take ((mem k).mp hk))
      refine ⟨rfl, ?_⟩
      refine tYes_ok ?_
      refine iteT ?_
      refine ⟨_, rfl, setK ks, .inl q, rfl, hd, by rw [setK_len]; exact lt100 (small_len nd sub), addS ks q, s'.upd hmd, by rw [upd_same, setK_put], nd_addS nd, fun r => ?_⟩
      rw [mem_addS, mem, List.take_add_one, hq, List.mem_append]
      simp
    rintro H1 ⟨ks0, s1, hd1, nd0, mem0⟩
    rw [List.length_map, List.take_length] at mem0
    -- waiting
    refine ⟨_, rfl, md, setK ks0, rfl, .inl hd1, fun wl hwl => ?_⟩
    rw [setK_keys]
    have hwl0 : H wl = none := s1.free hwl
    have nmw : md ≠ wl := ne_of_none hd1 hwl
    have w0 : CI st tab S ks0 ks0 fun _ => False := ⟨nd0, fun k hk => s0 k ((mem0 k).mp hk), fun k hk => .base ((mem0 k).mp hk), fun k hk => (mem0 k).mpr hk, fun k hk => hk, fun k h1 h2 => absurd h1 h2⟩
    -- the loop
    refine ⟨fun m σ H' => ∃ (ks ws : List Int) (v5 v6 v7 : Option V), σ = [some (.ref d.m), some (.ref wt), some (.ref a), some (.ref md), some (.ref wl), v5, v6, v7] ∧ Same H H' ∧ H' md = some (.dK (setK ks)) ∧ H' wl = some (.lst (ws.map .int)) ∧ CI st tab S ks ws (fun _ => False) ∧ m = 2 * (100 - ks.length) + ws.length ∧ m ≤ 200,
      ⟨_, ks0, ks0, none, none, none, rfl, s1.upd hwl0, by rw [upd_ne nmw]; exact hd1, upd_same, w0, rfl, by have := w0.len; omega⟩, ?_⟩
    rintro m σ H2 ⟨ks, ws, v5, v6, v7, rfl, s2, hd2, hw2, c2, rfl, m200⟩
    refine ⟨_, rfl, wl, _, rfl, SqL.of hw2, ?_⟩
    rcases list_snoc ws with rfl | ⟨ws0, q, rfl⟩
    · -- sorted(list(met))
      refine iteF ⟨_, rfl, md, setK ks, rfl, .inl hd2, fun l hl => ?_⟩
      rw [setK_keys]
      refine ⟨l, ks, rfl, SqL.of upd_same, fun ns p hp hpw hpn => ?_⟩
      have e : ns = clo st tab S := clo_of sm s0 c2.sound c2.base (fun k hk t u => c2.closed k hk (by simp) (fun z => z) t u) hp c2.nd hpw
      subst e
      have s3 : Same H (upd H2 l (.lst (ks.map .int))) := s2.upd (s2.free hl)
      exact k _ p (s3.upd (s3.free hpn)) (s3.free hpn) upd_same
    · rw [show (!((ws0 ++ [q]).map V.int).isEmpty) = true by simp]
      refine iteT ⟨fun σ' H' => ∃ m', m' < 2 * (100 - ks.length) + (ws0 ++ [q]).length ∧ ∃ (ks ws : List Int) (v5 v6 v7 : Option V), σ' = [some (.ref d.m), some (.ref wt), some (.ref a), some (.ref md), some (.ref wl), v5, v6, v7] ∧ Same H H' ∧ H' md = some (.dK (setK ks)) ∧ H' wl = some (.lst (ws.map .int)) ∧ CI st tab S ks ws (fun _ => False) ∧ m' = 2 * (100 - ks.length) + ws.length ∧ m' ≤ 200,
        fun _ _ z => z, ?_⟩
      -- state = waiting.pop()
      refine ⟨_, rfl, .inl ⟨rfl, _, SqL.of hw2⟩, wl, _, .int q, rfl, rfl, hw2, by simp, ?_⟩
      rw [show ((ws0 ++ [q]).map V.int).dropLast = ws0.map V.int by simp]
      have hd3 : upd H2 wl (.lst (ws0.map V.int)) md = some (.dK (setK ks)) := by rw [upd_ne nmw]; exact hd2
      have s3 : Same H (upd H2 wl (.lst (ws0.map V.int))) := s2.upd hwl0
      have hq : q ∈ ks := c2.sub q (List.mem_append_right _ (List.mem_singleton.mpr rfl))
      -- for number in steps_from(machine, state)
      refine ⟨_, rfl, _, rfl, d, q0, st, reach, q, rfl, M.same s3, fun H4 nl s4 hnl hl4 => ⟨nl, rfl, ⟨_, SqL.of hl4⟩, ?_⟩⟩
      have nnm : nl ≠ md := (ne_of_none hd3 hnl).symm
      have nnw : nl ≠ wl := (ne_of_none (H := upd H2 wl (.lst (ws0.map V.int))) upd_same hnl).symm
      have s4' : Same H H4 := fun b o e => s4 _ _ (s3 _ _ e)
      refine for_list (a := nl) (xs := (nums st q).map natV) (fun i σ' H' => ∃ (ks' ws' : List Int) (v6 v7 : Option V), σ' = [some (.ref d.m), some (.ref wt), some (.ref a), some (.ref md), some (.ref wl), some (.int q), v6, v7] ∧ Same H H' ∧ H' nl = some (.lst ((nums st q).map natV)) ∧
          H' md = some (.dK (setK ks')) ∧ H' wl = some (.lst (ws'.map .int)) ∧ CI st tab S ks' ws' (· = q) ∧ q ∈ ks' ∧ 2 * (100 - ks'.length) + ws'.length ≤ 2 * (100 - ks.length) + ws0.length ∧
          ∀ j n e, j < i → (nums st q)[j]? = some n → st[n]? = some e → see tab e.2.1 = none → e.2.2 ∈ ks')
        ⟨ks, ws0, v6, v7, rfl, s4', hl4, s4 _ _ hd3, s4 _ _ upd_same, c2.pop, hq, Nat.le_refl _, fun j n e h => absurd h (Nat.not_lt_zero _)⟩ (fun i σ' H' _ ⟨_, _, _, _, _, _, hl, _⟩ => SqL.of hl) ?_ ?_
      · rintro i x σ' H5 hi ⟨ks', ws', v6, v7, rfl, s5, hl5, hd5, hw5, c5, hq5, mu5, pr5⟩
        obtain ⟨n, hn, rfl⟩ : ∃ n, (nums st q)[i]? = some n ∧ x = natV n := by
          rw [List.getElem?_map] at hi
          cases e : (nums st q)[i]? with
          | none => rw [e] at hi; cases hi
          | some n => rw [e] at hi; exact ⟨n, rfl, (Option.some.inj hi).symm⟩
        obtain ⟨e, he, eq1⟩ := mem_nums.mp (List.mem_of_getElem? hn)
        have M5 := M.same s5
        have W5 := W.same s5
        obtain ⟨ra, hra⟩ : ∃ ra, d.ra[n]? = some ra := by
          have hlt := (List.getElem?_eq_some_iff.mp he).1
          exact ⟨_, List.getElem?_eq_getElem (by rw [M.rlen]; exact hlt)⟩
        have hrow := M5.row n ra e hra he
        -- row = machine.step_rows[number]
        refine ⟨_, rfl, d.m, CM, d.dm, d.fs, _, rfl, M5.ins, T.cM, T.n2, M5.f2, _, rfl, d.rl, _, n, .ref ra, rfl, rfl, SqL.of M5.rows, by rw [List.getElem?_map, hra]; rfl, ?_⟩
        -- sight_of(watch, row[1]) is None and row[2] not in met
        have hds : ∀ {b o}, upd H5 md b o = upd H5 md b o := rfl
        refine ⟨_, rfl, _, rfl, ra, _, 1, _, rfl, rfl, SqT.of hrow, rfl, wt, dw, tb, tab, e.2.1, rfl, W5, rfl, _, rfl, ?_⟩
        -- the next turn from the same keys
        have stay : ∀ v : Option V, (see tab e.2.1 = none → e.2.2 ∈ ks') → ∃ (ks' ws' : List Int) (v6 v7 : Option V), [some (V.ref d.m), some (.ref wt), some (.ref a), some (.ref md), some (.ref wl), some (.int q), some (natV n), v] = [some (.ref d.m), some (.ref wt), some (.ref a), some (.ref md), some (.ref wl), some (.int q), v6, v7] ∧ Same H H5 ∧ H5 nl = some (.lst ((nums st q).map natV)) ∧
          H5 md = some (.dK (setK ks')) ∧ H5 wl = some (.lst (ws'.map .int)) ∧ CI st tab S ks' ws' (· = q) ∧ q ∈ ks' ∧ 2 * (100 - ks'.length) + ws'.length ≤ 2 * (100 - ks.length) + ws0.length ∧
          ∀ j n e, j < i + 1 → (nums st q)[j]? = some n → st[n]? = some e → see tab e.2.1 = none → e.2.2 ∈ ks' := fun v hv => by
          refine ⟨ks', ws', some (natV n), v, rfl, s5, hl5, hd5, hw5, c5, hq5, mu5, fun j n' e' hj hn' he' hs => ?_⟩
          rcases Nat.lt_succ_iff_lt_or_eq.mp hj with z | z
          · exact pr5 j n' e' z hn' he' hs
          · subst z
            rw [hn] at hn'
            cases hn'
            rw [he] at he'
            cases he'
            exact hv hs
        cases hse : see tab e.2.1 with
        | some y =>
          rw [show decide (seeV (some y) = V.non) = false from rfl]
          refine iteF (iteF ?_)
          exact stay _ fun z => by rw [hse] at z; cases z
        | none =>
          rw [show decide (seeV none = V.non) = true from rfl]
          refine iteT ⟨_, rfl, ra, _, 2, .int e.2.2, rfl, rfl, SqT.of hrow, rfl, _, rfl, md, setK ks', .inl e.2.2, rfl, rfl, .inl hd5, _, rfl, ?_⟩
          rw [setK_has]
          by_cases hm : e.2.2 ∈ ks'
          · rw [decide_eq_true hm]
            exact iteF (stay _ fun _ => hm)
          · rw [decide_eq_false hm]
            -- met[row[2]] = True; waiting.append(row[2])
            have hu : unseen st tab q e.2.2 := ⟨e, List.mem_of_getElem? he, eq1, rfl, hse⟩
            have c6 := c5.add sm hq5 hu
            have l5 := c5.len
            refine iteT ⟨_, rfl, _, rfl, ra, _, 2, .int e.2.2, rfl, rfl, SqT.of hrow, rfl, md, setK ks', .inl e.2.2, rfl, rfl, hd5, by rw [setK_len]; exact lt100 l5, ?_⟩
            rw [setK_put]
            have s6 : Same H (upd H5 md (.dK (setK (addS ks' e.2.2)))) := s5.upd hmd
            have hw6 : upd H5 md (.dK (setK (addS ks' e.2.2))) wl = some (.lst (ws'.map .int)) := by rw [upd_ne nmw.symm]; exact hw5
            have hrow6 := (M.same s6).row n ra e hra he
            have lw : ws'.length ≤ 300 := by
              rw [List.length_append, List.length_singleton] at m200
              omega
            refine ⟨_, rfl, .inl ⟨rfl, _, SqL.of hw6⟩, _, rfl, ra, _, 2, .int e.2.2, rfl, rfl, SqT.of hrow6, rfl, wl, _, .int e.2.2, rfl, rfl, hw6, by rw [List.length_map]; exact Nat.lt_of_le_of_lt lw (by decide), ?_⟩
            rw [show ws'.map V.int ++ [V.int e.2.2] = (ws' ++ [e.2.2]).map V.int by simp]
            refine ⟨addS ks' e.2.2, ws' ++ [e.2.2], some (natV n), some (.ref ra), rfl, s6.upd hwl0, ?_, ?_, upd_same, c6, mem_addS.mpr (.inl hq5), ?_, fun j n' e' hj hn' he' hs => ?_⟩
            · rw [upd_ne nnw, upd_ne nnm]; exact hl5
            · rw [upd_ne nmw, upd_same]
            · have h1 := c6.len
              rw [addS_new hm, List.length_append, List.length_singleton] at h1 ⊢
              rw [List.length_append, List.length_singleton]
              omega
            · rcases Nat.lt_succ_iff_lt_or_eq.mp hj with z | z
              · exact mem_addS.mpr (.inl (pr5 j n' e' z hn' he' hs))
              · subst z
                rw [hn] at hn'
                cases hn'
                rw [he] at he'
                cases he'
                exact mem_addS.mpr (.inr rfl)
      · rintro σ' H5 ⟨ks', ws', v6, v7, rfl, s5, hl5, hd5, hw5, c5, hq5, mu5, pr5⟩
        rw [List.length_append, List.length_singleton] at m200
        refine ⟨2 * (100 - ks'.length) + ws'.length, ?_, ks', ws', some (.int q), v6, v7, rfl, s5, hd5, hw5, c5.done fun t u => ?_, rfl, by omega⟩
        · rw [List.length_append, List.length_singleton]
          omega
        · obtain ⟨e, he, e1, rfl, hs⟩ := u
          obtain ⟨n, hn⟩ := List.getElem?_of_mem he
          have hm : n ∈ nums st q := mem_nums.mpr ⟨e, hn, e1⟩
          obtain ⟨j, hj⟩ := List.getElem?_of_mem hm
          have hlt := (List.getElem?_eq_some_iff.mp hj).1
          exact pr5 j n e (by rw [List.length_map]; exact hlt) hj hn hs
end
end KN
/-! able_states. -/
namespace KN
open PySem PySem.Spec PyProof.Rows L2
abbrev sAble : Stmt := top 47
def seen (st : List Step) (T : List (Str × Str)) (q t : Int) : Prop := ∃ e ∈ st, e.1 = q ∧ e.2.2 = t ∧ see T e.2.1 ≠ none
/-- one level above another -/
structure Above (st : List Step) (T : List (Str × Str)) (reach lo hi : List Int) : Prop where
  s : ∀ q ∈ reach, ∀ t, seen st T q t → t ∈ lo → q ∈ hi
  u : ∀ q ∈ reach, ∀ t, unseen st T q t → t ∈ hi → q ∈ hi
/-- levels, from the lowest -/
def AbleL (st : List Step) (T : List (Str × Str)) (reach : List Int) (L : List (List Int)) : Prop :=
  (∀ lo, L[0]? = some lo → ∀ q ∈ reach, q ∈ lo) ∧ ∀ (j : Nat) (lo hi : List Int), L[j]? = some lo → L[j + 1]? = some hi → Above st T reach lo hi
/-- the levels' dicts -/
def LvAt (H : Hp) (lv : Addr) (L : List (List Int)) (ads : List Addr) : Prop :=
  H lv = some (.lst (ads.map .ref)) ∧ ads.length = L.length ∧ ∀ (i : Nat) (a : Addr) (ks : List Int), ads[i]? = some a → L[i]? = some ks → H a = some (.dK (setK ks))
theorem LvAt.same {H H' : Hp} {lv : Addr} {L : List (List Int)} {ads : List Addr} (x : LvAt H lv L ads) (s : Same H H') : LvAt H' lv L ads := ⟨s _ _ x.1, x.2.1, fun i a ks h1 h2 => s _ _ (x.2.2 i a ks h1 h2)⟩
/-- a property of the machine -/
structure Prp (P : Program) (w : World) (K : PySem.W.Frag) (mg : Str → Option Value) (base : Heap) (C : Addr) (nm : Str) (pa g : Addr) (fd : FuncData) (sp : GSp) : Prop where
  p : PropOf K C nm pa g
  F : GFn P w K mg base 1 g fd ["self"] sp
  b : Binds K fd ["self"] []
/-- for state in machine.states: for number in steps_from(machine, state): row = machine.step_rows[number]; body -/
abbrev sweepT (K : PySem.W.Frag) (CM : Addr) (body : TS) : TS :=
  tFor (iList K (gProp CM (gsStates CM) (tVar 0))) (gName 6) (tFor (iList K (gCall (gsStepsFrom CM) (tCons (tVar 0) (tCons (tVar 6) tNil)))) (gName 7)
    (tSeq (tAsg (tOp (fun x y H Q => ∃ (p : Addr) (xs : List V) (j : Nat) (v : V), x = .ref p ∧ y = .int j ∧ SqL K H p xs ∧ xs[j]? = some v ∧ Q v H) (tFld K (tVar 0) "step_rows") (tVar 7)) (gName 8)) body))
theorem sweep {K : PySem.W.Frag} {mg : Str → Option Value} {CM CW : Addr} (T : TxG K mg CM CW) {d : MD} {q0 : Int} {st : List Step} {reach : List Int} {c1 c2 c3 c4 v6 v7 v8 v9 : Option V} {gd : Addr} {body : TS} {D : Ends} {H : Hp} (I : (Step → Prop) → Option V → Hp → Prop)
    (hM : ∀ dn v H', I dn v H' → MachAt CM H' d q0 st reach ∧ ∃ o, H' gd = some o) (hnew : ∀ dn v H' H'', I dn v H' → Same H' H'' → I dn v H'') (h0 : I (fun _ => False) v9 H)
    (hb : ∀ dn v H' e ra v7 (Dx : Ends), e ∈ st → e.1 ∈ reach → I dn v H' → H' ra = some (.tup (stepV e)) →
      (∀ v'' H'', I (fun x => dn x ∨ x = e) v'' H'' → (∀ b o, b ≠ gd → H' b = some o → H'' b = some o) → Dx.nx [some (.ref d.m), c1, c2, c3, c4, some (.ref gd), some (.int e.1), v7, some (.ref ra), v''] H'') →
      body Dx [some (.ref d.m), c1, c2, c3, c4, some (.ref gd), some (.int e.1), v7, some (.ref ra), v] H')
    (hd : ∀ dn v H' v6 v7 v8, I dn v H' → (∀ e ∈ st, e.1 ∈ reach → dn e) → D.nx [some (.ref d.m), c1, c2, c3, c4, some (.ref gd), v6, v7, v8, v] H') :
    sweepT K CM body D [some (.ref d.m), c1, c2, c3, c4, some (.ref gd), v6, v7, v8, v9] H := by
  obtain ⟨M, og, hg⟩ := hM _ _ _ h0
  refine ⟨_, rfl, d.m, d.dm, d.fs, rfl, M.ins, d, q0, st, reach, rfl, M, fun H1 sl s1 hsl hl1 => ⟨sl, rfl, ⟨_, SqL.of hl1⟩, ?_⟩⟩
  have nsg : sl ≠ gd := (ne_of_none hg hsl).symm
  refine for_list (a := sl) (xs := reach.map V.int) (fun i σ' H' => ∃ (dn : Step → Prop) (v v6 v7 v8 : Option V), σ' = [some (.ref d.m), c1, c2, c3, c4, some (.ref gd), v6, v7, v8, v] ∧ I dn v H' ∧ H' sl = some (.lst (reach.map V.int)) ∧
      ∀ (j : Nat) (q : Int) (e : Step), j < i → reach[j]? = some q → e ∈ st → e.1 = q → dn e)
    ⟨_, v9, v6, v7, v8, rfl, hnew _ _ _ _ h0 s1, hl1, fun j q e h => absurd h (Nat.not_lt_zero _)⟩ (fun i σ' H' _ ⟨_, _, _, _, _, _, _, hl, _⟩ => SqL.of hl) ?_ ?_
  · rintro i x σ' H2 hi ⟨dn, v, v6, v7, v8, rfl, i2, hl2, pr2⟩
    obtain ⟨q, hq, rfl⟩ : ∃ q, reach[i]? = some q ∧ x = V.int q := by
      rw [List.getElem?_map] at hi
      cases e : reach[i]? with
      | none => rw [e] at hi; cases hi
      | some q => rw [e] at hi; exact ⟨q, rfl, (Option.some.inj hi).symm⟩
    obtain ⟨M2, og2, hg2⟩ := hM _ _ _ i2
    refine ⟨_, rfl, _, rfl, d, q0, st, reach, q, rfl, M2, fun H3 nl s3 hnl hl3 => ⟨nl, rfl, ⟨_, SqL.of hl3⟩, ?_⟩⟩
    have nng : nl ≠ gd := (ne_of_none hg2 hnl).symm
    have nns : nl ≠ sl := (ne_of_none hl2 hnl).symm
    refine for_list (a := nl) (xs := (nums st q).map natV) (fun j σ' H' => ∃ (dn : Step → Prop) (v v7 v8 : Option V), σ' = [some (.ref d.m), c1, c2, c3, c4, some (.ref gd), some (.int q), v7, v8, v] ∧ I dn v H' ∧ H' sl = some (.lst (reach.map V.int)) ∧ H' nl = some (.lst ((nums st q).map natV)) ∧
        (∀ (j : Nat) (q : Int) (e : Step), j < i → reach[j]? = some q → e ∈ st → e.1 = q → dn e) ∧ ∀ (k n : Nat) (e : Step), k < j → (nums st q)[k]? = some n → st[n]? = some e → dn e)
      ⟨dn, v, v7, v8, rfl, hnew _ _ _ _ i2 s3, s3 _ _ hl2, hl3, pr2, fun k n e h => absurd h (Nat.not_lt_zero _)⟩ (fun i σ' H' _ ⟨_, _, _, _, _, _, _, hl, _⟩ => SqL.of hl) ?_ ?_
    · rintro j y σ' H4 hj ⟨dn4, v4, v7', v8', rfl, i4, hsl4, hnl4, pr4, pn4⟩
      obtain ⟨n, hn, rfl⟩ : ∃ n, (nums st q)[j]? = some n ∧ y = natV n := by
        rw [List.getElem?_map] at hj
        cases e : (nums st q)[j]? with
        | none => rw [e] at hj; cases hj
        | some n => rw [e] at hj; exact ⟨n, rfl, (Option.some.inj hj).symm⟩
      obtain ⟨e, he, rfl⟩ := mem_nums.mp (List.mem_of_getElem? hn)
      obtain ⟨M4, _⟩ := hM _ _ _ i4
      obtain ⟨ra, hra⟩ : ∃ ra, d.ra[n]? = some ra := by
        have hlt := (List.getElem?_eq_some_iff.mp he).1
        exact ⟨_, List.getElem?_eq_getElem (by rw [M.rlen]; exact hlt)⟩
      have hrow := M4.row n ra e hra he
      refine ⟨_, rfl, d.m, CM, d.dm, d.fs, _, rfl, M4.ins, T.cM, T.n2, M4.f2, _, rfl, d.rl, _, n, .ref ra, rfl, rfl, SqL.of M4.rows, by rw [List.getElem?_map, hra]; rfl, ?_⟩
      refine hb dn4 v4 H4 e ra _ _ (List.mem_of_getElem? he) (List.mem_of_getElem? hq) i4 hrow fun v'' H'' i5 kp => ?_
      refine ⟨_, v'', _, _, rfl, i5, kp _ _ nsg hsl4, kp _ _ nng hnl4, fun j' q' e' h1 h2 h3 h4 => .inl (pr4 j' q' e' h1 h2 h3 h4), fun k n' e' h1 h2 h3 => ?_⟩
      rcases Nat.lt_succ_iff_lt_or_eq.mp h1 with z | z
      · exact .inl (pn4 k n' e' z h2 h3)
      · subst z
        rw [hn] at h2
        cases h2
        rw [he] at h3
        cases h3
        exact .inr rfl
    · rintro σ' H4 ⟨dn4, v4, v7', v8', rfl, i4, hsl4, hnl4, pr4, pn4⟩
      refine ⟨dn4, v4, _, _, _, rfl, i4, hsl4, fun j' q' e' h1 h2 h3 h4 => ?_⟩
      rcases Nat.lt_succ_iff_lt_or_eq.mp h1 with z | z
      · exact pr4 j' q' e' z h2 h3 h4
      · subst z
        rw [hq] at h2
        cases h2
        obtain ⟨n, hn⟩ := List.getElem?_of_mem h3
        obtain ⟨k, hk⟩ := List.getElem?_of_mem (mem_nums.mpr ⟨e', hn, h4⟩)
        have hlt := (List.getElem?_eq_some_iff.mp hk).1
        exact pn4 k n e' (by rw [List.length_map]; exact hlt) hk hn
  · rintro σ' H2 ⟨dn, v, v6, v7, v8, rfl, i2, hl2, pr2⟩
    refine hd dn v H2 v6 v7 v8 i2 fun e he hr => ?_
    obtain ⟨j, hj⟩ := List.getElem?_of_mem hr
    have hlt := (List.getElem?_eq_some_iff.mp hj).1
    exact pr2 j e.1 e (by rw [List.length_map]; exact hlt) hj he rfl
theorem get_int {l : List Int} {i : Nat} {x : V} (h : (l.map V.int)[i]? = some x) : ∃ q, l[i]? = some q ∧ x = V.int q := by
  rw [List.getElem?_map] at h
  cases e : l[i]? with
  | none => rw [e] at h; cases h
  | some q => rw [e] at h; exact ⟨q, rfl, (Option.some.inj h).symm⟩
theorem LvAt.upd {H : Hp} {lv gd : Addr} {L : List (List Int)} {ads : List Addr} {o : HO} (x : LvAt H lv L ads) (h1 : lv ≠ gd) (h2 : ∀ a ∈ ads, a ≠ gd) : LvAt (upd H gd o) lv L ads :=
  ⟨by rw [upd_ne h1]; exact x.1, x.2.1, fun i a ks e1 e2 => by rw [upd_ne (h2 a (List.mem_of_getElem? e1))]; exact x.2.2 i a ks e1 e2⟩
theorem LvAt.ne {H : Hp} {lv gd : Addr} {L : List (List Int)} {ads : List Addr} (x : LvAt H lv L ads) (h : H gd = none) : lv ≠ gd ∧ ∀ a ∈ ads, a ≠ gd := by
  refine ⟨ne_of_none x.1 h, fun a ha => ?_⟩
  obtain ⟨i, hi⟩ := List.getElem?_of_mem ha
  have hlt : i < L.length := by
    rw [← x.2.1]
    exact (List.getElem?_eq_some_iff.mp hi).1
  exact ne_of_none (x.2.2 i a _ hi (List.getElem?_eq_getElem hlt)) h
theorem LvAt.snoc {H : Hp} {lv gd : Addr} {L : List (List Int)} {ads : List Addr} {g : List Int} (x : LvAt H lv L ads) (hg : H gd = some (.dK (setK g))) (h1 : lv ≠ gd) (h2 : ∀ a ∈ ads, a ≠ lv) : LvAt (L2.upd H lv (.lst (ads.map .ref ++ [.ref gd]))) lv (L ++ [g]) (ads ++ [gd]) := by
  refine ⟨by rw [upd_same, List.map_append]; rfl, by rw [List.length_append, List.length_append, x.2.1]; rfl, fun i a ks e1 e2 => ?_⟩
  by_cases hi : i < ads.length
  · rw [List.getElem?_append_left hi] at e1
    rw [List.getElem?_append_left (by rw [← x.2.1]; exact hi)] at e2
    rw [upd_ne (h2 a (List.mem_of_getElem? e1))]
    exact x.2.2 i a ks e1 e2
  · have hlt := (List.getElem?_eq_some_iff.mp e1).1
    rw [List.length_append, List.length_singleton] at hlt
    have e : i = ads.length := by omega
    subst e
    rw [List.getElem?_append_right (Nat.le_refl _), Nat.sub_self] at e1
    rw [x.2.1, List.getElem?_append_right (Nat.le_refl _), Nat.sub_self] at e2
    cases e1
    cases e2
    rw [upd_ne h1.symm]
    exact hg
theorem ableL_snoc {st : List Step} {T : List (Str × Str)} {reach lo g : List Int} {L : List (List Int)} (h : AbleL st T reach L) {i : Nat} (hl : L.length = i + 1) (elo : L[i]? = some lo) (a : Above st T reach lo g) : AbleL st T reach (L ++ [g]) := by
  refine ⟨fun l e => h.1 l ?_, fun j l1 l2 e1 e2 => ?_⟩
  · rw [List.getElem?_append_left (by omega)] at e
    exact e
  · by_cases hj : j + 1 < L.length
    · rw [List.getElem?_append_left (by omega)] at e1
      rw [List.getElem?_append_left hj] at e2
      exact h.2 j l1 l2 e1 e2
    · have hlt := (List.getElem?_eq_some_iff.mp e2).1
      rw [List.length_append, List.length_singleton] at hlt
      have e : j = i := by omega
      subst e
      rw [List.getElem?_append_left (by omega), elo] at e1
      cases e1
      rw [List.getElem?_append_right (by omega), hl, Nat.sub_self] at e2
      cases e2
      exact a
def b2n (b : Bool) : Nat := if b = true then 1 else 0
section
variable {P : Program} {w : World} {K : PySem.W.Frag} {mg : Str → Option Value} {base : Heap} {CM CW f1 f2 p6 g6 : Addr} {fd1 fd2 fd6 : FuncData}
abbrev nAble : List Str := ["machine", "watch", "many", "levels", "level", "good", "state", "number", "row", "changed"]
theorem sc47 : FnScope nAble ["machine", "watch", "many"] (defScope sAble) := ⟨rfl, rfl, rfl, by decide +kernel, rfl, by decide +kernel, by decide +kernel⟩
def gsAble (CM CW : Addr) : GSp := fun vs H Q => ∃ (d : MD) (q0 : Int) (st : List Step) (reach : List Int) (wt dw tb : Addr) (tab : List (Str × Str)) (n : Nat), vs = [.ref d.m, .ref wt, .int n] ∧ MachAt CM H d q0 st reach ∧ WatchAt CW H wt dw tb tab ∧ n ≤ 100 ∧
  reach.Nodup ∧ (∀ q ∈ reach, 0 ≤ q ∧ q < 100) ∧ ∀ (H' : Hp) (p : Addr) (ads : List Addr) (L : List (List Int)), Same H H' → H p = none → (∀ a ∈ ads, H a = none) → L.length = n + 1 → AbleL st tab reach L → LvAt H' p L ads → Q (.ref p) H'
theorem g_able {f : Addr} {fd : FuncData} (F : Fun K "able_states" "able_states" sAble f fd) (T : TxG K mg CM CW) (L : Cal P w K mg base CM CW f1 f2 fd1 fd2) (R6 : Prp P w K mg base CM "states" p6 g6 fd6 (gsStates CM)) : GFn P w K mg base 3 f fd ["machine", "watch", "many"] (gsAble CM CW) := by
  refine F.gok sc47 (fun vs H Q h => ?_) (fun cdv A outer s H vs Q hr h => ?_)
  · obtain ⟨_, _, _, _, _, _, _, _, _, rfl, _⟩ := h
    rfl
  · obtain ⟨d, q0, st, reach, wt, dw, tb, tab, n, rfl, M, W, hn100, rnd, rsm, k⟩ := h
    have hr1 : Room 1 _ := hr.mono (by decide)
    refine ⟨_, gps_cons (gp_set (i := 3) sc47.nd rfl (Or.inl rfl) (ge_lst (ga_cons (ge_dc (own := [("state", 6)]) rfl sc47.nd (gi_list (ge_prop (gv 0) T.cM R6.p R6.F hr R6.b rfl)) (blkOk_by rfl) (fun _ _ _ _ _ => gg_name (i := 6) sc47.nd rfl (Or.inl rfl) (.inr rfl)) (fun _ _ _ _ _ => gts_nil) (fun _ _ _ _ _ => gv 6) (fun _ _ _ _ _ => ge_bl)) ga_nil)))
      (gps_cons (gp_for rfl (gi_range1 (by rfl) T.bu.range (ga_cons (gv 2) ga_nil)) (gg_name (i := 4) sc47.nd rfl (Or.inl rfl))
      (gps_cons (gp_set (i := 5) sc47.nd rfl (Or.inl rfl) ge_dnew)
      (gps_cons (gp_for rfl (gi_list (ge_prop (gv 0) T.cM R6.p R6.F hr R6.b rfl)) (gg_name (i := 6) sc47.nd rfl (Or.inl rfl))
      (gps_one (gp_for rfl (gi_list (ge_call L.F1 hr1 (by rfl) L.m1 L.k1 L.b1 (ga_cons (gv 0) (ga_cons (gv 6) ga_nil)))) (gg_name (i := 7) sc47.nd rfl (Or.inl rfl))
      (gps_cons (gp_set (i := 8) sc47.nd rfl (Or.inl rfl) (ge_ixL (ge_fld (gv 0) rfl) (gv 7) (by intro _ _; rfl)))
      (gps_one (gp_if (gw_and (gt_cmp go_notN (ge_call L.F2 hr1 (by rfl) L.m2 L.k2 L.b2 (ga_cons (gv 1) (ga_cons (ge_ixT (gv 8) ge_int (by intro _ _; rfl)) ga_nil))) ge_non (nomark _)) (gw_and1 (gt_cmp go_din (ge_ixT (gv 8) ge_int (by intro _ _; rfl)) (ge_ixL (gv 3) (gv 4) (by intro _ _; rfl)) (by rfl)))).gt (gps_one (gp_asg ge_bl (gg_dset (gv 5) (gv 6)))) gps_nil))))))
      (gps_cons (gp_set (i := 9) sc47.nd rfl (Or.inl rfl) ge_bl)
      (gps_cons (gp_while (gt_val (gv 9))
      (gps_cons (gp_set (i := 9) sc47.nd rfl (Or.inl rfl) ge_bl)
      (gps_one (gp_for rfl (gi_list (ge_prop (gv 0) T.cM R6.p R6.F hr R6.b rfl)) (gg_name (i := 6) sc47.nd rfl (Or.inl rfl))
      (gps_one (gp_for rfl (gi_list (ge_call L.F1 hr1 (by rfl) L.m1 L.k1 L.b1 (ga_cons (gv 0) (ga_cons (gv 6) ga_nil)))) (gg_name (i := 7) sc47.nd rfl (Or.inl rfl))
      (gps_cons (gp_set (i := 8) sc47.nd rfl (Or.inl rfl) (ge_ixL (ge_fld (gv 0) rfl) (gv 7) (by intro _ _; rfl)))
      (gps_one (gp_if (gw_and (gt_cmp go_isN (ge_call L.F2 hr1 (by rfl) L.m2 L.k2 L.b2 (ga_cons (gv 1) (ga_cons (ge_ixT (gv 8) ge_int (by intro _ _; rfl)) ga_nil))) ge_non (nomark _)) (gw_and (gt_cmp go_din (ge_ixT (gv 8) ge_int (by intro _ _; rfl)) (gv 5) (by rfl)) (gw_and1 (gt_cmp go_dnotin (gv 6) (gv 5) (by rfl))))).gt (gps_cons (gp_asg ge_bl (gg_dset (gv 5) (gv 6)))
      (gps_one (gp_set (i := 9) sc47.nd rfl (Or.inl rfl) ge_bl))) gps_nil)))))))))
      (gps_one (gp_expr (ge_bm PySem.F.plainAttrs_list PySem.F.slot_list_append PySem.F.type_list_append gm_append (gv 3) (ga_cons (gv 5) ga_nil)))))))))
      (gps_one (gp_ret (gv 3)))), ?_⟩
    -- the lowest level
    refine ⟨_, rfl, d.m, d.dm, d.fs, rfl, M.ins, d, q0, st, reach, rfl, M, fun H1 sl s1 hsl hl1 => ⟨sl, rfl, ⟨_, SqL.of hl1⟩, fun a0 ha0 => dc_lst (a := sl) (xs := reach.map .int) (fun i H' => ∃ ks, Same H H' ∧ H' sl = some (.lst (reach.map .int)) ∧ H' a0 = some (.dK (setK ks)) ∧ ks.Nodup ∧ ∀ q, q ∈ ks ↔ q ∈ reach.take i)
      ⟨[], s1.upd (s1.free ha0), by rw [upd_ne (ne_of_none hl1 ha0)]; exact hl1, upd_same, List.nodup_nil, fun q => by simp⟩ (fun i H' _ ⟨_, _, hl, _⟩ => SqL.of hl) ?_ ?_⟩⟩
    · rintro i x H' hi ⟨ks, s', hl, hd, nd, mem⟩
      obtain ⟨q, hq, rfl⟩ := get_int hi
      have sub : ∀ k ∈ ks, 0 ≤ k ∧ k < 100 := fun k hk => rsm k (List.mem_of_mem_take ((mem k).mp hk))
      refine ⟨rfl, ?_⟩
      refine tYes_ok ?_
      refine iteT ?_
      refine ⟨_, rfl, setK ks, .inl q, rfl, hd, by rw [setK_len]; exact lt100 (small_len nd sub), addS ks q, s'.upd (s1.free ha0), by rw [upd_ne (ne_of_none hl1 ha0)]; exact hl, by rw [upd_same, setK_put], nd_addS nd, fun r => ?_⟩
      rw [mem_addS, mem, List.take_add_one, hq, List.mem_append]
      simp
    rintro H2 ⟨k0, s2, hl2, hd2, nd2, mem2⟩
    rw [List.length_map, List.take_length] at mem2
    refine ⟨(show 1 ≤ sizeLine by decide), fun lv hlv => ?_⟩
    have hlv0 : H lv = none := s2.free hlv
    have a00 : H a0 = none := s1.free ha0
    -- for level in range(many)
    refine ⟨_, rfl, n, rfl, by omega, by omega, ?_⟩
    rw [show ((n : Nat) : Int).toNat = n from Int.toNat_natCast n]
    refine for_range (lo := 0) (n := n) (fun i σ H' => ∃ (L : List (List Int)) (ads : List Addr) (v4 v5 v6 v7 v8 v9 : Option V), σ = [some (.ref d.m), some (.ref wt), some (.int n), some (.ref lv), v4, v5, v6, v7, v8, v9] ∧ Same H H' ∧ L.length = i + 1 ∧ AbleL st tab reach L ∧ LvAt H' lv L ads ∧ (∀ a ∈ ads, H a = none ∧ a ≠ lv))
      ⟨[k0], [a0], none, none, none, none, none, none, rfl, s2.upd hlv0, rfl, ⟨fun lo e q hq => ?_, fun j lo hi e1 e2 => by simp at e2⟩, ⟨upd_same, rfl, fun i a ks e1 e2 => ?_⟩, fun a ha => ?_⟩ ?_ ?_
    · cases e
      exact (mem2 q).mpr hq
    · cases i with
      | zero =>
        cases e1
        cases e2
        rw [upd_ne (ne_of_none hd2 hlv)]
        exact hd2
      | succ i => simp at e1
    · rw [List.mem_singleton.mp ha]
      exact ⟨a00, ne_of_none hd2 hlv⟩
    · rintro i σ H3 hi ⟨L, ads, v4, v5, v6, v7, v8, v9, rfl, s3, len3, ab3, lv3, fr3⟩
      obtain ⟨lo, elo⟩ : ∃ lo, L[i]? = some lo := ⟨_, List.getElem?_eq_getElem (by omega)⟩
      obtain ⟨ad, ead⟩ : ∃ ad, ads[i]? = some ad := ⟨_, List.getElem?_eq_getElem (by rw [lv3.2.1]; omega)⟩
      rw [show ((0 : Int) + (i : Nat)) = ((i : Nat) : Int) from Int.zero_add _]
      intro gd hgd
      have hgd0 : H gd = none := s3.free hgd
      obtain ⟨nlg, nag⟩ := lv3.ne hgd
      -- the first sweep
      have hI : ∀ {g : List Int} {H' : Hp}, Same H H' → H' gd = some (.dK (setK g)) → MachAt CM H' d q0 st reach ∧ ∃ o, H' gd = some o := fun s' h' => ⟨M.same s', _, h'⟩
      refine sweep T (reach := reach) (c1 := some (.ref wt)) (c2 := some (.int n)) (c3 := some (.ref lv)) (c4 := some (.int i)) (I := fun dn v H' => ∃ g, Same H H' ∧ H' gd = some (.dK (setK g)) ∧ LvAt H' lv L ads ∧ g.Nodup ∧ (∀ q ∈ g, q ∈ reach) ∧ ∀ e, dn e → see tab e.2.1 ≠ none → e.2.2 ∈ lo → e.1 ∈ g)
        (fun dn v H' ⟨g, s', h', _⟩ => hI s' h') (fun dn v H' H'' ⟨g, s', h', l', nd, sub, cm⟩ ss => ⟨g, fun b o e => ss _ _ (s' _ _ e), ss _ _ h', l'.same ss, nd, sub, cm⟩)
        ⟨[], s3.upd hgd0, upd_same, lv3.upd nlg nag, List.nodup_nil, fun q h => by simp at h, fun e h => h.elim⟩ ?_ ?_
      · rintro dn v H4 e ra v7' Dx he hr1' ⟨g, s4, h4, l4, nd4, sub4, cm4⟩ hrow cont
        have W4 := W.same s4
        have same_end : (see tab e.2.1 ≠ none → e.2.2 ∈ lo → e.1 ∈ g) → Dx.nx [some (.ref d.m), some (.ref wt), some (.int n), some (.ref lv), some (.int i), some (.ref gd), some (.int e.1), v7', some (.ref ra), v] H4 := fun hz =>
          cont v H4 ⟨g, s4, h4, l4, nd4, sub4, fun e' h1 h2 h3 => h1.elim (fun z => cm4 e' z h2 h3) fun z => by subst z; exact hz h2 h3⟩ fun b o _ z => z
        refine ⟨_, rfl, _, rfl, ra, _, 1, _, rfl, rfl, SqT.of hrow, rfl, wt, dw, tb, tab, e.2.1, rfl, W4, rfl, _, rfl, ?_⟩
        cases hse : see tab e.2.1 with
        | none =>
          rw [show (!decide (seeV none = V.non)) = false from rfl]
          exact iteF (iteF (same_end fun z => absurd hse z))
        | some y =>
          rw [show (!decide (seeV (some y) = V.non)) = true from rfl]
          refine iteT ⟨_, rfl, ra, _, 2, .int e.2.2, rfl, rfl, SqT.of hrow, rfl, _, rfl, _, rfl, lv, _, i, .ref ad, rfl, rfl, SqL.of l4.1, by rw [List.getElem?_map, ead]; rfl, ad, setK lo, .inl e.2.2, rfl, rfl, .inl (l4.2.2 i ad lo ead elo), _, rfl, ?_⟩
          rw [setK_has]
          by_cases hm : e.2.2 ∈ lo
          · rw [decide_eq_true hm]
            have l100 : g.length ≤ 100 := small_len nd4 fun q hq => rsm q (sub4 q hq)
            refine iteT ⟨_, rfl, _, rfl, gd, setK g, .inl e.1, rfl, rfl, h4, by rw [setK_len]; exact lt100 l100, ?_⟩
            rw [setK_put]
            refine cont v _ ⟨addS g e.1, s4.upd hgd0, upd_same, l4.upd nlg nag, nd_addS nd4, fun q hq => (mem_addS.mp hq).elim (sub4 q) fun z => z ▸ hr1', fun e' h1 h2 h3 => ?_⟩ fun b o hb z => by rw [upd_ne hb]; exact z
            rcases h1 with z | z
            · exact mem_addS.mpr (.inl (cm4 e' z h2 h3))
            · subst z; exact mem_addS.mpr (.inr rfl)
          · rw [decide_eq_false hm]
            exact iteF (same_end fun _ z => absurd z hm)
      -- changed
      rintro dn v9' H4 v6' v7' v8' ⟨g4, s4, h4, l4, nd4, sub4, cm4⟩ hall
      have hseen : ∀ q ∈ reach, ∀ t, seen st tab q t → t ∈ lo → q ∈ g4 := fun q hq t ⟨e, he, e1, e2, hs⟩ ht => by
        subst e1
        subst e2
        exact cm4 e (hall e he hq) hs ht
      refine ⟨fun m σ H' => ∃ (g : List Int) (ch : Bool) (v6 v7 v8 : Option V), σ = [some (.ref d.m), some (.ref wt), some (.int n), some (.ref lv), some (.int i), some (.ref gd), v6, v7, v8, some (.bl ch)] ∧ Same H H' ∧ H' gd = some (.dK (setK g)) ∧ LvAt H' lv L ads ∧ g.Nodup ∧ (∀ q ∈ g, q ∈ reach) ∧ (∀ q ∈ g4, q ∈ g) ∧
          (ch = false → ∀ q ∈ reach, ∀ t, unseen st tab q t → t ∈ g → q ∈ g) ∧ m = 2 * (100 - g.length) + b2n ch,
        ⟨_, g4, true, v6', v7', v8', rfl, s4, h4, l4, nd4, sub4, fun q h => h, (fun z => by cases z), rfl⟩, ?_⟩
      rintro m σ H5 ⟨g5, ch, v6, v7, v8, rfl, s5, h5, l5, nd5, sub5, up5, cl5, rfl⟩
      refine ⟨_, rfl, ch, rfl, ?_⟩
      cases ch with
      | true =>
        refine iteT ⟨fun σ' H' => ∃ m', m' < 2 * (100 - g5.length) + b2n true ∧ ∃ (g : List Int) (ch : Bool) (v6 v7 v8 : Option V), σ' = [some (.ref d.m), some (.ref wt), some (.int n), some (.ref lv), some (.int i), some (.ref gd), v6, v7, v8, some (.bl ch)] ∧ Same H H' ∧ H' gd = some (.dK (setK g)) ∧ LvAt H' lv L ads ∧ g.Nodup ∧ (∀ q ∈ g, q ∈ reach) ∧ (∀ q ∈ g4, q ∈ g) ∧
          (ch = false → ∀ q ∈ reach, ∀ t, unseen st tab q t → t ∈ g → q ∈ g) ∧ m' = 2 * (100 - g.length) + b2n ch, fun _ _ z => z, ?_⟩
        refine sweep T (reach := reach) (c1 := some (.ref wt)) (c2 := some (.int n)) (c3 := some (.ref lv)) (c4 := some (.int i)) (I := fun dn v H' => ∃ (g : List Int) (ch : Bool), v = some (.bl ch) ∧ Same H H' ∧ H' gd = some (.dK (setK g)) ∧ LvAt H' lv L ads ∧ g.Nodup ∧ (∀ q ∈ g, q ∈ reach) ∧ (∀ q ∈ g4, q ∈ g) ∧
            2 * (100 - g.length) + b2n ch ≤ 2 * (100 - g5.length) ∧ (ch = false → ∀ e, dn e → see tab e.2.1 = none → e.2.2 ∈ g → e.1 ∈ g))
          (fun dn v H' ⟨g, _, _, s', h', _⟩ => hI s' h') (fun dn v H' H'' ⟨g, ch, ev, s', h', l', nd, sub, up, mu, cm⟩ ss => ⟨g, ch, ev, fun b o e => ss _ _ (s' _ _ e), ss _ _ h', l'.same ss, nd, sub, up, mu, cm⟩)
          ⟨g5, false, rfl, s5, h5, l5, nd5, sub5, up5, by show 2 * (100 - g5.length) + 0 ≤ _; omega, fun _ e h => h.elim⟩ ?_ ?_
        · rintro dn v H6 e ra v7' Dx he hr1' ⟨g, ch, rfl, s6, h6, l6, nd6, sub6, up6, mu6, cm6⟩ hrow cont
          have W6 := W.same s6
          have same_end : (see tab e.2.1 = none → e.2.2 ∈ g → e.1 ∈ g) → Dx.nx [some (.ref d.m), some (.ref wt), some (.int n), some (.ref lv), some (.int i), some (.ref gd), some (.int e.1), v7', some (.ref ra), some (.bl ch)] H6 := fun hz =>
            cont _ H6 ⟨g, ch, rfl, s6, h6, l6, nd6, sub6, up6, mu6, fun hc e' h1 h2 h3 => h1.elim (fun z => cm6 hc e' z h2 h3) fun z => by subst z; exact hz h2 h3⟩ fun b o _ z => z
          refine ⟨_, rfl, _, rfl, ra, _, 1, _, rfl, rfl, SqT.of hrow, rfl, wt, dw, tb, tab, e.2.1, rfl, W6, rfl, _, rfl, ?_⟩
          cases hse : see tab e.2.1 with
          | some y =>
            rw [show decide (seeV (some y) = V.non) = false from rfl]
            exact iteF (iteF (same_end fun z => by rw [hse] at z; cases z))
          | none =>
            rw [show decide (seeV none = V.non) = true from rfl]
            refine iteT ⟨_, rfl, ra, _, 2, .int e.2.2, rfl, rfl, SqT.of hrow, rfl, _, rfl, gd, setK g, .inl e.2.2, rfl, rfl, .inl h6, _, rfl, ?_⟩
            rw [setK_has]
            by_cases hm : e.2.2 ∈ g
            · rw [decide_eq_true hm]
              refine iteT ⟨_, rfl, _, rfl, gd, setK g, .inl e.1, rfl, rfl, .inl h6, _, rfl, ?_⟩
              rw [setK_has]
              by_cases hm2 : e.1 ∈ g
              · rw [decide_eq_true hm2]
                exact iteF (same_end fun _ _ => hm2)
              · rw [decide_eq_false hm2]
                have l100 : (addS g e.1).length ≤ 100 := small_len (nd_addS nd6) fun q hq => (mem_addS.mp hq).elim (fun z => rsm q (sub6 q z)) fun z => z ▸ rsm _ hr1'
                have l101 : g.length ≤ 100 := small_len nd6 fun q hq => rsm q (sub6 q hq)
                refine iteT ⟨_, rfl, _, rfl, gd, setK g, .inl e.1, rfl, rfl, h6, by rw [setK_len]; exact lt100 l101, ?_⟩
                rw [setK_put]
                refine cont (some (.bl true)) _ ⟨addS g e.1, true, rfl, s6.upd hgd0, upd_same, l6.upd nlg nag, nd_addS nd6, fun q hq => (mem_addS.mp hq).elim (sub6 q) fun z => z ▸ hr1', fun q hq => mem_addS.mpr (.inl (up6 q hq)), ?_, fun z => by cases z⟩ fun b o hb z => by rw [upd_ne hb]; exact z
                rw [addS_new hm2, List.length_append, List.length_singleton] at l100 ⊢
                show 2 * (100 - (g.length + 1)) + 1 ≤ _
                omega
            · rw [decide_eq_false hm]
              exact iteF (iteF (same_end fun _ z => absurd z hm))
        · rintro dn v H6 v6 v7 v8 ⟨g, ch, rfl, s6, h6, l6, nd6, sub6, up6, mu6, cm6⟩ hall
          refine ⟨_, Nat.lt_of_le_of_lt mu6 (by show 2 * (100 - g5.length) < 2 * (100 - g5.length) + 1; omega), g, ch, v6, v7, v8, rfl, s6, h6, l6, nd6, sub6, up6, fun hc q hq t ⟨e, he, e1, e2, hs⟩ ht => ?_, rfl⟩
          subst e1
          subst e2
          exact cm6 hc e (hall e he hq) hs ht
      | false =>
        -- levels.append(good)
        refine iteF ⟨_, rfl, .inl ⟨rfl, _, SqL.of l5.1⟩, _, rfl, lv, _, .ref gd, rfl, rfl, l5.1, by rw [List.length_map, l5.2.1, len3]; exact Nat.lt_of_le_of_lt (m := 101) (by omega) (by decide), ?_⟩
        refine ⟨L ++ [g5], ads ++ [gd], _, _, _, _, _, _, rfl, s5.upd hlv0, by rw [List.length_append, List.length_singleton, len3], ableL_snoc ab3 len3 elo ⟨fun q hq t hs ht => up5 q (hseen q hq t hs ht), cl5 rfl⟩, l5.snoc h5 nlg (fun a ha => (fr3 a ha).2), fun a ha => ?_⟩
        rcases List.mem_append.mp ha with z | z
        · exact fr3 a z
        · rw [List.mem_singleton.mp z]
          exact ⟨hgd0, nlg.symm⟩
    · rintro σ H3 ⟨L, ads, v4, v5, v6, v7, v8, v9, rfl, s3, len3, ab3, lv3, fr3⟩
      exact ⟨_, rfl, k H3 lv ads L s3 hlv0 (fun a ha => (fr3 a ha).1) len3 ab3 lv3⟩
end
end KN
/-! Plain facts: texts in order; where a sight leads. -/
namespace KN
open PySem PySem.Spec PyProof.Rows L2
def tlt (a b : Str) : Prop := a.cps.toList < b.cps.toList
instance (a b : Str) : Decidable (tlt a b) := by unfold tlt; infer_instance
theorem tlt_irrefl (a : Str) : ¬ tlt a a := List.lt_irrefl _
theorem tlt_trans (a b c : Str) (h1 : tlt a b) (h2 : tlt b c) : tlt a c := List.lt_trans h1 h2
theorem str_ext {a b : Str} (h : a.cps.toList = b.cps.toList) : a = b := by
  cases a with
  | mk x =>
    cases b with
    | mk y =>
      have e : x = y := Array.toList_inj.mp h
      rw [e]
theorem tlt_tri (a b : Str) : tlt a b ∨ a = b ∨ tlt b a := by
  by_cases h1 : tlt a b
  · exact .inl h1
  · by_cases h2 : tlt b a
    · exact .inr (.inr h2)
    · exact .inr (.inl (str_ext (List.le_antisymm (List.not_lt.mp h2) (List.not_lt.mp h1))))
theorem ltc_iff (a b : Str) : ltCps a.cps.toList b.cps.toList = true ↔ tlt a b := by
  rw [ltCps_eq, decide_eq_true_eq]
  exact Iff.rfl
theorem rising_asc : ∀ (l : List Str) (p : Str), risingS p l = true → (p :: l).Nodup → (p :: l).Pairwise tlt
  | [], p, _, _ => by simp
  | x :: r, p, h, nd => by
    have h : (!ltCps x.cps.toList p.cps.toList && risingS x r) = true := h
    rw [Bool.and_eq_true] at h
    obtain ⟨n1, n2⟩ := List.nodup_cons.mp nd
    have ih := rising_asc r x h.2 n2
    have px : tlt p x := by
      rcases tlt_tri p x with z | z | z
      · exact z
      · exact absurd (z ▸ List.mem_cons_self) n1
      · rw [(ltc_iff x p).mpr z] at h
        simp at h
    refine List.pairwise_cons.mpr ⟨fun y hy => ?_, ih⟩
    rcases List.mem_cons.mp hy with z | z
    · rw [z]; exact px
    · exact tlt_trans _ _ _ px ((List.pairwise_cons.mp ih).1 y z)
theorem sorted_asc {l : List Str} (h : sortedS l = true) (nd : l.Nodup) : l.Pairwise tlt := by
  cases l with
  | nil => exact .nil
  | cons p l => exact rising_asc l p h nd
/-- where a sight leads from S: with all that is not seen behind it -/
def after (st : List Step) (T : List (Str × Str)) (S : List Int) (x : Str) : Int → Prop := UR st T fun t => ∃ e ∈ st, e.1 ∈ S ∧ e.2.2 = t ∧ see T e.2.1 = some x
structure EndsR (st : List Step) (T : List (Str × Str)) (S : List Int) (es : List (Str × List Int)) : Prop where
  up : (es.map (·.1)).Pairwise tlt
  mem : ∀ x, x ∈ es.map (·.1) ↔ ∃ e ∈ st, e.1 ∈ S ∧ see T e.2.1 = some x
  val : ∀ p ∈ es, p.2 = asc (after st T S p.1)
theorem EndsR.uniq {st : List Step} {T : List (Str × Str)} {S : List Int} {es fs : List (Str × List Int)} (a : EndsR st T S es) (b : EndsR st T S fs) : es = fs := by
  have k : es.map (·.1) = fs.map (·.1) := asc_unique tlt_irrefl tlt_trans a.up b.up fun x => by rw [a.mem, b.mem]
  have v : ∀ (gs : List (Str × List Int)), (∀ p ∈ gs, p.2 = KN.asc (after st T S p.1)) → gs = (gs.map (·.1)).map fun x => (x, KN.asc (after st T S x)) := fun gs h => by
    rw [List.map_map]
    refine (List.map_id gs).symm.trans (List.map_congr_left fun p hp => ?_)
    show p = (p.1, _)
    rw [← h p hp]
  exact (v es a.val).trans ((congrArg (List.map fun x => (x, KN.asc (after st T S x))) k).trans (v fs b.val).symm)
/-- the sights out of S, in order, each with where it leads -/
noncomputable def endsOf (st : List Step) (T : List (Str × Str)) (S : List Int) : List (Str × List Int) := by
  classical
  exact if h : ∃ es, EndsR st T S es then h.choose else []
theorem endsOf_eq {st : List Step} {T : List (Str × Str)} {S : List Int} {es : List (Str × List Int)} (h : EndsR st T S es) : endsOf st T S = es := by
  have z : ∃ es, EndsR st T S es := ⟨es, h⟩
  unfold endsOf
  rw [dif_pos z]
  exact z.choose_spec.uniq h
theorem asc_congr {p q : Int → Prop} (h : ∀ k, p k ↔ q k) : asc p = asc q := by
  have e : p = q := funext fun k => propext (h k)
  rw [e]
end KN
/-! sight_ends. -/
namespace KN
open PySem PySem.Spec PyProof.Rows L2
abbrev sEnds : Stmt := top 45
theorem ur_congr {st : List Step} {T : List (Str × Str)} {S S' : Int → Prop} (h : ∀ q, S q → S' q) {q : Int} (u : UR st T S q) : UR st T S' q := by
  induction u with
  | base b => exact .base (h _ b)
  | step _ v ih => exact .step ih v
/-- the table: its keys, where each one's list lies, what stands in it -/
def tabK (keys : List Str) (ad : Str → Addr) : List (Key × V) := keys.map fun x => (.inr x, .ref (ad x))
theorem tabK_val : ∀ (keys : List Str) (ad : Str → Addr) (x : Str), valV (tabK keys ad) (.inr x) = if x ∈ keys then some (.ref (ad x)) else none
  | [], ad, x => by simp [tabK, valV]
  | y :: keys, ad, x => by
    have ih := tabK_val keys ad x
    by_cases e : y = x
    · subst e
      unfold tabK
      rw [List.map_cons, valV_pos (p := ((Sum.inr y : Key), V.ref (ad y))) rfl, if_pos List.mem_cons_self]
    · have e' : ¬ (Sum.inr y : Key) = .inr x := fun q => e (Sum.inr.inj q)
      unfold tabK at ih ⊢
      rw [List.map_cons, valV_neg (p := ((Sum.inr y : Key), V.ref (ad y))) e', ih]
      have e2 : ¬ x = y := fun q => e q.symm
      simp [e2]
structure TabI (H H' : Hp) (td : Addr) (st : List Step) (T : List (Str × Str)) (S : List Int) (cnt : Nat) (dn : Step → Prop) (keys : List Str) (ad : Str → Addr) (tg : Str → List Int) : Prop where
  same : Same H H'
  tab : H' td = some (.dK (tabK keys ad))
  lst : ∀ x ∈ keys, H' (ad x) = some (.lst ((tg x).map .int))
  new : ∀ x ∈ keys, H (ad x) = none ∧ ad x ≠ td
  inj : ∀ x ∈ keys, ∀ y ∈ keys, ad x = ad y → x = y
  kn : keys.Nodup
  ok : ∀ e, dn e → e ∈ st ∧ e.1 ∈ S
  key : ∀ x ∈ keys, ∃ e, dn e ∧ see T e.2.1 = some x
  tgt : ∀ x ∈ keys, ∀ t, t ∈ tg x ↔ ∃ e, dn e ∧ see T e.2.1 = some x ∧ e.2.2 = t
  cov : ∀ e x, dn e → see T e.2.1 = some x → x ∈ keys
  len : ∀ x ∈ keys, (tg x).length ≤ cnt
theorem TabI.ext {H H' H'' : Hp} {td : Addr} {st : List Step} {T : List (Str × Str)} {S : List Int} {cnt : Nat} {dn : Step → Prop} {keys : List Str} {ad : Str → Addr} {tg : Str → List Int} (x : TabI H H' td st T S cnt dn keys ad tg) (s : Same H' H'') : TabI H H'' td st T S cnt dn keys ad tg :=
  ⟨fun b o e => s _ _ (x.same _ _ e), s _ _ x.tab, fun y hy => s _ _ (x.lst y hy), x.new, x.inj, x.kn, x.ok, x.key, x.tgt, x.cov, x.len⟩
theorem TabI.more {H H' : Hp} {td : Addr} {st : List Step} {T : List (Str × Str)} {S : List Int} {c c' : Nat} {dn : Step → Prop} {keys : List Str} {ad : Str → Addr} {tg : Str → List Int} (x : TabI H H' td st T S c dn keys ad tg) (h : c ≤ c') : TabI H H' td st T S c' dn keys ad tg :=
  ⟨x.same, x.tab, x.lst, x.new, x.inj, x.kn, x.ok, x.key, x.tgt, x.cov, fun y hy => Nat.le_trans (x.len y hy) h⟩
/-- a step that is not seen -/
theorem TabI.skip {H H' : Hp} {td : Addr} {st : List Step} {T : List (Str × Str)} {S : List Int} {c : Nat} {dn : Step → Prop} {keys : List Str} {ad : Str → Addr} {tg : Str → List Int} (x : TabI H H' td st T S c dn keys ad tg) {e : Step} (he : e ∈ st) (h1 : e.1 ∈ S) (h : see T e.2.1 = none) :
    TabI H H' td st T S c (fun z => dn z ∨ z = e) keys ad tg := by
  refine ⟨x.same, x.tab, x.lst, x.new, x.inj, x.kn, fun z hz => ?_, fun y hy => ?_, fun y hy t => ?_, fun z y hz hs => ?_, x.len⟩
  · rcases hz with hz | rfl
    · exact x.ok z hz
    · exact ⟨he, h1⟩
  · obtain ⟨z, hz, hs⟩ := x.key y hy
    exact ⟨z, .inl hz, hs⟩
  · rw [x.tgt y hy t]
    constructor
    · rintro ⟨z, hz, hs, ht⟩
      exact ⟨z, .inl hz, hs, ht⟩
    · rintro ⟨z, hz | rfl, hs, ht⟩
      · exact ⟨z, hz, hs, ht⟩
      · rw [h] at hs; cases hs
  · rcases hz with hz | rfl
    · exact x.cov z y hz hs
    · rw [h] at hs; cases hs
/-- a step that is seen as x0: its target goes to x0's list -/
theorem TabI.add {H H' : Hp} {td : Addr} {st : List Step} {T : List (Str × Str)} {S : List Int} {c : Nat} {dn : Step → Prop} {keys : List Str} {ad : Str → Addr} {tg : Str → List Int} (x : TabI H H' td st T S c dn keys ad tg) {e : Step} {x0 : Str} (he : e ∈ st) (h1 : e.1 ∈ S) (h : see T e.2.1 = some x0) (hk : x0 ∈ keys) :
    TabI H (upd H' (ad x0) (.lst ((tg x0).map .int ++ [.int e.2.2]))) td st T S (c + 1) (fun z => dn z ∨ z = e) keys ad (fun y => if y = x0 then tg x0 ++ [e.2.2] else tg y) := by
  refine ⟨x.same.upd (x.new x0 hk).1, ?_, fun y hy => ?_, x.new, x.inj, x.kn, fun z hz => ?_, fun y hy => ?_, fun y hy t => ?_, fun z y hz hs => ?_, fun y hy => ?_⟩
  · rw [upd_ne (x.new x0 hk).2.symm]; exact x.tab
  · by_cases e0 : y = x0
    · subst e0
      rw [upd_same, if_pos rfl, List.map_append]
      rfl
    · rw [upd_ne fun q => e0 (x.inj y hy x0 hk q), if_neg e0]
      exact x.lst y hy
  · rcases hz with hz | rfl
    · exact x.ok z hz
    · exact ⟨he, h1⟩
  · obtain ⟨z, hz, hs⟩ := x.key y hy
    exact ⟨z, .inl hz, hs⟩
  · show t ∈ (if y = x0 then tg x0 ++ [e.2.2] else tg y) ↔ _
    by_cases e0 : y = x0
    · subst e0
      rw [if_pos rfl, List.mem_append, List.mem_singleton, x.tgt y hy t]
      constructor
      · rintro (⟨z, hz, hs, ht⟩ | rfl)
        · exact ⟨z, .inl hz, hs, ht⟩
        · exact ⟨e, .inr rfl, h, rfl⟩
      · rintro ⟨z, hz | rfl, hs, ht⟩
        · exact .inl ⟨z, hz, hs, ht⟩
        · exact .inr ht.symm
    · rw [if_neg e0, x.tgt y hy t]
      constructor
      · rintro ⟨z, hz, hs, ht⟩
        exact ⟨z, .inl hz, hs, ht⟩
      · rintro ⟨z, hz | rfl, hs, ht⟩
        · exact ⟨z, hz, hs, ht⟩
        · rw [h] at hs
          exact absurd (Option.some.inj hs).symm e0
  · rcases hz with hz | rfl
    · exact x.cov z y hz hs
    · rw [h] at hs
      cases hs
      exact hk
  · show (if y = x0 then tg x0 ++ [e.2.2] else tg y).length ≤ c + 1
    by_cases e0 : y = x0
    · rw [if_pos e0, List.length_append, List.length_singleton]
      exact Nat.succ_le_succ (x.len x0 hk)
    · rw [if_neg e0]
      exact Nat.le_succ_of_le (x.len y hy)
/-- a new key with its first target -/
theorem TabI.fresh {H H' : Hp} {td p : Addr} {st : List Step} {T : List (Str × Str)} {S : List Int} {c : Nat} {dn : Step → Prop} {keys : List Str} {ad : Str → Addr} {tg : Str → List Int} (x : TabI H H' td st T S c dn keys ad tg) {e : Step} {x0 : Str} (he : e ∈ st) (h1 : e.1 ∈ S) (h : see T e.2.1 = some x0) (hk : x0 ∉ keys) (hp : H' p = none) (htd : H td = none) :
    TabI H (upd (upd (upd H' p (.lst [])) td (.dK (putK (tabK keys ad) (.inr x0) (.ref p)))) p (.lst [.int e.2.2])) td st T S (c + 1) (fun z => dn z ∨ z = e) (keys ++ [x0]) (fun y => if y = x0 then p else ad y) (fun y => if y = x0 then [e.2.2] else tg y) := by
  have npt : p ≠ td := (ne_of_none x.tab hp).symm
  have hp0 : H p = none := x.same.free hp
  have old : ∀ y ∈ keys, y ≠ x0 ∧ ad y ≠ p := fun y hy => ⟨fun q => hk (q ▸ hy), ne_of_none (x.lst y hy) hp⟩
  have hput : putK (tabK keys ad) (.inr x0) (.ref p) = tabK (keys ++ [x0]) (fun y => if y = x0 then p else ad y) := by
    rw [putK_new _ (by rw [tabK_val, if_neg hk])]
    unfold tabK
    rw [List.map_append, List.map_cons, List.map_nil]
    show _ = _ ++ [((Sum.inr x0 : Key), V.ref (if x0 = x0 then p else ad x0))]
    rw [if_pos rfl]
    congr 1
    exact List.map_congr_left fun y hy => by
      show _ = ((Sum.inr y : Key), V.ref (if y = x0 then p else ad y))
      rw [if_neg (old y hy).1]
  refine ⟨((x.same.upd hp0).upd htd).upd hp0, ?_, fun y hy => ?_, fun y hy => ?_, fun y hy z hz q => ?_, ?_, fun z hz => ?_, fun y hy => ?_, fun y hy t => ?_, fun z y hz hs => ?_, fun y hy => ?_⟩
  · rw [upd_ne npt.symm, upd_same, hput]
  · rcases List.mem_append.mp hy with hy | hy
    · rw [if_neg (old y hy).1, if_neg (old y hy).1, upd_ne (old y hy).2, upd_ne (x.new y hy).2, upd_ne (old y hy).2]
      exact x.lst y hy
    · rw [List.mem_singleton.mp hy, if_pos rfl, if_pos rfl, upd_same]
      rfl
  · rcases List.mem_append.mp hy with hy | hy
    · rw [if_neg (old y hy).1]; exact x.new y hy
    · rw [List.mem_singleton.mp hy, if_pos rfl]; exact ⟨hp0, npt⟩
  · rcases List.mem_append.mp hy with hy | hy <;> rcases List.mem_append.mp hz with hz | hz
    · rw [if_neg (old y hy).1, if_neg (old z hz).1] at q
      exact x.inj y hy z hz q
    · rw [List.mem_singleton.mp hz, if_neg (old y hy).1, if_pos rfl] at q
      exact absurd q (old y hy).2
    · rw [List.mem_singleton.mp hy, if_neg (old z hz).1, if_pos rfl] at q
      exact absurd q.symm (old z hz).2
    · rw [List.mem_singleton.mp hy, List.mem_singleton.mp hz]
  · rw [List.nodup_append]
    exact ⟨x.kn, by simp, fun a ha b hb q => hk (by rw [List.mem_singleton.mp hb] at q; rw [← q]; exact ha)⟩
  · rcases hz with hz | rfl
    · exact x.ok z hz
    · exact ⟨he, h1⟩
  · rcases List.mem_append.mp hy with hy | hy
    · obtain ⟨z, hz, hs⟩ := x.key y hy
      exact ⟨z, .inl hz, hs⟩
    · rw [List.mem_singleton.mp hy]
      exact ⟨e, .inr rfl, h⟩
  · show t ∈ (if y = x0 then [e.2.2] else tg y) ↔ _
    rcases List.mem_append.mp hy with hy | hy
    · rw [if_neg (old y hy).1, x.tgt y hy t]
      constructor
      · rintro ⟨z, hz, hs, ht⟩
        exact ⟨z, .inl hz, hs, ht⟩
      · rintro ⟨z, hz | rfl, hs, ht⟩
        · exact ⟨z, hz, hs, ht⟩
        · rw [h] at hs
          exact absurd (Option.some.inj hs).symm (old y hy).1
    · rw [List.mem_singleton.mp hy, if_pos rfl, List.mem_singleton]
      constructor
      · rintro rfl
        exact ⟨e, .inr rfl, h, rfl⟩
      · rintro ⟨z, hz | rfl, hs, ht⟩
        · exact absurd (x.cov z x0 hz hs) hk
        · exact ht.symm
  · rcases hz with hz | rfl
    · exact List.mem_append_left _ (x.cov z y hz hs)
    · rw [h] at hs
      cases hs
      exact List.mem_append_right _ (List.mem_singleton.mpr rfl)
  · show (if y = x0 then [e.2.2] else tg y).length ≤ c + 1
    rcases List.mem_append.mp hy with hy | hy
    · rw [if_neg (old y hy).1]
      exact Nat.le_succ_of_le (x.len y hy)
    · rw [List.mem_singleton.mp hy, if_pos rfl, List.length_singleton]
      omega
section
variable {P : Program} {w : World} {K : PySem.W.Frag} {mg : Str → Option Value} {base : Heap} {CM CW f1 f2 fC : Addr} {fd1 fd2 fdC : FuncData}
abbrev nEnds : List Str := ["machine", "watch", "states", "table", "state", "number", "row", "sight", "ends"]
theorem sc45 : FnScope nEnds ["machine", "watch", "states"] (defScope sEnds) := ⟨rfl, rfl, rfl, by decide +kernel, rfl, by decide +kernel, by decide +kernel⟩
/-- a list of pairs (sight, states) -/
def EndsAt (H : Hp) (p : Addr) (es : List (Str × List Int)) (ps ls : List Addr) : Prop :=
  H p = some (.lst (ps.map .ref)) ∧ ps.length = es.length ∧ ls.length = es.length ∧ ∀ (i : Nat) (a l : Addr) (e : Str × List Int), ps[i]? = some a → ls[i]? = some l → es[i]? = some e → H a = some (.tup [.str e.1, .ref l]) ∧ H l = some (.lst (e.2.map .int))
def gsEnds (CM CW : Addr) : GSp := fun vs H Q => ∃ (d : MD) (q0 : Int) (st : List Step) (reach : List Int) (wt dw tb a : Addr) (tab : List (Str × Str)) (S : List Int), vs = [.ref d.m, .ref wt, .ref a] ∧ MachAt CM H d q0 st reach ∧ WatchAt CW H wt dw tb tab ∧ H a = some (.lst (S.map .int)) ∧
  Small st ∧ (∀ q ∈ S, 0 ≤ q ∧ q < 100) ∧ st.length ≤ 1000 ∧ S.length ≤ 1000 ∧ (∃ X : List Str, X.length < 64 ∧ ∀ e ∈ st, ∀ x, see tab e.2.1 = some x → x ∈ X) ∧
  ∀ (H' : Hp) (p : Addr) (ps ls : List Addr), Same H H' → H p = none → (∀ b ∈ ps ++ ls, H b = none) → EndsAt H' p (endsOf st tab S) ps ls → Q (.ref p) H'
theorem g_ends {f : Addr} {fd : FuncData} (F : Fun K "sight_ends" "sight_ends" sEnds f fd) (T : TxG K mg CM CW) (L : Cal P w K mg base CM CW f1 f2 fd1 fd2) (FC : GFn P w K mg base 2 fC fdC ["machine", "watch", "states"] (gsClo CM CW)) (bC : Binds K fdC ["machine", "watch", "states"] []) (mC : mg "unseen_closure" = some (.ref fC)) (kC : PySem.W.keepIn K (.ref fC) = true) :
    GFn P w K mg base 3 f fd ["machine", "watch", "states"] (gsEnds CM CW) := by
  refine F.gok sc45 (fun vs H Q h => ?_) (fun cdv A outer s H vs Q hr h => ?_)
  · obtain ⟨_, _, _, _, _, _, _, _, _, _, rfl, _⟩ := h
    rfl
  · obtain ⟨d, q0, st, reach, wt, dw, tb, a, tab, S, rfl, M, W, hS, sm, s0, len, slenH, ⟨Xs, xlen, hX⟩, k⟩ := h
    have hr1 : Room 1 _ := hr.mono (by decide)
    refine ⟨_, gps_cons (gp_set (i := 3) sc45.nd rfl (Or.inr rfl) ge_dnew)
      (gps_cons (gp_for rfl (gi_list (gv 2)) (gg_name (i := 4) sc45.nd rfl (Or.inl rfl))
      (gps_one (gp_for rfl (gi_list (ge_call L.F1 hr1 (by rfl) L.m1 L.k1 L.b1 (ga_cons (gv 0) (ga_cons (gv 4) ga_nil)))) (gg_name (i := 5) sc45.nd rfl (Or.inl rfl))
      (gps_cons (gp_set (i := 6) sc45.nd rfl (Or.inl rfl) (ge_ixL (ge_fld (gv 0) rfl) (gv 5) (by intro _ _; rfl)))
      (gps_cons (gp_set (i := 7) sc45.nd rfl (Or.inl rfl) (ge_call L.F2 hr1 (by rfl) L.m2 L.k2 L.b2 (ga_cons (gv 1) (ga_cons (ge_ixT (gv 6) ge_int (by intro _ _; rfl)) ga_nil))))
      (gps_one (gp_if (gt_cmp go_notN (gv 7) ge_non (nomark _)) (gps_cons (gp_set (i := 8) sc45.nd rfl (Or.inl rfl) (ge_dsetd (gv 3) (gv 7) (ge_lst ga_nil) ⟨rfl, rfl, rfl, rfl⟩))
      (gps_one (gp_expr (ge_bm PySem.F.plainAttrs_list PySem.F.slot_list_append PySem.F.type_list_append gm_append (gv 8) (ga_cons (ge_ixT (gv 6) ge_int (by intro _ _; rfl)) ga_nil))))) gps_nil)))))))
      (gps_one (gp_ret (ge_lc (own := [("sight", 7)]) rfl sc45.nd (gi_list (ge_callB gc_sortS (by rfl) T.bu.sorted (by rfl) (ga_cons (ge_callTy (gc_listD rfl) (by rfl) T.bu.list (by rfl) (ga_cons (gv 3) ga_nil)) ga_nil))) (blkOk_by rfl) (fun _ _ _ _ _ => gg_name (i := 7) sc45.nd rfl (Or.inl rfl) (.inr rfl)) (fun _ _ _ _ _ => gts_nil) (fun _ _ _ _ _ => (ge_tup (ga_cons (gv 7) (ga_cons (ge_call FC hr (by rfl) mC kC bC (ga_cons (gv 0) (ga_cons (gv 1) (ga_cons (ge_dget (gv 3) (gv 7) (by intro _ _; rfl)) ga_nil)))) ga_nil)))))))), ?_⟩
    intro td htd
    have slen : S.length ≤ 1000 := slenH
    have tsm : ∀ e ∈ st, 0 ≤ e.2.2 ∧ e.2.2 < 100 := fun e he => (sm e he).2
    have bnd : ∀ {c : Nat}, c ≤ 1000000 → c < sizeLine := fun h => Nat.lt_of_le_of_lt h (by decide)
    -- for state in states
    refine ⟨_, rfl, a, rfl, ⟨_, SqL.of (by rw [upd_ne (ne_of_none hS htd)]; exact hS)⟩, ?_⟩
    refine for_list (a := a) (xs := S.map .int) (fun i σ H' => ∃ (dn : Step → Prop) (keys : List Str) (ad : Str → Addr) (tg : Str → List Int) (v4 v5 v6 v7 v8 : Option V), σ = [some (.ref d.m), some (.ref wt), some (.ref a), some (.ref td), v4, v5, v6, v7, v8] ∧ TabI H H' td st tab S (i * 1000) dn keys ad tg ∧
        ∀ (j : Nat) (q : Int) (e : Step), j < i → S[j]? = some q → e ∈ st → e.1 = q → dn e)
      ⟨fun _ => False, [], fun _ => 0, fun _ => [], none, none, none, none, none, rfl, ⟨Same.upd same_rfl htd, upd_same, fun x hx => by simp at hx, fun x hx => by simp at hx, fun x hx => by simp at hx, List.nodup_nil, fun e h => h.elim, fun x hx => by simp at hx, fun x hx => by simp at hx, fun e x h => h.elim, fun x hx => by simp at hx⟩, fun j q e h => absurd h (Nat.not_lt_zero _)⟩
      (fun i σ H' _ ⟨_, _, _, _, _, _, _, _, _, _, I, _⟩ => SqL.of (I.same _ _ hS)) ?_ ?_
    · rintro i x σ H2 hi ⟨dn, keys, ad, tg, v4, v5, v6, v7, v8, rfl, I2, pr2⟩
      obtain ⟨q, hq, rfl⟩ := get_int hi
      have qS : q ∈ S := List.mem_of_getElem? hq
      have iS : i < S.length := (List.getElem?_eq_some_iff.mp hq).1
      -- for number in steps_from(machine, state)
      refine ⟨_, rfl, _, rfl, d, q0, st, reach, q, rfl, M.same I2.same, fun H3 nl s3 hnl hl3 => ⟨nl, rfl, ⟨_, SqL.of hl3⟩, ?_⟩⟩
      have nnt : nl ≠ td := (ne_of_none I2.tab hnl).symm
      refine for_list (a := nl) (xs := (nums st q).map natV) (fun j σ' H' => ∃ (dn : Step → Prop) (keys : List Str) (ad : Str → Addr) (tg : Str → List Int) (v5 v6 v7 v8 : Option V), σ' = [some (.ref d.m), some (.ref wt), some (.ref a), some (.ref td), some (.int q), v5, v6, v7, v8] ∧ TabI H H' td st tab S (i * 1000 + j) dn keys ad tg ∧
          H' nl = some (.lst ((nums st q).map natV)) ∧ (∀ x ∈ keys, ad x ≠ nl) ∧ (∀ (j : Nat) (q : Int) (e : Step), j < i → S[j]? = some q → e ∈ st → e.1 = q → dn e) ∧ ∀ (k n : Nat) (e : Step), k < j → (nums st q)[k]? = some n → st[n]? = some e → dn e)
        ⟨dn, keys, ad, tg, v5, v6, v7, v8, rfl, I2.ext s3, hl3, fun x hx => ne_of_none (I2.lst x hx) hnl, pr2, fun k n e h => absurd h (Nat.not_lt_zero _)⟩ (fun i σ' H' _ ⟨_, _, _, _, _, _, _, _, _, _, hl, _⟩ => SqL.of hl) ?_ ?_
      · rintro j y σ' H4 hj ⟨dn, keys, ad, tg, v5, v6, v7, v8, rfl, I4, hnl4, nad, pr4, pn4⟩
        obtain ⟨n, hn, rfl⟩ : ∃ n, (nums st q)[j]? = some n ∧ y = natV n := by
          rw [List.getElem?_map] at hj
          cases e : (nums st q)[j]? with
          | none => rw [e] at hj; cases hj
          | some n => rw [e] at hj; exact ⟨n, rfl, (Option.some.inj hj).symm⟩
        have jn : j < (nums st q).length := (List.getElem?_eq_some_iff.mp hn).1
        have nl1 : (nums st q).length ≤ st.length := by
          have := List.length_filter_le (fun i => decide ((st[i]?.map fun e => e.1) = some q)) (List.range st.length)
          rw [List.length_range] at this
          exact this
        obtain ⟨e, he, rfl⟩ := mem_nums.mp (List.mem_of_getElem? hn)
        have heS : e ∈ st := List.mem_of_getElem? he
        have M4 := M.same I4.same
        have W4 := W.same I4.same
        obtain ⟨ra, hra⟩ : ∃ ra, d.ra[n]? = some ra := by
          have hlt := (List.getElem?_eq_some_iff.mp he).1
          exact ⟨_, List.getElem?_eq_getElem (by rw [M.rlen]; exact hlt)⟩
        have hrow := M4.row n ra e hra he
        refine ⟨_, rfl, d.m, CM, d.dm, d.fs, _, rfl, M4.ins, T.cM, T.n2, M4.f2, _, rfl, d.rl, _, n, .ref ra, rfl, rfl, SqL.of M4.rows, by rw [List.getElem?_map, hra]; rfl, ?_⟩
        -- sight = sight_of(watch, row[1])
        refine ⟨_, rfl, _, rfl, ra, _, 1, _, rfl, rfl, SqT.of hrow, rfl, wt, dw, tb, tab, e.2.1, rfl, W4, ?_⟩
        -- the next turn
        have step : ∀ (v7 v8 : Option V) (keys' : List Str) (ad' : Str → Addr) (tg' : Str → List Int) (H5 : Hp) (c : Nat), TabI H H5 td st tab S c (fun z => dn z ∨ z = e) keys' ad' tg' → c ≤ i * 1000 + (j + 1) → H5 nl = some (.lst ((nums st e.1).map natV)) → (∀ x ∈ keys', ad' x ≠ nl) →
            ∃ (dn : Step → Prop) (keys : List Str) (ad : Str → Addr) (tg : Str → List Int) (v5 v6 w7 w8 : Option V), [some (V.ref d.m), some (.ref wt), some (.ref a), some (.ref td), some (.int e.1), some (natV n), some (.ref ra), v7, v8] = [some (.ref d.m), some (.ref wt), some (.ref a), some (.ref td), some (.int e.1), v5, v6, w7, w8] ∧ TabI H H5 td st tab S (i * 1000 + (j + 1)) dn keys ad tg ∧
              H5 nl = some (.lst ((nums st e.1).map natV)) ∧ (∀ x ∈ keys, ad x ≠ nl) ∧ (∀ (j : Nat) (q : Int) (e : Step), j < i → S[j]? = some q → e ∈ st → e.1 = q → dn e) ∧ ∀ (k n : Nat) (z : Step), k < j + 1 → (nums st e.1)[k]? = some n → st[n]? = some z → dn z := fun v7 v8 keys' ad' tg' H5 c I5 hc hl5 hn5 => by
          refine ⟨_, keys', ad', tg', _, _, _, _, rfl, I5.more hc, hl5, hn5, fun j' q' e' a1 a2 a3 a4 => .inl (pr4 j' q' e' a1 a2 a3 a4), fun k n' z a1 a2 a3 => ?_⟩
          rcases Nat.lt_succ_iff_lt_or_eq.mp a1 with y | y
          · exact .inl (pn4 k n' z y a2 a3)
          · subst y
            rw [hn] at a2
            cases a2
            rw [he] at a3
            cases a3
            exact .inr rfl
        refine ⟨_, rfl, rfl, _, rfl, ?_⟩
        cases hse : see tab e.2.1 with
        | none =>
          rw [show (!decide (seeV none = V.non)) = false from rfl]
          exact iteF (step _ _ keys ad tg H4 _ (I4.skip heS qS hse) (by omega) hnl4 nad)
        | some x0 =>
          rw [show (!decide (seeV (some x0) = V.non)) = true from rfl]
          -- ends = table.setdefault(sight, []); ends.append(row[2])
          refine iteT ⟨_, rfl, td, rfl, .inl ⟨_, .inl I4.tab⟩, _, rfl, Nat.zero_le _, fun p hp => ?_⟩
          have npt : p ≠ td := (ne_of_none I4.tab hp).symm
          have npn : p ≠ nl := (ne_of_none hnl4 hp).symm
          have ht4 : upd H4 p (.lst []) td = some (.dK (tabK keys ad)) := by rw [upd_ne npt.symm]; exact I4.tab
          have klen : keys.length < 64 := Nat.lt_of_le_of_lt (nd_le I4.kn fun x hx => by
            obtain ⟨z, hz, hs⟩ := I4.key x hx
            exact hX z (I4.ok z hz).1 x hs) xlen
          refine ⟨tabK keys ad, .inr x0, ht4, rfl, by unfold tabK; rw [List.length_map]; exact Nat.lt_trans klen (by decide), fun v hv => ?_, fun hv => ?_⟩
          · rw [tabK_val] at hv
            by_cases hk : x0 ∈ keys
            · rw [if_pos hk] at hv
              cases hv
              have s5 : Same H4 (upd H4 p (.lst [])) := Same.upd same_rfl hp
              have I5 := I4.ext s5
              have hl5 := I5.lst x0 hk
              refine ⟨_, rfl, .inl ⟨rfl, _, SqL.of hl5⟩, _, rfl, ra, _, 2, .int e.2.2, rfl, rfl, SqT.of (s5 _ _ hrow), rfl, ad x0, _, .int e.2.2, rfl, rfl, hl5, by rw [List.length_map]; exact bnd (Nat.le_trans (I5.len x0 hk) (by omega)), ?_⟩
              refine step _ _ keys ad _ _ _ (I5.add heS qS hse hk) (by omega) ?_ nad
              rw [upd_ne (nad x0 hk).symm]
              exact s5 _ _ hnl4
            · rw [if_neg hk] at hv
              cases hv
          · rw [tabK_val] at hv
            by_cases hk : x0 ∈ keys
            · rw [if_pos hk] at hv
              cases hv
            · have I5 := I4.fresh heS qS hse hk hp htd
              have hl5 : upd (upd H4 p (.lst [])) td (.dK (putK (tabK keys ad) (.inr x0) (.ref p))) p = some (.lst []) := by rw [upd_ne npt, upd_same]
              have hrow5 : upd (upd H4 p (.lst [])) td (.dK (putK (tabK keys ad) (.inr x0) (.ref p))) ra = some (.tup (stepV e)) := by
                rw [upd_ne (ne_of hrow I4.tab (by intro z; cases z)), upd_ne (ne_of_none hrow hp)]
                exact hrow
              refine ⟨_, rfl, .inl ⟨rfl, _, SqL.of hl5⟩, _, rfl, ra, _, 2, .int e.2.2, rfl, rfl, SqT.of hrow5, rfl, p, _, .int e.2.2, rfl, rfl, hl5, by show 0 < sizeLine; decide, ?_⟩
              refine step _ _ _ _ _ _ _ I5 (by omega) ?_ fun x hx => ?_
              · rw [upd_ne npn.symm, upd_ne nnt, upd_ne npn.symm]
                exact hnl4
              · by_cases hx0 : x = x0
                · rw [if_pos hx0]; exact npn
                · rw [if_neg hx0]
                  rcases List.mem_append.mp hx with z | z
                  · exact nad x z
                  · exact absurd (List.mem_singleton.mp z) hx0
      · rintro σ' H4 ⟨dn, keys, ad, tg, v5, v6, v7, v8, rfl, I4, hnl4, nad, pr4, pn4⟩
        have nl1 : (nums st q).length ≤ st.length := by
          have := List.length_filter_le (fun i => decide ((st[i]?.map fun e => e.1) = some q)) (List.range st.length)
          rw [List.length_range] at this
          exact this
        rw [List.length_map] at I4
        refine ⟨dn, keys, ad, tg, _, _, _, _, _, rfl, I4.more (by omega), fun j' q' e' a1 a2 a3 a4 => ?_⟩
        rcases Nat.lt_succ_iff_lt_or_eq.mp a1 with z | z
        · exact pr4 j' q' e' z a2 a3 a4
        · subst z
          rw [hq] at a2
          cases a2
          obtain ⟨n, hn⟩ := List.getElem?_of_mem a3
          obtain ⟨k, hk⟩ := List.getElem?_of_mem (mem_nums.mpr ⟨e', hn, a4⟩)
          have hlt := (List.getElem?_eq_some_iff.mp hk).1
          exact pn4 k n e' (by rw [List.length_map]; exact hlt) hk hn
    · rintro σ H2 ⟨dn, keys, ad, tg, v4, v5, v6, v7, v8, rfl, I2, pr2⟩
      rw [List.length_map] at I2 pr2
      have all : ∀ e ∈ st, e.1 ∈ S → dn e := fun e he hq => by
        obtain ⟨j, hj⟩ := List.getElem?_of_mem hq
        exact pr2 j e.1 e (List.getElem?_eq_some_iff.mp hj).1 hj he rfl
      have klen : keys.length < 64 := Nat.lt_of_le_of_lt (nd_le I2.kn fun x hx => by
        obtain ⟨z, hz, hs⟩ := I2.key x hx
        exact hX z (I2.ok z hz).1 x hs) xlen
      -- sorted(list(table))
      refine ⟨_, rfl, td, _, rfl, .inl I2.tab, fun l1 hl1 => ⟨l1, keys, rfl, SqL.of (by rw [upd_same]; unfold tabK; rw [List.map_map]; rfl), klen, fun ys p hp hsort hpn => ⟨p, rfl, ⟨_, SqL.of upd_same⟩, ?_⟩⟩⟩
      intro D hD
      have sT : Same H2 (upd (upd H2 l1 (.lst ((tabK keys ad).map fun kv => kV kv.1))) p (.lst (ys.map V.str))) := (Same.upd same_rfl hl1).upd ((Same.upd same_rfl hl1).free hpn)
      have IT := I2.ext sT
      have hpT : upd (upd H2 l1 (.lst ((tabK keys ad).map fun kv => kV kv.1))) p (.lst (ys.map V.str)) p = some (.lst (ys.map V.str)) := upd_same
      generalize upd (upd H2 l1 (.lst ((tabK keys ad).map fun kv => kV kv.1))) p (.lst (ys.map V.str)) = HT at hD sT IT hpT ⊢
      have ynd : ys.Nodup := hp.symm.nodup IT.kn
      refine lc_list (a := p) (xs := ys.map V.str) (fun i H' => ∃ ps ls : List Addr, Same HT H' ∧ H' D = some (.lst (ps.map .ref)) ∧ ps.length = i ∧ ls.length = i ∧ (∀ b ∈ ps ++ ls, HT b = none ∧ b ≠ D) ∧
          ∀ (j : Nat) (a l : Addr) (x : Str), ps[j]? = some a → ls[j]? = some l → ys[j]? = some x → H' a = some (.tup [.str x, .ref l]) ∧ H' l = some (.lst ((KN.asc (after st tab S x)).map .int)))
        ⟨[], [], Same.upd same_rfl hD, upd_same, rfl, rfl, fun b hb => by simp at hb, fun j a l x h => by simp at h⟩ (fun i H' _ ⟨_, _, s', _⟩ => SqL.of (s' _ _ hpT)) ?_ ?_
      · rintro i x H' hi ⟨ps, ls, s', hD', lps, lls, fr, at'⟩
        obtain ⟨y, hy, rfl⟩ : ∃ y, ys[i]? = some y ∧ x = V.str y := by
          rw [List.getElem?_map] at hi
          cases e : ys[i]? with
          | none => rw [e] at hi; cases hi
          | some n => rw [e] at hi; exact ⟨n, rfl, (Option.some.inj hi).symm⟩
        have yk : y ∈ keys := hp.mem_iff.mp (List.mem_of_getElem? hy)
        have I' := IT.ext s'
        have ilt : i < 64 := Nat.lt_of_lt_of_le (List.getElem?_eq_some_iff.mp hy).1 (by rw [hp.length_eq]; omega)
        have tS : ∀ t, t ∈ tg y ↔ ∃ e ∈ st, e.1 ∈ S ∧ e.2.2 = t ∧ see tab e.2.1 = some y := fun t => by
          rw [I'.tgt y yk t]
          constructor
          · rintro ⟨e, h1, h2, h3⟩
            exact ⟨e, (I'.ok e h1).1, (I'.ok e h1).2, h3, h2⟩
          · rintro ⟨e, h1, h2, h3, h4⟩
            exact ⟨e, all e h1 h2, h4, h3⟩
        have ec : clo st tab (tg y) = KN.asc (after st tab S y) := asc_congr fun t => ⟨ur_congr fun z h => (tS z).mp h, ur_congr fun z h => (tS z).mpr h⟩
        refine ⟨rfl, ?_⟩
        refine tYes_ok ?_
        refine iteT ?_
        refine ⟨_, rfl, _, rfl, _, rfl, _, rfl, _, rfl, td, tabK keys ad, .inr y, .ref (ad y), rfl, rfl, .inl I'.tab, by rw [tabK_val, if_pos yk], d, q0, st, reach, wt, dw, tb, ad y, tab, tg y, rfl, M.same I'.same, W.same I'.same, I'.lst y yk, sm, fun t ht => ?_, fun H5 l5 s5 hn5 hl5 => ⟨(show 2 ≤ sizeLine by decide), fun q hq => ?_⟩⟩
        · obtain ⟨e, h1, _, rfl, _⟩ := (tS t).mp ht
          exact tsm e h1
        rw [ec] at hl5
        have nlD : l5 ≠ D := (ne_of_none hD' hn5).symm
        have nqD : q ≠ D := (ne_of_none (s5 _ _ hD') hq).symm
        have nql : q ≠ l5 := (ne_of_none hl5 hq).symm
        have sq : Same HT (upd H5 q (.tup [.str y, .ref l5])) := fun b o e => by
          rw [upd_ne (ne_of_none (s5 _ _ (s' _ _ e)) hq)]
          exact s5 _ _ (s' _ _ e)
        refine ⟨ps.map .ref, by rw [upd_ne nqD.symm]; exact s5 _ _ hD', by rw [List.length_map, lps]; exact Nat.lt_trans ilt (by decide), ps ++ [q], ls ++ [l5], sq.upd hD, by rw [upd_same, List.map_append]; rfl, by rw [List.length_append, lps]; rfl, by rw [List.length_append, lls]; rfl, fun b hb => ?_, fun j a l x h1 h2 h3 => ?_⟩
        · have s05 : Same HT H5 := fun b o e => s5 _ _ (s' _ _ e)
          have hq0 : HT q = none := s05.free hq
          have hl0 : HT l5 = none := s'.free hn5
          rcases List.mem_append.mp hb with hb | hb <;> rcases List.mem_append.mp hb with hb | hb
          · exact fr b (List.mem_append_left _ hb)
          · rw [List.mem_singleton.mp hb]; exact ⟨hq0, nqD⟩
          · exact fr b (List.mem_append_right _ hb)
          · rw [List.mem_singleton.mp hb]; exact ⟨hl0, nlD⟩
        · by_cases hj : j < i
          · rw [List.getElem?_append_left (by rw [lps]; exact hj)] at h1
            rw [List.getElem?_append_left (by rw [lls]; exact hj)] at h2
            obtain ⟨z1, z2⟩ := at' j a l x h1 h2 h3
            have na : a ≠ D := (fr a (List.mem_append_left _ (List.mem_of_getElem? h1))).2
            have nl : l ≠ D := (fr l (List.mem_append_right _ (List.mem_of_getElem? h2))).2
            rw [upd_ne na, upd_ne nl, upd_ne (ne_of_none (s5 _ _ z1) hq), upd_ne (ne_of_none (s5 _ _ z2) hq)]
            exact ⟨s5 _ _ z1, s5 _ _ z2⟩
          · have hlt := (List.getElem?_eq_some_iff.mp h1).1
            rw [List.length_append, List.length_singleton] at hlt
            have e : j = i := by omega
            subst e
            rw [List.getElem?_append_right (by omega), lps, Nat.sub_self] at h1
            rw [List.getElem?_append_right (by omega), lls, Nat.sub_self] at h2
            rw [hy] at h3
            cases h1
            cases h2
            cases h3
            rw [upd_ne nqD, upd_same, upd_ne nlD, upd_ne nql.symm]
            exact ⟨rfl, hl5⟩
      · rintro HF ⟨ps, ls, sF, hDF, lps, lls, fr, at'⟩
        rw [List.length_map] at lps lls
        have sHT : Same H HT := IT.same
        have es : endsOf st tab S = ys.map fun x => (x, KN.asc (after st tab S x)) := by
          refine endsOf_eq ⟨?_, fun x => ?_, fun q hq => ?_⟩
          · rw [List.map_map]
            exact (List.map_id ys).symm ▸ sorted_asc hsort ynd
          · rw [List.map_map]
            show x ∈ ys.map id ↔ _
            rw [List.map_id, hp.mem_iff]
            constructor
            · intro hx
              obtain ⟨e, h1, h2⟩ := IT.key x hx
              exact ⟨e, (IT.ok e h1).1, (IT.ok e h1).2, h2⟩
            · rintro ⟨e, h1, h2, h3⟩
              exact IT.cov e x (all e h1 h2) h3
          · obtain ⟨x, _, rfl⟩ := List.mem_map.mp hq
            rfl
        refine k HF D ps ls (fun b o e => sF _ _ (sHT _ _ e)) (sHT.free hD) (fun b hb => sHT.free (fr b hb).1) ⟨hDF, ?_, ?_, fun j a l e h1 h2 h3 => ?_⟩
        · rw [es, List.length_map]; exact lps
        · rw [es, List.length_map]; exact lls
        · rw [es, List.getElem?_map] at h3
          cases hy : ys[j]? with
          | none => rw [hy] at h3; cases h3
          | some y =>
            rw [hy] at h3
            cases h3
            exact at' j a l y h1 h2 hy
end
end KN
/-! The rows, plainly: the search and what it finds. -/
namespace KN
open PySem PySem.Spec PyProof.Rows L2
/-- what is pruned -/
def lft (L : List (List Int)) (j : Nat) (E : List Int) : List Int := E.filter fun q => decide (q ∈ L.getD j [])
section
variable (st : List Step) (T : List (Str × Str)) (L : List (List Int))
/-- the rows behind a row, j sights to go -/
noncomputable def expand : Nat → List Str → List Int → List (List Str)
  | 0, row, _ => [row]
  | j + 1, row, S => (endsOf st T S).flatMap fun p => if lft L j p.2 = [] then [] else expand j (row ++ [p.1]) (lft L j p.2)
/-- the entries that come of one -/
noncomputable def kids (j : Nat) (row : List Str) (S : List Int) : List (List Str × List Int) := (endsOf st T S).filterMap fun p => if lft L j p.2 = [] then none else some (row ++ [p.1], lft L j p.2)
/-- how many entries come of one, itself counted -/
noncomputable def tree : Nat → List Str → List Int → Nat
  | 0, _, _ => 1
  | j + 1, row, S => 1 + ((endsOf st T S).map fun p => if lft L j p.2 = [] then 0 else tree j (row ++ [p.1]) (lft L j p.2)).sum
end
theorem expand_kids {st : List Step} {T : List (Str × Str)} {L : List (List Int)} {j : Nat} {row : List Str} {S : List Int} : expand st T L (j + 1) row S = (kids st T L j row S).flatMap fun p => expand st T L j p.1 p.2 := by
  show (endsOf st T S).flatMap _ = _
  unfold kids
  induction endsOf st T S with
  | nil => rfl
  | cons p es ih =>
    rw [List.flatMap_cons, List.filterMap_cons, ih]
    by_cases h : lft L j p.2 = []
    · rw [if_pos h, if_pos h]
      rfl
    · rw [if_neg h, if_neg h, List.flatMap_cons]
theorem tree_kids {st : List Step} {T : List (Str × Str)} {L : List (List Int)} {j : Nat} {row : List Str} {S : List Int} : tree st T L (j + 1) row S = 1 + ((kids st T L j row S).map fun p => tree st T L j p.1 p.2).sum := by
  show 1 + ((endsOf st T S).map _).sum = _
  unfold kids
  congr 1
  induction endsOf st T S with
  | nil => rfl
  | cons p es ih =>
    rw [List.map_cons, List.sum_cons, List.filterMap_cons, ih]
    by_cases h : lft L j p.2 = []
    · rw [if_pos h, if_pos h]
      exact Nat.zero_add _
    · rw [if_neg h, if_neg h, List.map_cons, List.sum_cons]
/-! ### what is found -/
def aft (st : List Step) (T : List (Str × Str)) (P : Int → Prop) (x : Str) : Int → Prop := UR st T fun t => ∃ e ∈ st, P e.1 ∧ e.2.2 = t ∧ see T e.2.1 = some x
/-- where a row leads -/
def RR (st : List Step) (T : List (Str × Str)) : (Int → Prop) → List Str → Int → Prop
  | P, [] => P
  | P, x :: r => RR st T (aft st T P x) r
def Feas (st : List Step) (T : List (Str × Str)) (q0 : Int) (r : List Str) : Prop := ∃ q, RR st T (UR st T (· = q0)) r q
theorem aft_mono {st : List Step} {T : List (Str × Str)} {P P' : Int → Prop} (h : ∀ q, P q → P' q) {x : Str} {q : Int} (a : aft st T P x q) : aft st T P' x q :=
  ur_congr (fun t ⟨e, h1, h2, h3⟩ => ⟨e, h1, h _ h2, h3⟩) a
theorem RR_mono {st : List Step} {T : List (Str × Str)} : ∀ {r : List Str} {P P' : Int → Prop}, (∀ q, P q → P' q) → ∀ {q : Int}, RR st T P r q → RR st T P' r q
  | [], _, _, h, _, a => h _ a
  | x :: r, _, _, h, _, a => RR_mono (r := r) (fun q => aft_mono h) a
theorem RR_append {st : List Step} {T : List (Str × Str)} : ∀ {r r' : List Str} {P : Int → Prop} {q : Int}, RR st T P (r ++ r') q ↔ RR st T (RR st T P r) r' q
  | [], _, _, _ => Iff.rfl
  | x :: r, r', P, q => RR_append (r := r) (r' := r') (P := aft st T P x)
/-- the machine's states, for what the search needs -/
structure Reach (st : List Step) (reach : List Int) (q0 : Int) : Prop where
  q0 : q0 ∈ reach
  step : ∀ e ∈ st, e.1 ∈ reach → e.2.2 ∈ reach
  sm : ∀ q ∈ reach, 0 ≤ q ∧ q < 100
theorem ur_in {st : List Step} {T : List (Str × Str)} {reach : List Int} (h : ∀ e ∈ st, e.1 ∈ reach → e.2.2 ∈ reach) {P : Int → Prop} (hp : ∀ q, P q → q ∈ reach) {q : Int} (u : UR st T P q) : q ∈ reach := by
  induction u with
  | base b => exact hp _ b
  | step _ v ih =>
    obtain ⟨e, he, rfl, rfl, _⟩ := v
    exact h e he ih
theorem aft_in {st : List Step} {T : List (Str × Str)} {reach : List Int} (h : ∀ e ∈ st, e.1 ∈ reach → e.2.2 ∈ reach) {P : Int → Prop} (hp : ∀ q, P q → q ∈ reach) {x : Str} {q : Int} (u : aft st T P x q) : q ∈ reach :=
  ur_in h (fun t ⟨e, h1, h2, h3, _⟩ => h3 ▸ h e h1 (hp _ h2)) u
theorem mem_lft {L : List (List Int)} {j : Nat} {E : List Int} {q : Int} : q ∈ lft L j E ↔ q ∈ E ∧ q ∈ L.getD j [] := by
  unfold lft
  rw [List.mem_filter, decide_eq_true_eq]
theorem ur_first {st : List Step} {T : List (Str × Str)} {P : Int → Prop} {t : Int} (u : UR st T P t) : ∃ p, P p ∧ UR st T (· = p) t := by
  induction u with
  | base b => exact ⟨_, b, .base rfl⟩
  | step _ v ih =>
    obtain ⟨p, hp, hq⟩ := ih
    exact ⟨p, hp, .step hq v⟩
/-- able: some row of j sights leads on from it -/
theorem able_has {st : List Step} {T : List (Str × Str)} {reach : List Int} {L : List (List Int)} (hL : AbleL st T reach L) (hr : ∀ e ∈ st, e.1 ∈ reach → e.2.2 ∈ reach) : ∀ (r : List Str) (q : Int), r.length < L.length → q ∈ reach → (∃ t, RR st T (UR st T (· = q)) r t) → q ∈ L.getD r.length []
  | [], q, hl, hq, _ => by
    obtain ⟨lo, elo⟩ : ∃ lo, L[0]? = some lo := ⟨_, List.getElem?_eq_getElem hl⟩
    show q ∈ L.getD 0 []
    rw [List.getD_eq_getElem?_getD, elo]
    exact hL.1 lo elo q hq
  | x :: r, q, hl, hq, ⟨t, ht⟩ => by
    rw [List.length_cons] at hl
    obtain ⟨lo, elo⟩ : ∃ lo, L[r.length]? = some lo := ⟨_, List.getElem?_eq_getElem (by omega)⟩
    obtain ⟨hi, ehi⟩ : ∃ hi, L[r.length + 1]? = some hi := ⟨_, List.getElem?_eq_getElem (by omega)⟩
    have ab := hL.2 r.length lo hi elo ehi
    show q ∈ L.getD (r.length + 1) []
    rw [List.getD_eq_getElem?_getD, ehi]
    show q ∈ hi
    -- a state from which the row goes on is in hi
    have back : ∀ q', UR st T (· = q) q' → q' ∈ hi → q ∈ hi := fun q' u => by
      induction u with
      | base b => exact fun h => b ▸ h
      | @step p p' up v ih => exact fun h => ih (ab.u p (ur_in (P := (· = q)) hr (fun z hz => by have hz : z = q := hz; rw [hz]; exact hq) up) p' v h)
    -- the first sight's step
    have first : ∀ (r : List Str) (P : Int → Prop), (∀ q, P q → q ∈ reach) → ∀ t, RR st T (UR st T P) r t → ∃ p, P p ∧ RR st T (UR st T (· = p)) r t := fun r => by
      induction r with
      | nil =>
        intro P hP t u
        exact ur_first u
      | cons y r ih =>
        intro P hP t u
        have hP2 : ∀ z, (∃ e ∈ st, UR st T P e.1 ∧ e.2.2 = z ∧ see T e.2.1 = some y) → z ∈ reach := fun z ⟨e, h1, h2, h3, _⟩ => h3 ▸ hr e h1 (ur_in hr hP h2)
        obtain ⟨p, ⟨e, h1, h2, rfl, h4⟩, h5⟩ := ih _ hP2 t u
        obtain ⟨p0, hp0, hu⟩ := ur_first h2
        refine ⟨p0, hp0, ?_⟩
        refine RR_mono (r := r) (fun z hz => ?_) h5
        exact ur_congr (fun w hw => ⟨e, h1, hu, hw.symm, h4⟩) hz
    have hP2 : ∀ z, (∃ e ∈ st, UR st T (· = q) e.1 ∧ e.2.2 = z ∧ see T e.2.1 = some x) → z ∈ reach := fun z ⟨e, h1, h2, h3, _⟩ => h3 ▸ hr e h1 (ur_in (P := (· = q)) hr (fun w hw => by have hw : w = q := hw; rw [hw]; exact hq) h2)
    obtain ⟨p, ⟨e, h1, h2, rfl, h4⟩, h5⟩ := first r _ hP2 t ht
    have e1r : e.1 ∈ reach := ur_in (P := (· = q)) hr (fun w hw => by have hw : w = q := hw; rw [hw]; exact hq) h2
    have ih := able_has hL hr r e.2.2 (by omega) (hr e h1 e1r) ⟨t, h5⟩
    rw [List.getD_eq_getElem?_getD, elo] at ih
    exact back e.1 h2 (ab.s e.1 e1r e.2.2 ⟨e, h1, rfl, rfl, by rw [h4]; exact fun z => by cases z⟩ ih)
end KN
/-! The search finds the rows that can be, in order, each once. -/
namespace KN
open PySem PySem.Spec PyProof.Rows L2
theorem ins_asc {α : Type} {lt : α → α → Prop} (tr : ∀ a b c, lt a b → lt b c → lt a c) (tri : ∀ a b, lt a b ∨ a = b ∨ lt b a) (a : α) : ∀ (m : List α), m.Pairwise lt → ∃ m' : List α, m'.Pairwise lt ∧ ∀ x, x ∈ m' ↔ x = a ∨ x ∈ m
  | [], _ => ⟨[a], by simp, fun x => by simp⟩
  | b :: m, h => by
    obtain ⟨h1, h2⟩ := List.pairwise_cons.mp h
    rcases tri a b with z | z | z
    · exact ⟨a :: b :: m, List.pairwise_cons.mpr ⟨fun y hy => by
        rcases List.mem_cons.mp hy with w | w
        · rw [w]; exact z
        · exact tr _ _ _ z (h1 y w), h⟩, fun x => by rw [List.mem_cons]⟩
    · subst z
      exact ⟨a :: m, h, fun x => by rw [List.mem_cons]; exact ⟨fun w => .inr w, fun w => w.elim (fun e => .inl e) id⟩⟩
    · obtain ⟨m', p, q⟩ := ins_asc tr tri a m h2
      refine ⟨b :: m', List.pairwise_cons.mpr ⟨fun y hy => ?_, p⟩, fun x => ?_⟩
      · rcases (q y).mp hy with w | w
        · rw [w]; exact z
        · exact h1 y w
      · rw [List.mem_cons, q, List.mem_cons]
        constructor
        · rintro (w | w | w)
          · exact .inr (.inl w)
          · exact .inl w
          · exact .inr (.inr w)
        · rintro (w | w | w)
          · exact .inr (.inl w)
          · exact .inl w
          · exact .inr (.inr w)
theorem ex_asc {α : Type} {lt : α → α → Prop} (tr : ∀ a b c, lt a b → lt b c → lt a c) (tri : ∀ a b, lt a b ∨ a = b ∨ lt b a) : ∀ (l : List α), ∃ m : List α, m.Pairwise lt ∧ ∀ x, x ∈ m ↔ x ∈ l
  | [] => ⟨[], .nil, fun x => Iff.rfl⟩
  | a :: l => by
    obtain ⟨m, h1, h2⟩ := ex_asc tr tri l
    obtain ⟨m', h3, h4⟩ := ins_asc tr tri a m h1
    exact ⟨m', h3, fun x => by rw [h4, h2, List.mem_cons]⟩
theorem ends_ex (st : List Step) (T : List (Str × Str)) (S : List Int) : EndsR st T S (endsOf st T S) := by
  have z : ∃ es, EndsR st T S es := by
    obtain ⟨m, h1, h2⟩ := ex_asc tlt_trans tlt_tri (st.filterMap fun e => if e.1 ∈ S then see T e.2.1 else none)
    refine ⟨m.map fun x => (x, asc (after st T S x)), ?_, fun x => ?_, fun p hp => ?_⟩
    · rw [List.map_map]
      exact (List.map_id m).symm ▸ h1
    · rw [List.map_map]
      show x ∈ m.map id ↔ _
      rw [List.map_id, h2, List.mem_filterMap]
      constructor
      · rintro ⟨e, he, h⟩
        by_cases hs : e.1 ∈ S
        · rw [if_pos hs] at h; exact ⟨e, he, hs, h⟩
        · rw [if_neg hs] at h; cases h
      · rintro ⟨e, he, hs, h⟩
        exact ⟨e, he, by rw [if_pos hs]; exact h⟩
    · obtain ⟨x, _, rfl⟩ := List.mem_map.mp hp
      rfl
  obtain ⟨es, h⟩ := z
  rw [endsOf_eq h]
  exact h
theorem RR_split {st : List Step} {T : List (Str × Str)} : ∀ {r : List Str} {P : Int → Prop} {q : Int}, RR st T P r q → ∃ p, P p ∧ RR st T (· = p) r q
  | [], P, q, h => ⟨q, h, rfl⟩
  | x :: r, P, q, h => by
    obtain ⟨p', h1, h2⟩ := RR_split (r := r) (P := aft st T P x) h
    obtain ⟨t, ⟨e, h3, h4, h5, h6⟩, h7⟩ := ur_first h1
    refine ⟨e.1, h4, RR_mono (r := r) (fun z hz => ?_) h2⟩
    have hz : z = p' := hz
    rw [hz]
    exact ur_congr (fun w hw => ⟨e, h3, rfl, by have hw : w = t := hw; rw [hw]; exact h5, h6⟩) h7
theorem getD_of {L : List (List Int)} {j : Nat} {q : Int} (h : q ∈ L.getD j []) : q ∈ L.getD j [] := h
section
variable {st : List Step} {T : List (Str × Str)} {L : List (List Int)} {reach : List Int}
theorem exp_mem (hL : AbleL st T reach L) (hr : ∀ e ∈ st, e.1 ∈ reach → e.2.2 ∈ reach) (hsm : ∀ q ∈ reach, 0 ≤ q ∧ q < 100) : ∀ (j : Nat) (row : List Str) (S : List Int) (r : List Str), j < L.length → (∀ q ∈ S, q ∈ reach) → S ≠ [] →
    (r ∈ expand st T L j row S ↔ ∃ r', r = row ++ r' ∧ r'.length = j ∧ ∃ q, RR st T (· ∈ S) r' q)
  | 0, row, S, r, _, _, hne => by
    show r ∈ [row] ↔ _
    rw [List.mem_singleton]
    constructor
    · rintro rfl
      obtain ⟨q, hq⟩ := List.exists_mem_of_ne_nil S hne
      exact ⟨[], by simp, rfl, q, hq⟩
    · rintro ⟨r', rfl, h, _⟩
      rw [List.length_eq_zero_iff.mp h, List.append_nil]
  | j + 1, row, S, r, hj, hS, _ => by
    have E := ends_ex st T S
    show r ∈ (endsOf st T S).flatMap _ ↔ _
    rw [List.mem_flatMap]
    constructor
    · rintro ⟨p, hp, hm⟩
      by_cases hl : lft L j p.2 = []
      · rw [if_pos hl] at hm; simp at hm
      · rw [if_neg hl] at hm
        have ev := E.val p hp
        have sub : ∀ q ∈ lft L j p.2, aft st T (· ∈ S) p.1 q := fun q hq => by
          have h := (mem_lft.mp hq).1
          rw [ev] at h
          exact (mem_asc.mp h).2
        obtain ⟨r', rfl, h1, q, h2⟩ := (exp_mem hL hr hsm j _ _ r (by omega) (fun q hq => aft_in hr hS (sub q hq)) hl).mp hm
        exact ⟨p.1 :: r', by rw [List.append_assoc]; rfl, by rw [List.length_cons, h1], q, RR_mono (r := r') sub h2⟩
    · rintro ⟨r', rfl, h1, q, h2⟩
      cases r' with
      | nil => cases h1
      | cons x r' =>
        rw [List.length_cons] at h1
        have h1 : r'.length = j := by omega
        have h2 : RR st T (aft st T (· ∈ S) x) r' q := h2
        obtain ⟨p0, a0, h3⟩ := RR_split h2
        have pr : p0 ∈ reach := aft_in hr hS a0
        have pL : p0 ∈ L.getD j [] := by
          rw [← h1]
          exact able_has hL hr r' p0 (by omega) pr ⟨q, RR_mono (r := r') (fun z hz => .base hz) h3⟩
        have hx : x ∈ (endsOf st T S).map (·.1) := by
          obtain ⟨t, ⟨e, e1, e2, e3, e4⟩, _⟩ := ur_first a0
          exact (E.mem x).mpr ⟨e, e1, e2, e4⟩
        obtain ⟨p, hp, rfl⟩ := List.mem_map.mp hx
        have pm : p0 ∈ lft L j p.2 := mem_lft.mpr ⟨by rw [E.val p hp]; exact mem_asc.mpr ⟨hsm p0 pr, a0⟩, pL⟩
        have hl : lft L j p.2 ≠ [] := List.ne_nil_of_mem pm
        refine ⟨p, hp, ?_⟩
        rw [if_neg hl]
        have sub : ∀ q ∈ lft L j p.2, aft st T (· ∈ S) p.1 q := fun q hq => by
          have h := (mem_lft.mp hq).1
          rw [E.val p hp] at h
          exact (mem_asc.mp h).2
        refine (exp_mem hL hr hsm j _ _ _ (by omega) (fun q hq => aft_in hr hS (sub q hq)) hl).mpr ⟨r', by rw [List.append_assoc]; rfl, h1, q, RR_mono (r := r') (fun z hz => ?_) h3⟩
        have hz : z = p0 := hz
        rw [hz]
        exact pm
/-! ### order -/
abbrev rlt : List Str → List Str → Prop := List.Lex tlt
theorem rlt_pre {a b : Str} (h : tlt a b) : ∀ (row u v : List Str), rlt (row ++ a :: u) (row ++ b :: v)
  | [], u, v => .rel h
  | x :: row, u, v => .cons (rlt_pre h row u v)
theorem exp_pre : ∀ (j : Nat) (row : List Str) (S : List Int) (r : List Str), r ∈ expand st T L j row S → ∃ r', r = row ++ r'
  | 0, row, S, r, h => ⟨[], by rw [List.mem_singleton.mp h, List.append_nil]⟩
  | j + 1, row, S, r, h => by
    obtain ⟨p, _, hm⟩ := List.mem_flatMap.mp h
    by_cases hl : lft L j p.2 = []
    · rw [if_pos hl] at hm; simp at hm
    · rw [if_neg hl] at hm
      obtain ⟨r', rfl⟩ := exp_pre j _ _ r hm
      exact ⟨p.1 :: r', by rw [List.append_assoc]; rfl⟩
theorem exp_asc : ∀ (j : Nat) (row : List Str) (S : List Int), (expand st T L j row S).Pairwise rlt
  | 0, row, S => List.pairwise_singleton _ _
  | j + 1, row, S => by
    have E := (ends_ex st T S).up
    show ((endsOf st T S).flatMap _).Pairwise rlt
    revert E
    induction endsOf st T S with
    | nil => intro _; exact .nil
    | cons p es ih =>
      intro E
      rw [List.map_cons, List.pairwise_cons] at E
      rw [List.flatMap_cons, List.pairwise_append]
      refine ⟨?_, ih E.2, fun r hr s hs => ?_⟩
      · by_cases hl : lft L j p.2 = []
        · rw [if_pos hl]; exact .nil
        · rw [if_neg hl]; exact exp_asc j _ _
      · by_cases hl : lft L j p.2 = []
        · rw [if_pos hl] at hr; simp at hr
        · rw [if_neg hl] at hr
          obtain ⟨r', rfl⟩ := exp_pre j _ _ r hr
          obtain ⟨p', hp', hs⟩ := List.mem_flatMap.mp hs
          by_cases hl' : lft L j p'.2 = []
          · rw [if_pos hl'] at hs; simp at hs
          · rw [if_neg hl'] at hs
            obtain ⟨s', rfl⟩ := exp_pre j _ _ s hs
            rw [List.append_assoc, List.append_assoc]
            exact rlt_pre (E.1 p'.1 (List.mem_map_of_mem hp')) row r' s'
theorem rlt_irrefl (r : List Str) : ¬ rlt r r := fun h => by
  induction r with
  | nil => cases h
  | cons x r ih =>
    cases h with
    | cons h => exact ih h
    | rel h => exact tlt_irrefl x h
theorem rlt_trans : ∀ (a b c : List Str), rlt a b → rlt b c → rlt a c := fun a b c h1 => by
  induction h1 generalizing c with
  | nil => intro h2; cases h2 <;> exact .nil
  | @cons x l m h ih =>
    intro h2
    cases h2 with
    | cons h' => exact .cons (ih _ h')
    | rel h' => exact .rel h'
  | @rel x l y m h =>
    intro h2
    cases h2 with
    | cons h' => exact .rel h
    | rel h' => exact .rel (tlt_trans _ _ _ h h')
theorem rlt_tri : ∀ (a b : List Str), rlt a b ∨ a = b ∨ rlt b a
  | [], [] => .inr (.inl rfl)
  | [], b :: m => .inl .nil
  | a :: l, [] => .inr (.inr .nil)
  | a :: l, b :: m => by
    rcases tlt_tri a b with z | z | z
    · exact .inl (.rel z)
    · subst z
      rcases rlt_tri l m with w | w | w
      · exact .inl (.cons w)
      · subst w; exact .inr (.inl rfl)
      · exact .inr (.inr (.cons w))
    · exact .inr (.inr (.rel z))
/-- all rows of n sights -/
noncomputable def expAll (st : List Step) (T : List (Str × Str)) (L : List (List Int)) (q0 : Int) (n : Nat) : List (List Str) :=
  if lft L n (clo st T [q0]) = [] then [] else expand st T L n [] (lft L n (clo st T [q0]))
theorem all_asc {q0 : Int} {n : Nat} : (expAll st T L q0 n).Pairwise rlt := by
  unfold expAll
  by_cases h : lft L n (clo st T [q0]) = []
  · rw [if_pos h]; exact .nil
  · rw [if_neg h]; exact exp_asc _ _ _
theorem all_mem {q0 : Int} {n : Nat} (R : Reach st reach q0) (hL : AbleL st T reach L) (hn : L.length = n + 1) (r : List Str) : r ∈ expAll st T L q0 n ↔ r.length = n ∧ Feas st T q0 r := by
  have c1 : ∀ q, q ∈ clo st T [q0] ↔ (0 ≤ q ∧ q < 100) ∧ UR st T (· = q0) q := fun q => by
    unfold clo
    rw [mem_asc]
    refine and_congr Iff.rfl ⟨ur_congr fun z hz => List.mem_singleton.mp hz, ur_congr fun z hz => List.mem_singleton.mpr hz⟩
  have q0r : ∀ q, UR st T (· = q0) q → q ∈ reach := fun q u => ur_in (P := (· = q0)) R.step (fun z hz => by have hz : z = q0 := hz; rw [hz]; exact R.q0) u
  have sub : ∀ q ∈ lft L n (clo st T [q0]), UR st T (· = q0) q := fun q hq => ((c1 q).mp (mem_lft.mp hq).1).2
  unfold expAll
  constructor
  · intro h
    by_cases hl : lft L n (clo st T [q0]) = []
    · rw [if_pos hl] at h; simp at h
    · rw [if_neg hl] at h
      obtain ⟨r', e, h1, q, h2⟩ := (exp_mem hL R.step R.sm n [] _ r (by omega) (fun q hq => q0r q (sub q hq)) hl).mp h
      have e : r = r' := e
      subst e
      exact ⟨h1, q, RR_mono sub h2⟩
  · rintro ⟨h1, q, h2⟩
    obtain ⟨p0, u0, h3⟩ := RR_split h2
    have pr := q0r p0 u0
    have pL : p0 ∈ L.getD n [] := by
      rw [← h1]
      exact able_has hL R.step r p0 (by omega) pr ⟨q, RR_mono (fun z hz => .base hz) h3⟩
    have pm : p0 ∈ lft L n (clo st T [q0]) := mem_lft.mpr ⟨(c1 p0).mpr ⟨R.sm p0 pr, u0⟩, pL⟩
    have hl : lft L n (clo st T [q0]) ≠ [] := List.ne_nil_of_mem pm
    rw [if_neg hl]
    refine (exp_mem hL R.step R.sm n [] _ r (by omega) (fun q hq => q0r q (sub q hq)) hl).mpr ⟨r, rfl, h1, q, RR_mono (fun z hz => ?_) h3⟩
    have hz : z = p0 := hz
    rw [hz]
    exact pm
/-- the rows: whatever the pruning -/
noncomputable def frows (st : List Step) (T : List (Str × Str)) (reach : List Int) (q0 : Int) (n : Nat) : List (List Str) := expAll st T (List.replicate (n + 1) reach) q0 n
theorem able0 (n : Nat) : AbleL st T reach (List.replicate (n + 1) reach) := by
  refine ⟨fun lo e q hq => ?_, fun j lo hi e1 e2 => ?_⟩
  · have z := List.mem_of_getElem? e
    rw [(List.mem_replicate.mp z).2]; exact hq
  · rw [(List.mem_replicate.mp (List.mem_of_getElem? e1)).2, (List.mem_replicate.mp (List.mem_of_getElem? e2)).2]
    exact ⟨fun q hq _ _ _ => hq, fun q hq _ _ _ => hq⟩
theorem frows_mem {q0 : Int} {n : Nat} (R : Reach st reach q0) (r : List Str) : r ∈ frows st T reach q0 n ↔ r.length = n ∧ Feas st T q0 r := all_mem R (able0 n) List.length_replicate r
theorem frows_asc {q0 : Int} {n : Nat} : (frows st T reach q0 n).Pairwise rlt := all_asc
theorem all_eq {q0 : Int} {n : Nat} (R : Reach st reach q0) (hL : AbleL st T reach L) (hn : L.length = n + 1) : expAll st T L q0 n = frows st T reach q0 n :=
  asc_unique rlt_irrefl rlt_trans all_asc frows_asc fun r => by rw [all_mem R hL hn, frows_mem R]
end
end KN
/-! rows_of: its statements. -/
namespace KN
open PySem PySem.Spec PyProof.Rows L2
abbrev sRows : Stmt := top 44
section
variable {X : Cx} {A : Around} {Φ : End → Shared → Prop} {c : Code} {fs : List Frame} {K : Flow → Sem PySem.Fin} {J : Value → Sem PySem.Fin} {gd : Bool → Bool} {lv : List Value → List Value} {G : Array GenState} {pins : List (Addr × Obj)} {s : Shared} {σ : St} {H : Hp}
theorem execs_split {env : Env} : ∀ (pre rest : List Stmt) (K : Flow → Sem PySem.Fin), (execs (pre ++ rest) env).wrap K J gd lv = (execs pre env).wrap (fun f => match f with | .next => (execs rest env).wrap K J gd lv | f => K f) J gd lv
  | [], _, _ => rfl
  | st :: pre, rest, K => by
    rw [List.cons_append, execs_cons_wrap, execs_cons_wrap]
    refine Sem.wrap_congr _ _ _ (fun f => ?_) fun _ => rfl
    cases f with
    | next => exact execs_split pre rest K
    | _ => rfl
/-- a statement that hands out nothing -/
theorem sg_gp {st : Stmt} {t : TS} {N : St → Hp → Prop} (hov : A.over c fs = X.A) (h : GP X st t) (j : JV X G pins σ H s) (hq : t { nx := N, rt := fun _ _ => False } σ H)
    (hk : ∀ σ' H' s', JV X G pins σ' H' s' → N σ' H' → SG (model X.prog X.w) A Φ c (K .next) fs s') : SG (model X.prog X.w) A Φ c ((exec st X.env).wrap K J gd lv) fs s := by
  refine sg_wrap ?_
  rw [hov]
  refine wpAny_mono (h.run G pins s σ H _ j hq) (fun f s' hs => ?_) fun _ _ z => False.elim z
  cases f with
  | next => obtain ⟨σ', H', j', n⟩ := hs; exact hk σ' H' s' j' n
  | brk => obtain ⟨_, _, _, z⟩ := hs; exact False.elim z
  | cont => obtain ⟨_, _, _, z⟩ := hs; exact False.elim z
  | ret u => obtain ⟨_, _, _, _, _, z⟩ := hs; exact False.elim z
/-- a block that hands out nothing -/
theorem sg_gps {st : List Stmt} {t : TS} {N : St → Hp → Prop} (hov : A.over c fs = X.A) (h : GPs X st t) (j : JV X G pins σ H s) (hq : t { nx := N, rt := fun _ _ => False } σ H)
    (hk : ∀ σ' H' s', JV X G pins σ' H' s' → N σ' H' → SG (model X.prog X.w) A Φ c (K .next) fs s') : SG (model X.prog X.w) A Φ c ((execs st X.env).wrap K J gd lv) fs s := by
  refine sg_wrap ?_
  rw [hov]
  refine wpAny_mono (h.run G pins s σ H _ j hq) (fun f s' hs => ?_) fun _ _ z => False.elim z
  cases f with
  | next => obtain ⟨σ', H', j', n⟩ := hs; exact hk σ' H' s' j' n
  | brk => obtain ⟨_, _, _, z⟩ := hs; exact False.elim z
  | cont => obtain ⟨_, _, _, z⟩ := hs; exact False.elim z
  | ret u => obtain ⟨_, _, _, _, _, z⟩ := hs; exact False.elim z
end
theorem _root_.L2.Same.tr {H H' H'' : Hp} (a : Same H H') (b : Same H' H'') : Same H H'' := fun c o e => b c o (a c o e)
/-- an item of a list, the written part named (for a block of a comprehension) -/
abbrev ixK (K : PySem.W.Frag) : R2 := fun x y H Q => ∃ (p : Addr) (xs : List V) (j : Nat) (v : V), x = .ref p ∧ y = .int j ∧ SqL K H p xs ∧ xs[j]? = some v ∧ Q v H
theorem ge_ixLk {X : Cx} {a b : Expr} {ta tb : TE} {pos : Pos} (K : PySem.W.Frag) (hK : X.K = K) (ha : GE X a ta) (hb : GE X b tb) (hs : PlainIx b) : GE X (.Subscript a b pos) (tOp (ixK K) ta tb) := by
  subst hK
  exact ge_ixL ha hb hs
/-- over a reversed list that stays -/
theorem for_rvd {K : PySem.W.Frag} {a : Addr} {xs : List V} {g : TG} {tb : TS} {D : Ends} {σ : St} {H : Hp} (Pv : Nat → St → Hp → Prop) (h0 : Pv 0 σ H) (hl : ∀ i σ H, i ≤ xs.length → Pv i σ H → SqL K H a xs)
    (hs : ∀ i x σ H, xs.reverse[i]? = some x → Pv i σ H → g x σ H fun σ2 H2 => tb { D with nx := Pv (i + 1), ct := Pv (i + 1), bk := D.nx } σ2 H2) (hd : ∀ σ H, Pv xs.length σ H → D.nx σ H) :
    ∃ W : Nat → Nat → St → Hp → Prop, (∃ m, W 0 m σ H) ∧ ∀ i m σ H, W i m σ H →
      ((Itv K a xs.length).stop i H ∧ D.nx σ H) ∨ ((Itv K a xs.length).go i H ∧ ∃ N : St → Hp → Prop, (∀ σ' H', N σ' H' → ∃ m', m' < m ∧ W (i + 1) m' σ' H') ∧ ∀ x H', (Itv K a xs.length).yld i H x H' → g x σ H' fun σ2 H2 => tb { D with nx := N, ct := N, bk := D.nx } σ2 H2) := by
  refine ⟨fun i m σ H => m = xs.length - i ∧ i ≤ xs.length ∧ Pv i σ H, ⟨xs.length, by simp, Nat.zero_le _, h0⟩, ?_⟩
  rintro i m σ H ⟨rfl, hi, p⟩
  have q := hl i σ H hi p
  by_cases hlt : i < xs.length
  · have hx : xs[xs.length - 1 - i]? = some (xs[xs.length - 1 - i]'(by omega)) := List.getElem?_eq_getElem (by omega)
    refine .inr ⟨⟨hlt, xs, _, q, hx⟩, Pv (i + 1), fun σ' H' p' => ⟨xs.length - (i + 1), by omega, rfl, hlt, p'⟩, fun x H' y => ?_⟩
    obtain ⟨e, y⟩ := y
    subst e
    refine hs i x σ _ ?_ p
    rw [List.getElem?_reverse hlt]
    exact y xs q
  · have e : i = xs.length := by omega
    subst e
    exact .inl ⟨Nat.le_refl _, hd σ H p⟩
/-- [state for state in xs if state in known]; the block's name in slot k -/
theorem flt_list {K : PySem.W.Frag} {a kd D : Addr} {xs ks : List Int} {σ : St} {H1 : Hp} {k : Nat} {tk : TE} {Qd : Hp → Prop} (hk : k < σ.length) (ha : H1 a = some (.lst (xs.map .int))) (hd : H1 kd = some (.dK (setK ks))) (hD : H1 D = none) (hx : xs.length < sizeLine)
    (htk : ∀ (q : Int) (H' : Hp) (Q : VK), Same H1 H' → Q (.ref kd) H' → tk ((wipe σ [k]).set k (some (.int q))) H' Q) (fin : ∀ H', Same H1 H' → H' D = some (.lst ((xs.filter fun q => decide (q ∈ ks)).map .int)) → Qd H') :
    ∃ W : Nat → Nat → Hp → Prop, (∃ m, W 0 m (upd H1 D (.lst []))) ∧ ∀ i m H, W i m H →
      ((Itl K a).stop i H ∧ Qd H) ∨ ((Itl K a).go i H ∧ ∃ Nx : Hp → Prop, (∀ H', Nx H' → ∃ m', m' < m ∧ W (i + 1) m' H') ∧ ∀ x H', (Itl K a).yld i H x H' → gName k x (wipe σ [k]) H' fun σ2 H2 => wipe σ2 [k] = wipe σ [k] ∧
        tTest (tOp (fun y x H Q => ∃ a kvs k, x = V.ref a ∧ y = kV k ∧ Rd H a (.dK kvs) ∧ Q (.bl (valV kvs k).isSome) H) (tVar k) tk) σ2 H2 fun b H3 =>
        if b = true then tVar k σ2 H3 fun y H4 => ∃ acc, H4 D = some (.lst acc) ∧ acc.length < sizeLine ∧ Nx (upd H4 D (.lst (acc ++ [y]))) else Nx H3) := by
  refine lc_list (a := a) (xs := xs.map V.int) (fun i H' => Same H1 H' ∧ H' D = some (.lst (((xs.take i).filter fun q => decide (q ∈ ks)).map .int))) ⟨Same.upd same_rfl hD, upd_same⟩ (fun i H' _ ⟨s', _⟩ => SqL.of (s' _ _ ha)) ?_ ?_
  · rintro i x H' hi ⟨s', hD'⟩
    obtain ⟨q, hq, rfl⟩ := get_int hi
    have e0 : (((wipe σ [k]).set k (some (V.int q))))[k]? = some (some (V.int q)) := by
      rw [List.getElem?_set_self]
      rw [wipe_length]; exact hk
    refine ⟨?_, V.int q, e0, htk q H' _ s' ⟨kd, setK ks, .inl q, rfl, rfl, .inl (s' _ _ hd), _, rfl, ?_⟩⟩
    · show ((σ.set k none).set k (some (V.int q))).set k none = σ.set k none
      rw [List.set_set, List.set_set]
    · rw [setK_has]
      have tk1 : xs.take (i + 1) = xs.take i ++ [q] := by rw [List.take_add_one, hq]; rfl
      by_cases h : q ∈ ks
      · rw [decide_eq_true h]
        refine iteT ⟨V.int q, e0, _, hD', ?_, s'.upd hD, ?_⟩
        · rw [List.length_map]
          have h1 := List.length_filter_le (fun q => decide (q ∈ ks)) (xs.take i)
          rw [List.length_take] at h1
          omega
        · rw [upd_same, tk1, List.filter_append, List.map_append]
          simp [h]
      · rw [decide_eq_false h]
        refine iteF ⟨s', ?_⟩
        rw [hD', tk1, List.filter_append]
        simp [h]
  · rintro H' ⟨s', hD'⟩
    rw [List.length_map, List.take_length] at hD'
    exact fin H' s' hD'
/-- the defs that rows_of calls -/
structure CalR (P : Program) (w : World) (K : PySem.W.Frag) (mg : Str → Option Value) (base : Heap) (CM CW : Addr) where
  fW : Addr
  dW : FuncData
  FW : GFn P w K mg base 1 fW dW ["watch"] (gsCheckWatch CW)
  bW : Binds K dW ["watch"] []
  mW : mg "check_watch" = some (.ref fW)
  kW : PySem.W.keepIn K (.ref fW) = true
  fN : Addr
  dN : FuncData
  FN : GFn P w K mg base 2 fN dN ["value", "most"] gsIsCount
  bN : Binds K dN ["value", "most"] []
  mN : mg "is_count" = some (.ref fN)
  kN : PySem.W.keepIn K (.ref fN) = true
  fA : Addr
  dA : FuncData
  FA : GFn P w K mg base 3 fA dA ["machine", "watch", "many"] (gsAble CM CW)
  bA : Binds K dA ["machine", "watch", "many"] []
  mA : mg "able_states" = some (.ref fA)
  kA : PySem.W.keepIn K (.ref fA) = true
  fC : Addr
  dC : FuncData
  FC : GFn P w K mg base 2 fC dC ["machine", "watch", "states"] (gsClo CM CW)
  bC : Binds K dC ["machine", "watch", "states"] []
  mC : mg "unseen_closure" = some (.ref fC)
  kC : PySem.W.keepIn K (.ref fC) = true
  fE : Addr
  dE : FuncData
  FE : GFn P w K mg base 3 fE dE ["machine", "watch", "states"] (gsEnds CM CW)
  bE : Binds K dE ["machine", "watch", "states"] []
  mE : mg "sight_ends" = some (.ref fE)
  kE : PySem.W.keepIn K (.ref fE) = true
  p1 : Addr
  g1 : Addr
  d1 : FuncData
  R1 : Prp P w K mg base CM "start" p1 g1 d1 (gsStart CM)
abbrev nRows : List Str := ["machine", "watch", "many", "able", "begin", "waiting", "row", "states", "known", "sight", "ends", "left", "state"]
theorem sc44 : GScope nRows ["machine", "watch", "many"] (defScope sRows) := ⟨rfl, rfl, rfl, by decide +kernel, rfl, by decide +kernel, by decide +kernel⟩
section
variable {P : Program} {w : World} {K : PySem.W.Frag} {mg : Str → Option Value} {base : Heap} {CM CW : Addr}
/-- rows_of's context, in a stretch -/
abbrev xR (P : Program) (w : World) (K : PySem.W.Frag) (mg : Str → Option Value) (base : Heap) (f : Addr) (cdv : Value) (A : Around) (outer : List Env) (s : Shared) (H : Hp) : Cx :=
  gx P w K mg base nRows "rows_of" (defScope sRows) f cdv A outer s H
variable {f : Addr} {cdv : Value} {A : Around} {outer : List Env} {s s' : Shared} {H H' : Hp}
/-! ### the text of the loop -/
def whT (st : Stmt) : Expr := match st with | .While t _ _ _ => t | _ => .Constant .none 0 ⟨0, 0, 0, 0⟩
def whB (st : Stmt) : List Stmt := match st with | .While _ b _ _ => b | _ => []
def whP (st : Stmt) : Pos := match st with | .While _ _ _ p => p | _ => ⟨0, 0, 0, 0⟩
def ifT (st : Stmt) : Expr := match st with | .If t _ _ _ => t | _ => .Constant .none 0 ⟨0, 0, 0, 0⟩
def ifE (st : Stmt) : List Stmt := match st with | .If _ _ b _ => b | _ => []
abbrev rW : Stmt := (defBody sRows).getD 6 (.Pass ⟨0, 0, 0, 0⟩)
abbrev rPop : Stmt := (whB rW).getD 0 (.Pass ⟨0, 0, 0, 0⟩)
abbrev rIf : Stmt := (whB rW).getD 1 (.Pass ⟨0, 0, 0, 0⟩)
/-- an entry of the stack -/
structure Ent where
  e : Addr
  ra : Addr
  sa : Addr
  row : List Str
  S : List Int
structure EntAt (H : Hp) (x : Ent) : Prop where
  e : H x.e = some (.tup [.ref x.ra, .ref x.sa])
  r : H x.ra = some (.tup (x.row.map .str))
  s : H x.sa = some (.lst (x.S.map .int))
theorem EntAt.same {H H' : Hp} {x : Ent} (a : EntAt H x) (s : Same H H') : EntAt H' x := ⟨s _ _ a.e, s _ _ a.r, s _ _ a.s⟩
/-- what the search knows of its data -/
structure Dat (CM CW : Addr) (d : MD) (q0 : Int) (st : List Step) (reach : List Int) (wt dw tb : Addr) (tab : List (Str × Str)) (n : Nat) : Prop where
  n8 : n ≤ 8
  sm : Small st
  R : Reach st reach q0
  nd : reach.Nodup
  len : st.length ≤ 1000
  X : ∃ X : List Str, X.length < 64 ∧ ∀ e ∈ st, ∀ x, see tab e.2.1 = some x → x ∈ X
theorem clo_nd (st : List Step) (T : List (Str × Str)) (S : List Int) : (clo st T S).Nodup := (asc_asc _).imp fun {a b} h => Int.ne_of_lt h
theorem lft_nd {L : List (List Int)} {j : Nat} {E : List Int} (h : E.Nodup) : (lft L j E).Nodup := h.filter _
theorem pre_ok (T : TxG K mg CM CW) (C : CalR P w K mg base CM CW) (hr : Room 3 (A.deeper (envOfC "rows_of" (defScope sRows) s.heap.objs.size f cdv)))
    {d : MD} {q0 : Int} {st : List Step} {reach : List Int} {wt dw tb : Addr} {tab : List (Str × Str)} {n : Nat} (D : Dat CM CW d q0 st reach wt dw tb tab n) {H1 : Hp} (M : MachAt CM H1 d q0 st reach) (W : WatchAt CW H1 wt dw tb tab) {N : St → Hp → Prop}
    (hN : ∀ (H2 : Hp) (ab wl : Addr) (L : List (List Int)) (ads : List Addr) (ents : List Ent) (v4 v6 v7 v8 v9 v10 v11 v12 : Option V), Same H1 H2 → H1 ab = none → (∀ a ∈ ads, H1 a = none) → LvAt H2 ab L ads → L.length = n + 1 → AbleL st tab reach L → H1 wl = none → wl ≠ ab → H2 wl = some (.lst (ents.map fun x => .ref x.e)) →
      ((ents = [] ∧ lft L n (clo st tab [q0]) = []) ∨ ∃ x : Ent, ents = [x] ∧ x.row = [] ∧ x.S = lft L n (clo st tab [q0]) ∧ x.S ≠ [] ∧ EntAt H2 x ∧ H1 x.e = none ∧ H1 x.ra = none ∧ H1 x.sa = none ∧ x.sa ≠ wl) →
      N [some (.ref d.m), some (.ref wt), some (.int n), some (.ref ab), v4, some (.ref wl), v6, v7, v8, v9, v10, v11, v12] H2) :
    ∃ t, GPs (reb (xR P w K mg base f cdv A outer s H) s' H') ((defBody sRows).take 6) t ∧ t { nx := N, rt := fun _ _ => False } (start nRows [.ref d.m, .ref wt, .int n]) H1 := by
  have hr1 : Room 1 _ := hr.mono (by decide)
  have hr2 : Room 2 _ := hr.mono (by decide)
  refine ⟨_, gps_cons (gp_expr (ge_call C.FW hr1 (by rfl) C.mW C.kW C.bW (ga_cons (gv 1) ga_nil)))
      (gps_cons (gp_if (gt_not (gt_val (ge_call C.FN hr2 (by rfl) C.mN C.kN C.bN (ga_cons (gv 2) (ga_cons (ge_nm (v := .int 8) T.most.choose_spec ⟨_, rfl⟩ (by rfl)) ga_nil))))) gps_never gps_nil)
      (gps_cons (gp_set (i := 3) sc44.nd rfl (Or.inr rfl) (ge_call C.FA hr (by rfl) C.mA C.kA C.bA (ga_cons (gv 0) (ga_cons (gv 1) (ga_cons (gv 2) ga_nil)))))
      (gps_cons (gp_setLc (i := 4) (own := [("state", 12)]) rfl sc44.nd rfl rfl (sw_true rfl rfl rfl rfl) (gi_list (ge_call C.FC hr2 (by rfl) C.mC C.kC C.bC (ga_cons (gv 0) (ga_cons (gv 1) (ga_cons (ge_lst (ga_cons (ge_prop (gv 0) T.cM C.R1.p C.R1.F hr2 C.R1.b rfl) ga_nil)) ga_nil))))) (blkOk_by rfl) (fun _ _ _ _ _ => gg_name (i := 12) sc44.nd rfl (Or.inl rfl) (.inr rfl)) (fun _ _ _ _ _ => gts_one (gt_cmp go_din (gv 12) (ge_ixLk K rfl (gv 3) (gv 2) (by intro _ _; rfl)) (by rfl))) (fun _ _ _ _ _ => gv 12))
      (gps_cons (gp_set (i := 5) sc44.nd rfl (Or.inl rfl) (ge_lst ga_nil))
      (gps_one (gp_if (gt_list (gv 4)) (gps_one (gp_expr (ge_bm PySem.F.plainAttrs_list PySem.F.slot_list_append PySem.F.type_list_append gm_append (gv 5) (ga_cons (ge_tup (ga_cons (ge_tup ga_nil) (ga_cons (gv 4) ga_nil))) ga_nil)))) gps_nil)))))), ?_⟩
  -- check_watch(watch)
  refine ⟨_, rfl, wt, dw, _, rfl, W.ins, ?_⟩
  -- is_count(many, MOST_SIGHTS)
  refine ⟨_, rfl, n, 8, rfl, by omega, by have := D.n8; omega, _, rfl, ?_⟩
  refine iteF ?_
  -- able
  refine ⟨_, rfl, _, rfl, _, rfl, d, q0, st, reach, wt, dw, tb, tab, n, rfl, M, W, by have := D.n8; omega, D.nd, D.R.sm, fun H2 ab ads L s2 hab hads hlen hable hlv => ?_⟩
  -- begin
  have M2 := M.same s2
  have W2 := W.same s2
  refine ⟨_, rfl, _, rfl, _, rfl, d.m, d.dm, d.fs, rfl, M2.ins, d, q0, st, reach, rfl, M2, (show 1 ≤ sizeLine by decide), fun l1 hl1 => ?_⟩
  have s3 : Same H2 (upd H2 l1 (.lst [.int q0])) := Same.upd same_rfl hl1
  obtain ⟨lo, elo⟩ : ∃ lo, L[n]? = some lo := ⟨_, List.getElem?_eq_getElem (by omega)⟩
  obtain ⟨ad, ead⟩ : ∃ ad, ads[n]? = some ad := ⟨_, List.getElem?_eq_getElem (by rw [hlv.2.1]; omega)⟩
  have elo' : L.getD n [] = lo := by rw [List.getD_eq_getElem?_getD, elo]; rfl
  refine ⟨d, q0, st, reach, wt, dw, tb, l1, tab, [q0], rfl, M2.same s3, W2.same s3, upd_same, D.sm, fun q hq => by rw [List.mem_singleton.mp hq]; exact D.R.sm _ D.R.q0, fun H3 p s4 hp hlp => ⟨p, rfl, ⟨_, SqL.of hlp⟩, fun bl hbl => ?_⟩⟩
  have s23 : Same H2 H3 := fun b o e => s4 _ _ (s3 _ _ e)
  have lv3 := hlv.same s23
  have clen : (clo st tab [q0]).length ≤ 100 := small_len (clo_nd _ _ _) fun q hq => (mem_asc.mp hq).1
  refine flt_list (ks := lo) (kd := ad) (by show 12 < 13; decide) hlp (lv3.2.2 n ad lo ead elo) hbl (lt100 clen) (fun q H' Q s' hQ => ⟨_, rfl, _, rfl, ab, _, n, .ref ad, rfl, rfl, SqL.of (s' _ _ lv3.1), by rw [List.getElem?_map, ead]; rfl, hQ⟩) fun H4 s5 hb4 => ?_
  have hb4 : H4 bl = some (.lst ((lft L n (clo st tab [q0])).map .int)) := by
    unfold lft
    rw [elo']
    exact hb4
  have s24 : Same H2 H4 := fun b o e => s5 _ _ (s23 _ _ e)
  have s14 : Same H1 H4 := fun b o e => s24 _ _ (s2 _ _ e)
  have bl1 : H1 bl = none := (s2.tr s23).free hbl
  -- waiting
  refine ⟨Nat.zero_le _, fun wl hwl => ?_⟩
  have hwl1 : H1 wl = none := s14.free hwl
  have lv4 := hlv.same s24
  have nwa : wl ≠ ab := (ne_of_none lv4.1 hwl).symm
  have nwb : bl ≠ wl := ne_of_none hb4 hwl
  have s6 : Same H4 (upd H4 wl (.lst [])) := Same.upd same_rfl hwl
  -- if begin
  refine ⟨_, rfl, bl, _, rfl, SqL.of (s6 _ _ hb4), ?_⟩
  by_cases hl : lft L n (clo st tab [q0]) = []
  · rw [hl]
    refine iteF ?_
    exact hN _ ab wl L ads [] _ _ _ _ _ _ _ _ (s14.upd hwl1) hab hads (lv4.same s6) hlen hable hwl1 nwa upd_same (.inl ⟨rfl, hl⟩)
  · rw [show (!((lft L n (clo st tab [q0])).map V.int).isEmpty) = true by
      cases h : lft L n (clo st tab [q0]) with
      | nil => exact absurd h hl
      | cons a l => rfl]
    refine iteT ⟨_, rfl, .inl ⟨rfl, _, SqL.of upd_same⟩, Nat.zero_le _, fun rp hrp => ⟨_, rfl, (show 2 ≤ sizeLine by decide), fun ep hep => ⟨wl, [], .ref ep, rfl, rfl, ?_, by show 0 < sizeLine; decide, ?_⟩⟩⟩
    · have h1 : rp ≠ wl := (ne_of_none (H := upd H4 wl (.lst [])) upd_same hrp).symm
      have h2 : upd (upd H4 wl (.lst [])) rp (.tup []) wl = some (.lst []) := by rw [upd_ne h1.symm, upd_same]
      rw [upd_ne (ne_of_none h2 hep), h2]
    · have h1 : rp ≠ wl := (ne_of_none (H := upd H4 wl (.lst [])) upd_same hrp).symm
      have h2 : upd (upd H4 wl (.lst [])) rp (.tup []) wl = some (.lst []) := by rw [upd_ne h1.symm, upd_same]
      have h3 : ep ≠ wl := (ne_of_none h2 hep).symm
      have h4 : ep ≠ rp := (ne_of_none (H := upd (upd H4 wl (.lst [])) rp (.tup [])) upd_same hep).symm
      have s7 : Same H4 (upd (upd (upd H4 wl (.lst [])) rp (.tup [])) ep (.tup [.ref rp, .ref bl])) := (s6.upd (s6.free hrp)).upd ((s6.upd (s6.free hrp)).free hep)
      have s8 : Same H4 (upd (upd (upd (upd H4 wl (.lst [])) rp (.tup [])) ep (.tup [.ref rp, .ref bl])) wl (.lst ([] ++ [.ref ep]))) := s7.upd hwl
      refine hN _ ab wl L ads [⟨ep, rp, bl, [], lft L n (clo st tab [q0])⟩] _ _ _ _ _ _ _ _ (s14.tr s8) hab hads (lv4.same s8) hlen hable hwl1 nwa upd_same (.inr ⟨_, rfl, rfl, rfl, hl, ⟨?_, ?_, s8 _ _ hb4⟩, ?_, ?_, bl1, nwb⟩)
      · rw [upd_ne h3, upd_same]
      · rw [upd_ne h1, upd_ne h4.symm, upd_same]
        rfl
      · exact s14.free ((s6.upd (s6.free hrp)).free hep)
      · exact s14.free (s6.free hrp)
end
end KN
/-! rows_of: a turn of its loop. -/
namespace KN
open PySem PySem.Spec PyProof.Rows L2
section
variable {P : Program} {w : World} {K : PySem.W.Frag} {mg : Str → Option Value} {base : Heap} {CM CW : Addr} {f : Addr} {cdv : Value} {A : Around} {outer : List Env} {s s' : Shared} {H H' : Hp}
abbrev entRefs (es : List Ent) : List V := es.map fun x => .ref x.e
theorem pop_ok {N : St → Hp → Prop} {H1 : Hp} {wl : Addr} {ents : List Ent} {x : Ent} {c0 c1 c2 c3 c4 v6 v7 v8 v9 v10 v11 v12 : Option V} (hw : H1 wl = some (.lst (entRefs (ents ++ [x])))) (hx : EntAt H1 x)
    (hN : N [c0, c1, c2, c3, c4, some (.ref wl), some (.ref x.ra), some (.ref x.sa), v8, v9, v10, v11, v12] (upd H1 wl (.lst (entRefs ents)))) :
    ∃ t, GP (reb (xR P w K mg base f cdv A outer s H) s' H') rPop t ∧ t { nx := N, rt := fun _ _ => False } [c0, c1, c2, c3, c4, some (.ref wl), v6, v7, v8, v9, v10, v11, v12] H1 := by
  refine ⟨_, gp_asg (ge_bm0 PySem.F.plainAttrs_list PySem.F.slot_list_pop PySem.F.type_list_pop gm_pop (gv 5)) (gg_tup rfl (ggs_cons (gg_name (i := 6) sc44.nd rfl (Or.inl rfl)) (ggs_cons (gg_name (i := 7) sc44.nd rfl (Or.inl rfl)) ggs_nil))), ?_⟩
  have ne : x.e ≠ wl := ne_of hx.e hw (by intro z; cases z)
  refine ⟨_, rfl, .inl ⟨rfl, _, SqL.of hw⟩, wl, _, .ref x.e, rfl, rfl, hw, by simp [entRefs], ?_⟩
  rw [show (entRefs (ents ++ [x])).dropLast = entRefs ents by simp [entRefs]]
  exact ⟨x.e, _, rfl, SqT.of (by rw [upd_ne ne]; exact hx.e), rfl, _, _, rfl, _, _, rfl, rfl, hN⟩
theorem tst_ok (T : TxG K mg CM CW) {Q : Bool → Hp → Prop} {H1 : Hp} {ra : Addr} {row : List Str} {n : Nat} {c0 c1 c3 c4 c5 v7 v8 v9 v10 v11 v12 : Option V} (hr : H1 ra = some (.tup (row.map .str))) (hQ : Q (decide (row.length = n)) H1) :
    ∃ t, GT (reb (xR P w K mg base f cdv A outer s H) s' H') (ifT rIf) t ∧ t [c0, c1, some (.int n), c3, c4, c5, some (.ref ra), v7, v8, v9, v10, v11, v12] H1 Q := by
  refine ⟨_, gt_cmp go_eqI (ge_callB gc_len (by rfl) T.bu.len (by rfl) (ga_cons (gv 6) ga_nil)) (gv 2) (nomark _), ?_⟩
  refine ⟨_, rfl, ra, _, rfl, .inr (SqT.of hr), _, rfl, _, _, rfl, rfl, _, rfl, ?_⟩
  rw [List.length_map]
  have e : decide (((row.length : Nat) : Int) = ((n : Nat) : Int)) = decide (row.length = n) := by
    rw [Bool.eq_iff_iff]
    simp only [decide_eq_true_eq]
    omega
  rw [e]
  exact hQ
/-- the entry that comes of an end -/
noncomputable def kidOf (L : List (List Int)) (j : Nat) (row : List Str) (p : Str × List Int) : Option (List Str × List Int) := if lft L j p.2 = [] then none else some (row ++ [p.1], lft L j p.2)
theorem else_ok (T : TxG K mg CM CW) (C : CalR P w K mg base CM CW) (hr : Room 3 (A.deeper (envOfC "rows_of" (defScope sRows) s.heap.objs.size f cdv)))
    {d : MD} {q0 : Int} {st : List Step} {reach : List Int} {wt dw tb : Addr} {tab : List (Str × Str)} {n j : Nat} (D : Dat CM CW d q0 st reach wt dw tb tab n) {H1 : Hp} (M : MachAt CM H1 d q0 st reach) (W : WatchAt CW H1 wt dw tb tab) {N : St → Hp → Prop}
    {ab wl ra sa : Addr} {L : List (List Int)} {ads : List Addr} {ents : List Ent} {row : List Str} {S : List Int} {v4 v8 v9 v10 v11 v12 : Option V} (lv : LvAt H1 ab L ads) (hlen : L.length = n + 1) (hw : H1 wl = some (.lst (entRefs ents))) (nwa : wl ≠ ab)
    (hra : H1 ra = some (.tup (row.map .str))) (hsa : H1 sa = some (.lst (S.map .int))) (nws : sa ≠ wl) (hj : row.length + (j + 1) = n) (hS : ∀ q ∈ S, q ∈ reach) (hSn : S.Nodup) (hdep : ents.length + 64 < 1000)
    (hads : ∀ a ∈ ads, a ≠ wl)
    (hN : ∀ (H2 : Hp) (kE : List Ent) (v8 v9 v10 v11 v12 : Option V), (∀ b o, b ≠ wl → H1 b = some o → H2 b = some o) → H2 wl = some (.lst (entRefs (ents ++ kE))) → kE.map (fun y => (y.row, y.S)) = (kids st tab L j row S).reverse → (∀ y ∈ kE, EntAt H2 y ∧ H1 y.e = none ∧ H1 y.ra = none ∧ H1 y.sa = none ∧ y.sa ≠ wl) → (kE.map (·.ra)).Nodup →
      N [some (.ref d.m), some (.ref wt), some (.int n), some (.ref ab), v4, some (.ref wl), some (.ref ra), some (.ref sa), v8, v9, v10, v11, v12] H2) :
    ∃ t, GPs (reb (xR P w K mg base f cdv A outer s H) s' H') (ifE rIf) t ∧ t { nx := N, rt := fun _ _ => False } [some (.ref d.m), some (.ref wt), some (.int n), some (.ref ab), v4, some (.ref wl), some (.ref ra), some (.ref sa), v8, v9, v10, v11, v12] H1 := by
  have hr2 : Room 2 _ := hr.mono (by decide)
  refine ⟨_, gps_cons (gp_set (i := 8) sc44.nd rfl (Or.inr rfl) (ge_ixL (gv 3) (ge_op go_sub (ge_op go_sub (gv 2) (ge_callB gc_len (by rfl) T.bu.len (by rfl) (ga_cons (gv 6) ga_nil))) ge_int) (by intro _ _; rfl)))
      (gps_one (gp_for rfl (gi_reversed (by rfl) T.bu.reversed (ga_cons (ge_callTy gc_listL (by rfl) T.bu.list (by rfl) (ga_cons (ge_call C.FE hr (by rfl) C.mE C.kE C.bE (ga_cons (gv 0) (ga_cons (gv 1) (ga_cons (gv 7) ga_nil)))) ga_nil)) ga_nil)) (gg_tup rfl (ggs_cons (gg_name (i := 9) sc44.nd rfl (Or.inl rfl)) (ggs_cons (gg_name (i := 10) sc44.nd rfl (Or.inl rfl)) ggs_nil)))
      (gps_cons (gp_setLc (i := 11) (own := [("state", 12)]) rfl sc44.nd rfl rfl (sw_true rfl rfl rfl rfl) (gi_list (gv 10)) (blkOk_by rfl) (fun _ _ _ _ _ => gg_name (i := 12) sc44.nd rfl (Or.inl rfl) (.inr rfl)) (fun _ _ _ _ _ => gts_one (gt_cmp go_din (gv 12) (gv 8) (by rfl))) (fun _ _ _ _ _ => gv 12))
      (gps_one (gp_if (gt_list (gv 11)) (gps_one (gp_expr (ge_bm PySem.F.plainAttrs_list PySem.F.slot_list_append PySem.F.type_list_append gm_append (gv 5) (ga_cons (ge_tup (ga_cons (ge_op go_cat (gv 6) (ge_tup (ga_cons (gv 9) ga_nil))) (ga_cons (gv 11) ga_nil))) ga_nil)))) gps_nil))))), ?_⟩
  obtain ⟨lo, elo⟩ : ∃ lo, L[j]? = some lo := ⟨_, List.getElem?_eq_getElem (by omega)⟩
  obtain ⟨kd, ekd⟩ : ∃ kd, ads[j]? = some kd := ⟨_, List.getElem?_eq_getElem (by rw [lv.2.1]; omega)⟩
  have elo' : L.getD j [] = lo := by rw [List.getD_eq_getElem?_getD, elo]; rfl
  have hkd := lv.2.2 j kd lo ekd elo
  have nkw : kd ≠ wl := hads kd (List.mem_of_getElem? ekd)
  have slen : S.length ≤ 100 := small_len hSn fun q hq => D.R.sm q (hS q hq)
  -- known
  refine ⟨_, rfl, _, rfl, _, rfl, ra, _, rfl, .inr (SqT.of hra), _, _, rfl, rfl, _, _, rfl, rfl, ab, _, j, .ref kd, rfl, ?_, SqL.of lv.1, by rw [List.getElem?_map, ekd]; rfl, ?_⟩
  · rw [List.length_map]
    show V.int (((n : Nat) : Int) - ((row.length : Nat) : Int) - 1) = V.int ((j : Nat) : Int)
    congr 1
    omega
  -- reversed(list(sight_ends(machine, watch, states)))
  refine ⟨_, rfl, _, rfl, _, rfl, d, q0, st, reach, wt, dw, tb, sa, tab, S, rfl, M, W, hsa, D.sm, fun q hq => D.R.sm q (hS q hq), D.len, by omega, D.X, fun H2 p ps ls s2 hpn hfr hE => ⟨p, _, rfl, SqL.of hE.1, fun l hl => ⟨l, _, rfl, SqL.of upd_same, ?_⟩⟩⟩
  have s3 : Same H2 (upd H2 l (.lst (ps.map .ref))) := Same.upd same_rfl hl
  have hl3 : upd H2 l (.lst (ps.map .ref)) l = some (.lst (ps.map .ref)) := upd_same
  have nlw : l ≠ wl := (ne_of_none (s2 _ _ hw) hl).symm
  have s13 := s2.tr s3
  generalize upd H2 l (.lst (ps.map .ref)) = H3 at s3 hl3 s13 ⊢
  have hw3 := s13 _ _ hw
  have E := ends_ex st tab S
  have eslen : (endsOf st tab S).length < 64 := by
    obtain ⟨X, hX, hX2⟩ := D.X
    have und : ((endsOf st tab S).map (·.1)).Nodup := E.up.imp (fun {a b} h => by intro e; rw [e] at h; exact tlt_irrefl b h)
    have := nd_le (l := (endsOf st tab S).map (·.1)) (m := X) und fun x hx => by
      obtain ⟨e, he, _, hs⟩ := (E.mem x).mp hx
      exact hX2 e he x hs
    rw [List.length_map] at this
    omega
  obtain ⟨E1, E2, E3, E4⟩ := hE
  refine for_rvd (a := l) (xs := ps.map V.ref) (fun i σ H' => ∃ (kE : List Ent) (v9 v10 v11 v12 : Option V), σ = [some (.ref d.m), some (.ref wt), some (.int n), some (.ref ab), v4, some (.ref wl), some (.ref ra), some (.ref sa), some (.ref kd), v9, v10, v11, v12] ∧ (∀ b o, b ≠ wl → H3 b = some o → H' b = some o) ∧
      H' wl = some (.lst (entRefs (ents ++ kE))) ∧ kE.map (fun y => (y.row, y.S)) = ((endsOf st tab S).reverse.take i).filterMap (kidOf L j row) ∧ kE.length ≤ i ∧ (kE.map (·.ra)).Nodup ∧ ∀ y ∈ kE, EntAt H' y ∧ H3 y.e = none ∧ H3 y.ra = none ∧ H3 y.sa = none ∧ y.sa ≠ wl)
    ⟨[], v9, v10, v11, v12, rfl, fun _ _ _ e => e, by rw [List.append_nil]; exact hw3, rfl, Nat.le_refl _, List.nodup_nil, fun y hy => by simp at hy⟩ (fun i σ H' _ ⟨_, _, _, _, _, _, kp, _⟩ => SqL.of (kp _ _ nlw hl3)) ?_ ?_
  · rintro i x σ H4 hi ⟨kE, v9, v10, v11, v12, rfl, kp, hw4, hk4, lk4, nk4, at4⟩
    have ilt : i < ps.length := by
      have := (List.getElem?_eq_some_iff.mp hi).1
      rw [List.length_reverse, List.length_map] at this
      exact this
    rw [List.getElem?_reverse (by rw [List.length_map]; exact ilt), List.length_map, List.getElem?_map] at hi
    obtain ⟨pa, epa⟩ : ∃ pa, ps[ps.length - 1 - i]? = some pa := ⟨_, List.getElem?_eq_getElem (by omega)⟩
    obtain ⟨la, ela⟩ : ∃ la, ls[ps.length - 1 - i]? = some la := ⟨_, List.getElem?_eq_getElem (by omega)⟩
    obtain ⟨e, ee⟩ : ∃ e, (endsOf st tab S)[ps.length - 1 - i]? = some e := ⟨_, List.getElem?_eq_getElem (by omega)⟩
    rw [epa] at hi
    cases hi
    obtain ⟨t1, t2⟩ := E4 _ pa la e epa ela ee
    have paw : pa ≠ wl := fun z => by
      have := hfr pa (List.mem_append_left _ (List.mem_of_getElem? epa))
      rw [z, hw] at this; cases this
    have law : la ≠ wl := fun z => by
      have := hfr la (List.mem_append_right _ (List.mem_of_getElem? ela))
      rw [z, hw] at this; cases this
    have t1' := kp _ _ paw (s3 _ _ t1)
    have t2' := kp _ _ law (s3 _ _ t2)
    have hkd4 := kp _ _ nkw (s13 _ _ hkd)
    have hra4 := kp _ _ (ne_of hra hw (by intro z; cases z)) (s13 _ _ hra)
    have eval : e.2 = KN.asc (after st tab S e.1) := E.val e (List.mem_of_getElem? ee)
    have elen : e.2.length ≤ 100 := by
      rw [eval]
      exact small_len ((asc_asc _).imp fun {a b} h => Int.ne_of_lt h) fun q hq => (mem_asc.mp hq).1
    have erev : (endsOf st tab S).reverse[i]? = some e := by
      rw [List.getElem?_reverse (by omega)]
      rw [← E2]
      exact ee
    have take1 : (endsOf st tab S).reverse.take (i + 1) = (endsOf st tab S).reverse.take i ++ [e] := by rw [List.take_add_one, erev]; rfl
    refine ⟨pa, _, rfl, SqT.of t1', rfl, _, _, rfl, _, _, rfl, rfl, ?_⟩
    -- left
    refine ⟨_, rfl, la, rfl, ⟨_, SqL.of t2'⟩, fun lf hlf => flt_list (ks := lo) (kd := kd) (by show 12 < 13; decide) t2' hkd4 hlf (lt100 elen) (fun q H' Q s' hQ => ⟨_, rfl, hQ⟩) fun H5 s5 hl5 => ?_⟩
    have hl5 : H5 lf = some (.lst ((lft L j e.2).map .int)) := by
      unfold lft
      rw [elo']
      exact hl5
    have kp5 : ∀ b o, b ≠ wl → H3 b = some o → H5 b = some o := fun b o hb h => s5 _ _ (kp b o hb h)
    have hw5 := s5 _ _ hw4
    have at5 : ∀ y ∈ kE, EntAt H5 y ∧ H3 y.e = none ∧ H3 y.ra = none ∧ H3 y.sa = none ∧ y.sa ≠ wl := fun y hy => ⟨(at4 y hy).1.same s5, (at4 y hy).2⟩
    have new3 : ∀ {b}, H4 b = none → H3 b = none ∧ b ≠ wl := fun {b} hb => by
      have hbw : b ≠ wl := (ne_of_none hw4 hb).symm
      refine ⟨?_, hbw⟩
      cases z : H3 b with
      | none => rfl
      | some o => rw [kp b o hbw z] at hb; cases hb
    refine ⟨_, rfl, lf, _, rfl, SqL.of hl5, ?_⟩
    by_cases hnil : lft L j e.2 = []
    · rw [hnil]
      refine iteF ⟨kE, _, _, _, _, rfl, kp5, hw5, ?_, Nat.le_succ_of_le lk4, nk4, at5⟩
      rw [hk4, take1, List.filterMap_append]
      simp [kidOf, hnil]
    · rw [show (!((lft L j e.2).map V.int).isEmpty) = true by
        cases h : lft L j e.2 with
        | nil => exact absurd h hnil
        | cons a l => rfl]
      -- waiting.append((row + (sight,), left))
      have lfn := new3 hlf
      have push : ∀ (rp : Addr) (H6 : Hp), Same H5 H6 → H5 rp = none → H6 rp = some (.tup ((row ++ [e.1]).map .str)) → ∀ ep, H6 ep = none →
          ∃ (kE' : List Ent) (w9 w10 w11 w12 : Option V), [some (V.ref d.m), some (.ref wt), some (.int n), some (.ref ab), v4, some (.ref wl), some (.ref ra), some (.ref sa), some (.ref kd), some (.str e.1), some (.ref la), some (.ref lf), v12] = [some (.ref d.m), some (.ref wt), some (.int n), some (.ref ab), v4, some (.ref wl), some (.ref ra), some (.ref sa), some (.ref kd), w9, w10, w11, w12] ∧
            (∀ b o, b ≠ wl → H3 b = some o → upd (upd H6 ep (.tup [.ref rp, .ref lf])) wl (.lst (entRefs (ents ++ kE) ++ [.ref ep])) b = some o) ∧ upd (upd H6 ep (.tup [.ref rp, .ref lf])) wl (.lst (entRefs (ents ++ kE) ++ [.ref ep])) wl = some (.lst (entRefs (ents ++ kE'))) ∧
            kE'.map (fun y => (y.row, y.S)) = ((endsOf st tab S).reverse.take (i + 1)).filterMap (kidOf L j row) ∧ kE'.length ≤ i + 1 ∧ (kE'.map (·.ra)).Nodup ∧ ∀ y ∈ kE', EntAt (upd (upd H6 ep (.tup [.ref rp, .ref lf])) wl (.lst (entRefs (ents ++ kE) ++ [.ref ep]))) y ∧ H3 y.e = none ∧ H3 y.ra = none ∧ H3 y.sa = none ∧ y.sa ≠ wl := fun rp H6 s6 hrp hrp6 ep hep => by
        have nrw : rp ≠ wl := (ne_of_none hw5 hrp).symm
        have new5 : ∀ {b}, H5 b = none → H3 b = none := fun {b} hb => (new3 (s5.free hb)).1
        have nep : ep ≠ wl := (ne_of_none (s6 _ _ hw5) hep).symm
        have s67 : Same H6 (upd H6 ep (.tup [.ref rp, .ref lf])) := Same.upd same_rfl hep
        have nre : rp ≠ ep := ne_of_none hrp6 hep
        have nle : lf ≠ ep := ne_of_none (s6 _ _ hl5) hep
        refine ⟨kE ++ [⟨ep, rp, lf, row ++ [e.1], lft L j e.2⟩], _, _, _, _, rfl, fun b o hb h => ?_, ?_, ?_, ?_, ?_, fun y hy => ?_⟩
        · rw [upd_ne hb]
          exact s67 _ _ (s6 _ _ (kp5 b o hb h))
        · rw [upd_same]
          simp [entRefs]
        · rw [List.map_append, hk4, take1, List.filterMap_append]
          simp [kidOf, hnil]
        · rw [List.length_append, List.length_singleton]
          omega
        · rw [List.map_append, List.nodup_append]
          refine ⟨nk4, by simp, fun a ha b hb => ?_⟩
          obtain ⟨y, hy, rfl⟩ := List.mem_map.mp ha
          have hb : b = rp := by simpa using hb
          rw [hb]
          exact ne_of_none (at5 y hy).1.r hrp
        · rcases List.mem_append.mp hy with hy | hy
          · obtain ⟨⟨y1, y2, y3⟩, y4, y5, y6, y7⟩ := at5 y hy
            have n1 : y.e ≠ wl := ne_of y1 hw5 (by intro z; cases z)
            have n2 : y.ra ≠ wl := ne_of y2 hw5 (by intro z; cases z)
            exact ⟨⟨by rw [upd_ne n1]; exact s67 _ _ (s6 _ _ y1), by rw [upd_ne n2]; exact s67 _ _ (s6 _ _ y2), by rw [upd_ne y7]; exact s67 _ _ (s6 _ _ y3)⟩, y4, y5, y6, y7⟩
          · rw [List.mem_singleton.mp hy]
            exact ⟨⟨by rw [upd_ne nep, upd_same], by rw [upd_ne nrw, upd_ne nre]; exact hrp6, by rw [upd_ne lfn.2, upd_ne nle]; exact s6 _ _ hl5⟩, new5 (s6.free hep), new5 hrp, lfn.1, lfn.2⟩
      have hent : (entRefs (ents ++ kE)).length < sizeLine := by
        unfold entRefs
        rw [List.length_map, List.length_append]
        exact Nat.lt_trans (m := 2000) (by omega) (by decide)
      have hra5 := s5 _ _ hra4
      have rlen : row.length ≤ 8 := by have := D.n8; omega
      have n2s : 2 ≤ sizeLine := by decide
      have n9s : ∀ {k : Nat}, k ≤ 9 → k ≤ sizeLine := fun h => Nat.le_trans h (by decide)
      refine iteT ⟨_, rfl, .inl ⟨rfl, _, SqL.of hw5⟩, _, rfl, _, rfl, n9s (k := 1) (by decide), fun sp hsp => ?_⟩
      have s56 : Same H5 (upd H5 sp (.tup [.str e.1])) := Same.upd same_rfl hsp
      refine ⟨ra, sp, row.map .str, [.str e.1], rfl, rfl, SqT.of (s56 _ _ hra5), SqT.of upd_same, n9s (by rw [List.length_map]; show row.length + 1 ≤ 9; omega), fun h0 => ?_, (fun _ h => by cases h), fun _ _ rp hrp => ?_⟩
      · have row0 : row = [] := List.map_eq_nil_iff.mp h0
        refine ⟨_, rfl, n2s, fun ep hep => ⟨wl, _, .ref ep, rfl, rfl, ?_, hent, ?_⟩⟩
        · rw [upd_ne (ne_of_none (s56 _ _ hw5) hep)]
          exact s56 _ _ hw5
        · exact push sp _ s56 hsp (by rw [upd_same, row0]; rfl) ep hep
      · have s57 : Same H5 (upd (upd H5 sp (.tup [.str e.1])) rp (.tup (row.map .str ++ [.str e.1]))) := s56.upd (s56.free hrp)
        refine ⟨_, rfl, n2s, fun ep hep => ⟨wl, _, .ref ep, rfl, rfl, ?_, hent, ?_⟩⟩
        · rw [upd_ne (ne_of_none (s57 _ _ hw5) hep)]
          exact s57 _ _ hw5
        · exact push rp _ s57 (s56.free hrp) (by rw [upd_same, List.map_append]; rfl) ep hep
  · rintro σ H4 ⟨kE, v9, v10, v11, v12, rfl, kp, hw4, hk4, lk4, nk4, at4⟩
    refine hN H4 kE _ _ _ _ _ (fun b o hb h => kp b o hb (s13 _ _ h)) hw4 ?_ (fun y hy => ?_) nk4
    · rw [hk4, List.length_map, E2, ← List.length_reverse, List.take_length, List.filterMap_reverse]
      rfl
    · obtain ⟨z1, z2, z3, z4, z5⟩ := at4 y hy
      exact ⟨z1, s13.free z2, s13.free z3, s13.free z4, z5⟩
end
end KN
/-! rows_of's loop, from stop to stop. -/
namespace KN
open PySem PySem.Spec PyProof.Rows L2
/-- what a stretch that began at s1 comes to -/
def PhiR (cf : Cfg) : List (List V) → List Addr → Shared → End → Shared → Prop
  | [], own, s1 => fun e s2 => e = .ret (.ok (.ret .none)) ∧ Guar cf own s1 s2
  | r :: rs, own, s1 => fun e s2 => ∃ (l : List Value) (k : Resume → Sem PySem.Fin) (c : Code) (p : Pos) (fs : List Frame) (a : Addr) (own2 : List Addr), e = .susp (.ref a) false l k c p fs ∧ e.quiet = true ∧
      Guar cf own s1 s2 ∧ RowAt a r s2.heap ∧ cf.n0 ≤ a ∧ (a ∈ own ∨ s1.heap.get? a = none) ∧ a ∉ own2 ∧ (∀ b ∈ own2, cf.n0 ≤ b ∧ (b ∈ own ∨ s1.heap.get? b = none) ∧ ∃ o, s2.heap.get? b = some o) ∧ Alive cf rs own2 e.genState s2
theorem alive_iff {cf : Cfg} {rows : List (List V)} {own : List Addr} {gs : GenState} {s : Shared} : Alive cf rows own gs s ↔ ∀ s1, Stay cf own s s1 → Go1 (model cf.P cf.w) cf.A (PhiR cf rows own s1) gs s1 := by
  cases rows <;> exact Iff.rfl
/-- all rows behind a stack -/
noncomputable def stRows (st : List Step) (T : List (Str × Str)) (L : List (List Int)) (n : Nat) (stk : List (List Str × List Int)) : List (List Str) := stk.reverse.flatMap fun p => expand st T L (n - p.1.length) p.1 p.2
noncomputable def stSize (st : List Step) (T : List (Str × Str)) (L : List (List Int)) (n : Nat) (stk : List (List Str × List Int)) : Nat := (stk.map fun p => tree st T L (n - p.1.length) p.1 p.2).sum
theorem kids_wf {st : List Step} {T : List (Str × Str)} {L : List (List Int)} {reach : List Int} {j : Nat} {row : List Str} {S : List Int} (hr : ∀ e ∈ st, e.1 ∈ reach → e.2.2 ∈ reach) (hS : ∀ q ∈ S, q ∈ reach) : ∀ p ∈ kids st T L j row S, p.1.length = row.length + 1 ∧ p.2 ≠ [] ∧ (∀ q ∈ p.2, q ∈ reach) ∧ p.2.Nodup := fun p hp => by
  have E := ends_ex st T S
  obtain ⟨e, he, h⟩ := List.mem_filterMap.mp hp
  by_cases hl : lft L j e.2 = []
  · rw [if_pos hl] at h; cases h
  · rw [if_neg hl] at h
    cases h
    have ev := E.val e he
    refine ⟨by rw [List.length_append]; rfl, hl, fun q hq => ?_, lft_nd ?_⟩
    · have h := (mem_lft.mp hq).1
      rw [ev] at h
      exact aft_in hr hS (mem_asc.mp h).2
    · rw [ev]
      exact (asc_asc _).imp fun {a b} h => Int.ne_of_lt h
theorem kids_len {st : List Step} {T : List (Str × Str)} {L : List (List Int)} {j : Nat} {row : List Str} {S : List Int} : (kids st T L j row S).length ≤ (endsOf st T S).length := List.length_filterMap_le _ _
theorem st_row {st : List Step} {T : List (Str × Str)} {L : List (List Int)} {n : Nat} {stk : List (List Str × List Int)} {row : List Str} {S : List Int} (h : row.length = n) : stRows st T L n (stk ++ [(row, S)]) = row :: stRows st T L n stk := by
  unfold stRows
  rw [List.reverse_append, List.reverse_cons, List.reverse_nil, List.nil_append, List.singleton_append, List.flatMap_cons]
  show expand st T L (n - row.length) row S ++ _ = _
  rw [h, Nat.sub_self]
  rfl
theorem sz_row {st : List Step} {T : List (Str × Str)} {L : List (List Int)} {n : Nat} {stk : List (List Str × List Int)} {row : List Str} {S : List Int} (h : row.length = n) : stSize st T L n (stk ++ [(row, S)]) = stSize st T L n stk + 1 := by
  unfold stSize
  rw [List.map_append, List.sum_append]
  show _ + [tree st T L (n - row.length) row S].sum = _
  rw [h, Nat.sub_self]
  rfl
theorem fm_congr {α β : Type} {f g : α → List β} : ∀ {l : List α}, (∀ p ∈ l, f p = g p) → l.flatMap f = l.flatMap g
  | [], _ => rfl
  | a :: l, h => by rw [List.flatMap_cons, List.flatMap_cons, h a List.mem_cons_self, fm_congr fun p hp => h p (List.mem_cons_of_mem _ hp)]
theorem st_kids {st : List Step} {T : List (Str × Str)} {L : List (List Int)} {reach : List Int} {n j : Nat} {stk ks : List (List Str × List Int)} {row : List Str} {S : List Int} (hr : ∀ e ∈ st, e.1 ∈ reach → e.2.2 ∈ reach) (hS : ∀ q ∈ S, q ∈ reach) (h : row.length + (j + 1) = n) (hk : ks = (kids st T L j row S).reverse) :
    stRows st T L n (stk ++ [(row, S)]) = stRows st T L n (stk ++ ks) ∧ stSize st T L n (stk ++ [(row, S)]) = stSize st T L n (stk ++ ks) + 1 := by
  subst hk
  have wf := kids_wf (T := T) (L := L) (j := j) (row := row) hr hS
  constructor
  · unfold stRows
    rw [List.reverse_append, List.reverse_cons, List.reverse_nil, List.nil_append, List.singleton_append, List.flatMap_cons, List.reverse_append, List.reverse_reverse, List.flatMap_append]
    congr 1
    show expand st T L (n - row.length) row S = _
    rw [show n - row.length = j + 1 by omega, expand_kids]
    refine fm_congr fun p hp => ?_
    rw [(wf p hp).1, show n - (row.length + 1) = j by omega]
  · unfold stSize
    rw [List.map_append, List.sum_append, List.map_append, List.sum_append]
    have e1 : ([(row, S)].map fun p => tree st T L (n - p.1.length) p.1 p.2).sum = tree st T L (j + 1) row S := by
      show tree st T L (n - row.length) row S + 0 = _
      rw [show n - row.length = j + 1 by omega, Nat.add_zero]
    have e2 : ((kids st T L j row S).reverse.map fun p => tree st T L (n - p.1.length) p.1 p.2).sum = ((kids st T L j row S).map fun p => tree st T L j p.1 p.2).sum := by
      rw [List.map_reverse, List.sum_reverse]
      congr 1
      refine List.map_congr_left fun p hp => ?_
      rw [(wf p hp).1, show n - (row.length + 1) = j by omega]
    rw [e1, e2, tree_kids]
    omega
section
variable {P : Program} {w : World} {K : PySem.W.Frag} {mg : Str → Option Value} {base : Heap} {CM CW : Addr} {f : Addr} {cdv : Value} {Aw : Around} {outer : List Env} {s : Shared} {H0 Sh : Hp}
abbrev cfR (P : Program) (w : World) (base : Heap) (Aw : Around) (outer : List Env) (s : Shared) (Sh : Hp) : Cfg := ⟨P, w, base, Aw, outer, s.heap.objs.size, Sh⟩
abbrev eR (f : Addr) (cdv : Value) (s : Shared) : Env := envOfC "rows_of" (defScope sRows) s.heap.objs.size f cdv
def ifB (st : Stmt) : List Stmt := match st with | .If _ b _ _ => b | _ => []
def ifP (st : Stmt) : Pos := match st with | .If _ _ _ p => p | _ => ⟨0, 0, 0, 0⟩
abbrev pairs (es : List Ent) : List (List Str × List Int) := es.map fun y => (y.row, y.S)
/-- where the loop stands -/
structure LI (X : Cx) (cf : Cfg) (own : List Addr) (Hs : Hp) (s1 : Shared) (d : MD) (wt : Addr) (n : Nat) (st : List Step) (tab : List (Str × Str)) (reach : List Int) (σ : St) (H : Hp) (ab wl : Addr) (L : List (List Int)) (ads : List Addr) (ents : List Ent) : Prop where
  frz : Frz cf own Hs s1 H
  sg : ∃ v4 v6 v7 v8 v9 v10 v11 v12 : Option V, σ = [some (.ref d.m), some (.ref wt), some (.int n), some (.ref ab), v4, some (.ref wl), v6, v7, v8, v9, v10, v11, v12]
  lv : LvAt H ab L ads
  lab : Own cf own Hs s1 ab
  lads : ∀ a ∈ ads, Own cf own Hs s1 a
  llen : L.length = n + 1
  able : AbleL st tab reach L
  hw : H wl = some (.lst (entRefs ents))
  lwl : Own cf own Hs s1 wl
  nwa : wl ≠ ab
  en : ∀ x ∈ ents, EntAt H x ∧ Own cf own Hs s1 x.e ∧ Own cf own Hs s1 x.ra ∧ Own cf own Hs s1 x.sa ∧ x.sa ≠ wl ∧ x.S ≠ [] ∧ (∀ q ∈ x.S, q ∈ reach) ∧ x.S.Nodup ∧ x.row.length ≤ n
  dep : ∀ (i : Nat) (x : Ent), ents[i]? = some x → i < 64 * (x.row.length + 1)
  nd : (ents.map (·.ra)).Nodup
theorem refs_ne {xs : List Str} {a b : Addr} : ([V.ref a, V.ref b] : List V) ≠ xs.map V.str := fun h => by
  cases xs with
  | nil => cases h
  | cons x xs => cases h
theorem rows_loop (T : TxG K mg CM CW) (C : CalR P w K mg base CM CW) (hr : Room 3 (Aw.deeper (eR f cdv s))) (g : GenCx (xR P w K mg base f cdv Aw outer s H0) (cfR P w base Aw outer s Sh))
    {d : MD} {q0 : Int} {st : List Step} {reach : List Int} {wt dw tb : Addr} {tab : List (Str × Str)} {n : Nat} (D : Dat CM CW d q0 st reach wt dw tb tab n) (M : MachAt CM Sh d q0 st reach) (W : WatchAt CW Sh wt dw tb tab)
    {k : Result → Sem PySem.Fin} {p : Pos} (hk : ∀ fl, k (.ok fl) = .pure (.done (.ret (match fl with | .ret v => v | _ => .none)))) : ∀ (m : Nat) (own : List Addr) (Hs : Hp) (s1 s2 : Shared) (σ : St) (H : Hp) (ab wl : Addr) (L : List (List Int)) (ads : List Addr) (ents : List Ent),
      (∀ b ∈ own, s.heap.objs.size ≤ b) → s.heap.objs.size ≤ s1.heap.objs.size → HOk P w Sh s1.heap → (eR f cdv s).locals ∈ own → (∀ x c, (eR f cdv s).cells.lookup x = some c → c ∈ own) →
      JV (RX (xR P w K mg base f cdv Aw outer s H0) (cfR P w base Aw outer s Sh) own Hs s1) s1.gens [] σ H s2 → LI (xR P w K mg base f cdv Aw outer s H0) (cfR P w base Aw outer s Sh) own Hs s1 d wt n st tab reach σ H ab wl L ads ents →
      m = stSize st tab L n (pairs ents) →
      SG (model P w) Aw (PhiR (cfR P w base Aw outer s Sh) ((stRows st tab L n (pairs ents)).map fun r => r.map V.str) own s1) (.whileLoop (whT rW) (whB rW) [] (eR f cdv s)) ((model P w).den (.whileLoop (whT rW) (whB rW) [] (eR f cdv s)))
        [.ret k none false [] (.func (defBody sRows) (eR f cdv s)) p []] s2 := by
  intro m
  induction m using Nat.strongRecOn with
  | ind m ih =>
    intro own Hs s1 s2 σ H ab wl L ads ents h0 hsz sh1 hL hC J I hm
    obtain ⟨v4, v6, v7, v8, v9, v10, v11, v12, rfl⟩ := I.sg
    have hov : Aw.over (.whileLoop (whT rW) (whB rW) [] (eR f cdv s)) [.ret k none false [] (.func (defBody sRows) (eR f cdv s)) p []] = (RX (xR P w K mg base f cdv Aw outer s H0) (cfR P w base Aw outer s Sh) own Hs s1).A := (GenW.over_loop rfl rfl).trans GenW.over_func
    have sSh : Same Sh H := fun b o e => I.frz b o (fun z => absurd (h0 b z) (Nat.not_le.mpr (g.sh0 b o e))) (by rw [reb_lt (g.sh0 b o e)]; exact e)
    have M1 := M.same sSh
    have W1 := W.same sSh
    refine sg_whileLoop fun Jx => ?_
    rw [hov]
    have ht : GT (RX (xR P w K mg base f cdv Aw outer s H0) (cfR P w base Aw outer s Sh) own Hs s1) (whT rW) _ := gt_list (gv 5)
    refine thn (ht.run s1.gens [] s2 _ H (fun b H' => b = (!(entRefs ents).isEmpty) ∧ H' = H) J ⟨_, rfl, wl, _, rfl, SqL.of I.hw, rfl, rfl⟩) ?_
    rintro b s3 ⟨H', J3, rfl, rfl⟩
    have hcase : ents = [] ∨ ∃ e0 x, ents = e0 ++ [x] := by
      rcases List.eq_nil_or_concat ents with h | ⟨e0, x, h⟩
      · exact .inl h
      · exact .inr ⟨e0, x, by rw [h]; simp⟩
    rcases hcase with rfl | ⟨e0, x, rfl⟩
    · -- the end
      refine iteF ?_
      show SG _ _ _ _ (leafOf (.ok .next)) _ s3
      refine sg_leaf _ ?_
      rw [hk]
      exact sg_end (.ok (.ret .none)) ⟨rfl, guar_of g h0 sh1 J3 I.frz⟩
    · rw [show (!(entRefs (e0 ++ [x])).isEmpty) = true by simp [entRefs]]
      refine iteT ?_
      have J3 : JV (RX (xR P w K mg base f cdv Aw outer s H0) (cfR P w base Aw outer s Sh) own Hs s1) s1.gens [] [some (.ref d.m), some (.ref wt), some (.int n), some (.ref ab), v4, some (.ref wl), v6, v7, v8, v9, v10, v11, v12] H' s3 := J3
      obtain ⟨xe, ox1, ox2, ox3, nxw, xne, xin, xnd, xlen⟩ := I.en x (List.mem_append_right _ (List.mem_singleton.mpr rfl))
      have edep : e0.length < 64 * (x.row.length + 1) := I.dep e0.length x (by rw [List.getElem?_append_right (Nat.le_refl _), Nat.sub_self]; rfl)
      -- row, states = waiting.pop()
      obtain ⟨tp, hp, hq⟩ := pop_ok (P := P) (w := w) (K := K) (mg := mg) (base := base) (f := f) (cdv := cdv) (A := Aw) (outer := outer) (s := s) (s' := { s1 with heap := cut s1.heap s.heap.objs.size }) (H := H0) (H' := rebH s.heap.objs.size own Hs Sh s1.heap)
        (N := fun σ' H2 => σ' = [some (.ref d.m), some (.ref wt), some (.int n), some (.ref ab), v4, some (.ref wl), some (.ref x.ra), some (.ref x.sa), v8, v9, v10, v11, v12] ∧ H2 = upd H' wl (.lst (entRefs e0))) (c0 := some (.ref d.m)) (c1 := some (.ref wt)) (c2 := some (.int n)) (c3 := some (.ref ab)) (c4 := v4) (v6 := v6) (v7 := v7) (v8 := v8) (v9 := v9) (v10 := v10) (v11 := v11) (v12 := v12) I.hw xe ⟨rfl, rfl⟩
      show SG _ _ _ _ ((execs (rPop :: [rIf]) (eR f cdv s)).wrap _ _ _ _) _ s3
      refine sg_cons (sg_gp hov hp J3 hq fun σ' H2 s4 J4 ⟨e1, e2⟩ => ?_)
      subst e1
      subst e2
      -- what stands behind the pop
      have kp : ∀ b o, b ≠ wl → H' b = some o → upd H' wl (.lst (entRefs e0)) b = some o := fun b o hb h => by rw [upd_ne hb]; exact h
      have frz1 : Frz (cfR P w base Aw outer s Sh) own Hs s1 (upd H' wl (.lst (entRefs e0))) := fun b o hb e => by
        have hne : b ≠ wl := fun z => by
          subst z
          rcases I.lwl with y | y
          · exact hb y
          · rw [y] at e; cases e
        rw [upd_ne hne]
        exact I.frz b o hb e
      have adw : ∀ a ∈ ads, a ≠ wl := fun a ha => by
        obtain ⟨i, hi⟩ := List.getElem?_of_mem ha
        have hlt : i < L.length := by
          rw [← I.lv.2.1]
          exact (List.getElem?_eq_some_iff.mp hi).1
        exact ne_of (I.lv.2.2 i a _ hi (List.getElem?_eq_getElem hlt)) I.hw (by intro z; cases z)
      have lv1 : LvAt (upd H' wl (.lst (entRefs e0))) ab L ads := I.lv.upd I.nwa.symm adw
      have ent1 : ∀ y, EntAt H' y → y.sa ≠ wl → EntAt (upd H' wl (.lst (entRefs e0))) y := fun y h1 h2 =>
        ⟨kp _ _ (ne_of h1.e I.hw (by intro z; cases z)) h1.e, kp _ _ (ne_of h1.r I.hw (by intro z; cases z)) h1.r, kp _ _ h2 h1.s⟩
      have xe1 := ent1 x xe nxw
      have en0 : ∀ y ∈ e0, EntAt (upd H' wl (.lst (entRefs e0))) y ∧ Own (cfR P w base Aw outer s Sh) own Hs s1 y.e ∧ Own (cfR P w base Aw outer s Sh) own Hs s1 y.ra ∧ Own (cfR P w base Aw outer s Sh) own Hs s1 y.sa ∧ y.sa ≠ wl ∧ y.S ≠ [] ∧ (∀ q ∈ y.S, q ∈ reach) ∧ y.S.Nodup ∧ y.row.length ≤ n := fun y hy => by
        obtain ⟨z1, z2, z3, z4, z5, z6⟩ := I.en y (List.mem_append_left _ hy)
        exact ⟨ent1 y z1 z5, z2, z3, z4, z5, z6⟩
      have nd0 : (e0.map (·.ra)).Nodup ∧ ∀ y ∈ e0, y.ra ≠ x.ra := by
        have h := I.nd
        rw [List.map_append, List.nodup_append] at h
        exact ⟨h.1, fun y hy => h.2.2 _ (List.mem_map_of_mem hy) _ (List.mem_singleton.mpr rfl)⟩
      have dep0 : ∀ (i : Nat) (y : Ent), e0[i]? = some y → i < 64 * (y.row.length + 1) := fun i y h => I.dep i y (by rw [List.getElem?_append_left (List.getElem?_eq_some_iff.mp h).1]; exact h)
      have hw1 : upd H' wl (.lst (entRefs e0)) wl = some (.lst (entRefs e0)) := upd_same
      generalize upd H' wl (.lst (entRefs e0)) = H2 at J4 kp frz1 lv1 ent1 xe1 en0 hw1
      have sSh2 : Same Sh H2 := fun b o e => frz1 b o (fun z => absurd (h0 b z) (Nat.not_le.mpr (g.sh0 b o e))) (by rw [reb_lt (g.sh0 b o e)]; exact e)
      -- if len(row) == many
      show SG _ _ _ _ ((execs (rIf :: []) (eR f cdv s)).wrap _ _ _ _) _ s4
      refine sg_cons ?_
      show SG _ _ _ _ ((exec (.If (ifT rIf) (ifB rIf) (ifE rIf) (ifP rIf)) (eR f cdv s)).wrap _ _ _ _) _ s4
      refine sg_If ?_
      rw [hov]
      obtain ⟨tt, htt, hqt⟩ := tst_ok (P := P) (w := w) (K := K) (mg := mg) (base := base) (f := f) (cdv := cdv) (A := Aw) (outer := outer) (s := s) (s' := { s1 with heap := cut s1.heap s.heap.objs.size }) (H := H0) (H' := rebH s.heap.objs.size own Hs Sh s1.heap) T (Q := fun b H3 => b = decide (x.row.length = n) ∧ H3 = H2)
        (H1 := H2) (ra := x.ra) (row := x.row) (n := n) (c0 := some (.ref d.m)) (c1 := some (.ref wt)) (c3 := some (.ref ab)) (c4 := v4) (c5 := some (.ref wl)) (v7 := some (.ref x.sa)) (v8 := v8) (v9 := v9) (v10 := v10) (v11 := v11) (v12 := v12) xe1.r ⟨rfl, rfl⟩
      refine thn (htt.run s1.gens [] s4 _ H2 _ J4 hqt) ?_
      rintro b s5 ⟨H3, J5, rfl, rfl⟩
      have J5 : JV (RX (xR P w K mg base f cdv Aw outer s H0) (cfR P w base Aw outer s Sh) own Hs s1) s1.gens [] [some (.ref d.m), some (.ref wt), some (.int n), some (.ref ab), v4, some (.ref wl), some (.ref x.ra), some (.ref x.sa), v8, v9, v10, v11, v12] H3 s5 := J5
      by_cases hlen : x.row.length = n
      · rw [decide_eq_true hlen, if_pos rfl]
        -- yield row
        refine sg_cons ?_
        refine sg_yieldStmt rfl rfl rfl ?_
        rw [hov]
        refine thn (GE.run (X := RX (xR P w K mg base f cdv Aw outer s H0) (cfR P w base Aw outer s Sh) own Hs s1) (t := tVar 6) (gv 6) s1.gens [] s5 _ H3 (fun v H4 => v = .ref x.ra ∧ H4 = H3) J5 ⟨_, rfl, rfl, rfl⟩) ?_
        rintro u s6 ⟨v, H4, J6, ru, rfl, rfl⟩
        obtain rfl : u = Value.ref x.ra := ru
        intro l k' p' hcont
        have erows : stRows st tab L n (pairs (e0 ++ [x])) = x.row :: stRows st tab L n (pairs e0) := by
          rw [show pairs (e0 ++ [x]) = pairs e0 ++ [(x.row, x.S)] by simp [pairs]]
          exact st_row hlen
        have esz : stSize st tab L n (pairs (e0 ++ [x])) = stSize st tab L n (pairs e0) + 1 := by
          rw [show pairs (e0 ++ [x]) = pairs e0 ++ [(x.row, x.S)] by simp [pairs]]
          exact sz_row hlen
        rw [erows]
        obtain ⟨oa1, oa2, _⟩ := own_tracked (a := x.ra) g h0 hsz J6 frz1 ox2 xe1.r (o := .tup (x.row.map V.str)) True.intro
        have hrow : RowAt x.ra (x.row.map V.str) s6.heap := J6.iv.hok _ _ xe1.r
        refine ⟨l, k', _, p', _, x.ra, own2 (cfR P w base Aw outer s Sh) own s1 s6 x.ra, rfl, rfl, guar_of g h0 sh1 J6 frz1, hrow, oa1, oa2, fun z => (mem_own2.mp z).1 rfl, fun b hb => ?_, ?_⟩
        · obtain ⟨_, hex, hz⟩ := mem_own2.mp hb
          rcases hz with z | ⟨z1, z2⟩
          · exact ⟨h0 b z, .inl z, hex⟩
          · exact ⟨z1, .inr z2, hex⟩
        · refine alive_iff.mpr fun s1' S => ?_
          show SG _ _ _ _ (k' (.send .none)) _ s1'
          refine hcont _ _ ?_
          show SG _ _ _ _ (.pure (.again (.whileLoop (whT rW) (whB rW) [] (eR f cdv s)))) _ s1'
          refine sg_again rfl ?_
          obtain ⟨JW, kW, shW, hLW, hCW, h0W, hszW⟩ := wake g h0 hsz J6 frz1 xe1.r hL hC S
          have wne : ∀ {b : Addr} {o : HO}, H4 b = some o → o ≠ .tup (x.row.map V.str) → b ≠ x.ra := fun h1 h2 => ne_of h1 xe1.r h2
          refine ih (stSize st tab L n (pairs e0)) (by rw [hm, esz]; omega) _ _ s1' s1' _ _ ab wl L ads e0 h0W hszW S.sh hLW hCW JW
            ⟨fun b o _ e => e, ⟨_, _, _, _, _, _, _, _, rfl⟩, ⟨(kW _ _ I.lab lv1.1 True.intro (wne lv1.1 (by intro z; cases z))).1, lv1.2.1, fun i a ks h1 h2 => (kW _ _ (I.lads a (List.mem_of_getElem? h1)) (lv1.2.2 i a ks h1 h2) True.intro (wne (lv1.2.2 i a ks h1 h2) (by intro z; cases z))).1⟩,
              .inl (kW _ _ I.lab lv1.1 True.intro (wne lv1.1 (by intro z; cases z))).2, fun a ha => ?_, I.llen, I.able, (kW _ _ I.lwl hw1 True.intro (wne hw1 (by intro z; cases z))).1, .inl (kW _ _ I.lwl hw1 True.intro (wne hw1 (by intro z; cases z))).2, I.nwa, fun y hy => ?_, dep0, nd0.1⟩ rfl
          · obtain ⟨i, hi⟩ := List.getElem?_of_mem ha
            have hlt : i < L.length := by
              rw [← lv1.2.1]
              exact (List.getElem?_eq_some_iff.mp hi).1
            have h1 := lv1.2.2 i a _ hi (List.getElem?_eq_getElem hlt)
            exact .inl (kW _ _ (I.lads a ha) h1 True.intro (wne h1 (by intro z; cases z))).2
          · obtain ⟨y1, y2, y3, y4, y5, y6⟩ := en0 y hy
            have q1 := kW _ _ y2 y1.e True.intro (wne y1.e fun z => by
              injection z with z
              exact refs_ne z)
            have q2 := kW _ _ y3 y1.r True.intro (nd0.2 y hy)
            have q3 := kW _ _ y4 y1.s True.intro (wne y1.s (by intro z; cases z))
            exact ⟨⟨q1.1, q2.1, q3.1⟩, .inl q1.2, .inl q2.2, .inl q3.2, y5, y6⟩
      · rw [decide_eq_false hlen, if_neg Bool.false_ne_true]
        obtain ⟨j, hj⟩ : ∃ j, x.row.length + (j + 1) = n := ⟨n - x.row.length - 1, by omega⟩
        have n8 := D.n8
        obtain ⟨te, hte, hqe⟩ := else_ok (P := P) (w := w) (K := K) (mg := mg) (base := base) (f := f) (cdv := cdv) (A := Aw) (outer := outer) (s := s) (s' := { s1 with heap := cut s1.heap s.heap.objs.size }) (H := H0) (H' := rebH s.heap.objs.size own Hs Sh s1.heap) T C hr D (M.same sSh2) (W.same sSh2)
          (N := fun σ' H4 => ∃ (kE : List Ent) (v8 v9 v10 v11 v12 : Option V), σ' = [some (.ref d.m), some (.ref wt), some (.int n), some (.ref ab), v4, some (.ref wl), some (.ref x.ra), some (.ref x.sa), v8, v9, v10, v11, v12] ∧ (∀ b o, b ≠ wl → H3 b = some o → H4 b = some o) ∧ H4 wl = some (.lst (entRefs (e0 ++ kE))) ∧
            pairs kE = (kids st tab L j x.row x.S).reverse ∧ (∀ y ∈ kE, EntAt H4 y ∧ H3 y.e = none ∧ H3 y.ra = none ∧ H3 y.sa = none ∧ y.sa ≠ wl) ∧ (kE.map (·.ra)).Nodup)
          (v4 := v4) (v8 := v8) (v9 := v9) (v10 := v10) (v11 := v11) (v12 := v12) lv1 I.llen hw1 I.nwa xe1.r xe1.s nxw hj xin xnd (by omega) adw (fun H4 kE v8 v9 v10 v11 v12 a1 a2 a3 a4 a5 => ⟨kE, v8, v9, v10, v11, v12, rfl, a1, a2, a3, a4, a5⟩)
        refine sg_gps hov hte J5 hqe fun σ' H4 s6 J6 ⟨kE, w8, w9, w10, w11, w12, e1, kp4, hw4, hk4, at4, nk4⟩ => ?_
        subst e1
        show SG _ _ _ _ (.pure (.again (.whileLoop (whT rW) (whB rW) [] (eR f cdv s)))) _ s6
        refine sg_again rfl ?_
        have ep : pairs (e0 ++ [x]) = pairs e0 ++ [(x.row, x.S)] := by simp [pairs]
        have ep2 : pairs (e0 ++ kE) = pairs e0 ++ pairs kE := by simp [pairs]
        obtain ⟨r1, r2⟩ := st_kids (T := tab) (L := L) (stk := pairs e0) (ks := pairs kE) D.R.step xin hj hk4
        rw [ep, r1, ← ep2]
        have wfk := kids_wf (T := tab) (L := L) (j := j) (row := x.row) D.R.step xin
        have inK : ∀ y ∈ kE, (y.row, y.S) ∈ kids st tab L j x.row x.S := fun y hy => by
          have : (y.row, y.S) ∈ pairs kE := List.mem_map_of_mem (f := fun y : Ent => (y.row, y.S)) hy
          rw [hk4, List.mem_reverse] at this
          exact this
        have klen : kE.length < 64 := by
          have h1 : kE.length = (kids st tab L j x.row x.S).length := by
            have := congrArg List.length hk4
            rw [List.length_map, List.length_reverse] at this
            exact this
          have h2 := kids_len (st := st) (T := tab) (L := L) (j := j) (row := x.row) (S := x.S)
          have h3 : (endsOf st tab x.S).length < 64 := by
            obtain ⟨X, hX, hX2⟩ := D.X
            have E := ends_ex st tab x.S
            have und : ((endsOf st tab x.S).map (·.1)).Nodup := E.up.imp (fun {a b} h => by intro e; rw [e] at h; exact tlt_irrefl b h)
            have := nd_le (l := (endsOf st tab x.S).map (·.1)) (m := X) und fun z hz => by
              obtain ⟨e, he, _, hs⟩ := (E.mem z).mp hz
              exact hX2 e he z hs
            rw [List.length_map] at this
            omega
          omega
        have frz4 : Frz (cfR P w base Aw outer s Sh) own Hs s1 H4 := fun b o hb e => by
          have hne : b ≠ wl := fun z => by
            subst z
            rcases I.lwl with y | y
            · exact hb y
            · rw [y] at e; cases e
          exact kp4 b o hne (frz1 b o hb e)
        refine ih (stSize st tab L n (pairs (e0 ++ kE))) (by rw [hm, ep, r2, ep2]; omega) own Hs s1 s6 _ H4 ab wl L ads (e0 ++ kE) h0 hsz sh1 hL hC J6
          ⟨frz4, ⟨_, _, _, _, _, _, _, _, rfl⟩, ⟨kp4 _ _ I.nwa.symm lv1.1, lv1.2.1, fun i a ks h1 h2 => kp4 _ _ (adw a (List.mem_of_getElem? h1)) (lv1.2.2 i a ks h1 h2)⟩, I.lab, I.lads, I.llen, I.able, hw4, I.lwl, I.nwa, fun y hy => ?_, fun i y hi => ?_, ?_⟩ rfl
        · rcases List.mem_append.mp hy with hy | hy
          · obtain ⟨y1, y2⟩ := en0 y hy
            exact ⟨⟨kp4 _ _ (ne_of y1.e hw1 (by intro z; cases z)) y1.e, kp4 _ _ (ne_of y1.r hw1 (by intro z; cases z)) y1.r, kp4 _ _ y2.2.2.2.1 y1.s⟩, y2⟩
          · obtain ⟨y1, y2, y3, y4, y5⟩ := at4 y hy
            obtain ⟨q1, q2, q3, q4⟩ := wfk _ (inK y hy)
            exact ⟨y1, frz1.new y2, frz1.new y3, frz1.new y4, y5, q2, q3, q4, by show y.row.length ≤ n; have q1 : y.row.length = x.row.length + 1 := q1; omega⟩
        · by_cases hlt : i < e0.length
          · rw [List.getElem?_append_left hlt] at hi
            exact dep0 i y hi
          · rw [List.getElem?_append_right (by omega)] at hi
            have h1 := (List.getElem?_eq_some_iff.mp hi).1
            have q1 : y.row.length = x.row.length + 1 := (wfk _ (inK y (List.mem_of_getElem? hi))).1
            omega
        · rw [List.map_append, List.nodup_append]
          refine ⟨nd0.1, nk4, fun a ha b hb => ?_⟩
          obtain ⟨y, hy, rfl⟩ := List.mem_map.mp ha
          obtain ⟨z, hz, rfl⟩ := List.mem_map.mp hb
          exact ne_of_none (en0 y hy).1.r (at4 z hz).2.2.1
end
end KN
/-! rows_of, called: a generator that has not begun. -/
namespace KN
open PySem PySem.Spec PyProof.Rows L2
section
variable {P : Program} {w : World} {K : PySem.W.Frag} {mg : Str → Option Value} {base : Heap} {CM CW : Addr}
/-- what the call gives: a generator that has not begun, and what it owns -/
structure Made (P : Program) (w : World) (base : Heap) (outer : List Env) (s : Shared) (Sh : Hp) (rows : List (List V)) (s' : Shared) (a : Addr) (c : Code) (own : List Addr) : Prop where
  gen : s'.heap.IsGen a s.gens.size
  gens : s'.gens = s.gens.push (.fresh c)
  os : s'.os = s.os
  keep : ∀ b o, s.heap.get? b = some o → s'.heap.get? b = some o
  a0 : s.heap.objs.size ≤ a
  aown : a ∉ own
  own0 : ∀ b ∈ own, s.heap.objs.size ≤ b ∧ ∃ o, s'.heap.get? b = some o
  alive : ∀ Aw : Around, Room 4 Aw → Aw.frames = some outer → Alive (cfR P w base Aw outer s Sh) rows own (.fresh c) s'
theorem rows_call (T : TxG K mg CM CW) (C : CalR P w K mg base CM CW) {f : Addr} {fd : FuncData} (F : Fun K "rows_of" "rows_of" sRows f fd) {A outer s H Sh} {args : Args} {us : List Value} {d : MD} {q0 : Int} {st : List Step} {reach : List Int} {wt dw tb : Addr} {tab : List (Str × Str)} {n : Nat}
    (hdp : A.depth < recursionLimit) (e0 : Env0 P w K mg base A outer s H) (hb : BindsTo s fd args ((["machine", "watch", "many"] : List Str).zip us)) (r : Vals [.ref d.m, .ref wt, .int n] us) (hSh : ∀ b o, Sh b = some o → H b = some o ∧ (Plain o ∨ (∃ x, o = .own x) ∨ ∃ C dx fs, o = .ins C dx fs))
    (D : Dat CM CW d q0 st reach wt dw tb tab n) (M : MachAt CM Sh d q0 st reach) (W : WatchAt CW Sh wt dw tb tab) :
    codeAny (model P w) A (.call (.ref f) args) (fun r s' => match r with | .ok (.ret u) => ∃ a c own, u = .ref a ∧ Made P w base outer s Sh ((frows st tab reach q0 n).map fun r => r.map V.str) s' a c own | _ => False) s := by
  obtain ⟨oc, od, kV, doc, pm, an, cdv, ct, osl, rfl, lk, hcd⟩ := F.ex
  have KX : K.In s.heap := e0.mod.kin.keeps fun b o e => (e0.bs b o e).1
  have lim : s.heap.NoLimit := e0.mod.nolimit.keeps fun b o e => (e0.bs b o e).1
  have hkind : ∀ y ∈ (["machine", "watch", "many"] : List Str).zip us, (defScope sRows).names.lookup y.1 = some .local ∨ ((defScope sRows).names.lookup y.1 = some .cell ∧ ((cellsFrom (s.heap.objs.size + 1) (defScope sRows).names []).lookup y.1).isSome = true) := by
    rintro ⟨x, v⟩ hy
    rcases sc44.par x (List.of_mem_zip hy).1 with q | q
    · exact .inl q
    · exact .inr ⟨q, PySem.W.cellsFrom_some _ _ _ (.inl q)⟩
  refine codeAny_call_generator hdp (KX _ _ lk) rfl sc44.co sc44.gen rfl (PySem.W.codeRec_of KX hcd) (hb _ _ _ _ ?_)
  refine wpAny_newFunctionEnv_cells sc44.kind hkind ?_
  rintro env rfl s1 x
  have lim1 : s1.heap.NoLimit := lim.keeps x.toInCall.keep
  refine ⟨lim1, ?_⟩
  obtain ⟨h1, tk, es1, hk1⟩ := x.done
  have os1 : s1.os = s.os := by rw [es1]
  have gen1 : s1.gens = s.gens := by rw [es1]
  have lt1 : s.heap.objs.size < s1.heap.objs.size := x.toInCall.ns.lt
  have kp1 : ∀ b o, s.heap.get? b = some o → s1.heap.get? b = some o := x.toInCall.keep
  have main : ∀ (go : Obj) (nm qn : Value) (tk2 : Nat), go.cls = .type "generator" → go.data = .fields #[.int s1.gens.size 0, nm, qn] → go.slots = #[] → (∀ h : Heap, (h.push go).get? h.objs.size = some go) →
      ∃ a c own, Value.ref s1.heap.objs.size = .ref a ∧ Made P w base outer s Sh ((frows st tab reach q0 n).map fun r => r.map V.str) { s1 with gens := s1.gens.push (.fresh (.func (defBody sRows) (eR f cdv s))), toks := tk2, heap := s1.heap.push go } a c own := by
    intro go nm qn tk2 hgc hgd hgs hgp
    refine ⟨s1.heap.objs.size, .func (defBody sRows) (eR f cdv s), (List.range' s.heap.objs.size (s1.heap.objs.size - s.heap.objs.size)).filter fun b => (s1.heap.get? b).isSome, rfl, ⟨⟨go, nm, qn, hgp _, hgc, by rw [hgd, gen1], hgs⟩, by show s1.gens.push _ = _; rw [gen1], os1, fun b o e => Heap.get?_push_of_some _ (kp1 b o e), Nat.le_of_lt lt1, fun z => ?_, fun b hb => ?_, fun Aw hrw hfr => ?_⟩⟩
    · have := (List.mem_range'_1.mp (List.mem_filter.mp z).1).2
      omega
    · obtain ⟨h1, h2⟩ := List.mem_filter.mp hb
      obtain ⟨o, ho⟩ := Option.isSome_iff_exists.mp h2
      exact ⟨(List.mem_range'_1.mp h1).1, o, Heap.get?_push_of_some _ ho⟩
    -- the first stretch
    have hr3 : Room 3 (Aw.deeper (eR f cdv s)) := hrw.deeper _
    have e0w : Env0 P w K mg base Aw outer s H := ⟨hfr, e0.mod, e0.bs, e0.bsz, e0.funs, e0.frf, e0.hok, e0.bare⟩
    have I0 := inv_startG (N := nRows) (qual := "rows_of") (f := f) (cd := cdv) (E := NoK) sc44 hrw.hd e0w rfl r x
    have I1 : Inv (xR P w K mg base f cdv Aw outer s H) [] (start nRows [.ref d.m, .ref wt, .int n]) H s1 := I0.wish (xR P w K mg base f cdv Aw outer s H).xe
    have g : GenCx (xR P w K mg base f cdv Aw outer s H) (cfR P w base Aw outer s Sh) := by
      refine ⟨rfl, rfl, rfl, rfl, rfl, rfl, rfl, fun b o e => e0.hok.lt (hSh b o e).1, fun b o e => ?_, fun b hb => ?_, fun b o e => (hSh b o e).2⟩
      · show Sh b = none
        cases q : Sh b with
        | none => rfl
        | some u =>
          have h1 := (hSh b u q).1
          rw [(e0.bs b o e).2] at h1
          cases h1
      · show Sh b = none
        cases q : Sh b with
        | none => rfl
        | some u =>
          have h1 := (hSh b u q).1
          rw [e0.frf b hb] at h1
          cases h1
    refine alive_iff.mpr fun s2 S => ?_
    generalize hown : ((List.range' s.heap.objs.size (s1.heap.objs.size - s.heap.objs.size)).filter fun b => (s1.heap.get? b).isSome) = own at S ⊢
    have h0 : ∀ b ∈ own, s.heap.objs.size ≤ b := fun b hb => by rw [← hown] at hb; exact (List.mem_range'_1.mp (List.mem_filter.mp hb).1).1
    have inown : ∀ b o, s.heap.objs.size ≤ b → s1.heap.get? b = some o → b ∈ own := fun b o h1 h2 => by
      have h3 : b < s1.heap.objs.size := Heap.lt_size h2
      rw [← hown]
      exact List.mem_filter.mpr ⟨List.mem_range'_1.mpr ⟨h1, by rw [Nat.add_sub_cancel' (Nat.le_of_lt lt1)]; exact h3⟩, by rw [h2]; rfl⟩
    have hL : (eR f cdv s).locals ∈ own := by
      obtain ⟨m, ⟨o, _, _, e, _⟩, _⟩ := I1.loc
      exact inown _ o (Nat.le_refl _) e
    have hC : ∀ y c, (eR f cdv s).cells.lookup y = some c → c ∈ own := fun y c e => by
      obtain ⟨v, o, ho, _⟩ := I1.cell y c e
      exact inown c o (I1.ok.cab y c rfl e) ho
    have S1 : Stay (cfR P w base Aw outer s Sh) own s1 s2 := ⟨S.os, S.bare, fun b o hb e => S.keep b o hb (Heap.get?_push_of_some _ e), S.base, S.funs, S.sh⟩
    have I2 := reb_inv g (own := own) (Hs := fun _ => none) I1 hL hC h0 (fun b o e => by cases e) S1
    have J2 : JV (RX (xR P w K mg base f cdv Aw outer s H) (cfR P w base Aw outer s Sh) own (fun _ => none) s2) s2.gens [] (start nRows [.ref d.m, .ref wt, .int n]) (rebH s.heap.objs.size own (fun _ => none) Sh s2.heap) s2 := ⟨I2, rfl, fun b _ e => e⟩
    have hsz : s.heap.objs.size ≤ s2.heap.objs.size := by
      obtain ⟨_, nL, _⟩ := I2.loc
      exact Nat.le_of_lt (Nat.lt_of_le_of_lt (h0 _ hL) nL.lt)
    have sSh : Same Sh (rebH s.heap.objs.size own (fun _ => none) Sh s2.heap) := fun b o e => by rw [reb_lt (g.sh0 b o e)]; exact e
    obtain ⟨tp, htp, hqp⟩ := pre_ok (P := P) (w := w) (K := K) (mg := mg) (base := base) (f := f) (cdv := cdv) (A := Aw) (outer := outer) (s := s) (s' := { s2 with heap := cut s2.heap s.heap.objs.size }) (H := H) (H' := rebH s.heap.objs.size own (fun _ => none) Sh s2.heap) T C hr3 D (M.same sSh) (W.same sSh)
      (N := fun σ' H' => ∃ ab wl L ads ents, LI (xR P w K mg base f cdv Aw outer s H) (cfR P w base Aw outer s Sh) own (fun _ => none) s2 d wt n st tab reach σ' H' ab wl L ads ents ∧ stRows st tab L n (pairs ents) = frows st tab reach q0 n)
      (fun H2 ab wl L ads ents v4 v6 v7 v8 v9 v10 v11 v12 ss hab hads hlv hlen hable hwl nwa hw hc => by
        refine ⟨ab, wl, L, ads, ents, ⟨fun b o _ e => ss b o e, ⟨_, _, _, _, _, _, _, _, rfl⟩, hlv, .inr hab, fun a ha => .inr (hads a ha), hlen, hable, hw, .inr hwl, nwa, fun y hy => ?_, fun i y hi => ?_, ?_⟩, ?_⟩
        · rcases hc with ⟨rfl, _⟩ | ⟨x, rfl, hx1, hx2, hx3, hx4, hx5, hx6, hx7, hx8⟩
          · simp at hy
          · rw [List.mem_singleton.mp hy]
            refine ⟨hx4, .inr hx5, .inr hx6, .inr hx7, hx8, hx3, fun q hq => ?_, ?_, by rw [hx1]; exact Nat.zero_le _⟩
            · rw [hx2] at hq
              have h := (mem_asc.mp (mem_lft.mp hq).1).2
              exact ur_in (P := (· ∈ [q0])) D.R.step (fun z hz => by rw [List.mem_singleton.mp hz]; exact D.R.q0) h
            · rw [hx2]
              exact lft_nd (clo_nd _ _ _)
        · rcases hc with ⟨rfl, _⟩ | ⟨x, rfl, hx1, _⟩
          · simp at hi
          · have hlt := (List.getElem?_eq_some_iff.mp hi).1
            rw [List.length_singleton] at hlt
            omega
        · rcases hc with ⟨rfl, _⟩ | ⟨x, rfl, _⟩
          · exact List.nodup_nil
          · simp
        · rw [← all_eq D.R hable hlen]
          unfold expAll
          rcases hc with ⟨rfl, hl⟩ | ⟨x, rfl, hx1, hx2, hx3, _⟩
          · rw [if_pos hl]
            rfl
          · rw [if_neg (by rw [← hx2]; exact hx3)]
            show ([(x.row, x.S)].reverse.flatMap _) = _
            rw [hx1, hx2]
            show expand st tab L (n - 0) [] _ ++ [] = _
            rw [List.append_nil, Nat.sub_zero])
    show SG _ _ _ _ ((model P w).den (.func (defBody sRows) (eR f cdv s))) [] s2
    refine sg_func fun J => ?_
    show SG _ _ _ _ ((execs ((defBody sRows).take 6 ++ [rW]) (eR f cdv s)).wrap _ _ _ _) [] s2
    rw [execs_split]
    refine sg_gps GenW.over_func htp J2 hqp fun σ' H' s3 J3 ⟨ab, wl, L, ads, ents, LL, hrows⟩ => ?_
    show SG _ _ _ _ ((execs (rW :: []) (eR f cdv s)).wrap _ _ _ _) [] s3
    refine sg_cons ?_
    show SG _ _ _ _ ((exec (.While (whT rW) (whB rW) [] (whP rW)) (eR f cdv s)).wrap _ _ _ _) [] s3
    refine sg_While fun p k hk => ?_
    rw [← hrows]
    refine rows_loop T C hr3 g D M W (fun fl => ?_) _ own (fun _ => none) s2 s3 σ' H' ab wl L ads ents h0 hsz S.sh hL hC J3 LL rfl
    rw [hk]
    cases fl <;> rfl
  exact main _ _ _ _ rfl rfl rfl fun h => Heap.get?_push_size _ rfl
end
end KN
/-! An item of a sleeping generator is asked for. -/
namespace KN
open PySem PySem.Spec PyProof.Rows L2
def IsStop (h : Heap) (e : Addr) : Prop := ∃ o, h.get? e = some o ∧ o.cls = .type "StopIteration"
theorem next_gen {prog : Program} {w : World} {A : Around} {s : Shared} {i g : Nat} {gs : GenState} {Φ : End → Shared → Prop} {Q : Value → Shared → Prop} {E : Value → Shared → Prop} (hh : A.handled = none) (hl : s.heap.NoLimit) (hroom : A.depth < recursionLimit) (hg : s.heap.IsGen i g) (hgs : s.gens[g]? = some gs)
    (hgo : Go1 (model prog w) A.in1 Φ gs (s.setGen g .running))
    (hY : ∀ v gd l k c p fs s1, (End.susp v gd l k c p fs).quiet = true → Φ (.susp v gd l k c p fs) s1 → Q v (s1.setGen g (End.susp v gd l k c p fs).genState))
    (hE : ∀ r s1, Φ (.ret r) s1 → r = .ok (.ret .none) ∧ ∀ h' e, (∀ b o, s1.heap.get? b = some o → h'.get? b = some o) → IsStop h' e → E (.ref e) { s1.setGen g .finished with heap := h' }) : wpAny (model prog w) A (Builtin.SmallTypes.nextOf (.ref i)) Q E s := by
  unfold Builtin.SmallTypes.nextOf
  refine wpAny_bind (wpAny_callSpecial?_slot (name := Str.ofString "__next__") hg.typeIs slot_gen_next (wpAny_call_entry slot_gen_next hg.typeIs entry_gen_next ?_ (args_gen_next _)))
  show wpAny _ A.in1 (Builtin.Generator.genWake (.ref i) (.send .none)) _ _ s
  unfold Builtin.Generator.genWake
  refine wpAny_bind (wpAny_holding (wpAny_genNumber hg (wpAny_bind (wpAny_genState hgs ?_))))
  cases gs with
  | running => exact False.elim hgo
  | finished => exact False.elim hgo
  | _ =>
    refine wpAny_bind (wpAny_roomToWake hl hroom ?_)
    show wpAny _ A.in1 (.resume g (.send .none) [] _) _ _ s
    refine wp_resume1 hgs hgo fun e s1 hq hp => ?_
    cases e with
    | susp v gd l k c p fs => exact wpAny_pure ⟨v, rfl, wpAny_pure (hY v gd l k c p fs s1 hq hp)⟩
    | ret r =>
      obtain ⟨rfl, hE⟩ := hE r s1 hp
      show wpAny _ A.in1 (newExc (.type "StopIteration") [] >>= _) _ _ _
      refine wpAny_bind ?_
      simp only [newExc, newTuple]
      refine wpAny_bind (wpAny_newObj_type ?_ (by size_fits))
      refine wpAny_bind (m := firstArgMember _ _) (wpAny_of_eq (a := Value.none) (by first | rfl | (simp only [firstArgMember]; rfl)) ?_)
      refine wpAny_newObj_type ?_ (by size_fits)
      simp only [raiseNew]
      refine wpAny_bind (wpAny_bind (wpAny_handled ?_))
      first | rw [show A.in1.handled = none from hh] | rw [hh]
      refine wpAny_throw ?_
      exact hE _ _ (fun b o hb => Heap.get?_push_of_some _ (Heap.get?_push_of_some _ hb)) ⟨_, Heap.get?_push_size _ rfl, rfl⟩
end KN
/-! What lies outside the hand layer's sight is frozen while a body runs. -/
namespace KN
open PySem PySem.Spec PyProof.Rows L2
section
variable {X : Cx} {pins : List (Addr × Obj)} {σ σ' : St} {H H' : Hp} {s s' : Shared} {F : List Addr}
/-- the context as if the def began with what it has by now -/
abbrev rebC (X : Cx) (s : Shared) (H : Hp) : Cx := { X with s_0 := { s with heap := cut s.heap X.s_0.heap.objs.size }, H_0 := H }
def frzH (F : List Addr) (h : Heap) (H : Hp) : Hp := fun b => if b ∈ F then (h.get? b).map fun o => .ext fun h' => h'.get? b = some o else H b
def thawH (F : List Addr) (H : Hp) : Hp := fun b => if b ∈ F then none else H b
theorem frzH_in {h : Heap} {b : Addr} {o : Obj} (hb : b ∈ F) (e : h.get? b = some o) : frzH F h H b = some (.ext fun h' => h'.get? b = some o) := by
  unfold frzH; rw [if_pos hb, e]; rfl
theorem frzH_out {h : Heap} {b : Addr} (hb : b ∉ F) : frzH F h H b = H b := by unfold frzH; rw [if_neg hb]
theorem thawH_out {b : Addr} (hb : b ∉ F) : thawH F H b = H b := by unfold thawH; rw [if_neg hb]
theorem thawH_in {b : Addr} (hb : b ∈ F) : thawH F H b = none := by unfold thawH; rw [if_pos hb]
/-- untracked, the def's own, there -/
structure FOk (X : Cx) (pins : List (Addr × Obj)) (F : List Addr) (H : Hp) (s : Shared) : Prop where
  fp : ∀ b ∈ F, FpOk X pins H b
  ex : ∀ b ∈ F, ∃ o, s.heap.get? b = some o
theorem FOk.ne (f : FOk X pins F H s) {b : Addr} {o : HO} (e : H b = some o) : b ∉ F := fun z => by
  have := (f.fp b z).1
  rw [e] at this; cases this
theorem FOk.ge (f : FOk X pins F H s) (hx : X.ex = []) {b : Addr} (z : b ∈ F) : X.s_0.heap.objs.size ≤ b := by
  have := (f.fp b z).2.2.2.1
  rw [hx] at this
  exact this.elim (fun q => absurd q (by simp)) id
theorem funs_cut {base h : Heap} {n : Nat} : ∀ (l : List Env), (∀ b ∈ frs l, b < n) → h.FunFrames base l → (cut h n).FunFrames base l := by
  intro l
  induction l with
  | nil => intro _ _; trivial
  | cons env r ih =>
    rintro hlt ⟨hk, ⟨L, o, hf, hn, ho, hd⟩, hr⟩
    have hL : L < n := hlt L (by unfold frs; rw [List.filterMap_cons, hf]; exact List.mem_cons_self)
    exact ⟨hk, ⟨L, o, hf, hn, by rw [cut_get, if_pos hL]; exact ho, hd⟩, ih (fun b hb => hlt b (by unfold frs; rw [List.filterMap_cons, hf]; exact List.mem_cons_of_mem _ hb)) hr⟩
theorem frz_in (I : Inv X pins σ H s) (hx : X.ex = []) (f : FOk X pins F H s) : JV (rebC X s (frzH F s.heap H)) s.gens pins σ (frzH F s.heap H) s := by
  have hc := cut_size (h := s.heap) I.sz
  have hge : ∀ {b}, b < X.s_0.heap.objs.size → b ∉ F := fun hb z => absurd (f.ge hx z) (Nat.not_le.mpr hb)
  have fr0 : ∀ b ∈ X.fs, b < X.s_0.heap.objs.size := fun b hb => by
    obtain ⟨_, o, e, _⟩ := I.ok.funs.mem hb
    exact Heap.lt_size e
  have nx : ∀ {b : Addr}, b ∉ X.ex := fun {b} hb => by rw [hx] at hb; cases hb
  refine ⟨⟨⟨I.ok.mod, I.ok.kind, I.ok.glob, I.ok.blt, ?_, I.ok.inj, I.ok.has, fun x c hx e => ?_, I.ok.hd, I.ok.frames, I.ok.stk, I.ok.exf, fun b o e => ?_, ?_, I.ok.noex, I.ok.exfs, ?_, fun b hb => ?_⟩,
    rfl, I.bare, Un.kept fun b u e => (cut_some e).2, I.loc, I.cell, ?_, fun x c e => ?_, fun p hp => ?_, fun b o e => ?_, I.len⟩, rfl, fun b _ e => e⟩
  · show (cut s.heap _).objs.size ≤ X.env.locals
    rw [hc]; exact I.ok.above
  · show (cut s.heap _).objs.size ≤ c
    rw [hc]; exact I.ok.cab x c hx e
  · have hb : b < X.s_0.heap.objs.size := Nat.lt_of_lt_of_le (Heap.lt_size e) I.ok.bsz
    obtain ⟨e1, n1⟩ := I.bs b o e
    refine ⟨?_, ?_⟩
    · show (cut s.heap _).get? b = some o
      rw [cut_get, if_pos hb]; exact e1
    · show frzH _ _ _ b = none
      rw [frzH_out (hge hb)]; exact n1
  · show X.base.objs.size ≤ (cut s.heap _).objs.size
    rw [hc]; exact I.ok.bsz
  · show (cut s.heap _).FunFrames X.base X.outer
    have hs := I.stack
    rcases I.ok.stk with q | ⟨q, _⟩
    · rw [q] at hs; exact funs_cut _ fr0 hs
    · rw [q] at hs; exact funs_cut _ fr0 hs.2.2
  · show frzH _ _ _ b = none
    rw [frzH_out (hge (fr0 b hb))]
    obtain ⟨_, o, e, _⟩ := I.ok.funs.mem hb
    exact I.base.free b o e (I.ok.frf b hb) nx
  · show frzH _ _ _ X.env.locals = none
    rw [frzH_out fun z => (f.fp _ z).2.1 rfl]; exact I.free
  · rw [frzH_out fun z => (f.fp _ z).2.2.2.2.1 x c e rfl]; exact I.freeC x c e
  · obtain ⟨e, n, a, b, d⟩ := I.pin p hp
    exact ⟨e, by rw [frzH_out fun z => (f.fp _ z).2.2.2.2.2 p hp rfl]; exact n, a, b, d⟩
  · by_cases hb : b ∈ F
    · obtain ⟨u, q⟩ := f.ex b hb
      rw [frzH_in hb q] at e
      cases e
      exact ⟨q, ⟨u, q⟩, fun h1 h2 p k => k u p⟩
    · rw [frzH_out hb] at e
      exact (I.hok b o e).stay (fun _ _ _ q => q) (fun c q => by rw [frzH_out (f.ne q)]; exact q) fun c xs q => by rw [frzH_out (f.ne q)]; exact q
theorem frz_out (I : Inv X pins σ H s) (hx : X.ex = []) (f : FOk X pins F H s) {G : Array GenState} (J : JV (rebC X s (frzH F s.heap H)) G pins σ' H' s')
    (k : ∀ b o, b ∈ F → s.heap.get? b = some o → H' b = some (.ext fun h' => h'.get? b = some o)) :
    Inv X pins σ' (thawH F H') s' ∧ s'.gens = G ∧ (∀ b o, b ∈ F → s.heap.get? b = some o → s'.heap.get? b = some o) ∧ FOk X pins F (thawH F H') s' := by
  have hge : ∀ {b}, b < X.s_0.heap.objs.size → b ∉ F := fun hb z => absurd (f.ge hx z) (Nat.not_le.mpr hb)
  have nx : ∀ {b : Addr}, b ∉ X.ex := fun {b} hb => by rw [hx] at hb; cases hb
  have isE : ∀ b, b ∈ F → ∃ φ, H' b = some (.ext φ) := fun b hb => by
    obtain ⟨u, q⟩ := f.ex b hb
    exact ⟨_, k b u hb q⟩
  have kk : ∀ b o, b ∈ F → s.heap.get? b = some o → s'.heap.get? b = some o := fun b o hb e => (J.iv.hok b _ (k b o hb e)).1
  have tn : ∀ {b}, H' b = none → thawH F H' b = none := fun {b} e => by
    by_cases hb : b ∈ F
    · exact thawH_in hb
    · rw [thawH_out hb]; exact e
  have ts : ∀ {b o}, H' b = some o → (∀ φ, o ≠ .ext φ) → thawH F H' b = some o := fun {b o} e n => by
    rw [thawH_out fun hb => by
      obtain ⟨φ, q⟩ := isE b hb
      rw [e] at q; cases q; exact n φ rfl]
    exact e
  have cg : ∀ {b o}, X.s_0.heap.get? b = some o → (cut s.heap X.s_0.heap.objs.size).get? b = s.heap.get? b := fun {b o} e => by rw [cut_get, if_pos (Heap.lt_size e)]
  have IV : Inv X pins σ' (thawH F H') s' := by
    refine ⟨I.ok, J.iv.os.trans I.os, J.iv.bare, ⟨fun b o e n hb hq => ?_, fun b o e n hb hq => ?_, fun b o e n hq => ?_, fun b o e hq => ?_, fun b xs e => ?_, fun b o u e => ?_, fun b ps e => ?_⟩, J.iv.loc, J.iv.cell, tn J.iv.free, fun x c e => tn (J.iv.freeC x c e), fun p hp => ?_, fun b o e => ?_, J.iv.len⟩
    · have e1 := I.base.keep b o e n hb hq
      have n1 := I.base.free b o e n hq
      exact J.iv.base.keep b o ((cg e).trans e1) (by show frzH _ _ _ b = none; rw [frzH_out (hge (Heap.lt_size e))]; exact n1) hb hq
    · obtain ⟨sl, e1⟩ := I.base.slot b o e n hb hq
      have n1 := I.base.free b o e n hq
      obtain ⟨sl2, e2⟩ := J.iv.base.slot b _ ((cg e).trans e1) (by show frzH _ _ _ b = none; rw [frzH_out (hge (Heap.lt_size e))]; exact n1) hb hq
      exact ⟨sl2, e2⟩
    · have n1 := I.base.free b o e n hq
      obtain ⟨o1, e1⟩ := I.base.there b o e hq
      exact tn (J.iv.base.free b o1 ((cg e).trans e1) (by show frzH _ _ _ b = none; rw [frzH_out (hge (Heap.lt_size e))]; exact n1) hq)
    · obtain ⟨o1, e1⟩ := I.base.there b o e hq
      exact J.iv.base.there b o1 ((cg e).trans e1) hq
    · have e1 := I.base.tups b xs e
      exact ts (J.iv.base.tups b xs (by show frzH _ _ _ b = _; rw [frzH_out (f.ne e1)]; exact e1)) fun _ z => by cases z
    · have e1 := I.base.frzs b o u e
      exact ts (J.iv.base.frzs b o u (by show frzH _ _ _ b = _; rw [frzH_out (f.ne e1)]; exact e1)) fun _ z => by cases z
    · obtain ⟨m1, e1⟩ := I.base.tbls b ps e
      obtain ⟨m2, e2⟩ := J.iv.base.tbls b _ (by show frzH _ _ _ b = _; rw [frzH_out (f.ne e1)]; exact e1)
      exact ⟨m1 ++ m2, by rw [← Array.append_assoc]; exact ts e2 fun _ z => by cases z⟩
    · obtain ⟨e, n, a, b, d⟩ := J.iv.pin p hp
      exact ⟨e, tn n, a, b, d⟩
    · by_cases hb : b ∈ F
      · rw [thawH_in hb] at e; cases e
      · rw [thawH_out hb] at e
        exact (J.iv.hok b o e).stay (fun _ _ _ q => q) (fun c q => ts q fun _ z => by cases z) fun c xs q => ts q fun _ z => by cases z
  refine ⟨IV, J.gs, kk, fun b hb => ?_, fun b hb => ?_⟩
  · exact ⟨thawH_in hb, (f.fp b hb).2⟩
  · obtain ⟨u, q⟩ := f.ex b hb
    exact ⟨u, kk b u hb q⟩
end
end KN
/-! A generator in a frame: it sleeps there, an item is asked for. -/
namespace KN
open PySem PySem.Spec PyProof.Rows L2
structure ShOk (Sh : Hp) : Prop where
  kd : ∀ b o, Sh b = some o → Plain o ∨ (∃ x, o = .own x) ∨ ∃ C dx fs, o = .ins C dx fs
  cl : ∀ b x, Sh b = some (.own x) → ∃ o, Sh x = some o
  dx : ∀ b C d fs, Sh b = some (.ins C d fs) → Sh d = some (.own b)
section
variable {P : Program} {w : World} {Sh H : Hp} {h h' : Heap}
theorem hok_sub (S : ShOk Sh) (k : Same Sh H) (x : HOk P w H h) : HOk P w Sh h := fun b o e => by
  have q := x b o (k b o e)
  rcases S.kd b o e with p | ⟨y, rfl⟩ | ⟨C, d, fs, rfl⟩
  · exact plain_any p q
  · exact q
  · exact ⟨S.dx b C d fs e, q.2⟩
theorem hok_sup (S : ShOk Sh) (k : Same Sh H) (x : HOk P w H h) (y : HOk P w Sh h') (st : ∀ b o u, h.get? b = some o → Sh b = none → H b = some u → h'.get? b = some o) : HOk P w H h' := fun b o e => by
  cases q : Sh b with
  | some u =>
    have e2 := k b u q
    rw [e] at e2
    cases e2
    have z := y b o q
    rcases S.kd b o q with p | ⟨y, rfl⟩ | ⟨C, d, fs, rfl⟩
    · exact plain_any p z
    · exact z
    · exact ⟨k _ _ z.1, z.2⟩
  | none =>
    refine (x b o e).stay (fun c u hc g => ?_) (fun _ g => g) fun _ _ g => g
    rcases hc with rfl | hc
    · exact st c u o g q e
    · refine st c u _ g ?_ hc
      cases q2 : Sh c with
      | none => rfl
      | some v =>
        have e2 := k c v q2
        rw [hc] at e2
        cases e2
        obtain ⟨v, hv⟩ := S.cl c b q2
        rw [q] at hv; cases hv
end
theorem Stay.trans {cf : Cfg} {own : List Addr} {s s1 s2 : Shared} (a : Stay cf own s s1) (b : Stay cf own s1 s2) : Stay cf own s s2 :=
  ⟨b.os.trans a.os, b.bare, fun c o hc e => b.keep c o hc (a.keep c o hc e), b.base, b.funs, b.sh⟩
theorem Alive.mono {cf : Cfg} {rows : List (List V)} {own : List Addr} {gs : GenState} {s s' : Shared} (h : Alive cf rows own gs s) (S : Stay cf own s s') : Alive cf rows own gs s' := by
  cases rows with
  | nil => exact fun s1 S1 => h s1 (S.trans S1)
  | cons r rs => exact fun s1 S1 => h s1 (S.trans S1)
section
variable {X : Cx} {pins : List (Addr × Obj)} {σ σ' : St} {H H' : Hp} {s s' : Shared} {cf : Cfg} {g : Nat} {i : Addr} {rows : List (List V)} {own : List Addr}
structure CfX (X : Cx) (cf : Cfg) : Prop where
  P : cf.P = X.prog
  w : cf.w = X.w
  base : cf.base = X.base
  outer : cf.outer = X.stack
  n0 : X.s_0.heap.objs.size ≤ cf.n0
  sh : ShOk cf.Sh
structure GenS (X : Cx) (pins : List (Addr × Obj)) (H : Hp) (cf : Cfg) (g : Nat) (i : Addr) (rows : List (List V)) (own : List Addr) (s : Shared) : Prop where
  gen : s.heap.IsGen i g
  st : ∃ gs, s.gens[g]? = some gs ∧ Alive cf rows own gs s
  ow : FOk X pins own H s
  fi : FpOk X pins H i
  iown : i ∉ own
theorem stay_of (c : CfX X cf) (I : Inv X pins σ H s) {pins' : List (Addr × Obj)} (I' : Inv X pins' σ' H' s') (k : Same cf.Sh H') (kp : ∀ b o, b ∈ own → s.heap.get? b = some o → s'.heap.get? b = some o) : Stay cf own s s' :=
  ⟨I'.os.trans I.os.symm, I'.bare, kp, fun b o e => (I'.bs b o (by rw [← c.base]; exact e)).1, by rw [c.base, c.outer]; exact I'.stack, by rw [c.P, c.w]; exact hok_sub c.sh k I'.hok⟩
/-- others have run: the generator's own is as it was -/
theorem GenS.mono (c : CfX X cf) (I : Inv X pins σ H s) {pins' : List (Addr × Obj)} (I' : Inv X pins' σ' H' s') (k : Same cf.Sh H') (G : GenS X pins H cf g i rows own s) (kp : ∀ b o, b ∈ i :: own → s.heap.get? b = some o → s'.heap.get? b = some o)
    (fp : ∀ b ∈ i :: own, FpOk X pins' H' b) (hg : s'.gens[g]? = s.gens[g]?) : GenS X pins' H' cf g i rows own s' := by
  obtain ⟨gs, e, al⟩ := G.st
  refine ⟨?_, ⟨gs, hg.trans e, al.mono (stay_of c I I' k fun b o hb => kp b o (List.mem_cons_of_mem _ hb))⟩, ⟨fun b hb => fp b (List.mem_cons_of_mem _ hb), fun b hb => ?_⟩, fp i List.mem_cons_self, G.iown⟩
  · obtain ⟨o, n, q, e1, e2⟩ := G.gen
    exact ⟨o, n, q, kp i o List.mem_cons_self e1, e2⟩
  · obtain ⟨o, q⟩ := G.ow.ex b hb
    exact ⟨o, kp b o (List.mem_cons_of_mem _ hb) q⟩
theorem fpOk_new (I : Inv X pins σ H s) {b : Addr} (hb : X.s_0.heap.objs.size ≤ b) (hn : s.heap.get? b = none) : FpOk X pins H b := by
  have ne : ∀ {c : Addr} {o : Obj}, s.heap.get? c = some o → c ≠ b := fun {c o} e z => by rw [z, hn] at e; cases e
  refine ⟨?_, fun z => ?_, fun z => ?_, .inr hb, fun x c e z => ?_, fun p hp z => ?_⟩
  · cases q : H b with
    | none => rfl
    | some o =>
      exact absurd (I.hok.lt q) fun lt => by
        have e := I.hok b o q
        have ex : ∃ u, s.heap.get? b = some u := by
          rcases o with _ | _ | _ | _ | _ | _ | _ | _ | _ | _ | _ | _ | _
          all_goals first
            | (obtain ⟨_, _, _, _, e⟩ := e; exact ⟨_, e⟩)
            | (obtain ⟨_, _, _, o, e, _⟩ := e; exact ⟨_, e⟩)
            | (obtain ⟨_, _, _, _, o, _, _, e, _⟩ := e; exact ⟨_, e⟩)
            | (obtain ⟨_, _, _, _, o, _, _, e, _⟩ := e; exact ⟨_, e⟩)
            | (obtain ⟨o, _, _, _, e, _⟩ := e; exact ⟨_, e⟩)
            | (obtain ⟨_, _, _, e, _⟩ := e; exact ⟨_, e⟩)
            | (obtain ⟨_, ⟨_, _, _, e, _⟩, _⟩ := e; exact ⟨_, e⟩)
            | (obtain ⟨_, _, _, e⟩ := e; exact ⟨_, e⟩)
            | (obtain ⟨_, e⟩ := e; exact ⟨_, e⟩)
            | (obtain ⟨e, _⟩ := e; exact ⟨_, e⟩)
            | (obtain ⟨_, ⟨_, e⟩, _⟩ := e; exact ⟨_, e⟩)
            | exact ⟨_, (show s.heap.get? b = some _ from e)⟩
        obtain ⟨u, e⟩ := ex
        rw [hn] at e; cases e
  · obtain ⟨m, ⟨o, _, _, e, _⟩, _⟩ := I.loc
    exact ne e z.symm
  · obtain ⟨_, o, e, _⟩ := I.ok.funs.mem z
    exact absurd (Heap.lt_size e) (Nat.not_lt.mpr hb)
  · obtain ⟨v, o, e, _⟩ := I.cell x c e
    exact ne e z
  · exact ne (I.pin p hp).1 z
theorem frs_stack (I : Inv X pins σ H s) {b : Addr} (h1 : b ∉ X.fs) (h2 : b ≠ X.env.locals) : b ∉ frs X.stack := fun z => (List.mem_cons.mp (I.stkSub b z)).elim h2 h1
theorem setGen_sz (s : Shared) (g : Nat) (x : GenState) : (s.setGen g x).gens.size = s.gens.size := by simp [Shared.setGen]
/-- an item is asked for -/
theorem pull {A : Around} {Q E : Value → Shared → Prop} (c : CfX X cf) (hA : cf.A = A.in1) (hh : A.handled = none) (hroom : A.depth < recursionLimit) (hx : X.ex = []) (I : Inv X pins σ H s) (k : Same cf.Sh H) (G : GenS X pins H cf g i rows own s)
    (hr : ∀ r rs a own' s', rows = r :: rs → Inv X pins σ (upd H a (.tup r)) s' → GenS X pins (upd H a (.tup r)) cf g i rs own' s' → H a = none → X.s_0.heap.objs.size ≤ a →
      (∀ b o, s.heap.get? b = some o → H b = none → b ∉ frs X.stack → b ∉ own → s'.heap.get? b = some o ∧ b ≠ a ∧ b ∉ own') → (∀ g', g' ≠ g → s'.gens[g']? = s.gens[g']?) → Q (.ref a) s')
    (he : rows = [] → ∀ s' e, Inv X pins σ H s' → (∀ b o, s.heap.get? b = some o → H b = none → b ∉ frs X.stack → b ∉ own → s'.heap.get? b = some o) → IsStop s'.heap e → E (.ref e) s') :
    wpAny (model X.prog X.w) A (Builtin.SmallTypes.nextOf (.ref i)) Q E s := by
  obtain ⟨gs, hgs, al⟩ := G.st
  have bare1 : AllBare (s.setGen g .running).gens := allBare_setGen I.bare rfl
  have S1 : Stay cf own s (s.setGen g .running) := ⟨rfl, bare1, fun _ _ _ e => e, fun b o e => (I.bs b o (by rw [← c.base]; exact e)).1, by rw [c.base, c.outer]; exact I.stack, by rw [c.P, c.w]; exact hok_sub c.sh k I.hok⟩
  have fch : ∀ b ∈ own, (b ∈ X.ex ∨ X.s_0.heap.objs.size ≤ b) ∧ b ≠ X.env.locals ∧ (∀ x c, X.env.cells.lookup x = some c → c ≠ b) ∧ ∀ p ∈ X.pn ++ pins, p.1 ≠ b := fun b hb => by
    obtain ⟨_, f1, _, f3, f4, f5⟩ := G.ow.fp b hb
    exact ⟨f3, f1, f4, f5⟩
  have shn : ∀ {b}, H b = none → cf.Sh b = none := fun {b} e => by
    cases q : cf.Sh b with
    | none => rfl
    | some u => rw [k b u q] at e; cases e
  -- what the stretch has kept
  have keepG : ∀ s2, Guar cf own (s.setGen g .running) s2 → ∀ b o, s.heap.get? b = some o → H b = none → b ∉ frs X.stack → b ∉ own → s2.heap.get? b = some o := fun s2 U b o e n hf ho =>
    U.keep b o e ho (shn n) (by rw [c.outer]; exact hf)
  have hokG : ∀ s2, Guar cf own (s.setGen g .running) s2 → HOk X.prog X.w H s2.heap := fun s2 U => by
    refine hok_sup c.sh k I.hok (by have := U.sh; rw [c.P, c.w] at this; exact this) fun b o u e q n => ?_
    refine U.keep b o e (G.ow.ne n) q ?_
    rw [c.outer]
    intro z
    have := I.stkFree b z
    rw [n] at this; cases this
  have unG : ∀ s2 a H2, Guar cf own (s.setGen g .running) s2 → (∀ b u, H b = some u → H2 b = some u) → (∀ b, b ≠ a → H2 b = H b) → (a ∈ own ∨ s.heap.get? a = none) → Un (frs X.stack) own H H2 s.heap s2.heap := fun s2 a H2 U m nn ha => by
    refine ⟨fun b o e n hf ho => keepG s2 U b o e n hf ho, fun b o e n hf ho => ?_, fun b o e n ho => ?_, fun b o e ho => ?_, fun b xs e => m _ _ e, fun b o u e => m _ _ e, fun b ps e => ⟨#[], by rw [Array.append_empty]; exact m _ _ e⟩⟩
    · exact U.slot b o e (by rw [c.outer]; exact hf)
    · rw [nn b fun z => ?_]
      · exact n
      · subst z
        rcases ha with z | z
        · exact ho z
        · rw [e] at z; cases z
    · by_cases hf : b ∈ frs X.stack
      · obtain ⟨sl, q⟩ := U.slot b o e (by rw [c.outer]; exact hf)
        exact ⟨_, q⟩
      · cases q : cf.Sh b with
        | none => exact ⟨o, U.keep b o e ho q (by rw [c.outer]; exact hf)⟩
        | some u =>
          have z := U.sh b u q
          rcases c.sh.kd b u q with p | ⟨y, rfl⟩ | ⟨C, d, fs, rfl⟩
          · exact plain_ex p z
          · exact z
          · obtain ⟨_, _, _, e, _⟩ := z; exact ⟨_, e⟩
  cases rows with
  | nil =>
    have go := al _ S1
    rw [c.P, c.w, hA] at go
    refine next_gen hh (I.ok.mod.nolimit.keeps fun b o e => (I.bs b o e).1) hroom G.gen hgs go (fun v gd l k c p fs s1 _ z => by cases z.1) fun r s1 z => ?_
    obtain ⟨z1, U⟩ := z
    cases z1
    refine ⟨rfl, fun h' e kp st => ?_⟩
    have os : s1.os = s.os := U.os
    have gens1 : s1.gens = (s.setGen g .running).gens := U.gens
    have I1 : Inv X pins σ H { s1.setGen g .finished with heap := s1.heap } := I.call' (ch := own) os (unG s1 s.heap.objs.size H U (fun _ _ e => e) (fun _ _ => rfl) (.inr (by
      cases q : s.heap.get? s.heap.objs.size with
      | none => rfl
      | some o => exact absurd (Heap.lt_size q) (Nat.lt_irrefl _)))) (hokG s1 U) (allBare_setGen (by rw [gens1]; exact bare1) rfl) fch
    exact he rfl _ e (I1.kept (t' := s1.toks) kp) (fun b o e n hf ho => kp b o (keepG s1 U b o e n hf ho)) st
  | cons r rs =>
    have go := al _ S1
    rw [c.P, c.w, hA] at go
    refine next_gen hh (I.ok.mod.nolimit.keeps fun b o e => (I.bs b o e).1) hroom G.gen hgs go (fun v gd l kk cd p fs s1 hq z => ?_) fun r s1 z => ?_
    · obtain ⟨l', k', c', p', fs', a, own2, z1, z2, U, ra, na, ia, nao, oo, al2⟩ := z
      cases z1
      have os : s1.os = s.os := U.os
      have gens1 : s1.gens = (s.setGen g .running).gens := U.gens
      have glt : g < s.gens.size := by
        rcases Nat.lt_or_ge g s.gens.size with h' | h'
        · exact h'
        · rw [Array.getElem?_eq_none h'] at hgs; cases hgs
      have ha0 : H a = none := by
        rcases ia with z | z
        · exact (G.ow.fp a z).1
        · exact (fpOk_new I (Nat.le_trans c.n0 na) z).1
      have up : ∀ b u, H b = some u → upd H a (.tup r) b = some u := fun b u e => by rw [upd_ne fun z => by subst z; rw [ha0] at e; cases e]; exact e
      have unU : ∀ b, b ≠ a → upd H a (.tup r) b = H b := fun b z => upd_ne z
      have hok1 : HOk X.prog X.w (upd H a (.tup r)) s1.heap := fun b u e => by
        by_cases z : b = a
        · subst z
          rw [upd_same] at e
          cases e
          obtain ⟨l1, its, rv, ht⟩ := ra
          exact ⟨l1, its, rv, ht⟩
        · rw [upd_ne z] at e
          exact (hokG s1 U b u e).stay (fun _ _ _ q => q) (fun c q => up c _ q) fun c xs q => up c _ q
      have I1 : Inv X pins σ (upd H a (.tup r)) (s1.setGen g (End.susp (.ref a) false l kk cd p fs).genState) := I.call' (ch := own) os (unG s1 a _ U up unU ia) hok1 (allBare_setGen (by rw [gens1]; exact bare1) (End.bare_of_quiet z2)) fch
      have ne_i : i ≠ a := fun z => by
        subst z
        obtain ⟨o, _, _, e, _⟩ := G.gen
        rcases ia with z | z
        · exact G.iown z
        · have z : s.heap.get? i = none := z
          rw [e] at z; cases z
      have fpU : ∀ b, b ≠ a → FpOk X pins H b → FpOk X pins (upd H a (.tup r)) b := fun b z f => ⟨by rw [upd_ne z]; exact f.1, f.2⟩
      refine hr r rs a own2 _ rfl I1 ⟨?_, ⟨_, setGen_at (by rw [gens1, setGen_sz]; exact glt), al2.mono ?_⟩, ⟨fun b hb => ?_, fun b hb => (oo b hb).2.2⟩, fpU i ne_i G.fi, fun z => ?_⟩ ha0 (Nat.le_trans c.n0 na) (fun b o e n hf ho => ⟨keepG s1 U b o e n hf ho, fun z => ?_, fun z => ?_⟩) fun g' hg' => ?_
      · obtain ⟨o, n, q, e1, e2⟩ := G.gen
        exact ⟨o, n, q, keepG s1 U i o e1 G.fi.1 (frs_stack I G.fi.2.2.1 G.fi.2.1) G.iown, e2⟩
      · exact ⟨rfl, I1.bare, fun _ _ _ e => e, fun b o e => (I1.bs b o (by rw [← c.base]; exact e)).1, by rw [c.base, c.outer]; exact I1.stack, U.sh⟩
      · obtain ⟨o1, o2, o3⟩ := oo b hb
        refine fpU b (fun z => nao (by rw [← z]; exact hb)) ?_
        rcases o2 with z | z
        · exact G.ow.fp b z
        · exact fpOk_new I (Nat.le_trans c.n0 o1) z
      · obtain ⟨o1, o2, o3⟩ := oo i z
        obtain ⟨o, _, _, e, _⟩ := G.gen
        rcases o2 with z | z
        · exact G.iown z
        · have z : s.heap.get? i = none := z
          rw [e] at z; cases z
      · subst z
        rcases ia with z | z
        · exact ho z
        · have z : s.heap.get? b = none := z
          rw [e] at z; cases z
      · obtain ⟨o1, o2, o3⟩ := oo b z
        rcases o2 with z | z
        · exact ho z
        · have z : s.heap.get? b = none := z
          rw [e] at z; cases z
      · show (s1.gens.setIfInBounds g _)[g']? = _
        rw [Array.getElem?_setIfInBounds_ne (Ne.symm hg'), gens1]
        show (s.gens.setIfInBounds g _)[g']? = _
        rw [Array.getElem?_setIfInBounds_ne (Ne.symm hg')]
    · obtain ⟨l', k', c', p', fs', a, own2, z1, _⟩ := z
      cases z1
end
end KN
/-! zip over two sources: a range, generators. -/
namespace KN
open PySem PySem.Spec PyProof.Rows L2
/-- what an iterator is to zip -/
structure Src (X : Cx) (A : Around) (Sh : Hp) (it : Addr) (ι : Type) where
  R : ι → List (Addr × Obj) → Hp → Shared → Prop
  sup : ι → List Addr
  gs : List Nat
  yld : ι → Hp → V → Hp → ι → Prop
  over : ι → Prop
  fok : ∀ {x : ι} {pins : List (Addr × Obj)} {H : Hp} {s : Shared}, R x pins H s → FOk X pins (sup x) H s
  mono : ∀ {x : ι} {pins pins' : List (Addr × Obj)} {σ σ' : St} {H H' : Hp} {s s' : Shared}, Inv X pins σ H s → Inv X pins' σ' H' s' → Same Sh H' → R x pins H s → (∀ b o, b ∈ sup x → s.heap.get? b = some o → s'.heap.get? b = some o) → (∀ b ∈ sup x, FpOk X pins' H' b) →
    (∀ g ∈ gs, s'.gens[g]? = s.gens[g]?) → R x pins' H' s'
  item : ∀ {x : ι} {pins : List (Addr × Obj)} {σ : St} {H : Hp} {s : Shared} {Q E : Value → Shared → Prop}, Inv X pins σ H s → Same Sh H → R x pins H s → ¬ over x →
    (∀ u v H' x' s', yld x H v H' x' → Inv X pins σ H' s' → RelV v u → R x' pins H' s' → Same H H' →
      (∀ b o, s.heap.get? b = some o → H b = none → b ∉ frs X.stack → b ∉ sup x → s'.heap.get? b = some o ∧ H' b = none ∧ b ∉ sup x') → (∀ g, g ∉ gs → s'.gens[g]? = s.gens[g]?) → Q u s') →
    wpAny (model X.prog X.w) A (Builtin.SmallTypes.nextOf (.ref it)) Q E s
  last : ∀ {x : ι} {pins : List (Addr × Obj)} {σ : St} {H : Hp} {s : Shared} {Q E : Value → Shared → Prop}, Inv X pins σ H s → Same Sh H → R x pins H s → over x →
    (∀ s' e, Inv X pins σ H s' → (∀ b o, s.heap.get? b = some o → H b = none → b ∉ frs X.stack → b ∉ sup x → s'.heap.get? b = some o) → IsStop s'.heap e → E (.ref e) s') →
    wpAny (model X.prog X.w) A (Builtin.SmallTypes.nextOf (.ref it)) Q E s
section
variable {X : Cx} {A : Around} {Sh : Hp} {it : Addr} {pins : List (Addr × Obj)} {σ σ' : St} {H H' : Hp} {s s' : Shared}
/-- a generator -/
def srcGen {cf : Cfg} (hS : cf.Sh = Sh) (g : Nat) (it : Addr) (c : CfX X cf) (hA : cf.A = A.in1) (hh : A.handled = none) (hroom : A.depth < recursionLimit) (hx : X.ex = []) : Src X A Sh it (List (List V) × List Addr) where
  R := fun x pins H s => GenS X pins H cf g it x.1 x.2 s
  sup := fun x => it :: x.2
  gs := [g]
  yld := fun x H v H' x' => ∃ r a, x.1 = r :: x'.1 ∧ v = .ref a ∧ H a = none ∧ X.s_0.heap.objs.size ≤ a ∧ H' = upd H a (.tup r)
  over := fun x => x.1 = []
  fok := fun {x pins H s} r => ⟨fun b hb => (List.mem_cons.mp hb).elim (fun z => z ▸ r.fi) fun z => r.ow.fp b z, fun b hb => (List.mem_cons.mp hb).elim (fun z => by
    obtain ⟨o, _, _, e, _⟩ := r.gen
    exact ⟨o, z ▸ e⟩) fun z => r.ow.ex b z⟩
  mono := fun I I' k r kp fp hg => r.mono c I I' (by rw [hS]; exact k) (fun b o hb e => kp b o hb e) fp (hg g (by simp))
  item := fun {x pins σ H s Q E} I k r ho hQ => by
    refine pull c hA hh hroom hx I (by rw [hS]; exact k) r (fun r' rs a own' s' e1 I' G' ha0 hlo fr gr => ?_) (fun z => absurd z ho)
    refine hQ (.ref a) (.ref a) _ (rs, own') s' ⟨r', a, e1, rfl, ha0, hlo, rfl⟩ I' rfl G' (fun b u e => by rw [upd_ne fun z => by subst z; rw [ha0] at e; cases e]; exact e) (fun b o e n hf hb => ?_) fun g' hg' => gr g' fun z => hg' (by simp [z])
    obtain ⟨q1, q2, q3⟩ := fr b o e n hf fun z => hb (List.mem_cons_of_mem _ z)
    exact ⟨q1, by rw [upd_ne q2]; exact n, fun z => (List.mem_cons.mp z).elim (fun z => hb (by rw [z]; exact List.mem_cons_self)) q3⟩
  last := fun {x pins σ H s Q E} I k r ho hE => by
    refine pull c hA hh hroom hx I (by rw [hS]; exact k) r (fun r' rs a own' s' e1 => by rw [ho] at e1; cases e1) fun _ s' e I' fr st => ?_
    exact hE s' e I' (fun b o e n hf hb => fr b o e n hf fun z => hb (List.mem_cons_of_mem _ z)) st
theorem nextOf_range_item {prog : Program} {w : World} {E : Value → Shared → Prop} {x left step : Int} {Q : Value → Shared → Prop} (hit : IsRangeIter s.heap it x left step) (hleft : 0 < left)
    (hQ : ∀ h', IsRangeIter h' it (x + step) (left - 1) step → Heap.SameBut it s.heap h' → Q (.int x s.toks) { s with heap := h', toks := s.toks + 1 }) :
    wpAny (model prog w) A (Builtin.SmallTypes.nextOf (.ref it)) Q E s := by
  have hT : s.TypeIs (.ref it) "range_iterator" := ⟨_, hit, rfl⟩
  unfold Builtin.SmallTypes.nextOf
  refine wpAny_bind (wpAny_callSpecial?_slot (name := Str.ofString "__next__") hT F.slot_range_iterator_next
    (call_meets F.slot_range_iterator_next hT F.entry_range_iterator_next (F.args_range_iterator_next_1 _) (AutoRange.range_iterator___next___range_iterator_1 it x left step (by omega)) ⟨hit, ?_⟩))
  exact wpAny_pure (hQ _ (Heap.get?_update_self _ (Heap.get?_update_self _ hit rfl) rfl) ((Heap.SameBut.update ..).trans (Heap.SameBut.update ..)))
theorem nextOf_range_end {prog : Program} {w : World} {E : Value → Shared → Prop} {x left step : Int} {Q : Value → Shared → Prop} (hh : A.handled = none) (hit : IsRangeIter s.heap it x left step) (hleft : left ≤ 0)
    (hE : ∀ h' e, Heap.ExtBut it s.heap h' → (∃ o, h'.get? e = some o ∧ o.cls = .type "StopIteration") → E (.ref e) { s with heap := h' }) : wpAny (model prog w) A (Builtin.SmallTypes.nextOf (.ref it)) Q E s := by
  have hT : s.TypeIs (.ref it) "range_iterator" := ⟨_, hit, rfl⟩
  unfold Builtin.SmallTypes.nextOf
  refine wpAny_bind (wpAny_callSpecial?_slot (name := Str.ofString "__next__") hT F.slot_range_iterator_next
    (wpAny_call_entry F.slot_range_iterator_next hT F.entry_range_iterator_next ?_ (F.args_range_iterator_next_1 _)))
  show wpAny _ _ (field (.ref it) 0 >>= _) _ _ s
  refine wpAny_bind (wpAny_field hit rfl (x := rawInt x) rfl ?_)
  show wpAny _ _ (field (.ref it) 1 >>= _) _ _ s
  refine wpAny_bind (wpAny_field hit rfl (x := rawInt left) rfl ?_)
  show wpAny _ _ (field (.ref it) 2 >>= _) _ _ s
  refine wpAny_bind (wpAny_field hit rfl (x := rawInt step) rfl ?_)
  show wpAny _ _ (if left ≤ 0 then _ else _) _ _ s
  rw [if_pos hleft]
  refine wpAny_bind (wpAny_rule ?_)
  refine wpAny_bind ?_
  show wpAny _ _ (newExc (.type "StopIteration") [] >>= _) _ _ _
  refine wpAny_bind ?_
  simp only [newExc, newTuple]
  refine wpAny_bind (wpAny_newObj_type ?_ (by size_fits))
  refine wpAny_bind (m := firstArgMember _ _) (wpAny_of_eq (a := Value.none) (by first | rfl | (simp only [firstArgMember]; rfl)) ?_)
  refine wpAny_newObj_type ?_ (by size_fits)
  simp only [raiseNew]
  refine wpAny_bind (wpAny_handled ?_)
  first | rw [show A.in1.handled = none from hh] | rw [hh]
  refine wpAny_bind (wpAny_pure (wpAny_throw ?_))
  exact hE _ _ (((Heap.ExtBut.refl it s.heap).push _).push _) ⟨_, Heap.get?_push_size _ rfl, rfl⟩
/-- range(n)'s iterator -/
def srcRange (Sh : Hp) (it : Addr) (n : Nat) (hh : A.handled = none) : Src X A Sh it Nat where
  R := fun i pins H s => IsRangeIter s.heap it (i : Nat) ((n : Int) - (i : Nat)) 1 ∧ FpOk X pins H it
  sup := fun _ => [it]
  gs := []
  yld := fun i H v H' i' => v = .int (i : Nat) ∧ H' = H ∧ i' = i + 1
  over := fun i => n ≤ i
  fok := fun {x pins H s} r => ⟨fun b hb => by rw [List.mem_singleton.mp hb]; exact r.2, fun b hb => by rw [List.mem_singleton.mp hb]; exact ⟨_, r.1⟩⟩
  mono := fun I I' k r kp fp hg => ⟨kp _ _ (by simp) r.1, fp _ (by simp)⟩
  item := fun {x pins σ H s Q E} I k r ho hQ => by
    refine nextOf_range_item r.1 (by omega) fun h' hi sb => ?_
    have I1 : Inv X pins σ H { s with heap := h', toks := s.toks + 1 } := I.turned (fun b o hb e => (sb.2 b hb).trans e) r.2.1 r.2.2.1 r.2.2.2.2.1 r.2.2.2.2.2.1 r.2.2.2.2.2.2
    refine hQ _ (.int (x : Nat)) H (x + 1) _ ⟨rfl, rfl, rfl⟩ I1 ⟨_, rfl⟩ ⟨?_, r.2⟩ (Same.refl H) (fun b o e n _ hb => ⟨(sb.2 b fun z => hb (by simp [z])).trans e, n, hb⟩) fun _ _ => rfl
    have e1 : ((x + 1 : Nat) : Int) = (x : Int) + 1 := by push_cast; rfl
    have e2 : (n : Int) - ((x + 1 : Nat) : Int) = (n : Int) - (x : Int) - 1 := by push_cast; omega
    show IsRangeIter h' it _ _ _
    rw [e1]
    have e3 : (n : Int) - ((x : Int) + 1) = (n : Int) - (x : Int) - 1 := by omega
    rw [e3]
    exact hi
  last := fun {x pins σ H s Q E} I k r ho hE => by
    refine nextOf_range_end hh r.1 (by have : n ≤ x := ho; omega) fun h' e eb st => ?_
    exact hE _ e (I.turned (t' := s.toks) (fun b o hb e => eb b o hb e) r.2.1 r.2.2.1 r.2.2.2.2.1 r.2.2.2.2.2.1 r.2.2.2.2.2.2) (fun b o e n _ hb => eb b o (fun z => hb (by simp [z])) e) st
end
end KN
/-! zip's turn. -/
namespace KN
open PySem PySem.Spec PyProof.Rows L2
section
variable {X : Cx} {A : Around} {Sh : Hp} {i1 i2 : Addr} {ι κ : Type} {pins : List (Addr × Obj)} {σ σ' : St} {H H' : Hp} {s s' : Shared}
structure ZS (X : Cx) (pins : List (Addr × Obj)) (H : Hp) (S1 : Src X A Sh i1 ι) (S2 : Src X A Sh i2 κ) (z TI TO : Addr) (x1 : ι) (x2 : κ) (s : Shared) : Prop where
  hz : IsZip s.heap z TI TO .none
  hi : IsPair s.heap TI (.ref i1) (.ref i2)
  ho : ∃ a b, IsPair s.heap TO a b
  fp : ∀ b ∈ [z, TI, TO], FpOk X pins H b ∧ b ∉ S1.sup x1 ∧ b ∉ S2.sup x2
  n1 : TI ≠ z
  n2 : TO ≠ z
  n3 : TI ≠ TO
  r1 : S1.R x1 pins H s
  r2 : S2.R x2 pins H s
  dj : ∀ b ∈ S1.sup x1, b ∉ S2.sup x2
  dg : ∀ g ∈ S1.gs, g ∉ S2.gs
variable {S1 : Src X A Sh i1 ι} {S2 : Src X A Sh i2 κ} {z TI TO : Addr} {x1 : ι} {x2 : κ}
/-- all that must not be touched while the body runs -/
def zsF (S1 : Src X A Sh i1 ι) (S2 : Src X A Sh i2 κ) (z TI TO : Addr) (x1 : ι) (x2 : κ) : List Addr := [z, TI, TO] ++ (S1.sup x1 ++ S2.sup x2)
theorem ZS.fok (Z : ZS X pins H S1 S2 z TI TO x1 x2 s) : FOk X pins (zsF S1 S2 z TI TO x1 x2) H s := by
  have a := S1.fok Z.r1
  have b := S2.fok Z.r2
  refine ⟨fun c hc => ?_, fun c hc => ?_⟩
  · rcases List.mem_append.mp hc with h | h
    · exact (Z.fp c h).1
    · rcases List.mem_append.mp h with h | h
      · exact a.fp c h
      · exact b.fp c h
  · rcases List.mem_append.mp hc with h | h
    · obtain ⟨_, _, o⟩ := Z.ho
      have h : c = z ∨ c = TI ∨ c = TO := by simpa using h
      rcases h with rfl | rfl | rfl
      · exact ⟨_, Z.hz⟩
      · exact ⟨_, Z.hi⟩
      · exact ⟨_, o⟩
    · rcases List.mem_append.mp h with h | h
      · exact a.ex c h
      · exact b.ex c h
theorem ZS.mono {pins' : List (Addr × Obj)} (Z : ZS X pins H S1 S2 z TI TO x1 x2 s) (I : Inv X pins σ H s) (I' : Inv X pins' σ' H' s') (k : Same Sh H') (kp : ∀ b o, b ∈ zsF S1 S2 z TI TO x1 x2 → s.heap.get? b = some o → s'.heap.get? b = some o)
    (fp : ∀ b ∈ zsF S1 S2 z TI TO x1 x2, FpOk X pins' H' b) (hg : s'.gens = s.gens) : ZS X pins' H' S1 S2 z TI TO x1 x2 s' := by
  have m0 : ∀ {b}, b ∈ [z, TI, TO] → b ∈ zsF S1 S2 z TI TO x1 x2 := fun h => List.mem_append_left _ h
  have m1 : ∀ {b}, b ∈ S1.sup x1 → b ∈ zsF S1 S2 z TI TO x1 x2 := fun h => List.mem_append_right _ (List.mem_append_left _ h)
  have m2 : ∀ {b}, b ∈ S2.sup x2 → b ∈ zsF S1 S2 z TI TO x1 x2 := fun h => List.mem_append_right _ (List.mem_append_right _ h)
  obtain ⟨a, b, o⟩ := Z.ho
  exact ⟨kp z _ (m0 (by simp)) Z.hz, kp TI _ (m0 (by simp)) Z.hi, ⟨a, b, kp TO _ (m0 (by simp)) o⟩, fun b hb => ⟨fp b (m0 hb), (Z.fp b hb).2⟩, Z.n1, Z.n2, Z.n3,
    S1.mono I I' k Z.r1 (fun b o hb e => kp b o (m1 hb) e) (fun b hb => fp b (m1 hb)) fun g _ => by rw [hg], S2.mono I I' k Z.r2 (fun b o hb e => kp b o (m2 hb) e) (fun b hb => fp b (m2 hb)) fun g _ => by rw [hg], Z.dj, Z.dg⟩
theorem Src.off {it : Addr} {S : Src X A Sh it ι} {x : ι} {c : Addr} {h' : Heap} (I : Inv X pins σ H s) (I' : Inv X pins σ H { s with heap := h' }) (k : Same Sh H) (r : S.R x pins H s) (hc : c ∉ S.sup x) (hs : Heap.SameBut c s.heap h') : S.R x pins H { s with heap := h' } :=
  S.mono I I' k r (fun b o hb e => (hs.2 b fun z => hc (z ▸ hb)).trans e) (fun b hb => (S.fok r).fp b hb) fun _ _ => rfl
theorem Inv.off {c : Addr} {h' : Heap} (I : L2.Inv X pins σ H s) (f : FpOk X pins H c) (hs : Heap.SameBut c s.heap h') : L2.Inv X pins σ H { s with heap := h' } :=
  I.turned (t' := s.toks) (fun b o hb e => (hs.2 b hb).trans e) f.1 f.2.1 f.2.2.2.1 f.2.2.2.2.1 f.2.2.2.2.2
/-- the other stays while one is asked -/
theorem Src.other {it it' : Addr} {S : Src X A Sh it ι} {T : Src X A Sh it' κ} {x x' : ι} {y : κ} (I : Inv X pins σ H s) (I' : Inv X pins σ H' s') (k : Same Sh H') (rx : S.R x pins H s) (ry : T.R y pins H s) (dj : ∀ b ∈ T.sup y, b ∉ S.sup x) (dg : ∀ g ∈ T.gs, g ∉ S.gs)
    (fr : ∀ b o, s.heap.get? b = some o → H b = none → b ∉ frs X.stack → b ∉ S.sup x → s'.heap.get? b = some o ∧ H' b = none ∧ b ∉ S.sup x') (gr : ∀ g, g ∉ S.gs → s'.gens[g]? = s.gens[g]?) :
    T.R y pins H' s' ∧ ∀ b ∈ T.sup y, b ∉ S.sup x' := by
  have f := T.fok ry
  have one : ∀ b ∈ T.sup y, ∀ o, s.heap.get? b = some o → s'.heap.get? b = some o ∧ H' b = none ∧ b ∉ S.sup x' := fun b hb o e =>
    fr b o e (f.fp b hb).1 (frs_stack I (f.fp b hb).2.2.1 (f.fp b hb).2.1) (dj b hb)
  refine ⟨T.mono I I' k ry (fun b o hb e => (one b hb o e).1) (fun b hb => ?_) fun g hg => gr g (dg g hg), fun b hb => ?_⟩
  · obtain ⟨o, e⟩ := f.ex b hb
    exact ⟨(one b hb o e).2.1, (f.fp b hb).2⟩
  · obtain ⟨o, e⟩ := f.ex b hb
    exact (one b hb o e).2.2
theorem zs_item {Q : Value → Shared → Prop} {E : Value → Shared → Prop} (I : Inv X pins σ H s) (k : Same Sh H) (Z : ZS X pins H S1 S2 z TI TO x1 x2 s) (o1 : ¬ S1.over x1) (o2 : ¬ S2.over x2)
    (hQ : ∀ T v1 v2 H1 H2 x1' x2' s', S1.yld x1 H v1 H1 x1' → S2.yld x2 H1 v2 H2 x2' → H2 T = none → Same H H2 → Inv X pins σ (upd H2 T (.tup [v1, v2])) s' → IsZip s'.heap z TI TO (rawInt T) →
      (∀ h', IsZip h' z TI TO .none → Heap.SameBut z s'.heap h' → Inv X pins σ (upd H2 T (.tup [v1, v2])) { s' with heap := h' } → ZS X pins (upd H2 T (.tup [v1, v2])) S1 S2 z TI TO x1' x2' { s' with heap := h' }) → FpOk X pins (upd H2 T (.tup [v1, v2])) z → Q (.ref T) s') :
    wpAny (model X.prog X.w) A (Builtin.«zip.__next__» ⟨[.ref z], []⟩) (fun fin s' => ∃ v, fin = .done (.ret v) ∧ Q v s') E s := by
  have hz := Z.hz
  have hTI := Z.hi
  obtain ⟨a, b, hTO⟩ := Z.ho
  have fz := Z.fp z (by simp)
  have fI := Z.fp TI (by simp)
  have fO := Z.fp TO (by simp)
  show wpAny _ _ (field (.ref z) 2 >>= _) _ _ _
  refine wpAny_bind (wpAny_field hz rfl (x := .bool false) rfl ?_)
  show wpAny _ _ (field (.ref z) 3 >>= _) _ _ _
  refine wpAny_bind (wpAny_field hz rfl (x := .ref TI) rfl ?_)
  refine wpAny_bind (wpAny_seqItems hTI rfl ?_)
  show wpAny _ _ (Builtin.SmallTypes.ownedTupleIsFree (.ref z) >>= _) _ _ _
  refine wpAny_bind ?_
  unfold Builtin.SmallTypes.ownedTupleIsFree
  refine wpAny_bind (wpAny_field hz rfl (x := .none) rfl (wpAny_pure ?_))
  simp only [if_true]
  refine wpAny_bind (wpAny_rule ?_)
  refine wpAny_bind (wpAny_field hz rfl (x := .ref TO) rfl ?_)
  refine wpAny_bind (wpAny_setField_rec hz (by simp) fun h₁ hz₁ hs₁ => ?_)
  replace hz₁ : IsZip h₁ z TI TO .ellipsis := hz₁
  have I1 := Inv.off I fz.1 hs₁
  have r1a := Src.off I I1 k Z.r1 fz.2.1 hs₁
  have r2a := Src.off I I1 k Z.r2 fz.2.2 hs₁
  have hTO₁ : IsPair h₁ TO a b := hs₁.extBut _ _ Z.n2 hTO
  have hTI₁ : IsPair h₁ TI _ _ := hs₁.extBut _ _ Z.n1 hTI
  refine wpAny_bind ?_
  simp only [List.zipIdx_cons, List.zipIdx_nil, List.forIn_cons, List.forIn_nil]
  refine wpAny_bind (wpAny_bind (wpAny_onRaise ?_))
  show wpAny _ _ (Builtin.SmallTypes.nextOf (.ref i1) >>= _) _ _ _
  refine wpAny_bind (S1.item I1 k r1a o1 fun u1 v1 H1 x1' s2 y1 I2 ru1 r1b m1 fr1 gr1 => wpAny_pure ?_)
  have k1 : Same Sh H1 := k.trans m1
  have off1 : ∀ c o, c ∈ [z, TI, TO] → h₁.get? c = some o → s2.heap.get? c = some o ∧ H1 c = none ∧ c ∉ S1.sup x1' := fun c o hc e => by
    have f := Z.fp c hc
    exact fr1 c o e f.1.1 (frs_stack I1 f.1.2.2.1 f.1.2.1) f.2.1
  obtain ⟨r2b, dj1⟩ := Src.other I1 I2 k1 r1a r2a (fun b hb h1 => Z.dj b h1 hb) (fun g hg h1 => Z.dg g h1 hg) fr1 gr1
  obtain ⟨hz₂, nz₂, sz₂⟩ := off1 z _ (by simp) hz₁
  obtain ⟨hTO₂, nO₂, sO₂⟩ := off1 TO _ (by simp) hTO₁
  obtain ⟨hTI₂, nI₂, sI₂⟩ := off1 TI _ (by simp) hTI₁
  have fO2 : FpOk X pins H1 TO := ⟨nO₂, fO.1.2⟩
  have fz2 : FpOk X pins H1 z := ⟨nz₂, fz.1.2⟩
  have fI2 : FpOk X pins H1 TI := ⟨nI₂, fI.1.2⟩
  refine wpAny_bind (wpAny_seqItems hTO₂ rfl ?_)
  refine wpAny_bind (wpAny_updateSeq_pair hTO₂ fun h₃ hTO₃ hs₃ => ?_)
  replace hTO₃ : IsPair h₃ TO u1 b := hTO₃
  have I3 := Inv.off I2 fO2 hs₃
  have r1c := Src.off I2 I3 k1 r1b sO₂ hs₃
  have r2c := Src.off I2 I3 k1 r2b fO.2.2 hs₃
  have hz₃ : IsZip h₃ z TI TO .ellipsis := hs₃.extBut _ _ Z.n2.symm hz₂
  have hTI₃ : IsPair h₃ TI _ _ := hs₃.extBut _ _ Z.n3 hTI₂
  refine wpAny_bind (wpAny_letGo (wpAny_pure ?_))
  refine wpAny_bind (wpAny_bind (wpAny_onRaise ?_))
  show wpAny _ _ (Builtin.SmallTypes.nextOf (.ref i2) >>= _) _ _ _
  refine wpAny_bind (S2.item I3 k1 r2c o2 fun u2 v2 H2 x2' s4 y2 I4 ru2 r2d m2 fr2 gr2 => wpAny_pure ?_)
  have k2 : Same Sh H2 := k1.trans m2
  obtain ⟨r1d, dj2⟩ := Src.other I3 I4 k2 r2c r1c (fun b h1 hb => dj1 b hb h1) Z.dg fr2 gr2
  have f3 : ∀ c ∈ [z, TI, TO], FpOk X pins H1 c ∧ c ∉ S2.sup x2 := fun c hc => by
    have h : c = z ∨ c = TI ∨ c = TO := by simpa using hc
    rcases h with rfl | rfl | rfl
    · exact ⟨fz2, fz.2.2⟩
    · exact ⟨fI2, fI.2.2⟩
    · exact ⟨fO2, fO.2.2⟩
  have off2 : ∀ c o, c ∈ [z, TI, TO] → h₃.get? c = some o → s4.heap.get? c = some o ∧ H2 c = none ∧ c ∉ S2.sup x2' := fun c o hc e => by
    have f := f3 c hc
    exact fr2 c o e f.1.1 (frs_stack I3 f.1.2.2.1 f.1.2.1) f.2
  obtain ⟨hz₄, nz₄, sz₄⟩ := off2 z _ (by simp) hz₃
  obtain ⟨hTO₄, nO₄, sO₄⟩ := off2 TO _ (by simp) hTO₃
  obtain ⟨hTI₄, nI₄, sI₄⟩ := off2 TI _ (by simp) hTI₃
  have fO4 : FpOk X pins H2 TO := ⟨nO₄, fO.1.2⟩
  have fz4 : FpOk X pins H2 z := ⟨nz₄, fz.1.2⟩
  have fI4 : FpOk X pins H2 TI := ⟨nI₄, fI.1.2⟩
  refine wpAny_bind (wpAny_seqItems hTO₄ rfl ?_)
  refine wpAny_bind (wpAny_updateSeq_pair hTO₄ fun h₅ hTO₅ hs₅ => ?_)
  replace hTO₅ : IsPair h₅ TO u1 u2 := hTO₅
  have I5 := Inv.off I4 fO4 hs₅
  have r1e := Src.off I4 I5 k2 r1d sO₂ hs₅
  have r2e := Src.off I4 I5 k2 r2d sO₄ hs₅
  have hz₅ : IsZip h₅ z TI TO .ellipsis := hs₅.extBut _ _ Z.n2.symm hz₄
  have hTI₅ : IsPair h₅ TI _ _ := hs₅.extBut _ _ Z.n3 hTI₄
  refine wpAny_bind (wpAny_letGo (wpAny_pure (wpAny_pure ?_)))
  refine wpAny_bind (wpAny_seqItems hTO₅ rfl ?_)
  refine wpAny_bind (wpAny_newTuple ?_)
  show wpAny _ _ (Builtin.SmallTypes.ownedTupleHandOut (.ref z) (.ref h₅.objs.size) >>= _) _ _ _
  have hzl : z < h₅.objs.size := Heap.lt_size hz₅
  have hT₆ : (h₅.push { cls := .type "tuple", data := .seq #[u1, u2] }).get? h₅.objs.size = some { cls := .type "tuple", data := .seq #[u1, u2] } := Heap.get?_push_size _ rfl
  have new : ObjOk X.prog X.w (upd H2 h₅.objs.size (.tup [v1, v2])) (h₅.push { cls := .type "tuple", data := .seq #[u1, u2] }) h₅.objs.size (.tup [v1, v2]) :=
    ⟨by show 2 ≤ sizeLine; decide, [u1, u2], .cons ru1 (.cons ru2 .nil), ⟨_, hT₆, rfl, _, rfl⟩⟩
  have kpP : ∀ c o, h₅.get? c = some o → (h₅.push ({ cls := .type "tuple", data := .seq #[u1, u2] } : Obj)).get? c = some o := fun c o e => Heap.get?_push_of_some _ e
  have I6 : L2.Inv X pins σ (upd H2 h₅.objs.size (.tup [v1, v2])) { s4 with heap := h₅.push { cls := .type "tuple", data := .seq #[u1, u2] } } := I5.laid (t' := s4.toks) kpP (Nat.le_refl _) new
  have hTn : H2 h₅.objs.size = none := I5.hok.fresh (Nat.le_refl _)
  have m3 : Same H2 (upd H2 h₅.objs.size (.tup [v1, v2])) := fun b u e => by rw [upd_ne fun z => by subst z; rw [hTn] at e; cases e]; exact e
  have k3 : Same Sh (upd H2 h₅.objs.size (.tup [v1, v2])) := k2.trans m3
  have fpU : ∀ {c o}, h₅.get? c = some o → FpOk X pins H2 c → FpOk X pins (upd H2 h₅.objs.size (.tup [v1, v2])) c := fun {c o} e f => ⟨by rw [upd_ne (Nat.ne_of_lt (Heap.lt_size e))]; exact f.1, f.2⟩
  have r1f := S1.mono I5 I6 k3 r1e (fun c o _ e => kpP c o e) (fun c hc => by
    obtain ⟨o, e⟩ := (S1.fok r1e).ex c hc
    exact fpU e ((S1.fok r1e).fp c hc)) fun _ _ => rfl
  have r2f := S2.mono I5 I6 k3 r2e (fun c o _ e => kpP c o e) (fun c hc => by
    obtain ⟨o, e⟩ := (S2.fok r2e).ex c hc
    exact fpU e ((S2.fok r2e).fp c hc)) fun _ _ => rfl
  refine wpAny_bind ?_
  unfold Builtin.SmallTypes.ownedTupleHandOut
  have hz₆ : IsZip (h₅.push { cls := .type "tuple", data := .seq #[u1, u2] }) z TI TO .ellipsis := kpP _ _ hz₅
  have hTI₆ : IsPair (h₅.push { cls := .type "tuple", data := .seq #[u1, u2] }) TI _ _ := kpP _ _ hTI₅
  have hTO₆ : IsPair (h₅.push { cls := .type "tuple", data := .seq #[u1, u2] }) TO u1 u2 := kpP _ _ hTO₅
  have fz6 : FpOk X pins (upd H2 h₅.objs.size (.tup [v1, v2])) z := fpU hz₅ fz4
  have fI6 : FpOk X pins (upd H2 h₅.objs.size (.tup [v1, v2])) TI := fpU hTI₅ fI4
  have fO6 : FpOk X pins (upd H2 h₅.objs.size (.tup [v1, v2])) TO := fpU hTO₅ fO4
  refine wpAny_bind (wpAny_setField_rec hz₆ (by simp) fun h₇ hz₇ hs₇ => ?_)
  replace hz₇ : IsZip h₇ z TI TO (rawInt h₅.objs.size) := hz₇
  refine wpAny_setField_rec hz₇ (by simp) fun h₈ hz₈ hs₈ => ?_
  replace hz₈ : IsZip h₈ z TI TO (rawInt h₅.objs.size) := hz₈
  have hs₉ : Heap.SameBut z (h₅.push ({ cls := .type "tuple", data := .seq #[u1, u2] } : Obj)) h₈ := hs₇.trans hs₈
  have I8 := Inv.off I6 fz6 hs₉
  have r1g := Src.off I6 I8 k3 r1f sz₂ hs₉
  have r2g := Src.off I6 I8 k3 r2f sz₄ hs₉
  refine wpAny_pure ⟨_, rfl, ?_⟩
  refine hQ h₅.objs.size v1 v2 H1 H2 x1' x2' _ y1 y2 hTn (m1.trans m2) I8 hz₈ (fun h' hz' hs' I9 => ?_) fz6
  refine ⟨hz', hs'.extBut _ _ Z.n1 (hs₉.extBut _ _ Z.n1 hTI₆), ⟨_, _, hs'.extBut _ _ Z.n2 (hs₉.extBut _ _ Z.n2 hTO₆)⟩, fun c hc => ?_, Z.n1, Z.n2, Z.n3, Src.off I8 I9 k3 r1g sz₂ hs', Src.off I8 I9 k3 r2g sz₄ hs', fun c h1 h2 => dj2 c h1 h2, Z.dg⟩
  have h : c = z ∨ c = TI ∨ c = TO := by simpa using hc
  rcases h with rfl | rfl | rfl
  · exact ⟨fz6, sz₂, sz₄⟩
  · exact ⟨fI6, sI₂, sI₄⟩
  · exact ⟨fO6, sO₂, sO₄⟩
theorem zs_end {Q : PySem.Fin → Shared → Prop} {E : Value → Shared → Prop} (I : Inv X pins σ H s) (k : Same Sh H) (Z : ZS X pins H S1 S2 z TI TO x1 x2 s) (o : S1.over x1 ∨ S2.over x2)
    (hE : ∀ e H' s', Same H H' → Inv X pins σ H' s' → IsStop s'.heap e → E (.ref e) s') :
    wpAny (model X.prog X.w) A (Builtin.«zip.__next__» ⟨[.ref z], []⟩) Q E s := by
  have hz := Z.hz
  have hTI := Z.hi
  obtain ⟨a, b, hTO⟩ := Z.ho
  have fz := Z.fp z (by simp)
  have fI := Z.fp TI (by simp)
  have fO := Z.fp TO (by simp)
  show wpAny _ _ (field (.ref z) 2 >>= _) _ _ _
  refine wpAny_bind (wpAny_field hz rfl (x := .bool false) rfl ?_)
  show wpAny _ _ (field (.ref z) 3 >>= _) _ _ _
  refine wpAny_bind (wpAny_field hz rfl (x := .ref TI) rfl ?_)
  refine wpAny_bind (wpAny_seqItems hTI rfl ?_)
  show wpAny _ _ (Builtin.SmallTypes.ownedTupleIsFree (.ref z) >>= _) _ _ _
  refine wpAny_bind ?_
  unfold Builtin.SmallTypes.ownedTupleIsFree
  refine wpAny_bind (wpAny_field hz rfl (x := .none) rfl (wpAny_pure ?_))
  simp only [if_true]
  refine wpAny_bind (wpAny_rule ?_)
  refine wpAny_bind (wpAny_field hz rfl (x := .ref TO) rfl ?_)
  refine wpAny_bind (wpAny_setField_rec hz (by simp) fun h₁ hz₁ hs₁ => ?_)
  replace hz₁ : IsZip h₁ z TI TO .ellipsis := hz₁
  have I1 := Inv.off I fz.1 hs₁
  have r1a := Src.off I I1 k Z.r1 fz.2.1 hs₁
  have r2a := Src.off I I1 k Z.r2 fz.2.2 hs₁
  have hTO₁ : IsPair h₁ TO a b := hs₁.extBut _ _ Z.n2 hTO
  refine wpAny_bind ?_
  simp only [List.zipIdx_cons, List.zipIdx_nil, List.forIn_cons, List.forIn_nil]
  refine wpAny_bind (wpAny_bind (wpAny_onRaise ?_))
  show wpAny _ _ (Builtin.SmallTypes.nextOf (.ref i1) >>= _) _ _ _
  have fin : ∀ (s2 : Shared) (H1 : Hp) (e : Addr), Inv X pins σ H1 s2 → Same H H1 → IsZip s2.heap z TI TO .ellipsis → FpOk X pins H1 z → IsStop s2.heap e → ∀ h', Heap.SameBut z s2.heap h' → E (.ref e) { s2 with heap := h' } := fun s2 H1 e I2 m hz2 f2 st h' hs => by
    refine hE e H1 _ m (Inv.off I2 f2 hs) ?_
    obtain ⟨o, ho, hc⟩ := st
    have hez : e ≠ z := fun x => by subst x; rw [hz2] at ho; cases ho; simp at hc
    exact ⟨o, hs.extBut _ _ hez ho, hc⟩
  by_cases o1 : S1.over x1
  · refine wpAny_bind (S1.last I1 k r1a o1 fun s2 e I2 fr st => ?_)
    have hz₂ : IsZip s2.heap z TI TO .ellipsis := fr z _ hz₁ fz.1.1 (frs_stack I1 fz.1.2.2.1 fz.1.2.1) fz.2.1
    exact wpAny_setField_rec hz₂ (by simp) fun h₃ _ hs₃ => fin s2 H e I2 (Same.refl H) hz₂ fz.1 st h₃ hs₃
  · have o2 : S2.over x2 := o.resolve_left o1
    refine wpAny_bind (S1.item I1 k r1a o1 fun u1 v1 H1 x1' s2 y1 I2 ru1 r1b m1 fr1 gr1 => wpAny_pure ?_)
    have k1 : Same Sh H1 := k.trans m1
    have off1 : ∀ c o, c ∈ [z, TI, TO] → h₁.get? c = some o → s2.heap.get? c = some o ∧ H1 c = none ∧ c ∉ S1.sup x1' := fun c o hc e => by
      have f := Z.fp c hc
      exact fr1 c o e f.1.1 (frs_stack I1 f.1.2.2.1 f.1.2.1) f.2.1
    obtain ⟨r2b, dj1⟩ := Src.other I1 I2 k1 r1a r2a (fun b hb h1 => Z.dj b h1 hb) (fun g hg h1 => Z.dg g h1 hg) fr1 gr1
    obtain ⟨hz₂, nz₂, sz₂⟩ := off1 z _ (by simp) hz₁
    obtain ⟨hTO₂, nO₂, sO₂⟩ := off1 TO _ (by simp) hTO₁
    have fO2 : FpOk X pins H1 TO := ⟨nO₂, fO.1.2⟩
    have fz2 : FpOk X pins H1 z := ⟨nz₂, fz.1.2⟩
    refine wpAny_bind (wpAny_seqItems hTO₂ rfl ?_)
    refine wpAny_bind (wpAny_updateSeq_pair hTO₂ fun h₃ hTO₃ hs₃ => ?_)
    have I3 := Inv.off I2 fO2 hs₃
    have r2c := Src.off I2 I3 k1 r2b fO.2.2 hs₃
    have hz₃ : IsZip h₃ z TI TO .ellipsis := hs₃.extBut _ _ Z.n2.symm hz₂
    refine wpAny_bind (wpAny_letGo (wpAny_pure ?_))
    refine wpAny_bind (wpAny_bind (wpAny_onRaise ?_))
    show wpAny _ _ (Builtin.SmallTypes.nextOf (.ref i2) >>= _) _ _ _
    refine wpAny_bind (S2.last I3 k1 r2c o2 fun s4 e I4 fr st => ?_)
    have hz₄ : IsZip s4.heap z TI TO .ellipsis := fr z _ hz₃ fz2.1 (frs_stack I3 fz2.2.2.1 fz2.2.1) fz.2.2
    exact wpAny_setField_rec hz₄ (by simp) fun h₅ _ hs₅ => fin s4 H1 e I4 m1 hz₄ fz2 st h₅ hs₅
end
end KN
/-! A for statement over zip. -/
namespace KN
open PySem PySem.Spec PyProof.Rows L2
section
variable {X : Cx} {A : Around} {Sh : Hp} {i1 i2 : Addr} {ι κ : Type} {pins : List (Addr × Obj)} {σ σ' : St} {H H' : Hp} {s s' : Shared}
theorem thaw_frz {F : List Addr} {H : Hp} {h : Heap} (f : ∀ b ∈ F, H b = none) : thawH F (frzH F h H) = H := by
  funext b
  by_cases hb : b ∈ F
  · rw [thawH_in hb, f b hb]
  · rw [thawH_out hb, frzH_out hb]
/-- the frozen stays -/
def FK (F : List Addr) (HF H : Hp) : Prop := ∀ b ∈ F, H b = HF b
/-- one turn's reading -/
def ZTurn {X : Cx} {A : Around} {Sh : Hp} {i1 i2 : Addr} {ι κ : Type} (S1 : Src X A Sh i1 ι) (S2 : Src X A Sh i2 κ) (W : Nat → ι → κ → St → Hp → Prop) (g : TG) (tb : TS) (D : Ends) : Prop :=
  ∀ m x1 x2 σ H, W m x1 x2 σ H → Same Sh H ∧ (((S1.over x1 ∨ S2.over x2) ∧ ∀ H', Same H H' → D.nx σ H') ∨ (¬ S1.over x1 ∧ ¬ S2.over x2 ∧ ∀ v1 v2 x1' x2' H1 H2 T, S1.yld x1 H v1 H1 x1' → S2.yld x2 H1 v2 H2 x2' → H2 T = none → Same H H2 →
    ∀ (F : List Addr) (HF : Hp), (∀ b ∈ F, ∃ φ, HF b = some (.ext φ)) → (∀ b, b ∉ F → HF b = upd H2 T (.tup [v1, v2]) b) → (∀ b ∈ F, upd H2 T (.tup [v1, v2]) b = none) →
      g (.ref T) σ HF fun σ2 H4 => tb { nx := fun σ' H' => FK F HF H' ∧ ∃ m', m' < m ∧ W m' x1' x2' σ' (thawH F H'), ct := fun σ' H' => FK F HF H' ∧ ∃ m', m' < m ∧ W m' x1' x2' σ' (thawH F H'), bk := fun σ' H' => FK F HF H' ∧ D.nx σ' (thawH F H'), rt := fun v H' => FK F HF H' ∧ D.rt v (thawH F H') } σ2 H4))
/-- zip's object has come -/
def ZPE (X : Cx) (pins : List (Addr × Obj)) (σ : St) (g : TG) (tb : TS) (D : Ends) (itv : Value) (s2 : Shared) : Prop :=
  ∃ (Sh : Hp) (ι κ : Type) (i1 i2 : Addr) (S1 : Src X X.A.in1 Sh i1 ι) (S2 : Src X X.A.in1 Sh i2 κ) (z TI TO : Addr) (x1 : ι) (x2 : κ) (H2 : Hp) (W : Nat → ι → κ → St → Hp → Prop) (m0 : Nat), itv = .ref z ∧ Inv X pins σ H2 s2 ∧ ZS X pins H2 S1 S2 z TI TO x1 x2 s2 ∧ W m0 x1 x2 σ H2 ∧ ZTurn S1 S2 W g tb D
theorem ps_forZip {elts : List Expr} {kk : Nat} {tpos pos : Pos} {iter : Expr} {body : List Stmt} {g : TG} {tb : TS} {t : TS} (hc : X.calm = true) (hx : X.ex = []) (hgg : ∀ s H, GG (rebC X s H) (.Tuple elts kk tpos) g) (hb : ∀ s H, GPs (rebC X s H) body tb)
    (hi : ∀ (pins : List (Addr × Obj)) (s : Shared) (σ : St) (H : Hp) (D : Ends), Inv X pins σ H s → t D σ H → wpAny (model X.prog X.w) X.A (eval iter X.env) (fun v s1 => wpAny (model X.prog X.w) X.A (pyIter v) (ZPE X pins σ g tb D) X.xe s1) X.xe s)
    (hs : ∀ x, foldedSetIterable iter X.env x = pure x := by intro _; rfl) : PS X (.For (.Tuple elts kk tpos) iter body [] pos) t := by
  constructor
  intro pins s σ H D I h
  refine wpAny_For (thn (hi pins s σ H D I h) fun v s1 h1 => thn h1 ?_) hs
  rintro itv s2 ⟨Sh, ι, κ, i1, i2, S1, S2, z, TI, TO, x1, x2, H2, W, m0, e, I2, Z2, w0, turn⟩
  subst e
  refine codeAny_forLoop_any (fun n s' => ∃ x1 x2 σ' H', Inv X pins σ' H' s' ∧ ZS X pins H' S1 S2 z TI TO x1 x2 s' ∧ W n x1 x2 σ' H') ?_ m0 ⟨x1, x2, σ, H2, I2, Z2, w0⟩
  rintro n s3 ⟨x1, x2, σ3, H3, I3, Z3, w3⟩
  have hT : s3.TypeIs (.ref z) "zip" := ⟨_, Z3.hz, rfl⟩
  obtain ⟨k3, c | ⟨o1, o2, step⟩⟩ := turn n x1 x2 σ3 H3 w3
  · refine anyE (Q := fun r s4 => r = none ∧ ∃ H', Inv X pins σ3 H' s4 ∧ D.nx σ3 H') ?_ ?_
    · unfold pyNext
      refine wpAny_bind (wpAny_attempt (wpAny_callSpecial?_slot (name := Str.ofString "__next__") hT F.slot_zip_next
        (wpAny_call_entry F.slot_zip_next hT F.entry_zip_next (zs_end I3 k3 Z3 c.1 fun e H' s' m I' st => ?_) (F.args_zip_next_1 _))))
      obtain ⟨o, ho, hc⟩ := st
      refine wpAny_bind (wpAny_isInstance (T := "StopIteration") (b := true) ⟨o, ho, hc⟩ isSubtype_stop ?_)
      exact wpAny_pure ⟨rfl, H', I', c.2 H' m⟩
    · rintro r s4 ⟨rfl, H', I', q⟩
      exact wpAny_execs_nil ⟨σ3, H', I', q⟩
  · refine anyE (Q := fun r s4 => ∃ T v1 v2 H1 H2 x1' x2', r = some (.ref T) ∧ S1.yld x1 H3 v1 H1 x1' ∧ S2.yld x2 H1 v2 H2 x2' ∧ H2 T = none ∧ Same H3 H2 ∧ Inv X pins σ3 (upd H2 T (.tup [v1, v2])) s4 ∧ IsZip s4.heap z TI TO (rawInt T) ∧
      (∀ h', IsZip h' z TI TO .none → Heap.SameBut z s4.heap h' → Inv X pins σ3 (upd H2 T (.tup [v1, v2])) { s4 with heap := h' } → ZS X pins (upd H2 T (.tup [v1, v2])) S1 S2 z TI TO x1' x2' { s4 with heap := h' }) ∧ FpOk X pins (upd H2 T (.tup [v1, v2])) z) ?_ ?_
    · unfold pyNext
      refine wpAny_bind (wpAny_attempt (wpAny_callSpecial?_slot (name := Str.ofString "__next__") hT F.slot_zip_next
        (wpAny_call_entry F.slot_zip_next hT F.entry_zip_next (zs_item I3 k3 Z3 o1 o2 fun T v1 v2 H1 H2 x1' x2' s' y1 y2 tn m I' hz' zz fz => wpAny_pure ?_) (F.args_zip_next_1 _))))
      exact ⟨T, v1, v2, H1, H2, x1', x2', rfl, y1, y2, tn, m, I', hz', zz, fz⟩
    · rintro r s4 ⟨T, v1, v2, H1, H2, x1', x2', rfl, y1, y2, tn, m, I4, hz4, zz, fz⟩
      refine anyE (Q := fun _ s5 => Inv X pins σ3 (upd H2 T (.tup [v1, v2])) s5 ∧ ZS X pins (upd H2 T (.tup [v1, v2])) S1 S2 z TI TO x1' x2' s5) ?_ ?_
      · refine wpAny_letOwnedTupleGo_zip hz4 fun h' hz' hs' => ?_
        have I5 := Inv.off I4 fz hs'
        exact ⟨I5, zz h' hz' hs' I5⟩
      · rintro _ s5 ⟨I5, Z5⟩
        have fk := Z5.fok
        have J5 := frz_in I5 hx fk
        have rd := step v1 v2 x1' x2' H1 H2 T y1 y2 tn m (zsF S1 S2 z TI TO x1' x2') (frzH (zsF S1 S2 z TI TO x1' x2') s5.heap (upd H2 T (.tup [v1, v2]))) (fun b hb => by
          obtain ⟨o, e⟩ := fk.ex b hb
          exact ⟨_, frzH_in hb e⟩) (fun b hb => frzH_out hb) fun b hb => (fk.fp b hb).1
        refine anyE (wpAny_mono ((hgg _ _).run s5.gens pins s5 σ3 _ (.ref T) (.ref T) _ J5 rfl rd) (fun _ _ q => q) fun _ _ z => False.elim z) ?_
        rintro _ s6 ⟨σ6, H6, J6, q6⟩
        refine anyE (wpAny_mono ((hb _ _).run s5.gens pins s6 σ6 H6 _ J6 q6) (fun _ _ q => q) fun _ _ z => False.elim z) fun f s7 q7 => ?_
        have back : ∀ {σ7 : St} {H7 : Hp}, JV (rebC X s5 (frzH (zsF S1 S2 z TI TO x1' x2') s5.heap (upd H2 T (.tup [v1, v2])))) s5.gens pins σ7 H7 s7 → FK (zsF S1 S2 z TI TO x1' x2') (frzH (zsF S1 S2 z TI TO x1' x2') s5.heap (upd H2 T (.tup [v1, v2]))) H7 →
            Inv X pins σ7 (thawH (zsF S1 S2 z TI TO x1' x2') H7) s7 ∧ (Same Sh (thawH (zsF S1 S2 z TI TO x1' x2') H7) → ZS X pins (thawH (zsF S1 S2 z TI TO x1' x2') H7) S1 S2 z TI TO x1' x2' s7) := fun {σ7 H7} J7 k7 => by
          obtain ⟨I7, g7, kp, f7⟩ := frz_out I5 hx fk J7 fun b o hb e => by rw [k7 b hb]; exact frzH_in hb e
          exact ⟨I7, fun k => Z5.mono I5 I7 k (fun b o hb e => kp b o hb e) f7.fp g7⟩
        have again : ∀ {σ7 : St} {H7 : Hp}, JV (rebC X s5 (frzH (zsF S1 S2 z TI TO x1' x2') s5.heap (upd H2 T (.tup [v1, v2])))) s5.gens pins σ7 H7 s7 → (FK (zsF S1 S2 z TI TO x1' x2') (frzH (zsF S1 S2 z TI TO x1' x2') s5.heap (upd H2 T (.tup [v1, v2]))) H7 ∧ ∃ m', m' < n ∧ W m' x1' x2' σ7 (thawH (zsF S1 S2 z TI TO x1' x2') H7)) →
            ∃ m, m < n ∧ ∃ x1 x2 σ' H', Inv X pins σ' H' s7 ∧ ZS X pins H' S1 S2 z TI TO x1 x2 s7 ∧ W m x1 x2 σ' H' := fun {σ7 H7} J7 ⟨k7, m', hm, w7⟩ => by
          obtain ⟨I7, zs⟩ := back J7 k7
          exact ⟨m', hm, x1', x2', σ7, _, I7, zs (turn m' x1' x2' σ7 _ w7).1, w7⟩
        cases f with
        | next => obtain ⟨σ7, H7, J7, n7⟩ := q7; exact again J7 n7
        | cont => obtain ⟨σ7, H7, J7, n7⟩ := q7; exact again J7 n7
        | brk => obtain ⟨σ7, H7, J7, k7, q7⟩ := q7; exact ⟨σ7, _, (back J7 k7).1, q7⟩
        | ret v => obtain ⟨x7, σ7, H7, J7, r7, k7, q7⟩ := q7; exact ⟨x7, σ7, _, (back J7 k7).1, r7, q7⟩
end
/-! ### zip is made -/
abbrev rgH1 (h : Heap) (n : Int) : Heap := h.push { cls := .type "range_iterator", data := .fields #[rawInt 0, rawInt (Builtin.Range.rangeSize 0 n 1), rawInt 1] }
abbrev zpH1 (h : Heap) (a b : Addr) : Heap := h.push { cls := .type "tuple", data := .seq #[.ref a, .ref b] }
abbrev zpH2 (h : Heap) (a b : Addr) : Heap := (zpH1 h a b).push { cls := .type "tuple", data := .seq #[.none, .none] }
abbrev zpH3 (h : Heap) (a b : Addr) : Heap := (zpH2 h a b).push { cls := .type "zip", data := .fields #[.none, .bool false, .bool false, .ref h.objs.size, .ref (zpH1 h a b).objs.size] }
theorem meets_zip_rg (r ga g : Addr) (n : Int) (t u v : Tok) (hsmall : Builtin.Range.small 0 n 1 = true) :
    Meets (Builtin.«zip.__new__» ⟨[.type "zip", .ref r, .ref ga], []⟩) (fun _ R s => IsRange s.heap r 0 n 1 t u v ∧ s.heap.IsGen ga g ∧
      R (.ok (.ret (.ref (zpH2 (rgH1 s.heap n) s.heap.objs.size ga).objs.size))) { s with heap := zpH3 (rgH1 s.heap n) s.heap.objs.size ga }) :=
  .of_wp fun prog w A R s h => by
    obtain ⟨hp, gs, d, tk, os⟩ := s; obtain ⟨hr, hg, h⟩ := h
    have hsub := sub_zip
    have hR : IsRange (Shared.heap ⟨hp, gs, d, tk, os⟩) r 0 n 1 t u v := hr
    have hG : Heap.IsGen (Shared.heap ⟨hp.push { cls := .type "range_iterator", data := .fields #[rawInt 0, rawInt (Builtin.Range.rangeSize 0 n 1), rawInt 1] }, gs, d, tk, os⟩) ga g := by
      obtain ⟨o, a, b, e, q⟩ := hg
      exact ⟨o, a, b, Heap.get?_push_of_some _ e, q⟩
    wp_walk using wpAny_pyIter_range hR hsmall, wpAny_pyIter_gen hG
    exact ⟨_, rfl, h⟩
theorem meets_zip_gg (a b g g' : Addr) :
    Meets (Builtin.«zip.__new__» ⟨[.type "zip", .ref a, .ref b], []⟩) (fun _ R s => s.heap.IsGen a g ∧ s.heap.IsGen b g' ∧
      R (.ok (.ret (.ref (zpH2 s.heap a b).objs.size))) { s with heap := zpH3 s.heap a b }) :=
  .of_wp fun prog w A R s h => by
    obtain ⟨hp, gs, d, tk, os⟩ := s; obtain ⟨ha, hb, h⟩ := h
    have hsub := sub_zip
    have hG1 : Heap.IsGen (Shared.heap ⟨hp, gs, d, tk, os⟩) a g := ha
    have hG2 : Heap.IsGen (Shared.heap ⟨hp, gs, d, tk, os⟩) b g' := hb
    wp_walk using wpAny_pyIter_gen hG1, wpAny_pyIter_gen hG2
    exact ⟨_, rfl, h⟩
section
variable {prog : Program} {w : World} {A : Around} {E : Value → Shared → Prop} {s : Shared}
theorem zp_is (h : Heap) (a b : Addr) : IsZip (zpH3 h a b) (h.objs.size + 2) h.objs.size (h.objs.size + 1) .none ∧ IsPair (zpH3 h a b) h.objs.size (.ref a) (.ref b) ∧ IsPair (zpH3 h a b) (h.objs.size + 1) .none .none ∧ (zpH2 h a b).objs.size = h.objs.size + 2 ∧ ∀ c o, h.get? c = some o → (zpH3 h a b).get? c = some o := by
  have z1 : (zpH1 h a b).objs.size = h.objs.size + 1 := Heap.size_push ..
  have z2 : (zpH2 h a b).objs.size = h.objs.size + 2 := by rw [Heap.size_push, z1]
  have g3 : (zpH3 h a b).get? (zpH2 h a b).objs.size = some _ := Heap.get?_push_size _ rfl
  have g2 : (zpH3 h a b).get? (zpH1 h a b).objs.size = some _ := Heap.get?_push_of_some _ (Heap.get?_push_size _ rfl)
  have g1 : (zpH3 h a b).get? h.objs.size = some _ := Heap.get?_push_of_some _ (Heap.get?_push_of_some _ (Heap.get?_push_size _ rfl))
  rw [z1] at g2
  rw [z2, z1] at g3
  exact ⟨g3, g1, g2, z2, fun c o e => Heap.get?_push_of_some _ (Heap.get?_push_of_some _ (Heap.get?_push_of_some _ e))⟩
theorem call_zip_gg {a b g g' : Addr} {Q : Value → Shared → Prop} (ha : s.heap.IsGen a g) (hb : s.heap.IsGen b g')
    (h : ∀ h', IsZip h' (s.heap.objs.size + 2) s.heap.objs.size (s.heap.objs.size + 1) .none → IsPair h' s.heap.objs.size (.ref a) (.ref b) → IsPair h' (s.heap.objs.size + 1) .none .none → (∀ c o, s.heap.get? c = some o → h'.get? c = some o) → Q (.ref (s.heap.objs.size + 2)) { s with heap := h' }) :
    wpAny (model prog w) A (call (.type "zip") [.ref a, .ref b]) Q E s := by
  refine callType_new F.called_zip (by decide) (F.typeCall_zip_2 _ _) (F.newCall_zip_2 _ _) (fun obj => F.args_object_init_3 obj _ _) F.entry_zip_new (meets_zip_gg a b g g') ⟨ha, hb, ?_⟩
  obtain ⟨g3, g1, g2, z2, kp⟩ := zp_is s.heap a b
  show _ ∧ _
  rw [z2]
  exact ⟨⟨_, g3, rfl⟩, h _ g3 g1 g2 kp⟩
theorem call_zip_rg {r ga g : Addr} {n : Int} {t u v : Tok} {Q : Value → Shared → Prop} (hsmall : Builtin.Range.small 0 n 1 = true) (ha : IsRange s.heap r 0 n 1 t u v) (hb : s.heap.IsGen ga g)
    (h : ∀ h', IsZip h' (s.heap.objs.size + 3) (s.heap.objs.size + 1) (s.heap.objs.size + 2) .none → IsPair h' (s.heap.objs.size + 1) (.ref s.heap.objs.size) (.ref ga) → IsPair h' (s.heap.objs.size + 2) .none .none → IsRangeIter h' s.heap.objs.size 0 (Builtin.Range.rangeSize 0 n 1) 1 →
      (∀ c o, s.heap.get? c = some o → h'.get? c = some o) → Q (.ref (s.heap.objs.size + 3)) { s with heap := h' }) :
    wpAny (model prog w) A (call (.type "zip") [.ref r, .ref ga]) Q E s := by
  refine callType_new F.called_zip (by decide) (F.typeCall_zip_2 _ _) (F.newCall_zip_2 _ _) (fun obj => F.args_object_init_3 obj _ _) F.entry_zip_new (meets_zip_rg r ga g n t u v hsmall) ⟨ha, hb, ?_⟩
  obtain ⟨g3, g1, g2, z2, kp⟩ := zp_is (rgH1 s.heap n) s.heap.objs.size ga
  have z1 : (rgH1 s.heap n).objs.size = s.heap.objs.size + 1 := Heap.size_push ..
  have gr : (zpH3 (rgH1 s.heap n) s.heap.objs.size ga).get? s.heap.objs.size = some _ := kp _ _ (Heap.get?_push_size _ rfl)
  rw [z1] at g1
  rw [z1] at g2
  rw [z1] at z2
  have g3' : IsZip (zpH3 (rgH1 s.heap n) s.heap.objs.size ga) (s.heap.objs.size + 3) (s.heap.objs.size + 1) (s.heap.objs.size + 2) .none := by
    have := g3
    rw [z1] at this
    exact this
  show _ ∧ _
  rw [z2]
  exact ⟨⟨_, g3', rfl⟩, h _ g3' g1 g2 gr fun c o e => kp c o (Heap.get?_push_of_some _ e)⟩
end
end KN
/-! What a generator shares with its maker; rows_of called from a frame. -/
namespace KN
open PySem PySem.Spec PyProof.Rows L2
def ShAt (Dom : Addr → Prop) (H : Hp) (b : Addr) (o : HO) : Prop := Plain o ∨ (∃ x C fs, o = .own x ∧ Dom x ∧ H x = some (.ins C b fs)) ∨ ∃ C dx fs, o = .ins C dx fs ∧ Dom dx ∧ H dx = some (.own b)
noncomputable def shOf (Dom : Addr → Prop) (H : Hp) : Hp := fun b => by
  classical
  exact if Dom b then match H b with
    | some o => if ShAt Dom H b o then some o else none
    | none => none
  else none
section
variable {Dom : Addr → Prop} {H : Hp} {b : Addr} {o : HO}
theorem shOf_iff : shOf Dom H b = some o ↔ Dom b ∧ H b = some o ∧ ShAt Dom H b o := by
  unfold shOf
  constructor
  · intro e
    split at e
    · rename_i d
      split at e
      · rename_i o' e'
        split at e
        · rename_i k
          cases e
          exact ⟨d, e', k⟩
        · cases e
      · cases e
    · cases e
  · rintro ⟨d, e, k⟩
    rw [if_pos d]
    simp only [e]
    rw [if_pos k]
theorem shOf_ok : ShOk (shOf Dom H) where
  kd := fun b o e => by
    obtain ⟨_, _, k⟩ := shOf_iff.mp e
    rcases k with k | ⟨x, C, fs, rfl, _⟩ | ⟨C, dx, fs, rfl, _⟩
    · exact .inl k
    · exact .inr (.inl ⟨x, rfl⟩)
    · exact .inr (.inr ⟨C, dx, fs, rfl⟩)
  cl := fun b x e => by
    obtain ⟨d, e1, k⟩ := shOf_iff.mp e
    rcases k with k | ⟨x', C, fs, q, dx, hx⟩ | ⟨C, dx, fs, q, _⟩
    · exact False.elim k
    · cases q
      exact ⟨_, shOf_iff.mpr ⟨dx, hx, .inr (.inr ⟨C, b, fs, rfl, d, e1⟩)⟩⟩
    · cases q
  dx := fun b C d' fs e => by
    obtain ⟨d, e1, k⟩ := shOf_iff.mp e
    rcases k with k | ⟨x', C, fs, q, _⟩ | ⟨C', dx, fs', q, dd, hd⟩
    · exact False.elim k
    · cases q
    · cases q
      exact shOf_iff.mpr ⟨dd, hd, .inr (.inl ⟨b, C, fs, rfl, d, e1⟩)⟩
theorem shOf_same : Same (shOf Dom H) H := fun b o e => (shOf_iff.mp e).2.1
theorem shOf_pl (d : Dom b) (e : H b = some o) (p : Plain o) : shOf Dom H b = some o := shOf_iff.mpr ⟨d, e, .inl p⟩
/-- a machine's addresses -/
def MDom (d : MD) (b : Addr) : Prop := b = d.m ∨ b = d.dm ∨ b = d.rl ∨ b ∈ d.ra ∨ b = d.lv ∨ (∃ q, valV d.lk (.inl q) = some (.ref b)) ∨ b = d.ms
def WDom (wt dw tb b : Addr) : Prop := b = wt ∨ b = dw ∨ b = tb
theorem machAt_sh {C : Addr} {d : MD} {q0 : Int} {st : List Step} {reach : List Int} (x : MachAt C H d q0 st reach) (h : ∀ b, MDom d b → Dom b) : MachAt C (shOf Dom H) d q0 st reach := by
  have d1 := h d.m (.inl rfl)
  have d2 := h d.dm (.inr (.inl rfl))
  exact ⟨shOf_iff.mpr ⟨d1, x.ins, .inr (.inr ⟨_, _, _, rfl, d2, x.own⟩)⟩, shOf_iff.mpr ⟨d2, x.own, .inr (.inl ⟨_, _, _, rfl, d1, x.ins⟩)⟩, x.f1, x.f2, x.f3, x.f4,
    shOf_pl (h _ (.inr (.inr (.inl rfl)))) x.rows trivial, x.rlen, fun i a e h1 h2 => shOf_pl (h _ (.inr (.inr (.inr (.inl (List.mem_of_getElem? h1)))))) (x.row i a e h1 h2) trivial,
    shOf_pl (h _ (.inr (.inr (.inr (.inr (.inl rfl)))))) x.lea trivial, x.l1, fun q hq => by
      obtain ⟨a, e1, e2⟩ := x.l2 q hq
      exact ⟨a, e1, shOf_pl (h _ (.inr (.inr (.inr (.inr (.inr (.inl ⟨q, e1⟩))))))) e2 trivial⟩, shOf_pl (h _ (.inr (.inr (.inr (.inr (.inr (.inr rfl))))))) x.met trivial⟩
theorem watchAt_sh {C wt dw tb : Addr} {T : List (Str × Str)} (x : WatchAt C H wt dw tb T) (h : ∀ b, WDom wt dw tb b → Dom b) : WatchAt C (shOf Dom H) wt dw tb T :=
  have d1 := h wt (.inl rfl)
  have d2 := h dw (.inr (.inl rfl))
  ⟨shOf_iff.mpr ⟨d1, x.ins, .inr (.inr ⟨_, _, _, rfl, d2, x.own⟩)⟩, shOf_iff.mpr ⟨d2, x.own, .inr (.inl ⟨_, _, _, rfl, d1, x.ins⟩)⟩, shOf_pl (h _ (.inr (.inr rfl))) x.tab trivial⟩
end
section
variable {P : Program} {w : World} {K : PySem.W.Frag} {mg : Str → Option Value} {base : Heap} {CM CW : Addr} {X : Cx} {pins : List (Addr × Obj)} {σ : St} {H : Hp} {s : Shared}
/-- rows_of as a frame has it -/
structure MadeX (X : Cx) (pins : List (Addr × Obj)) (σ : St) (H : Hp) (Sh : Hp) (rows : List (List V)) (s s' : Shared) (a g : Nat) (own : List Addr) (cf : Cfg) : Prop where
  iv : Inv X pins σ H s'
  gen : GenS X pins H cf g a rows own s'
  cx : CfX X cf
  sh : cf.Sh = Sh
  ar : cf.A = X.A.in1.in1
  g0 : g = s.gens.size
  gs : ∀ g', g' ≠ g → s'.gens[g']? = s.gens[g']?
  new : ∀ b ∈ a :: own, s.heap.objs.size ≤ b
  keep : ∀ b o, s.heap.get? b = some o → s'.heap.get? b = some o
theorem rows_made (T : TxG X.K X.mg CM CW) (C : CalR X.prog X.w X.K X.mg X.base CM CW) {f : Addr} {fd : FuncData} (F : Fun X.K "rows_of" "rows_of" sRows f fd) (hroom : Room 6 X.A) (hB : Binds X.K fd ["machine", "watch", "many"] [])
    {Dom : Addr → Prop} {us : List Value} {d : MD} {q0 : Int} {st : List Step} {reach : List Int} {wt dw tb : Addr} {tab : List (Str × Str)} {n : Nat}
    (I : Inv X pins σ H s) (hc : X.calm = true) (r : Vals [.ref d.m, .ref wt, .int n] us) (D : Dat CM CW d q0 st reach wt dw tb tab n) (M : MachAt CM H d q0 st reach) (W : WatchAt CW H wt dw tb tab) (hM : ∀ b, MDom d b → Dom b) (hW : ∀ b, WDom wt dw tb b → Dom b) {E : Value → Shared → Prop} :
    wpAny (model X.prog X.w) X.A (call (.ref f) us) (fun u s' => ∃ a g own cf, u = .ref a ∧ MadeX X pins σ H (shOf Dom H) ((frows st tab reach q0 n).map fun r => r.map V.str) s s' a g own cf) E s := by
  have hb1 := hB s us I.kIn (by rw [List.append_nil]; exact r.length.symm)
  rw [List.append_nil] at hb1
  refine wpAny_call (codeAny_mono (rows_call (Sh := shOf Dom H) T C F (by have := hroom.dp; omega) I.env0 hb1 r (fun b o e => ⟨shOf_same b o e, (shOf_ok (Dom := Dom) (H := H)).kd b o e⟩) D (machAt_sh M hM) (watchAt_sh W hW)) fun r s' hq => ?_)
  cases r with
  | error e => exact False.elim hq
  | ok fl =>
    cases fl with
    | ret u =>
      obtain ⟨a, c, own, rfl, m⟩ := hq
      have I' : Inv X pins σ H s' := I.call' (ch := []) m.os (Un.kept m.keep) (I.hok.kept m.keep) (by rw [m.gens]; exact I.bare.push rfl) fun b z => absurd z (by simp)
      have fp : ∀ b, s.heap.objs.size ≤ b → FpOk X pins H b := fun b hb => I.fpOk hb (I.hok.fresh hb)
      refine ⟨a, s.gens.size, own, cfR X.prog X.w X.base X.A.in1.in1 X.stack s (shOf Dom H), rfl, I', ⟨m.gen, ⟨_, ?_, m.alive X.A.in1.in1 hroom.in1.in1 I.ok.frames⟩, ⟨fun b hb => fp b (m.own0 b hb).1, fun b hb => (m.own0 b hb).2⟩, fp a m.a0, m.aown⟩, ⟨rfl, rfl, rfl, rfl, I.sz, shOf_ok⟩, rfl, rfl, rfl, fun g' hg' => ?_, fun b hb => ?_, m.keep⟩
      · rw [m.gens]; exact Array.getElem?_push_size
      · rw [m.gens, Array.getElem?_push, if_neg (fun z => hg' z)]
      · rcases List.mem_cons.mp hb with z | z
        · rw [z]; exact m.a0
        · exact (m.own0 b z).1
    | next => exact False.elim hq
    | brk => exact False.elim hq
    | cont => exact False.elim hq
end
end KN
/-! zip(range(n), rows_of(..)) and zip(rows_of(..), rows_of(..)) in a frame. -/
namespace KN
open PySem PySem.Spec PyProof.Rows L2
section
variable {CM CW : Addr} {X : Cx} {pins : List (Addr × Obj)} {σ : St} {H : Hp} {s : Shared} {p pos : Pos}
theorem ev_var {A : Around} {i : Nat} {x : Str} {v : V} {Q : Value → Shared → Prop} {E : Value → Shared → Prop} (I : Inv X pins σ H s) (hN : X.N[i]? = some x) (hv : Vis X.env.scope x) (e : σ[i]? = some (some v)) (q : ∀ u, RelV v u → Q u s)
    (hd : (x == ("__debug__" : Str)) = false := by decide) (hcd : (x == ("__classdict__" : Str)) = false := by decide) : wpAny (model X.prog X.w) A (eval (.Name x p) X.env) Q E s := by
  obtain ⟨m, hn, hl⟩ := I.loc
  obtain ⟨u, r, l⟩ := hl i x v hN e hv
  have fin := q u r
  rcases l with ⟨hk, hm⟩ | ⟨hk | hk, c, hc, hcell⟩
  · exact wpAny_Name (wpAny_loadName_local I.ok.kind hk hn hm fin) hd
  · exact wpAny_Name (wpAny_loadName_cell I.ok.kind hk hc hcell fin) hd
  · exact wpAny_Name (wpAny_loadName_free I.ok.kind hk hc hcell fin hcd) hd
theorem sp_var {i : Nat} {x : Str} {v : V} {es : List Expr} {Q : List Value → Shared → Prop} {E : Value → Shared → Prop} (I : Inv X pins σ H s) (hN : X.N[i]? = some x) (hv : Vis X.env.scope x) (e : σ[i]? = some (some v))
    (q : ∀ u, RelV v u → wpAny (model X.prog X.w) X.A (spliced (backTo pos (starEach es X.env))) (fun us s2 => Q (u :: us) s2) E s) (hd : (x == ("__debug__" : Str)) = false := by decide) (hcd : (x == ("__classdict__" : Str)) = false := by decide)
    (hs : starEach (.Name x p :: es) X.env = (false, eval (.Name x p) X.env) :: starEach es X.env := by rfl) : wpAny (model X.prog X.w) X.A (spliced (backTo pos (starEach (.Name x p :: es) X.env))) Q E s := by
  rw [hs]
  show wpAny _ _ (spliced ((false, eval (.Name x p) X.env) :: backTo pos (starEach es X.env))) _ _ s
  exact Calls.spliced_cons (ev_var I hN hv e q hd hcd)
/-- what is needed of a call of rows_of -/
structure RowsC (P : Program) (w : World) (K : PySem.W.Frag) (mg : Str → Option Value) (base : Heap) (CM CW : Addr) where
  T : TxG K mg CM CW
  C : CalR P w K mg base CM CW
  f : Addr
  fd : FuncData
  F : Fun K "rows_of" "rows_of" sRows f fd
  b : Binds K fd ["machine", "watch", "many"] []
  g : mg "rows_of" = some (.ref f)
/-- rows_of(a, b, c) -/
theorem ev_rows (R : RowsC X.prog X.w X.K X.mg X.base CM CW) (hr : Room 6 X.A) (hc : X.calm = true) (hg : Gl X "rows_of") {x0 x1 x2 : Str} {j0 j1 j2 : Nat} {p0 p1 p2 : Pos} (n0 : X.N[j0]? = some x0) (n1 : X.N[j1]? = some x1) (n2 : X.N[j2]? = some x2) (v0 : Vis X.env.scope x0) (v1 : Vis X.env.scope x1) (v2 : Vis X.env.scope x2)
    (nn : ((x0 == ("__debug__" : Str)) || (x0 == ("__classdict__" : Str)) || (x1 == ("__debug__" : Str)) || (x1 == ("__classdict__" : Str)) || (x2 == ("__debug__" : Str)) || (x2 == ("__classdict__" : Str))) = false)
    (hs : starEach [.Name x0 p0, .Name x1 p1, .Name x2 p2] X.env = (false, eval (.Name x0 p0) X.env) :: starEach [.Name x1 p1, .Name x2 p2] X.env) (hs1 : starEach [.Name x1 p1, .Name x2 p2] X.env = (false, eval (.Name x1 p1) X.env) :: starEach [.Name x2 p2] X.env) (hs2 : starEach [.Name x2 p2] X.env = (false, eval (.Name x2 p2) X.env) :: starEach [] X.env)
    (hpl : (backTo pos (starEach [.Name x1 p1, .Name x2 p2] X.env)).any (·.1) = false) (h0 : starEach [] X.env = [])
    {Dom : Addr → Prop} {d : MD} {q0 : Int} {st : List Step} {reach : List Int} {wt dw tb : Addr} {tab : List (Str × Str)} {n : Nat} (e0 : σ[j0]? = some (some (.ref d.m))) (e1 : σ[j1]? = some (some (.ref wt))) (e2 : σ[j2]? = some (some (.int n)))
    (I : Inv X pins σ H s) (D : Dat CM CW d q0 st reach wt dw tb tab n) (M : MachAt CM H d q0 st reach) (W : WatchAt CW H wt dw tb tab) (hM : ∀ b, MDom d b → Dom b) (hW : ∀ b, WDom wt dw tb b → Dom b) {E : Value → Shared → Prop} {Q : Value → Shared → Prop}
    (hQ : ∀ a g own cf s', MadeX X pins σ H (shOf Dom H) ((frows st tab reach q0 n).map fun r => r.map V.str) s s' a g own cf → Q (.ref a) s') :
    wpAny (model X.prog X.w) X.A (eval (.Call (.Name "rows_of" p) [.Name x0 p0, .Name x1 p1, .Name x2 p2] [] pos) X.env) Q E s := by
  simp only [Bool.or_eq_false_iff] at nn
  obtain ⟨⟨⟨⟨⟨a1, a2⟩, b1⟩, b2⟩, c1⟩, c2⟩ := nn
  refine wpAny_Call_Name_kw (ld_glob I hg R.g ?_)
  refine PySem.W.callWith_K (h₀ := X.base) I.ok.mod.kin R.F.kp ?_ hs hpl
  refine sp_var I n0 v0 e0 (fun u0 r0 => sp_var I n1 v1 e1 (fun u1 r1 => sp_var I n2 v2 e2 (fun u2 r2 => ?_) c1 c2 hs2) b1 b2 hs1) a1 a2 hs
  rw [h0]
  show wpAny _ _ (spliced []) _ _ s
  refine Calls.spliced_nil ⟨I.kIn, ?_⟩
  show wpAny _ _ (call (.ref R.f) [u0, u1, u2]) _ _ _
  refine thn (rows_made R.T R.C R.F hr R.b I hc (.cons r0 (.cons r1 (.cons r2 .nil))) D M W hM hW) ?_
  rintro u s' ⟨a, g, own, cf, rfl, m⟩
  exact hQ a g own cf s' m
/-- range(12) -/
theorem ev_range {E : Value → Shared → Prop} {Q : Value → Shared → Prop} {k : Nat} {p1 : Pos} {n : Nat} (I : Inv X pins σ H s) (hg : Gl X "range") (hm : X.mg "range" = none) (hs : starEach [.Constant (.int n) k p1] X.env = [(false, eval (.Constant (.int n) k p1) X.env)])
    (hQ : ∀ s' t u v, Inv X pins σ H s' → s'.gens = s.gens → IsRange s'.heap s.heap.objs.size 0 n 1 t u v → (∀ b o, s.heap.get? b = some o → s'.heap.get? b = some o) → Q (.ref s.heap.objs.size) s') :
    wpAny (model X.prog X.w) X.A (eval (.Call (.Name "range" p) [.Constant (.int n) k p1] [] pos) X.env) Q E s := by
  refine Call_ (ld_blt I hg hm boot_range (PyProof.Rows.callWith_type1 ?_ hs rfl))
  rw [hs]
  show wpAny _ _ (spliced ((false, eval (.Constant (.int n) k p1) X.env) :: backTo pos [])) _ _ s
  refine Calls.spliced_cons (wpAny_Constant_int (Calls.spliced_nil ?_))
  refine call_range_1 ?_
  exact hQ _ _ _ _ ((I.tok (s.toks + 1)).kept (t' := s.toks + 1 + 1 + 1) fun b o e => Heap.get?_push_of_some _ e) rfl (Heap.get?_push_size _ rfl) fun b o e => Heap.get?_push_of_some _ e
end
end KN
/-! zip's object comes. -/
namespace KN
open PySem PySem.Spec PyProof.Rows L2
section
variable {CM CW : Addr} {X : Cx} {pins : List (Addr × Obj)} {σ : St} {H : Hp} {s : Shared} {p pos : Pos}
theorem nad (n a b : Nat) (h : a ≠ b) : n + a ≠ n + b := by omega
theorem nad0 (n a : Nat) (h : a ≠ 0) : n + a ≠ n := by omega
theorem MadeX.lt {Sh : Hp} {rows : List (List V)} {s' : Shared} {a g : Nat} {own : List Addr} {cf : Cfg} (m : MadeX X pins σ H Sh rows s s' a g own cf) : ∀ b ∈ a :: own, b < s'.heap.objs.size := fun b hb => by
  rcases List.mem_cons.mp hb with z | z
  · obtain ⟨o, _, _, e, _⟩ := m.gen.gen
    rw [z]; exact Heap.lt_size e
  · obtain ⟨o, e⟩ := m.gen.ow.ex b z
    exact Heap.lt_size e
theorem Room.hd1 {k : Nat} {A : Around} (r : Room k A) : A.in1.handled = none := r.hd
theorem Room.dp1 {k : Nat} {A : Around} (r : Room k A) : A.in1.depth < recursionLimit := by
  have := r.dp
  show A.depth < _
  omega
/-- zip(range(n), rows_of(a, b, c)) -/
theorem ev_zipRg (R : RowsC X.prog X.w X.K X.mg X.base CM CW) (hr : Room 6 X.A) (hc : X.calm = true) (hx : X.ex = []) (hg : Gl X "rows_of") (hgr : Gl X "range") (hmr : X.mg "range" = none) (hgz : Gl X "zip") (hmz : X.mg "zip" = none) {x0 x1 x2 : Str} {j0 j1 j2 : Nat} {p0 p1 p2 : Pos} {kk : Nat} {n : Nat} {pr pr2 pr3 pw pw2 : Pos}
    (n0 : X.N[j0]? = some x0) (n1 : X.N[j1]? = some x1) (n2 : X.N[j2]? = some x2) (v0 : Vis X.env.scope x0) (v1 : Vis X.env.scope x1) (v2 : Vis X.env.scope x2)
    (nn : ((x0 == ("__debug__" : Str)) || (x0 == ("__classdict__" : Str)) || (x1 == ("__debug__" : Str)) || (x1 == ("__classdict__" : Str)) || (x2 == ("__debug__" : Str)) || (x2 == ("__classdict__" : Str))) = false)
    (hs : starEach [.Name x0 p0, .Name x1 p1, .Name x2 p2] X.env = (false, eval (.Name x0 p0) X.env) :: starEach [.Name x1 p1, .Name x2 p2] X.env) (hs1 : starEach [.Name x1 p1, .Name x2 p2] X.env = (false, eval (.Name x1 p1) X.env) :: starEach [.Name x2 p2] X.env) (hs2 : starEach [.Name x2 p2] X.env = (false, eval (.Name x2 p2) X.env) :: starEach [] X.env)
    (hpl : (backTo pw (starEach [.Name x1 p1, .Name x2 p2] X.env)).any (·.1) = false) (h0 : starEach [] X.env = []) (hsr : starEach [.Constant (.int n) kk pr3] X.env = [(false, eval (.Constant (.int n) kk pr3) X.env)])
    (hz1 : starEach [.Call (.Name "range" pr) [.Constant (.int n) kk pr3] [] pr2, .Call (.Name "rows_of" pw2) [.Name x0 p0, .Name x1 p1, .Name x2 p2] [] pw] X.env = (false, eval (.Call (.Name "range" pr) [.Constant (.int n) kk pr3] [] pr2) X.env) :: starEach [.Call (.Name "rows_of" pw2) [.Name x0 p0, .Name x1 p1, .Name x2 p2] [] pw] X.env)
    (hz2 : starEach [.Call (.Name "rows_of" pw2) [.Name x0 p0, .Name x1 p1, .Name x2 p2] [] pw] X.env = (false, eval (.Call (.Name "rows_of" pw2) [.Name x0 p0, .Name x1 p1, .Name x2 p2] [] pw) X.env) :: starEach [] X.env)
    (hzp : (backTo pos (starEach [.Call (.Name "rows_of" pw2) [.Name x0 p0, .Name x1 p1, .Name x2 p2] [] pw] X.env)).any (·.1) = false) (hn : n < 1000)
    {Dom : Addr → Prop} {d : MD} {q0 : Int} {st : List Step} {reach : List Int} {wt dw tb : Addr} {tab : List (Str × Str)} {m : Nat} (e0 : σ[j0]? = some (some (.ref d.m))) (e1 : σ[j1]? = some (some (.ref wt))) (e2 : σ[j2]? = some (some (.int m)))
    (I : Inv X pins σ H s) (D : Dat CM CW d q0 st reach wt dw tb tab m) (M : MachAt CM H d q0 st reach) (W : WatchAt CW H wt dw tb tab) (hM : ∀ b, MDom d b → Dom b) (hW : ∀ b, WDom wt dw tb b → Dom b) {E : Value → Shared → Prop} {R' : Value → Shared → Prop}
    (hQ : ∀ (z TI TO it ga g : Addr) (own : List Addr) (cf : Cfg) (hS : cf.Sh = shOf Dom H) (c : CfX X cf) (hA : cf.A = X.A.in1.in1) (s2 : Shared), Inv X pins σ H s2 →
      ZS X pins H (srcRange (A := X.A.in1) (shOf Dom H) it n (Room.hd1 hr)) (srcGen hS g ga c hA (Room.hd1 hr) (Room.dp1 hr) hx) z TI TO 0 ((frows st tab reach q0 m).map fun r => r.map V.str, own) s2 → R' (.ref z) s2) :
    wpAny (model X.prog X.w) X.A (eval (.Call (.Name "zip" p) [.Call (.Name "range" pr) [.Constant (.int n) kk pr3] [] pr2, .Call (.Name "rows_of" pw2) [.Name x0 p0, .Name x1 p1, .Name x2 p2] [] pw] [] pos) X.env) (fun v s1 => wpAny (model X.prog X.w) X.A (pyIter v) R' E s1) E s := by
  refine Call_ (ld_blt I hgz hmz PyProof.Rows.boot_zip (PyProof.Rows.callWith_type1 ?_ hz1 hzp))
  rw [hz1]
  show wpAny _ _ (spliced ((false, eval (.Call (.Name "range" pr) [.Constant (.int n) kk pr3] [] pr2) X.env) :: backTo pos (starEach [.Call (.Name "rows_of" pw2) [.Name x0 p0, .Name x1 p1, .Name x2 p2] [] pw] X.env))) _ _ s
  refine Calls.spliced_cons (ev_range I hgr hmr hsr fun s1 t u v I1 g1 hr1 kp1 => ?_)
  rw [hz2]
  show wpAny _ _ (spliced ((false, eval (.Call (.Name "rows_of" pw2) [.Name x0 p0, .Name x1 p1, .Name x2 p2] [] pw) X.env) :: backTo pos (starEach [] X.env))) _ _ s1
  refine Calls.spliced_cons (ev_rows R hr hc hg n0 n1 n2 v0 v1 v2 nn hs hs1 hs2 hpl h0 e0 e1 e2 I1 D M W hM hW fun a g own cf s2 mx => ?_)
  rw [h0]
  show wpAny _ _ (spliced []) _ _ s2
  refine Calls.spliced_nil ?_
  have hsm : Builtin.Range.small 0 (n : Int) 1 = true := small_one (by decide) (by decide) (by omega) (by omega)
  refine call_zip_rg hsm (mx.keep _ _ hr1) mx.gen.gen fun h' hz hi ho hit kp => wpAny_pyIter_zip hz ?_
  have I3 : Inv X pins σ H { s2 with heap := h' } := mx.iv.kept (t' := s2.toks) kp
  have hk : Same cf.Sh H := by rw [mx.sh]; exact shOf_same
  have fp : ∀ b, s2.heap.objs.size ≤ b → FpOk X pins H b := fun b hb => mx.iv.fpOk hb (mx.iv.hok.fresh hb)
  have ns : ∀ b, s2.heap.objs.size ≤ b → b ∉ a :: own := fun b hb z => absurd (mx.lt b z) (Nat.not_lt.mpr hb)
  refine hQ _ _ _ s2.heap.objs.size a g own cf mx.sh mx.cx mx.ar _ I3 ⟨hz, hi, ⟨_, _, ho⟩, fun b hb => ?_, nad _ _ _ (by decide), nad _ _ _ (by decide), nad _ _ _ (by decide), ⟨?_, fp _ (Nat.le_refl _)⟩, ?_, fun b hb => ?_, fun g' h => by cases h⟩
  · have h : b = s2.heap.objs.size + 3 ∨ b = s2.heap.objs.size + 1 ∨ b = s2.heap.objs.size + 2 := by simpa using hb
    have h1 : s2.heap.objs.size ≤ b ∧ b ≠ s2.heap.objs.size := by
      rcases h with rfl | rfl | rfl
      · exact ⟨Nat.le_add_right _ _, nad0 _ _ (by decide)⟩
      · exact ⟨Nat.le_add_right _ _, nad0 _ _ (by decide)⟩
      · exact ⟨Nat.le_add_right _ _, nad0 _ _ (by decide)⟩
    refine ⟨fp b h1.1, fun z => h1.2 ?_, ns b h1.1⟩
    have z : b ∈ [s2.heap.objs.size] := z
    exact List.mem_singleton.mp z
  · show IsRangeIter h' _ ((0 : Nat) : Int) ((n : Int) - ((0 : Nat) : Int)) 1
    have e2 : (n : Int) - ((0 : Nat) : Int) = Builtin.Range.rangeSize 0 n 1 := by rw [rangeSize_one]; split <;> omega
    rw [e2]
    exact hit
  · exact mx.gen.mono mx.cx mx.iv I3 hk (fun b o _ e => kp b o e) (fun b hb => (List.mem_cons.mp hb).elim (fun z => z ▸ mx.gen.fi) fun z => mx.gen.ow.fp b z) rfl
  · have z : b ∈ [s2.heap.objs.size] := hb
    rw [List.mem_singleton.mp z]
    exact ns _ (Nat.le_refl _)
/-- zip(rows_of(a, b, c), rows_of(a, b', c')) -/
theorem ev_zipGG (R : RowsC X.prog X.w X.K X.mg X.base CM CW) (hr : Room 6 X.A) (hc : X.calm = true) (hx : X.ex = []) (hg : Gl X "rows_of") (hgz : Gl X "zip") (hmz : X.mg "zip" = none) {x0 x1 x2 y0 y1 y2 : Str} {j0 j1 j2 k0 k1 k2 : Nat} {p0 p1 p2 q0' q1' q2' : Pos} {pw pw2 pv pv2 : Pos}
    (n0 : X.N[j0]? = some x0) (n1 : X.N[j1]? = some x1) (n2 : X.N[j2]? = some x2) (v0 : Vis X.env.scope x0) (v1 : Vis X.env.scope x1) (v2 : Vis X.env.scope x2)
    (nn : ((x0 == ("__debug__" : Str)) || (x0 == ("__classdict__" : Str)) || (x1 == ("__debug__" : Str)) || (x1 == ("__classdict__" : Str)) || (x2 == ("__debug__" : Str)) || (x2 == ("__classdict__" : Str))) = false)
    (hs : starEach [.Name x0 p0, .Name x1 p1, .Name x2 p2] X.env = (false, eval (.Name x0 p0) X.env) :: starEach [.Name x1 p1, .Name x2 p2] X.env) (hs1 : starEach [.Name x1 p1, .Name x2 p2] X.env = (false, eval (.Name x1 p1) X.env) :: starEach [.Name x2 p2] X.env) (hs2 : starEach [.Name x2 p2] X.env = (false, eval (.Name x2 p2) X.env) :: starEach [] X.env)
    (hpl : (backTo pw (starEach [.Name x1 p1, .Name x2 p2] X.env)).any (·.1) = false) (h0 : starEach [] X.env = [])
    (m0 : X.N[k0]? = some y0) (m1 : X.N[k1]? = some y1) (m2 : X.N[k2]? = some y2) (u0 : Vis X.env.scope y0) (u1 : Vis X.env.scope y1) (u2 : Vis X.env.scope y2)
    (mm : ((y0 == ("__debug__" : Str)) || (y0 == ("__classdict__" : Str)) || (y1 == ("__debug__" : Str)) || (y1 == ("__classdict__" : Str)) || (y2 == ("__debug__" : Str)) || (y2 == ("__classdict__" : Str))) = false)
    (ht : starEach [.Name y0 q0', .Name y1 q1', .Name y2 q2'] X.env = (false, eval (.Name y0 q0') X.env) :: starEach [.Name y1 q1', .Name y2 q2'] X.env) (ht1 : starEach [.Name y1 q1', .Name y2 q2'] X.env = (false, eval (.Name y1 q1') X.env) :: starEach [.Name y2 q2'] X.env) (ht2 : starEach [.Name y2 q2'] X.env = (false, eval (.Name y2 q2') X.env) :: starEach [] X.env)
    (htl : (backTo pv (starEach [.Name y1 q1', .Name y2 q2'] X.env)).any (·.1) = false)
    (hz1 : starEach [.Call (.Name "rows_of" pw2) [.Name x0 p0, .Name x1 p1, .Name x2 p2] [] pw, .Call (.Name "rows_of" pv2) [.Name y0 q0', .Name y1 q1', .Name y2 q2'] [] pv] X.env = (false, eval (.Call (.Name "rows_of" pw2) [.Name x0 p0, .Name x1 p1, .Name x2 p2] [] pw) X.env) :: starEach [.Call (.Name "rows_of" pv2) [.Name y0 q0', .Name y1 q1', .Name y2 q2'] [] pv] X.env)
    (hz2 : starEach [.Call (.Name "rows_of" pv2) [.Name y0 q0', .Name y1 q1', .Name y2 q2'] [] pv] X.env = (false, eval (.Call (.Name "rows_of" pv2) [.Name y0 q0', .Name y1 q1', .Name y2 q2'] [] pv) X.env) :: starEach [] X.env)
    (hzp : (backTo pos (starEach [.Call (.Name "rows_of" pv2) [.Name y0 q0', .Name y1 q1', .Name y2 q2'] [] pv] X.env)).any (·.1) = false)
    {Dom : Addr → Prop} {d d' : MD} {q0 q0₂ : Int} {st st' : List Step} {reach reach' : List Int} {wt dw tb wt' dw' tb' : Addr} {tab tab' : List (Str × Str)} {m m' : Nat} (e0 : σ[j0]? = some (some (.ref d.m))) (e1 : σ[j1]? = some (some (.ref wt))) (e2 : σ[j2]? = some (some (.int m)))
    (f0 : σ[k0]? = some (some (.ref d'.m))) (f1 : σ[k1]? = some (some (.ref wt'))) (f2 : σ[k2]? = some (some (.int m')))
    (I : Inv X pins σ H s) (D : Dat CM CW d q0 st reach wt dw tb tab m) (M : MachAt CM H d q0 st reach) (W : WatchAt CW H wt dw tb tab) (hM : ∀ b, MDom d b → Dom b) (hW : ∀ b, WDom wt dw tb b → Dom b)
    (D' : Dat CM CW d' q0₂ st' reach' wt' dw' tb' tab' m') (M' : MachAt CM H d' q0₂ st' reach') (W' : WatchAt CW H wt' dw' tb' tab') (hM' : ∀ b, MDom d' b → Dom b) (hW' : ∀ b, WDom wt' dw' tb' b → Dom b) {E : Value → Shared → Prop} {R' : Value → Shared → Prop}
    (hQ : ∀ (z TI TO ga ga' g g' : Addr) (own own' : List Addr) (cf cf' : Cfg) (hS : cf.Sh = shOf Dom H) (c : CfX X cf) (hA : cf.A = X.A.in1.in1) (hS' : cf'.Sh = shOf Dom H) (c' : CfX X cf') (hA' : cf'.A = X.A.in1.in1) (s2 : Shared), Inv X pins σ H s2 →
      ZS X pins H (srcGen hS g ga c hA (Room.hd1 hr) (Room.dp1 hr) hx) (srcGen hS' g' ga' c' hA' (Room.hd1 hr) (Room.dp1 hr) hx) z TI TO ((frows st tab reach q0 m).map fun r => r.map V.str, own) ((frows st' tab' reach' q0₂ m').map fun r => r.map V.str, own') s2 → R' (.ref z) s2) :
    wpAny (model X.prog X.w) X.A (eval (.Call (.Name "zip" p) [.Call (.Name "rows_of" pw2) [.Name x0 p0, .Name x1 p1, .Name x2 p2] [] pw, .Call (.Name "rows_of" pv2) [.Name y0 q0', .Name y1 q1', .Name y2 q2'] [] pv] [] pos) X.env) (fun v s1 => wpAny (model X.prog X.w) X.A (pyIter v) R' E s1) E s := by
  refine Call_ (ld_blt I hgz hmz PyProof.Rows.boot_zip (PyProof.Rows.callWith_type1 ?_ hz1 hzp))
  rw [hz1]
  show wpAny _ _ (spliced ((false, eval (.Call (.Name "rows_of" pw2) [.Name x0 p0, .Name x1 p1, .Name x2 p2] [] pw) X.env) :: backTo pos (starEach [.Call (.Name "rows_of" pv2) [.Name y0 q0', .Name y1 q1', .Name y2 q2'] [] pv] X.env))) _ _ s
  refine Calls.spliced_cons (ev_rows R hr hc hg n0 n1 n2 v0 v1 v2 nn hs hs1 hs2 hpl h0 e0 e1 e2 I D M W hM hW fun a g own cf s1 mx => ?_)
  rw [hz2]
  show wpAny _ _ (spliced ((false, eval (.Call (.Name "rows_of" pv2) [.Name y0 q0', .Name y1 q1', .Name y2 q2'] [] pv) X.env) :: backTo pos (starEach [] X.env))) _ _ s1
  refine Calls.spliced_cons (ev_rows R hr hc hg m0 m1 m2 u0 u1 u2 mm ht ht1 ht2 htl h0 f0 f1 f2 mx.iv D' M' W' hM' hW' fun a' g' own' cf' s2 mx' => ?_)
  rw [h0]
  show wpAny _ _ (spliced []) _ _ s2
  refine Calls.spliced_nil ?_
  have hk : Same cf.Sh H := by rw [mx.sh]; exact shOf_same
  have hk' : Same cf'.Sh H := by rw [mx'.sh]; exact shOf_same
  have gg : g ≠ g' := by
    obtain ⟨gs, e, _⟩ := mx.gen.st
    have h1 := (Array.getElem?_eq_some_iff.mp e).1
    have h2 := mx'.g0
    intro z
    rw [← z] at h2
    rw [h2] at h1
    exact Nat.lt_irrefl _ h1
  have G2 : GenS X pins H cf g a ((frows st tab reach q0 m).map fun r => r.map V.str) own s2 := mx.gen.mono mx.cx mx.iv mx'.iv hk (fun b o _ e => mx'.keep b o e) (fun b hb => (List.mem_cons.mp hb).elim (fun z => z ▸ mx.gen.fi) fun z => mx.gen.ow.fp b z) (mx'.gs g gg)
  refine call_zip_gg G2.gen mx'.gen.gen fun h' hz hi ho kp => wpAny_pyIter_zip hz ?_
  have I3 : Inv X pins σ H { s2 with heap := h' } := mx'.iv.kept (t' := s2.toks) kp
  have fp : ∀ b, s2.heap.objs.size ≤ b → FpOk X pins H b := fun b hb => mx'.iv.fpOk hb (mx'.iv.hok.fresh hb)
  have l12 : s1.heap.objs.size ≤ s2.heap.objs.size := by
    have h1 : ∀ b o, s1.heap.get? b = some o → b < s2.heap.objs.size := fun b o e => Heap.lt_size (mx'.keep b o e)
    have h2 := mx'.new a' List.mem_cons_self
    exact Nat.le_trans h2 (Nat.le_of_lt (mx'.lt a' List.mem_cons_self))
  have ns : ∀ b, s2.heap.objs.size ≤ b → b ∉ a :: own := fun b hb z => absurd (Nat.lt_of_lt_of_le (mx.lt b z) l12) (Nat.not_lt.mpr hb)
  have ns' : ∀ b, s2.heap.objs.size ≤ b → b ∉ a' :: own' := fun b hb z => absurd (mx'.lt b z) (Nat.not_lt.mpr hb)
  refine hQ _ _ _ a a' g g' own own' cf cf' mx.sh mx.cx mx.ar mx'.sh mx'.cx mx'.ar _ I3 ⟨hz, hi, ⟨_, _, ho⟩, fun b hb => ?_, (nad0 _ _ (by decide)).symm, nad _ _ _ (by decide), (nad0 _ _ (by decide)).symm, ?_, ?_, fun b hb hb' => ?_, fun x hx hx' => ?_⟩
  · have h : b = s2.heap.objs.size + 2 ∨ b = s2.heap.objs.size ∨ b = s2.heap.objs.size + 1 := by simpa using hb
    have h1 : s2.heap.objs.size ≤ b := by
      rcases h with rfl | rfl | rfl
      · exact Nat.le_add_right _ _
      · exact Nat.le_refl _
      · exact Nat.le_add_right _ _
    exact ⟨fp b h1, ns b h1, ns' b h1⟩
  · exact G2.mono mx.cx mx'.iv I3 hk (fun b o _ e => kp b o e) (fun b hb => (List.mem_cons.mp hb).elim (fun z => z ▸ G2.fi) fun z => G2.ow.fp b z) rfl
  · exact mx'.gen.mono mx'.cx mx'.iv I3 hk' (fun b o _ e => kp b o e) (fun b hb => (List.mem_cons.mp hb).elim (fun z => z ▸ mx'.gen.fi) fun z => mx'.gen.ow.fp b z) rfl
  · exact absurd (mx.lt b hb) (Nat.not_lt.mpr (mx'.new b hb'))
  · have e1 : x = g := List.mem_singleton.mp hx
    have e2 : x = g' := List.mem_singleton.mp hx'
    exact gg (e1.symm.trans e2)
end
end KN
/-! _law_first: the first twelve rows. -/
namespace KN
open PySem PySem.Spec PyProof.Rows L2
abbrev sFirst : Stmt := top 64
abbrev nFirst : List Str := ["_law_machine_here", "_law_watch", "_law_many", "_law_told", "_law_k", "_law_row_here"]
theorem sc64 : FnScope nFirst ["_law_machine_here", "_law_watch", "_law_many"] (defScope sFirst) := ⟨rfl, rfl, rfl, by decide +kernel, rfl, by decide +kernel, by decide +kernel⟩
/-- the rows lie at these addresses -/
def RowsAt (H : Hp) (ads : List Addr) (rows : List (List V)) : Prop := ads.length = rows.length ∧ ∀ (i : Nat) (a : Addr) (r : List V), ads[i]? = some a → rows[i]? = some r → H a = some (.tup r)
/-- all but l stays -/
def SameBut (l : Addr) (H H' : Hp) : Prop := ∀ b o, b ≠ l → H b = some o → H' b = some o
theorem machDom {C : Addr} {H : Hp} {d : MD} {q0 : Int} {st : List Step} {reach : List Int} (M : MachAt C H d q0 st reach) {b : Addr} (h : MDom d b) : ∃ o, H b = some o := by
  rcases h with rfl | rfl | rfl | h | rfl | ⟨q, h⟩ | rfl
  · exact ⟨_, M.ins⟩
  · exact ⟨_, M.own⟩
  · exact ⟨_, M.rows⟩
  · obtain ⟨i, hi⟩ := List.getElem?_of_mem h
    have hl := (List.getElem?_eq_some_iff.mp hi).1
    rw [M.rlen] at hl
    exact ⟨_, M.row i b _ hi (List.getElem?_eq_getElem hl)⟩
  · exact ⟨_, M.lea⟩
  · by_cases e : nums st q = []
    · rw [M.l1 q e] at h; cases h
    · obtain ⟨a, e1, e2⟩ := M.l2 q e
      rw [h] at e1
      cases e1
      exact ⟨_, e2⟩
  · exact ⟨_, M.met⟩
theorem watchDom {C : Addr} {H : Hp} {wt dw tb : Addr} {T : List (Str × Str)} (M : WatchAt C H wt dw tb T) {b : Addr} (h : WDom wt dw tb b) : ∃ o, H b = some o := by
  rcases h with rfl | rfl | rfl
  · exact ⟨_, M.ins⟩
  · exact ⟨_, M.own⟩
  · exact ⟨_, M.tab⟩
noncomputable def rowsV (st : List Step) (tab : List (Str × Str)) (reach : List Int) (q0 : Int) (n : Nat) : List (List V) := (frows st tab reach q0 n).map fun r => r.map V.str
def spFirst (CM CW : Addr) : Sp := fun vs H Q _ => ∃ (d : MD) (q0 : Int) (st : List Step) (reach : List Int) (wt dw tb : Addr) (tab : List (Str × Str)) (n : Nat), vs = [.ref d.m, .ref wt, .int n] ∧ Dat CM CW d q0 st reach wt dw tb tab n ∧ MachAt CM H d q0 st reach ∧ WatchAt CW H wt dw tb tab ∧
  ∀ (H' : Hp) (a : Addr) (ads : List Addr), Same H H' → H a = none → H' a = some (.lst (ads.map .ref)) → RowsAt H' ads ((rowsV st tab reach q0 n).take 12) → (∀ b ∈ ads, H b = none) → Q (.ref a) H'
/-- the loop's reading -/
def tFirst (CM CW : Addr) : TS := fun D σ H => ∃ (d : MD) (q0 : Int) (st : List Step) (reach : List Int) (wt dw tb : Addr) (tab : List (Str × Str)) (n : Nat) (l : Addr) (v4 v5 : Option V), σ = [some (.ref d.m), some (.ref wt), some (.int n), some (.ref l), v4, v5] ∧
  Dat CM CW d q0 st reach wt dw tb tab n ∧ MachAt CM H d q0 st reach ∧ WatchAt CW H wt dw tb tab ∧ H l = some (.lst []) ∧ ¬ MDom d l ∧ ¬ WDom wt dw tb l ∧
  ∀ (H' : Hp) (ads : List Addr) (v4 v5 : Option V), SameBut l H H' → H' l = some (.lst (ads.map .ref)) → RowsAt H' ads ((rowsV st tab reach q0 n).take 12) → (∀ b ∈ ads, H b = none) → D.nx [some (.ref d.m), some (.ref wt), some (.int n), some (.ref l), v4, v5] H'
theorem thaw_upd {F : List Addr} {HF H3 : Hp} {l : Addr} {o : HO} (hl : l ∉ F) (h1 : ∀ b, b ∉ F → HF b = H3 b) (h2 : ∀ b ∈ F, H3 b = none) : thawH F (upd HF l o) = upd H3 l o := by
  funext b
  by_cases hb : b ∈ F
  · rw [thawH_in hb, upd_ne fun z => by subst z; exact hl hb, h2 b hb]
  · rw [thawH_out hb]
    by_cases e : b = l
    · subst e; rw [upd_same, upd_same]
    · rw [upd_ne e, upd_ne e, h1 b hb]
section
variable {P : Program} {w : World} {K : PySem.W.Frag} {mg : Str → Option Value} {base : Heap} {CM CW : Addr}
theorem ok_first (R : RowsC P w K mg base CM CW) (mz : mg "zip" = none) {f : Addr} {fd : FuncData} (F : Fun K "_law_first" "_law_first" sFirst f fd) : FnOk P w K mg base CX0 7 f fd ["_law_machine_here", "_law_watch", "_law_many"] (spFirst CM CW) := by
  refine F.ok sc64 (fun vs H Q E h => ?_) (fun cdv A outer s H vs Q E hr h => ?_)
  · obtain ⟨d, q0, st, reach, wt, dw, tb, tab, n, rfl, _⟩ := h
    rfl
  · obtain ⟨d, q0, st, reach, wt, dw, tb, tab, n, rfl, D, M, W, hQ⟩ := h
    refine ⟨_, pss_cons (ps_set (i := 3) sc64.nd rfl (Or.inl rfl) (pe_lst pa_nil)) (pss_cons (ps_forZip (t := tFirst CM CW) (g := gTup K 2 (gCons (gName 4) (gCons (gName 5) gNil))) (tb := tDrop (tBM K "list" rAppend (tVar 3) (tCons (tVar 5) tNil))) rfl rfl
      (fun s H => by exact gg_tup rfl (ggs_cons (gg_name (i := 4) sc64.nd rfl (Or.inl rfl)) (ggs_cons (gg_name (i := 5) sc64.nd rfl (Or.inl rfl)) ggs_nil)))
      (fun s H => by exact gps_one (gp_expr (ge_bm PySem.F.plainAttrs_list PySem.F.slot_list_append PySem.F.type_list_append gm_append (gv 3) (ga_cons (gv 5) ga_nil)))) ?_) (pss_one (ps_ret (pv 3)))), ?_⟩
    · intro pins s σ H D I h
      obtain ⟨d, q0, st, reach, wt, dw, tb, tab, n, l, v4, v5, rfl, D', M, W, hl, nm, nw, hN⟩ := h
      refine ev_zipRg (Dom := fun b => MDom d b ∨ WDom wt dw tb b) R hr rfl rfl (by rfl) (by rfl) R.T.bu.range (by rfl) mz (j0 := 0) (j1 := 1) (j2 := 2) rfl rfl rfl (Or.inl rfl) (Or.inl rfl) (Or.inl rfl) (by rfl) rfl rfl rfl rfl rfl rfl rfl rfl rfl (by decide) rfl rfl rfl I D' M W (fun b => .inl) (fun b => .inr) ?_
      intro z TI TO it ga g own cf hS c hA s2 I2 Z2
      have len12 : ∀ i : Nat, i ≤ 12 → i ≤ (rowsV st tab reach q0 n).length → (12 ≤ i ∨ (rowsV st tab reach q0 n).drop i = []) → (rowsV st tab reach q0 n).take i = (rowsV st tab reach q0 n).take 12 := by
        intro i h1 h2 h3
        rcases h3 with h3 | h3
        · rw [Nat.le_antisymm h1 h3]
        · have h4 := List.drop_eq_nil_iff.mp h3
          rw [List.take_of_length_le h4, List.take_of_length_le (by omega)]
      refine ⟨_, _, _, _, _, _, _, z, TI, TO, _, _, H, (fun m i x σ' H' => m = 12 - i ∧ i ≤ 12 ∧ i ≤ (rowsV st tab reach q0 n).length ∧ x.1 = (rowsV st tab reach q0 n).drop i ∧ ∃ (ads : List Addr) (v4 v5 : Option V), σ' = [some (.ref d.m), some (.ref wt), some (.int n), some (.ref l), v4, v5] ∧ SameBut l H H' ∧ H' l = some (.lst (ads.map .ref)) ∧ RowsAt H' ads ((rowsV st tab reach q0 n).take i) ∧ ∀ b ∈ ads, H b = none), 12, rfl, I2, Z2,
        ⟨rfl, Nat.zero_le _, Nat.zero_le _, rfl, [], v4, v5, rfl, fun _ _ _ e => e, hl, ⟨by simp, fun i a r e => by simp at e⟩, fun b hb => by simp at hb⟩, ?_⟩
      rintro m i x σ' H' ⟨rfl, hi, hil, hx, ads, v4', v5', rfl, hs, hl', hra, hnew⟩
      refine ⟨fun b o e => ?_, ?_⟩
      · obtain ⟨dd, e1, _⟩ := shOf_iff.mp e
        exact hs b o (fun q => by subst q; exact dd.elim nm nw) e1
      · by_cases ho : 12 ≤ i ∨ x.1 = []
        · refine .inl ⟨ho, fun H'' sm => hN H'' ads v4' v5' (fun b o h e => sm _ _ (hs b o h e)) (sm _ _ hl') ?_ hnew⟩
          rw [← len12 i hi hil (by rw [← hx]; exact ho)]
          exact ⟨hra.1, fun j a r h1 h2 => sm _ _ (hra.2 j a r h1 h2)⟩
        · refine .inr ⟨fun q => ho (.inl q), fun q => ho (.inr q), ?_⟩
          rintro v1 v2 i' x' H1 H2 T ⟨rfl, hH1, rfl⟩ ⟨r, a, hxr, rfl, ha0, hage, rfl⟩ hT sm FF HF hF1 hF2 hF3
          have hH1 := hH1.symm
          subst hH1
          have hxr : x.1 = r :: x'.1 := hxr
          have hlt : i < (rowsV st tab reach q0 n).length := by
            rw [hx] at hxr
            have := congrArg List.length hxr
            rw [List.length_drop, List.length_cons] at this
            omega
          have hd2 := List.drop_eq_getElem_cons hlt
          rw [hx, hd2] at hxr
          injection hxr with hr1 hr2
          have nla : l ≠ a := fun q => by subst q; rw [hl'] at ha0; cases ha0
          have nlT : l ≠ T := fun q => by subst q; rw [upd_ne nla, hl'] at hT; cases hT
          have naT : a ≠ T := fun q => by subst q; rw [upd_same] at hT; cases hT
          have eT : upd (upd H' a (.tup r)) T (.tup [.int (i : Nat), .ref a]) T = some (.tup [.int (i : Nat), .ref a]) := upd_same
          have el : upd (upd H' a (.tup r)) T (.tup [.int (i : Nat), .ref a]) l = some (.lst (ads.map .ref)) := by rw [upd_ne nlT, upd_ne nla]; exact hl'
          have ea : upd (upd H' a (.tup r)) T (.tup [.int (i : Nat), .ref a]) a = some (.tup r) := by rw [upd_ne naT, upd_same]
          have nF : ∀ {b o}, upd (upd H' a (.tup r)) T (.tup [.int (i : Nat), .ref a]) b = some o → b ∉ FF := fun {b o} e z => by rw [hF3 b z] at e; cases e
          have al : ads.length = i := by rw [hra.1, List.length_take]; omega
          refine ⟨T, _, rfl, SqT.of ((hF2 T (nF eT)).trans eT), rfl, _, _, rfl, _, _, rfl, rfl, ?_⟩
          refine ⟨_, rfl, .inl ⟨rfl, _, SqL.of ((hF2 l (nF el)).trans el)⟩, _, rfl, l, _, _, rfl, rfl, (hF2 l (nF el)).trans el, by rw [List.length_map, al]; exact Nat.lt_of_le_of_lt hi (by decide), ?_⟩
          refine ⟨fun b hb => upd_ne fun q => nF el (q ▸ hb), 12 - (i + 1), by omega, rfl, by omega, hlt, hr2.symm, ads ++ [a], _, _, rfl, ?_, ?_, ?_, ?_⟩
          · intro b o hb e
            rw [thaw_upd (nF el) hF2 hF3, upd_ne hb]
            have e1 := hs b o hb e
            have nb : b ≠ a := fun q => by subst q; rw [e1] at ha0; cases ha0
            have nT : b ≠ T := fun q => by subst q; rw [upd_ne nb, e1] at hT; cases hT
            rw [upd_ne nT, upd_ne nb]; exact e1
          · rw [thaw_upd (nF el) hF2 hF3, upd_same, List.map_append]; rfl
          · rw [thaw_upd (nF el) hF2 hF3]
            refine ⟨?_, fun j b r' h1 h2 => ?_⟩
            · rw [List.length_append, al, List.length_take]
              show i + 1 = _
              omega
            · by_cases hj : j < i
              · rw [List.getElem?_append_left (by omega)] at h1
                have h3 : ((rowsV st tab reach q0 n).take i)[j]? = some r' := by
                  rw [List.getElem?_take_of_lt hj]
                  rw [List.getElem?_take_of_lt (by omega)] at h2
                  exact h2
                have e1 := hra.2 j b r' h1 h3
                have nb : b ≠ a := fun q => by subst q; rw [e1] at ha0; cases ha0
                have nT : b ≠ T := fun q => by subst q; rw [upd_ne nb, e1] at hT; cases hT
                have nl : b ≠ l := fun q => by subst q; rw [e1] at hl'; cases hl'
                rw [upd_ne nl, upd_ne nT, upd_ne nb]; exact e1
              · have hj' : j = i := by
                  have := (List.getElem?_eq_some_iff.mp h1).1
                  rw [List.length_append, al] at this
                  have : j < i + 1 := this
                  omega
                subst hj'
                rw [List.getElem?_append_right (by omega), al, Nat.sub_self] at h1
                have : b = a := (Option.some.inj h1).symm
                subst this
                rw [List.getElem?_take_of_lt (by omega), List.getElem?_eq_getElem hlt] at h2
                have : r' = r := by rw [← Option.some.inj h2]; exact hr1
                subst this
                rw [upd_ne nla.symm]; exact ea
          · intro b hb
            rcases List.mem_append.mp hb with z | z
            · exact hnew b z
            · rw [List.mem_singleton.mp z]
              cases q : H a with
              | none => rfl
              | some o => rw [hs a o nla.symm q] at ha0; cases ha0
    · refine ⟨by show 0 ≤ sizeLine; decide, fun l hl => ?_⟩
      have sm : Same H (upd H l (.lst [])) := Same.upd same_rfl hl
      refine ⟨d, q0, st, reach, wt, dw, tb, tab, n, l, _, _, rfl, D, M.same sm, W.same sm, upd_same, fun z => ?_, fun z => ?_, fun H' ads v4 v5 hs hl' hra hnew => ⟨_, rfl, ?_⟩⟩
      · obtain ⟨o, e⟩ := machDom M z
        rw [hl] at e; cases e
      · obtain ⟨o, e⟩ := watchDom W z
        rw [hl] at e; cases e
      · refine hQ H' l ads (fun b o e => ?_) hl hl' hra fun b hb => ?_
        · have nb : b ≠ l := fun q => by subst q; rw [hl] at e; cases e
          exact hs b o nb (by rw [upd_ne nb]; exact e)
        · cases q : H b with
          | none => rfl
          | some o =>
            have := hnew b hb
            rw [sm b o q] at this
            cases this
end
end KN
/-! The checks of a machine's words and steps. -/
namespace KN
open PySem PySem.Spec PyProof.Rows L2
/-- the names that the program leaves to the built-ins -/
structure Bx (mg : Str → Option Value) : Prop extends Bu mg where
  str : mg "str" = none
  dict : mg "dict" = none
  tuple : mg "tuple" = none
  set : mg "set" = none
  min : mg "min" = none
  enum : mg "enumerate" = none
  zip : mg "zip" = none
theorem GFn.fn {P : Program} {w : World} {K : PySem.W.Frag} {mg : Str → Option Value} {base : Heap} {k : Nat} {f : Addr} {fd : FuncData} {ps : List Str} {sp : GSp} (F : GFn P w K mg base k f fd ps sp) (CX : CXT) : FnOk P w K mg base CX k f fd ps (fun vs H Q _ => sp vs H Q) :=
  ⟨fun vs H Q E h => F.len vs H Q h, fun A outer s H args us vs Q E hr e0 hb r h => codeAny_mono (F.run A outer s H args us vs Q hr e0 hb r h) fun r s' q => by
    cases r with
    | error e => exact False.elim q
    | ok fl =>
      cases fl with
      | ret u =>
        obtain ⟨_, v, H', h1, h2, h3, h4, h5, _, h7⟩ := q
        exact ⟨v, H', h1, h2, h3, h4, h5, h7⟩
      | next => exact False.elim q
      | brk => exact False.elim q
      | cont => exact False.elim q⟩
abbrev tNever : TS := fun _ _ _ => False
theorem ps_never {X : Cx} {st : Stmt} : PS X st tNever := ⟨fun _ _ _ _ _ _ h => False.elim h⟩
theorem pss_never {X : Cx} {st : List Stmt} : PSs X st tNever := ⟨fun _ _ _ _ _ _ h => False.elim h⟩
/-- a walk over a text -/
theorem for_str {x : Str} {g : TG} {tb : TS} {D : Ends} {σ : St} {H : Hp} (Pv : Nat → St → Hp → Prop) (h0 : Pv 0 σ H)
    (hs : ∀ i c σ H, x.cps[i]? = some c → Pv i σ H → g (.str ⟨#[c]⟩) σ H fun σ2 H2 => tb { D with nx := Pv (i + 1), ct := Pv (i + 1), bk := D.nx } σ2 H2) (hd : ∀ σ H, Pv x.cps.size σ H → D.nx σ H) :
    ∃ W : Nat → Nat → St → Hp → Prop, (∃ m, W 0 m σ H) ∧ ∀ i m σ H, W i m σ H →
      ((Its x).stop i H ∧ D.nx σ H) ∨ ((Its x).go i H ∧ ∃ N : St → Hp → Prop, (∀ σ' H', N σ' H' → ∃ m', m' < m ∧ W (i + 1) m' σ' H') ∧ ∀ v H', (Its x).yld i H v H' → g v σ H' fun σ2 H2 => tb { D with nx := N, ct := N, bk := D.nx } σ2 H2) := by
  refine ⟨fun i m σ H => m = x.cps.size - i ∧ i ≤ x.cps.size ∧ Pv i σ H, ⟨_, rfl, Nat.zero_le _, h0⟩, ?_⟩
  rintro i m σ H ⟨rfl, hi, p⟩
  by_cases hlt : i < x.cps.size
  · refine .inr ⟨hlt, Pv (i + 1), fun σ' H' p' => ⟨x.cps.size - (i + 1), by omega, rfl, hlt, p'⟩, ?_⟩
    rintro v H' ⟨rfl, c, hc, rfl⟩
    exact hs i c σ _ hc p
  · have e : i = x.cps.size := by omega
    subst e
    exact .inl ⟨Nat.le_refl _, hd σ H p⟩
def letters : Str := "abcdefghijklmnopqrstuvwxyz"
/-- a name -/
def IsName (x : Str) : Prop := 1 ≤ x.length ∧ x.length ≤ 12 ∧ ∀ c ∈ x.cps.toList, c ∈ letters.cps.toList
abbrev sIsState : Stmt := top 17
abbrev sIsName : Stmt := top 18
abbrev sIsRow : Stmt := top 19
abbrev sIsStep : Stmt := top 27
section
variable {P : Program} {w : World} {K : PySem.W.Frag} {mg : Str → Option Value} {base : Heap}
theorem sc17 : FnScope ["value"] ["value"] (defScope sIsState) := ⟨rfl, rfl, rfl, by decide +kernel, rfl, by decide +kernel, by decide +kernel⟩
def gsIsState : GSp := fun vs H Q => ∃ i : Int, vs = [.int i] ∧ 0 ≤ i ∧ i < 100 ∧ Q (.bl true) H
theorem g_isstate {f f1 : Addr} {fd fd1 : FuncData} (F : Fun K "is_state" "is_state" sIsState f fd) (F1 : GFn P w K mg base 2 f1 fd1 ["value", "most"] gsIsCount) (b1 : Binds K fd1 ["value", "most"] []) (m1 : mg "is_count" = some (.ref f1)) (k1 : PySem.W.keepIn K (.ref f1) = true)
    {tk : Tok} (mM : mg "MOST_STATE" = some (.int 99 tk)) : GFn P w K mg base 3 f fd ["value"] gsIsState := by
  refine F.gok sc17 (fun vs H Q h => ?_) (fun cdv A outer s H vs Q hr h => ?_)
  · obtain ⟨i, rfl, _⟩ := h
    rfl
  · obtain ⟨i, rfl, h0, h1, q⟩ := h
    refine ⟨_, gps_one (gp_ret (ge_call F1 hr (by rfl) m1 k1 b1 (ga_cons (gv 0) (ga_cons (ge_nm (v := .int 99) mM ⟨_, rfl⟩ (by rfl)) ga_nil)))), ?_⟩
    exact ⟨_, rfl, i, 99, rfl, h0, by omega, q⟩
theorem sc18 : FnScope ["value", "letter"] ["value"] (defScope sIsName) := ⟨rfl, rfl, rfl, by decide +kernel, rfl, by decide +kernel, by decide +kernel⟩
def spIsName : Sp := fun vs H Q _ => ∃ x : Str, vs = [.str x] ∧ IsName x ∧ Q (.bl true) H
theorem ok_isname {f : Addr} {fd : FuncData} (F : Fun K "is_name" "is_name" sIsName f fd) (B : Bx mg) {tk tk2 : Tok} (mL : mg "LETTERS" = some (.str letters tk)) (mM : mg "MOST_LETTERS" = some (.int 12 tk2)) : FnOk P w K mg base CX0 1 f fd ["value"] spIsName := by
  refine F.ok sc18 (fun vs H Q E h => ?_) (fun cdv A outer s H vs Q E hr h => ?_)
  · obtain ⟨x, rfl, _⟩ := h
    rfl
  · obtain ⟨x, rfl, ⟨n1, n2, n3⟩, q⟩ := h
    refine ⟨_, pss_cons (ps_if (pw_or (pt_not (pt_val (pe_callB call_isi (by rfl) B.isinst boot_isinstance (pa_cons (pv 0) (pa_cons (pe_bltn (v := .ty "str") (by rfl) B.str boot_str rfl) pa_nil)))))
        (pw_or1 (pt_not (pt_chain op_le op_le pe_int (pe_callB call_len_str (by rfl) B.len boot_len (pa_cons (pv 0) pa_nil)) (pe_glob (v := .int 12) (by rfl) mM ⟨_, rfl⟩))))).pt pss_never pss_nil)
      (pss_cons (ps_for PassesOwn.never rfl (pi_str (pv 0)) (pg_name (i := 1) sc18.nd rfl (Or.inl rfl)) (pss_one (ps_if (pt_cmpR op_notIn_sign (pv 1) (pe_glob (v := .str letters) (by rfl) mL ⟨_, rfl⟩) (by rfl)) pss_never pss_nil)))
        (pss_one (ps_ret pe_bl))), ?_⟩
    refine ⟨_, rfl, _, _, _, _, true, rfl, .ty _, .base (.str x), by rfl, _, rfl, ?_⟩
    refine iteF ?_
    refine ⟨_, rfl, x, rfl, by have : (12 : Nat) ≤ sizeLine := by decide
                               omega, _, _, rfl, rfl, _, rfl, ?_⟩
    have e1 : decide ((1 : Int) ≤ (x.length : Nat)) = true := decide_eq_true (by omega)
    rw [e1]
    refine iteT ⟨_, _, rfl, rfl, _, rfl, ?_⟩
    have e2 : decide (((x.length : Nat) : Int) ≤ 12) = true := decide_eq_true (by omega)
    rw [e2]
    refine iteF ?_
    refine ⟨_, rfl, x, rfl, for_str (fun i σ H' => (∃ v, σ = [some (.str x), v]) ∧ H' = H) ⟨⟨_, rfl⟩, rfl⟩ ?_ ?_⟩
    · rintro i c σ H' hc ⟨⟨v, rfl⟩, rfl⟩
      refine ⟨_, rfl, c, letters, rfl, rfl, _, rfl, ?_⟩
      have e3 : decide (c ∈ letters.cps.toList) = true := decide_eq_true (n3 c (by
        rw [Array.mem_toList_iff]
        exact Array.mem_of_getElem? hc))
      rw [e3]
      exact iteF ⟨⟨_, rfl⟩, rfl⟩
    · rintro σ H' ⟨_, rfl⟩
      exact q
end
end KN
/-! is_row, is_step, checked_steps. -/
namespace KN
open PySem PySem.Spec PyProof.Rows L2
section
variable {P : Program} {w : World} {K : PySem.W.Frag} {mg : Str → Option Value} {base : Heap}
theorem sc19 : FnScope ["value"] ["value"] (defScope sIsRow) := ⟨rfl, rfl, rfl, by decide +kernel, rfl, by decide +kernel, by decide +kernel⟩
def spIsRow : Sp := fun vs H Q _ => ∃ a xs, vs = [.ref a] ∧ H a = some (.lst xs) ∧ ∀ H', Same H H' → Q (.bl true) H'
theorem ok_isrow {f : Addr} {fd : FuncData} (F : Fun K "is_row" "is_row" sIsRow f fd) (B : Bx mg) : FnOk P w K mg base CX0 1 f fd ["value"] spIsRow := by
  refine F.ok sc19 (fun vs H Q E h => ?_) (fun cdv A outer s H vs Q E hr h => ?_)
  · obtain ⟨a, xs, rfl, _⟩ := h
    rfl
  · obtain ⟨a, xs, rfl, ha, q⟩ := h
    refine ⟨_, pss_one (ps_ret (pe_callB call_isiT (by rfl) B.isinst boot_isinstance (pa_cons (pv 0) (pa_cons (pe_tup (pa_cons (pe_bltn (v := .ty "list") (by rfl) B.list boot_list rfl) (pa_cons (pe_bltn (v := .ty "tuple") (by rfl) B.tuple boot_tuple rfl) pa_nil))) pa_nil)))), ?_⟩
    refine ⟨_, rfl, by show 2 ≤ sizeLine; decide, fun T hT => ?_⟩
    have hn : a ≠ T := ne_of_none ha hT
    exact ⟨.ref a, T, _, _, _, true, rfl, upd_same, .cons (.ty _) (.cons (.ty _) .nil), .base (.lst (by rw [upd_ne hn]; exact ha)), by rfl, q _ (Same.upd same_rfl hT)⟩
theorem sc27 : FnScope ["step"] ["step"] (defScope sIsStep) := ⟨rfl, rfl, rfl, by decide +kernel, rfl, by decide +kernel, by decide +kernel⟩
/-- a step -/
structure IsStep (e : Step) : Prop where
  a : 0 ≤ e.1 ∧ e.1 < 100
  b : IsName e.2.1
  c : 0 ≤ e.2.2 ∧ e.2.2 < 100
def spIsStep : Sp := fun vs H Q _ => ∃ a e, vs = [.ref a] ∧ H a = some (.tup (stepV e)) ∧ IsStep e ∧ Q (.bl true) H
theorem ok_isstep {f f1 f2 : Addr} {fd fd1 fd2 : FuncData} (F : Fun K "is_step" "is_step" sIsStep f fd) (B : Bx mg)
    (F1 : GFn P w K mg base 3 f1 fd1 ["value"] gsIsState) (b1 : Binds K fd1 ["value"] []) (m1 : mg "is_state" = some (.ref f1)) (k1 : PySem.W.keepIn K (.ref f1) = true)
    (F2 : FnOk P w K mg base CX0 1 f2 fd2 ["value"] spIsName) (b2 : Binds K fd2 ["value"] []) (m2 : mg "is_name" = some (.ref f2)) (k2 : PySem.W.keepIn K (.ref f2) = true) : FnOk P w K mg base CX0 4 f fd ["step"] spIsStep := by
  refine F.ok sc27 (fun vs H Q E h => ?_) (fun cdv A outer s H vs Q E hr h => ?_)
  · obtain ⟨a, e, rfl, _⟩ := h
    rfl
  · obtain ⟨a, e, rfl, ha, he, q⟩ := h
    refine ⟨_, pss_cons (ps_if (pw_or (pt_not (pt_val (pe_callB call_isi (by rfl) B.isinst boot_isinstance (pa_cons (pv 0) (pa_cons (pe_bltn (v := .ty "tuple") (by rfl) B.tuple boot_tuple rfl) pa_nil)))))
        (pw_or1 (pt_cmpR op_ne (pe_callB call_len_seq (by rfl) B.len boot_len (pa_cons (pv 0) pa_nil)) pe_int (nomark _)))).pt pss_never pss_nil)
      (pss_one (ps_ret (pe_and (pe_call (F1.fn CX0) hr (by rfl) m1 k1 b1 .nil pass0 (pa_cons (pe_ix ix_tup (pv 0) pe_int (fun _ _ => rfl)) pa_nil))
        (pe_and (pe_call F2 (hr.mono (by decide)) (by rfl) m2 k2 b2 .nil pass0 (pa_cons (pe_ix ix_tup (pv 0) pe_int (fun _ _ => rfl)) pa_nil))
          (pe_one (pe_call (F1.fn CX0) hr (by rfl) m1 k1 b1 .nil pass0 (pa_cons (pe_ix ix_tup (pv 0) pe_int (fun _ _ => rfl)) pa_nil))))))), ?_⟩
    have sq : SqT K H a (stepV e) := SqT.of ha
    refine ⟨_, rfl, _, _, _, _, true, rfl, .ty _, .base (.tup ha), by rfl, _, rfl, ?_⟩
    refine iteF ?_
    refine ⟨_, rfl, a, _, rfl, .inr sq, rfl, _, rfl, ?_⟩
    refine iteF ?_
    refine ⟨_, rfl, a, _, _, _, rfl, rfl, sq, atI_nat (j := 0) rfl, e.1, rfl, he.a.1, he.a.2, _, rfl, iteT ?_⟩
    refine ⟨_, rfl, a, _, _, _, rfl, rfl, sq, atI_nat (j := 1) rfl, e.2.1, rfl, he.b, _, rfl, iteT ?_⟩
    exact ⟨_, rfl, a, _, _, _, rfl, rfl, sq, atI_nat (j := 2) rfl, e.2.2, rfl, he.c.1, he.c.2, q⟩
end
end KN
/-! checked_steps. -/
namespace KN
open PySem PySem.Spec PyProof.Rows L2
theorem for_enum {K : PySem.W.Frag} {a : Addr} {xs : List V} {g : TG} {tb : TS} {D : Ends} {σ : St} {H : Hp} (Pv : Nat → St → Hp → Prop) (h0 : Pv 0 σ H) (hl : ∀ i σ H, i ≤ xs.length → Pv i σ H → SqL K H a xs)
    (hs : ∀ i x σ H T, xs[i]? = some x → Pv i σ H → H T = none → g (.ref T) σ (upd H T (.tup [.int (i : Nat), x])) fun σ2 H2 => tb { D with nx := Pv (i + 1), ct := Pv (i + 1), bk := D.nx } σ2 H2) (hd : ∀ σ H, Pv xs.length σ H → D.nx σ H) :
    ∃ W : Nat → Nat → St → Hp → Prop, (∃ m, W 0 m σ H) ∧ ∀ i m σ H, W i m σ H →
      ((Ite K a).stop i H ∧ D.nx σ H) ∨ ((Ite K a).go i H ∧ ∃ N : St → Hp → Prop, (∀ σ' H', N σ' H' → ∃ m', m' < m ∧ W (i + 1) m' σ' H') ∧ ∀ x H', (Ite K a).yld i H x H' → g x σ H' fun σ2 H2 => tb { D with nx := N, ct := N, bk := D.nx } σ2 H2) := by
  refine ⟨fun i m σ H => m = xs.length - i ∧ i ≤ xs.length ∧ Pv i σ H, ⟨xs.length, by simp, Nat.zero_le _, h0⟩, ?_⟩
  rintro i m σ H ⟨rfl, hi, p⟩
  have q := hl i σ H hi p
  by_cases hlt : i < xs.length
  · refine .inr ⟨⟨xs, xs[i], q, by simp [hlt]⟩, Pv (i + 1), fun σ' H' p' => ⟨xs.length - (i + 1), by omega, rfl, hlt, p'⟩, fun x H' y => ?_⟩
    obtain ⟨T, x, rfl, hT, rfl, y⟩ := y
    exact hs i x σ _ T (y xs q) p hT
  · have e : i = xs.length := by omega
    subst e
    exact .inl ⟨⟨xs, q, Nat.le_refl _⟩, hd σ H p⟩
/-! ### a step as data -/
def stepD (e : Step) : PyData := .tuple [.int e.1, .str e.2.1, .int e.2.2]
theorem name_ok {x : Str} (h : IsName x) : PyData.strOk x = true := by
  unfold PyData.strOk
  rw [Array.all_eq_true']
  intro c hc
  have h1 := h.2.2 c (Array.mem_toList_iff.mpr hc)
  have h2 : ∀ c ∈ letters.cps.toList, c < 0x110000 := by decide +kernel
  exact decide_eq_true (h2 c h1)
theorem stepD_lay {e : Step} (h : IsName e.2.1) : (stepD e).canLay0 = true := by simp [stepD, PyData.canLay0, PyData.canLayAll0, name_ok h]
theorem stepD_depth (e : Step) : (stepD e).depth = 1 := by simp [stepD, PyData.depth, PyData.depthAll]
theorem stepDs_lay : ∀ zs : List Step, (∀ e ∈ zs, IsName e.2.1) → PyData.canLayAll0 (zs.map stepD) = true
  | [], _ => by simp [PyData.canLayAll0]
  | z :: zs, h => by simp [PyData.canLayAll0, stepD_lay (h z List.mem_cons_self), stepDs_lay zs fun e he => h e (List.mem_cons_of_mem _ he)]
theorem stepDs_depth : ∀ zs : List Step, PyData.depthAll (zs.map stepD) ≤ 1
  | [] => by simp [PyData.depthAll]
  | z :: zs => by
    have h1 := stepDs_depth zs
    have h2 := stepD_depth z
    simp only [List.map_cons, PyData.depthAll]
    omega
theorem stepD_shaped {e : Step} (hn : IsName e.2.1) : SeqAt.shaped (stepD e) = true := by
  have h := stepD_depth e
  show ((stepD e).canLay0 && decide ((stepD e).depth ≤ 64)) = true
  rw [Bool.and_eq_true]
  exact ⟨stepD_lay hn, decide_eq_true (by omega)⟩
theorem stepDs_shaped {zs : List Step} (hn : ∀ e ∈ zs, IsName e.2.1) : SeqAt.shaped (.list (zs.map stepD)) = true := by
  have h1 := stepDs_depth zs
  have h2 : PyData.depth (.list (zs.map stepD)) ≤ 64 := by
    simp only [PyData.depth]
    omega
  show (PyData.canLay0 (.list (zs.map stepD)) && decide (PyData.depth (.list (zs.map stepD)) ≤ 64)) = true
  rw [Bool.and_eq_true]
  exact ⟨by simp only [PyData.canLay0]; exact stepDs_lay zs hn, decide_eq_true h2⟩
theorem stepD_eqv (e f : Step) : PyData.eqv (stepD e) (stepD f) = decide (e = f) := by
  obtain ⟨a, b, c⟩ := e
  obtain ⟨a', b', c'⟩ := f
  have q : PyData.eqv (stepD (a, b, c)) (stepD (a', b', c')) = ((a == a') && ((b == b') && ((c == c') && true))) := by simp only [stepD, PyData.eqv, PyData.eqvAll]
  rw [q, Bool.eq_iff_iff]
  simp only [Bool.and_eq_true, beq_iff_eq, and_true, decide_eq_true_eq, Prod.mk.injEq]
theorem any_step (zs : List Step) (e : Step) : ((zs.map stepD).any fun z => PyData.eqv z (stepD e)) = decide (e ∈ zs) := by
  rw [Bool.eq_iff_iff, List.any_eq_true, decide_eq_true_iff]
  constructor
  · rintro ⟨z, hz, h⟩
    obtain ⟨f, hf, rfl⟩ := List.mem_map.mp hz
    rw [stepD_eqv, decide_eq_true_iff] at h
    exact h ▸ hf
  · intro h
    exact ⟨_, List.mem_map_of_mem h, by rw [stepD_eqv]; exact decide_eq_true rfl⟩
theorem dp_step {K : PySem.W.Frag} {H : Hp} {a : Addr} {e : Step} (h : H a = some (.tup (stepV e))) : Dp K H (.ref a) (stepD e) :=
  .tup (SqT.of h) (.cons (.int _) (.cons (.str _) (.cons (.int _) .nil)))
theorem dp_steps {K : PySem.W.Frag} {H : Hp} : ∀ {ads : List Addr} {st : List Step}, ads.length = st.length → (∀ (i : Nat) (a : Addr) (e : Step), ads[i]? = some a → st[i]? = some e → H a = some (.tup (stepV e))) → DpAll K H (ads.map .ref) (st.map stepD)
  | [], [], _, _ => .nil
  | [], _ :: _, h, _ => by cases h
  | _ :: _, [], h, _ => by cases h
  | a :: ads, e :: st, h, q => .cons (dp_step (q 0 a e rfl rfl)) (dp_steps (by simpa using h) fun i a e h1 h2 => q (i + 1) a e h1 h2)
/-- the steps lie at these addresses -/
structure StepsAt (H : Hp) (ads : List Addr) (st : List Step) : Prop where
  len : ads.length = st.length
  at_ : ∀ (i : Nat) (a : Addr) (e : Step), ads[i]? = some a → st[i]? = some e → H a = some (.tup (stepV e))
theorem StepsAt.same {H H' : Hp} {ads : List Addr} {st : List Step} (x : StepsAt H ads st) (s : Same H H') : StepsAt H' ads st := ⟨x.len, fun i a e h1 h2 => s _ _ (x.at_ i a e h1 h2)⟩
structure OkSteps (st : List Step) : Prop where
  ne : 1 ≤ st.length
  le : st.length ≤ 80
  ok : ∀ e ∈ st, IsStep e
  nd : st.Nodup
  few : ∀ q : Int, (st.filter fun e => decide (e.1 = q)).length ≤ 8
abbrev sChecked : Stmt := top 26
theorem sc26 : FnScope ["steps", "rows", "counts", "at", "step"] ["steps"] (defScope sChecked) := ⟨rfl, rfl, rfl, by decide +kernel, rfl, by decide +kernel, by decide +kernel⟩
def spChecked : Sp := fun vs H Q _ => ∃ a ads st, vs = [.ref a] ∧ H a = some (.lst (ads.map .ref)) ∧ StepsAt H ads st ∧ OkSteps st ∧ ∀ H' b, Same H H' → H b = none → H' b = some (.lst (ads.map .ref)) → Q (.ref b) H'
theorem hu65 {A : Around} {k : Nat} (hr : Room k A) : A.units + 65 < cLine := by have := hr.un; omega
theorem lt80 {n : Nat} (h : n ≤ 80) : n < sizeLine := Nat.lt_of_le_of_lt h (by decide)
def cntV (n : Nat) : Option V := if n = 0 then none else some (.int (n : Nat))
section
variable {P : Program} {w : World} {K : PySem.W.Frag} {mg : Str → Option Value} {base : Heap}
theorem ok_checked {f f1 f2 : Addr} {fd fd1 fd2 : FuncData} (F : Fun K "checked_steps" "checked_steps" sChecked f fd) (B : Bx mg)
    (F1 : FnOk P w K mg base CX0 1 f1 fd1 ["value"] spIsRow) (b1 : Binds K fd1 ["value"] []) (m1 : mg "is_row" = some (.ref f1)) (k1 : PySem.W.keepIn K (.ref f1) = true)
    (F2 : FnOk P w K mg base CX0 4 f2 fd2 ["step"] spIsStep) (b2 : Binds K fd2 ["step"] []) (m2 : mg "is_step" = some (.ref f2)) (k2 : PySem.W.keepIn K (.ref f2) = true)
    {tk tk2 : Tok} (mS : mg "MOST_STEPS" = some (.int 80 tk)) (mF : mg "MOST_FROM" = some (.int 8 tk2)) : FnOk P w K mg base CX0 5 f fd ["steps"] spChecked := by
  refine F.ok sc26 (fun vs H Q E h => ?_) (fun cdv A outer s H vs Q E hr h => ?_)
  · obtain ⟨a, ads, st, rfl, _⟩ := h
    rfl
  · obtain ⟨a, ads, st, rfl, ha, hst, hok, q⟩ := h
    have hu := hu_of hr
    refine ⟨_, pss_cons (ps_if (pw_or (pt_not (pt_val (pe_call F1 (hr.mono (by decide)) (by rfl) m1 k1 b1 .nil pass0 (pa_cons (pv 0) pa_nil))))
        (pw_or1 (pt_not (pt_chain op_le op_le pe_int (pe_callB call_len_seq (by rfl) B.len boot_len (pa_cons (pv 0) pa_nil)) (pe_glob (v := .int 80) (by rfl) mS ⟨_, rfl⟩))))).pt pss_never pss_nil)
      (pss_cons (ps_set (i := 1) sc26.nd rfl (Or.inl rfl) (pe_lst pa_nil))
      (pss_cons (ps_set (i := 2) sc26.nd rfl (Or.inl rfl) pe_dnewK)
      (pss_cons (ps_for PassesOwn.never rfl (pi_enum (by rfl) B.enum (pa_cons (pv 0) pa_nil)) (pg_tup rfl (pgs_cons (pg_name (i := 3) sc26.nd rfl (Or.inl rfl)) (pgs_cons (pg_name (i := 4) sc26.nd rfl (Or.inl rfl)) pgs_nil)))
        (pss_cons (ps_if (pw_or (pt_not (pt_val (pe_call F2 hr (by rfl) m2 k2 b2 .nil pass0 (pa_cons (pv 4) pa_nil)))) (pw_or1 (pt_cmpR (op_inD (hu65 hr)) (pv 4) (pv 1) (by rfl)))).pt pss_never pss_nil)
        (pss_cons (ps_dput hu (pv 2) (pe_ix ix_tup (pv 4) pe_int (fun _ _ => rfl)) (pe_op op_add (pe_dget2 hu (pv 2) (pe_ix ix_tup (pv 4) pe_int (fun _ _ => rfl)) pe_int ⟨rfl, rfl, rfl, rfl⟩) pe_int) rfl)
        (pss_cons (ps_if (pt_cmpR op_gt (pe_dget hu (pv 2) (pe_ix ix_tup (pv 4) pe_int (fun _ _ => rfl)) (fun _ _ => rfl)) (pe_glob (v := .int 8) (by rfl) mF ⟨_, rfl⟩) (nomark _)) pss_never pss_nil)
        (pss_one (ps_expr (pe_bm PySem.F.plainAttrs_list PySem.F.slot_list_append PySem.F.type_list_append mt_append (pv 1) (pa_cons (pv 4) pa_nil))))))))
      (pss_one (ps_ret (pv 1)))))), ?_⟩
    refine ⟨_, rfl, a, _, rfl, ha, fun H1 s1 => ⟨_, rfl, ?_⟩⟩
    refine iteF ?_
    have ha1 := s1 _ _ ha
    refine ⟨_, rfl, a, _, rfl, .inl (SqL.of ha1), _, _, rfl, rfl, _, rfl, ?_⟩
    have l1 : (ads.map V.ref).length = st.length := by rw [List.length_map, hst.len]
    rw [l1]
    have e1 : decide ((1 : Int) ≤ (st.length : Nat)) = true := decide_eq_true (by have := hok.ne; omega)
    rw [e1]
    refine iteT ⟨_, _, rfl, rfl, _, rfl, ?_⟩
    have e2 : decide (((st.length : Nat) : Int) ≤ 80) = true := decide_eq_true (by have := hok.le; omega)
    rw [e2]
    refine iteF ?_
    refine ⟨by show 0 ≤ sizeLine; decide, fun rl hrl => ?_⟩
    refine fun ct hct => ?_
    have s2 : Same H1 (upd H1 rl (.lst [])) := Same.upd same_rfl hrl
    have s3 : Same H1 (upd (upd H1 rl (.lst [])) ct (.dK [])) := Same.upd s2 (s2.free hct)
    have nrc : rl ≠ ct := ne_of_none upd_same hct
    have hrl0 : H rl = none := s1.free hrl
    refine ⟨_, rfl, a, ads.map V.ref, rfl, SqL.of (s3 _ _ ha1), for_enum (xs := ads.map V.ref) (fun i σ H' => ∃ v3 v4 kvs, σ = [some (.ref a), some (.ref rl), some (.ref ct), v3, v4] ∧ Same H1 H' ∧ H' rl = some (.lst ((ads.take i).map .ref)) ∧ H' ct = some (.dK kvs) ∧ kvs.length ≤ i ∧
        ∀ z : Int, valV kvs (.inl z) = cntV ((st.take i).filter fun e => decide (e.1 = z)).length)
      ⟨_, _, [], rfl, s3, by rw [upd_ne nrc]; exact upd_same, upd_same, Nat.le_refl _, fun z => rfl⟩ (fun i σ H' _ ⟨_, _, _, _, s', _⟩ => SqL.of (s' _ _ ha1)) ?_ ?_⟩
    · rintro i x σ H' T hx ⟨v3, v4, kvs, rfl, s', hr', hc', hkl, hv⟩ hT
      have hi : i < st.length := by
        have := (List.getElem?_eq_some_iff.mp hx).1
        rw [l1] at this; exact this
      obtain ⟨b, hb, rfl⟩ : ∃ b, ads[i]? = some b ∧ V.ref b = x := by
        rw [List.getElem?_map] at hx
        cases e : ads[i]? with
        | none => rw [e] at hx; cases hx
        | some b => rw [e] at hx; exact ⟨b, rfl, Option.some.inj hx⟩
      have he : st[i]? = some st[i] := List.getElem?_eq_getElem hi
      have hb1 := s1 _ _ (hst.at_ i b _ hb he)
      have sT : Same H' (upd H' T (.tup [.int (i : Nat), .ref b])) := Same.upd same_rfl hT
      have hbT := sT _ _ (s' _ _ hb1)
      have hrT := sT _ _ hr'
      have hcT := sT _ _ hc'
      refine ⟨T, _, rfl, SqT.of upd_same, rfl, _, _, rfl, _, _, rfl, rfl, ?_⟩
      -- is_step, in
      have hmem : st[i] ∈ st := List.getElem_mem hi
      refine ⟨_, rfl, b, st[i], rfl, hbT, hok.ok _ hmem, _, rfl, ?_⟩
      refine iteF ?_
      have hin : decide (st[i] ∈ st.take i) = false := decide_eq_false fun z => by
        obtain ⟨j, hj⟩ := List.getElem?_of_mem z
        have hj1 := (List.getElem?_eq_some_iff.mp hj).1
        rw [List.length_take] at hj1
        rw [List.getElem?_take_of_lt (by omega)] at hj
        have hj2 : j < st.length := by omega
        have := (List.getElem?_inj hj2 hok.nd).mp (hj.trans he.symm)
        omega
      refine ⟨_, rfl, _, rfl, stepD st[i], (st.take i).map stepD, dp_step hbT, .lst (SqL.of hrT) (dp_steps (by rw [List.length_take, List.length_take, hst.len]) fun j c e h1 h2 => ?_), stepD_shaped (hok.ok _ hmem).b, stepDs_shaped (fun e he => (hok.ok e (List.mem_of_mem_take he)).b), _, rfl, ?_⟩
      · have hj1 := (List.getElem?_eq_some_iff.mp h1).1
        rw [List.length_take] at hj1
        rw [List.getElem?_take_of_lt (by omega)] at h1 h2
        exact sT _ _ (s' _ _ (s1 _ _ (hst.at_ j c e h1 h2)))
      rw [any_step, hin]
      refine iteF ?_
      -- counts
      have sq : SqT K (upd H' T (.tup [.int (i : Nat), .ref b])) b (stepV st[i]) := SqT.of hbT
      have hcnt : (((st.take (i + 1)).filter fun e => decide (e.1 = st[i].1)).length) = ((st.take i).filter fun e => decide (e.1 = st[i].1)).length + 1 := by
        rw [List.take_add_one, he, List.filter_append, List.length_append]
        simp
      have hget : (valV kvs (.inl st[i].1)).getD (.int 0) = .int (((st.take i).filter fun e => decide (e.1 = st[i].1)).length : Nat) := by
        rw [hv]
        unfold cntV
        split
        · rename_i e; rw [e]; rfl
        · rfl
      refine ⟨_, rfl, ct, rfl, .inl ⟨kvs, .inl hcT⟩, _, rfl, b, _, _, _, rfl, rfl, sq, atI_nat (j := 0) rfl, _, DGet.k (k := Sum.inl st[i].1) hcT, ?_⟩
      rw [hget]
      refine ⟨_, _, rfl, rfl, ?_⟩
      refine ⟨_, rfl, _, rfl, b, _, _, _, rfl, rfl, sq, atI_nat (j := 0) rfl, ct, _, rfl, DPut.k (k := Sum.inl st[i].1) hcT (Nat.lt_of_le_of_lt hkl (Nat.lt_of_lt_of_le hi (Nat.le_trans hok.le (by decide)))), ?_⟩
      have nbc : b ≠ ct := fun z => by subst z; rw [hbT] at hcT; cases hcT
      have nrc' : rl ≠ ct := nrc
      have hb4 : ∀ o, upd (upd H' T (.tup [.int (i : Nat), .ref b])) ct o b = some (.tup (stepV st[i])) := fun o => by rw [upd_ne nbc]; exact hbT
      have hr4 : ∀ o, upd (upd H' T (.tup [.int (i : Nat), .ref b])) ct o rl = some (.lst ((ads.take i).map .ref)) := fun o => by rw [upd_ne nrc]; exact hrT
      have hfew : ((st.take (i + 1)).filter fun e => decide (e.1 = st[i].1)).length ≤ 8 := Nat.le_trans ((List.take_sublist _ _).filter _).length_le (hok.few _)
      refine ⟨_, rfl, _, rfl, b, _, _, _, rfl, rfl, SqT.of (hb4 _), atI_nat (j := 0) rfl, ct, .int (((st.take i).filter fun e => decide (e.1 = st[i].1)).length + 1 : Int), rfl, .inl ⟨_, .inl st[i].1, .inl upd_same, rfl, ?_⟩, ?_⟩
      · rw [valV_put, if_pos rfl]
      refine ⟨_, _, rfl, rfl, _, rfl, ?_⟩
      have e8 : decide ((8 : Int) < (((st.take i).filter fun e => decide (e.1 = st[i].1)).length + 1 : Int)) = false := decide_eq_false (by rw [hcnt] at hfew; omega)
      rw [e8]
      refine iteF ?_
      refine ⟨_, rfl, .inl ⟨rfl, _, SqL.of (hr4 _)⟩, _, rfl, rl, _, _, rfl, rfl, hr4 _, lt80 (by rw [List.length_map, List.length_take]; have h1 := hok.le; omega), ?_⟩
      refine ⟨_, _, putK kvs (.inl st[i].1) (.int (((st.take i).filter fun e => decide (e.1 = st[i].1)).length + 1 : Int)), rfl, ?_, ?_, ?_, Nat.le_trans (length_putK kvs _ _) (by omega), fun z => ?_⟩
      · intro c o e
        have nc1 : c ≠ rl := fun z => by subst z; rw [hrl] at e; cases e
        have nc2 : c ≠ ct := fun z => by
          subst z
          rw [s2.free hct] at e; cases e
        rw [upd_ne nc1, upd_ne nc2]
        exact sT _ _ (s' _ _ e)
      · rw [upd_same, List.take_add_one, hb, List.map_append]; rfl
      · rw [upd_ne nrc.symm]; exact upd_same
      · rw [valV_put]
        by_cases hz : z = st[i].1
        · subst hz
          rw [if_pos rfl, hcnt]
          unfold cntV
          rw [if_neg (by omega)]
          rfl
        · rw [if_neg fun q => hz (Sum.inl.inj q), hv]
          congr 2
          rw [List.take_add_one, he, List.filter_append]
          have : [st[i]].filter (fun e => decide (e.1 = z)) = [] := by
            rw [List.filter_cons_of_neg (by simpa using fun q => hz q.symm)]
            rfl
          show _ = List.filter _ (st.take i) ++ [st[i]].filter (fun e => decide (e.1 = z))
          rw [this, List.append_nil]
    · rintro σ H' ⟨v3, v4, kvs, rfl, s', hr', _⟩
      rw [List.length_map, List.take_length] at hr'
      exact ⟨_, rfl, q H' rl (s1.trans s') hrl0 hr'⟩
end
end KN
/-! leaving_table. -/
namespace KN
open PySem PySem.Spec PyProof.Rows L2
def numsTo (st : List Step) (q : Int) (i : Nat) : List Nat := (List.range i).filter fun j => decide ((st[j]?.map fun e => e.1) = some q)
theorem numsTo_all (st : List Step) (q : Int) : numsTo st q st.length = nums st q := rfl
theorem numsTo_succ {st : List Step} {q : Int} {i : Nat} {e : Step} (he : st[i]? = some e) : numsTo st q (i + 1) = numsTo st q i ++ if e.1 = q then [i] else [] := by
  unfold numsTo
  rw [List.range_succ, List.filter_append]
  congr 1
  by_cases h : e.1 = q
  · rw [if_pos h, List.filter_cons_of_pos (by rw [he]; simp [h])]
    rfl
  · rw [if_neg h, List.filter_cons_of_neg (by rw [he]; simp [h])]
    rfl
theorem numsTo_len {st : List Step} {q : Int} {i : Nat} : (numsTo st q i).length ≤ i := Nat.le_trans (List.length_filter_le _ _) (by rw [List.length_range]; exact Nat.le_refl _)
abbrev sLeaving : Stmt := top 29
theorem sc29 : FnScope ["rows", "table", "number", "row", "known"] ["rows"] (defScope sLeaving) := ⟨rfl, rfl, rfl, by decide +kernel, rfl, by decide +kernel, by decide +kernel⟩
/-- the table of what leaves each state -/
structure LeavAt (H0 H : Hp) (tb : Addr) (kvs : List (Key × V)) (nn : Int → List Nat) : Prop where
  tab : H tb = some (.dK kvs)
  l1 : ∀ q, nn q = [] → valV kvs (.inl q) = none
  l2 : ∀ q, nn q ≠ [] → ∃ a, valV kvs (.inl q) = some (.ref a) ∧ H a = some (.lst ((nn q).map natV)) ∧ H0 a = none ∧ a ≠ tb
def spLeaving : Sp := fun vs H Q _ => ∃ a ads st, vs = [.ref a] ∧ H a = some (.lst (ads.map .ref)) ∧ StepsAt H ads st ∧ st.length ≤ 80 ∧ ∀ H' tb kvs, Same H H' → H tb = none → LeavAt H H' tb kvs (nums st) → Q (.ref tb) H'
section
variable {P : Program} {w : World} {K : PySem.W.Frag} {mg : Str → Option Value} {base : Heap}
theorem ok_leaving {f : Addr} {fd : FuncData} (F : Fun K "leaving_table" "leaving_table" sLeaving f fd) (B : Bx mg) : FnOk P w K mg base CX0 1 f fd ["rows"] spLeaving := by
  refine F.ok sc29 (fun vs H Q E h => ?_) (fun cdv A outer s H vs Q E hr h => ?_)
  · obtain ⟨a, ads, st, rfl, _⟩ := h
    rfl
  · obtain ⟨a, ads, st, rfl, ha, hst, hle, q⟩ := h
    have hu := hu_of hr
    refine ⟨_, pss_cons (ps_set (i := 1) sc29.nd rfl (Or.inl rfl) pe_dnewK)
      (pss_cons (ps_for PassesOwn.never rfl (pi_enum (by rfl) B.enum (pa_cons (pv 0) pa_nil)) (pg_tup rfl (pgs_cons (pg_name (i := 2) sc29.nd rfl (Or.inl rfl)) (pgs_cons (pg_name (i := 3) sc29.nd rfl (Or.inl rfl)) pgs_nil)))
        (pss_cons (ps_set (i := 4) sc29.nd rfl (Or.inl rfl) (pe_dsetd (pv 1) (pe_ix ix_tup (pv 3) pe_int (fun _ _ => rfl)) (pe_lst pa_nil) ⟨rfl, rfl, rfl, rfl⟩))
        (pss_one (ps_expr (pe_bm PySem.F.plainAttrs_list PySem.F.slot_list_append PySem.F.type_list_append mt_append (pv 4) (pa_cons (pv 2) pa_nil))))))
      (pss_one (ps_ret (pv 1)))), ?_⟩
    refine fun tb htb => ?_
    have s0 : Same H (upd H tb (.dK [])) := Same.upd same_rfl htb
    have l1 : (ads.map V.ref).length = st.length := by rw [List.length_map, hst.len]
    refine ⟨_, rfl, a, ads.map V.ref, rfl, SqL.of (s0 _ _ ha), for_enum (xs := ads.map V.ref) (fun i σ H' => ∃ v2 v3 v4 kvs, σ = [some (.ref a), some (.ref tb), v2, v3, v4] ∧ Same H H' ∧ kvs.length ≤ i ∧ LeavAt H H' tb kvs (fun q => numsTo st q i) ∧
        ∀ q q' c, valV kvs (.inl q) = some (.ref c) → valV kvs (.inl q') = some (.ref c) → q = q')
      ⟨_, _, _, [], rfl, s0, Nat.le_refl _, ⟨upd_same, fun q _ => rfl, fun q h => absurd rfl h⟩, fun q q' c h => by cases h⟩ (fun i σ H' _ ⟨_, _, _, _, _, s', _⟩ => SqL.of (s' _ _ ha)) ?_ ?_⟩
    · rintro i x σ H' T hx ⟨v2, v3, v4, kvs, rfl, s', hkl, L, inj⟩ hT
      have hi : i < st.length := by
        have := (List.getElem?_eq_some_iff.mp hx).1
        rw [l1] at this; exact this
      obtain ⟨b, hb, rfl⟩ : ∃ b, ads[i]? = some b ∧ V.ref b = x := by
        rw [List.getElem?_map] at hx
        cases e : ads[i]? with
        | none => rw [e] at hx; cases hx
        | some b => rw [e] at hx; exact ⟨b, rfl, Option.some.inj hx⟩
      have he : st[i]? = some st[i] := List.getElem?_eq_getElem hi
      have hb0 := hst.at_ i b _ hb he
      have sT : Same H' (upd H' T (.tup [.int (i : Nat), .ref b])) := Same.upd same_rfl hT
      have hbT := sT _ _ (s' _ _ hb0)
      have htT := sT _ _ L.tab
      have hT0 : H T = none := s'.free hT
      refine ⟨T, _, rfl, SqT.of upd_same, rfl, _, _, rfl, _, _, rfl, rfl, ?_⟩
      refine ⟨_, rfl, tb, rfl, .inl ⟨kvs, .inl htT⟩, _, rfl, b, _, _, _, rfl, rfl, SqT.of hbT, atI_nat (j := 0) rfl, by show 0 ≤ sizeLine; decide, fun nl hnl => ?_⟩
      have sN := Same.upd (o := HO.lst []) same_rfl hnl
      have ntn : tb ≠ nl := ne_of_none htT hnl
      have nTn : T ≠ nl := fun z => by subst z; rw [upd_same] at hnl; cases hnl
      have hnl' : H' nl = none := by rw [upd_ne nTn.symm] at hnl; exact hnl
      have hkl2 : kvs.length < sizeLine := lt80 (by omega)
      refine ⟨kvs, .inl st[i].1, sN _ _ htT, rfl, hkl2, fun v hv => ?_, fun hv => ?_⟩
      · -- there is a list
        have hne : numsTo st st[i].1 i ≠ [] := fun z => by rw [L.l1 _ z] at hv; cases hv
        obtain ⟨c, hc, hcl, hc0, hct⟩ := L.l2 _ hne
        rw [hc] at hv
        have hv : V.ref c = v := Option.some.inj hv
        subst hv
        have hcT := sN _ _ (sT _ _ hcl)
        refine ⟨_, rfl, .inl ⟨rfl, _, SqL.of hcT⟩, _, rfl, c, _, _, rfl, rfl, hcT, lt80 (by rw [List.length_map]; exact Nat.le_trans numsTo_len (by omega)), ?_⟩
        refine ⟨_, _, _, kvs, rfl, ?_, by omega, ⟨?_, fun z hz => ?_, fun z hz => ?_⟩, inj⟩
        · intro d o e
          have nd : d ≠ c := fun z => by subst z; rw [hc0] at e; cases e
          rw [upd_ne nd]
          exact sN _ _ (sT _ _ (s' _ _ e))
        · rw [upd_ne hct.symm]; exact sN _ _ htT
        · have hz : numsTo st z (i + 1) = [] := hz
          rw [numsTo_succ he, List.append_eq_nil_iff] at hz
          exact L.l1 z hz.1
        · have hz : numsTo st z (i + 1) ≠ [] := hz
          simp only [numsTo_succ (q := z) he] at hz ⊢
          by_cases ez : st[i].1 = z
          · subst ez
            exact ⟨c, hc, by rw [upd_same, if_pos rfl, List.map_append]; rfl, hc0, hct⟩
          · rw [if_neg ez, List.append_nil] at hz ⊢
            obtain ⟨c2, h1, h2, h3, h4⟩ := L.l2 z hz
            have nc : c2 ≠ c := fun q => by subst q; exact ez (inj _ _ _ hc h1)
            exact ⟨c2, h1, by rw [upd_ne nc]; exact sN _ _ (sT _ _ h2), h3, h4⟩
      · -- a new one
        have hni : numsTo st st[i].1 i = [] := by
          cases e : numsTo st st[i].1 i with
          | nil => rfl
          | cons _ _ =>
            obtain ⟨c, hc, _⟩ := L.l2 st[i].1 (by rw [e]; exact fun z => by cases z)
            rw [hc] at hv; cases hv
        have hnn : ∀ o, upd (upd (upd H' T (.tup [.int (i : Nat), .ref b])) nl (.lst [])) tb o nl = some (.lst []) := fun o => by rw [upd_ne ntn.symm, upd_same]
        refine ⟨_, rfl, .inl ⟨rfl, _, SqL.of (hnn _)⟩, _, rfl, nl, _, _, rfl, rfl, hnn _, by show 0 < sizeLine; decide, ?_⟩
        refine ⟨_, _, _, putK kvs (.inl st[i].1) (.ref nl), rfl, ?_, Nat.le_trans (length_putK kvs _ _) (by omega), ⟨?_, fun z hz => ?_, fun z hz => ?_⟩, fun z z' c h1 h2 => ?_⟩
        · intro d o e
          have n1 : d ≠ nl := fun z => by subst z; rw [s'.free hnl'] at e; cases e
          have n2 : d ≠ tb := fun z => by subst z; rw [htb] at e; cases e
          rw [upd_ne n1, upd_ne n2]
          exact sN _ _ (sT _ _ (s' _ _ e))
        · rw [upd_ne ntn, upd_same]
        · have hz : numsTo st z (i + 1) = [] := hz
          rw [numsTo_succ he, List.append_eq_nil_iff] at hz
          have ne : st[i].1 ≠ z := fun q => by rw [if_pos q] at hz; exact absurd hz.2 (by simp)
          rw [valV_put, if_neg fun q => ne (Sum.inl.inj q).symm]
          exact L.l1 z hz.1
        · have hz : numsTo st z (i + 1) ≠ [] := hz
          simp only [numsTo_succ (q := z) he] at hz ⊢
          by_cases ez : st[i].1 = z
          · subst ez
            exact ⟨nl, by rw [valV_put, if_pos rfl], by rw [upd_same, if_pos rfl, hni]; rfl, s'.free hnl', ntn.symm⟩
          · rw [if_neg ez, List.append_nil] at hz ⊢
            obtain ⟨c2, h1, h2, h3, h4⟩ := L.l2 z hz
            have n1 : c2 ≠ nl := fun q => by subst q; rw [h2] at hnl'; cases hnl'
            exact ⟨c2, by rw [valV_put, if_neg fun q => ez (Sum.inl.inj q).symm]; exact h1, by rw [upd_ne n1, upd_ne h4]; exact sN _ _ (sT _ _ h2), h3, h4⟩
        · rw [valV_put] at h1 h2
          have hnc : ∀ y, valV kvs (.inl y) = some (.ref nl) → False := fun y e => by
            by_cases e0 : numsTo st y i = []
            · rw [L.l1 y e0] at e; cases e
            · obtain ⟨c2, g1, g2, _⟩ := L.l2 y e0
              rw [e] at g1
              cases g1
              rw [hnl'] at g2; cases g2
          by_cases e1 : (Sum.inl z : Key) = .inl st[i].1
          · by_cases e2 : (Sum.inl z' : Key) = .inl st[i].1
            · exact (Sum.inl.inj e1).trans (Sum.inl.inj e2).symm
            · rw [if_pos e1] at h1
              rw [if_neg e2] at h2
              cases h1
              exact (hnc _ h2).elim
          · rw [if_neg e1] at h1
            by_cases e2 : (Sum.inl z' : Key) = .inl st[i].1
            · rw [if_pos e2] at h2
              cases h2
              exact (hnc _ h1).elim
            · rw [if_neg e2] at h2
              exact inj _ _ _ h1 h2
    · rintro σ H' ⟨v2, v3, v4, kvs, rfl, s', _, L, _⟩
      rw [l1] at L
      exact ⟨_, rfl, q H' tb kvs s' htb L⟩
end
end KN
/-! reached_states. -/
namespace KN
open PySem PySem.Spec PyProof.Rows L2
theorem pt_list {X : Cx} {e : Expr} {t : TE} (h : PE X e t) (he : ∀ whole, isTrue e X.env whole = (do let v ← whole; standAt e.pos; holding [v] (truthy v)) := by intro _; rfl) :
    PT X e (fun σ H Q => t σ H fun x H' => ∃ p xs, x = .ref p ∧ SqL X.K H' p xs ∧ Q (!xs.isEmpty) H') := by
  refine ⟨fun pins s σ H Q I hw => ?_⟩
  refine isTrue_plain (thn (h.run pins s σ H _ I hw) ?_) (he _)
  rintro v s1 ⟨x, H1, I1, r1, p, xs, rfl, hx, q⟩
  exact tru_ok pins s1 σ H1 _ v Q I1 r1 ⟨_, .inl ⟨xs, hx, rfl⟩, q⟩
abbrev sReached : Stmt := top 30
abbrev nReached : List Str := ["start", "rows", "leaving", "met", "waiting", "state", "number", "target"]
theorem sc30 : FnScope nReached ["start", "rows", "leaving"] (defScope sReached) := ⟨rfl, rfl, rfl, by decide +kernel, rfl, by decide +kernel, by decide +kernel⟩
def spReached : Sp := fun vs H Q _ => ∃ (q0 : Int) (rl lv : Addr) (H0 : Hp) (ads : List Addr) (st : List Step) (kvs : List (Key × V)), vs = [.int q0, .ref rl, .ref lv] ∧ H rl = some (.lst (ads.map .ref)) ∧ StepsAt H ads st ∧ st.length ≤ 80 ∧ LeavAt H0 H lv kvs (nums st) ∧
  Small st ∧ (0 ≤ q0 ∧ q0 < 100) ∧ ∀ (H' : Hp) (p : Addr), Same H H' → H p = none → H' p = some (.lst ((clo st [] [q0]).map .int)) → Q (.ref p) H'
section
variable {P : Program} {w : World} {K : PySem.W.Frag} {mg : Str → Option Value} {base : Heap}
theorem ok_reached {f : Addr} {fd : FuncData} (F : Fun K "reached_states" "reached_states" sReached f fd) (B : Bx mg) : FnOk P w K mg base CX0 1 f fd ["start", "rows", "leaving"] spReached := by
  refine F.ok sc30 (fun vs H Q E h => ?_) (fun cdv A outer s H vs Q E hr h => ?_)
  · obtain ⟨_, _, _, _, _, _, _, rfl, _⟩ := h
    rfl
  · obtain ⟨q0, rl, lv, H0, ads, st, kvs, rfl, hrl, hst, hle, L, sm, s0, k⟩ := h
    have hu := hu_of hr
    refine ⟨_, pss_cons (ps_set (i := 3) sc30.nd rfl (Or.inl rfl) (pe_disp (pps_cons (pv 0) pe_bl pps_nil) rfl rfl (by simp) (by decide)))
      (pss_cons (ps_set (i := 4) sc30.nd rfl (Or.inl rfl) (pe_lst (pa_cons (pv 0) pa_nil)))
      (pss_cons (ps_while PassesOwn.never (pt_list (pv 4))
        (pss_cons (ps_set (i := 5) sc30.nd rfl (Or.inl rfl) (pe_bm0 PySem.F.plainAttrs_list PySem.F.slot_list_pop PySem.F.type_list_pop mt_pop (pv 4)))
        (pss_one (ps_for PassesOwn.never rfl (pi_list (pe_dget2 hu (pv 2) (pv 5) (pe_lst pa_nil) ⟨rfl, rfl, rfl, rfl⟩)) (pg_name (i := 6) sc30.nd rfl (Or.inl rfl))
          (pss_cons (ps_set (i := 7) sc30.nd rfl (Or.inl rfl) (pe_ix ix_tup (pe_ix ix_list (pv 1) (pv 6) (fun _ _ => rfl)) pe_int (fun _ _ => rfl)))
          (pss_one (ps_if (pt_cmp (pc_dnotin hu (pv 7) (pv 3)) (by rfl))
            (pss_cons (ps_dput hu (pv 3) (pv 7) pe_bl rfl)
            (pss_one (ps_expr (pe_bm PySem.F.plainAttrs_list PySem.F.slot_list_append PySem.F.type_list_append mt_append (pv 4) (pa_cons (pv 7) pa_nil)))))
            pss_nil)))))))
      (pss_one (ps_ret (pe_callB cr_sortedI (by rfl) B.sorted (by rfl) (pa_cons (pe_callTy (call_listD rfl) (by rfl) B.list (by rfl) (pa_cons (pv 3) pa_nil)) pa_nil)))))), ?_⟩
    refine fun md hmd => ⟨_, rfl, ?_⟩
    refine ⟨upd_same, [(.inl q0, .bl true)], rfl, by show 1 ≤ 15; decide, ?_⟩
    have em : mergeK [] [((Sum.inl q0 : Key), V.bl true)] = setK [q0] := rfl
    rw [em]
    refine ⟨_, rfl, by show 1 ≤ sizeLine; decide, fun wl hwl => ?_⟩
    have hmd1 : upd (upd H md (.dK [])) md (.dK (setK [q0])) md = some (.dK (setK [q0])) := upd_same
    have s1 : Same H (upd (upd H md (.dK [])) md (.dK (setK [q0]))) := (Same.upd same_rfl hmd).upd hmd
    have hwl0 : H wl = none := s1.free hwl
    have nmw : md ≠ wl := ne_of_none hmd1 hwl
    have w0 : CI st [] [q0] [q0] [q0] fun _ => False := ⟨by simp, fun k hk => by rw [List.mem_singleton.mp hk]; exact s0, fun k hk => .base hk, fun k hk => hk, fun k hk => hk, fun k h1 h2 => absurd h1 h2⟩
    -- the loop
    refine ⟨fun m σ H' => ∃ (ks ws : List Int) (v5 v6 v7 : Option V), σ = [some (.int q0), some (.ref rl), some (.ref lv), some (.ref md), some (.ref wl), v5, v6, v7] ∧ Same H H' ∧ H' md = some (.dK (setK ks)) ∧ H' wl = some (.lst (ws.map .int)) ∧ CI st [] [q0] ks ws (fun _ => False) ∧ m = 2 * (100 - ks.length) + ws.length ∧ m ≤ 200,
      ⟨_, [q0], [q0], none, none, none, rfl, s1.upd hwl0, by rw [upd_ne nmw]; exact hmd1, upd_same, w0, rfl, by show 2 * (100 - 1) + 1 ≤ 200; decide⟩, ?_⟩
    rintro m σ H2 ⟨ks, ws, v5, v6, v7, rfl, s2, hd2, hw2, c2, rfl, m200⟩
    refine ⟨_, rfl, wl, _, rfl, SqL.of hw2, ?_⟩
    rcases list_snoc ws with rfl | ⟨ws0, q, rfl⟩
    · refine iteF ⟨_, rfl, md, setK ks, rfl, .inl hd2, fun l hl => ?_⟩
      rw [setK_keys]
      refine ⟨l, ks, rfl, SqL.of upd_same, fun ns p hp hpw hpn => ?_⟩
      have e : ns = clo st [] [q0] := clo_of sm (fun q hq => by rw [List.mem_singleton.mp hq]; exact s0) c2.sound c2.base (fun k hk t u => c2.closed k hk (by simp) (fun z => z) t u) hp c2.nd hpw
      subst e
      have s3 : Same H (upd H2 l (.lst (ks.map .int))) := s2.upd (s2.free hl)
      exact k _ p (s3.upd (s3.free hpn)) (s3.free hpn) upd_same
    · rw [show (!((ws0 ++ [q]).map V.int).isEmpty) = true by simp]
      refine iteT ⟨fun σ' H' => ∃ m', m' < 2 * (100 - ks.length) + (ws0 ++ [q]).length ∧ ∃ (ks ws : List Int) (v5 v6 v7 : Option V), σ' = [some (.int q0), some (.ref rl), some (.ref lv), some (.ref md), some (.ref wl), v5, v6, v7] ∧ Same H H' ∧ H' md = some (.dK (setK ks)) ∧ H' wl = some (.lst (ws.map .int)) ∧ CI st [] [q0] ks ws (fun _ => False) ∧ m' = 2 * (100 - ks.length) + ws.length ∧ m' ≤ 200,
        fun _ _ z => z, ?_⟩
      refine ⟨_, rfl, .inl ⟨rfl, _, SqL.of hw2⟩, wl, _, .int q, rfl, rfl, hw2, by simp, ?_⟩
      rw [show ((ws0 ++ [q]).map V.int).dropLast = ws0.map V.int by simp]
      have hd3 : upd H2 wl (.lst (ws0.map V.int)) md = some (.dK (setK ks)) := by rw [upd_ne nmw]; exact hd2
      have s3 : Same H (upd H2 wl (.lst (ws0.map V.int))) := s2.upd hwl0
      have hq : q ∈ ks := c2.sub q (List.mem_append_right _ (List.mem_singleton.mpr rfl))
      -- leaving.get(state, [])
      refine ⟨_, rfl, lv, rfl, .inl ⟨kvs, .inl (s3 _ _ L.tab)⟩, _, rfl, by show 0 ≤ sizeLine; decide, fun nz hnz => ?_⟩
      have s4z : Same (upd H2 wl (.lst (ws0.map V.int))) (upd (upd H2 wl (.lst (ws0.map V.int))) nz (.lst [])) := Same.upd same_rfl hnz
      refine ⟨_, DGet.k (k := Sum.inl q) (s4z _ _ (s3 _ _ L.tab)), ?_⟩
      obtain ⟨nl, hnlv, hl4, hnl⟩ : ∃ nl, (valV kvs (.inl q)).getD (.ref nz) = .ref nl ∧ upd (upd H2 wl (.lst (ws0.map V.int))) nz (.lst []) nl = some (.lst ((nums st q).map natV)) ∧ nl ≠ md ∧ nl ≠ wl := by
        by_cases e : nums st q = []
        · rw [L.l1 q e, e]
          exact ⟨nz, rfl, upd_same, (ne_of_none hd3 hnz).symm, (ne_of_none (H := upd H2 wl (.lst (ws0.map V.int))) upd_same hnz).symm⟩
        · obtain ⟨c, h1, h2, _⟩ := L.l2 q e
          rw [h1]
          exact ⟨c, rfl, s4z _ _ (s3 _ _ h2), (fun z => by subst z; rw [hmd] at h2; cases h2), (fun z => by subst z; rw [hwl0] at h2; cases h2)⟩
      rw [hnlv]
      have nnm := hnl.1
      have nnw := hnl.2
      have s4' : Same H (upd (upd H2 wl (.lst (ws0.map V.int))) nz (.lst [])) := fun b o e => s4z _ _ (s3 _ _ e)
      refine ⟨nl, rfl, ⟨_, SqL.of hl4⟩, ?_⟩
      refine for_list (a := nl) (xs := (nums st q).map natV) (fun i σ' H' => ∃ (ks' ws' : List Int) (v6 v7 : Option V), σ' = [some (.int q0), some (.ref rl), some (.ref lv), some (.ref md), some (.ref wl), some (.int q), v6, v7] ∧ Same H H' ∧ H' nl = some (.lst ((nums st q).map natV)) ∧
          H' md = some (.dK (setK ks')) ∧ H' wl = some (.lst (ws'.map .int)) ∧ CI st [] [q0] ks' ws' (· = q) ∧ q ∈ ks' ∧ 2 * (100 - ks'.length) + ws'.length ≤ 2 * (100 - ks.length) + ws0.length ∧
          ∀ j n e, j < i → (nums st q)[j]? = some n → st[n]? = some e → e.2.2 ∈ ks')
        ⟨ks, ws0, v6, v7, rfl, s4', hl4, s4z _ _ hd3, s4z _ _ upd_same, c2.pop, hq, Nat.le_refl _, fun j n e h => absurd h (Nat.not_lt_zero _)⟩ (fun i σ' H' _ ⟨_, _, _, _, _, _, hl, _⟩ => SqL.of hl) ?_ ?_
      · rintro i x σ' H5 hi ⟨ks', ws', v6, v7, rfl, s5, hl5, hd5, hw5, c5, hq5, mu5, pr5⟩
        obtain ⟨n, hn, rfl⟩ : ∃ n, (nums st q)[i]? = some n ∧ x = natV n := by
          rw [List.getElem?_map] at hi
          cases e : (nums st q)[i]? with
          | none => rw [e] at hi; cases hi
          | some n => rw [e] at hi; exact ⟨n, rfl, (Option.some.inj hi).symm⟩
        obtain ⟨e, he, eq1⟩ := mem_nums.mp (List.mem_of_getElem? hn)
        obtain ⟨ra, hra⟩ : ∃ ra, ads[n]? = some ra := by
          have hlt := (List.getElem?_eq_some_iff.mp he).1
          exact ⟨_, List.getElem?_eq_getElem (by rw [hst.len]; exact hlt)⟩
        have hrow := s5 _ _ (hst.at_ n ra e hra he)
        refine ⟨_, rfl, _, rfl, rl, _, n, .ref ra, rfl, rfl, SqL.of (s5 _ _ hrl), atI_nat (by rw [List.getElem?_map, hra]; rfl), ra, _, 2, .int e.2.2, rfl, rfl, SqT.of hrow, atI_nat (j := 2) rfl, ?_⟩
        refine ⟨_, rfl, _, rfl, md, _, rfl, DGet.k (k := Sum.inl e.2.2) hd5, _, rfl, ?_⟩
        rw [setK_has]
        have stay : ∀ v : Option V, (e.2.2 ∈ ks') → ∃ (ks' ws' : List Int) (v6 v7 : Option V), [some (V.int q0), some (.ref rl), some (.ref lv), some (.ref md), some (.ref wl), some (.int q), some (natV n), v] = [some (.int q0), some (.ref rl), some (.ref lv), some (.ref md), some (.ref wl), some (.int q), v6, v7] ∧ Same H H5 ∧ H5 nl = some (.lst ((nums st q).map natV)) ∧
          H5 md = some (.dK (setK ks')) ∧ H5 wl = some (.lst (ws'.map .int)) ∧ CI st [] [q0] ks' ws' (· = q) ∧ q ∈ ks' ∧ 2 * (100 - ks'.length) + ws'.length ≤ 2 * (100 - ks.length) + ws0.length ∧
          ∀ j n e, j < i + 1 → (nums st q)[j]? = some n → st[n]? = some e → e.2.2 ∈ ks' := fun v hv => by
          refine ⟨ks', ws', some (natV n), v, rfl, s5, hl5, hd5, hw5, c5, hq5, mu5, fun j n' e' hj hn' he' => ?_⟩
          rcases Nat.lt_succ_iff_lt_or_eq.mp hj with z | z
          · exact pr5 j n' e' z hn' he'
          · subst z
            rw [hn] at hn'
            cases hn'
            rw [he] at he'
            cases he'
            exact hv
        by_cases hm : e.2.2 ∈ ks'
        · rw [decide_eq_true hm]
          exact iteF (stay _ hm)
        · rw [decide_eq_false hm]
          have hu' : unseen st [] q e.2.2 := ⟨e, List.mem_of_getElem? he, eq1, rfl, rfl⟩
          have c6 := c5.add sm hq5 hu'
          have l5 := c5.len
          refine iteT ⟨_, rfl, _, rfl, md, _, rfl, DPut.k (k := Sum.inl e.2.2) hd5 (by rw [setK_len]; exact lt100 l5), ?_⟩
          rw [setK_put]
          have s6 : Same H (upd H5 md (.dK (setK (addS ks' e.2.2)))) := s5.upd hmd
          have hw6 : upd H5 md (.dK (setK (addS ks' e.2.2))) wl = some (.lst (ws'.map .int)) := by rw [upd_ne nmw.symm]; exact hw5
          have lw : ws'.length ≤ 300 := by
            rw [List.length_append, List.length_singleton] at m200
            omega
          refine ⟨_, rfl, .inl ⟨rfl, _, SqL.of hw6⟩, _, rfl, wl, _, .int e.2.2, rfl, rfl, hw6, by rw [List.length_map]; exact Nat.lt_of_le_of_lt lw (by decide), ?_⟩
          rw [show ws'.map V.int ++ [V.int e.2.2] = (ws' ++ [e.2.2]).map V.int by simp]
          refine ⟨addS ks' e.2.2, ws' ++ [e.2.2], some (natV n), _, rfl, s6.upd hwl0, ?_, ?_, upd_same, c6, mem_addS.mpr (.inl hq5), ?_, fun j n' e' hj hn' he' => ?_⟩
          · rw [upd_ne nnw, upd_ne nnm]; exact hl5
          · rw [upd_ne nmw, upd_same]
          · have h1 := c6.len
            rw [addS_new hm, List.length_append, List.length_singleton] at h1 ⊢
            rw [List.length_append, List.length_singleton]
            omega
          · rcases Nat.lt_succ_iff_lt_or_eq.mp hj with z | z
            · exact mem_addS.mpr (.inl (pr5 j n' e' z hn' he'))
            · subst z
              rw [hn] at hn'
              cases hn'
              rw [he] at he'
              cases he'
              exact mem_addS.mpr (.inr rfl)
      · rintro σ' H5 ⟨ks', ws', v6, v7, rfl, s5, hl5, hd5, hw5, c5, hq5, mu5, pr5⟩
        rw [List.length_append, List.length_singleton] at m200
        refine ⟨2 * (100 - ks'.length) + ws'.length, ?_, ks', ws', some (.int q), v6, v7, rfl, s5, hd5, hw5, c5.done fun t u => ?_, rfl, by omega⟩
        · rw [List.length_append, List.length_singleton]
          omega
        · obtain ⟨e, he, e1, rfl, _⟩ := u
          obtain ⟨n, hn⟩ := List.getElem?_of_mem he
          have hm : n ∈ nums st q := mem_nums.mpr ⟨e, hn, e1⟩
          obtain ⟨j, hj⟩ := List.getElem?_of_mem hm
          have hlt := (List.getElem?_eq_some_iff.mp hj).1
          exact pr5 j n e (by rw [List.length_map]; exact hlt) hj hn
end
end KN
/-! is_sight_table, checked_faults. -/
namespace KN
open PySem PySem.Spec PyProof.Rows L2
theorem for_items {d : Addr} {o : Obj} {kvs : List (Key × V)} {g : TG} {tb : TS} {D : Ends} {σ : St} {H : Hp} (Pv : Nat → St → Hp → Prop) (h0 : Pv 0 σ H) (hl : ∀ i σ H, i ≤ kvs.length → Pv i σ H → H d = some (.frz o (.dK kvs)))
    (hs : ∀ i k v σ H T, kvs[i]? = some (k, v) → Pv i σ H → H T = none → g (.ref T) σ (upd H T (.tup [kV k, v])) fun σ2 H2 => tb { D with nx := Pv (i + 1), ct := Pv (i + 1), bk := D.nx } σ2 H2) (hd : ∀ σ H, Pv kvs.length σ H → D.nx σ H) :
    ∃ W : Nat → Nat → St → Hp → Prop, (∃ m, W 0 m σ H) ∧ ∀ i m σ H, W i m σ H →
      ((Iti d o kvs).stop i H ∧ D.nx σ H) ∨ ((Iti d o kvs).go i H ∧ ∃ N : St → Hp → Prop, (∀ σ' H', N σ' H' → ∃ m', m' < m ∧ W (i + 1) m' σ' H') ∧ ∀ x H', (Iti d o kvs).yld i H x H' → g x σ H' fun σ2 H2 => tb { D with nx := N, ct := N, bk := D.nx } σ2 H2) := by
  refine ⟨fun i m σ H => m = kvs.length - i ∧ i ≤ kvs.length ∧ Pv i σ H, ⟨_, rfl, Nat.zero_le _, h0⟩, ?_⟩
  rintro i m σ H ⟨rfl, hi, p⟩
  have q := hl i σ H hi p
  by_cases hlt : i < kvs.length
  · refine .inr ⟨⟨q, hlt⟩, Pv (i + 1), fun σ' H' p' => ⟨kvs.length - (i + 1), by omega, rfl, hlt, p'⟩, fun x H' y => ?_⟩
    obtain ⟨T, k, v, hk, rfl, hT, rfl⟩ := y
    exact hs i k v σ _ T hk p hT
  · have e : i = kvs.length := by omega
    subst e
    exact .inl ⟨⟨q, Nat.le_refl _⟩, hd σ H p⟩
/-- unlocked again: all is as it was -/
theorem same_unlock {H H' : Hp} {a : Addr} {o : HO} {od : HO} (ha : H a = some o) (s : Same (upd H a od) H') : Same H (upd H' a o) := fun b u e => by
  by_cases h : b = a
  · subst h
    rw [upd_same, ← ha, e]
  · rw [upd_ne h]
    exact s b u (by rw [upd_ne h]; exact e)
abbrev tabV (T : List (Str × Str)) : List (Key × V) := T.map fun p => (.inr p.1, .str p.2)
abbrev sIsTab : Stmt := top 34
theorem sc34 : FnScope ["value", "word", "sight"] ["value"] (defScope sIsTab) := ⟨rfl, rfl, rfl, by decide +kernel, rfl, by decide +kernel, by decide +kernel⟩
def spIsTab : Sp := fun vs H Q _ => ∃ a T, vs = [.ref a] ∧ H a = some (.dK (tabV T)) ∧ (∀ p ∈ T, IsName p.1 ∧ IsName p.2) ∧ ∀ H', Same H H' → Q (.bl true) H'
section
variable {P : Program} {w : World} {K : PySem.W.Frag} {mg : Str → Option Value} {base : Heap}
theorem ok_istab {f f2 : Addr} {fd fd2 : FuncData} (F : Fun K "is_sight_table" "is_sight_table" sIsTab f fd) (B : Bx mg)
    (F2 : FnOk P w K mg base CX0 1 f2 fd2 ["value"] spIsName) (b2 : Binds K fd2 ["value"] []) (m2 : mg "is_name" = some (.ref f2)) (k2 : PySem.W.keepIn K (.ref f2) = true) : FnOk P w K mg base CX0 2 f fd ["value"] spIsTab := by
  refine F.ok sc34 (fun vs H Q E h => ?_) (fun cdv A outer s H vs Q E hr h => ?_)
  · obtain ⟨a, T, rfl, _⟩ := h
    rfl
  · obtain ⟨a, T, rfl, ha, hT, q⟩ := h
    refine ⟨_, pss_cons (ps_if (pt_not (pt_val (pe_callB call_isi (by rfl) B.isinst boot_isinstance (pa_cons (pv 0) (pa_cons (pe_bltn (v := .ty "dict") (by rfl) B.dict boot_dict rfl) pa_nil))))) pss_never pss_nil)
      (pss_cons (ps_lock (ps_for PassesOwn.never rfl (pi_items (pv 0)) (pg_tup rfl (pgs_cons (pg_name (i := 1) sc34.nd rfl (Or.inl rfl)) (pgs_cons (pg_name (i := 2) sc34.nd rfl (Or.inl rfl)) pgs_nil)))
        (pss_one (ps_if (pw_or (pt_not (pt_val (pe_call F2 hr (by rfl) m2 k2 b2 .nil pass0 (pa_cons (pv 1) pa_nil)))) (pw_or1 (pt_not (pt_val (pe_call F2 hr (by rfl) m2 k2 b2 .nil pass0 (pa_cons (pv 2) pa_nil)))))).pt pss_never pss_nil))))
      (pss_one (ps_ret pe_bl))), ?_⟩
    refine ⟨_, rfl, _, _, _, _, true, rfl, .ty _, .base (.dK ha), by rfl, _, rfl, iteF ?_⟩
    refine ⟨a, _, ha, trivial, fun od => ?_⟩
    refine ⟨_, rfl, a, od, tabV T, rfl, upd_same, for_items (fun i σ H' => (∃ v1 v2, σ = [some (.ref a), v1, v2]) ∧ Same (upd H a (.frz od (.dK (tabV T)))) H') ⟨⟨_, _, rfl⟩, same_rfl⟩ (fun i σ H' _ ⟨_, s'⟩ => s' _ _ upd_same) ?_ ?_⟩
    · rintro i k v σ H' Tp hk ⟨⟨v1, v2, rfl⟩, s'⟩ hTp
      obtain ⟨p, hp, rfl, rfl⟩ : ∃ p, T[i]? = some p ∧ k = .inr p.1 ∧ v = .str p.2 := by
        rw [List.getElem?_map] at hk
        cases e : T[i]? with
        | none => rw [e] at hk; cases hk
        | some p => rw [e] at hk; cases hk; exact ⟨p, rfl, rfl, rfl⟩
      have hn := hT p (List.mem_of_getElem? hp)
      refine ⟨Tp, _, rfl, SqT.of upd_same, rfl, _, _, rfl, _, _, rfl, rfl, ?_⟩
      refine ⟨_, rfl, p.1, rfl, hn.1, _, rfl, iteF ?_⟩
      refine ⟨_, rfl, p.2, rfl, hn.2, _, rfl, iteF ?_⟩
      exact ⟨⟨_, _, rfl⟩, s'.upd (s'.free hTp)⟩
    · rintro σ H' ⟨⟨v1, v2, rfl⟩, s'⟩
      exact ⟨s' _ _ upd_same, q _ (same_unlock ha s')⟩
end
end KN
/-! checked_faults. -/
namespace KN
open PySem PySem.Spec PyProof.Rows L2
theorem inV_str (x : Str) (ws : List Str) : inV (.str x) (ws.map V.str) = decide (x ∈ ws) := by
  unfold inV
  rw [List.any_map, Bool.eq_iff_iff, List.any_eq_true, decide_eq_true_iff]
  constructor
  · rintro ⟨y, hy, h⟩
    have h : (y == x) = true := h
    exact (beq_iff_eq.mp h) ▸ hy
  · intro h
    exact ⟨x, h, show (x == x) = true from beq_self_eq_true x⟩
theorem flat_strs (ws : List Str) : (ws.map V.str).all flatV = true := by
  rw [List.all_map]
  exact List.all_eq_true.mpr fun _ _ => rfl
abbrev sFaults : Stmt := top 28
abbrev nFaults : List Str := ["faults", "words", "names", "word", "name"]
theorem sc28 : FnScope nFaults ["faults", "words"] (defScope sFaults) := ⟨rfl, rfl, rfl, by decide +kernel, rfl, by decide +kernel, by decide +kernel⟩
def spFaults : Sp := fun vs H Q _ => ∃ (fv : V) (wl : Addr) (ws : List Str), vs = [fv, .ref wl] ∧ H wl = some (.lst (ws.map .str)) ∧ ws.length ≤ 80 ∧
  ((fv = .non ∧ ∀ H' p, Same H H' → H p = none → H' p = some (.dK []) → Q (.ref p) H') ∨
   ∃ (a : Addr) (T : List (Str × Str)), fv = .ref a ∧ H a = some (.dK (tabV T)) ∧ T.length ≤ 3 ∧ (∀ p ∈ T, (IsName p.1 ∧ IsName p.2) ∧ p.1 ∈ ws) ∧ ∀ H' p kvs, Same H H' → H p = none → H' p = some (.dK kvs) → Q (.ref p) H')
section
variable {P : Program} {w : World} {K : PySem.W.Frag} {mg : Str → Option Value} {base : Heap}
theorem ok_faults {f f2 : Addr} {fd fd2 : FuncData} (F : Fun K "checked_faults" "checked_faults" sFaults f fd) (B : Bx mg)
    (F2 : FnOk P w K mg base CX0 1 f2 fd2 ["value"] spIsName) (b2 : Binds K fd2 ["value"] []) (m2 : mg "is_name" = some (.ref f2)) (k2 : PySem.W.keepIn K (.ref f2) = true) {tk : Tok} (mF : mg "MOST_FAULTS" = some (.int 3 tk)) : FnOk P w K mg base CX0 2 f fd ["faults", "words"] spFaults := by
  refine F.ok sc28 (fun vs H Q E h => ?_) (fun cdv A outer s H vs Q E hr h => ?_)
  · obtain ⟨fv, wl, ws, rfl, _⟩ := h
    rfl
  · obtain ⟨fv, wl, ws, rfl, hws, hwl, h⟩ := h
    have hu := hu_of hr
    refine ⟨_, pss_cons (ps_if (pt_cmp (pc_isN (pv 0))) (pss_one (ps_ret pe_dnewK)) pss_nil)
      (pss_cons (ps_if (pt_not (pt_val (pe_callB call_isi (by rfl) B.isinst boot_isinstance (pa_cons (pv 0) (pa_cons (pe_bltn (v := .ty "dict") (by rfl) B.dict boot_dict rfl) pa_nil))))) pss_never pss_nil)
      (pss_cons (ps_set (i := 2) sc28.nd rfl (Or.inl rfl) (pe_lst pa_nil))
      (pss_cons (ps_lock (ps_for PassesOwn.never rfl (pi_items (pv 0)) (pg_tup rfl (pgs_cons (pg_name (i := 3) sc28.nd rfl (Or.inl rfl)) (pgs_cons (pg_name (i := 4) sc28.nd rfl (Or.inl rfl)) pgs_nil)))
        (pss_cons (ps_if (pw_or (pt_not (pt_val (pe_call F2 hr (by rfl) m2 k2 b2 .nil pass0 (pa_cons (pv 3) pa_nil)))) (pw_or (pt_cmpR op_notIn_seq (pv 3) (pv 1) (by rfl)) (pw_or1 (pt_not (pt_val (pe_call F2 hr (by rfl) m2 k2 b2 .nil pass0 (pa_cons (pv 4) pa_nil))))))).pt pss_never pss_nil)
        (pss_cons (ps_if (pt_cmpR op_notIn_seq (pv 4) (pv 2) (by rfl)) (pss_one (ps_expr (pe_bm PySem.F.plainAttrs_list PySem.F.slot_list_append PySem.F.type_list_append mt_append (pv 2) (pa_cons (pv 4) pa_nil)))) pss_nil)
        (pss_one (ps_if (pt_cmpR op_gt (pe_callB call_len_seq (by rfl) B.len boot_len (pa_cons (pv 2) pa_nil)) (pe_glob (v := .int 3) (by rfl) mF ⟨_, rfl⟩) (nomark _)) pss_never pss_nil))))))
      (pss_one (ps_ret (pe_dc (own := [("word", 3)]) (tt := tTest (tOp _ _ _)) rfl sc28.nd (pi_list (pv 1)) (blkOk_by (N := nFaults) (sc := defScope sFaults) (by decide +kernel)) (fun _ _ _ _ _ => pg_name (i := 3) sc28.nd rfl (Or.inl rfl)) (fun _ _ _ _ _ => pts_one (pt_cmp (pc_din hu (pv 3) (pv 0)) (by rfl))) (fun _ _ _ _ _ => pv 3) (fun _ _ _ _ _ => pe_dget hu (pv 0) (pv 3) (fun _ _ => rfl)))))))), ?_⟩
    refine ⟨_, rfl, _, rfl, ?_⟩
    rcases h with ⟨rfl, q⟩ | ⟨a, T, rfl, ha, hl, hT, q⟩
    · rw [show decide (V.non = V.non) = true from rfl]
      exact iteT fun p hp => q _ p (Same.upd same_rfl hp) hp upd_same
    rw [show decide (V.ref a = V.non) = false from decide_eq_false (by intro z; cases z)]
    refine iteF ?_
    refine ⟨_, rfl, _, _, _, _, true, rfl, .ty _, .base (.dK ha), by rfl, _, rfl, iteF ?_⟩
    refine ⟨by show 0 ≤ sizeLine; decide, fun nl hnl => ?_⟩
    have nan : a ≠ nl := ne_of_none ha hnl
    have ha1 : upd H nl (.lst []) a = some (.dK (tabV T)) := by rw [upd_ne nan]; exact ha
    refine ⟨a, _, ha1, trivial, fun od => ?_⟩
    have s1 : Same (upd H a (.frz od (.dK (tabV T)))) (upd (upd H nl (.lst [])) a (.frz od (.dK (tabV T)))) := fun b o e => by
      by_cases h : b = a
      · subst h; rw [upd_same] at e ⊢; exact e
      · rw [upd_ne h] at e ⊢
        rw [upd_ne (ne_of_none e hnl)]; exact e
    have nwa : wl ≠ a := fun z => by subst z; rw [ha] at hws; cases hws
    have hws1 : upd H a (.frz od (.dK (tabV T))) wl = some (.lst (ws.map .str)) := by rw [upd_ne nwa]; exact hws
    have hnl1 : upd H a (.frz od (.dK (tabV T))) nl = none := by rw [upd_ne nan.symm]; exact hnl
    refine ⟨_, rfl, a, od, tabV T, rfl, upd_same, for_items (fun i σ H' => ∃ (v3 v4 : Option V) (ns : List Str), σ = [some (.ref a), some (.ref wl), some (.ref nl), v3, v4] ∧ Same (upd H a (.frz od (.dK (tabV T)))) H' ∧ H' nl = some (.lst (ns.map .str)) ∧ ns.length ≤ i)
      ⟨_, _, [], rfl, s1, by rw [upd_ne nan.symm]; exact upd_same, Nat.le_refl _⟩ (fun i σ H' _ ⟨_, _, _, _, s', _⟩ => s' _ _ upd_same) ?_ ?_⟩
    · rintro i k v σ H' Tp hk ⟨v3, v4, ns, rfl, s', hn', hnl'⟩ hTp
      obtain ⟨p, hp, rfl, rfl⟩ : ∃ p, T[i]? = some p ∧ k = .inr p.1 ∧ v = .str p.2 := by
        rw [List.getElem?_map] at hk
        cases e : T[i]? with
        | none => rw [e] at hk; cases hk
        | some p => rw [e] at hk; cases hk; exact ⟨p, rfl, rfl, rfl⟩
      have hi : i < 3 := Nat.lt_of_lt_of_le (List.getElem?_eq_some_iff.mp hp).1 hl
      have hn := hT p (List.mem_of_getElem? hp)
      have sT : Same H' (upd H' Tp (.tup [kV (.inr p.1), .str p.2])) := Same.upd same_rfl hTp
      have hwT := sT _ _ (s' _ _ hws1)
      have hnT := sT _ _ hn'
      refine ⟨Tp, _, rfl, SqT.of upd_same, rfl, _, _, rfl, _, _, rfl, rfl, ?_⟩
      refine ⟨_, rfl, p.1, rfl, hn.1.1, _, rfl, iteF ?_⟩
      refine ⟨_, rfl, _, rfl, wl, _, rfl, .inl (SqL.of hwT), rfl, flat_strs ws, ?_⟩
      refine ⟨!inV (.str p.1) (ws.map .str), rfl, ?_⟩
      rw [inV_str, decide_eq_true hn.2]
      refine iteF ?_
      refine ⟨_, rfl, p.2, rfl, hn.1.2, _, rfl, iteF ?_⟩
      refine ⟨_, rfl, _, rfl, nl, _, rfl, .inl (SqL.of hnT), rfl, flat_strs ns, !inV (.str p.2) (ns.map .str), rfl, ?_⟩
      have fin : ∀ (H6 : Hp) (ms : List Str), Same (upd H a (.frz od (.dK (tabV T)))) H6 → H6 nl = some (.lst (ms.map .str)) → ms.length ≤ i + 1 → ∃ (v3 v4 : Option V) (ns : List Str), [some (V.ref a), some (.ref wl), some (.ref nl), some (.str p.1), some (.str p.2)] = [some (.ref a), some (.ref wl), some (.ref nl), v3, v4] ∧ Same (upd H a (.frz od (.dK (tabV T)))) H6 ∧ H6 nl = some (.lst (ns.map .str)) ∧ ns.length ≤ i + 1 :=
        fun H6 ms h1 h2 h3 => ⟨_, _, ms, rfl, h1, h2, h3⟩
      have s3 : Same (upd H a (.frz od (.dK (tabV T)))) (upd H' Tp (.tup [kV (.inr p.1), .str p.2])) := s'.trans sT
      cases inV (V.str p.2) (ns.map V.str) with
      | true =>
        refine iteF ?_
        refine ⟨_, rfl, nl, _, rfl, .inl (SqL.of hnT), _, _, rfl, rfl, _, rfl, ?_⟩
        rw [List.length_map, show decide ((3 : Int) < (ns.length : Nat)) = false from decide_eq_false (by omega)]
        exact iteF (fin _ ns s3 hnT (by omega))
      | false =>
        refine iteT ?_
        refine ⟨_, rfl, .inl ⟨rfl, _, SqL.of hnT⟩, _, rfl, nl, _, _, rfl, rfl, hnT, lt80 (by rw [List.length_map]; omega), ?_⟩
        refine ⟨_, rfl, nl, _, rfl, .inl (SqL.of upd_same), _, _, rfl, rfl, _, rfl, ?_⟩
        rw [List.length_append, List.length_map, show decide ((3 : Int) < ((ns.length + [V.str p.2].length : Nat))) = false from decide_eq_false (by show ¬ ((3 : Int) < ((ns.length + 1 : Nat))); omega)]
        exact iteF (fin _ (ns ++ [p.2]) (s3.upd hnl1) (by rw [upd_same, List.map_append]; rfl) (by rw [List.length_append]; show ns.length + 1 ≤ _; omega))
    · rintro σ H' ⟨v3, v4, ns, rfl, s', hn', _⟩
      refine ⟨s' _ _ upd_same, ?_⟩
      have s2 : Same H (upd H' a (.dK (tabV T))) := same_unlock ha s'
      refine ⟨_, rfl, wl, rfl, ⟨_, SqL.of (s2 _ _ hws)⟩, fun D hD => dc_lst (a := wl) (xs := ws.map .str) (fun i H' => Same H H' ∧ ∃ kvs, H' D = some (.dK kvs) ∧ kvs.length ≤ i)
        ⟨s2.upd (s2.free hD), [], upd_same, Nat.le_refl _⟩ (fun i H' _ ⟨s', _⟩ => SqL.of (s' _ _ hws)) ?_ ?_⟩
      · rintro i x H6 hi ⟨s6, kvs, hD6, hk6⟩
        obtain ⟨y, hy, rfl⟩ : ∃ y, ws[i]? = some y ∧ x = V.str y := by
          rw [List.getElem?_map] at hi
          cases e : ws[i]? with
          | none => rw [e] at hi; cases hi
          | some q => rw [e] at hi; exact ⟨q, rfl, (Option.some.inj hi).symm⟩
        have hi80 : i < 80 := Nat.lt_of_lt_of_le (List.getElem?_eq_some_iff.mp hy).1 hwl
        refine ⟨rfl, _, rfl, _, rfl, a, _, rfl, DGet.k (k := Sum.inr y) (s6 _ _ ha), _, rfl, ?_⟩
        cases e : valV (tabV T) (.inr y) with
        | none => exact iteF ⟨s6, kvs, hD6, Nat.le_succ_of_le hk6⟩
        | some v =>
          refine iteT ⟨_, rfl, _, rfl, _, rfl, a, v, rfl, by rw [← e]; exact DGet.k (k := Sum.inr y) (s6 _ _ ha), kvs, .inr y, rfl, hD6, lt80 (by omega), s6.upd (s2.free hD), _, upd_same, Nat.le_trans (length_putK kvs _ _) (by omega)⟩
      · rintro H6 ⟨s6, kvs, hD6, _⟩
        exact q H6 D kvs s6 (s2.free hD) hD6
end
end KN
/-! A set of keys whose table can be walked: add, new, sorted (texts). -/
namespace KN
open PySem PySem.Spec PyProof.Rows L2
theorem paired_perm {α β : Type} {R : α → β → Prop} {l l' : List α} (p : l'.Perm l) : ∀ {ks : List β}, Paired R l ks → ∃ ks', Paired R l' ks' ∧ ks'.Perm ks := by
  induction p with
  | nil => intro ks h; exact ⟨ks, h, .refl _⟩
  | cons x _ ih =>
    intro ks h
    cases h with
    | cons r t =>
      obtain ⟨k2, h2, p2⟩ := ih t
      exact ⟨_, .cons r h2, p2.cons _⟩
  | swap x y l =>
    intro ks h
    cases h with
    | cons r t =>
      cases t with
      | cons r2 t2 => exact ⟨_, .cons r2 (.cons r t2), .swap ..⟩
  | trans _ _ ih1 ih2 =>
    intro ks h
    obtain ⟨k2, h2, p2⟩ := ih2 h
    obtain ⟨k3, h3, p3⟩ := ih1 h2
    exact ⟨k3, h3, p3.trans p2⟩
theorem strIs {P : Program} {w : World} (k : Str) (u : Tok) : (strKind P w).is k (.str k u) = true := by
  show Value.isStrOf k (.str k u) = true
  simp [Value.isStrOf]
/-- an entry is a text's -/
def IsS (w : World) (e : Int × Value) (x : Str) : Prop := ∃ u, e.2 = .str x u ∧ e.1 = hashStr w x
/-- the texts ks, each once, lie in the set at a -/
def SetS (w : World) (h : Heap) (a : Addr) (ks : List Str) : Prop :=
  ∃ o es ep t ls, h.get? a = some o ∧ o.ExactSet ∧ o.data = .set es ep t ∧ Paired (IsS w) es.toList ls ∧ ls.Perm ks ∧ ks.Nodup ∧ es.size < scanBound ∧ t.fits es.size = true ∧ Ris t.place.toList ∧ (w.params.followText "set-order" = true ∨ t.led = true)
section
variable {P : Program} {w : World} {h h' : Heap} {a : Addr} {ks : List Str}
theorem SetS.at (R : SetS w h a ks) (k : ∀ o, h.get? a = some o → h'.get? a = some o) : SetS w h' a ks := by
  obtain ⟨o, es, ep, t, ls, ho, r⟩ := R
  exact ⟨o, es, ep, t, ls, k o ho, r⟩
theorem isS_elems {l : List (Int × Value)} {ls : List Str} (g : Paired (IsS w) l ls) : ElemsOf (strKind P w) l := by
  induction g with
  | nil => intro e he; cases he
  | cons r _ ih =>
    intro e he
    rcases List.mem_cons.mp he with z | z
    · obtain ⟨u, h1, h2⟩ := r
      rw [z]
      exact ⟨⟨_, by rw [h1]; exact strIs _ u, h2⟩, by rw [h1]; rfl⟩
    · exact ih e z
theorem isS_mem {l : List (Int × Value)} {ls : List Str} (g : Paired (IsS w) l ls) (x : Str) : x ∈ ls ↔ ∃ e ∈ l, (strKind P w).is x e.2 = true := by
  induction g with
  | nil => simp
  | @cons e y l ls r _ ih =>
    obtain ⟨u, h1, h2⟩ := r
    rw [List.mem_cons, ih]
    constructor
    · rintro (rfl | ⟨e', he, q⟩)
      · exact ⟨e, List.mem_cons_self, by rw [h1]; exact strIs _ u⟩
      · exact ⟨e', List.mem_cons_of_mem _ he, q⟩
    · rintro ⟨e', he, q⟩
      rcases List.mem_cons.mp he with z | z
      · rw [z, h1] at q
        have q : Value.isStrOf x (.str y u) = true := q
        obtain ⟨t, q⟩ := Value.isStrOf_shape q
        injection q with q
        exact .inl q.symm
      · exact .inr ⟨e', z, q⟩
end
section
variable {P : Program} {w : World} {A : Around} {E : Value → Shared → Prop} {s : Shared} {a : Addr} {ks : List Str}
theorem putSet_at {h : Heap} {a : Addr} {o : Obj} {es es' : Array (Int × Value)} {ep : Nat} {t t' : SetTable} (ho : h.get? a = some o) (hd : o.data = .set es ep t) :
    (h.update a (Obj.putSet es' t')).get? a = some { o with data := .set es' (ep + 1) t' } := by
  have q := Heap.get?_update_self (Obj.putSet es' t') ho (by rw [putSet_of es' t' hd]; rfl)
  rw [putSet_of es' t' hd] at q
  exact q
/-- a new text is laid and the table, where it is full, is laid anew -/
theorem lay_text {g : Bool → Sem Unit} (hg : ∀ (b : Bool) (s₁ : Shared) (Q' : Unit → Shared → Prop), Q' () s₁ → wpAny (model P w) A (g b) Q' E s₁) {o : Obj} {es es1 : Array (Int × Value)} {ep : Nat} {t t2 : SetTable} {ls : List Str}
    (ho : s.heap.get? a = some o) (hex : o.ExactSet) (hd : o.data = .set es ep t) (g1 : Paired (IsS w) es1.toList ls) (p1 : ls.Perm ks) (nd1 : ks.Nodup) (hb1 : es1.size < scanBound) (hf2 : t2.fits es1.size = true) (hr : Ris t2.place.toList)
    (hl : w.params.followText "set-order" = true ∨ t2.led = true) {wasDummy : Bool} {R : Option Bool → Shared → Prop} (hR : ∀ h', Heap.SameBut a s.heap h' → SetS w h' a ks → R (some true) { s with heap := h' }) :
    wpAny (model P w) A (do
        storeSet a es1 t2
        if (!wasDummy && t2.tooFull) = true then do
            g (relayAll t2 es1 (SetTable.grown es1.size)).2.2
            storeSet a (relayAll t2 es1 (SetTable.grown es1.size)).1 (relayAll t2 es1 (SetTable.grown es1.size)).2.1
            pure (some true)
          else pure (some true)) R E s := by
  refine wpAny_bind (wpAny_storeSet_of ho hd ?_ (fits_of_scanBound hb1))
  have ho1 := putSet_at (es' := es1) (t' := t2) ho hd
  have sb1 := Heap.SameBut.update s.heap a (Obj.putSet es1 t2)
  split
  · have pm := relayAll_perm t2 es1 (SetTable.grown es1.size)
    have hf3 := relayAll_fits t2 es1 (SetTable.grown es1.size)
    have hr3 := relayAll_ris t2 es1 (SetTable.grown es1.size)
    have hl3 := relayAll_led t2 es1 (SetTable.grown es1.size)
    generalize relayAll t2 es1 (SetTable.grown es1.size) = Z at pm hf3 hr3 hl3 ⊢
    obtain ⟨es2, t3, gave⟩ := Z
    dsimp only at pm hf3 hr3 hl3 ⊢
    have hsz : es2.size = es1.size := by rw [← Array.length_toList, pm.length_eq, Array.length_toList]
    obtain ⟨ls2, g2, p2⟩ := paired_perm pm g1
    refine wpAny_bind (hg _ _ _ ?_)
    refine wpAny_bind (wpAny_storeSet_of ho1 rfl ?_ (fits_of_scanBound (by rw [hsz]; exact hb1)))
    exact wpAny_pure (hR _ (sb1.trans (Heap.SameBut.update _ a _)) ⟨_, es2, _, t3, ls2, putSet_at ho1 rfl, hex, rfl, g2, p2.trans p1, nd1, by rw [hsz]; exact hb1, hf3, hr3, hl.imp id fun z => by rw [hl3]; exact z⟩)
  · exact wpAny_pure (hR _ sb1 ⟨_, es1, _, t2, ls, ho1, hex, rfl, g1, p1, nd1, hb1, hf2, hr, hl⟩)
/-- the members behind an add -/
def addT (ks : List Str) (x : Str) : List Str := if x ∈ ks then ks else x :: ks
theorem add_text {x : Str} {u : Tok} {Q : Bool → Shared → Prop} (R : SetS w s.heap a ks) (room : ks.length + 1 < scanBound)
    (hQ : ∀ b h', Heap.SameBut a s.heap h' → SetS w h' a (addT ks x) → Q b { s with heap := h' }) : wpAny (model P w) A (setAddHashed a (.str x u) ((strKind P w).hash x)) Q E s := by
  obtain ⟨o, es, ep, t, ls, ho, hex, hd, g, pl, nd, hb, hf, hr, hl⟩ := R
  have hkey : (strKind P w).is x (.str x u) = true := strIs x u
  have hsc : (Value.str x u).scannable = true := rfl
  have hel : ElemsOf (strKind P w) es.toList := isS_elems g
  unfold setAddHashed setAddHashedIn
  refine wpAny_holding (wpAny_bind (wpAny_setState_of ho hd hf ?_))
  dsimp only
  rw [byScan_of hsc hb hel]
  simp only [↓reduceIte]
  unfold setAddByScan
  refine wpAny_bind ?_
  refine wpAny_bind (wpAny_rule ?_)
  refine wpAny_bind (wpAny_setScan_of hkey ho hd hf hel ?_)
  cases hfi : List.findIdx? (fun e => (strKind P w).is x e.2) es.toList with
  | some j =>
    dsimp only
    obtain ⟨hj, pj, _⟩ := List.findIdx?_eq_some_iff_getElem.mp hfi
    have hx : x ∈ ks := pl.mem_iff.mp ((isS_mem (P := P) g x).mpr ⟨es.toList[j], List.getElem_mem hj, pj⟩)
    refine wpAny_pure (wpAny_pure ?_)
    refine hQ _ s.heap (Heap.SameBut.refl a s.heap) ?_
    unfold addT
    rw [if_pos hx]
    exact ⟨o, es, ep, t, ls, ho, hex, hd, g, pl, nd, hb, hf, hr, hl⟩
  | none =>
    dsimp only
    have hx : x ∉ ks := fun z => by
      obtain ⟨e, he, q⟩ := (isS_mem (P := P) g x).mp (pl.mem_iff.mpr z)
      have c := List.findIdx?_eq_none_iff.mp hfi e he
      rw [q] at c
      cases c
    have hgw : ∀ (b : Bool) {s₁ : Shared} {Q' : Unit → Shared → Prop}, Q' () s₁ → wpAny (model P w) A (match b with | true => rule "set.scan.the-table-gave-way" | false => pure ()) Q' E s₁ :=
      fun b s₁ Q' q => by cases b <;> first | exact wpAny_pure q | exact wpAny_rule q
    have pm := layNew_perm t es ((strKind P w).hash x) (.str x u)
    have hf1 := layNew_fits t es ((strKind P w).hash x) (.str x u)
    have hr1 := layNew_ris t es ((strKind P w).hash x) (.str x u) hr
    have hl1 := layNew_led t es ((strKind P w).hash x) (.str x u)
    generalize layNew t es ((strKind P w).hash x) (.str x u) = Z at pm hf1 hr1 hl1 ⊢
    obtain ⟨es1, t1, wasDummy, gave⟩ := Z
    dsimp only at pm hf1 hr1 hl1 ⊢
    rw [Array.toList_push] at pm
    have pc : es1.toList.Perm (((strKind P w).hash x, Value.str x u) :: es.toList) := pm.trans (List.perm_append_singleton _ _)
    obtain ⟨ls1, g1, p1⟩ := paired_perm pc (show Paired (IsS w) (((strKind P w).hash x, Value.str x u) :: es.toList) (x :: ls) from .cons ⟨u, rfl, rfl⟩ g)
    have hsz : es1.size = es.size + 1 := by rw [← Array.length_toList, pc.length_eq, List.length_cons, Array.length_toList]
    have hlen : es.size = ks.length := by rw [← Array.length_toList, g.length, pl.length_eq]
    have hb1 : es1.size < scanBound := by rw [hsz, hlen]; exact room
    have hled : w.params.followText "set-order" = true ∨ t1.led = true := hl.imp id fun z => by rw [hl1]; exact z
    have p2 : ls1.Perm (addT ks x) := by
      unfold addT
      rw [if_neg hx]
      exact p1.trans (pl.cons x)
    have nd2 : (addT ks x).Nodup := by
      unfold addT
      rw [if_neg hx]
      exact List.nodup_cons.mpr ⟨hx, nd⟩
    refine wpAny_bind (hgw _ ?_)
    split
    · refine wpAny_bind ?_
      rw [hashByValue_scannable 8 hsc]
      refine wpAny_pure ?_
      refine lay_text ?_ ho hex hd g1 p2 nd2 hb1 ?_ ?_ ?_ ?_
      · intro b s₁ Q' q; cases b <;> first | exact wpAny_pure q | exact wpAny_rule q
      · first | (split <;> first | exact hf1 | exact SetTable.fits_plain_off hf1) | exact hf1
      · first | (split <;> exact hr1) | exact hr1
      · first | (split <;> exact hled) | exact hled
      · intro h' sb r; dsimp only; exact wpAny_pure (hQ _ h' sb r)
    · refine wpAny_bind (wpAny_pure ?_)
      simp only [↓reduceIte]
      refine lay_text ?_ ho hex hd g1 p2 nd2 hb1 hf1 hr1 hled ?_
      · intro b s₁ Q' q; cases b <;> first | exact wpAny_pure q | exact wpAny_rule q
      · intro h' sb r; dsimp only; exact wpAny_pure (hQ _ h' sb r)
end
end KN
/-! set.add and sorted for sets of texts. -/
namespace KN
open PySem PySem.Spec PyProof.Rows L2
section
variable {P : Program} {w : World} {A : Around} {E : Value → Shared → Prop} {s : Shared} {a : Addr} {ks : List Str}
theorem call_add_text {x : Str} {u : Tok} {Q : Value → Shared → Prop} (R : SetS w s.heap a ks) (room : ks.length + 1 < scanBound)
    (hQ : ∀ h', Heap.SameBut a s.heap h' → SetS w h' a (addT ks x) → Q .none { s with heap := h', toks := s.toks + 1 }) : wpAny (model P w) A (call (.builtin "set.add") [.ref a, .str x u]) Q E s := by
  have hT : s.TypeIs (.ref a) "set" := by
    obtain ⟨o, _, _, _, _, ho, hex, _⟩ := R
    exact ⟨o, ho, hex.1⟩
  refine wpAny_call_entry F.slot_set_add hT F.entry_set_add ?_ (F.args_set_add_2 _ _)
  unfold Builtin.«set.add» Builtin.Frozenset.oneOther
  simp only [List.isEmpty_nil, bind_assoc]
  unfold Builtin.Frozenset.addrOf setAdd
  refine wpAny_bind (wpAny_pure ?_)
  try dsimp only
  refine wpAny_bind (wpAny_pure ?_)
  try dsimp only
  refine wpAny_bind ?_
  refine wpAny_holding ?_
  refine wpAny_bind ((PySem.strKind P w).pyHash (strIs x u) ?_)
  refine add_text (s := { s with toks := s.toks + 1 }) R room fun b h' sb r => ?_
  show wpAny _ _ (ret Value.none) _ _ _
  exact wpAny_pure ⟨_, rfl, hQ h' sb r⟩
theorem strs_out {l : List (Int × Value)} {ls : List Str} (g : Paired (IsS w) l ls) : Paired (fun (v : Value) (x : Str) => ∃ u, v = .str x u) (l.map (·.2)) ls := by
  induction g with
  | nil => exact .nil
  | cons r _ ih =>
    obtain ⟨u, h, _⟩ := r
    exact .cons ⟨u, h⟩ ih
theorem strs_are : ∀ {vs : List Value} {ls : List Str}, Paired (fun (v : Value) (x : Str) => ∃ u, v = .str x u) vs ls → StrsAre vs ls
  | _, _, .nil => .nil
  | _, _, .cons ⟨u, h⟩ t => by
    subst h
    exact .cons _ u (strs_are t)
/-- sorted(set of texts) -/
theorem sorted_text {Q : Value → Shared → Prop} (R : SetS w s.heap a ks) (hh : A.handled = none) (h64 : ks.length < 64)
    (hQ : ∀ s' p (out : Array Value) (c : Nat) (ys : List Str), (∀ b o, s.heap.get? b = some o → s'.heap.get? b = some o) → s'.gens = s.gens → s'.os = s.os → s.heap.objs.size ≤ p →
      s'.heap.get? p = some (seqObj "list" out c) → StrsAre out.toList ys → ys.Perm ks → sortedS ys = true → Q (.ref p) s') :
    wpAny (model P w) A (call (.builtin "sorted") [.ref a]) Q E s := by
  obtain ⟨o, es, ep, t, ls, ho, hex, hd, g, pl, nd, hb, hf, hr, hl⟩ := R
  refine Calls.call_function_entry kind_sorted plain_sorted entry_sorted (args_sorted1 _) ?_
  unfold Builtin.«sorted»
  refine wpAny_bind (m := checkCount "sorted" 1 1 _) (wpAny_pure ?_)
  refine wpAny_bind (collect_set (A := A.in1) hh ⟨o, ho, hex.1, hd⟩ hf hb hr hl fun s1 vs k1 hz g1 o1 pm => ?_)
  obtain ⟨l2, p2, q2⟩ := paired_perm pm (strs_out g)
  have hS : StrsAre vs l2 := strs_are p2
  have hvl : vs.length < 64 := by rw [p2.length, (q2.trans pl).length_eq]; exact h64
  refine wpAny_bind (wpAny_newList ?_ (by rw [sizeLine_eq]; omega))
  have hoL : (s1.heap.push (seqObj "list" vs.toArray 0)).get? s1.heap.objs.size = some (seqObj "list" vs.toArray 0) := Heap.get?_push_size _ rfl
  refine wpAny_bind (wpAny_holding (wpAny_call_entry slot_list_sort ⟨_, hoL, rfl⟩ entry_list_sort (list_sort_treeK strKind_oneLt hoL hS.keysOf (fun v₁ v₂ rest e => keyKind_strs (by rw [← e]; exact hS)) hvl fun st' hp hs => ⟨_, rfl, ?_⟩) (args_list_sort _)))
  obtain ⟨ys, a1, a2, a3⟩ := sorted_out_str hS hp hs
  obtain ⟨c, hc⟩ := sortedHeap_at (vs := vs) (out := (arrOf st').map (·.2)) hoL
  refine wpAny_pure ⟨_, rfl, hQ _ s1.heap.objs.size _ c ys (fun b u e => ?_) g1 o1 hz hc a1 (a2.trans (q2.trans pl)) a3⟩
  have q := k1 b u e
  have hlt := Heap.lt_size q
  show (sortedHeap (s1.heap.push (seqObj "list" vs.toArray 0)) s1.heap.objs.size vs _).get? b = some u
  rw [sortedHeap_old (Nat.ne_of_lt hlt) (by rw [Heap.size_push]; exact Nat.lt_succ_of_lt hlt)]
  exact Heap.get?_push_of_some _ q
end
end KN
/-! A set comprehension of texts, sorted. -/
namespace KN
open PySem PySem.Spec PyProof.Rows L2
theorem setS_fresh {h : Heap} (w : World) : SetS w (h.push { cls := .type "set", dict := none, data := .set #[] 0 (.fresh 0 0 (!w.params.followText "set-order")) }) h.objs.size [] :=
  ⟨_, #[], 0, _, [], Heap.get?_push_size _ rfl, ⟨rfl, rfl, rfl⟩, rfl, .nil, .refl _, List.nodup_nil, by decide, by rfl, List.Pairwise.nil, by
    show _ ∨ (!w.params.followText "set-order") = true
    cases w.params.followText "set-order"
    · exact .inr rfl
    · exact .inl rfl⟩
/-- the set of texts at a, tracked -/
def SetSO (w : World) (a : Addr) (ks : List Str) : HO := .ext fun h => SetS w h a ks
theorem setSO_new {w : World} {P : Program} {H : Hp} {h : Heap} {a : Addr} {ks : List Str} (R : SetS w h a ks) : ObjOk P w H h a (SetSO w a ks) := by
  have ⟨o, _, _, _, _, ho, _⟩ := R
  exact ⟨R, ⟨o, ho⟩, fun h1 h2 p k => SetS.at p k⟩
section
variable {X : Cx}
theorem setSO_get {pins : List (Addr × Obj)} {σ : St} {H : Hp} {s : Shared} {a : Addr} {ks : List Str} (I : Inv X pins σ H s) (ha : H a = some (SetSO X.w a ks)) : SetS X.w s.heap a ks := (I.hok a _ ha).1
theorem jaddT {G : Array GenState} {pins : List (Addr × Obj)} {σ : St} {H : Hp} {s : Shared} {E : Value → Shared → Prop} {D : Addr} {ks : List Str} {x : Str} {u : Tok} {Q : Value → Shared → Prop} (J : JV X G pins σ H s) (hD : H D = some (SetSO X.w D ks)) (room : ks.length + 1 < scanBound)
    (h : ∀ s', JV X G pins σ (upd H D (SetSO X.w D (addT ks x))) s' → Q .none s') : wpAny (model X.prog X.w) X.A (call (.builtin "set.add") [.ref D, .str x u]) Q E s := by
  refine call_add_text (setSO_get J.iv hD) room fun h' sb new => ?_
  have he : ∃ u, h'.get? D = some u := by
    have ⟨o, _, _, _, _, ho, _⟩ := new
    exact ⟨o, ho⟩
  exact h _ (J.write (e := D) (t' := s.toks + 1) (by rw [hD]; trivial) (.inl rfl) (fun b u hb hu => (sb.2 b hb).trans hu) he (setSO_new new))
/-- sorted(set of texts) -/
def rSortedSet (w : World) : List V → Hp → VK → Prop := fun vs H Q => ∃ (a : Addr) (ks : List Str), vs = [.ref a] ∧ H a = some (SetSO w a ks) ∧ ks.length < 64 ∧ ∀ ys p, ys.Perm ks → sortedS ys = true → H p = none → Q (.ref p) (upd H p (.lst (ys.map V.str)))
theorem cr_sortedSet (hc : X.calm = true) : CallR X (.builtin "sorted") (rSortedSet X.w) := by
  intro pins s σ H vs us Q I r h
  obtain ⟨a, ks, rfl, ha, h64, q⟩ := h
  rw [Vals.ref1 r]
  refine sorted_text (setSO_get I ha) (I.ok.hd hc) h64 fun s' p out c ys k g o hp hg hS hpm hs => ?_
  have hn : H p = none := I.hok.fresh hp
  have hlen : (ys.map V.str).length ≤ sizeLine := by rw [List.length_map, hpm.length_eq]; exact small64 h64
  have J : Inv X pins σ (upd H p (.lst (ys.map V.str))) s' :=
    I.call' (ch := []) o (Un.laid k hp hn) (I.hok.laid k hp ⟨hlen, out.toList, c, vals_of_strs hS, hg⟩) (by rw [g]; exact I.bare) (fun _ z => nomatch z)
  exact ⟨.ref p, _, J, rfl, q ys p hpm hs hn⟩
end
def tScT (w : World) (wi : TI) (g : TG) (tt : TT) (te : TE) (vs : List Nat) : TE := fun σ H Q => wi σ H fun J H1 => ∀ D, H1 D = none → ∃ W : Nat → Nat → Hp → Prop, (∃ m, W 0 m (upd H1 D (SetSO w D []))) ∧ ∀ i m H, W i m H →
  (J.stop i H ∧ Q (.ref D) H) ∨ (J.go i H ∧ ∃ Nx : Hp → Prop, (∀ H', Nx H' → ∃ m', m' < m ∧ W (i + 1) m' H') ∧ ∀ x H', J.yld i H x H' → g x (wipe σ vs) H' fun σ2 H2 => wipe σ2 vs = wipe σ vs ∧ tt σ2 H2 fun b H3 =>
    if b = true then te σ2 H3 fun y H4 => ∃ (x : Str) (ks : List Str), y = .str x ∧ H4 D = some (SetSO w D ks) ∧ ks.length + 1 < scanBound ∧ Nx (upd H4 D (SetSO w D (addT ks x))) else Nx H3)
section
variable {X : Cx} {tg iter : Expr} {ifs : List Expr} {scope : Scope} {own : List (Str × Nat)} {pos pos' : Pos} {wi : TI} {g : TG} {tt : TT}
open PpSet
theorem jsc_core {G : Array GenState} {pins : List (Addr × Obj)} {s : Shared} {σ : St} {H : Hp} {Q : VK} {elt : Expr} {te : TE} {use : Option (Value → Sem Unit)} {Qf : Value → Shared → Prop}
    (hc : X.calm = true) (hN : X.N.Nodup) (J : JV X G pins σ H s) (hi : GI X tg iter wi) (ok : BlkOk X.N X.env.scope scope own)
    (hg : ∀ (s : Shared) (H : Hp) (C : Addr) (cl : List (Str × Addr)) (fp : List Addr), GG (X.blk s H scope (compEnvC scope cl C X.env) fp) tg g) (ht : ∀ (s : Shared) (H : Hp) (C : Addr) (cl : List (Str × Addr)) (fp : List Addr), GTs (X.blk s H scope (compEnvC scope cl C X.env) fp) ifs tt)
    (he : ∀ (s : Shared) (H : Hp) (C : Addr) (cl : List (Str × Addr)) (fp : List Addr), GE (X.blk s H scope (compEnvC scope cl C X.env) fp) elt te) (hs : ∀ x, foldedSetIterable iter X.env x = pure x)
    (h : tScT X.w wi g tt te (own.map (·.2)) σ H Q)
    (hRR : ∀ D C s' m H', JV X G pins σ H' s' → Q (.ref D) H' → s'.heap.Ns C m → FpOk X pins H' C → compPost (model X.prog X.w) X.A NoX use Qf (.ref D) C (.ok .next) s') :
    wpAny (model X.prog X.w) X.A (comprehension (.SetComp elt [⟨tg, iter, ifs, 0⟩] scope pos) scope X.env pos' (newSet (.type "set")) false (eval iter X.env) use) Qf NoX s := by
  refine wpAny_comprehension_free (use := use) rfl hs (closure_ok (clo_free J.iv ok)) ok.kind (fun y hy e => by rw [ok.uniq y hy, e])
    (thn (hi.run G pins s σ H _ J h) fun xv s1 hx => thn hx ?_)
  rintro itv s2 ⟨it, tn, I, H2, e, J2, T, st2, f2, q⟩
  subst e
  refine newSet_ok (newEnv_comp ?_)
  generalize hD : s2.heap.objs.size = D
  have hDn : H2 D = none := J2.iv.hok.fresh (Nat.le_of_eq hD)
  obtain ⟨W, ⟨m0, w0⟩, turn⟩ := q D hDn
  generalize hs3 : ({ s2 with heap := s2.heap.push { cls := .type "set", dict := none, data := .set #[] 0 (.fresh 0 0 (!X.w.params.followText "set-order")) } } : Shared) = s3
  have J3 : JV X G pins σ (upd H2 D (SetSO X.w D [])) s3 := by
    rw [← hs3]
    refine J2.laid (t' := s2.toks) (fun b o e => Heap.get?_push_of_some _ e) (Nat.le_of_eq hD) ?_
    rw [← hD]
    exact setSO_new (setS_fresh X.w)
  have h3 : s3.heap = s2.heap.push { cls := .type "set", dict := none, data := .set #[] 0 (.fresh 0 0 (!X.w.params.followText "set-order")) } := by rw [← hs3]
  obtain ⟨o2, eo2, _⟩ := T.obj _ _ st2
  have hlt := Heap.lt_size eo2
  have f3 : FpOk X pins (upd H2 D (SetSO X.w D [])) it := ⟨by rw [upd_ne (by rw [← hD]; exact Nat.ne_of_lt hlt)]; exact f2.1, f2.2⟩
  have l3 : it < s3.heap.objs.size := by rw [h3, Heap.size_push]; exact Nat.lt_succ_of_lt hlt
  have st3 : tn 0 s3.heap := T.keep _ _ _ st2 fun o e => by rw [h3]; exact Heap.get?_push_of_some _ e
  have J4 := block_open J3 ok hN f3 l3
  have pg : GG (X.blk s3 (upd H2 D (SetSO X.w D [])) scope (benv X scope s3.heap.objs.size) [it]) tg g := hg _ _ _ _ _
  have pt : GTs (X.blk s3 (upd H2 D (SetSO X.w D [])) scope (benv X scope s3.heap.objs.size) [it]) ifs tt := ht _ _ _ _ _
  have pe : GE (X.blk s3 (upd H2 D (SetSO X.w D [])) scope (benv X scope s3.heap.objs.size) [it]) elt te := he _ _ _ _ _
  show codeAny _ _ (.compStart (.SetComp elt [⟨tg, iter, ifs, 0⟩] scope pos) 0 (.ref it) (.ref D) (benv X scope s3.heap.objs.size)) (compPost (model X.prog X.w) X.A NoX use Qf (.ref D) s3.heap.objs.size) { s3 with heap := pushCells (s3.heap.push { cls := .type "dict", data := .dict #[] }) scope.names }
  have nfp : (upd H2 D (SetSO X.w D [])) it = none := f3.1
  have hce0 : (benv X scope s3.heap.objs.size).locals = s3.heap.objs.size := rfl
  generalize hce : benv X scope s3.heap.objs.size = ce at J4 pg pt pe hce0 ⊢
  generalize hH3 : upd H2 D (SetSO X.w D []) = H3 at J3 J4 pg pt pe w0 nfp f3
  generalize hs4 : ({ s3 with heap := pushCells (s3.heap.push { cls := .type "dict", data := .dict #[] }) scope.names } : Shared) = s4 at J4 ⊢
  have st4 : tn 0 s4.heap := T.keep _ _ _ st3 fun o e => by rw [← hs4]; exact pushCells_keeps _ _ _ _ (Heap.get?_push_of_some _ e)
  have loop : codeAny (model X.prog X.w) X.A (.compLoop (.SetComp elt [⟨tg, iter, ifs, 0⟩] scope pos) 0 (.ref it) (.ref D) ce) (compPost (model X.prog X.w) X.A NoX use Qf (.ref D) s3.heap.objs.size) s4 := by
    refine compLoopS_any (fun n s' => ∃ i H', JV (X.blk s3 H3 scope ce [it]) G [] (wipe σ (own.map (·.2))) H' s' ∧ tn i s'.heap ∧ H' it = none ∧ W i n H') ?_ m0 ⟨0, H3, J4, st4, nfp, w0⟩
    rintro n s5 ⟨i, H5, J5, st5, n5, w5⟩
    rcases turn i n H5 w5 with ⟨stop, qq⟩ | ⟨go, Nx, hNx, step⟩
    · refine anyE (T.done (X.blk s3 H3 scope ce [it]) rfl rfl rfl hc i G [] s5 _ H5 J5 (blk_fp J5 n5) st5 stop) ?_
      rintro r s6 ⟨hr, J6⟩
      subst hr
      have J7 := blk_back J3 f3 J6
      have nC : H5 s3.heap.objs.size = none := by
        have z : H5 ce.locals = none := J6.iv.free
        rw [hce0] at z
        exact z
      obtain ⟨m, hn, _⟩ := J6.iv.loc
      have hn : s6.heap.Ns ce.locals m := hn
      rw [hce0] at hn
      exact hRR D s3.heap.objs.size s6 m H5 J7 qq hn (J3.iv.fpOk (Nat.le_refl _) nC)
    · refine anyE (T.item (X.blk s3 H3 scope ce [it]) rfl rfl rfl hc i G [] s5 _ H5 J5 (blk_fp J5 n5) st5 go) ?_
      rintro r s6 ⟨u, hr, h6⟩
      subst hr
      refine anyE h6 ?_
      rintro _ s7 ⟨x, H7, J7, r7, y7, st7, n7⟩
      obtain ⟨o7, e7, d7⟩ := T.obj _ _ st7
      have J7' := J7.pinned (blk_fp J7 n7) ⟨o7, e7, d7⟩
      refine anyE (pg.run G _ s7 _ H7 x u _ J7' r7 (step x H7 y7)) ?_
      rintro _ s8 ⟨σ8, H8, J8, hw8, q8⟩
      refine anyE (pt.run G _ s8 σ8 H8 _ J8 q8) ?_
      rintro b s9 ⟨H9, J9, q9⟩
      have fin : ∀ {s' : Shared} {H' : Hp}, JV (X.blk s3 H3 scope ce [it]) G ([] ++ pinsAt [it] s7.heap) σ8 H' s' → Nx H' → ∃ m, m < n ∧ ∃ i H', JV (X.blk s3 H3 scope ce [it]) G [] (wipe σ (own.map (·.2))) H' s' ∧ tn i s'.heap ∧ H' it = none ∧ W i m H' := fun {s' H'} J' nx => by
        obtain ⟨m', hm, w'⟩ := hNx H' nx
        obtain ⟨a1, a2, a3⟩ := blk_again J' e7 hw8
        exact ⟨m', hm, i + 1, H', a1, T.keep _ _ _ st7 fun o e => by rw [e7] at e; cases e; exact a2, a3, w'⟩
      cases b with
      | false =>
        simp only [Bool.false_eq_true, if_false] at q9 ⊢
        exact fin J9 q9
      | true =>
        simp only [if_true] at q9 ⊢
        refine anyE (pe.run G _ s9 σ8 H9 _ J9 q9) ?_
        rintro z s10 ⟨yv, H10, J10, r10, x10, ks, ey, hD10, hz10, nx⟩
        subst ey
        obtain ⟨u10, rfl⟩ := r10
        exact jaddT (X := X.blk s3 H3 scope ce [it]) J10 hD10 hz10 fun s11 J11 => fin J11 nx
  exact codeAny_compStart_set loop (T.self X.A 0 _ _ _ st4 loop)
theorem ge_sc {elt : Expr} {te : TE} (hc : X.calm = true) (hN : X.N.Nodup) (hi : GI X tg iter wi) (ok : BlkOk X.N X.env.scope scope own)
    (hg : ∀ (s : Shared) (H : Hp) (C : Addr) (cl : List (Str × Addr)) (fp : List Addr), GG (X.blk s H scope (compEnvC scope cl C X.env) fp) tg g) (ht : ∀ (s : Shared) (H : Hp) (C : Addr) (cl : List (Str × Addr)) (fp : List Addr), GTs (X.blk s H scope (compEnvC scope cl C X.env) fp) ifs tt)
    (he : ∀ (s : Shared) (H : Hp) (C : Addr) (cl : List (Str × Addr)) (fp : List Addr), GE (X.blk s H scope (compEnvC scope cl C X.env) fp) elt te) (hs : ∀ x, foldedSetIterable iter X.env x = pure x := by intro _; rfl) :
    GE X (.SetComp elt [⟨tg, iter, ifs, 0⟩] scope pos) (tScT X.w wi g tt te (own.map (·.2))) := by
  constructor
  intro G pins s σ H Q J h
  rw [eval_SetComp]
  refine jsc_core hc hN J hi ok hg ht he hs h ?_
  intro D C s' m H' J' q hn f
  exact ⟨m, hn, fun h'' sb => ⟨.ref D, H', J'.turned (t' := s'.toks) (fun b o hb e => (sb.2 b hb).trans e) f, rfl, q⟩⟩
end
/-- an expression of the layer that keeps the generators' table, in the hand layer -/
theorem pe_of_ge {X : Cx} {e : Expr} {t : TE} (hx : X.ex = []) (h : ∀ s H, GE (rebC X s H) e t) : PE X e t := by
  refine ⟨fun pins s σ H Q I hq => ?_⟩
  have f : FOk X pins [] H s := ⟨(fun b hb => by cases hb), (fun b hb => by cases hb)⟩
  have J := frz_in I hx f
  have e0 : frzH [] s.heap H = H := by
    funext b
    exact frzH_out (by simp)
  have J' : JV (rebC X s (frzH [] s.heap H)) s.gens pins σ H s := by
    have := J
    rw [e0] at this ⊢
    exact this
  refine wpAny_mono ((h s (frzH [] s.heap H)).run s.gens pins s σ H Q J' hq) ?_ fun _ _ z => False.elim z
  rintro u s' ⟨v, H', J2, r, q⟩
  obtain ⟨I2, _⟩ := frz_out I hx f J2 fun b o hb => by cases hb
  have e1 : thawH [] H' = H' := by
    funext b
    exact thawH_out (by simp)
  rw [e1] at I2
  exact ⟨v, H', I2, r, q⟩
end KN
/-! Machine.__init__. -/
namespace KN
open PySem PySem.Spec PyProof.Rows L2
abbrev sMInit : Stmt := inClass (top 25) 0
abbrev nMInit : List Str := ["self", "start", "steps", "faults", "rows", "words", "row", "state"]
theorem scMI : FnScope nMInit ["self", "start", "steps", "faults"] (defScope sMInit) := ⟨rfl, rfl, rfl, by decide +kernel, rfl, by decide +kernel, by decide +kernel⟩
/-- what a machine's fields ask -/
structure TxM (K : PySem.W.Frag) (CM : Addr) : Prop where
  cM : Cls K CM
  n1 : NoAttr K CM "first_state"
  n2 : NoAttr K CM "step_rows"
  n3 : NoAttr K CM "word_list"
  n4 : NoAttr K CM "fault_table"
  n5 : NoAttr K CM "leaving"
  n6 : NoAttr K CM "met_states"
def ixTK (K : PySem.W.Frag) : R2 := fun x y H Q => ∃ (p : Addr) (xs : List V) (j : Nat) (v : V), x = .ref p ∧ y = .int j ∧ SqT K H p xs ∧ xs[j]? = some v ∧ Q v H
theorem ge_ixTk {X : Cx} {a b : Expr} {ta tb : TE} {pos : Pos} (K : PySem.W.Frag) (hK : X.K = K) (ha : GE X a ta) (hb : GE X b tb) (hs : PlainIx b) : GE X (.Subscript a b pos) (tOp (ixTK K) ta tb) := by
  subst hK
  exact ge_ixT ha hb hs
section
variable {P : Program} {w : World} {K : PySem.W.Frag} {mg : Str → Option Value} {base : Heap}
/-- the defs that it calls -/
structure CalM (P : Program) (w : World) (K : PySem.W.Frag) (mg : Str → Option Value) (base : Heap) where
  f1 : Addr
  d1 : FuncData
  F1 : GFn P w K mg base 3 f1 d1 ["value"] gsIsState
  b1 : Binds K d1 ["value"] []
  m1 : mg "is_state" = some (.ref f1)
  k1 : PySem.W.keepIn K (.ref f1) = true
  f2 : Addr
  d2 : FuncData
  F2 : FnOk P w K mg base CX0 5 f2 d2 ["steps"] spChecked
  b2 : Binds K d2 ["steps"] []
  m2 : mg "checked_steps" = some (.ref f2)
  k2 : PySem.W.keepIn K (.ref f2) = true
  f3 : Addr
  d3 : FuncData
  F3 : FnOk P w K mg base CX0 2 f3 d3 ["faults", "words"] spFaults
  b3 : Binds K d3 ["faults", "words"] []
  m3 : mg "checked_faults" = some (.ref f3)
  k3 : PySem.W.keepIn K (.ref f3) = true
  f4 : Addr
  d4 : FuncData
  F4 : FnOk P w K mg base CX0 1 f4 d4 ["rows"] spLeaving
  b4 : Binds K d4 ["rows"] []
  m4 : mg "leaving_table" = some (.ref f4)
  k4 : PySem.W.keepIn K (.ref f4) = true
  f5 : Addr
  d5 : FuncData
  F5 : FnOk P w K mg base CX0 1 f5 d5 ["start", "rows", "leaving"] spReached
  b5 : Binds K d5 ["start", "rows", "leaving"] []
  m5 : mg "reached_states" = some (.ref f5)
  k5 : PySem.W.keepIn K (.ref f5) = true
  mt : Tok
  most : mg "MOST_WORDS" = some (.int 14 mt)
theorem term_minit (B : Bx mg) (C : CalM P w K mg base) {f : Addr} {cdv : Value} {A : Around} {outer : List Env} {s : Shared} {H : Hp} {E : XK} (hr : Room 5 (A.deeper (envOfC "Machine.__init__" (defScope sMInit) s.heap.objs.size f cdv))) :
    ∃ t, PSs (cxOf CX0 P w K mg base nMInit "Machine.__init__" (defScope sMInit) f cdv A outer s H E).nox (defBody sMInit) t := by
  have hu := hu_of hr
  exact ⟨_, pss_cons (ps_if (pt_not (pt_val (pe_call (C.F1.fn CX0) (hr.mono (by decide)) (by rfl) C.m1 C.k1 C.b1 .nil pass0 (pa_cons (pv 1) pa_nil)))) pss_never pss_nil)
    (pss_cons (ps_set (i := 4) scMI.nd rfl (Or.inl rfl) (pe_call C.F2 hr (by rfl) C.m2 C.k2 C.b2 .nil pass0 (pa_cons (pv 2) pa_nil)))
    (pss_cons (ps_set (i := 5) scMI.nd rfl (Or.inl rfl) (pe_callB (cr_sortedSet rfl) (by rfl) B.sorted (by rfl) (pa_cons (pe_of_ge (t := tScT w (iList K (tVar 4)) (gName 6) tYes (tOp (ixTK K) (tVar 6) (tC (.int 1))) [6]) rfl (fun s H => by
        exact ge_sc (own := [("row", 6)]) rfl scMI.nd (gi_list (gv 4)) (blkOk_by (N := nMInit) (sc := defScope sMInit) (by decide +kernel)) (fun _ _ _ _ _ => gg_name (i := 6) scMI.nd rfl (Or.inl rfl)) (fun _ _ _ _ _ => gts_nil) (fun _ _ _ _ _ => ge_ixTk K rfl (gv 6) ge_int (by intro _ _; rfl)))) pa_nil)))
    (pss_cons (ps_if (pt_cmpR op_gt (pe_callB call_len_seq (by rfl) B.len boot_len (pa_cons (pv 5) pa_nil)) (pe_glob (v := .int 14) (by rfl) C.most ⟨_, rfl⟩) (nomark _)) pss_never pss_nil)
    (pss_cons (ps_fld (pv 0) (pv 1) rfl)
    (pss_cons (ps_fld (pv 0) (pv 4) rfl)
    (pss_cons (ps_fld (pv 0) (pv 5) rfl)
    (pss_cons (ps_fld (pv 0) (pe_call C.F3 (hr.mono (by decide)) (by rfl) C.m3 C.k3 C.b3 .nil pass0 (pa_cons (pv 3) (pa_cons (pv 5) pa_nil))) rfl)
    (pss_cons (ps_fld (pv 0) (pe_call C.F4 (hr.mono (by decide)) (by rfl) C.m4 C.k4 C.b4 .nil pass0 (pa_cons (pv 4) pa_nil)) rfl)
    (pss_cons (ps_fld (pv 0) (pe_call C.F5 (hr.mono (by decide)) (by rfl) C.m5 C.k5 C.b5 .nil pass0 (pa_cons (pv 1) (pa_cons (pv 4) (pa_cons (pe_fld (pv 0) rfl) pa_nil)))) rfl)
    (pss_one (ps_for PassesOwn.never rfl (pi_list (pe_fld (pv 0) rfl)) (pg_name (i := 7) scMI.nd rfl (Or.inl rfl)) (pss_one (ps_if (pt_cmp (pc_dnotin hu (pv 7) (pe_fld (pv 0) rfl)) (by rfl)) pss_never pss_nil)))))))))))))⟩
end
end KN
/-! A machine's fields as they are written. -/
namespace KN
open PySem PySem.Spec PyProof.Rows L2
def f1M (q0 : Int) : List (Str × V) := putF "first_state" (.int q0) []
def f2M (q0 : Int) (rl : Addr) : List (Str × V) := putF "step_rows" (.ref rl) (f1M q0)
def f3M (q0 : Int) (rl wl : Addr) : List (Str × V) := putF "word_list" (.ref wl) (f2M q0 rl)
def f4M (q0 : Int) (rl wl ft : Addr) : List (Str × V) := putF "fault_table" (.ref ft) (f3M q0 rl wl)
def f5M (q0 : Int) (rl wl ft lv : Addr) : List (Str × V) := putF "leaving" (.ref lv) (f4M q0 rl wl ft)
def f6M (q0 : Int) (rl wl ft lv ms : Addr) : List (Str × V) := putF "met_states" (.ref ms) (f5M q0 rl wl ft lv)
section
variable {q0 : Int} {rl wl ft lv ms : Addr}
theorem f5M_leaving : (f5M q0 rl wl ft lv).lookup ("leaving" : Str) = some (.ref lv) := by
  unfold f5M
  rw [lookup_putF, if_pos rfl]
theorem f6M_ms : (f6M q0 rl wl ft lv ms).lookup ("met_states" : Str) = some (.ref ms) := by
  unfold f6M
  rw [lookup_putF, if_pos rfl]
theorem f6M_leaving : (f6M q0 rl wl ft lv ms).lookup ("leaving" : Str) = some (.ref lv) := by
  unfold f6M
  rw [lookup_putF, if_neg (by decide +kernel)]
  exact f5M_leaving
theorem f6M_ft : (f6M q0 rl wl ft lv ms).lookup ("fault_table" : Str) = some (.ref ft) := by
  unfold f6M f5M f4M
  rw [lookup_putF, if_neg (by decide +kernel), lookup_putF, if_neg (by decide +kernel), lookup_putF, if_pos rfl]
theorem f6M_wl : (f6M q0 rl wl ft lv ms).lookup ("word_list" : Str) = some (.ref wl) := by
  unfold f6M f5M f4M f3M
  rw [lookup_putF, if_neg (by decide +kernel), lookup_putF, if_neg (by decide +kernel), lookup_putF, if_neg (by decide +kernel), lookup_putF, if_pos rfl]
theorem f6M_rl : (f6M q0 rl wl ft lv ms).lookup ("step_rows" : Str) = some (.ref rl) := by
  unfold f6M f5M f4M f3M f2M
  rw [lookup_putF, if_neg (by decide +kernel), lookup_putF, if_neg (by decide +kernel), lookup_putF, if_neg (by decide +kernel), lookup_putF, if_neg (by decide +kernel), lookup_putF, if_pos rfl]
theorem f6M_q0 : (f6M q0 rl wl ft lv ms).lookup ("first_state" : Str) = some (.int q0) := by
  unfold f6M f5M f4M f3M f2M f1M
  rw [lookup_putF, if_neg (by decide +kernel), lookup_putF, if_neg (by decide +kernel), lookup_putF, if_neg (by decide +kernel), lookup_putF, if_neg (by decide +kernel), lookup_putF, if_neg (by decide +kernel), lookup_putF, if_pos rfl]
theorem f6M_len : (f1M q0).length < 1000 ∧ (f2M q0 rl).length < 1000 ∧ (f3M q0 rl wl).length < 1000 ∧ (f4M q0 rl wl ft).length < 1000 ∧ (f5M q0 rl wl ft lv).length < 1000 := by
  have h1 : (f1M q0).length ≤ 1 := length_putF _ _ _
  have h2 : (f2M q0 rl).length ≤ (f1M q0).length + 1 := length_putF _ _ _
  have h3 : (f3M q0 rl wl).length ≤ (f2M q0 rl).length + 1 := length_putF _ _ _
  have h4 : (f4M q0 rl wl ft).length ≤ (f3M q0 rl wl).length + 1 := length_putF _ _ _
  have h5 : (f5M q0 rl wl ft lv).length ≤ (f4M q0 rl wl ft).length + 1 := length_putF _ _ _
  omega
end
end KN
/-! Machine.__init__: what it makes. -/
namespace KN
open PySem PySem.Spec PyProof.Rows L2
/-- what a machine is made of -/
structure MkOk (H : Hp) (q0 : Int) (sads : List Addr) (sl : Addr) (st : List Step) (fv : V) : Prop where
  lst : H sl = some (.lst (sads.map .ref))
  at_ : StepsAt H sads st
  ok : OkSteps st
  s0 : 0 ≤ q0 ∧ q0 < 100
  few : ∀ ks : List Str, ks.Nodup → (∀ x ∈ ks, ∃ e ∈ st, e.2.1 = x) → ks.length ≤ 14
  flt : fv = .non ∨ ∃ (a : Addr) (T : List (Str × Str)), fv = .ref a ∧ H a = some (.dK (tabV T)) ∧ T.length ≤ 3 ∧ ∀ p ∈ T, (IsName p.1 ∧ IsName p.2) ∧ ∃ e ∈ st, e.2.1 = p.1
  live : ∀ q ∈ clo st [] [q0], nums st q ≠ []
/-- a machine with its words and faults -/
structure FullAt (CM : Addr) (H : Hp) (d : MD) (q0 : Int) (st : List Step) (ws : List Str) (fk : List (Key × V)) : Prop where
  mach : MachAt CM H d q0 st (clo st [] [q0])
  wl : ∃ wl, d.fs.lookup ("word_list" : Str) = some (.ref wl) ∧ H wl = some (.lst (ws.map .str))
  ft : ∃ ft, d.fs.lookup ("fault_table" : Str) = some (.ref ft) ∧ H ft = some (.dK fk)
  wnd : ws.Nodup
  wmem : ∀ x, x ∈ ws ↔ ∃ e ∈ st, e.2.1 = x
  wso : sortedS ws = true
def spMInit (CM : Addr) : Sp := fun vs H Q _ => ∃ (m dm sl : Addr) (q0 : Int) (sads : List Addr) (st : List Step) (fv : V), vs = [.ref m, .int q0, .ref sl, fv] ∧ H m = some (.ins CM dm []) ∧ H dm = some (.own m) ∧ MkOk H q0 sads sl st fv ∧
  ∀ (H' : Hp) (d : MD) (ws : List Str) (fk : List (Key × V)), SameBut m H H' → d.m = m → FullAt CM H' d q0 st ws fk → (fv = .non → fk = []) → Q .non H'
theorem sc_lst {w : World} {K : PySem.W.Frag} {a : Addr} {xs : List V} {g : TG} {tt : TT} {te : TE} {vs : List Nat} {σ : St} {H1 : Hp} {D : Addr} {Qd : Hp → Prop} (Pv : Nat → Hp → Prop) (h0 : Pv 0 (upd H1 D (SetSO w D []))) (hl : ∀ i H, i ≤ xs.length → Pv i H → SqL K H a xs)
    (hs : ∀ i x H, xs[i]? = some x → Pv i H → g x (wipe σ vs) H fun σ2 H2 => wipe σ2 vs = wipe σ vs ∧ tt σ2 H2 fun b H3 =>
      if b = true then te σ2 H3 fun y H4 => ∃ (x : Str) (ks : List Str), y = .str x ∧ H4 D = some (SetSO w D ks) ∧ ks.length + 1 < scanBound ∧ Pv (i + 1) (upd H4 D (SetSO w D (addT ks x))) else Pv (i + 1) H3) (hd : ∀ H, Pv xs.length H → Qd H) :
    ∃ W : Nat → Nat → Hp → Prop, (∃ m, W 0 m (upd H1 D (SetSO w D []))) ∧ ∀ i m H, W i m H →
      ((Itl K a).stop i H ∧ Qd H) ∨ ((Itl K a).go i H ∧ ∃ Nx : Hp → Prop, (∀ H', Nx H' → ∃ m', m' < m ∧ W (i + 1) m' H') ∧ ∀ x H', (Itl K a).yld i H x H' → g x (wipe σ vs) H' fun σ2 H2 => wipe σ2 vs = wipe σ vs ∧ tt σ2 H2 fun b H3 =>
        if b = true then te σ2 H3 fun y H4 => ∃ (x : Str) (ks : List Str), y = .str x ∧ H4 D = some (SetSO w D ks) ∧ ks.length + 1 < scanBound ∧ Nx (upd H4 D (SetSO w D (addT ks x))) else Nx H3) := by
  refine ⟨fun i m H => m = xs.length - i ∧ i ≤ xs.length ∧ Pv i H, ⟨xs.length, by simp, Nat.zero_le _, h0⟩, ?_⟩
  rintro i m H ⟨rfl, hi, p⟩
  have q := hl i H hi p
  by_cases hlt : i < xs.length
  · refine .inr ⟨⟨xs, xs[i], q, by simp [hlt]⟩, Pv (i + 1), fun H' p' => ⟨xs.length - (i + 1), by omega, rfl, hlt, p'⟩, fun x H' y => ?_⟩
    obtain ⟨e, y⟩ := y
    subst e
    exact hs i x _ (y xs q) p
  · have e : i = xs.length := by omega
    subst e
    exact .inl ⟨⟨xs, q, Nat.le_refl _⟩, hd H p⟩
theorem mem_addT {ks : List Str} {x y : Str} : y ∈ addT ks x ↔ y ∈ ks ∨ y = x := by
  unfold addT
  split
  · rename_i h
    exact ⟨.inl, fun z => z.elim id fun e => e ▸ h⟩
  · rw [List.mem_cons]; exact Or.comm
theorem nd_addT {ks : List Str} {x : Str} (h : ks.Nodup) : (addT ks x).Nodup := by
  unfold addT
  split
  · exact h
  · rename_i hn; exact List.nodup_cons.mpr ⟨hn, h⟩
end KN
/-! Machine.__init__, proved. -/
namespace KN
open PySem PySem.Spec PyProof.Rows L2
section
variable {P : Program} {w : World} {K : PySem.W.Frag} {mg : Str → Option Value} {base : Heap} {CM : Addr}
theorem ok_minit (B : Bx mg) (T : TxM K CM) (C : CalM P w K mg base) {pa : Arguments} {f : Addr} {fd : FuncData} (F : FunD K "__init__" "Machine.__init__" pa (defBody sMInit) (defScope sMInit) [.non] [] f fd) :
    FnOk P w K mg base CX0 6 f fd ["self", "start", "steps", "faults"] (spMInit CM) := by
  refine F.ok scMI (fun vs H Q E h => ?_) (fun cdv A outer s H vs Q E hr h => ?_)
  · obtain ⟨_, _, _, _, _, _, _, rfl, _⟩ := h
    rfl
  · obtain ⟨m, dm, sl, q0, sads, st, fv, rfl, hm, hdm, D, q⟩ := h
    have hu := hu_of hr
    refine ⟨_, PSs.nox (pss_cons (ps_if (pt_not (pt_val (pe_call (C.F1.fn CX0) (hr.mono (by decide)) (by rfl) C.m1 C.k1 C.b1 .nil pass0 (pa_cons (pv 1) pa_nil)))) pss_never pss_nil)
    (pss_cons (ps_set (i := 4) scMI.nd rfl (Or.inl rfl) (pe_call C.F2 hr (by rfl) C.m2 C.k2 C.b2 .nil pass0 (pa_cons (pv 2) pa_nil)))
    (pss_cons (ps_set (i := 5) scMI.nd rfl (Or.inl rfl) (pe_callB (cr_sortedSet rfl) (by rfl) B.sorted (by rfl) (pa_cons (pe_of_ge (t := tScT w (iList K (tVar 4)) (gName 6) tYes (tOp (ixTK K) (tVar 6) (tC (.int 1))) [6]) rfl (fun s H => by
        exact ge_sc (own := [("row", 6)]) rfl scMI.nd (gi_list (gv 4)) (blkOk_by (N := nMInit) (sc := defScope sMInit) (by decide +kernel)) (fun _ _ _ _ _ => gg_name (i := 6) scMI.nd rfl (Or.inl rfl)) (fun _ _ _ _ _ => gts_nil) (fun _ _ _ _ _ => ge_ixTk K rfl (gv 6) ge_int (by intro _ _; rfl)))) pa_nil)))
    (pss_cons (ps_if (pt_cmpR op_gt (pe_callB call_len_seq (by rfl) B.len boot_len (pa_cons (pv 5) pa_nil)) (pe_glob (v := .int 14) (by rfl) C.most ⟨_, rfl⟩) (nomark _)) pss_never pss_nil)
    (pss_cons (ps_fld (pv 0) (pv 1) rfl)
    (pss_cons (ps_fld (pv 0) (pv 4) rfl)
    (pss_cons (ps_fld (pv 0) (pv 5) rfl)
    (pss_cons (ps_fld (pv 0) (pe_call C.F3 (hr.mono (by decide)) (by rfl) C.m3 C.k3 C.b3 .nil pass0 (pa_cons (pv 3) (pa_cons (pv 5) pa_nil))) rfl)
    (pss_cons (ps_fld (pv 0) (pe_call C.F4 (hr.mono (by decide)) (by rfl) C.m4 C.k4 C.b4 .nil pass0 (pa_cons (pv 4) pa_nil)) rfl)
    (pss_cons (ps_fld (pv 0) (pe_call C.F5 (hr.mono (by decide)) (by rfl) C.m5 C.k5 C.b5 .nil pass0 (pa_cons (pv 1) (pa_cons (pv 4) (pa_cons (pe_fld (pv 0) rfl) pa_nil)))) rfl)
    (pss_one (ps_for PassesOwn.never rfl (pi_list (pe_fld (pv 0) rfl)) (pg_name (i := 7) scMI.nd rfl (Or.inl rfl)) (pss_one (ps_if (pt_cmp (pc_dnotin hu (pv 7) (pe_fld (pv 0) rfl)) (by rfl)) pss_never pss_nil)))))))))))))), ?_⟩
    refine ⟨_, rfl, q0, rfl, D.s0.1, D.s0.2, _, rfl, iteF ?_⟩
    refine ⟨_, rfl, sl, sads, st, rfl, D.lst, D.at_, D.ok, fun H1 rl s1 hrl hl1 => ?_⟩
    have st1 := D.at_.same s1
    have l1 : (sads.map V.ref).length = st.length := by rw [List.length_map, D.at_.len]
    -- the words
    refine ⟨_, rfl, rl, rfl, ⟨_, SqL.of hl1⟩, fun Dd hDd => sc_lst (a := rl) (xs := sads.map .ref) (fun i H' => ∃ ks, Same H1 H' ∧ H' Dd = some (SetSO w Dd ks) ∧ ks.Nodup ∧ ks.length ≤ i ∧ ∀ x, x ∈ ks ↔ ∃ e ∈ st.take i, e.2.1 = x)
      ⟨[], Same.upd same_rfl hDd, upd_same, List.nodup_nil, Nat.le_refl _, fun x => by simp⟩ (fun i H' _ ⟨_, s', _⟩ => SqL.of (s' _ _ hl1)) ?_ ?_⟩
    · rintro i x H' hi ⟨ks, s', hd', nd, hle, hmem⟩
      obtain ⟨b, hb, rfl⟩ : ∃ b, sads[i]? = some b ∧ V.ref b = x := by
        rw [List.getElem?_map] at hi
        cases e : sads[i]? with
        | none => rw [e] at hi; cases hi
        | some b => rw [e] at hi; exact ⟨b, rfl, Option.some.inj hi⟩
      have hlt : i < st.length := by
        have := (List.getElem?_eq_some_iff.mp hb).1
        rw [D.at_.len] at this; exact this
      have he : st[i]? = some st[i] := List.getElem?_eq_getElem hlt
      have hb1 := s' _ _ (st1.at_ i b _ hb he)
      refine ⟨rfl, ?_⟩
      refine tYes_ok ?_
      refine iteT ?_
      refine ⟨_, rfl, b, _, 1, .str st[i].2.1, rfl, rfl, SqT.of hb1, rfl, st[i].2.1, ks, rfl, hd', ?_, addT ks st[i].2.1, s'.upd hDd, upd_same, nd_addT nd, ?_, fun y => ?_⟩
      · have h1 := D.ok.le
        have h2 : (82 : Nat) < scanBound := by decide
        omega
      · unfold addT
        split
        · omega
        · rw [List.length_cons]; omega
      · rw [mem_addT, hmem, List.take_add_one, he]
        simp only [List.mem_append, Option.toList_some, List.mem_singleton]
        constructor
        · rintro (⟨e, h1, h2⟩ | rfl)
          · exact ⟨e, .inl h1, h2⟩
          · exact ⟨st[i], .inr rfl, rfl⟩
        · rintro ⟨e, h1 | rfl, h2⟩
          · exact .inl ⟨e, h1, h2⟩
          · exact .inr h2.symm
    · rintro H2 ⟨ks, s2, hd2, nd, hle, hmem⟩
      rw [l1] at hle
      rw [l1, List.take_length] at hmem
      have hk14 := D.few ks nd fun x hx => (hmem x).mp hx
      refine ⟨Dd, ks, rfl, hd2, by omega, fun ys wl hpm hso hwl => ?_⟩
      have s3 : Same H1 (upd H2 wl (.lst (ys.map .str))) := s2.upd (s2.free hwl)
      have s3' : Same H (upd H2 wl (.lst (ys.map .str))) := s1.trans s3
      have y14 : ys.length ≤ 14 := by rw [hpm.length_eq]; exact hk14
      refine ⟨_, rfl, wl, _, rfl, .inl (SqL.of upd_same), _, _, rfl, rfl, _, rfl, ?_⟩
      rw [List.length_map, show decide ((14 : Int) < (ys.length : Nat)) = false from decide_eq_false (by omega)]
      refine iteF ?_
      have L6 := @f6M_len q0 rl wl 0 0
      generalize hH3 : upd H2 wl (.lst (ys.map .str)) = H3 at s3 s3'
      have hwl3 : H3 wl = some (.lst (ys.map .str)) := by rw [← hH3]; exact upd_same
      have hm3 := s3' _ _ hm
      have nwm : wl ≠ m := fun z => by subst z; rw [hm3] at hwl3; cases hwl3
      refine ⟨_, rfl, _, rfl, m, CM, dm, [], rfl, hm3, T.cM, T.n1, by decide, ?_⟩
      refine ⟨_, rfl, _, rfl, m, CM, dm, f1M q0, rfl, upd_same, T.cM, T.n2, L6.1, ?_⟩
      refine ⟨_, rfl, _, rfl, m, CM, dm, f2M q0 rl, rfl, upd_same, T.cM, T.n3, L6.2.1, ?_⟩
      have b6 : ∀ b o, b ≠ m → H3 b = some o → upd (upd (upd H3 m (.ins CM dm (f1M q0))) m (.ins CM dm (f2M q0 rl))) m (.ins CM dm (f3M q0 rl wl)) b = some o := fun b o h e => by rw [upd_ne h, upd_ne h, upd_ne h]; exact e
      have hm6 : upd (upd (upd H3 m (.ins CM dm (f1M q0))) m (.ins CM dm (f2M q0 rl))) m (.ins CM dm (f3M q0 rl wl)) m = some (.ins CM dm (f3M q0 rl wl)) := upd_same
      generalize hH6 : upd (upd (upd H3 m (.ins CM dm (f1M q0))) m (.ins CM dm (f2M q0 rl))) m (.ins CM dm (f3M q0 rl wl)) = H6 at b6 hm6
      have wm : ∀ x, x ∈ ys ↔ ∃ e ∈ st, e.2.1 = x := fun x => by rw [hpm.mem_iff, hmem]
      have flt6 : ∀ (Q : VK) (E' : XK), (∀ H' ft fk, Same H6 H' → H6 ft = none → H' ft = some (.dK fk) → (fv = .non → fk = []) → Q (.ref ft) H') →
          spFaults [fv, .ref wl] H6 Q E' := fun R E' hR => by
        refine ⟨fv, wl, ys, rfl, b6 _ _ nwm hwl3, by omega, ?_⟩
        rcases D.flt with e | ⟨a, T', rfl, ha, hl, hT⟩
        · exact .inl ⟨e, fun H' p h1 h2 h3 => hR H' p [] h1 h2 h3 fun _ => rfl⟩
        · have ha3 := s3' _ _ ha
          have nam : a ≠ m := fun z => by subst z; rw [hm3] at ha3; cases ha3
          exact .inr ⟨a, T', rfl, b6 _ _ nam ha3, hl, fun p hp => ⟨(hT p hp).1, (wm _).mpr (hT p hp).2⟩, fun H' p kvs h1 h2 h3 => hR H' p kvs h1 h2 h3 fun z => by cases z⟩
      refine ⟨_, rfl, _, rfl, ?_⟩
      dsimp only [tNil]
      show spFaults [fv, .ref wl] (upd (upd (upd H3 m (.ins CM dm (f1M q0))) m (.ins CM dm (f2M q0 rl))) m (.ins CM dm (f3M q0 rl wl))) _ _
      rw [hH6]
      refine flt6 _ _ fun H7 ft fk s7 nft hft hfn => ?_
      have hm7 := s7 _ _ hm6
      have nfm : ft ≠ m := (ne_of_none hm6 nft).symm
      refine ⟨_, rfl, m, CM, dm, f3M q0 rl wl, rfl, hm7, T.cM, T.n4, L6.2.2.1, ?_⟩
      have hm8 : upd H7 m (.ins CM dm (f4M q0 rl wl ft)) m = some (.ins CM dm (f4M q0 rl wl ft)) := upd_same
      have L7 := @f6M_len q0 rl wl ft 0
      have k8 : ∀ b o, b ≠ m → H3 b = some o → upd H7 m (.ins CM dm (f4M q0 rl wl ft)) b = some o := fun b o h e => by rw [upd_ne h]; exact s7 _ _ (b6 b o h e)
      have hft8 : upd H7 m (.ins CM dm (f4M q0 rl wl ft)) ft = some (.dK fk) := by rw [upd_ne nfm]; exact hft
      have nrm : rl ≠ m := fun z => by
        subst z
        rw [s3 _ _ hl1] at hm3; cases hm3
      have st3 : StepsAt H3 sads st := st1.same s3
      have stm : ∀ {H' : Hp}, (∀ b o, b ≠ m → H3 b = some o → H' b = some o) → StepsAt H' sads st := fun {H'} k => ⟨st3.len, fun i b e h1 h2 => k b _ (fun z => by
        have := st3.at_ i b e h1 h2
        rw [z, hm3] at this; cases this) (st3.at_ i b e h1 h2)⟩
      -- leaving
      refine ⟨_, rfl, ?_⟩
      dsimp only [tNil]
      refine ⟨rl, sads, st, rfl, k8 _ _ nrm (s3 _ _ hl1), stm k8, D.ok.le, fun H9 lv lk s9 nlv L => ?_⟩
      have hm9 : H9 m = some (.ins CM dm (f4M q0 rl wl ft)) := s9 _ _ hm8
      have nlm : lv ≠ m := (ne_of_none hm8 nlv).symm
      refine ⟨_, rfl, m, CM, dm, f4M q0 rl wl ft, rfl, hm9, T.cM, T.n5, L7.2.2.2.1, ?_⟩
      have k10 : ∀ b o, b ≠ m → H3 b = some o → upd H9 m (.ins CM dm (f5M q0 rl wl ft lv)) b = some o := fun b o h e => by rw [upd_ne h]; exact s9 _ _ (k8 b o h e)
      have hm10 : upd H9 m (.ins CM dm (f5M q0 rl wl ft lv)) m = some (.ins CM dm (f5M q0 rl wl ft lv)) := upd_same
      have L10 : LeavAt (upd H7 m (.ins CM dm (f4M q0 rl wl ft))) (upd H9 m (.ins CM dm (f5M q0 rl wl ft lv))) lv lk (nums st) := ⟨by rw [upd_ne nlm]; exact L.tab, L.l1, fun q hq => by
        obtain ⟨c, h1, h2, h3, h4⟩ := L.l2 q hq
        exact ⟨c, h1, by rw [upd_ne (ne_of_none hm8 h3).symm]; exact h2, h3, h4⟩⟩
      have sm : Small st := fun e he => ⟨(D.ok.ok e he).a, (D.ok.ok e he).c⟩
      have L11 := @f6M_len q0 rl wl ft lv
      -- met_states
      refine ⟨_, rfl, _, rfl, _, rfl, m, CM, dm, f5M q0 rl wl ft lv, _, rfl, hm10, T.cM, T.n5, f5M_leaving, ?_⟩
      dsimp only [tNil]
      refine ⟨q0, rl, lv, _, sads, st, lk, rfl, k10 _ _ nrm (s3 _ _ hl1), stm k10, D.ok.le, L10, sm, D.s0, fun H11 ms s11 nms hms => ?_⟩
      have hm11 := s11 _ _ hm10
      have nsm : ms ≠ m := (ne_of_none hm10 nms).symm
      refine ⟨_, rfl, m, CM, dm, f5M q0 rl wl ft lv, rfl, hm11, T.cM, T.n6, L11.2.2.2.2, ?_⟩
      have k12 : ∀ b o, b ≠ m → H3 b = some o → upd H11 m (.ins CM dm (f6M q0 rl wl ft lv ms)) b = some o := fun b o h e => by rw [upd_ne h]; exact s11 _ _ (k10 b o h e)
      have hm12 : upd H11 m (.ins CM dm (f6M q0 rl wl ft lv ms)) m = some (.ins CM dm (f6M q0 rl wl ft lv ms)) := upd_same
      have hms12 : upd H11 m (.ins CM dm (f6M q0 rl wl ft lv ms)) ms = some (.lst ((clo st [] [q0]).map .int)) := by rw [upd_ne nsm]; exact hms
      have hlv12 : upd H11 m (.ins CM dm (f6M q0 rl wl ft lv ms)) lv = some (.dK lk) := by rw [upd_ne nlm]; exact s11 _ _ L10.tab
      have ndm : dm ≠ m := fun z => by subst z; rw [hm] at hdm; cases hdm
      have hft12 : upd H11 m (.ins CM dm (f6M q0 rl wl ft lv ms)) ft = some (.dK fk) := by
        rw [upd_ne nfm]; exact s11 _ _ (by rw [upd_ne nfm]; exact s9 _ _ hft8)
      generalize hH12 : upd H11 m (.ins CM dm (f6M q0 rl wl ft lv ms)) = H12 at k12 hm12 hms12 hlv12 hft12
      have hdm3 := s3' _ _ hdm
      have L12 : LeavAt (upd H7 m (.ins CM dm (f4M q0 rl wl ft))) (upd H9 m (.ins CM dm (f5M q0 rl wl ft lv))) lv lk (nums st) := L10
      have mach : MachAt CM H12 ⟨m, dm, rl, lv, ms, f6M q0 rl wl ft lv ms, sads, lk⟩ q0 st (clo st [] [q0]) := {
        ins := hm12
        own := k12 _ _ ndm hdm3
        f1 := f6M_q0
        f2 := f6M_rl
        f3 := f6M_leaving
        f4 := f6M_ms
        rows := k12 _ _ nrm (s3 _ _ hl1)
        rlen := D.at_.len
        row := fun i a e h1 h2 => (stm k12).at_ i a e h1 h2
        lea := hlv12
        l1 := L10.l1
        l2 := fun q hq => by
          obtain ⟨c, h1, h2, h3, h4⟩ := L10.l2 q hq
          refine ⟨c, h1, ?_⟩
          rw [← hH12]
          have hcm : c ≠ m := (ne_of_none hm8 h3).symm
          rw [upd_ne hcm]
          exact s11 _ _ h2
        met := hms12 }
      have nwl : H12 wl = some (.lst (ys.map .str)) := k12 _ _ nwm hwl3
      have full : FullAt CM H12 ⟨m, dm, rl, lv, ms, f6M q0 rl wl ft lv ms, sads, lk⟩ q0 st ys fk := {
        mach := mach
        wl := ⟨wl, f6M_wl, nwl⟩
        ft := ⟨ft, f6M_ft, hft12⟩
        wnd := hpm.nodup_iff.mpr nd
        wmem := wm
        wso := hso }
      have fin : Q .non H12 := q H12 _ ys fk (fun b o hb e => k12 b o hb (s3' b o e)) rfl full hfn
      show tFor (iList K (tFld K (tVar 0) "met_states")) (gName 7) (tIfS (tB (tDNotIn (tVar 7) (tFld K (tVar 0) "leaving"))) tNever tNext) _ _ (upd H11 m (.ins CM dm (f6M q0 rl wl ft lv ms)))
      rw [hH12]
      refine ⟨_, rfl, m, CM, dm, f6M q0 rl wl ft lv ms, _, rfl, hm12, T.cM, T.n6, f6M_ms, ms, rfl, ⟨_, SqL.of hms12⟩, for_list (xs := (clo st [] [q0]).map .int) (fun i σ H' => (∃ v, σ = [some (.ref m), some (.int q0), some (.ref sl), some fv, some (.ref rl), some (.ref wl), none, v]) ∧ H' = H12) ⟨⟨_, rfl⟩, rfl⟩ (fun i σ H' _ ⟨_, e⟩ => e ▸ SqL.of hms12) ?_ ?_⟩
      · rintro i x σ H' hi ⟨⟨v, rfl⟩, rfl⟩
        obtain ⟨z, hz, rfl⟩ : ∃ z, (clo st [] [q0])[i]? = some z ∧ V.int z = x := by
          rw [List.getElem?_map] at hi
          cases e : (clo st [] [q0])[i]? with
          | none => rw [e] at hi; cases hi
          | some b => rw [e] at hi; exact ⟨b, rfl, Option.some.inj hi⟩
        obtain ⟨c, hc, _⟩ := L10.l2 z (D.live z (List.mem_of_getElem? hz))
        refine ⟨_, rfl, _, rfl, m, CM, dm, f6M q0 rl wl ft lv ms, _, rfl, hm12, T.cM, T.n5, f6M_leaving, lv, _, rfl, DGet.k (k := Sum.inl z) hlv12, _, rfl, ?_⟩
        rw [hc]
        exact iteF ⟨⟨_, rfl⟩, rfl⟩
      · rintro σ H' ⟨_, rfl⟩
        exact fin
end
end KN
/-! Machine.words, Machine.faults, Watch.__init__, all_seen. -/
namespace KN
open PySem PySem.Spec PyProof.Rows L2
/-- a dict comprehension over a dict's keys -/
theorem dc_keys {d : Addr} {o : Obj} {kvs : List (Key × V)} {g : TG} {tt : TT} {tk tv : TE} {vs : List Nat} {σ : St} {H1 : Hp} {D : Addr} {Qd : Hp → Prop} (Pv : Nat → Hp → Prop) (h0 : Pv 0 (upd H1 D (.dK []))) (hl : ∀ i H, i ≤ kvs.length → Pv i H → H d = some (.frz o (.dK kvs)))
    (hs : ∀ i k v H, kvs[i]? = some (k, v) → Pv i H → g (kV k) (wipe σ vs) H fun σ2 H2 => wipe σ2 vs = wipe σ vs ∧ tt σ2 H2 fun b H3 =>
      if b = true then tk σ2 H3 fun y H4 => tv σ2 H4 fun z H5 => ∃ kvs k, y = kV k ∧ H5 D = some (.dK kvs) ∧ kvs.length < sizeLine ∧ Pv (i + 1) (upd H5 D (.dK (putK kvs k z))) else Pv (i + 1) H3) (hd : ∀ H, Pv kvs.length H → Qd H) :
    ∃ W : Nat → Nat → Hp → Prop, (∃ m, W 0 m (upd H1 D (.dK []))) ∧ ∀ i m H, W i m H →
      ((Itk d o kvs).stop i H ∧ Qd H) ∨ ((Itk d o kvs).go i H ∧ ∃ Nx : Hp → Prop, (∀ H', Nx H' → ∃ m', m' < m ∧ W (i + 1) m' H') ∧ ∀ x H', (Itk d o kvs).yld i H x H' → g x (wipe σ vs) H' fun σ2 H2 => wipe σ2 vs = wipe σ vs ∧ tt σ2 H2 fun b H3 =>
        if b = true then tk σ2 H3 fun y H4 => tv σ2 H4 fun z H5 => ∃ kvs k, y = kV k ∧ H5 D = some (.dK kvs) ∧ kvs.length < sizeLine ∧ Nx (upd H5 D (.dK (putK kvs k z))) else Nx H3) := by
  refine ⟨fun i m H => m = kvs.length - i ∧ i ≤ kvs.length ∧ Pv i H, ⟨kvs.length, by simp, Nat.zero_le _, h0⟩, ?_⟩
  rintro i m H ⟨rfl, hi, p⟩
  have q := hl i H hi p
  by_cases hlt : i < kvs.length
  · refine .inr ⟨⟨q, hlt⟩, Pv (i + 1), fun H' p' => ⟨kvs.length - (i + 1), by omega, rfl, hlt, p'⟩, fun x H' y => ?_⟩
    obtain ⟨rfl, k, v, hk, rfl⟩ := y
    exact hs i k v _ hk p
  · have e : i = kvs.length := by omega
    subst e
    exact .inl ⟨⟨q, Nat.le_refl _⟩, hd H p⟩
abbrev sMWords : Stmt := inClass (top 25) 3
abbrev sMFaults : Stmt := inClass (top 25) 5
abbrev sWInit : Stmt := inClass (top 33) 0
abbrev sAllSeen : Stmt := top 39
abbrev nMF : List Str := ["self", "word"]
abbrev nWI : List Str := ["self", "sights", "word"]
abbrev nAS : List Str := ["machine", "faults", "word"]
theorem scMW : FnScope ["self"] ["self"] (defScope sMWords) := ⟨rfl, rfl, rfl, by decide +kernel, rfl, by decide +kernel, by decide +kernel⟩
theorem scMF : FnScope nMF ["self"] (defScope sMFaults) := ⟨rfl, rfl, rfl, by decide +kernel, rfl, by decide +kernel, by decide +kernel⟩
theorem scWI : FnScope nWI ["self", "sights"] (defScope sWInit) := ⟨rfl, rfl, rfl, by decide +kernel, rfl, by decide +kernel, by decide +kernel⟩
theorem scAS : FnScope nAS ["machine"] (defScope sAllSeen) := ⟨rfl, rfl, rfl, by decide +kernel, rfl, by decide +kernel, by decide +kernel⟩
def spMWords (CM : Addr) : Sp := fun vs H Q _ => ∃ (d : MD) (q0 : Int) (st : List Step) (ws : List Str) (fk : List (Key × V)), vs = [.ref d.m] ∧ FullAt CM H d q0 st ws fk ∧ ∀ H' p, Same H H' → H p = none → H' p = some (.lst (ws.map .str)) → Q (.ref p) H'
def spMFaults (CM : Addr) : Sp := fun vs H Q _ => ∃ (d : MD) (q0 : Int) (st : List Step) (ws : List Str), vs = [.ref d.m] ∧ FullAt CM H d q0 st ws [] ∧ ∀ H' p, Same H H' → H p = none → H' p = some (.dK []) → Q (.ref p) H'
def spWInit (CW : Addr) : Sp := fun vs H Q _ => ∃ (wt dw a : Addr) (T : List (Str × Str)), vs = [.ref wt, .ref a] ∧ H wt = some (.ins CW dw []) ∧ H dw = some (.own wt) ∧ H a = some (.dK (tabV T)) ∧ (∀ p ∈ T, IsName p.1 ∧ IsName p.2) ∧ (T.map (·.1)).Nodup ∧ T.length ≤ 1000 ∧
  ∀ H' tb, SameBut wt H H' → WatchAt CW H' wt dw tb T → Q .non H'
def spAllSeen (CM CW : Addr) : Sp := fun vs H Q _ => ∃ (d : MD) (q0 : Int) (st : List Step) (ws : List Str), vs = [.ref d.m] ∧ FullAt CM H d q0 st ws [] ∧ (∀ x ∈ ws, IsName x) ∧ ws.length ≤ 1000 ∧ ∀ H' wt dw tb, Same H H' → WatchAt CW H' wt dw tb (ws.map fun x => (x, x)) → Q (.ref wt) H'
theorem FullAt.same {CM : Addr} {H H' : Hp} {d : MD} {q0 : Int} {st : List Step} {ws : List Str} {fk : List (Key × V)} (x : FullAt CM H d q0 st ws fk) (s : Same H H') : FullAt CM H' d q0 st ws fk :=
  ⟨x.mach.same s, let ⟨a, h1, h2⟩ := x.wl; ⟨a, h1, s _ _ h2⟩, let ⟨a, h1, h2⟩ := x.ft; ⟨a, h1, s _ _ h2⟩, x.wnd, x.wmem, x.wso⟩
theorem putK_new {kvs : List (Key × V)} {k : Key} {v : V} (h : valV kvs k = none) : putK kvs k v = kvs ++ [(k, v)] := by
  unfold putK
  rw [if_neg]
  intro z
  obtain ⟨p, hp, e⟩ := List.any_eq_true.mp z
  have e := of_decide_eq_true e
  unfold valV at h
  rw [Option.map_eq_none_iff, List.find?_eq_none] at h
  exact h p hp (decide_eq_true e)
theorem see_none {T : List (Str × Str)} {x : Str} (h : x ∉ T.map (·.1)) : see T x = none := by
  unfold see
  rw [List.find?_eq_none.mpr fun p hp => ?_]
  · rfl
  · intro z
    exact h (List.mem_map.mpr ⟨p, hp, of_decide_eq_true z⟩)
theorem see_nd : ∀ {T : List (Str × Str)} {p : Str × Str}, (T.map (·.1)).Nodup → p ∈ T → see T p.1 = some p.2
  | [], _, _, h => by cases h
  | q :: T, p, hn, h => by
    rw [List.map_cons] at hn
    obtain ⟨h1, h2⟩ := List.nodup_cons.mp hn
    by_cases e : q.1 = p.1
    · rcases List.mem_cons.mp h with z | z
      · subst z
        simp [see, List.find?_cons]
      · exact absurd (List.mem_map.mpr ⟨p, z, e.symm⟩) h1
    · rcases List.mem_cons.mp h with z | z
      · exact absurd (by rw [z]) e
      · have ih := see_nd h2 z
        unfold see at ih ⊢
        rw [List.find?_cons, show decide (q.1 = p.1) = false from decide_eq_false e]
        exact ih
theorem nd_take {α : Type} {l : List α} (h : l.Nodup) {i : Nat} {x : α} (hx : l[i]? = some x) : x ∉ l.take i := by
  intro z
  obtain ⟨hi, e1⟩ := List.getElem?_eq_some_iff.mp hx
  obtain ⟨j, hj, e⟩ := List.mem_iff_getElem.mp z
  rw [List.getElem_take] at e
  rw [List.length_take] at hj
  exact List.pairwise_iff_getElem.mp h j i (by omega) hi (by omega) (e.trans e1.symm)
section
variable {P : Program} {w : World} {K : PySem.W.Frag} {mg : Str → Option Value} {base : Heap} {CM CW : Addr}
theorem ok_mwords (B : Bx mg) (T : TxM K CM) {f : Addr} {fd : FuncData} (F : Fun K "words" "Machine.words" sMWords f fd) : FnOk P w K mg base CX0 1 f fd ["self"] (spMWords CM) := by
  refine F.ok scMW (fun vs H Q E h => ?_) (fun cdv A outer s H vs Q E hr h => ?_)
  · obtain ⟨_, _, _, _, _, rfl, _⟩ := h
    rfl
  · obtain ⟨d, q0, st, ws, fk, rfl, M, q⟩ := h
    refine ⟨_, pss_one (ps_ret (pe_callTy call_list_of (by rfl) B.list boot_list (pa_cons (pe_fld (pv 0) rfl) pa_nil))), ?_⟩
    obtain ⟨wl, h1, h2⟩ := M.wl
    refine ⟨_, rfl, d.m, CM, d.dm, d.fs, _, rfl, M.mach.ins, T.cM, T.n3, h1, wl, _, rfl, .inl (SqL.of h2), fun l hl => ?_⟩
    exact q _ l (Same.upd same_rfl hl) hl upd_same
theorem ok_mfaults (B : Bx mg) (T : TxM K CM) {f : Addr} {fd : FuncData} (F : Fun K "faults" "Machine.faults" sMFaults f fd) : FnOk P w K mg base CX0 1 f fd ["self"] (spMFaults CM) := by
  refine F.ok scMF (fun vs H Q E h => ?_) (fun cdv A outer s H vs Q E hr h => ?_)
  · obtain ⟨_, _, _, _, rfl, _⟩ := h
    rfl
  · obtain ⟨d, q0, st, ws, rfl, M, q⟩ := h
    have hu := hu_of hr
    refine ⟨_, pss_one (ps_ret (pe_lock (pe_dc (own := [("word", 1)]) (tt := tYes) (tv := tDGet (tFld K (tVar 0) "fault_table") (tVar 1)) rfl scMF.nd (pi_keys (pe_fld (pv 0) rfl)) (blkOk_by (N := nMF) (sc := defScope sMFaults) (by decide +kernel)) (fun _ _ _ _ _ => pg_name (i := 1) scMF.nd rfl (Or.inl rfl)) (fun _ _ _ _ _ => pts_nil) (fun _ _ _ _ _ => pv 1) (fun _ _ _ _ _ => by exact pe_dget hu (pe_fld (pv 0) rfl) (pv 1) (fun _ _ => rfl))))), ?_⟩
    obtain ⟨ft, h1, h2⟩ := M.ft
    have nmf : d.m ≠ ft := fun z => by
      have := M.mach.ins
      rw [z, h2] at this; cases this
    refine ⟨ft, _, h2, trivial, fun od => ?_⟩
    refine ⟨_, rfl, d.m, CM, d.dm, d.fs, _, rfl, by rw [upd_ne nmf]; exact M.mach.ins, T.cM, T.n4, h1, ft, od, rfl, .inl ⟨_, upd_same, fun D hD => dc_keys (fun i H' => H' = upd (upd H ft (.frz od (.dK []))) D (.dK [])) rfl (fun i H' _ e => ?_) (fun i k v H' hk => ?_) (fun H' e => ?_)⟩⟩
    · have nfD : ft ≠ D := fun z => by subst z; rw [upd_same] at hD; cases hD
      rw [e, upd_ne nfD, upd_same]
    · simp at hk
    · have nfD : ft ≠ D := fun z => by subst z; rw [upd_same] at hD; cases hD
      subst e
      refine ⟨by rw [upd_ne nfD, upd_same], ?_⟩
      refine q _ D ?_ ?_ ?_
      · refine same_unlock (od := .frz od (.dK [])) h2 ?_
        exact Same.upd same_rfl hD
      · rw [upd_ne nfD.symm] at hD; exact hD
      · rw [upd_ne nfD.symm, upd_same]
theorem put_table (a b : Addr) : putF "table" (.ref b) [("table", V.ref a)] = [(("table" : Str), V.ref b)] := by
  show (if ("table" : Str) = "table" then _ else _) = _
  rw [if_pos rfl]
  all_goals rfl
theorem ok_winit (B : Bx mg) (cW : Cls K CW) (nT : NoAttr K CW "table") {f2 : Addr} {fd2 : FuncData} (F2 : FnOk P w K mg base CX0 2 f2 fd2 ["value"] spIsTab) (b2 : Binds K fd2 ["value"] []) (m2 : mg "is_sight_table" = some (.ref f2)) (k2 : PySem.W.keepIn K (.ref f2) = true)
    {pa : Arguments} {f : Addr} {fd : FuncData} (F : FunD K "__init__" "Watch.__init__" pa (defBody sWInit) (defScope sWInit) [.non] [] f fd) : FnOk P w K mg base CX0 3 f fd ["self", "sights"] (spWInit CW) := by
  refine F.ok scWI (fun vs H Q E h => ?_) (fun cdv A outer s H vs Q E hr h => ?_)
  · obtain ⟨_, _, _, _, rfl, _⟩ := h
    rfl
  · obtain ⟨wt, dw, a, T, rfl, hw, hdw, ha, hT, hnd, hlen, q⟩ := h
    have hu := hu_of hr
    refine ⟨_, pss_cons (ps_if (pw_and (pt_cmp (pc_notN (pv 1))) (pw_and1 (pt_not (pt_val (pe_call F2 hr (by rfl) m2 k2 b2 .nil pass0 (pa_cons (pv 1) pa_nil)))))).pt pss_never pss_nil)
      (pss_cons (ps_fld (pv 0) pe_dnewK rfl)
      (pss_one (ps_if (pt_cmp (pc_notN (pv 1))) (pss_one (ps_fld (pv 0) (pe_lock (pe_dc (own := [("word", 2)]) (tt := tYes) (tv := tDGet (tVar 1) (tVar 2)) rfl scWI.nd (pi_keys (pv 1)) (blkOk_by (N := nWI) (sc := defScope sWInit) (by decide +kernel)) (fun _ _ _ _ _ => pg_name (i := 2) scWI.nd rfl (Or.inl rfl)) (fun _ _ _ _ _ => pts_nil) (fun _ _ _ _ _ => pv 2) (fun _ _ _ _ _ => pe_dget hu (pv 1) (pv 2) (fun _ _ => rfl)))) rfl)) pss_nil))), ?_⟩
    have nwa : wt ≠ a := fun z => by subst z; rw [hw] at ha; cases ha
    have ndw : dw ≠ wt := fun z => by subst z; rw [hw] at hdw; cases hdw
    refine ⟨_, rfl, true, rfl, ?_⟩
    refine iteT ?_
    refine ⟨_, rfl, a, T, rfl, ha, hT, fun H1 s1 => ?_⟩
    refine ⟨_, rfl, iteF ?_⟩
    intro t0 ht0
    have hw1 := s1 _ _ hw
    have ha1 := s1 _ _ ha
    have nwt : wt ≠ t0 := ne_of_none hw1 ht0
    have nat : a ≠ t0 := ne_of_none ha1 ht0
    refine ⟨_, rfl, wt, CW, dw, [], rfl, by rw [upd_ne nwt]; exact hw1, cW, nT, by decide, ?_⟩
    generalize hH2 : upd (upd H1 t0 (.dK [])) wt (.ins CW dw (putF "table" (.ref t0) [])) = H2
    have sb2 : ∀ b o, b ≠ wt → H1 b = some o → H2 b = some o := fun b o hb e => by
      rw [← hH2, upd_ne hb, upd_ne (ne_of_none e ht0)]; exact e
    have hw2 : H2 wt = some (.ins CW dw [("table", .ref t0)]) := by rw [← hH2, upd_same]; rfl
    have ha2 := sb2 _ _ nwa.symm ha1
    refine ⟨_, rfl, true, rfl, ?_⟩
    refine iteT ?_
    refine ⟨a, _, ha2, trivial, fun od => ?_⟩
    refine ⟨_, rfl, a, od, rfl, .inl ⟨_, upd_same, fun D hD => dc_keys (fun i H' => Same (upd H2 a (.frz od (.dK (tabV T)))) H' ∧ H' D = some (.dK (tabV (T.take i)))) ⟨Same.upd same_rfl hD, upd_same⟩ (fun i H' _ e => e.1 _ _ upd_same) (fun i k v H' hk hP => ?_) (fun H' e => ?_)⟩⟩
    · obtain ⟨s', hD'⟩ := hP
      obtain ⟨p, hp, rfl, rfl⟩ : ∃ p, T[i]? = some p ∧ k = .inr p.1 ∧ v = .str p.2 := by
        rw [List.getElem?_map] at hk
        cases e : T[i]? with
        | none => rw [e] at hk; cases hk
        | some p => rw [e] at hk; cases hk; exact ⟨p, rfl, rfl, rfl⟩
      have hi := (List.getElem?_eq_some_iff.mp hp).1
      refine ⟨rfl, ?_⟩
      refine tYes_ok ?_
      refine iteT ?_
      have hg : valV (tabV T) (.inr p.1) = some (.str p.2) := by
        rw [valV_see]
        have := see_nd hnd (List.mem_of_getElem? hp)
        rw [this]; rfl
      refine ⟨_, rfl, _, rfl, _, rfl, a, .str p.2, rfl, .inl ⟨tabV T, .inr p.1, .inr ⟨od, s' _ _ upd_same⟩, rfl, hg.symm⟩, tabV (T.take i), .inr p.1, rfl, hD', ?_, s'.upd hD, ?_⟩
      · rw [List.length_map, List.length_take]
        have : (1000 : Nat) < sizeLine := by decide
        omega
      · rw [upd_same, putK_new, List.take_add_one, hp]
        · simp only [tabV, List.map_append, Option.toList_some, List.map_cons, List.map_nil]
        · rw [valV_see, see_none]
          · rfl
          · rw [List.map_take]
            exact nd_take hnd (by rw [List.getElem?_map, hp]; rfl)
    · have s3 : Same H2 (upd H' a (.dK (tabV T))) := same_unlock ha2 e.1
      have nDa : D ≠ a := fun z => by subst z; rw [upd_same] at hD; cases hD
      have hD2 : H2 D = none := by rw [upd_ne nDa] at hD; exact hD
      have nDw : D ≠ wt := fun z => by subst z; rw [hw2] at hD2; cases hD2
      refine ⟨e.1 _ _ upd_same, _, rfl, wt, CW, dw, _, rfl, s3 _ _ hw2, cW, nT, by show 1 < 1000; decide, ?_⟩
      refine q _ D (fun b o hb hbo => ?_) ⟨?_, ?_, ?_⟩
      · rw [upd_ne hb]
        exact s3 _ _ (sb2 b o hb (s1 _ _ hbo))
      · rw [upd_same, put_table]
      · rw [upd_ne ndw]
        exact s3 _ _ (sb2 _ _ ndw (s1 _ _ hdw))
      · have := e.2
        rw [List.length_map, List.take_length] at this
        rw [upd_ne nDw, upd_ne nDa]
        exact this
abbrev idT (ws : List Str) : List (Str × Str) := ws.map fun x => (x, x)
theorem ok_allseen (B : Bx mg) (cM : Cls K CM) {fW fF pW pF fI f : Addr} {fdW fdF fdI fd : FuncData} (FW : FnOk P w K mg base CX0 1 fW fdW ["self"] (spMWords CM)) (hW : PropOf K CM "words" pW fW) (bW : Binds K fdW ["self"] [])
    (FF : FnOk P w K mg base CX0 1 fF fdF ["self"] (spMFaults CM)) (hF : PropOf K CM "faults" pF fF) (bF : Binds K fdF ["self"] [])
    (M : Mk K CW fI) (FI : FnOk P w K mg base CX0 3 fI fdI ["self", "sights"] (spWInit CW)) (bI : Binds K fdI ["self", "sights"] []) (mW : mg "Watch" = some (.ref CW))
    (F : Fun K "all_seen" "all_seen" sAllSeen f fd) : FnOk P w K mg base CX0 5 f fd ["machine"] (spAllSeen CM CW) := by
  refine F.ok scAS (fun vs H Q E h => ?_) (fun cdv A outer s H vs Q E hr h => ?_)
  · obtain ⟨_, _, _, _, rfl, _⟩ := h
    rfl
  · obtain ⟨d, q0, st, ws, rfl, FA, hn, hlen, q⟩ := h
    have hu := hu_of hr
    refine ⟨_, pss_cons (ps_set (i := 1) scAS.nd rfl (Or.inr rfl) (pe_prop (pv 0) cM hF FF (hr.mono (by decide)) bF .nil pass0 rfl))
      (pss_one (ps_ret (pe_make M FI hr (by rfl) mW bI .nil pass0 (pa_cons (pe_dc (own := [("word", 2)]) (tt := tTest (tOp _ _ _)) rfl scAS.nd (pi_list (pe_prop (pv 0) cM hW FW (hr.mono (by decide)) bW .nil pass0 rfl)) (blkOk_by (N := nAS) (sc := defScope sAllSeen) (by decide +kernel)) (fun _ _ _ _ _ => pg_name (i := 2) scAS.nd rfl (Or.inl rfl)) (fun _ _ _ _ _ => pts_one (pt_cmp (pc_dnotin hu (pv 2) (pv 1)) (by rfl))) (fun _ _ _ _ _ => pv 2) (fun _ _ _ _ _ => pv 2)) pa_nil)))), ?_⟩
    have e0 : ∀ x, valV ([] : List (Key × V)) (.inr x) = none := fun x => rfl
    refine ⟨_, rfl, d.m, d.dm, d.fs, rfl, FA.mach.ins, d, q0, st, ws, rfl, FA, fun H1 p1 s1 hp1 hp1' => ?_⟩
    have FA1 := FA.same s1
    refine ⟨_, rfl, d.m, d.dm, d.fs, rfl, FA1.mach.ins, d, q0, st, ws, [], rfl, FA1, fun H2 wl s2 hwl hwl2 => ⟨wl, rfl, ⟨_, SqL.of hwl2⟩, fun D hD => dc_lst (a := wl) (xs := ws.map .str) (fun i H' => Same H2 H' ∧ H' D = some (.dK (tabV (idT (ws.take i)))))
      ⟨Same.upd same_rfl hD, upd_same⟩ (fun i H' _ e => SqL.of (e.1 _ _ hwl2)) ?_ ?_⟩⟩
    · rintro i x H' hx ⟨s', hD'⟩
      obtain ⟨y, hy, rfl⟩ : ∃ y, ws[i]? = some y ∧ x = V.str y := by
        rw [List.getElem?_map] at hx
        cases e : ws[i]? with
        | none => rw [e] at hx; cases hx
        | some b => rw [e] at hx; exact ⟨b, rfl, (Option.some.inj hx).symm⟩
      have hi := (List.getElem?_eq_some_iff.mp hy).1
      refine ⟨rfl, _, rfl, _, rfl, p1, _, rfl, DGet.k (k := Sum.inr y) (s' _ _ (s2 _ _ hp1')), _, rfl, ?_⟩
      refine iteT ?_
      refine ⟨_, rfl, _, rfl, tabV (idT (ws.take i)), .inr y, rfl, hD', ?_, s'.upd hD, ?_⟩
      · rw [List.length_map, List.length_map, List.length_take]
        have : (1000 : Nat) < sizeLine := by decide
        omega
      · rw [upd_same, putK_new, List.take_add_one, hy]
        · simp only [tabV, idT, List.map_append, Option.toList_some, List.map_cons, List.map_nil]
        · rw [valV_see, see_none]
          · rfl
          · rw [List.map_map]
            have e : ((fun x : Str × Str => x.1) ∘ fun x : Str => (x, x)) = id := rfl
            rw [e, List.map_id]
            exact nd_take FA.wnd hy
    · rintro H3 ⟨s3, hD3⟩
      rw [List.length_map, List.take_length] at hD3
      intro x dx hx hdx nex
      have hDx : D ≠ x := ne_of_none hD3 hx
      have hDdx : D ≠ dx := ne_of_none hD3 hdx
      refine ⟨x, dx, D, idT ws, rfl, upd_same, ?_, ?_, ?_, ?_, ?_, fun H' tb sb W => ?_⟩
      · rw [upd_ne nex, upd_same]
      · rw [upd_ne hDx, upd_ne hDdx]; exact hD3
      · intro p hp
        obtain ⟨y, hy, rfl⟩ := List.mem_map.mp hp
        exact ⟨hn y hy, hn y hy⟩
      · rw [List.map_map]
        have e : ((fun x : Str × Str => x.1) ∘ fun x : Str => (x, x)) = id := rfl
        rw [e, List.map_id]
        exact FA.wnd
      · rw [List.length_map]; exact hlen
      · refine ⟨rfl, q H' x dx tb (fun b o e => ?_) W⟩
        have e3 := s3 _ _ (s2 _ _ (s1 _ _ e))
        refine sb b o (ne_of_none e3 hx) ?_
        rw [upd_ne (ne_of_none e3 hx), upd_ne (ne_of_none e3 hdx)]
        exact e3
end
end KN
/-! _law_mix, _law_cell, _law_row. -/
namespace KN
open PySem PySem.Spec PyProof.Rows L2
/-- a cell's size -/
def Bd (c : Int) : Prop := c.natAbs.log2 ≤ 1048576
theorem log2_add {a m n : Nat} (ha : a.log2 ≤ n) (hm : m.log2 ≤ n) : (a + m).log2 ≤ n + 1 := by
  have h1 : a < 2 ^ (n + 1) := by
    by_cases z : a = 0
    · subst z; exact Nat.two_pow_pos _
    · exact (Nat.log2_lt z).mp (by omega)
  have h2 : m < 2 ^ (n + 1) := by
    by_cases z : m = 0
    · subst z; exact Nat.two_pow_pos _
    · exact (Nat.log2_lt z).mp (by omega)
  by_cases z : a + m = 0
  · rw [z]; exact Nat.zero_le _
  · have := (Nat.log2_lt (n := a + m) (k := n + 2) z).mpr (by rw [Nat.pow_succ]; omega)
    omega
theorem log2_small {m : Nat} (h : m < 2 ^ 31) : m.log2 ≤ 31 := by
  by_cases z : m = 0
  · subst z; decide
  · have := (Nat.log2_lt z).mpr h
    omega
theorem log2_mono {a b n : Nat} (h : a ≤ b) (hb : b.log2 ≤ n) : a.log2 ≤ n := by
  by_cases z : a = 0
  · subst z; exact Nat.zero_le _
  · have hb0 : b ≠ 0 := by omega
    have := (Nat.log2_lt z).mpr (Nat.lt_of_le_of_lt h ((Nat.log2_lt hb0).mp (Nat.lt_succ_of_le hb)))
    omega
theorem bd_small {c : Int} (h : c.natAbs < 2 ^ 31) : Bd c := Nat.le_trans (log2_small h) (by decide)
theorem mod_place {i : Int} {n : Nat} (h : 0 < n) : (i % (n : Int)).toNat < n ∧ (((i % (n : Int)).toNat : Nat) : Int) = i % (n : Int) := by
  have h1 : 0 ≤ i % (n : Int) := Int.emod_nonneg i (by omega)
  have h2 : i % (n : Int) < (n : Int) := Int.emod_lt_of_pos i (by omega)
  have h3 : (((i % (n : Int)).toNat : Nat) : Int) = i % (n : Int) := Int.toNat_of_nonneg h1
  refine ⟨?_, h3⟩
  omega
/-- * of two factors of together less than a hundred million bits -/
def CMulX (i j : Int) : Prop := i.natAbs.log2 + j.natAbs.log2 < 100000000
theorem CMulX.ok {i j : Int} (h : CMulX i j) : IntMulOk i j := by
  have b : ∀ x : Int, Builtin.Int.intBits x ≤ x.natAbs.log2 + 1 := fun x => by
    unfold Builtin.Int.intBits
    split <;> omega
  have h1 := b i
  have h2 := b j
  have h3 : i.natAbs.log2 + j.natAbs.log2 < 100000000 := h
  have e : bitsLine = 134217728 := by decide
  unfold IntMulOk
  intro z
  rw [Bool.and_eq_true] at z
  have z2 := z.2
  unfold Builtin.Int.intTooBig at z2
  have z3 := of_decide_eq_true z2
  rw [e] at z3
  omega
theorem op_mulX {X : Cx} : OpR X (binaryOp .Mult) (rI CMulX fun i j => .int (i * j)) := opI fun _ _ _ _ _ _ _ hc q => mul_int q hc.ok
abbrev sMix : Stmt := top 49
abbrev nMix : List Str := ["_law_cell_here", "_law_k", "_law_number"]
theorem sc49 : FnScope nMix ["_law_cell_here", "_law_k"] (defScope sMix) := ⟨rfl, rfl, rfl, by decide +kernel, rfl, by decide +kernel, by decide +kernel⟩
def spMix : Sp := fun vs H Q _ => ∃ (c : Int) (k : Nat), vs = [.int c, .int k] ∧ Bd c ∧ k ≤ 1000 ∧ ∀ v : Int, 0 ≤ v → v < 2147483399 → Q (.int v) H
abbrev sCell : Stmt := top 50
theorem sc50 : FnScope ["_law_script", "_law_k"] ["_law_script", "_law_k"] (defScope sCell) := ⟨rfl, rfl, rfl, by decide +kernel, rfl, by decide +kernel, by decide +kernel⟩
def spCellB (K : PySem.W.Frag) : Sp := fun vs H Q _ => ∃ (a : Addr) (ns : List Int) (k : Nat), vs = [.ref a, .int k] ∧ SqL K H a (ns.map V.int) ∧ (∀ c ∈ ns, Bd c) ∧ ns.length ≤ 1000 ∧ k ≤ 1000 ∧ ∀ v : Int, Bd v → Q (.int v) H
abbrev sRow : Stmt := top 51
abbrev nRow : List Str := ["_law_cell_here", "_law_sizes", "_law_row_here", "_law_rest", "_law_k"]
theorem sc51 : FnScope nRow ["_law_cell_here", "_law_sizes"] (defScope sRow) := ⟨rfl, rfl, rfl, by decide +kernel, rfl, by decide +kernel, by decide +kernel⟩
/-- digits below their sizes -/
structure DigOk (ds ss : List Nat) : Prop where
  len : ds.length = ss.length
  lt : ∀ (i d s : Nat), ds[i]? = some d → ss[i]? = some s → d < s
def spRow : Sp := fun vs H Q _ => ∃ (c : Int) (a : Addr) (ss : List Nat), vs = [.int c, .ref a] ∧ Bd c ∧ H a = some (.lst (ss.map natV)) ∧ (∀ s ∈ ss, 1 ≤ s ∧ s ≤ 1000) ∧ ss.length ≤ 500 ∧
  ∀ (H' : Hp) (p : Addr) (ds : List Nat), Same H H' → H p = none → H' p = some (.lst (ds.map natV)) → DigOk ds ss → Q (.ref p) H'
section
variable {P : Program} {w : World} {K : PySem.W.Frag} {mg : Str → Option Value} {base : Heap}
theorem ok_mix (B : Bx mg) {f : Addr} {fd : FuncData} (F : Fun K "_law_mix" "_law_mix" sMix f fd) : FnOk P w K mg base CX0 1 f fd ["_law_cell_here", "_law_k"] spMix := by
  refine F.ok sc49 (fun vs H Q E h => ?_) (fun cdv A outer s H vs Q E hr h => ?_)
  · obtain ⟨_, _, rfl, _⟩ := h
    rfl
  · obtain ⟨c, k, rfl, hc, hk, q⟩ := h
    refine ⟨_, pss_cons (ps_set (i := 2) sc49.nd rfl (Or.inl rfl) (pe_op op_mod (pe_op op_mulX (pe_callTy call_int1 (by rfl) B.int boot_int (pa_cons (pe_op op_add (pe_op op_add (pe_callTy call_int1 (by rfl) B.int boot_int (pa_cons (pv 0) pa_nil)) (pe_op op_mulX pe_int (pv 1))) pe_int) pa_nil)) pe_int) pe_int))
      (pss_cons (ps_set (i := 2) sc49.nd rfl (Or.inl rfl) (pe_op op_mod (pe_callTy call_int1 (by rfl) B.int boot_int (pa_cons (pe_op op_mulX (pv 2) (pe_op op_add (pe_op op_fdiv (pv 2) pe_int) pe_int)) pa_nil)) pe_int))
      (pss_one (ps_ret (pe_op op_mod (pe_callTy call_int1 (by rfl) B.int boot_int (pa_cons (pe_op op_mulX (pv 2) (pe_op op_add (pe_op op_fdiv (pv 2) pe_int) pe_int)) pa_nil)) pe_int)))), ?_⟩
    have e7 : (7919 * ((k : Nat) : Int)).natAbs < 2 ^ 31 := by
      have : (7919 * ((k : Nat) : Int)).natAbs = 7919 * k := by omega
      rw [this]; omega
    have hc1 : (c + 7919 * ((k : Nat) : Int) + 1).natAbs.log2 ≤ 1048577 := by
      refine log2_mono (b := c.natAbs + (7919 * k + 1)) (by omega) ?_
      refine log2_add hc (Nat.le_trans (log2_small ?_) (by decide))
      omega
    have l1 : (48271 : Int).natAbs.log2 ≤ 31 := log2_small (by decide)
    have l2 : (7919 : Int).natAbs.log2 ≤ 31 := log2_small (by decide)
    have l3 : ((k : Nat) : Int).natAbs.log2 ≤ 31 := log2_small (by omega)
    refine ⟨_, rfl, .inl ⟨c, rfl, _, rfl, _, _, rfl, rfl, by unfold CMulX; omega, _, _, rfl, rfl, _, _, rfl, rfl, .inl ⟨_, rfl, _, _, rfl, rfl, by unfold CMulX; omega, _, _, rfl, rfl, (by show (0 : Int) < 2147483647; decide), ?_⟩⟩⟩
    have em : ∀ {x m : Int}, 0 < m → 0 ≤ x % m ∧ x % m < m := fun h => ⟨Int.emod_nonneg _ (by omega), Int.emod_lt_of_pos _ h⟩
    have cm1 : ∀ n : Int, 0 ≤ n ∧ n < 2147483647 → CMulX n (n / 1009 + 69621) := fun n h => by
      have h1 : n.natAbs.log2 ≤ 31 := log2_small (by omega)
      have h2 : (n / 1009 + 69621).natAbs.log2 ≤ 31 := log2_small (by omega)
      show _ + _ < _
      omega
    have cm2 : ∀ n : Int, 0 ≤ n ∧ n < 2147483647 → CMulX n (n / 2003 + 40692) := fun n h => by
      have h1 : n.natAbs.log2 ≤ 31 := log2_small (by omega)
      have h2 : (n / 2003 + 40692).natAbs.log2 ≤ 31 := log2_small (by omega)
      show _ + _ < _
      omega
    refine ⟨_, rfl, _, rfl, _, _, rfl, rfl, ⟨by decide, by decide⟩, _, _, rfl, rfl, _, _, rfl, rfl, cm1 _ (em (by decide)), ?_⟩
    refine .inl ⟨_, rfl, _, _, rfl, rfl, (by show (0 : Int) < 2147483647; decide), ?_⟩
    refine ⟨_, rfl, _, rfl, _, _, rfl, rfl, ⟨by decide, by decide⟩, _, _, rfl, rfl, _, _, rfl, rfl, cm2 _ (em (by decide)), ?_⟩
    refine .inl ⟨_, rfl, _, _, rfl, rfl, (by show (0 : Int) < 2147483399; decide), ?_⟩
    exact q _ (em (by decide)).1 (em (by decide)).2
theorem ok_cell (B : Bx mg) {f1 f : Addr} {fd1 fd : FuncData} (F1 : FnOk P w K mg base CX0 1 f1 fd1 ["_law_cell_here", "_law_k"] spMix) (b1 : Binds K fd1 ["_law_cell_here", "_law_k"] []) (m1 : mg "_law_mix" = some (.ref f1)) (k1 : PySem.W.keepIn K (.ref f1) = true)
    (F : Fun K "_law_cell" "_law_cell" sCell f fd) : FnOk P w K mg base CX0 2 f fd ["_law_script", "_law_k"] (spCellB K) := by
  refine F.ok sc50 (fun vs H Q E h => ?_) (fun cdv A outer s H vs Q E hr h => ?_)
  · obtain ⟨_, _, _, rfl, _⟩ := h
    rfl
  · obtain ⟨a, ns, k, rfl, hS, hB, hl, hk, q⟩ := h
    refine ⟨_, pss_cons (ps_if (pt_cmpR op_lt (pv 1) (pe_callB call_len_seq (by rfl) B.len boot_len (pa_cons (pv 0) pa_nil)) (nomark _)) (pss_one (ps_ret (pe_callTy call_int1 (by rfl) B.int boot_int (pa_cons (pe_ix ix_list (pv 0) (pv 1) (fun _ _ => rfl)) pa_nil)))) pss_nil)
      (pss_cons (ps_if (pt_cmpR op_eq (pe_callB call_len_seq (by rfl) B.len boot_len (pa_cons (pv 0) pa_nil)) pe_int (nomark _)) (pss_one (ps_ret (pv 1))) pss_nil)
      (pss_one (ps_ret (pe_call F1 hr (by rfl) m1 k1 b1 .nil pass0 (pa_cons (pe_ix ix_list (pv 0) (pe_op op_mod (pe_callTy call_int1 (by rfl) B.int boot_int (pa_cons (pv 1) pa_nil)) (pe_callB call_len_seq (by rfl) B.len boot_len (pa_cons (pv 0) pa_nil))) (fun _ _ => rfl)) (pa_cons (pv 1) pa_nil)))))), ?_⟩
    have at_ : ∀ j (h : j < ns.length), atI (ns.map V.int) ((j : Nat) : Int) = some (.int ns[j]) := fun j h => atI_nat (by rw [List.getElem?_map, List.getElem?_eq_getElem h]; rfl)
    refine ⟨_, rfl, _, rfl, a, _, rfl, .inl hS, _, _, rfl, rfl, _, rfl, ?_⟩
    rw [List.length_map]
    refine ite2 (fun hlt => ?_) (fun hlt => ?_)
    · have hlt := of_decide_eq_true hlt
      have hkn : k < ns.length := by omega
      exact ⟨_, rfl, _, rfl, a, _, _, _, rfl, rfl, hS, at_ k hkn, .inl ⟨_, rfl, q _ (hB _ (List.getElem_mem hkn))⟩⟩
    refine ⟨_, rfl, a, _, rfl, .inl hS, rfl, _, rfl, ?_⟩
    rw [List.length_map]
    refine ite2 (fun h0 => ?_) (fun h0 => ?_)
    · exact ⟨_, rfl, q _ (bd_small (by omega))⟩
    have hne : ns.length ≠ 0 := fun z => h0 (by rw [z]; rfl)
    refine ⟨_, rfl, _, rfl, .inl ⟨_, rfl, _, rfl, a, _, rfl, .inl hS, _, _, rfl, rfl, ?_, ?_⟩⟩
    · rw [List.length_map]; omega
    obtain ⟨p1, p2⟩ := mod_place (i := (k : Int)) (n := ns.length) (by omega)
    rw [List.length_map]
    dsimp only
    rw [← p2]
    refine ⟨a, _, _, _, rfl, rfl, hS, at_ _ p1, _, rfl, _, k, rfl, hB _ (List.getElem_mem p1), hk, fun v h1 h2 => q v (bd_small (by omega))⟩
theorem ok_row (B : Bx mg) {f1 f : Addr} {fd1 fd : FuncData} (F1 : FnOk P w K mg base CX0 1 f1 fd1 ["_law_cell_here", "_law_k"] spMix) (b1 : Binds K fd1 ["_law_cell_here", "_law_k"] []) (m1 : mg "_law_mix" = some (.ref f1)) (k1 : PySem.W.keepIn K (.ref f1) = true)
    (F : Fun K "_law_row" "_law_row" sRow f fd) : FnOk P w K mg base CX0 2 f fd ["_law_cell_here", "_law_sizes"] spRow := by
  refine F.ok sc51 (fun vs H Q E h => ?_) (fun cdv A outer s H vs Q E hr h => ?_)
  · obtain ⟨_, _, _, rfl, _⟩ := h
    rfl
  · obtain ⟨c, a, ss, rfl, hc, ha, hss, hl, q⟩ := h
    refine ⟨_, pss_cons (ps_set (i := 2) sc51.nd rfl (Or.inl rfl) (pe_lst pa_nil))
      (pss_cons (ps_set (i := 3) sc51.nd rfl (Or.inl rfl) (pe_callTy call_int1 (by rfl) B.int boot_int (pa_cons (pv 0) pa_nil)))
      (pss_cons (ps_for PassesOwn.never rfl (pi_range1 rfl B.range (pa_cons (pe_callB call_len_seq (by rfl) B.len boot_len (pa_cons (pv 1) pa_nil)) pa_nil)) (pg_name (i := 4) sc51.nd rfl (Or.inl rfl))
        (pss_one (ps_if (pt_cmpR op_ge (pv 0) (pe_op op_pow pe_int pe_int) (nomark _))
          (pss_cons (ps_expr (pe_bm PySem.F.plainAttrs_list PySem.F.slot_list_append PySem.F.type_list_append mt_append (pv 2) (pa_cons (pe_op op_mod (pe_callTy call_int1 (by rfl) B.int boot_int (pa_cons (pv 3) pa_nil)) (pe_ix ix_list (pv 1) (pv 4) (fun _ _ => rfl))) pa_nil)))
          (pss_one (ps_set (i := 3) sc51.nd rfl (Or.inl rfl) (pe_op op_fdiv (pv 3) (pe_ix ix_list (pv 1) (pv 4) (fun _ _ => rfl))))))
          (pss_one (ps_expr (pe_bm PySem.F.plainAttrs_list PySem.F.slot_list_append PySem.F.type_list_append mt_append (pv 2) (pa_cons (pe_op op_mod (pe_callTy call_int1 (by rfl) B.int boot_int (pa_cons (pe_call F1 hr (by rfl) m1 k1 b1 .nil pass0 (pa_cons (pv 0) (pa_cons (pv 4) pa_nil))) pa_nil)) (pe_ix ix_list (pv 1) (pv 4) (fun _ _ => rfl))) pa_nil)))))))
      (pss_one (ps_ret (pv 2))))), ?_⟩
    refine ⟨by show 0 ≤ sizeLine; decide, fun l hl0 => ?_⟩
    have hal : a ≠ l := ne_of_none ha hl0
    have s0 : Same H (upd H l (.lst [])) := Same.upd same_rfl hl0
    refine ⟨_, rfl, .inl ⟨c, rfl, ?_⟩⟩
    refine ⟨_, rfl, a, _, rfl, .inl (SqL.of (s0 _ _ ha)), ((ss.map natV).length : Nat), rfl, by omega, by rw [List.length_map]; omega, for_range (n := (((ss.map natV).length : Nat) : Int).toNat) (fun i σ H' => ∃ (rest : Int) (v4 : Option V) (ds : List Nat), σ = [some (.int c), some (.ref a), some (.ref l), some (.int rest), v4] ∧ Same H H' ∧ H' l = some (.lst (ds.map natV)) ∧ DigOk ds (ss.take i))
      ⟨c, none, [], rfl, s0, upd_same, ⟨rfl, fun i d s h => by simp at h⟩⟩ ?_ ?_⟩
    · rintro i σ H' hi ⟨rest, v4, ds, rfl, s', hl', D⟩
      have hi : i < ss.length := by simpa using hi
      have at_ : atI (ss.map natV) ((0 : Int) + (i : Nat)) = some (natV ss[i]) := by
        rw [Int.zero_add]
        exact atI_nat (by rw [List.getElem?_map, List.getElem?_eq_getElem hi]; rfl)
      have hsi := hss _ (List.getElem_mem hi)
      have hdl : ds.length = i := by rw [D.len, List.length_take]; omega
      have hal' := s' _ _ ha
      have step : ∀ x : Int, ∃ d : Nat, x % ((ss[i] : Nat) : Int) = (d : Nat) ∧ d < ss[i] := fun x => by
        obtain ⟨p1, p2⟩ := mod_place (i := x) (n := ss[i]) (by omega)
        exact ⟨_, p2.symm, p1⟩
      have nxt : ∀ d, d < ss[i] → DigOk (ds ++ [d]) (ss.take (i + 1)) := fun d hd => by
        refine ⟨by rw [List.length_append, hdl, List.length_take]; show i + 1 = _; omega, fun j d' s' h1 h2 => ?_⟩
        by_cases hj : j < i
        · rw [List.getElem?_append_left (by omega)] at h1
          rw [List.getElem?_take_of_lt (by omega)] at h2
          exact D.lt j d' s' h1 (by rw [List.getElem?_take_of_lt hj]; exact h2)
        · have hj' : j = i := by
            have := (List.getElem?_eq_some_iff.mp h1).1
            rw [List.length_append, hdl] at this
            have : j < i + 1 := this
            omega
          subst hj'
          rw [List.getElem?_append_right (by omega), hdl, Nat.sub_self] at h1
          rw [List.getElem?_take_of_lt (by omega), List.getElem?_eq_getElem hi] at h2
          cases h1
          cases h2
          exact hd
      refine ⟨_, rfl, _, _, rfl, rfl, ⟨by decide, by decide, by decide⟩, _, _, rfl, rfl, _, rfl, ?_⟩
      have sz : ds.length < sizeLine := Nat.lt_of_le_of_lt (by omega : ds.length ≤ 500) (by decide)
      refine ite2 (fun hge => ?_) (fun hlt => ?_)
      · obtain ⟨d, hd1, hd2⟩ := step rest
        refine ⟨_, rfl, .inl ⟨rfl, _, SqL.of hl'⟩, _, rfl, .inl ⟨_, rfl, _, rfl, _, rfl, a, _, _, _, rfl, rfl, SqL.of hal', at_, _, _, rfl, rfl, by omega, l, _, _, rfl, rfl, hl', by rw [List.length_map]; exact sz, ?_⟩⟩
        have hA : upd H' l (.lst (List.map natV ds ++ [V.int (rest % ((ss[i] : Nat) : Int))])) a = some (.lst (ss.map natV)) := by rw [upd_ne hal]; exact hal'
        refine ⟨_, rfl, _, rfl, _, rfl, a, _, _, _, rfl, rfl, SqL.of hA, at_, _, _, rfl, rfl, ⟨by omega, by omega⟩, ?_⟩
        refine ⟨_, _, ds ++ [d], rfl, ?_, ?_, nxt d hd2⟩
        · exact fun b o e => by rw [upd_ne (ne_of_none e hl0)]; exact s' _ _ e
        · rw [upd_same, List.map_append]
          dsimp only
          rw [hd1]; rfl
      · refine ⟨_, rfl, .inl ⟨rfl, _, SqL.of hl'⟩, _, rfl, _, rfl, c, i, by rw [Int.zero_add]; rfl, hc, by omega, fun v _ _ => ?_⟩
        obtain ⟨d, hd1, hd2⟩ := step v
        refine .inl ⟨_, rfl, _, rfl, _, rfl, a, _, _, _, rfl, rfl, SqL.of hal', at_, _, _, rfl, rfl, by omega, l, _, _, rfl, rfl, hl', by rw [List.length_map]; exact sz, ?_⟩
        refine ⟨_, _, ds ++ [d], rfl, ?_, ?_, nxt d hd2⟩
        · exact fun b o e => by rw [upd_ne (ne_of_none e hl0)]; exact s' _ _ e
        · rw [upd_same, List.map_append]
          dsimp only
          rw [hd1]; rfl
    · rintro σ H' ⟨rest, v4, ds, rfl, s', hl', D⟩
      rw [show (((ss.map natV).length : Nat) : Int).toNat = ss.length by simp, List.take_length] at D
      exact ⟨_, rfl, q H' l ds s' hl0 hl' D⟩
end
end KN
/-! The names that the law makes: plain facts. -/
namespace KN
open PySem PySem.Spec PyProof.Rows L2
/-- one letter of the second half among few of the first -/
def NameAt (r0 k : Nat) (x : Str) : Prop := ∃ u v : List Nat, x = SX.S (u ++ (110 + (r0 + 5 * k) % 13) :: v) ∧ (∀ c ∈ u ++ v, 97 ≤ c ∧ c < 110) ∧ (u ++ v).length ≤ 5
structure NamesOk (names : List Str) : Prop where
  nd : names.Nodup
  nm : ∀ x ∈ names, IsName x
theorem letter_in : ∀ c, 97 ≤ c → c < 123 → c ∈ letters.cps.toList := by
  have h : ∀ i : Fin 26, (97 + i.val) ∈ letters.cps.toList := by decide +kernel
  intro c h1 h2
  have := h ⟨c - 97, by omega⟩
  have e : 97 + (c - 97) = c := by omega
  simpa [e] using this
theorem nameAt_is {r0 k : Nat} {x : Str} (h : NameAt r0 k x) : IsName x := by
  obtain ⟨u, v, rfl, hc, hl⟩ := h
  rw [List.length_append] at hl
  have hlen : (SX.S (u ++ (110 + (r0 + 5 * k) % 13) :: v)).length = u.length + (v.length + 1) := by
    rw [SX.S_len, List.length_append, List.length_cons]
  refine ⟨by omega, by omega, fun c hm => ?_⟩
  have hm : c ∈ u ++ (110 + (r0 + 5 * k) % 13) :: v := hm
  rcases List.mem_append.mp hm with z | z
  · have := hc c (List.mem_append_left _ z)
    exact letter_in c (by omega) (by omega)
  · rcases List.mem_cons.mp z with z | z
    · have h13 : (r0 + 5 * k) % 13 < 13 := Nat.mod_lt _ (by decide)
      exact letter_in c (by omega) (by omega)
    · have := hc c (List.mem_append_right _ z)
      exact letter_in c (by omega) (by omega)
theorem nameAt_inj {r0 k k' : Nat} {x : Str} (h : NameAt r0 k x) (h' : NameAt r0 k' x) (hk : k < 13) (hk' : k' < 13) : k = k' := by
  obtain ⟨u, v, rfl, hc, hl⟩ := h
  obtain ⟨u', v', e, hc', hl'⟩ := h'
  have e := SX.S_inj e
  have hm : 110 + (r0 + 5 * k) % 13 ∈ u' ++ (110 + (r0 + 5 * k') % 13) :: v' := by
    rw [← e]
    exact List.mem_append_right _ List.mem_cons_self
  rcases List.mem_append.mp hm with z | z
  · have := hc' _ (List.mem_append_left _ z)
    omega
  · rcases List.mem_cons.mp z with z | z
    · omega
    · have := hc' _ (List.mem_append_right _ z)
      omega
theorem names_ok {r0 : Nat} {names : List Str} (h : ∀ k x, names[k]? = some x → NameAt r0 k x) (hl : names.length ≤ 13) : NamesOk names := by
  refine ⟨List.pairwise_iff_getElem.mpr fun i j hi hj hij e => ?_, fun x hx => ?_⟩
  · have h1 := h i _ (List.getElem?_eq_getElem hi)
    have h2 := h j _ (List.getElem?_eq_getElem hj)
    rw [e] at h1
    have := nameAt_inj h1 h2 (by omega) (by omega)
    omega
  · obtain ⟨i, hi⟩ := List.getElem?_of_mem hx
    exact nameAt_is (h i x hi)
theorem flat_at {α : Type} {xs : List α} : ∀ (n k j : Nat), k < n → j < xs.length → ((List.replicate n xs).flatten)[xs.length * k + j]? = xs[j]?
  | 0, _, _, h, _ => absurd h (Nat.not_lt_zero _)
  | n + 1, 0, j, _, hj => by
    rw [List.replicate_succ, List.flatten_cons, Nat.mul_zero, Nat.zero_add, List.getElem?_append_left hj]
  | n + 1, k + 1, j, h, hj => by
    rw [List.replicate_succ, List.flatten_cons, List.getElem?_append_right (by rw [Nat.mul_succ]; omega)]
    have e : xs.length * (k + 1) + j - xs.length = xs.length * k + j := by rw [Nat.mul_succ]; omega
    rw [e]
    exact flat_at n k j (by omega) hj
theorem flat_len {α : Type} {xs : List α} (n : Nat) : ((List.replicate n xs).flatten).length = n * xs.length := by simp
theorem joinL_nil : ∀ l : List (List Nat), TL.joinL [] l = l.flatten
  | [] => rfl
  | [p] => by simp [TL.joinL]
  | p :: q :: r => by
    have ih := joinL_nil (q :: r)
    show p ++ ([] ++ TL.joinL [] (q :: r)) = _
    rw [ih]; simp
/-- the sizes of a row of names -/
def nameSizes (many : Nat) : List Nat := [13, 2, 6] ++ (List.replicate many [6, 13, 13, 13, 13, 13]).flatten
theorem nameSizes_at {many k j : Nat} (hk : k < many) (hj : j < 6) : (nameSizes many)[3 + 6 * k + j]? = [6, 13, 13, 13, 13, 13][j]? := by
  unfold nameSizes
  have e : 3 + 6 * k + j - ([13, 2, 6] : List Nat).length = ([6, 13, 13, 13, 13, 13] : List Nat).length * k + j := by
    show 3 + 6 * k + j - 3 = 6 * k + j
    omega
  rw [List.getElem?_append_right (by show 3 ≤ _; omega), e]
  exact flat_at many k j hk hj
theorem nameSizes_len (many : Nat) : (nameSizes many).length = 3 + 6 * many := by
  unfold nameSizes
  rw [List.length_append, flat_len]
  show 3 + many * 6 = _
  omega
theorem nameSizes_ok {many : Nat} : ∀ s ∈ nameSizes many, 1 ≤ s ∧ s ≤ 1000 := by
  intro s hs
  rcases List.mem_append.mp hs with h | h
  · simp at h
    omega
  · obtain ⟨l, h1, h2⟩ := List.mem_flatten.mp h
    rw [(List.mem_replicate.mp h1).2] at h2
    simp at h2
    omega
end KN
/-! _law_names. -/
namespace KN
open PySem PySem.Spec PyProof.Rows L2
abbrev sNames : Stmt := top 52
abbrev nNames : List Str := ["_law_cell_here", "_law_many", "_law_row_here", "_law_names_here", "_law_k", "_law_own", "_law_text", "_law_at", "_law_letter", "_law_digit"]
theorem sc52 : FnScope nNames ["_law_cell_here", "_law_many"] (defScope sNames) := ⟨rfl, rfl, rfl, by decide +kernel, rfl, by decide +kernel, by decide +kernel⟩
def spNames : Sp := fun vs H Q _ => ∃ (c : Int) (many : Nat), vs = [.int c, .int many] ∧ Bd c ∧ 1 ≤ many ∧ many ≤ 10 ∧
  ∀ (H' : Hp) (p : Addr) (names : List Str), Same H H' → H p = none → H' p = some (.lst (names.map .str)) → names.length = many → NamesOk names → Q (.ref p) H'
theorem cut_nat {xs : List V} {a b : Nat} (h : a ≤ b) (hb : b ≤ xs.length) : cutV xs (some (a : Int)) (some (b : Int)) = (xs.drop a).take (b - a) := by
  unfold cutV
  rw [HT.sIx_nat, HT.sIx_nat, Nat.min_eq_left hb, Nat.min_eq_left (Nat.le_trans h hb)]
theorem cutS_pre {l : List Nat} {a : Nat} (h : a ≤ l.length) : cutS (SX.S l) none (some (a : Int)) = SX.S (l.take a) := by
  unfold cutS
  rw [HT.sIx_none, HT.sIx_nat, SX.S_len, Nat.min_eq_left h]
  rfl
theorem cutS_suf {l : List Nat} {a : Nat} (h : a ≤ l.length) : cutS (SX.S l) (some (a : Int)) none = SX.S (l.drop a) := by
  unfold cutS
  rw [HT.sIx_none, HT.sIx_nat, SX.S_len, Nat.min_eq_left h]
  show SX.S ((l.drop a).take (l.length - a)) = _
  rw [List.take_of_length_le (by rw [List.length_drop]; omega)]
theorem atN {ds : List Nat} {j d : Nat} (h : ds[j]? = some d) : atI (ds.map natV) ((j : Nat) : Int) = some (natV d) := atI_nat (by rw [List.getElem?_map, h]; rfl)
theorem abc_at : ∀ d, d < 13 → ("abcdefghijklm" : Str).cps[d]? = some (97 + d) := by
  have h : ∀ i : Fin 13, ("abcdefghijklm" : Str).cps[i.val]? = some (97 + i.val) := by decide +kernel
  exact fun d hd => h ⟨d, hd⟩
theorem nop_at : ∀ d, d < 13 → ("nopqrstuvwxyz" : Str).cps[d]? = some (110 + d) := by
  have h : ∀ i : Fin 13, ("nopqrstuvwxyz" : Str).cps[i.val]? = some (110 + i.val) := by decide +kernel
  exact fun d hd => h ⟨d, hd⟩
def chV (d : Nat) : Str := SX.S [97 + d]
theorem sum_one : ∀ E : List Nat, ((E.map chV).map (·.length)).sum = E.length
  | [] => rfl
  | d :: E => by
    rw [List.map_cons, List.map_cons, List.sum_cons, sum_one E, List.length_cons]
    show 1 + E.length = _
    omega
theorem join_ch (E : List Nat) : Txt.join (SX.S []) (E.map chV) = SX.S (E.map (97 + ·)) := by
  have h := SX.join_S [] (E.map fun d => [97 + d])
  rw [List.map_map] at h
  have e : E.map (SX.S ∘ fun d => [97 + d]) = E.map chV := rfl
  rw [e, joinL_nil] at h
  rw [h]
  congr 1
  induction E with
  | nil => rfl
  | cons d E ih =>
    rw [List.map_cons, List.flatten_cons, List.map_cons]
    have h' := SX.join_S [] (E.map fun d => [97 + d])
    rw [List.map_map, joinL_nil] at h'
    rw [ih h' rfl]
    rfl
section
variable {P : Program} {w : World} {K : PySem.W.Frag} {mg : Str → Option Value} {base : Heap}
theorem ok_names (B : Bx mg) {fR f : Addr} {fdR fd : FuncData} (FR : FnOk P w K mg base CX0 2 fR fdR ["_law_cell_here", "_law_sizes"] spRow) (bR : Binds K fdR ["_law_cell_here", "_law_sizes"] []) (mR : mg "_law_row" = some (.ref fR)) (kR : PySem.W.keepIn K (.ref fR) = true)
    (F : Fun K "_law_names" "_law_names" sNames f fd) : FnOk P w K mg base CX0 3 f fd ["_law_cell_here", "_law_many"] spNames := by
  refine F.ok sc52 (fun vs H Q E h => ?_) (fun cdv A outer s H vs Q E hr h => ?_)
  · obtain ⟨_, _, rfl, _⟩ := h
    rfl
  · obtain ⟨c, many, rfl, hc, hm1, hm2, q⟩ := h
    refine ⟨_, pss_cons (ps_set (i := 2) sc52.nd rfl (Or.inl rfl) (pe_call FR hr (by rfl) mR kR bR .nil pass0 (pa_cons (pv 0) (pa_cons (pe_op op_cat (pe_lst (pa_cons pe_int (pa_cons pe_int (pa_cons pe_int pa_nil)))) (pe_op op_rep (pe_lst (pa_cons pe_int (pa_cons pe_int (pa_cons pe_int (pa_cons pe_int (pa_cons pe_int (pa_cons pe_int pa_nil))))))) (pv 1))) pa_nil))))
      (pss_cons (ps_set (i := 3) sc52.nd rfl (Or.inl rfl) (pe_lst pa_nil))
      (pss_cons (ps_for PassesOwn.never rfl (pi_range1 rfl B.range (pa_cons (pv 1) pa_nil)) (pg_name (i := 4) sc52.nd rfl (Or.inl rfl))
        (pss_cons (ps_set (i := 5) sc52.nd rfl (Or.inl rfl) (pe_slice sl_list (pv 2) (po_some (pe_op op_add pe_int (pe_op op_mul pe_int (pv 4)))) (po_some (pe_op op_add pe_int (pe_op op_mul pe_int (pv 4))))))
        (C8.pss_cut (ps_if (pt_cmpR op_eq (pe_ix ix_list (pv 2) pe_int (fun _ _ => rfl)) pe_int (nomark _)) (pss_one (ps_set (i := 5) sc52.nd rfl (Or.inl rfl) (pe_slice sl_list (pv 2) (po_some pe_int) (po_some pe_int)))) pss_nil)
        (pss_cons (ps_set (i := 6) sc52.nd rfl (Or.inl rfl) (pe_join pe_str (pe_lc (own := [("_law_digit", 9)]) (tt := tYes) (g := gName 9) rfl sc52.nd (pi_list (pe_slice sl_list (pv 5) (po_some pe_int) (po_some (pe_op op_add pe_int (pe_ix ix_list (pv 5) pe_int (fun _ _ => rfl)))))) (blkOk_by (N := nNames) (sc := defScope sNames) (by decide +kernel)) (fun _ _ _ _ _ => pg_name (i := 9) sc52.nd rfl (Or.inl rfl)) (fun _ _ _ _ _ => pts_nil) (fun _ _ _ _ _ => pe_item_str pe_str (pv 9) (fun _ _ => rfl)))))
        (pss_cons (ps_set (i := 7) sc52.nd rfl (Or.inl rfl) (pe_op op_mod (pe_callTy call_int1 (by rfl) B.int boot_int (pa_cons (pe_ix ix_list (pv 2) pe_int (fun _ _ => rfl)) pa_nil)) (pe_op op_add (pe_callB call_len_str (by rfl) B.len boot_len (pa_cons (pv 6) pa_nil)) pe_int)))
        (pss_cons (ps_set (i := 8) sc52.nd rfl (Or.inl rfl) (pe_item_str pe_str (pe_op op_mod (pe_callTy call_int1 (by rfl) B.int boot_int (pa_cons (pe_op op_add (pe_ix ix_list (pv 2) pe_int (fun _ _ => rfl)) (pe_op op_mul pe_int (pv 4))) pa_nil)) pe_int) (fun _ _ => rfl)))
        (pss_one (ps_expr (pe_bm PySem.F.plainAttrs_list PySem.F.slot_list_append PySem.F.type_list_append mt_append (pv 3) (pa_cons (pe_op op_add_str (pe_op op_add_str (pe_slice sl_str (pv 6) po_none (po_some (pv 7))) (pv 8)) (pe_slice sl_str (pv 6) (po_some (pv 7)) po_none)) pa_nil)))))))))
      ) (pss_one (ps_ret (pv 3))))), ?_⟩
    refine ⟨_, rfl, by show 3 ≤ sizeLine; decide, fun p1 hp1 => ⟨by show 6 ≤ sizeLine; decide, fun p2 hp2 => ⟨_, rfl, p2, _, _, rfl, rfl, upd_same, by omega, by omega, ?_, fun p3 hp3 => ⟨p1, p3, [V.int 13, V.int 2, V.int 6], _, rfl, rfl, ?_, upd_same, ?_, fun p4 hp4 => ?_⟩⟩⟩⟩
    · show 6 * ((many : Nat) : Int).toNat ≤ sizeLine
      have : (60 : Nat) ≤ sizeLine := by decide
      omega
    · have n2 : p1 ≠ p2 := ne_of_none upd_same hp2
      have n3 : p1 ≠ p3 := ne_of_none (by rw [upd_ne n2]; exact upd_same) hp3
      rw [upd_ne n3, upd_ne n2, upd_same]
    · show 3 + _ ≤ sizeLine
      rw [flat_len]
      show 3 + ((many : Nat) : Int).toNat * 6 ≤ sizeLine
      have : (63 : Nat) ≤ sizeLine := by decide
      omega
    have sA := Same.upd (o := HO.lst [V.int 13, V.int 2, V.int 6]) (same_rfl (H := H)) hp1
    refine ⟨c, p4, nameSizes many, rfl, hc, ?_, nameSizes_ok, by rw [nameSizes_len]; omega, fun H1 rl ds s1 hrl hl1 D => ?_⟩
    · rw [upd_same]
      unfold nameSizes
      rw [List.map_append, List.map_flatten, List.map_replicate, Int.toNat_natCast]
      rfl
    have sH : Same H H1 := by
      intro b o e
      refine s1 _ _ ?_
      have n1 := ne_of_none e hp1
      have e1 : upd H p1 (.lst [V.int 13, V.int 2, V.int 6]) b = some o := by rw [upd_ne n1]; exact e
      have n2 := ne_of_none e1 hp2
      have e2 := (upd_ne (o := HO.lst [V.int 6, V.int 13, V.int 13, V.int 13, V.int 13, V.int 13]) n2).trans e1
      have n3 := ne_of_none e2 hp3
      have e3 := (upd_ne (o := HO.lst (List.replicate ((many : Nat) : Int).toNat [V.int 6, V.int 13, V.int 13, V.int 13, V.int 13, V.int 13]).flatten) n3).trans e2
      exact (upd_ne (ne_of_none e3 hp4)).trans e3
    refine ⟨by show 0 ≤ sizeLine; decide, fun nl hnl => ?_⟩
    have dsl : ds.length = 3 + 6 * many := D.len.trans (nameSizes_len many)
    have dg : ∀ k j, k < many → j < 6 → ∃ d, ds[3 + 6 * k + j]? = some d ∧ (j = 0 → d < 6) ∧ d < 13 := fun k j hk hj => by
      have hlt : 3 + 6 * k + j < ds.length := by omega
      have e := List.getElem?_eq_getElem hlt
      have sz := nameSizes_at hk hj
      refine ⟨_, e, fun z => ?_, ?_⟩
      · subst z
        exact D.lt _ _ _ e sz
      · match j, hj with
        | 0, _ => exact Nat.lt_trans (D.lt _ _ _ e sz) (by decide)
        | 1, _ => exact D.lt _ _ _ e sz
        | 2, _ => exact D.lt _ _ _ e sz
        | 3, _ => exact D.lt _ _ _ e sz
        | 4, _ => exact D.lt _ _ _ e sz
        | 5, _ => exact D.lt _ _ _ e sz
    obtain ⟨r0, h0⟩ : ∃ d, ds[0]? = some d := ⟨_, List.getElem?_eq_getElem (by omega)⟩
    obtain ⟨r1, h1⟩ : ∃ d, ds[1]? = some d := ⟨_, List.getElem?_eq_getElem (by omega)⟩
    obtain ⟨r2, h2⟩ : ∃ d, ds[2]? = some d := ⟨_, List.getElem?_eq_getElem (by omega)⟩
    have key : ∀ k, k < many → ∃ (d0 : Nat), ((ds.drop (3 + 6 * k)).take 6)[0]? = some d0 ∧ d0 < 6 ∧ ((ds.drop (3 + 6 * k)).take 6).length = 6 ∧ ∀ d ∈ (((ds.drop (3 + 6 * k)).take 6).drop 1).take d0, d < 13 := fun k hk => by
      obtain ⟨d0, e0, l0, _⟩ := dg k 0 hk (by decide)
      refine ⟨d0, ?_, l0 rfl, ?_, fun d hd => ?_⟩
      · rw [List.getElem?_take_of_lt (by decide), List.getElem?_drop]; exact e0
      · rw [List.length_take, List.length_drop]; omega
      · have hd := List.mem_of_mem_take hd
        obtain ⟨j, hj⟩ := List.getElem?_of_mem hd
        have hj6 := (List.getElem?_eq_some_iff.mp hj).1
        rw [List.length_drop, List.length_take] at hj6
        rw [List.getElem?_drop, List.getElem?_take_of_lt (by omega), List.getElem?_drop] at hj
        obtain ⟨d', e', _, l'⟩ := dg k (1 + j) hk (by omega)
        rw [hj] at e'
        cases e'
        exact l'
    have hl1' : ∀ {H'}, Same H1 H' → SqL K H' rl (ds.map natV) := fun s => SqL.of (s _ _ hl1)
    refine ⟨_, rfl, ((many : Nat) : Int), rfl, by omega, by omega, for_range (n := ((many : Nat) : Int).toNat) (fun i σ H' => ∃ (v4 v5 v6 v7 v8 : Option V) (names : List Str), σ = [some (.int c), some (.int many), some (.ref rl), some (.ref nl), v4, v5, v6, v7, v8, none] ∧ Same H1 H' ∧ H' nl = some (.lst (names.map .str)) ∧ names.length = i ∧ ∀ k x, names[k]? = some x → NameAt r0 k x)
      ⟨_, _, _, _, _, [], rfl, Same.upd same_rfl hnl, upd_same, rfl, fun k x h => by simp at h⟩ ?_ ?_⟩
    · rintro i σ H' hi ⟨v4, v5, v6, v7, v8, names, rfl, s', hn', hlen, hN⟩
      have hi : i < many := by omega
      refine ⟨_, rfl, _, rfl, _, _, rfl, rfl, .inl ⟨by decide, by decide⟩, _, _, rfl, rfl, _, rfl, _, rfl, _, _, rfl, rfl, .inl ⟨by decide, by decide⟩, _, _, rfl, rfl, _, rfl, rl, _, rfl, hl1' s', fun po hpo => ?_⟩
      have e1 : (3 : Int) + 6 * (0 + (i : Int)) = ((3 + 6 * i : Nat) : Int) := by omega
      have e2 : (9 : Int) + 6 * (0 + (i : Int)) = ((9 + 6 * i : Nat) : Int) := by omega
      rw [e1, e2, cut_nat (by omega) (by rw [List.length_map]; omega), show 9 + 6 * i - (3 + 6 * i) = 6 by omega, ← List.map_drop, ← List.map_take]
      have n2 : nl ≠ po := ne_of_none hn' hpo
      refine ⟨fun σ' H3 => ∃ (po : Addr) (k' : Nat), k' < many ∧ σ' = [some (.int c), some (.int many), some (.ref rl), some (.ref nl), some (.int (0 + (i : Nat))), some (.ref po), v6, v7, v8, none] ∧ Same H1 H3 ∧ H3 nl = some (.lst (names.map .str)) ∧ H3 po = some (.lst (((ds.drop (3 + 6 * k')).take 6).map natV)), ?_, ?_⟩
      · have s2 := s'.upd (o := HO.lst (((ds.drop (3 + 6 * i)).take 6).map natV)) (s'.free hpo)
        refine ⟨_, rfl, rl, _, _, _, rfl, rfl, hl1' s2, atN (j := 1) h1, rfl, _, rfl, ?_⟩
        have hnn : upd H' po (.lst (((ds.drop (3 + 6 * i)).take 6).map natV)) nl = some (.lst (names.map .str)) := by rw [upd_ne n2]; exact hn'
        refine ite2 (fun _ => ?_) (fun _ => ?_)
        · refine ⟨_, rfl, _, rfl, _, rfl, rl, _, rfl, hl1' s2, fun po2 hpo2 => ?_⟩
          have ec : cutV (ds.map natV) (some 3) (some 9) = ((ds.drop (3 + 6 * 0)).take 6).map natV := by
            have := cut_nat (xs := ds.map natV) (a := 3) (b := 9) (by decide) (by rw [List.length_map]; omega)
            rw [List.map_take, List.map_drop]
            exact this
          rw [ec]
          exact ⟨po2, 0, by omega, rfl, s2.upd (s2.free hpo2), by rw [upd_ne (ne_of_none hnn hpo2)]; exact hnn, upd_same⟩
        · exact ⟨po, i, hi, rfl, s2, hnn, upd_same⟩
      · rintro σ' H3 ⟨po, k', hk', rfl, s3, hn3, hpo3⟩
        obtain ⟨d0, hd0, d06, D6l, hE⟩ := key k' hk'
        generalize hD6 : (ds.drop (3 + 6 * k')).take 6 = D6 at hd0 D6l hE hpo3
        generalize hEE : (D6.drop 1).take d0 = E at hE
        have El : E.length = d0 := by rw [← hEE, List.length_take, List.length_drop]; omega
        refine ⟨⟨_, rfl⟩, _, rfl, _, rfl, _, rfl, po, _, _, _, rfl, rfl, SqL.of hpo3, atN (j := 0) hd0, _, _, rfl, rfl, _, rfl, po, _, rfl, SqL.of hpo3, fun pe hpe => ?_⟩
        have ec : cutV (D6.map natV) (some 1) (some (1 + ((d0 : Nat) : Int))) = E.map natV := by
          have e1 : (1 : Int) + ((d0 : Nat) : Int) = ((1 + d0 : Nat) : Int) := by omega
          have := cut_nat (xs := D6.map natV) (a := 1) (b := 1 + d0) (by omega) (by rw [List.length_map]; omega)
          rw [e1]
          refine Eq.trans this ?_
          rw [show 1 + d0 - 1 = d0 by omega, ← hEE, List.map_take, List.map_drop]
        rw [ec]
        refine ⟨pe, rfl, ⟨_, SqL.of upd_same⟩, fun Dl hDl => lc_list (a := pe) (xs := E.map natV) (fun j H' => Same H3 H' ∧ H' pe = some (.lst (E.map natV)) ∧ H' Dl = some (.lst (((E.take j).map chV).map .str)))
          ⟨Same.upd (Same.upd same_rfl hpe) ((Same.upd same_rfl hpe).free hDl), by rw [upd_ne (ne_of_none upd_same hDl)]; exact upd_same, upd_same⟩ (fun j H4 _ ⟨_, h, _⟩ => SqL.of h) ?_ ?_⟩
        · rintro j x H4 hx ⟨s4, hpe4, hD4⟩
          obtain ⟨d, hd, rfl⟩ : ∃ d, E[j]? = some d ∧ x = natV d := by
            rw [List.getElem?_map] at hx
            cases e : E[j]? with
            | none => rw [e] at hx; cases hx
            | some d => rw [e] at hx; exact ⟨d, rfl, (Option.some.inj hx).symm⟩
          have hd13 := hE d (List.mem_of_getElem? hd)
          have l13 : ("abcdefghijklm" : Str).length = 13 := by decide +kernel
          refine ⟨rfl, ?_⟩
          refine tYes_ok ?_
          refine iteT ?_
          refine ⟨_, rfl, ("abcdefghijklm" : Str), ((d : Nat) : Int), 97 + d, rfl, rfl, by omega, by omega, by rw [l13]; omega, by rw [Int.toNat_natCast]; exact abc_at d hd13, _, hD4, ?_, ?_, ?_, ?_⟩
          · rw [List.length_map, List.length_map, List.length_take]
            have : (6 : Nat) < sizeLine := by decide
            omega
          · exact s4.upd ((Same.upd same_rfl hpe).free hDl)
          · rw [upd_ne (ne_of_none upd_same hDl)]; exact hpe4
          · rw [upd_same, List.take_add_one, hd]
            simp only [Option.toList_some, List.map_append, List.map_cons, List.map_nil]
            rfl
        · rintro H4 ⟨s4, hpe4, hD4⟩
          rw [List.length_map, List.take_length] at hD4
          refine ⟨_, Dl, E.map chV, rfl, rfl, .inl (SqL.of hD4), ?_, ?_⟩
          · rw [sum_one]
            show E.length + (E.map chV).length * 0 ≤ _
            omega
          have ej : Txt.join ("" : Str) (E.map chV) = SX.S (E.map (97 + ·)) := join_ch E
          have s14 := s3.trans s4
          have hn4 := s4 _ _ hn3
          generalize hT : E.map (97 + ·) = T at ej
          have Tl : T.length ≤ 5 := by rw [← hT, List.length_map]; omega
          have Tc : ∀ x ∈ T, 97 ≤ x ∧ x < 110 := fun x hx => by
            rw [← hT] at hx
            obtain ⟨d, hd, rfl⟩ := List.mem_map.mp hx
            have := hE d hd
            omega
          have big : (40 : Nat) ≤ sizeLine := by decide
          obtain ⟨tt, htt, htl⟩ : ∃ t : Nat, ((r2 : Nat) : Int) % (((Txt.join ("" : Str) (E.map chV)).length : Nat) + 1) = (t : Nat) ∧ t ≤ T.length := by
            have e : (((Txt.join ("" : Str) (E.map chV)).length : Nat) : Int) + 1 = ((T.length + 1 : Nat) : Int) := by
              rw [ej, SX.S_len]; omega
            rw [e]
            obtain ⟨p1, p2⟩ := mod_place (i := (r2 : Int)) (n := T.length + 1) (by omega)
            exact ⟨_, p2.symm, by omega⟩
          refine ⟨_, rfl, rl, _, _, _, rfl, rfl, hl1' s14, atN (j := 2) h2, .inl ⟨_, rfl, _, rfl, _, rfl, by rw [ej, SX.S_len]; omega, _, _, rfl, rfl, _, _, rfl, rfl, (by show (0 : Int) < _; omega), ?_⟩⟩
          dsimp only
          rw [ej] at htt ⊢
          have et : ((((r0 : Nat) : Int) + 5 * (0 + (i : Nat))) % 13).toNat = (r0 + 5 * i) % 13 := by omega
          have l13 : ("nopqrstuvwxyz" : Str).length = 13 := by decide +kernel
          refine ⟨_, rfl, rl, _, _, _, rfl, rfl, hl1' s14, atN (j := 0) h0, _, rfl, _, _, rfl, rfl, .inl ⟨by decide, by decide⟩, _, _, rfl, rfl, .inl ⟨_, rfl, _, _, rfl, rfl, (by show (0 : Int) < 13; decide), ("nopqrstuvwxyz" : Str), _, 110 + (r0 + 5 * i) % 13, rfl, rfl, ?_, ?_, ?_, ?_, ?_⟩⟩
          · show 0 ≤ (((r0 : Nat) : Int) + 5 * (0 + (i : Nat))) % 13
            omega
          · show (((r0 : Nat) : Int) + 5 * (0 + (i : Nat))) % 13 < 2 ^ 63
            omega
          · show (((r0 : Nat) : Int) + 5 * (0 + (i : Nat))) % 13 < _
            rw [l13]; omega
          · show ("nopqrstuvwxyz" : Str).cps[((((r0 : Nat) : Int) + 5 * (0 + (i : Nat))) % 13).toNat]? = _
            rw [et]
            exact nop_at _ (Nat.mod_lt _ (by decide))
          rw [htt]
          have cl : ∀ (a b : List Nat), (SX.S a ++ SX.S b).length = a.length + b.length := fun a b => by rw [SX.S_cat, SX.S_len, List.length_append]
          refine ⟨_, rfl, .inl ⟨rfl, _, SqL.of hn4⟩, _, rfl, _, rfl, _, rfl, SX.S T, rfl, by rw [SX.S_len]; omega, _, rfl, _, _, rfl, rfl, ?_, _, rfl, _, rfl, _, rfl, SX.S T, rfl, by rw [SX.S_len]; omega, _, _, rfl, rfl, ?_, nl, _, _, rfl, rfl, hn4, ?_, ?_⟩
          · rw [cutS_pre htl]
            show (SX.S (T.take tt)).length + 1 ≤ _
            rw [SX.S_len, List.length_take]; omega
          · rw [cutS_pre htl, cutS_suf htl]
            show (SX.S (T.take tt) ++ SX.S [110 + (r0 + 5 * i) % 13]).length + _ ≤ _
            rw [cl, SX.S_len, List.length_take, List.length_drop]
            show min tt T.length + 1 + (T.length - tt) ≤ _
            omega
          · rw [List.length_map]; omega
          rw [cutS_pre htl, cutS_suf htl]
          refine ⟨_, _, _, _, _, names ++ [SX.S (T.take tt ++ (110 + (r0 + 5 * i) % 13) :: T.drop tt)], rfl, ?_, ?_, ?_, fun k x hx => ?_⟩
          · exact fun b o e => by
              have := s14 _ _ e
              have nb : b ≠ nl := fun z => by subst z; rw [hnl] at e; cases e
              rw [upd_ne nb]; exact this
          · rw [upd_same, List.map_append]
            have e : SX.S (T.take tt) ++ SX.S [110 + (r0 + 5 * i) % 13] ++ SX.S (T.drop tt) = SX.S (T.take tt ++ (110 + (r0 + 5 * i) % 13) :: T.drop tt) := by
              rw [SX.S_cat, SX.S_cat, List.append_assoc]
              rfl
            rw [← e]
            rfl
          · rw [List.length_append, hlen]; rfl
          · by_cases hk : k < names.length
            · rw [List.getElem?_append_left hk] at hx
              exact hN k x hx
            · rw [List.getElem?_append_right (by omega)] at hx
              have hk0 : k - names.length = 0 := by
                have := (List.getElem?_eq_some_iff.mp hx).1
                have : k - names.length < 1 := this
                omega
              rw [hk0] at hx
              have hx := (Option.some.inj hx).symm
              have hki : k = i := by omega
              subst hki
              refine ⟨T.take tt, T.drop tt, hx, fun c hc => ?_, ?_⟩
              · rw [List.take_append_drop] at hc; exact Tc c hc
              · rw [List.take_append_drop]; exact Tl
    · rintro σ H' ⟨v4, v5, v6, v7, v8, names, rfl, s', hn', hlen, hN⟩
      rw [Int.toNat_natCast] at hlen
      exact ⟨_, rfl, q H' nl names (sH.trans s') (sH.free hnl) hn' hlen (names_ok hN (by omega))⟩
end
end KN
/-! The machine that the law makes: plain facts. -/
namespace KN
open PySem PySem.Spec PyProof.Rows L2
/-- what the law's machine is -/
structure MData (names : List Str) (labs : List Int) (st : List Step) : Prop where
  ne : labs ≠ []
  l7 : labs.length ≤ 7
  sm : ∀ q ∈ labs, 0 ≤ q ∧ q < 100
  ok : ∀ e ∈ st, e.1 ∈ labs ∧ e.2.1 ∈ names ∧ e.2.2 ∈ labs
  lv : ∀ q ∈ labs, ∃ e ∈ st, e.1 = q
  nd : st.Nodup
  le : st.length ≤ 14
  few : ∀ q : Int, (st.filter fun e => decide (e.1 = q)).length ≤ 8
  hw : ∀ n0, names[0]? = some n0 → ∃ e ∈ st, e.2.1 = n0
def StpOk (names : List Str) (labs : List Int) (e : Step) : Prop := e.1 ∈ labs ∧ e.2.1 ∈ names ∧ e.2.2 ∈ labs
/-- j steps more than one a label at most -/
structure MBld (names : List Str) (labs : List Int) (j : Nat) (st : List Step) : Prop where
  ok : ∀ e ∈ st, StpOk names labs e
  lv : ∀ q ∈ labs, ∃ e ∈ st, e.1 = q
  nd : st.Nodup
  le : st.length ≤ 7 + j
  few : ∀ q : Int, (st.filter fun e => decide (e.1 = q)).length ≤ 1 + j
theorem cnt_nd : ∀ {st : List Step}, (st.map (·.1)).Nodup → ∀ q : Int, (st.filter fun e => decide (e.1 = q)).length ≤ 1
  | [], _, q => by simp
  | e :: st, h, q => by
    rw [List.map_cons] at h
    obtain ⟨h1, h2⟩ := List.nodup_cons.mp h
    by_cases z : e.1 = q
    · rw [List.filter_cons_of_pos (by simpa using z)]
      have : st.filter (fun e => decide (e.1 = q)) = [] := List.filter_eq_nil_iff.mpr fun a ha w => by
        have w := of_decide_eq_true w
        exact h1 (List.mem_map.mpr ⟨a, ha, w.trans z.symm⟩)
      rw [this]; exact Nat.le_refl _
    · rw [List.filter_cons_of_neg (by simpa using z)]
      exact cnt_nd h2 q
theorem nd_of_fst : ∀ {st : List Step}, (st.map (·.1)).Nodup → st.Nodup
  | [], _ => .nil
  | e :: st, h => by
    rw [List.map_cons] at h
    obtain ⟨h1, h2⟩ := List.nodup_cons.mp h
    exact List.nodup_cons.mpr ⟨fun z => h1 (List.mem_map.mpr ⟨e, z, rfl⟩), nd_of_fst h2⟩
theorem mb_start {names : List Str} {labs : List Int} {st : List Step} (hl : labs.Nodup) (h7 : labs.length ≤ 7) (hs : st.map (·.1) = labs) (ok : ∀ e ∈ st, StpOk names labs e) : MBld names labs 0 st where
  ok := ok
  lv := fun q hq => by
    rw [← hs] at hq
    obtain ⟨e, he, rfl⟩ := List.mem_map.mp hq
    exact ⟨e, he, rfl⟩
  nd := nd_of_fst (by rw [hs]; exact hl)
  le := by
    have := congrArg List.length hs
    rw [List.length_map] at this
    omega
  few := cnt_nd (by rw [hs]; exact hl)
theorem mb_skip {names : List Str} {labs : List Int} {j : Nat} {st : List Step} (h : MBld names labs j st) : MBld names labs (j + 1) st :=
  ⟨h.ok, h.lv, h.nd, Nat.le_succ_of_le h.le, fun q => Nat.le_succ_of_le (h.few q)⟩
theorem mb_add {names : List Str} {labs : List Int} {j : Nat} {st : List Step} (h : MBld names labs j st) {e : Step} (ne : e ∉ st) (ok : StpOk names labs e) : MBld names labs (j + 1) (st ++ [e]) where
  ok := fun f hf => by
    rcases List.mem_append.mp hf with z | z
    · exact h.ok f z
    · rw [List.mem_singleton.mp z]; exact ok
  lv := fun q hq => let ⟨f, h1, h2⟩ := h.lv q hq; ⟨f, List.mem_append_left _ h1, h2⟩
  nd := List.nodup_append.mpr ⟨h.nd, by simp, fun a ha b hb => by
    rw [List.mem_singleton.mp hb]
    exact fun z => ne (z ▸ ha)⟩
  le := by
    have := h.le
    rw [List.length_append]
    show st.length + 1 ≤ _
    omega
  few := fun q => by
    have h1 := h.few q
    rw [List.filter_append, List.length_append]
    have h2 : ([e].filter fun e => decide (e.1 = q)).length ≤ 1 := List.length_filter_le _ _
    omega
theorem mb_mono {names : List Str} {labs : List Int} {j k : Nat} {st : List Step} (h : MBld names labs j st) (hk : j ≤ k) : MBld names labs k st :=
  ⟨h.ok, h.lv, h.nd, Nat.le_trans h.le (by omega), fun q => Nat.le_trans (h.few q) (by omega)⟩
theorem mb_end {names : List Str} {labs : List Int} {st st' : List Step} (ne : labs ≠ []) (l7 : labs.length ≤ 7) (sm : ∀ q ∈ labs, 0 ≤ q ∧ q < 100) (h : MBld names labs 7 st) (hw : ∀ n0, names[0]? = some n0 → ∃ e ∈ st, e.2.1 = n0) (p : st'.Perm st) : MData names labs st' where
  ne := ne
  l7 := l7
  sm := sm
  ok := fun e he => h.ok e (p.mem_iff.mp he)
  lv := fun q hq => let ⟨e, h1, h2⟩ := h.lv q hq; ⟨e, p.mem_iff.mpr h1, h2⟩
  nd := p.nodup_iff.mpr h.nd
  le := by rw [p.length_eq]; exact h.le
  few := fun q => by rw [(p.filter _).length_eq]; exact h.few q
  hw := fun n0 h0 => let ⟨e, h1, h2⟩ := hw n0 h0; ⟨e, p.mem_iff.mpr h1, h2⟩
theorem rot_perm {α : Type} (t : Nat) (l : List α) : (l.drop t ++ l.take t).Perm l := by
  have := List.perm_append_comm (l₁ := l.drop t) (l₂ := l.take t)
  rwa [List.take_append_drop] at this
/-- the labels -/
def lab (r2 s k : Nat) : Nat := (r2 + s * k) % 100
def strides : List Nat := [1, 3, 7, 9, 11, 13, 17, 19]
theorem lab_inj {r2 s k k' : Nat} (hs : s ∈ strides) (hk : k < 7) (hk' : k' < 7) (h : lab r2 s k = lab r2 s k') : k = k' := by
  unfold lab at h
  simp only [strides, List.mem_cons, List.not_mem_nil, or_false] at hs
  rcases hs with rfl | rfl | rfl | rfl | rfl | rfl | rfl | rfl <;> omega
def labN (r2 s many : Nat) : List Nat := (List.range many).map (lab r2 s)
theorem labN_nd {r2 s many : Nat} (hs : s ∈ strides) (hm : many ≤ 7) : (labN r2 s many).Nodup := by
  unfold labN
  refine List.pairwise_map.mpr ?_
  refine List.pairwise_iff_getElem.mpr fun i j hi hj hij e => ?_
  rw [List.getElem_range, List.getElem_range] at e
  rw [List.length_range] at hi hj
  have := lab_inj hs (by omega) (by omega) e
  omega
def labI (r2 s many : Nat) : List Int := (labN r2 s many).map fun (n : Nat) => (n : Int)
theorem labI_nd {r2 s many : Nat} (hs : s ∈ strides) (hm : many ≤ 7) : (labI r2 s many).Nodup := by
  unfold labI
  refine List.pairwise_map.mpr ((labN_nd hs hm).imp fun h e => h (by omega))
theorem labI_sm {r2 s many : Nat} : ∀ q ∈ labI r2 s many, 0 ≤ q ∧ q < 100 := by
  intro q hq
  obtain ⟨n, hn, rfl⟩ := List.mem_map.mp hq
  obtain ⟨k, _, rfl⟩ := List.mem_map.mp hn
  have : lab r2 s k < 100 := Nat.mod_lt _ (by decide)
  omega
theorem labI_len {r2 s many : Nat} : (labI r2 s many).length = many := by simp [labI, labN]
theorem labI_at {r2 s many k : Nat} (h : k < many) : (labI r2 s many)[k]? = some ((lab r2 s k : Nat) : Int) := by
  simp [labI, labN, h]
/-- the machine's sizes -/
def mSizes0 : List Nat := [7, 7, 100, 8, 64] ++ (List.replicate 7 [5, 7]).flatten
def mSizes : List Nat := mSizes0 ++ (List.replicate 6 [7, 8, 7]).flatten
theorem mSizes_len : mSizes.length = 37 := by decide
theorem mSizes0_len : mSizes0.length = 19 := by decide
theorem mSizes_ok : ∀ s ∈ mSizes, 1 ≤ s ∧ s ≤ 1000 := by decide
theorem mSizes_w {k : Nat} (h : k < 7) : mSizes[5 + 2 * k]? = some 5 := by
  have : ∀ i : Fin 7, mSizes[5 + 2 * i.val]? = some 5 := by decide
  exact this ⟨k, h⟩
end KN
/-! _law_machine. -/
namespace KN
open PySem PySem.Spec PyProof.Rows L2
abbrev sMach : Stmt := top 53
abbrev nMach : List Str := ["_law_cell_here", "_law_names_here", "_law_most", "_law_extra", "_law_sizes", "_law_row_here", "_law_many", "_law_stride", "_law_labels", "_law_steps", "_law_k", "_law_word", "_law_at", "_law_step", "_law_target", "_law_turn"]
theorem sc53 : FnScope nMach ["_law_cell_here", "_law_names_here", "_law_most", "_law_extra"] (defScope sMach) := ⟨rfl, rfl, rfl, by decide +kernel, rfl, by decide +kernel, by decide +kernel⟩
def spMach : Sp := fun vs H Q _ => ∃ (c : Int) (na : Addr) (names : List Str), vs = [.int c, .ref na, .int 7, .int 6] ∧ Bd c ∧ H na = some (.lst (names.map .str)) ∧ names.length = 6 ∧ NamesOk names ∧
  ∀ (H' : Hp) (p la sa : Addr) (labs : List Int) (ads : List Addr) (st : List Step), Same H H' → H p = none → H' p = some (.lst [.ref la, .ref sa]) → H' la = some (.lst (labs.map .int)) → H' sa = some (.lst (ads.map .ref)) → StepsAt H' ads st → MData names labs st → Q (.ref p) H'
theorem atS {xs : List Str} {j : Nat} {x : Str} (h : xs[j]? = some x) : atI (xs.map V.str) ((j : Nat) : Int) = some (.str x) := atI_nat (by rw [List.getElem?_map, h]; rfl)
theorem atL {xs : List Int} {j : Nat} {x : Int} (h : xs[j]? = some x) : atI (xs.map V.int) ((j : Nat) : Int) = some (.int x) := atI_nat (by rw [List.getElem?_map, h]; rfl)
theorem cut_suf {xs : List V} {t : Nat} (h : t ≤ xs.length) : cutV xs (some (t : Int)) none = xs.drop t := by
  unfold cutV
  rw [HT.sIx_none, HT.sIx_nat, Nat.min_eq_left h]
  exact List.take_of_length_le (by rw [List.length_drop]; exact Nat.le_refl _)
theorem cut_pre {xs : List V} {t : Nat} (h : t ≤ xs.length) : cutV xs none (some (t : Int)) = xs.take t := by
  unfold cutV
  rw [HT.sIx_none, HT.sIx_nat, Nat.min_eq_left h, Nat.sub_zero, List.drop_zero]
theorem lkI {xs : List Int} (h : xs ≠ []) (z : Int) : ∃ q ∈ xs, atI (xs.map V.int) (z % ((xs.length : Nat) : Int)) = some (.int q) := by
  have hl : 0 < xs.length := List.length_pos_iff.mpr h
  obtain ⟨j, hj, e⟩ : ∃ j : Nat, j < xs.length ∧ z % ((xs.length : Nat) : Int) = (j : Int) := let ⟨p1, p2⟩ := mod_place (i := z) hl; ⟨_, p1, p2.symm⟩
  exact ⟨xs[j], List.getElem_mem hj, by rw [e]; exact atL (List.getElem?_eq_getElem hj)⟩
theorem lkS {xs : List Str} (h : xs ≠ []) (z : Int) : ∃ q ∈ xs, atI (xs.map V.str) (z % ((xs.length : Nat) : Int)) = some (.str q) := by
  have hl : 0 < xs.length := List.length_pos_iff.mpr h
  obtain ⟨j, hj, e⟩ : ∃ j : Nat, j < xs.length ∧ z % ((xs.length : Nat) : Int) = (j : Int) := let ⟨p1, p2⟩ := mod_place (i := z) hl; ⟨_, p1, p2.symm⟩
  exact ⟨xs[j], List.getElem_mem hj, by rw [e]; exact atS (List.getElem?_eq_getElem hj)⟩
theorem StepsAt.snoc {H H' : Hp} {ads : List Addr} {st : List Step} {a : Addr} {e : Step} (x : StepsAt H ads st) (s : ∀ (i : Nat) (b : Addr) (f : Step), ads[i]? = some b → st[i]? = some f → H' b = H b) (h : H' a = some (.tup (stepV e))) : StepsAt H' (ads ++ [a]) (st ++ [e]) := by
  refine ⟨by rw [List.length_append, List.length_append, x.len]; rfl, fun i b f h1 h2 => ?_⟩
  by_cases hi : i < ads.length
  · rw [List.getElem?_append_left hi] at h1
    rw [List.getElem?_append_left (by rw [← x.len]; exact hi)] at h2
    rw [s i b f h1 h2]
    exact x.at_ i b f h1 h2
  · have hb := (List.getElem?_eq_some_iff.mp h1).1
    rw [List.length_append] at hb
    have hb : i < ads.length + 1 := hb
    have hi' : i = ads.length := by omega
    subst hi'
    rw [List.getElem?_append_right (Nat.le_refl _), Nat.sub_self] at h1
    rw [x.len, List.getElem?_append_right (Nat.le_refl _), Nat.sub_self] at h2
    cases h1
    cases h2
    exact h
section
variable {P : Program} {w : World} {K : PySem.W.Frag} {mg : Str → Option Value} {base : Heap}
theorem ok_machl (B : Bx mg) {fR f : Addr} {fdR fd : FuncData} (FR : FnOk P w K mg base CX0 2 fR fdR ["_law_cell_here", "_law_sizes"] spRow) (bR : Binds K fdR ["_law_cell_here", "_law_sizes"] []) (mR : mg "_law_row" = some (.ref fR)) (kR : PySem.W.keepIn K (.ref fR) = true)
    (F : Fun K "_law_machine" "_law_machine" sMach f fd) : FnOk P w K mg base CX0 3 f fd ["_law_cell_here", "_law_names_here", "_law_most", "_law_extra"] spMach := by
  refine F.ok sc53 (fun vs H Q E h => ?_) (fun cdv A outer s H vs Q E hr h => ?_)
  · obtain ⟨_, _, _, rfl, _⟩ := h
    rfl
  · obtain ⟨c, na, names, rfl, hc, hna, hn6, hnm, q⟩ := h
    refine ⟨_, pss_cons (ps_set (i := 4) sc53.nd rfl (Or.inl rfl) (pe_op op_cat (pe_lst (pa_cons (pv 2) (pa_cons (pe_op op_add (pv 3) pe_int) (pa_cons pe_int (pa_cons pe_int (pa_cons pe_int pa_nil)))))) (pe_op op_rep (pe_lst (pa_cons (pe_op op_sub (pe_callB call_len_seq (by rfl) B.len boot_len (pa_cons (pv 1) pa_nil)) pe_int) (pa_cons (pv 2) pa_nil))) (pv 2))))
      (C8.pss_cut (ps_set (i := 5) sc53.nd rfl (Or.inr rfl) (pe_call FR hr (by rfl) mR kR bR .nil pass0 (pa_cons (pv 0) (pa_cons (pe_op op_cat (pv 4) (pe_op op_rep (pe_lst (pa_cons (pv 2) (pa_cons (pe_op op_add (pe_callB call_len_seq (by rfl) B.len boot_len (pa_cons (pv 1) pa_nil)) pe_int) (pa_cons (pv 2) pa_nil)))) (pv 3))) pa_nil))))
      (pss_cons (ps_set (i := 6) sc53.nd rfl (Or.inl rfl) (pe_op op_add pe_int (pe_ix ix_list (pv 5) pe_int (fun _ _ => rfl))))
      (pss_cons (ps_set (i := 7) sc53.nd rfl (Or.inr rfl) (pe_ix ix_list (pe_lst (pa_cons pe_int (pa_cons pe_int (pa_cons pe_int (pa_cons pe_int (pa_cons pe_int (pa_cons pe_int (pa_cons pe_int (pa_cons pe_int pa_nil))))))))) (pe_ix ix_list (pv 5) pe_int (fun _ _ => rfl)) (fun _ _ => rfl)))
      (pss_cons (ps_setLc (i := 8) (own := [("_law_k", 10)]) (g := gName 10) (tt := tYes) (te := tOp (rI (fun _ j => 0 < j) fun i j => .int (i % j)) (tCB (fun xs H Q => (∃ i, xs = [V.int i] ∧ Q (V.int i) H) ∨ ∃ k, xs = [V.bl k] ∧ Q (V.int (if k then 1 else 0)) H) (tCons (tOp (rI0 fun i j => .int (i + j)) (tOp (rIxL K) (tVar 5) (tC (.int 2))) (tOp (rI CMul fun i j => .int (i * j)) (tVar 7) (tVar 10))) tNil)) (tC (.int 100))) rfl sc53.nd rfl rfl (sw_true rfl rfl rfl (by decide +kernel)) (pi_range1 rfl B.range (pa_cons (pv 6) pa_nil)) (blkOk_by (N := nMach) (sc := defScope sMach) (by decide +kernel)) (fun _ _ _ _ _ => pg_name (i := 10) sc53.nd rfl (Or.inl rfl)) (fun _ _ _ _ _ => pts_nil) (fun _ _ _ _ _ => by
          exact pe_op op_mod (pe_callTy call_int1 (by rfl) B.int boot_int (pa_cons (pe_op op_add (pe_ix ix_list (pv 5) pe_int (fun _ _ => rfl)) (pe_op op_mul (pv 7) (pv 10))) pa_nil)) pe_int))
      (pss_cons (ps_set (i := 9) sc53.nd rfl (Or.inl rfl) (pe_lst pa_nil))
      (C8.pss_cut (ps_for PassesOwn.never rfl (pi_range1 rfl B.range (pa_cons (pv 6) pa_nil)) (pg_name (i := 10) sc53.nd rfl (Or.inl rfl))
        (pss_cons (ps_set (i := 11) sc53.nd rfl (Or.inl rfl) (pe_ix ix_list (pv 1) (pe_op op_add pe_int (pe_ix ix_list (pv 5) (pe_op op_add pe_int (pe_op op_mul pe_int (pv 10))) (fun _ _ => rfl))) (fun _ _ => rfl)))
        (pss_one (ps_expr (pe_bm PySem.F.plainAttrs_list PySem.F.slot_list_append PySem.F.type_list_append mt_append (pv 9) (pa_cons (pe_tup (pa_cons (pe_ix ix_list (pv 8) (pv 10) (fun _ _ => rfl)) (pa_cons (pv 11) (pa_cons (pe_ix ix_list (pv 8) (pe_op op_mod (pe_callTy call_int1 (by rfl) B.int boot_int (pa_cons (pe_ix ix_list (pv 5) (pe_op op_add pe_int (pe_op op_mul pe_int (pv 10))) (fun _ _ => rfl)) pa_nil)) (pv 6)) (fun _ _ => rfl)) pa_nil)))) pa_nil))))))
      (C8.pss_cut (ps_for PassesOwn.never rfl (pi_range1 rfl B.range (pa_cons (pe_ix ix_list (pv 5) pe_int (fun _ _ => rfl)) pa_nil)) (pg_name (i := 10) sc53.nd rfl (Or.inl rfl))
        (pss_cons (ps_set (i := 12) sc53.nd rfl (Or.inl rfl) (pe_op op_add (pe_callB call_len_seq (by rfl) B.len boot_len (pa_cons (pv 4) pa_nil)) (pe_op op_mul pe_int (pv 10))))
        (pss_cons (ps_set (i := 11) sc53.nd rfl (Or.inl rfl) (pe_ix ix_list (pv 1) (pe_op op_mod (pe_callTy call_int1 (by rfl) B.int boot_int (pa_cons (pe_ix ix_list (pv 5) (pe_op op_add (pv 12) pe_int) (fun _ _ => rfl)) pa_nil)) (pe_callB call_len_seq (by rfl) B.len boot_len (pa_cons (pv 1) pa_nil))) (fun _ _ => rfl)))
        (pss_cons (ps_set (i := 13) sc53.nd rfl (Or.inl rfl) (pe_tup (pa_cons (pe_ix ix_list (pv 8) (pe_op op_mod (pe_callTy call_int1 (by rfl) B.int boot_int (pa_cons (pe_ix ix_list (pv 5) (pv 12) (fun _ _ => rfl)) pa_nil)) (pv 6)) (fun _ _ => rfl)) (pa_cons (pv 11) pa_nil))))
        (pss_cons (ps_set (i := 13) sc53.nd rfl (Or.inl rfl) (pe_op op_catT (pv 13) (pe_tup (pa_cons (pe_ix ix_list (pv 8) (pe_op op_mod (pe_callTy call_int1 (by rfl) B.int boot_int (pa_cons (pe_ix ix_list (pv 5) (pe_op op_add (pv 12) pe_int) (fun _ _ => rfl)) pa_nil)) (pv 6)) (fun _ _ => rfl)) pa_nil))))
        (pss_one (ps_if (pt_cmpR (op_notInD (hu65 hr)) (pv 13) (pv 9) (by rfl)) (pss_one (ps_expr (pe_bm PySem.F.plainAttrs_list PySem.F.slot_list_append PySem.F.type_list_append mt_append (pv 9) (pa_cons (pv 13) pa_nil)))) pss_nil)))))))
      (C8.pss_cut (ps_if (pt_cmpR op_eq (pe_callB call_len_seq (by rfl) B.len boot_len (pa_cons (pe_lc (own := [("_law_step", 13)]) (g := gName 13) (tt := tTest (tOp _ (tOp (rIxT K) (tVar 13) (tC (.int 1))) (tOp (rIxL K) (tVar 1) (tC (.int 0))))) rfl sc53.nd (pi_list (pv 9)) (blkOk_by (N := nMach) (sc := defScope sMach) (by decide +kernel)) (fun _ _ _ _ _ => pg_name (i := 13) sc53.nd rfl (Or.inl rfl)) (fun _ _ _ _ _ => by exact pts_one (pt_cmpR op_eq (pe_ix ix_tup (pv 13) pe_int (fun _ _ => rfl)) (pe_ix ix_list (pv 1) pe_int (fun _ _ => rfl)) (nomark _))) (fun _ _ _ _ _ => pv 13)) pa_nil)) pe_int (nomark _))
        (pss_cons (ps_set (i := 14) sc53.nd rfl (Or.inl rfl) (pe_ix ix_list (pv 8) (pe_op op_mod (pe_callTy call_int1 (by rfl) B.int boot_int (pa_cons (pe_op op_fdiv (pe_ix ix_list (pv 5) pe_int (fun _ _ => rfl)) pe_int) pa_nil)) (pv 6)) (fun _ _ => rfl)))
        (pss_one (ps_expr (pe_bm PySem.F.plainAttrs_list PySem.F.slot_list_append PySem.F.type_list_append mt_append (pv 9) (pa_cons (pe_tup (pa_cons (pe_ix ix_list (pv 8) (pe_op op_mod (pe_callTy call_int1 (by rfl) B.int boot_int (pa_cons (pe_ix ix_list (pv 5) pe_int (fun _ _ => rfl)) pa_nil)) (pv 6)) (fun _ _ => rfl)) (pa_cons (pe_ix ix_list (pv 1) pe_int (fun _ _ => rfl)) (pa_cons (pv 14) pa_nil)))) pa_nil))))) pss_nil)
      (pss_cons (ps_set (i := 15) sc53.nd rfl (Or.inl rfl) (pe_op op_mod (pe_callTy call_int1 (by rfl) B.int boot_int (pa_cons (pe_ix ix_list (pv 5) pe_int (fun _ _ => rfl)) pa_nil)) (pe_callB call_len_seq (by rfl) B.len boot_len (pa_cons (pv 9) pa_nil))))
      (pss_one (ps_ret (pe_lst (pa_cons (pv 8) (pa_cons (pe_op op_cat (pe_slice sl_list (pv 9) (po_some (pv 15)) po_none) (pe_slice sl_list (pv 9) po_none (po_some (pv 15)))) pa_nil)))))))))))))), ?_⟩
    have hna1 : ∀ {p o}, H p = none → upd H p o na = some (.lst (names.map .str)) := fun h => by rw [upd_ne (ne_of_none hna h)]; exact hna
    have hl6 : (names.map V.str).length = 6 := by rw [List.length_map]; exact hn6
    have big : (1000 : Nat) ≤ sizeLine := by decide
    refine ⟨_, rfl, _, rfl, _, _, rfl, rfl, by show 5 ≤ sizeLine; decide, fun p1 hp1 => ⟨_, rfl, na, _, rfl, .inl (SqL.of (hna1 hp1)), _, _, rfl, rfl, _, rfl, by show 2 ≤ sizeLine; decide, fun p2 hp2 => ⟨_, rfl, p2, _, _, rfl, rfl, upd_same, by decide, by decide, by show 2 * 7 ≤ sizeLine; decide, fun p3 hp3 => ⟨p1, p3, [V.int 7, V.int (6 + 1), V.int 100, V.int 8, V.int 64], _, rfl, rfl, ?_, upd_same, ?_, fun p4 hp4 => ?_⟩⟩⟩⟩
    · have n2 : p1 ≠ p2 := ne_of_none upd_same hp2
      have n3 : p1 ≠ p3 := ne_of_none (by rw [upd_ne n2]; exact upd_same) hp3
      rw [upd_ne n3, upd_ne n2]
      exact upd_same
    · show 5 + _ ≤ sizeLine
      rw [flat_len]
      show 5 + 7 * 2 ≤ sizeLine
      omega
    have sA : Same H (upd (upd (upd (upd H p1 (.lst [V.int 7, V.int (6 + 1), V.int 100, V.int 8, V.int 64])) p2 (.lst [V.int (((names.map V.str).length : Nat) - 1), V.int 7])) p3 (.lst (List.replicate (7 : Int).toNat [V.int (((names.map V.str).length : Nat) - 1), V.int 7]).flatten)) p4 (.lst ([V.int 7, V.int (6 + 1), V.int 100, V.int 8, V.int 64] ++ (List.replicate (7 : Int).toNat [V.int (((names.map V.str).length : Nat) - 1), V.int 7]).flatten))) := by
      have t1 := Same.upd (o := HO.lst [V.int 7, V.int (6 + 1), V.int 100, V.int 8, V.int 64]) (same_rfl (H := H)) hp1
      have t2 := t1.upd (o := HO.lst [V.int (((names.map V.str).length : Nat) - 1), V.int 7]) (t1.free hp2)
      have t3 := t2.upd (o := HO.lst (List.replicate (7 : Int).toNat [V.int (((names.map V.str).length : Nat) - 1), V.int 7]).flatten) (t2.free hp3)
      exact t3.upd (t3.free hp4)
    have e4 : [V.int 7, V.int (6 + 1), V.int 100, V.int 8, V.int 64] ++ (List.replicate (7 : Int).toNat [V.int (((names.map V.str).length : Nat) - 1), V.int 7]).flatten = mSizes0.map natV := by
      rw [hl6]; rfl
    refine ⟨fun σ' H1 => ∃ (rl p4 : Addr) (ds : List Nat), σ' = [some (.int c), some (.ref na), some (.int 7), some (.int 6), some (.ref p4), some (.ref rl), none, none, none, none, none, none, none, none, none, none] ∧ Same H H1 ∧ H1 p4 = some (.lst (mSizes0.map natV)) ∧ H1 rl = some (.lst (ds.map natV)) ∧ DigOk ds mSizes, ?_, ?_⟩
    · have h4 : ∀ o, upd (upd (upd (upd H p1 (.lst [V.int 7, V.int (6 + 1), V.int 100, V.int 8, V.int 64])) p2 (.lst [V.int (((names.map V.str).length : Nat) - 1), V.int 7])) p3 (.lst (List.replicate (7 : Int).toNat [V.int (((names.map V.str).length : Nat) - 1), V.int 7]).flatten)) p4 o p4 = some o := fun o => upd_same
      have h4' := h4 (.lst ([V.int 7, V.int (6 + 1), V.int 100, V.int 8, V.int 64] ++ (List.replicate (7 : Int).toNat [V.int (((names.map V.str).length : Nat) - 1), V.int 7]).flatten))
      rw [e4] at h4'
      show tAsg _ _ _ _ (upd (upd (upd (upd H p1 (.lst [V.int 7, V.int (6 + 1), V.int 100, V.int 8, V.int 64])) p2 (.lst [V.int (((names.map V.str).length : Nat) - 1), V.int 7])) p3 (.lst (List.replicate (7 : Int).toNat [V.int (((names.map V.str).length : Nat) - 1), V.int 7]).flatten)) p4 (.lst ([V.int 7, V.int (6 + 1), V.int 100, V.int 8, V.int 64] ++ (List.replicate (7 : Int).toNat [V.int (((names.map V.str).length : Nat) - 1), V.int 7]).flatten)))
      rw [e4] at sA ⊢
      generalize upd (upd (upd (upd H p1 (.lst [V.int 7, V.int (6 + 1), V.int 100, V.int 8, V.int 64])) p2 (.lst [V.int (((names.map V.str).length : Nat) - 1), V.int 7])) p3 (.lst (List.replicate (7 : Int).toNat [V.int (((names.map V.str).length : Nat) - 1), V.int 7]).flatten)) p4 (.lst (mSizes0.map natV)) = HA at sA h4' ⊢
      have hnaA := sA _ _ hna
      refine ⟨_, rfl, _, rfl, _, rfl, _, rfl, na, _, rfl, .inl (SqL.of hnaA), _, _, rfl, rfl, _, rfl, by show 3 ≤ sizeLine; decide, fun p5 hp5 => ⟨_, rfl, p5, _, _, rfl, rfl, upd_same, by decide, by decide, by show 3 * 6 ≤ sizeLine; decide, fun p6 hp6 => ⟨p4, p6, mSizes0.map natV, _, rfl, rfl, ?_, upd_same, ?_, fun p7 hp7 => ?_⟩⟩⟩
      · have n5 : p4 ≠ p5 := ne_of_none h4' hp5
        have n6 : p4 ≠ p6 := ne_of_none (by rw [upd_ne n5]; exact h4') hp6
        rw [upd_ne n6, upd_ne n5]
        exact h4'
      · show 19 + _ ≤ sizeLine
        rw [flat_len]
        show 19 + 6 * 3 ≤ sizeLine
        omega
      have t1 := Same.upd (o := HO.lst [V.int 7, V.int (((names.map V.str).length : Nat) + 2), V.int 7]) (same_rfl (H := HA)) hp5
      have t2 := t1.upd (o := HO.lst (List.replicate (6 : Int).toNat [V.int 7, V.int (((names.map V.str).length : Nat) + 2), V.int 7]).flatten) (t1.free hp6)
      have t3 := t2.upd (o := HO.lst (mSizes0.map natV ++ (List.replicate (6 : Int).toNat [V.int 7, V.int (((names.map V.str).length : Nat) + 2), V.int 7]).flatten)) (t2.free hp7)
      refine ⟨c, p7, mSizes, rfl, hc, ?_, mSizes_ok, by rw [mSizes_len]; omega, fun H1 rl ds s1 hrl hl1 D => ?_⟩
      · have e7 : mSizes0.map natV ++ (List.replicate (6 : Int).toNat [V.int 7, V.int (((names.map V.str).length : Nat) + 2), V.int 7]).flatten = mSizes.map natV := by
          rw [hl6]; rfl
        rw [← e7]
        exact upd_same
      · exact ⟨rl, p4, ds, rfl, sA.trans (t3.trans s1), s1 _ _ (t3 _ _ h4'), hl1, D⟩
    rintro σ' H1 ⟨rl, p4, ds, rfl, s1, hp4, hrl, D⟩
    have dsl : ds.length = 37 := D.len.trans mSizes_len
    have hna2 := s1 _ _ hna
    have dat : ∀ j, j < 37 → ∃ d, ds[j]? = some d := fun j hj => ⟨_, List.getElem?_eq_getElem (by omega)⟩
    obtain ⟨r0, h0⟩ := dat 0 (by decide)
    obtain ⟨r1, h1⟩ := dat 1 (by decide)
    obtain ⟨r2, h2⟩ := dat 2 (by decide)
    obtain ⟨r3, h3⟩ := dat 3 (by decide)
    obtain ⟨r4, h4⟩ := dat 4 (by decide)
    have l0 : r0 < 7 := D.lt 0 r0 7 h0 (by decide)
    have l1 : r1 < 7 := D.lt 1 r1 7 h1 (by decide)
    have l3 : r3 < 8 := D.lt 3 r3 8 h3 (by decide)
    obtain ⟨sd, hsd⟩ : ∃ d, strides[r3]? = some d := ⟨_, List.getElem?_eq_getElem (by show r3 < 8; exact l3)⟩
    have hsm : sd ∈ strides := List.mem_of_getElem? hsd
    have hs19 : sd ≤ 19 := by
      have : ∀ x ∈ strides, x ≤ 19 := by decide
      exact this _ hsm
    have hrl' : ∀ {H'}, Same H1 H' → SqL K H' rl (ds.map natV) := fun s => SqL.of (s _ _ hrl)
    have em : (1 : Int) + ((r0 : Nat) : Int) = ((1 + r0 : Nat) : Int) := by omega
    refine ⟨_, rfl, rl, _, _, _, rfl, rfl, hrl' same_rfl, atN (j := 0) h0, _, _, rfl, rfl, ?_⟩
    dsimp only
    rw [em]
    obtain ⟨mn, hmn, m1, m7⟩ : ∃ mn, 1 + r0 = mn ∧ 1 ≤ mn ∧ mn ≤ 7 := ⟨_, rfl, by omega, by omega⟩
    rw [hmn]
    refine ⟨by show 8 ≤ sizeLine; decide, fun pS hpS => ?_⟩
    have sS := Same.upd (o := HO.lst [V.int 1, V.int 3, V.int 7, V.int 9, V.int 11, V.int 13, V.int 17, V.int 19]) (same_rfl (H := H1)) hpS
    refine ⟨_, rfl, rl, _, _, _, rfl, rfl, hrl' sS, atN (j := 3) h3, pS, _, _, _, rfl, rfl, SqL.of upd_same, (show atI (strides.map natV) _ = _ from atN hsd), ?_⟩
    generalize hH2 : upd H1 pS (.lst [V.int 1, V.int 3, V.int 7, V.int 9, V.int 11, V.int 13, V.int 17, V.int 19]) = H2 at sS
    refine ⟨_, rfl, ((mn : Nat) : Int), rfl, by omega, by omega, fun la hla => lc_range (lo := 0) (n := ((mn : Nat) : Int).toNat) (fun j H' => Same H2 H' ∧ H' la = some (.lst (((List.range j).map (lab r2 sd)).map natV))) ⟨Same.upd same_rfl hla, upd_same⟩ ?_ ?_⟩
    · rintro j H' hj ⟨s', hD'⟩
      have s1' := sS.trans s'
      refine ⟨rfl, ?_⟩
      refine tYes_ok ?_
      refine iteT ?_
      refine ⟨_, rfl, rl, _, _, _, rfl, rfl, hrl' s1', atN (j := 2) h2, _, rfl, _, rfl, _, _, rfl, rfl, .inl ⟨?_, ?_⟩, _, _, rfl, rfl, .inl ⟨_, rfl, _, _, rfl, rfl, (by show (0 : Int) < 100; decide), _, hD', ?_, s'.upd hla, ?_⟩⟩
      · show -(2 ^ 64) < ((sd : Nat) : Int)
        omega
      · show ((sd : Nat) : Int) < 2 ^ 64
        omega
      · rw [List.length_map, List.length_map, List.length_range]; omega
      · rw [upd_same, List.range_succ, List.map_append, List.map_append]
        have e : (((r2 : Nat) : Int) + ((sd : Nat) : Int) * (0 + (j : Nat))) % 100 = ((lab r2 sd j : Nat) : Int) := by
          unfold lab
          generalize hm : sd * j = m
          have : ((sd : Nat) : Int) * ((j : Nat) : Int) = ((m : Nat) : Int) := by rw [← hm]; exact (Int.natCast_mul sd j).symm
          rw [Int.zero_add, this]; omega
        show some (HO.lst (_ ++ [V.int ((((r2 : Nat) : Int) + ((sd : Nat) : Int) * (0 + (j : Nat))) % 100)])) = _
        rw [e]; rfl
    rintro H3 ⟨s3, hla3⟩
    have s13 := sS.trans s3
    have eLb : ((List.range ((mn : Nat) : Int).toNat).map (lab r2 sd)).map natV = (labI r2 sd mn).map V.int := by
      unfold labI labN
      rw [Int.toNat_natCast, List.map_map (g := V.int)]
      rfl
    rw [eLb] at hla3
    have lnd : (labI r2 sd mn).Nodup := labI_nd hsm m7
    have lsm : ∀ q ∈ labI r2 sd mn, 0 ≤ q ∧ q < 100 := labI_sm
    have llen : (labI r2 sd mn).length = mn := labI_len
    generalize labI r2 sd mn = labs at hla3 lnd lsm llen
    have lne : labs ≠ [] := fun z => by rw [z] at llen; simp at llen; omega
    refine ⟨by show 0 ≤ sizeLine; decide, fun sa hsa => ?_⟩
    have hna3 : ∀ {H'}, Same H3 H' → SqL K H' na (names.map V.str) := fun s => SqL.of (s _ _ (s13 _ _ hna2))
    have hrl3 : ∀ {H'}, Same H3 H' → SqL K H' rl (ds.map natV) := fun s => SqL.of (s _ _ (s13 _ _ hrl))
    have hp43 : ∀ {H'}, Same H3 H' → SqL K H' p4 (mSizes0.map natV) := fun s => SqL.of (s _ _ (s13 _ _ hp4))
    have hla3' : ∀ {H'}, Same H3 H' → SqL K H' la (labs.map V.int) := fun s => SqL.of (s _ _ hla3)
    have lkl : ∀ z : Int, ∃ q ∈ labs, atI (labs.map V.int) (z % ((mn : Nat) : Int)) = some (.int q) := fun z => by
      have := lkI lne z
      rw [llen] at this
      exact this
    have nne : names ≠ [] := fun z => by rw [z] at hn6; cases hn6
    have keepSa : ∀ {H' : Hp} {o : HO}, Same H3 H' → Same H3 (upd H' sa o) := fun s b o e => by
      have nb : b ≠ sa := fun z => by subst z; rw [hsa] at e; cases e
      rw [upd_ne nb]; exact s _ _ e
    have stKeep : ∀ {H' H'' : Hp} {ads : List Addr} {st : List Step}, StepsAt H' ads st → (∀ b es, H' b = some (.tup es) → H'' b = some (.tup es)) → StepsAt H'' ads st := fun x k => ⟨x.len, fun i a e h1 h2 => k _ _ (x.at_ i a e h1 h2)⟩
    -- one more step at the end
    have push : ∀ {H' : Hp} {t : Addr} {ads : List Addr} {st : List Step} {e : Step}, H' sa = some (.lst (ads.map .ref)) → StepsAt H' ads st → H' t = some (.tup (stepV e)) → StepsAt (upd H' sa (.lst (ads.map .ref ++ [.ref t]))) (ads ++ [t]) (st ++ [e]) := fun {H' t ads st e} hs x ht => by
      have nt : t ≠ sa := fun z => by rw [z, hs] at ht; cases ht
      refine x.snoc (fun i b f h1 h2 => ?_) (by rw [upd_ne nt]; exact ht)
      have hb := x.at_ i b f h1 h2
      have nb : b ≠ sa := fun z => by rw [z, hs] at hb; cases hb
      rw [upd_ne nb]
    refine ⟨fun σ' H' => ∃ (v10 v11 : Option V) (ads : List Addr) (st : List Step), σ' = [some (.int c), some (.ref na), some (.int 7), some (.int 6), some (.ref p4), some (.ref rl), some (.int ((mn : Nat) : Int)), some (.int ((sd : Nat) : Int)), some (.ref la), some (.ref sa), v10, v11, none, none, none, none] ∧ Same H3 H' ∧ H' sa = some (.lst (ads.map .ref)) ∧ StepsAt H' ads st ∧ MBld names labs 0 st, ?_, ?_⟩
    · refine ⟨_, rfl, ((mn : Nat) : Int), rfl, by omega, by omega, for_range (n := ((mn : Nat) : Int).toNat) (fun i σ H' => ∃ (v10 v11 : Option V) (ads : List Addr) (st : List Step), σ = [some (.int c), some (.ref na), some (.int 7), some (.int 6), some (.ref p4), some (.ref rl), some (.int ((mn : Nat) : Int)), some (.int ((sd : Nat) : Int)), some (.ref la), some (.ref sa), v10, v11, none, none, none, none] ∧ Same H3 H' ∧ H' sa = some (.lst (ads.map .ref)) ∧ StepsAt H' ads st ∧ st.map (·.1) = labs.take i ∧ ∀ e ∈ st, StpOk names labs e)
        ⟨_, _, [], [], rfl, Same.upd same_rfl hsa, upd_same, ⟨rfl, fun i a e h => by simp at h⟩, rfl, fun e h => by simp at h⟩ ?_ ?_⟩
      · rintro i σ H' hi ⟨v10, v11, ads, st, rfl, s', hs', hst, hfs, hok⟩
        have hi : i < mn := by omega
        obtain ⟨d5, h5⟩ := dat (5 + 2 * i) (by omega)
        obtain ⟨d6, h6⟩ := dat (6 + 2 * i) (by omega)
        have l5 : d5 < 5 := D.lt _ _ _ h5 (mSizes_w (by omega))
        obtain ⟨nm, hnm'⟩ : ∃ x, names[1 + d5]? = some x := ⟨_, List.getElem?_eq_getElem (by omega)⟩
        obtain ⟨lb, hlb⟩ : ∃ x, labs[i]? = some x := ⟨_, List.getElem?_eq_getElem (by omega)⟩
        obtain ⟨tg, htg, htg'⟩ := lkl ((d6 : Nat) : Int)
        have at5 : atI (ds.map natV) ((5 : Int) + 2 * (0 + (i : Nat))) = some (natV d5) := by
          rw [show (5 : Int) + 2 * (0 + ((i : Nat) : Int)) = ((5 + 2 * i : Nat) : Int) by omega]; exact atN h5
        have at6 : atI (ds.map natV) ((6 : Int) + 2 * (0 + (i : Nat))) = some (natV d6) := by
          rw [show (6 : Int) + 2 * (0 + ((i : Nat) : Int)) = ((6 + 2 * i : Nat) : Int) by omega]; exact atN h6
        have atw : atI (names.map V.str) ((1 : Int) + ((d5 : Nat) : Int)) = some (.str nm) := by
          rw [show (1 : Int) + ((d5 : Nat) : Int) = ((1 + d5 : Nat) : Int) by omega]; exact atS hnm'
        have atl : atI (labs.map V.int) ((0 : Int) + ((i : Nat) : Int)) = some (.int lb) := by
          rw [Int.zero_add]; exact atL hlb
        refine ⟨_, rfl, _, rfl, _, rfl, _, _, rfl, rfl, .inl ⟨by decide, by decide⟩, _, _, rfl, rfl, rl, _, _, _, rfl, rfl, hrl3 s', at5, _, _, rfl, rfl, na, _, _, _, rfl, rfl, hna3 s', atw, ?_⟩
        refine ⟨_, rfl, .inl ⟨rfl, _, SqL.of hs'⟩, _, rfl, _, rfl, la, _, _, _, rfl, rfl, hla3' s', atl, _, rfl, _, rfl, _, rfl, _, rfl, _, _, rfl, rfl, .inl ⟨by decide, by decide⟩, _, _, rfl, rfl, rl, _, _, _, rfl, rfl, hrl3 s', at6, .inl ⟨_, rfl, _, rfl, _, _, rfl, rfl, (by show (0 : Int) < ((mn : Nat) : Int); omega), la, _, _, _, rfl, rfl, hla3' s', htg', by show 3 ≤ sizeLine; decide, fun tp htp => ?_⟩⟩
        have nst : sa ≠ tp := ne_of_none hs' htp
        have hsT : upd H' tp (.tup [.int lb, .str nm, .int tg]) sa = some (.lst (ads.map .ref)) := by rw [upd_ne nst]; exact hs'
        have al : ads.length = i := by
          have := congrArg List.length hfs
          rw [List.length_map, List.length_take] at this
          rw [hst.len]; omega
        refine ⟨sa, _, _, rfl, rfl, hsT, by rw [List.length_map]; omega, ?_⟩
        refine ⟨_, _, ads ++ [tp], st ++ [(lb, nm, tg)], rfl, keepSa (s'.upd (s'.free htp)), by rw [upd_same, List.map_append]; rfl, push hsT (hst.same (Same.upd same_rfl htp)) upd_same, ?_, fun e he => ?_⟩
        · rw [List.map_append, hfs, List.take_add_one, hlb]; rfl
        · rcases List.mem_append.mp he with z | z
          · exact hok e z
          · rw [List.mem_singleton.mp z]
            exact ⟨List.mem_of_getElem? hlb, List.mem_of_getElem? hnm', htg⟩
      · rintro σ H' ⟨v10, v11, ads, st, rfl, s', hs', hst, hfs, hok⟩
        rw [Int.toNat_natCast, ← llen, List.take_length] at hfs
        exact ⟨_, _, ads, st, rfl, s', hs', hst, mb_start lnd (by omega) hfs hok⟩
    rintro σ' H4 ⟨v10, v11, ads, st, rfl, s4, hs4, hst4, hb4⟩
    have nmIs : ∀ {st : List Step}, (∀ e ∈ st, StpOk names labs e) → ∀ e ∈ st, IsName e.2.1 := fun h e he => hnm.nm _ (h e he).2.1
    have lkn : ∀ z : Int, ∃ x ∈ names, atI (names.map V.str) (z % (((names.map V.str).length : Nat) : Int)) = some (.str x) := fun z => by
      have := lkS nne z
      rw [List.length_map]
      exact this
    have m00 : mSizes0.length = 19 := mSizes0_len
    refine ⟨fun σ' H' => ∃ (v10 v11 v12 v13 : Option V) (ads : List Addr) (st : List Step), σ' = [some (.int c), some (.ref na), some (.int 7), some (.int 6), some (.ref p4), some (.ref rl), some (.int ((mn : Nat) : Int)), some (.int ((sd : Nat) : Int)), some (.ref la), some (.ref sa), v10, v11, v12, v13, none, none] ∧ Same H3 H' ∧ H' sa = some (.lst (ads.map .ref)) ∧ StepsAt H' ads st ∧ MBld names labs 6 st, ?_, ?_⟩
    · refine ⟨_, rfl, rl, _, _, _, rfl, rfl, hrl3 s4, atN (j := 1) h1, ((r1 : Nat) : Int), rfl, by omega, by omega, for_range (n := ((r1 : Nat) : Int).toNat) (fun i σ H' => ∃ (v10 v11 v12 v13 : Option V) (ads : List Addr) (st : List Step), σ = [some (.int c), some (.ref na), some (.int 7), some (.int 6), some (.ref p4), some (.ref rl), some (.int ((mn : Nat) : Int)), some (.int ((sd : Nat) : Int)), some (.ref la), some (.ref sa), v10, v11, v12, v13, none, none] ∧ Same H3 H' ∧ H' sa = some (.lst (ads.map .ref)) ∧ StepsAt H' ads st ∧ MBld names labs i st)
        ⟨_, _, _, _, ads, st, rfl, s4, hs4, hst4, hb4⟩ ?_ ?_⟩
      · rintro i σ H' hi ⟨v10, v11, v12, v13, ads, st, rfl, s', hs', hst, hb⟩
        have hi : i < 6 := by omega
        obtain ⟨d19, h19⟩ := dat (19 + 3 * i) (by omega)
        obtain ⟨d20, h20⟩ := dat (19 + 3 * i + 1) (by omega)
        obtain ⟨d21, h21⟩ := dat (19 + 3 * i + 2) (by omega)
        obtain ⟨nm, hnm1, hnm2⟩ := lkn ((d20 : Nat) : Int)
        obtain ⟨lb, hlb1, hlb2⟩ := lkl ((d19 : Nat) : Int)
        obtain ⟨tg, htg1, htg2⟩ := lkl ((d21 : Nat) : Int)
        have e12 : (((mSizes0.map natV).length : Nat) : Int) + 3 * (0 + ((i : Nat) : Int)) = ((19 + 3 * i : Nat) : Int) := by
          rw [List.length_map, m00]; omega
        refine ⟨_, rfl, p4, _, rfl, .inl (hp43 s'), _, rfl, _, _, rfl, rfl, .inl ⟨by decide, by decide⟩, _, _, rfl, rfl, ?_⟩
        dsimp only
        rw [e12]
        have at20 : atI (ds.map natV) (((19 + 3 * i : Nat) : Int) + 1) = some (natV d20) := by
          rw [show ((19 + 3 * i : Nat) : Int) + 1 = ((19 + 3 * i + 1 : Nat) : Int) by omega]; exact atN h20
        have at21 : atI (ds.map natV) (((19 + 3 * i : Nat) : Int) + 2) = some (natV d21) := by
          rw [show ((19 + 3 * i : Nat) : Int) + 2 = ((19 + 3 * i + 2 : Nat) : Int) by omega]; exact atN h21
        refine ⟨_, rfl, _, rfl, _, rfl, _, _, rfl, rfl, rl, _, _, _, rfl, rfl, hrl3 s', at20, .inl ⟨_, rfl, _, rfl, na, _, rfl, .inl (hna3 s'), _, _, rfl, rfl, (by show (0 : Int) < _; rw [hl6]; decide), na, _, _, _, rfl, rfl, hna3 s', hnm2, ?_⟩⟩
        have pos : (0 : Int) < ((mn : Nat) : Int) := by omega
        refine ⟨_, rfl, _, rfl, _, rfl, rl, _, _, _, rfl, rfl, hrl3 s', atN h19, .inl ⟨_, rfl, _, rfl, _, _, rfl, rfl, pos, la, _, _, _, rfl, rfl, hla3' s', hlb2, _, rfl, by show 2 ≤ sizeLine; decide, fun t1 ht1 => ?_⟩⟩
        have sT1 := s'.upd (o := HO.tup [V.int lb, V.str nm]) (s'.free ht1)
        refine ⟨_, rfl, _, rfl, _, rfl, _, rfl, _, _, rfl, rfl, rl, _, _, _, rfl, rfl, hrl3 sT1, at21, .inl ⟨_, rfl, _, rfl, _, _, rfl, rfl, pos, la, _, _, _, rfl, rfl, hla3' sT1, htg2, by show 1 ≤ sizeLine; decide, fun t2 ht2 => ?_⟩⟩
        have sT2 := sT1.upd (o := HO.tup [V.int tg]) (sT1.free ht2)
        have h1t : upd (upd H' t1 (.tup [V.int lb, V.str nm])) t2 (.tup [V.int tg]) t1 = some (.tup [V.int lb, V.str nm]) := by
          rw [upd_ne (ne_of_none upd_same ht2)]; exact upd_same
        refine ⟨t1, t2, _, _, rfl, rfl, SqT.of h1t, SqT.of upd_same, by simp, by show 3 ≤ sizeLine; decide, (fun z => by cases z), fun _ t3 ht3 => ?_⟩
        have sB := Same.upd (o := HO.tup [V.int lb, V.str nm]) (same_rfl (H := H')) ht1
        have sC := sB.upd (o := HO.tup [V.int tg]) (sB.free ht2)
        have sD := sC.upd (o := HO.tup ([V.int lb, V.str nm] ++ [V.int tg])) (sC.free ht3)
        have sT3 := sT2.upd (o := HO.tup ([V.int lb, V.str nm] ++ [V.int tg])) (sT2.free ht3)
        have h3t : ∀ o : HO, upd (upd (upd H' t1 (.tup [V.int lb, V.str nm])) t2 (.tup [V.int tg])) t3 o t3 = some o := fun o => upd_same
        have h3t := h3t (.tup ([V.int lb, V.str nm] ++ [V.int tg]))
        have hst3 := hst.same sD
        have hs3 := sD _ _ hs'
        generalize upd (upd (upd H' t1 (.tup [V.int lb, V.str nm])) t2 (.tup [V.int tg])) t3 (.tup ([V.int lb, V.str nm] ++ [V.int tg])) = HT at sD sT3 h3t hst3 hs3 ⊢
        have h3t : HT t3 = some (.tup (stepV (lb, nm, tg))) := h3t
        have hIs := nmIs hb.ok
        refine ⟨_, rfl, _, rfl, stepD (lb, nm, tg), st.map stepD, dp_step h3t, .lst (SqL.of hs3) (dp_steps hst3.len hst3.at_), stepD_shaped (e := (lb, nm, tg)) (hnm.nm _ hnm1), stepDs_shaped hIs, _, rfl, ?_⟩
        rw [any_step]
        have alen : ads.length ≤ 13 := by
          have := hb.le
          rw [hst.len]; omega
        by_cases hin : (lb, nm, tg) ∈ st
        · rw [decide_eq_true hin]
          exact iteF ⟨_, _, _, _, ads, st, rfl, sT3, hs3, hst3, mb_skip hb⟩
        · rw [decide_eq_false hin]
          refine iteT ?_
          refine ⟨_, rfl, .inl ⟨rfl, _, SqL.of hs3⟩, _, rfl, sa, _, _, rfl, rfl, hs3, by rw [List.length_map]; omega, ?_⟩
          exact ⟨_, _, _, _, ads ++ [t3], st ++ [(lb, nm, tg)], rfl, keepSa sT3, by rw [upd_same, List.map_append]; rfl, push hs3 hst3 h3t, mb_add hb hin ⟨hlb1, hnm1, htg1⟩⟩
      · rintro σ H' ⟨v10, v11, v12, v13, ads, st, rfl, s', hs', hst, hb⟩
        rw [Int.toNat_natCast] at hb
        exact ⟨_, _, _, _, ads, st, rfl, s', hs', hst, mb_mono hb (by omega)⟩
    rintro σ' H5 ⟨v10, v11, v12, v13, ads, st, rfl, s5, hs5, hst5, hb5⟩
    obtain ⟨n0, hn0⟩ : ∃ x, names[0]? = some x := ⟨_, List.getElem?_eq_getElem (by omega)⟩
    have pos : (0 : Int) < ((mn : Nat) : Int) := by omega
    refine ⟨fun σ' H' => ∃ (v10 v11 v12 v13 v14 : Option V) (ads : List Addr) (st : List Step), σ' = [some (.int c), some (.ref na), some (.int 7), some (.int 6), some (.ref p4), some (.ref rl), some (.int ((mn : Nat) : Int)), some (.int ((sd : Nat) : Int)), some (.ref la), some (.ref sa), v10, v11, v12, v13, v14, none] ∧ Same H3 H' ∧ H' sa = some (.lst (ads.map .ref)) ∧ StepsAt H' ads st ∧ MBld names labs 7 st ∧ ∀ n0, names[0]? = some n0 → ∃ e ∈ st, e.2.1 = n0, ?_, ?_⟩
    · have al5 : ads.length = st.length := hst5.len
      have al13 : ads.length ≤ 13 := by
        have := hb5.le
        omega
      refine ⟨_, rfl, sa, rfl, ⟨_, SqL.of hs5⟩, fun Dl hDl => lc_list (a := sa) (xs := ads.map .ref) (fun i H' => Same H5 H' ∧ ∃ fl : List V, H' Dl = some (.lst fl) ∧ fl.length = ((st.take i).filter fun e => decide (e.2.1 = n0)).length)
        ⟨Same.upd same_rfl hDl, [], upd_same, rfl⟩ (fun i H' _ h => SqL.of (h.1 _ _ hs5)) ?_ ?_⟩
      · rintro i x H' hx ⟨s', fl, hD', hfl⟩
        obtain ⟨b, hb, rfl⟩ : ∃ b, ads[i]? = some b ∧ V.ref b = x := by
          rw [List.getElem?_map] at hx
          cases e : ads[i]? with
          | none => rw [e] at hx; cases hx
          | some b => rw [e] at hx; exact ⟨b, rfl, Option.some.inj hx⟩
        have hi : i < st.length := by
          have := (List.getElem?_eq_some_iff.mp hb).1
          omega
        have he : st[i]? = some st[i] := List.getElem?_eq_getElem hi
        have hbt := s' _ _ (hst5.at_ i b _ hb he)
        have hfl' : fl.length ≤ 14 := by
          rw [hfl]
          refine Nat.le_trans (List.length_filter_le _ _) ?_
          rw [List.length_take]; omega
        refine ⟨rfl, _, rfl, b, _, _, _, rfl, rfl, SqT.of hbt, atI_nat (j := 1) rfl, _, rfl, na, _, _, _, rfl, rfl, hna3 (s5.trans s'), atS (j := 0) hn0, rfl, _, rfl, ?_⟩
        have ed : decide (V.str st[i].2.1 = V.str n0) = decide (st[i].2.1 = n0) := by
          by_cases z : st[i].2.1 = n0
          · rw [decide_eq_true z, z]; exact decide_eq_true rfl
          · rw [decide_eq_false z]; exact decide_eq_false fun w => z (by cases w; rfl)
        have ef : ((st.take (i + 1)).filter fun e => decide (e.2.1 = n0)) = ((st.take i).filter fun e => decide (e.2.1 = n0)) ++ if st[i].2.1 = n0 then [st[i]] else [] := by
          rw [List.take_add_one, he, List.filter_append]
          congr 1
          by_cases z : st[i].2.1 = n0
          · rw [if_pos z]
            exact List.filter_cons_of_pos (by simpa using z)
          · rw [if_neg z]
            exact List.filter_cons_of_neg (by simpa using z)
        show if decide (V.str st[i].2.1 = V.str n0) = true then _ else _
        rw [ed]
        by_cases z : st[i].2.1 = n0
        · rw [decide_eq_true z]
          refine iteT ?_
          refine ⟨_, rfl, fl, hD', by omega, s'.upd hDl, fl ++ [.ref b], upd_same, ?_⟩
          rw [ef, if_pos z, List.length_append, List.length_append, hfl]; rfl
        · rw [decide_eq_false z]
          refine iteF ?_
          refine ⟨s', fl, hD', ?_⟩
          rw [ef, if_neg z, List.append_nil, hfl]
      · rintro H6 ⟨s6, fl, hD6, hfl⟩
        rw [List.length_map, al5, List.take_length] at hfl
        refine ⟨Dl, _, rfl, .inl (SqL.of hD6), rfl, _, rfl, ?_⟩
        have s56 := s5.trans s6
        have hs6 := s6 _ _ hs5
        have hst6 := hst5.same s6
        refine ite2 (fun h0 => ?_) (fun h0 => ?_)
        · have h0 := of_decide_eq_true h0
          have h0 : fl.length = 0 := by
            injection h0 with h0
            omega
          rw [hfl] at h0
          have hno := List.filter_eq_nil_iff.mp (List.length_eq_zero_iff.mp h0)
          obtain ⟨tg, htg1, htg2⟩ := lkl (((r4 : Nat) : Int) / 8)
          obtain ⟨lb, hlb1, hlb2⟩ := lkl ((r4 : Nat) : Int)
          refine ⟨_, rfl, _, rfl, rl, _, _, _, rfl, rfl, hrl3 s56, atN (j := 4) h4, _, _, rfl, rfl, ⟨by decide, by decide⟩, .inl ⟨_, rfl, _, rfl, _, _, rfl, rfl, pos, la, _, _, _, rfl, rfl, hla3' s56, htg2, ?_⟩⟩
          refine ⟨_, rfl, .inl ⟨rfl, _, SqL.of hs6⟩, _, rfl, _, rfl, rl, _, _, _, rfl, rfl, hrl3 s56, atN (j := 4) h4, .inl ⟨_, rfl, _, rfl, _, _, rfl, rfl, pos, la, _, _, _, rfl, rfl, hla3' s56, hlb2, _, rfl, na, _, _, _, rfl, rfl, hna3 s56, atS (j := 0) hn0, _, rfl, by show 3 ≤ sizeLine; decide, fun tp htp => ?_⟩⟩
          have sT := Same.upd (o := HO.tup [V.int lb, V.str n0, V.int tg]) (same_rfl (H := H6)) htp
          have hsT := sT _ _ hs6
          refine ⟨sa, _, _, rfl, rfl, hsT, by rw [List.length_map]; omega, ?_⟩
          refine ⟨_, _, _, _, _, ads ++ [tp], st ++ [(lb, n0, tg)], rfl, keepSa (s56.trans sT), by rw [upd_same, List.map_append]; rfl, push hsT (hst6.same sT) upd_same, mb_add hb5 (fun z => hno _ z (decide_eq_true rfl)) ⟨hlb1, List.mem_of_getElem? hn0, htg1⟩, fun x hx => ?_⟩
          rw [hn0] at hx
          cases hx
          exact ⟨_, List.mem_append_right _ List.mem_cons_self, rfl⟩
        · refine ⟨_, _, _, _, _, ads, st, rfl, s56, hs6, hst6, mb_skip hb5, fun x hx => ?_⟩
          rw [hn0] at hx
          cases hx
          have hne : (st.filter fun e => decide (e.2.1 = n0)) ≠ [] := fun z => by
            rw [z] at hfl
            refine h0 (decide_eq_true ?_)
            rw [hfl]
            rfl
          obtain ⟨e, he⟩ := List.exists_mem_of_ne_nil _ hne
          exact ⟨e, (List.mem_filter.mp he).1, of_decide_eq_true (List.mem_filter.mp he).2⟩
    rintro σ' H6 ⟨v10, v11, v12, v13, v14, ads, st, rfl, s6, hs6, hst6, hb6, hw6⟩
    have al6 : ads.length = st.length := hst6.len
    have a1 : 0 < ads.length := by
      obtain ⟨e, he, _⟩ := hw6 n0 hn0
      have := List.length_pos_of_mem he
      omega
    have a14 : ads.length ≤ 14 := by
      have := hb6.le
      omega
    obtain ⟨tn, htn, htl⟩ : ∃ t : Nat, ((r4 : Nat) : Int) % (((ads.map V.ref).length : Nat) : Int) = (t : Nat) ∧ t < ads.length := by
      rw [List.length_map]
      obtain ⟨p1, p2⟩ := mod_place (i := (r4 : Int)) a1
      exact ⟨_, p2.symm, p1⟩
    refine ⟨_, rfl, rl, _, _, _, rfl, rfl, hrl3 s6, atN (j := 4) h4, .inl ⟨_, rfl, _, rfl, sa, _, rfl, .inl (SqL.of hs6), _, _, rfl, rfl, (by show (0 : Int) < _; rw [List.length_map]; omega), ?_⟩⟩
    dsimp only
    rw [show (V.int (((r4 : Nat) : Int) % (((ads.map V.ref).length : Nat) : Int))) = V.int ((tn : Nat) : Int) from by rw [htn]]
    refine ⟨_, rfl, _, rfl, _, rfl, _, rfl, sa, _, rfl, SqL.of hs6, fun q1 hq1 => ?_⟩
    rw [cut_suf (by rw [List.length_map]; omega)]
    have t1 := Same.upd (o := HO.lst ((ads.map V.ref).drop tn)) (same_rfl (H := H6)) hq1
    refine ⟨_, rfl, _, rfl, _, rfl, sa, _, rfl, SqL.of (t1 _ _ hs6), fun q2 hq2 => ?_⟩
    rw [cut_pre (by rw [List.length_map]; omega)]
    have t2 := t1.upd (o := HO.lst ((ads.map V.ref).take tn)) (t1.free hq2)
    refine ⟨q1, q2, (ads.map V.ref).drop tn, (ads.map V.ref).take tn, rfl, rfl, by rw [upd_ne (ne_of_none upd_same hq2)]; exact upd_same, upd_same, ?_, fun q3 hq3 => ?_⟩
    · rw [List.length_drop, List.length_take, List.length_map]; omega
    have t3 := t2.upd (o := HO.lst ((ads.map V.ref).drop tn ++ (ads.map V.ref).take tn)) (t2.free hq3)
    refine ⟨by show 2 ≤ sizeLine; decide, fun q4 hq4 => ?_⟩
    have t4 := t3.upd (o := HO.lst [V.ref la, V.ref q3]) (t3.free hq4)
    have s16 := s1.trans (s13.trans s6)
    refine q _ q4 la q3 labs (ads.drop tn ++ ads.take tn) (st.drop tn ++ st.take tn) (s16.trans t4) (s16.free (t3.free hq4)) upd_same ?_ ?_ ?_ ?_
    · exact t4 _ _ (s6 _ _ hla3)
    · rw [upd_ne (ne_of_none upd_same hq4), upd_same, List.map_append, List.map_drop, List.map_take]
    · refine ⟨by rw [List.length_append, List.length_append, List.length_drop, List.length_drop, List.length_take, List.length_take, al6], fun i a e h1 h2 => ?_⟩
      have hld : (ads.drop tn).length = (st.drop tn).length := by rw [List.length_drop, List.length_drop, al6]
      by_cases hi : i < (ads.drop tn).length
      · rw [List.getElem?_append_left hi, List.getElem?_drop] at h1
        rw [List.getElem?_append_left (by omega), List.getElem?_drop] at h2
        exact t4 _ _ (hst6.at_ _ a e h1 h2)
      · rw [List.getElem?_append_right (by omega)] at h1
        rw [List.getElem?_append_right (by omega), ← hld] at h2
        have hj := (List.getElem?_eq_some_iff.mp h1).1
        rw [List.length_take] at hj
        rw [List.getElem?_take_of_lt (by omega)] at h1 h2
        exact t4 _ _ (hst6.at_ _ a e h1 h2)
    · exact mb_end lne (by omega) lsm hb6 hw6 (rot_perm tn st)
end
end KN
/-! _law_faults, _law_sights. -/
namespace KN
open PySem PySem.Spec PyProof.Rows L2
abbrev sLFaults : Stmt := top 54
abbrev nLF : List Str := ["_law_digit", "_law_steps", "_law_names_here", "_law_marks", "_law_faults_here", "_law_step"]
theorem sc54 : FnScope nLF ["_law_digit", "_law_steps", "_law_names_here", "_law_marks"] (defScope sLFaults) := ⟨rfl, rfl, rfl, by decide +kernel, rfl, by decide +kernel, by decide +kernel⟩
def spLFaults : Sp := fun vs H Q _ => ∃ (d : Nat) (sa na ma : Addr) (ads : List Addr) (st : List Step) (names marks : List Str), vs = [.int d, .ref sa, .ref na, .ref ma] ∧ H sa = some (.lst (ads.map .ref)) ∧ StepsAt H ads st ∧ H na = some (.lst (names.map .str)) ∧ H ma = some (.lst (marks.map .str)) ∧
  2 ≤ names.length ∧ marks.length = 2 ∧ st.length ≤ 100 ∧ (∀ x ∈ names, IsName x) ∧ (∀ x ∈ marks, IsName x) ∧ (∀ n0, names[0]? = some n0 → ∃ e ∈ st, e.2.1 = n0) ∧
  ∀ (H' : Hp) (p : Addr) (T : List (Str × Str)), Same H H' → H p = none → H' p = some (.dK (tabV T)) → T.length ≤ 3 → (∀ e ∈ T, (IsName e.1 ∧ IsName e.2) ∧ ∃ f ∈ st, f.2.1 = e.1) → Q (.ref p) H'
abbrev sLSights : Stmt := top 55
abbrev nLS : List Str := ["_law_cell_here", "_law_names_here", "_law_marks", "_law_wide", "_law_row_here", "_law_table", "_law_k"]
theorem sc55 : FnScope nLS ["_law_cell_here", "_law_names_here", "_law_marks"] (defScope sLSights) := ⟨rfl, rfl, rfl, by decide +kernel, rfl, by decide +kernel, by decide +kernel⟩
def spLSights : Sp := fun vs H Q _ => ∃ (c : Int) (na ma : Addr) (names marks : List Str), vs = [.int c, .ref na, .ref ma] ∧ Bd c ∧ H na = some (.lst (names.map .str)) ∧ H ma = some (.lst (marks.map .str)) ∧ names.length = 6 ∧ names.Nodup ∧ marks.length = 2 ∧ (∀ x ∈ names, IsName x) ∧ (∀ x ∈ marks, IsName x) ∧
  ∀ (H' : Hp) (p : Addr) (T : List (Str × Str)), Same H H' → H p = none → H' p = some (.dK (tabV T)) → (T.map (·.1)).Nodup → T.length ≤ 6 → (∀ e ∈ T, IsName e.1 ∧ IsName e.2) → Q (.ref p) H'
section
variable {P : Program} {w : World} {K : PySem.W.Frag} {mg : Str → Option Value} {base : Heap}
theorem ok_lfaults (B : Bx mg) {f : Addr} {fd : FuncData} (F : Fun K "_law_faults" "_law_faults" sLFaults f fd) : FnOk P w K mg base CX0 1 f fd ["_law_digit", "_law_steps", "_law_names_here", "_law_marks"] spLFaults := by
  refine F.ok sc54 (fun vs H Q E h => ?_) (fun cdv A outer s H vs Q E hr h => ?_)
  · obtain ⟨_, _, _, _, _, _, _, _, rfl, _⟩ := h
    rfl
  · obtain ⟨d, sa, na, ma, ads, st, names, marks, rfl, hsa, hst, hna, hma, hn2, hm2, hs100, hnm, hmk, hw, q⟩ := h
    have hu := hu_of hr
    refine ⟨_, pss_cons (ps_set (i := 4) sc54.nd rfl (Or.inl rfl) (pe_disp (pps_cons (pe_ix ix_list (pv 2) pe_int (fun _ _ => rfl)) (pe_ix ix_list (pv 3) pe_int (fun _ _ => rfl)) pps_nil) (by rfl) (by rfl) (fun z => by cases z) (by decide)))
      (pss_cons (ps_if (pw_and (pt_cmpR op_gt (pe_op op_mod (pe_callTy call_int1 (by rfl) B.int boot_int (pa_cons (pv 0) pa_nil)) pe_int) pe_int (nomark _)) (pw_and1 (pt_cmpR op_in_seq (pe_ix ix_list (pv 2) pe_int (fun _ _ => rfl)) (pe_lc (own := [("_law_step", 5)]) (g := gName 5) (tt := tYes) (te := tOp (rIxT K) (tVar 5) (tC (.int 1))) rfl sc54.nd (pi_list (pv 1)) (blkOk_by (N := nLF) (sc := defScope sLFaults) (by decide +kernel)) (fun _ _ _ _ _ => pg_name (i := 5) sc54.nd rfl (Or.inl rfl)) (fun _ _ _ _ _ => pts_nil) (fun _ _ _ _ _ => by exact pe_ix ix_tup (pv 5) pe_int (fun _ _ => rfl))) (by rfl)))).pt
        (pss_one (ps_dput hu (pv 4) (pe_ix ix_list (pv 2) pe_int (fun _ _ => rfl)) (pe_ix ix_list (pv 3) (pe_op op_sub (pe_op op_mod (pe_callTy call_int1 (by rfl) B.int boot_int (pa_cons (pv 0) pa_nil)) pe_int) pe_int) (fun _ _ => rfl)) rfl)) pss_nil)
      (pss_one (ps_ret (pv 4)))), ?_⟩
    obtain ⟨n0, h0⟩ : ∃ x, names[0]? = some x := ⟨_, List.getElem?_eq_getElem (by omega)⟩
    obtain ⟨n1, h1⟩ : ∃ x, names[1]? = some x := ⟨_, List.getElem?_eq_getElem (by omega)⟩
    obtain ⟨k0, g0⟩ : ∃ x, marks[0]? = some x := ⟨_, List.getElem?_eq_getElem (by omega)⟩
    refine fun p hp => ?_
    have s0 := Same.upd (o := HO.dK []) (same_rfl (H := H)) hp
    refine ⟨_, rfl, na, _, _, _, rfl, rfl, SqL.of (s0 _ _ hna), atS (j := 0) h0, _, rfl, ma, _, _, _, rfl, rfl, SqL.of (s0 _ _ hma), atS (j := 0) g0, upd_same, [(.inr n0, .str k0)], rfl, (by show 1 ≤ 15; decide), ?_⟩
    have s1 : Same H (upd (upd H p (.dK [])) p (.dK (tabV [(n0, k0)]))) := fun b o e => by
      have nb := ne_of_none e hp
      rw [upd_ne nb, upd_ne nb]; exact e
    have hp1 : ∀ o, upd (upd H p (.dK [])) p o p = some o := fun o => upd_same
    have hp1 := hp1 (.dK (tabV [(n0, k0)]))
    show tSeq _ _ _ _ (upd (upd H p (.dK [])) p (.dK (tabV [(n0, k0)])))
    generalize upd (upd H p (.dK [])) p (.dK (tabV [(n0, k0)])) = H1 at s1 hp1 ⊢
    have i0 := hnm n0 (List.mem_of_getElem? h0)
    have fin1 : ∀ H', Same H1 H' → Q (.ref p) H' := fun H' s' => q H' p [(n0, k0)] (s1.trans s') hp (s' _ _ hp1) (by show 1 ≤ 3; decide) fun e he => by
      rw [List.mem_singleton.mp he]
      exact ⟨⟨i0, hmk k0 (List.mem_of_getElem? g0)⟩, hw n0 h0⟩
    refine ⟨_, rfl, .inl ⟨_, rfl, _, _, rfl, rfl, (by show (0 : Int) < 3; decide), _, _, rfl, rfl, _, rfl, ?_⟩⟩
    refine ite2 (fun hgt => ?_) (fun _ => ⟨_, rfl, fin1 _ same_rfl⟩)
    have hgt : (0 : Int) < ((d : Nat) : Int) % 3 := of_decide_eq_true hgt
    refine ⟨_, rfl, na, _, _, _, rfl, rfl, SqL.of (s1 _ _ hna), atS (j := 1) h1, ?_⟩
    have sal : ads.length = st.length := hst.len
    refine ⟨_, rfl, sa, rfl, ⟨_, SqL.of (s1 _ _ hsa)⟩, fun Dl hDl => lc_list (a := sa) (xs := ads.map .ref) (fun i H' => Same H1 H' ∧ H' Dl = some (.lst (((st.take i).map (·.2.1)).map .str)))
      ⟨Same.upd same_rfl hDl, upd_same⟩ (fun i H' _ h => SqL.of (h.1 _ _ (s1 _ _ hsa))) ?_ ?_⟩
    · rintro i x H' hx ⟨s', hD'⟩
      obtain ⟨b, hb, rfl⟩ : ∃ b, ads[i]? = some b ∧ V.ref b = x := by
        rw [List.getElem?_map] at hx
        cases e : ads[i]? with
        | none => rw [e] at hx; cases hx
        | some b => rw [e] at hx; exact ⟨b, rfl, Option.some.inj hx⟩
      have hi : i < st.length := by
        have := (List.getElem?_eq_some_iff.mp hb).1
        omega
      have he : st[i]? = some st[i] := List.getElem?_eq_getElem hi
      have hbt := s' _ _ (s1 _ _ (hst.at_ i b _ hb he))
      refine ⟨rfl, ?_⟩
      refine tYes_ok ?_
      refine iteT ?_
      refine ⟨_, rfl, b, _, _, _, rfl, rfl, SqT.of hbt, atI_nat (j := 1) rfl, _, hD', ?_, s'.upd hDl, ?_⟩
      · rw [List.length_map, List.length_map, List.length_take]
        have : (100 : Nat) < sizeLine := by decide
        omega
      · rw [upd_same, List.take_add_one, he]
        simp only [Option.toList_some, List.map_append, List.map_cons, List.map_nil]
    · rintro H2 ⟨s2, hD2⟩
      rw [List.length_map, sal, List.take_length] at hD2
      refine ⟨Dl, _, rfl, .inl (SqL.of hD2), rfl, flat_strs _, _, rfl, ?_⟩
      show if inV (V.str n1) ((st.map (·.2.1)).map V.str) = true then _ else _
      rw [inV_str]
      refine ite2 (fun hin => ?_) (fun _ => ⟨_, rfl, fin1 _ s2⟩)
      have hin := of_decide_eq_true hin
      obtain ⟨m, hm, hmv⟩ : ∃ m : Nat, m < 2 ∧ ((d : Nat) : Int) % 3 - 1 = (m : Nat) := ⟨(((d : Nat) : Int) % 3 - 1).toNat, by omega, by omega⟩
      obtain ⟨kk, gk⟩ : ∃ x, marks[m]? = some x := ⟨_, List.getElem?_eq_getElem (by omega)⟩
      have atm : atI (marks.map V.str) (((d : Nat) : Int) % 3 - 1) = some (.str kk) := by rw [hmv]; exact atS gk
      have s12 := s1.trans s2
      refine ⟨_, rfl, _, rfl, .inl ⟨_, rfl, _, _, rfl, rfl, (by show (0 : Int) < 3; decide), _, _, rfl, rfl, ma, _, _, _, rfl, rfl, SqL.of (s12 _ _ hma), atm, _, rfl, _, rfl, na, _, _, _, rfl, rfl, SqL.of (s12 _ _ hna), atS (j := 1) h1, p, _, rfl, DPut.k (k := Sum.inr n1) (s2 _ _ hp1) (by show 1 < sizeLine; decide), ?_⟩⟩
      refine ⟨_, rfl, ?_⟩
      have sU : ∀ o, Same H (upd H2 p o) := fun o b u e => by
        rw [upd_ne (ne_of_none e hp)]; exact s12 _ _ e
      have i1 := hnm n1 (List.mem_of_getElem? h1)
      have ik := hmk kk (List.mem_of_getElem? gk)
      have w1 : ∃ f ∈ st, f.2.1 = n1 := by
        obtain ⟨f, h1, h2⟩ := List.mem_map.mp hin
        exact ⟨f, h1, h2⟩
      by_cases e01 : n0 = n1
      · have ep : putK (tabV [(n0, k0)]) (Sum.inr n1) (V.str kk) = tabV [(n0, kk)] := by
          rw [e01]
          unfold putK
          rw [if_pos (by simp [tabV])]
          simp [tabV]
        rw [ep]
        refine q _ p [(n0, kk)] (sU _) hp upd_same (by show 1 ≤ 3; decide) fun e he => ?_
        rw [List.mem_singleton.mp he]
        exact ⟨⟨i0, ik⟩, hw n0 h0⟩
      · have ep : putK (tabV [(n0, k0)]) (Sum.inr n1) (V.str kk) = tabV [(n0, k0), (n1, kk)] := by
          rw [putK_new (by rw [valV_see, see_none (by simpa using fun z => e01 z.symm)]; rfl)]
          rfl
        rw [ep]
        refine q _ p [(n0, k0), (n1, kk)] (sU _) hp upd_same (by show 2 ≤ 3; decide) fun e he => ?_
        rcases List.mem_cons.mp he with z | z
        · rw [z]
          exact ⟨⟨i0, hmk k0 (List.mem_of_getElem? g0)⟩, hw n0 h0⟩
        · rw [List.mem_singleton.mp z]
          exact ⟨⟨i1, ik⟩, w1⟩
def sSizes : List Nat := [12, 4, 4, 4, 4, 4]
theorem ok_lsights (B : Bx mg) {fR f : Addr} {fdR fd : FuncData} (FR : FnOk P w K mg base CX0 2 fR fdR ["_law_cell_here", "_law_sizes"] spRow) (bR : Binds K fdR ["_law_cell_here", "_law_sizes"] []) (mR : mg "_law_row" = some (.ref fR)) (kR : PySem.W.keepIn K (.ref fR) = true)
    (F : Fun K "_law_sights" "_law_sights" sLSights f fd) : FnOk P w K mg base CX0 3 f fd ["_law_cell_here", "_law_names_here", "_law_marks"] spLSights := by
  refine F.ok sc55 (fun vs H Q E h => ?_) (fun cdv A outer s H vs Q E hr h => ?_)
  · obtain ⟨_, _, _, _, _, rfl, _⟩ := h
    rfl
  · obtain ⟨c, na, ma, names, marks, rfl, hc, hna, hma, hn6, hnd, hm2, hnm, hmk, q⟩ := h
    have hu := hu_of hr
    refine ⟨_, pss_cons (ps_set (i := 3) sc55.nd rfl (Or.inl rfl) (pe_op op_add (pe_callB call_len_seq (by rfl) B.len boot_len (pa_cons (pv 2) pa_nil)) pe_int))
      (pss_cons (ps_set (i := 4) sc55.nd rfl (Or.inl rfl) (pe_call FR hr (by rfl) mR kR bR .nil pass0 (pa_cons (pv 0) (pa_cons (pe_op op_cat (pe_lst (pa_cons (pe_op op_mul pe_int (pv 3)) pa_nil)) (pe_op op_rep (pe_lst (pa_cons (pv 3) pa_nil)) (pe_op op_sub (pe_callB call_len_seq (by rfl) B.len boot_len (pa_cons (pv 1) pa_nil)) pe_int))) pa_nil))))
      (pss_cons (ps_set (i := 5) sc55.nd rfl (Or.inl rfl) pe_dnewK)
      (pss_cons (ps_for PassesOwn.never rfl (pi_range1 rfl B.range (pa_cons (pe_callB call_len_seq (by rfl) B.len boot_len (pa_cons (pv 1) pa_nil)) pa_nil)) (pg_name (i := 6) sc55.nd rfl (Or.inl rfl))
        (pss_one (ps_if (pt_cmpR op_eq (pe_ix ix_list (pv 4) (pv 6) (fun _ _ => rfl)) pe_int (nomark _)) (pss_one (ps_dput hu (pv 5) (pe_ix ix_list (pv 1) (pv 6) (fun _ _ => rfl)) (pe_ix ix_list (pv 1) (pv 6) (fun _ _ => rfl)) rfl))
          (pss_one (ps_if (pt_chain op_le op_lt pe_int (pe_ix ix_list (pv 4) (pv 6) (fun _ _ => rfl)) (pv 3)) (pss_one (ps_dput hu (pv 5) (pe_ix ix_list (pv 1) (pv 6) (fun _ _ => rfl)) (pe_ix ix_list (pv 2) (pe_op op_sub (pe_ix ix_list (pv 4) (pv 6) (fun _ _ => rfl)) pe_int) (fun _ _ => rfl)) rfl)) pss_nil)))))
      (pss_one (ps_ret (pv 5)))))), ?_⟩
    have hl6 : (names.map V.str).length = 6 := by rw [List.length_map]; exact hn6
    have hl2 : (marks.map V.str).length = 2 := by rw [List.length_map]; exact hm2
    refine ⟨_, rfl, ma, _, rfl, .inl (SqL.of hma), _, _, rfl, rfl, ?_⟩
    dsimp only
    rw [hl2]
    show tSeq _ _ _ [some (.int c), some (.ref na), some (.ref ma), some (.int 4), none, none, none] _
    have hnaU : ∀ {p o}, H p = none → upd H p o na = some (.lst (names.map .str)) := fun h => by rw [upd_ne (ne_of_none hna h)]; exact hna
    refine ⟨_, rfl, _, rfl, _, _, rfl, rfl, .inl ⟨by decide, by decide⟩, by show 1 ≤ sizeLine; decide, fun p1 hp1 => ⟨_, rfl, by show 1 ≤ sizeLine; decide, fun p2 hp2 => ⟨_, rfl, na, names.map V.str, rfl, .inl (SqL.of ?_), _, _, rfl, rfl, p2, _, _, rfl, rfl, upd_same, ?_, ?_, ?_, fun p3 hp3 => ⟨p1, p3, [V.int 12], _, rfl, rfl, ?_, upd_same, ?_, fun p4 hp4 => ?_⟩⟩⟩⟩
    · have e1 := hnaU (o := .lst [V.int 12]) hp1
      exact (upd_ne (ne_of_none e1 hp2)).trans e1
    · show -(2 ^ 63) ≤ ((((names.map V.str).length : Nat) : Int) - 1)
      omega
    · show ((((names.map V.str).length : Nat) : Int) - 1) < 2 ^ 63
      omega
    · show 1 * ((((names.map V.str).length : Nat) : Int) - 1).toNat ≤ sizeLine
      rw [hl6]; decide
    · have n2 : p1 ≠ p2 := ne_of_none upd_same hp2
      have n3 : p1 ≠ p3 := ne_of_none (by rw [upd_ne n2]; exact upd_same) hp3
      rw [upd_ne n3, upd_ne n2]
      exact upd_same
    · show 1 + _ ≤ sizeLine
      rw [hl6]; decide
    have t1 := Same.upd (o := HO.lst [V.int 12]) (same_rfl (H := H)) hp1
    have t2 := t1.upd (o := HO.lst [V.int 4]) (t1.free hp2)
    have t3 := t2.upd (o := HO.lst (List.replicate ((((names.map V.str).length : Nat) : Int) - 1).toNat [V.int 4]).flatten) (t2.free hp3)
    have t4 := t3.upd (o := HO.lst ([V.int 12] ++ (List.replicate ((((names.map V.str).length : Nat) : Int) - 1).toNat [V.int 4]).flatten)) (t3.free hp4)
    refine ⟨c, p4, sSizes, rfl, hc, ?_, by decide, by decide, fun H1 rl ds s1 hrl hl1 D => ?_⟩
    · have e7 : [V.int 12] ++ (List.replicate ((((names.map V.str).length : Nat) : Int) - 1).toNat [V.int 4]).flatten = sSizes.map natV := by
        rw [hl6]; rfl
      rw [← e7]
      exact upd_same
    have s1' := t4.trans s1
    intro tb htb
    have hna1 := s1' _ _ hna
    have hma1 := s1' _ _ hma
    have dsl : ds.length = 6 := D.len
    have htb' : ∀ {H' : Hp} {o : HO}, Same H1 H' → Same H1 (upd H' tb o) := fun s b o e => by
      rw [upd_ne (ne_of_none e htb)]; exact s _ _ e
    refine ⟨_, rfl, na, _, rfl, .inl (SqL.of (by rw [upd_ne (ne_of_none hna1 htb)]; exact hna1)), (((names.map V.str).length : Nat) : Int), rfl, by omega, by omega, for_range (n := (((names.map V.str).length : Nat) : Int).toNat) (fun i σ H' => ∃ (v6 : Option V) (T : List (Str × Str)), σ = [some (.int c), some (.ref na), some (.ref ma), some (.int 4), some (.ref rl), some (.ref tb), v6] ∧ Same H1 H' ∧ H' tb = some (.dK (tabV T)) ∧ (T.map (·.1)).Nodup ∧ (∀ x ∈ T.map (·.1), x ∈ names.take i) ∧ T.length ≤ i ∧ ∀ e ∈ T, IsName e.1 ∧ IsName e.2)
      ⟨_, [], rfl, htb' same_rfl, upd_same, .nil, fun x h => by simp at h, Nat.le_refl _, fun e h => by simp at h⟩ ?_ ?_⟩
    · rintro i σ H' hi ⟨v6, T, rfl, s', ht', hTn, hTm, hTl, hTi⟩
      have hi : i < 6 := by omega
      obtain ⟨d, hd⟩ : ∃ d, ds[i]? = some d := ⟨_, List.getElem?_eq_getElem (by omega)⟩
      obtain ⟨nm, hnm1⟩ : ∃ d, names[i]? = some d := ⟨_, List.getElem?_eq_getElem (by omega)⟩
      have atd : atI (ds.map natV) ((0 : Int) + ((i : Nat) : Int)) = some (natV d) := by rw [Int.zero_add]; exact atN hd
      have atn : atI (names.map V.str) ((0 : Int) + ((i : Nat) : Int)) = some (.str nm) := by rw [Int.zero_add]; exact atS hnm1
      have hrl' := s' _ _ hl1
      have hna' := s' _ _ hna1
      have hma' := s' _ _ hma1
      have inm := hnm nm (List.mem_of_getElem? hnm1)
      have new : nm ∉ T.map (·.1) := fun z => nd_take hnd hnm1 (hTm nm z)
      have put : ∀ v, putK (tabV T) (Sum.inr nm) (V.str v) = tabV (T ++ [(nm, v)]) := fun v => by
        rw [putK_new (by rw [valV_see, see_none new]; rfl)]
        simp only [tabV, List.map_append, List.map_cons, List.map_nil]
      have sz : (tabV T).length < sizeLine := by
        rw [List.length_map]
        have : (6 : Nat) < sizeLine := by decide
        omega
      have nxt : ∀ v, IsName v → ∃ (v6 : Option V) (T' : List (Str × Str)), [some (V.int c), some (.ref na), some (.ref ma), some (.int 4), some (.ref rl), some (.ref tb), some (.int (0 + (i : Nat)))] = [some (.int c), some (.ref na), some (.ref ma), some (.int 4), some (.ref rl), some (.ref tb), v6] ∧ Same H1 (upd H' tb (.dK (putK (tabV T) (Sum.inr nm) (V.str v)))) ∧ upd H' tb (.dK (putK (tabV T) (Sum.inr nm) (V.str v))) tb = some (.dK (tabV T')) ∧ (T'.map (·.1)).Nodup ∧ (∀ x ∈ T'.map (·.1), x ∈ names.take (i + 1)) ∧ T'.length ≤ i + 1 ∧ ∀ e ∈ T', IsName e.1 ∧ IsName e.2 := fun v hv => by
        refine ⟨_, T ++ [(nm, v)], rfl, htb' s', by rw [upd_same, put], ?_, fun x hx => ?_, by rw [List.length_append]; show T.length + 1 ≤ _; omega, fun e he => ?_⟩
        · rw [List.map_append]
          refine List.nodup_append.mpr ⟨hTn, by simp, fun a ha b hb => ?_⟩
          simp only [List.map_cons, List.map_nil, List.mem_singleton] at hb
          rw [hb]
          exact fun z => new (z ▸ ha)
        · rw [List.take_add_one, hnm1]
          rw [List.map_append] at hx
          rcases List.mem_append.mp hx with z | z
          · exact List.mem_append_left _ (hTm x z)
          · simp only [List.map_cons, List.map_nil, List.mem_singleton] at z
            exact List.mem_append_right _ (by simp [z])
        · rcases List.mem_append.mp he with z | z
          · exact hTi e z
          · rw [List.mem_singleton.mp z]; exact ⟨inm, hv⟩
      have skip : ∃ (v6 : Option V) (T' : List (Str × Str)), [some (V.int c), some (.ref na), some (.ref ma), some (.int 4), some (.ref rl), some (.ref tb), some (.int (0 + (i : Nat)))] = [some (.int c), some (.ref na), some (.ref ma), some (.int 4), some (.ref rl), some (.ref tb), v6] ∧ Same H1 H' ∧ H' tb = some (.dK (tabV T')) ∧ (T'.map (·.1)).Nodup ∧ (∀ x ∈ T'.map (·.1), x ∈ names.take (i + 1)) ∧ T'.length ≤ i + 1 ∧ ∀ e ∈ T', IsName e.1 ∧ IsName e.2 :=
        ⟨_, T, rfl, s', ht', hTn, fun x hx => by rw [List.take_add_one]; exact List.mem_append_left _ (hTm x hx), by omega, hTi⟩
      refine ⟨_, rfl, _, rfl, rl, _, _, _, rfl, rfl, SqL.of hrl', atd, rfl, _, rfl, ?_⟩
      refine ite2 (fun _ => ?_) (fun _ => ?_)
      · refine ⟨_, rfl, _, rfl, na, _, _, _, rfl, rfl, SqL.of hna', atn, _, rfl, _, rfl, _, rfl, na, _, _, _, rfl, rfl, SqL.of hna', atn, tb, _, rfl, DPut.k (k := Sum.inr nm) ht' sz, ?_⟩
        exact nxt nm inm
      · refine ⟨_, rfl, _, rfl, rl, _, _, _, rfl, rfl, SqL.of hrl', atd, _, _, rfl, rfl, _, rfl, ?_⟩
        refine ite2 (fun h2 => ?_) (fun _ => ?_)
        · refine ⟨_, rfl, _, _, rfl, rfl, _, rfl, ?_⟩
          refine ite2 (fun h4 => ?_) (fun _ => skip)
          have h2 : (2 : Int) ≤ ((d : Nat) : Int) := of_decide_eq_true h2
          have h4 : ((d : Nat) : Int) < 4 := of_decide_eq_true h4
          obtain ⟨mk, hmk1⟩ : ∃ x, marks[d - 2]? = some x := ⟨_, List.getElem?_eq_getElem (by omega)⟩
          have atm : atI (marks.map V.str) (((d : Nat) : Int) - 2) = some (.str mk) := by
            rw [show ((d : Nat) : Int) - 2 = ((d - 2 : Nat) : Int) by omega]; exact atS hmk1
          refine ⟨_, rfl, _, rfl, _, rfl, rl, _, _, _, rfl, rfl, SqL.of hrl', atd, _, _, rfl, rfl, ma, _, _, _, rfl, rfl, SqL.of hma', atm, _, rfl, _, rfl, _, rfl, na, _, _, _, rfl, rfl, SqL.of hna', atn, tb, _, rfl, DPut.k (k := Sum.inr nm) ht' sz, ?_⟩
          exact nxt mk (hmk mk (List.mem_of_getElem? hmk1))
        · exact ⟨_, rfl, iteF skip⟩
    · rintro σ H' ⟨v6, T, rfl, s', ht', hTn, hTm, hTl, hTi⟩
      rw [hl6] at hTl
      exact ⟨_, rfl, q H' tb T (s1'.trans s') (s1'.free htb) ht' hTn hTl hTi⟩
end
end KN
/-! _law_is_integer, _law_seen, _law_walk. -/
namespace KN
open PySem PySem.Spec PyProof.Rows L2
abbrev sSeen : Stmt := top 57
abbrev nSeen : List Str := ["_law_steps", "_law_table", "_law_path", "_law_words", "_law_number", "_law_word"]
theorem sc57 : FnScope nSeen ["_law_steps", "_law_table", "_law_path"] (defScope sSeen) := ⟨rfl, rfl, rfl, by decide +kernel, rfl, by decide +kernel, by decide +kernel⟩
/-- what is seen of a path -/
def seenOf (st : List Step) (T : List (Str × Str)) (path : List Nat) : List Str := path.filterMap fun i => (st[i]?).bind fun e => see T e.2.1
def spSeen : Sp := fun vs H Q _ => ∃ (sa ta pa : Addr) (ads : List Addr) (st : List Step) (T : List (Str × Str)) (path : List Nat), vs = [.ref sa, .ref ta, .ref pa] ∧ H sa = some (.lst (ads.map .ref)) ∧ StepsAt H ads st ∧ H ta = some (.dK (tabV T)) ∧ H pa = some (.lst (path.map natV)) ∧
  (∀ i ∈ path, i < st.length) ∧ path.length ≤ 1000 ∧ ∀ (H' : Hp) (p : Addr), Same H H' → H p = none → H' p = some (.lst ((seenOf st T path).map .str)) → Q (.ref p) H'
abbrev sWalk : Stmt := top 58
abbrev nWalk : List Str := ["_law_row_here", "_law_steps", "_law_start", "_law_path", "_law_state", "_law_digit", "_law_ways", "_law_k", "_law_number"]
theorem sc58 : FnScope nWalk ["_law_row_here", "_law_steps", "_law_start"] (defScope sWalk) := ⟨rfl, rfl, rfl, by decide +kernel, rfl, by decide +kernel, by decide +kernel⟩
/-- a run from one state to another -/
inductive RunTo (st : List Step) (q0 : Int) : List Nat → Int → Prop
  | nil : RunTo st q0 [] q0
  | snoc {p : List Nat} {q : Int} {i : Nat} {e : Step} : RunTo st q0 p q → st[i]? = some e → e.1 = q → RunTo st q0 (p ++ [i]) e.2.2
def spWalk : Sp := fun vs H Q _ => ∃ (ra sa : Addr) (q0 : Int) (ds : List Nat) (ads : List Addr) (st : List Step) (labs : List Int), vs = [.ref ra, .ref sa, .int q0] ∧ H ra = some (.lst (ds.map natV)) ∧ H sa = some (.lst (ads.map .ref)) ∧ StepsAt H ads st ∧ ds.length ≤ 1000 ∧ st.length ≤ 1000 ∧
  q0 ∈ labs ∧ (∀ e ∈ st, e.2.2 ∈ labs) ∧ (∀ q ∈ labs, ∃ e ∈ st, e.1 = q) ∧
  ∀ (H' : Hp) (p : Addr) (path : List Nat) (q : Int), Same H H' → H p = none → H' p = some (.lst (path.map natV)) → RunTo st q0 path q → path.length = ds.length → Q (.ref p) H'
section
variable {P : Program} {w : World} {K : PySem.W.Frag} {mg : Str → Option Value} {base : Heap}
theorem seenOf_words {st : List Step} {T : List (Str × Str)} {path : List Nat} (h : ∀ i ∈ path, i < st.length) : ∃ ws : List Str, ws.length = path.length ∧ (∀ (j i : Nat), path[j]? = some i → ∃ e : Step, st[i]? = some e ∧ ws[j]? = some e.2.1) ∧ seenOf st T path = ws.filterMap (see T) := by
  induction path with
  | nil => exact ⟨[], rfl, fun j i h => by simp at h, rfl⟩
  | cons a path ih =>
    obtain ⟨ws, h1, h2, h3⟩ := ih fun i hi => h i (List.mem_cons_of_mem _ hi)
    have ha := h a List.mem_cons_self
    have e := List.getElem?_eq_getElem ha
    refine ⟨st[a].2.1 :: ws, by rw [List.length_cons, List.length_cons, h1], fun j i hj => ?_, ?_⟩
    · cases j with
      | zero =>
        cases hj
        exact ⟨_, e, rfl⟩
      | succ j => exact h2 j i hj
    · unfold seenOf at h3 ⊢
      rw [List.filterMap_cons, List.filterMap_cons, e]
      rw [Option.bind_some]
      cases see T st[a].2.1 with
      | none => exact h3
      | some b => exact congrArg _ h3
theorem ok_seen {f : Addr} {fd : FuncData} (F : Fun K "_law_seen" "_law_seen" sSeen f fd) : FnOk P w K mg base CX0 1 f fd ["_law_steps", "_law_table", "_law_path"] spSeen := by
  refine F.ok sc57 (fun vs H Q E h => ?_) (fun cdv A outer s H vs Q E hr h => ?_)
  · obtain ⟨_, _, _, _, _, _, _, rfl, _⟩ := h
    rfl
  · obtain ⟨sa, ta, pa, ads, st, T, path, rfl, hsa, hst, hta, hpa, hin, hle, q⟩ := h
    have hu := hu_of hr
    refine ⟨_, pss_cons (ps_setLc (i := 3) (own := [("_law_number", 4)]) (g := gName 4) (tt := tYes) (te := tOp (rIxT K) (tOp (rIxL K) (tVar 0) (tVar 4)) (tC (.int 1))) rfl sc57.nd rfl rfl (sw_true rfl rfl rfl (by decide +kernel)) (pi_list (pv 2)) (blkOk_by (N := nSeen) (sc := defScope sSeen) (by decide +kernel)) (fun _ _ _ _ _ => pg_name (i := 4) sc57.nd rfl (Or.inl rfl)) (fun _ _ _ _ _ => pts_nil) (fun _ _ _ _ _ => by exact pe_ix ix_tup (pe_ix ix_list (pv 0) (pv 4) (fun _ _ => rfl)) pe_int (fun _ _ => rfl)))
      (pss_one (ps_ret (pe_lc (own := [("_law_word", 5)]) (g := gName 5) (tt := tTest (tOp _ _ _)) (te := tDGet (tVar 1) (tVar 5)) rfl sc57.nd (pi_list (pv 3)) (blkOk_by (N := nSeen) (sc := defScope sSeen) (by decide +kernel)) (fun _ _ _ _ _ => pg_name (i := 5) sc57.nd rfl (Or.inl rfl)) (fun _ _ _ _ _ => pts_one (pt_cmp (pc_din hu (pv 5) (pv 1)) (by rfl))) (fun _ _ _ _ _ => by exact pe_dget hu (pv 1) (pv 5) (fun _ _ => rfl))))), ?_⟩
    obtain ⟨ws, hwl, hwm, hws⟩ := seenOf_words (T := T) hin
    have big : (1000 : Nat) < sizeLine := by decide
    refine ⟨_, rfl, pa, rfl, ⟨_, SqL.of hpa⟩, fun wa hwa => lc_list (a := pa) (xs := path.map natV) (fun j H' => Same H H' ∧ H' wa = some (.lst ((ws.take j).map .str)))
      ⟨Same.upd same_rfl hwa, upd_same⟩ (fun j H' _ h => SqL.of (h.1 _ _ hpa)) ?_ ?_⟩
    · rintro j x H' hx ⟨s', hD'⟩
      obtain ⟨i, hi, rfl⟩ : ∃ i, path[j]? = some i ∧ x = natV i := by
        rw [List.getElem?_map] at hx
        cases e : path[j]? with
        | none => rw [e] at hx; cases hx
        | some d => rw [e] at hx; exact ⟨d, rfl, (Option.some.inj hx).symm⟩
      obtain ⟨e, he, hwe⟩ := hwm j i hi
      have hil := (List.getElem?_eq_some_iff.mp he).1
      obtain ⟨b, hb⟩ : ∃ b, ads[i]? = some b := ⟨_, List.getElem?_eq_getElem (by rw [hst.len]; exact hil)⟩
      have hbt := s' _ _ (hst.at_ i b e hb he)
      refine ⟨rfl, ?_⟩
      refine tYes_ok ?_
      refine iteT ?_
      refine ⟨_, rfl, _, rfl, sa, _, _, _, rfl, rfl, SqL.of (s' _ _ hsa), atI_nat (by rw [List.getElem?_map, hb]; rfl), b, _, _, _, rfl, rfl, SqT.of hbt, atI_nat (j := 1) rfl, _, hD', ?_, s'.upd hwa, ?_⟩
      · rw [List.length_map, List.length_take]; omega
      · rw [upd_same, List.take_add_one, hwe]
        simp only [Option.toList_some, List.map_append, List.map_cons, List.map_nil]
    · rintro H1 ⟨s1, hwa1⟩
      rw [List.length_map, ← hwl, List.take_length] at hwa1
      refine ⟨_, rfl, wa, rfl, ⟨_, SqL.of hwa1⟩, fun D hD => lc_list (a := wa) (xs := ws.map .str) (fun j H' => Same H1 H' ∧ H' D = some (.lst (((ws.take j).filterMap (see T)).map .str)))
        ⟨Same.upd same_rfl hD, upd_same⟩ (fun j H' _ h => SqL.of (h.1 _ _ hwa1)) ?_ ?_⟩
      · rintro j x H' hx ⟨s', hD'⟩
        obtain ⟨y, hy, rfl⟩ : ∃ y, ws[j]? = some y ∧ x = V.str y := by
          rw [List.getElem?_map] at hx
          cases e : ws[j]? with
          | none => rw [e] at hx; cases hx
          | some d => rw [e] at hx; exact ⟨d, rfl, (Option.some.inj hx).symm⟩
        have hta' := s' _ _ (s1 _ _ hta)
        refine ⟨rfl, _, rfl, _, rfl, ta, _, rfl, DGet.k (k := Sum.inr y) hta', _, rfl, ?_⟩
        have hg := valV_see T y
        have ef : (ws.take (j + 1)).filterMap (see T) = (ws.take j).filterMap (see T) ++ (see T y).toList := by
          rw [List.take_add_one, hy, List.filterMap_append]
          congr 1
        cases e : see T y with
        | none =>
          rw [e] at hg ef
          rw [hg]
          refine iteF ⟨s', ?_⟩
          rw [ef, Option.toList_none, List.append_nil]
          exact hD'
        | some z =>
          rw [e] at hg ef
          rw [hg]
          refine iteT ?_
          refine ⟨_, rfl, _, rfl, ta, .str z, rfl, by
            have := DGet.k (k := Sum.inr y) hta'
            rw [hg] at this
            exact this, _, hD', ?_, s'.upd hD, ?_⟩
          · rw [List.length_map]
            have := List.length_filterMap_le (see T) (ws.take j)
            rw [List.length_take] at this
            omega
          · rw [upd_same, ef, List.map_append]; rfl
      · rintro H2 ⟨s2, hD2⟩
        rw [List.length_map, List.take_length, ← hws] at hD2
        exact q H2 D (s1.trans s2) (s1.free hD) hD2
theorem ok_walk (B : Bx mg) {f : Addr} {fd : FuncData} (F : Fun K "_law_walk" "_law_walk" sWalk f fd) : FnOk P w K mg base CX0 1 f fd ["_law_row_here", "_law_steps", "_law_start"] spWalk := by
  refine F.ok sc58 (fun vs H Q E h => ?_) (fun cdv A outer s H vs Q E hr h => ?_)
  · obtain ⟨_, _, _, _, _, _, _, rfl, _⟩ := h
    rfl
  · obtain ⟨ra, sa, q0, ds, ads, st, labs, rfl, hra, hsa, hst, hdl, hsl, hq0, htl, hlv, q⟩ := h
    refine ⟨_, pss_cons (ps_set (i := 3) sc58.nd rfl (Or.inl rfl) (pe_lst pa_nil))
      (pss_cons (ps_set (i := 4) sc58.nd rfl (Or.inr rfl) (pv 2))
      (pss_cons (ps_for PassesOwn.never rfl (pi_list (pv 0)) (pg_name (i := 5) sc58.nd rfl (Or.inl rfl))
        (pss_cons (ps_setLc (i := 6) (own := [("_law_k", 7)]) (g := gName 7) (tt := tTest (tOp _ (tOp (rIxT K) (tOp (rIxL K) (tVar 1) (tVar 7)) (tC (.int 0))) (tVar 4))) (te := tVar 7) rfl sc58.nd rfl rfl (sw_true rfl rfl rfl (by decide +kernel)) (pi_range1 rfl B.range (pa_cons (pe_callB call_len_seq (by rfl) B.len boot_len (pa_cons (pv 1) pa_nil)) pa_nil)) (blkOk_by (N := nWalk) (sc := defScope sWalk) (by decide +kernel)) (fun _ _ _ _ _ => pg_name (i := 7) sc58.nd rfl (Or.inl rfl)) (fun _ _ _ _ _ => by exact pts_one (pt_cmpR op_eq (pe_ix ix_tup (pe_ix ix_list (pv 1) (pv 7) (fun _ _ => rfl)) pe_int (fun _ _ => rfl)) (pv 4) (nomark _))) (fun _ _ _ _ _ => pv 7))
        (pss_cons (ps_set (i := 8) sc58.nd rfl (Or.inl rfl) (pe_ix ix_list (pv 6) (pe_op op_mod (pe_callTy call_int1 (by rfl) B.int boot_int (pa_cons (pv 5) pa_nil)) (pe_callB call_len_seq (by rfl) B.len boot_len (pa_cons (pv 6) pa_nil))) (fun _ _ => rfl)))
        (pss_cons (ps_expr (pe_bm PySem.F.plainAttrs_list PySem.F.slot_list_append PySem.F.type_list_append mt_append (pv 3) (pa_cons (pv 8) pa_nil)))
        (pss_one (ps_set (i := 4) sc58.nd rfl (Or.inr rfl) (pe_ix ix_tup (pe_ix ix_list (pv 1) (pv 8) (fun _ _ => rfl)) pe_int (fun _ _ => rfl))))))))
      (pss_one (ps_ret (pv 3))))), ?_⟩
    have big : (1000 : Nat) < sizeLine := by decide
    have al : ads.length = st.length := hst.len
    refine ⟨by show 0 ≤ sizeLine; decide, fun pl hpl => ⟨_, rfl, ?_⟩⟩
    have keep : ∀ {H' : Hp} {o : HO}, Same H H' → Same H (upd H' pl o) := fun s b o e => by
      rw [upd_ne (ne_of_none e hpl)]; exact s _ _ e
    refine ⟨_, rfl, ra, rfl, ⟨_, SqL.of (keep same_rfl _ _ hra)⟩, for_list (xs := ds.map natV) (fun i σ H' => ∃ (v5 v6 v8 : Option V) (path : List Nat) (q : Int), σ = [some (.ref ra), some (.ref sa), some (.int q0), some (.ref pl), some (.int q), v5, v6, none, v8] ∧ Same H H' ∧ H' pl = some (.lst (path.map natV)) ∧ RunTo st q0 path q ∧ path.length = i ∧ q ∈ labs)
      ⟨_, _, _, [], q0, rfl, keep same_rfl, upd_same, .nil, rfl, hq0⟩ (fun i σ H' _ ⟨_, _, _, _, _, _, s', _⟩ => SqL.of (s' _ _ hra)) ?_ ?_⟩
    · rintro i x σ H' hx ⟨v5, v6, v8, path, qq, rfl, s', hp', hrun, hlen, hqq⟩
      obtain ⟨d, hd, rfl⟩ : ∃ d, ds[i]? = some d ∧ x = natV d := by
        rw [List.getElem?_map] at hx
        cases e : ds[i]? with
        | none => rw [e] at hx; cases hx
        | some d => rw [e] at hx; exact ⟨d, rfl, (Option.some.inj hx).symm⟩
      have hi := (List.getElem?_eq_some_iff.mp hd).1
      have hsa' := s' _ _ hsa
      refine ⟨_, rfl, sa, _, rfl, .inl (SqL.of hsa'), (((ads.map V.ref).length : Nat) : Int), rfl, by omega, by rw [List.length_map]; omega, fun Dl hDl => lc_range (lo := 0) (n := (((ads.map V.ref).length : Nat) : Int).toNat) (fun j H2 => Same H' H2 ∧ H2 Dl = some (.lst (((List.range j).filter fun i => decide ((st[i]?.map fun e => e.1) = some qq)).map natV)))
        ⟨Same.upd same_rfl hDl, upd_same⟩ ?_ ?_⟩
      · rintro j H2 hj ⟨s2, hD2⟩
        have hj : j < st.length := by
          rw [Int.toNat_natCast, List.length_map, al] at hj; exact hj
        have he := List.getElem?_eq_getElem hj
        obtain ⟨b, hb⟩ : ∃ b, ads[j]? = some b := ⟨_, List.getElem?_eq_getElem (by omega)⟩
        have hbt := s2 _ _ (s' _ _ (hst.at_ j b _ hb he))
        have atb : atI (ads.map V.ref) ((0 : Int) + ((j : Nat) : Int)) = some (.ref b) := by
          rw [Int.zero_add]; exact atI_nat (by rw [List.getElem?_map, hb]; rfl)
        have ef : ((List.range (j + 1)).filter fun i => decide ((st[i]?.map fun e => e.1) = some qq)) = ((List.range j).filter fun i => decide ((st[i]?.map fun e => e.1) = some qq)) ++ if st[j].1 = qq then [j] else [] := by
          rw [List.range_succ, List.filter_append]
          congr 1
          by_cases z : st[j].1 = qq
          · rw [if_pos z]
            exact List.filter_cons_of_pos (by rw [he]; simpa using z)
          · rw [if_neg z]
            exact List.filter_cons_of_neg (by rw [he]; simpa using z)
        refine ⟨rfl, _, rfl, _, rfl, sa, _, _, _, rfl, rfl, SqL.of (s2 _ _ hsa'), atb, b, _, _, _, rfl, rfl, SqT.of hbt, atI_nat (j := 0) rfl, _, rfl, rfl, _, rfl, ?_⟩
        show if decide (V.int st[j].1 = V.int qq) = true then _ else _
        by_cases z : st[j].1 = qq
        · rw [decide_eq_true (by rw [z])]
          refine iteT ?_
          refine ⟨_, rfl, _, hD2, ?_, s2.upd hDl, ?_⟩
          · rw [List.length_map]
            have := List.length_filter_le (fun i => decide ((st[i]?.map fun e => e.1) = some qq)) (List.range j)
            rw [List.length_range] at this
            omega
          · rw [upd_same, ef, if_pos z, List.map_append, Int.zero_add]; rfl
        · rw [decide_eq_false fun w => z (by cases w; rfl)]
          refine iteF ⟨s2, ?_⟩
          rw [ef, if_neg z, List.append_nil]
          exact hD2
      · rintro H2 ⟨s2, hD2⟩
        rw [Int.toNat_natCast, List.length_map, al] at hD2
        generalize hW : (List.range st.length).filter (fun i => decide ((st[i]?.map fun e => e.1) = some qq)) = W at hD2
        have Wne : W ≠ [] := by
          obtain ⟨e, he, heq⟩ := hlv qq hqq
          obtain ⟨j, hj⟩ := List.getElem?_of_mem he
          have hjl := (List.getElem?_eq_some_iff.mp hj).1
          intro z
          rw [← hW] at z
          refine List.filter_eq_nil_iff.mp z j (List.mem_range.mpr hjl) ?_
          rw [hj]
          simpa using heq
        obtain ⟨m, hm, hmv⟩ : ∃ m : Nat, m < W.length ∧ ((d : Nat) : Int) % (((W.map natV).length : Nat) : Int) = (m : Nat) := by
          rw [List.length_map]
          obtain ⟨p1, p2⟩ := mod_place (i := (d : Int)) (n := W.length) (List.length_pos_iff.mpr Wne)
          exact ⟨_, p1, p2.symm⟩
        obtain ⟨nn, hn⟩ : ∃ x, W[m]? = some x := ⟨_, List.getElem?_eq_getElem hm⟩
        have hnW := List.mem_of_getElem? hn
        rw [← hW] at hnW
        have hn2 := of_decide_eq_true (List.mem_filter.mp hnW).2
        have hn3 := List.mem_range.mp (List.mem_filter.mp hnW).1
        have he := List.getElem?_eq_getElem hn3
        rw [he] at hn2
        have hn2 : st[nn].1 = qq := by simpa using hn2
        obtain ⟨b, hb⟩ : ∃ b, ads[nn]? = some b := ⟨_, List.getElem?_eq_getElem (by omega)⟩
        have atm : atI (W.map natV) (((d : Nat) : Int) % (((W.map natV).length : Nat) : Int)) = some (natV nn) := by rw [hmv]; exact atN hn
        have pos : (0 : Int) < (((W.map natV).length : Nat) : Int) := by
          have := List.length_pos_iff.mpr Wne
          rw [List.length_map]; omega
        refine ⟨_, rfl, _, rfl, .inl ⟨_, rfl, _, rfl, Dl, _, rfl, .inl (SqL.of hD2), _, _, rfl, rfl, pos, Dl, _, _, _, rfl, rfl, SqL.of hD2, atm, ?_⟩⟩
        have hp2 := s2 _ _ hp'
        refine ⟨_, rfl, .inl ⟨rfl, _, SqL.of hp2⟩, _, rfl, pl, _, _, rfl, rfl, hp2, by rw [List.length_map]; omega, ?_⟩
        have s3 : Same H (upd H2 pl (.lst (path.map natV ++ [natV nn]))) := keep (s'.trans s2)
        have hbt := s3 _ _ (hst.at_ nn b _ hb he)
        refine ⟨_, rfl, _, rfl, sa, _, _, _, rfl, rfl, SqL.of (s3 _ _ hsa), atI_nat (by rw [List.getElem?_map, hb]; rfl), b, _, _, _, rfl, rfl, SqT.of hbt, atI_nat (j := 2) rfl, ?_⟩
        exact ⟨_, _, _, path ++ [nn], st[nn].2.2, rfl, s3, by rw [upd_same, List.map_append]; rfl, .snoc hrun he hn2, by rw [List.length_append, hlen]; rfl, htl _ (List.getElem_mem hn3)⟩
    · rintro σ H' ⟨v5, v6, v8, path, qq, rfl, s', hp', hrun, hlen, hqq⟩
      rw [List.length_map] at hlen
      exact ⟨_, rfl, q H' pl path qq s' hpl hp' hrun hlen⟩
end
end KN
set_option maxHeartbeats 3200000
/-! set(list of whole numbers), its table walkable; sorted of it. -/
namespace KN
open PySem PySem.Spec PyProof.Rows L2
abbrev newSetO (w : World) : Obj := { cls := .type "set", dict := none, data := .set #[] 0 (.fresh 0 0 (!w.params.followText "set-order")) }
section
variable {P : Program} {w : World} {A : Around} {E : Value → Shared → Prop} {s : Shared}
theorem set_of_list {l : Addr} {vs : Array Value} (ks : List Int) {Q : Value → Shared → Prop}
    (nh : A.handled = none) (il : s.heap.IsList l vs)
    (ia : IntsAre vs.toList ks) (few : ks.length + 1 < scanBound)
    (k : ∀ (h2 : Heap) (tk n : Nat), SetR w h2 s.heap.objs.size (fun j => decide (j ∈ ks)) n → n ≤ ks.length →
      (∀ b o, s.heap.get? b = some o → h2.get? b = some o) → Q (.ref s.heap.objs.size) { s with heap := h2, toks := tk }) :
    wpAny (model P w) A (call (.type "set") [.ref l]) Q E s := by
  have sz : vs.size = ks.length := by
    have e := IntsAre.length ia
    rwa [Array.length_toList] at e
  obtain ⟨mc, mt, mro⟩ := F.called_set.mro
  have made := F.called_set.made
  have subs := F.called_set.sub
  refine wpAny_call (codeAny_of_tree ?_)
  show wpAny _ _ (callAny (.type "set") _) _ _ _
  refine wpAny_pure ⟨Code.quiet_builtin _ (by decide +kernel),
    codeAny_builtin F.entry_type_call ?_⟩
  rw [Around.under_plain (weight_type_call_type "set" [.ref l] []) rfl]
  have t1 := F.called_set.notType
  have t2 := F.called_set.canCreate
  have t3 := F.typeCall_set_1 (.ref l)
  repeat (any_goals (first | assumption | wp_step))
  refine codeAny_mono (code_set_led1 (.ref l) (E := E)
    (Q₁ := fun ob z => ob = .ref s.heap.objs.size ∧ z = { s with heap := s.heap.push (newSetO w) }) ⟨rfl, rfl⟩) fun r z hz => ?_
  cases r with
  | error e => exact hz
  | ok fl =>
    cases fl with
    | ret ob =>
      obtain ⟨rfl, rfl⟩ := hz
      have at0 : (s.heap.push (newSetO w)).get? s.heap.objs.size = some (newSetO w) := Heap.get?_push_size _ rfl
      have ty0 : Shared.TypeIs { s with heap := s.heap.push (newSetO w) } (.ref s.heap.objs.size) "set" := ⟨_, at0, rfl⟩
      have i1 := F.called_set.init.lookup
      have i2 := F.called_set.init.bind (.ref s.heap.objs.size)
      repeat (any_goals (first | assumption | wp_step))
      refine codeAny_mono (codeAny_call_builtin (R := wants (fun r z => r = .none ∧ ∃ h2 tk n, z = { s with heap := h2, toks := tk } ∧
          SetR w h2 s.heap.objs.size (fun j => decide (j ∈ ks)) n ∧ n ≤ ks.length ∧ (∀ b o, s.heap.get? b = some o → h2.get? b = some o)) E)
        F.called_set.init.plain F.entry_set_init (check_set_init_1 ty0 ?_)) fun r2 z2 hz2 => ?_
      · obtain ⟨ol, hol, hcl, nl, hdl⟩ := il
        obtain ⟨ocls, odict, odata, oslots⟩ := ol
        simp only at hcl hdl
        subst hcl; subst hdl
        have lst1 : (s.heap.push (newSetO w)).get? l = some { cls := .type "list", dict := odict, data := .seq vs nl, slots := oslots } := Heap.get?_push_of_some _ hol
        have n1 := F.sub_list_set
        have n2 := F.sub_list_frozenset
        have n3 : (Value.type "list" == Value.type "dict") = false := by decide
        have isl1 : (s.heap.push (newSetO w)).IsList l vs := ⟨_, lst1, rfl, nl, rfl⟩
        unfold Builtin.«set.__init__» noKeywords Builtin.Frozenset.updateFrom
        generalize eP : pyIter = PI
        wp_walk
        subst eP
        refine wpAny_pyIter_list isl1 ?_
        refine wpAny_bind (wpAny_runValue ?_)
        have lS : l < s.heap.objs.size := Heap.lt_size hol
        have nh3 : A.in1.in1.in1.handled = none := by simp [nh]
        have szp : (s.heap.push (newSetO w)).objs.size = s.heap.objs.size + 1 := Heap.size_push ..
        have ne1 : l ≠ (s.heap.push (newSetO w)).objs.size := by
          rw [szp]; exact Nat.ne_of_lt (Nat.lt_succ_of_lt lS)
        have nf : s.heap.objs.size ∉ [(s.heap.push (newSetO w)).objs.size, l] := by
          rw [szp]
          simp only [List.mem_cons, List.mem_singleton, List.not_mem_nil, or_false, not_or]
          exact ⟨Nat.ne_of_lt (Nat.lt_succ_self _), Nat.ne_of_gt lS⟩
        have val : ∀ (i : Nat) (v : Value), vs[i]? = some v → ∃ k t, ks[i]? = some k ∧ v = .int k t := fun i v hv => by
          have hi : i < ks.length := by rw [← sz]; exact (Array.getElem?_eq_some_iff.mp hv).1
          obtain ⟨t, e⟩ := PyProof.Rows.IntsAre.int_at ia i v (by rw [Array.getElem?_toList]; exact hv)
          refine ⟨ks[i], t, List.getElem?_eq_getElem hi, ?_⟩
          rw [e, List.getD_eq_getElem?_getD, List.getElem?_eq_getElem hi] <;> rfl
        refine set_update_ints ((Walks.list nh3 _ l ne1 vs).toS) s.heap.objs.size nf ks sz few val (vs.size - 0) 0 _ (by omega) (Nat.zero_le _)
          ⟨⟨_, Heap.get?_push_size _ rfl, rfl, rfl⟩, (isl1.push _)⟩ ?hS0 ?hR
        case hS0 =>
          exact ⟨0, Nat.le_refl 0, setR_new_at (Heap.get?_push_of_some _ at0)⟩
        case hR =>
          intro s2 c2 hm hc2 hS2
          obtain ⟨h2, g2, d2, tk2, os2⟩ := s2
          have eg : g2 = s.gens := hm.gens
          have ed : d2 = s.drawn := hm.drawn
          have eo : os2 = s.os := hm.os
          subst eg; subst ed; subst eo
          show wpAny _ _ _ _ _ _
          refine wpAny_pure ?_
          show wpAny _ _ (ret Value.none) _ _ _
          rw [sz] at hc2
          refine wpAny_pure ⟨rfl, h2, tk2, c2, rfl, hS2, hc2, fun b o e => ?_⟩
          have b0 : b < s.heap.objs.size := Heap.lt_size e
          have b1 : b ≠ s.heap.objs.size := Nat.ne_of_lt b0
          have b2 : b ≠ (s.heap.push (newSetO w)).objs.size := by
            rw [szp]; exact Nat.ne_of_lt (Nat.lt_succ_of_lt b0)
          refine hm.heap b o ?_ (Heap.get?_push_of_some _ (Heap.get?_push_of_some _ e))
          simp only [List.mem_cons, List.mem_singleton, List.not_mem_nil, or_false, not_or]
          exact ⟨b1, b2⟩
      · cases r2 with
        | error e => exact hz2
        | ok fl2 =>
          cases fl2 with
          | ret r =>
            obtain ⟨rfl, h2, tk, n, rfl, hS2, hn2, hk2⟩ := hz2
            repeat (any_goals (first | assumption | wp_step))
            exact k _ _ _ hS2 hn2 hk2
          | _ => exact hz2.elim
    | _ => exact hz.elim
end
/-- set(xs) of a list of whole numbers -/
def rSetOfI (K : PySem.W.Frag) (w : World) : List V → Hp → VK → Prop := fun xs H Q => ∃ (l : Addr) (ks : List Int), xs = [V.ref l] ∧ SqL K H l (ks.map V.int) ∧ ks.length + 1 < scanBound ∧
  ∀ (a : Addr) (n : Nat), H a = none → n ≤ ks.length → Q (.ref a) (upd H a (SetO w a (fun j => decide (j ∈ ks)) n))
theorem cr_setOfI {X : Cx} (hc : X.calm = true) : CallR X (.type "set") (rSetOfI X.K X.w) := by
  intro pins s σ H xs us Q I r h
  obtain ⟨l, ks, rfl, hl, hf, q⟩ := h
  rw [Vals.ref1 r]
  obtain ⟨its, rv, pl, hz⟩ := I.list hl
  have hn : H s.heap.objs.size = none := I.hok.fresh (Nat.le_refl _)
  refine set_of_list (P := X.prog) (w := X.w) ks (I.ok.hd hc) pl.isList (by simpa using Vals.ints rv) hf fun h2 tk n R hle k => ?_
  exact ⟨.ref s.heap.objs.size, upd H s.heap.objs.size (SetO X.w s.heap.objs.size (fun j => decide (j ∈ ks)) n), I.laid (t' := tk) k (Nat.le_refl _) (setO_new R), rfl, q _ n hn hle⟩
end KN
/-! < of tuples of texts; _law_exact. -/
namespace KN
open PySem PySem.Spec PyProof.Rows L2
/-- < of rows, computed -/
def ltB : List Str → List Str → Bool
  | [], [] => false
  | [], _ :: _ => true
  | _ :: _, [] => false
  | x :: xs, y :: ys => if x = y then ltB xs ys else decide (tlt x y)
theorem ltB_iff : ∀ (xs ys : List Str), ltB xs ys = true ↔ rlt xs ys
  | [], [] => ⟨(fun h => by cases h), (fun h => by cases h)⟩
  | [], y :: ys => ⟨fun _ => .nil, fun _ => rfl⟩
  | x :: xs, [] => ⟨(fun h => by cases h), (fun h => by cases h)⟩
  | x :: xs, y :: ys => by
    have ih := ltB_iff xs ys
    unfold ltB
    by_cases e : x = y
    · subst e
      rw [if_pos rfl, ih]
      exact ⟨fun h => .cons h, fun h => by
        cases h with
        | cons h => exact h
        | rel h => exact absurd h (tlt_irrefl x)⟩
    · rw [if_neg e, decide_eq_true_eq]
      exact ⟨fun h => .rel h, fun h => by
        cases h with
        | cons h => exact absurd rfl e
        | rel h => exact h⟩
theorem lexAt_ltB (xs ys : List Str) : ∀ n i, min xs.length ys.length - i = n → i ≤ min xs.length ys.length →
    Ob.lexAt (fun j => decide (xs.getD j Str.empty = ys.getD j Str.empty)) (fun j => decide (tlt (xs.getD j Str.empty) (ys.getD j Str.empty))) (decide (xs.length < ys.length)) i n = ltB (xs.drop i) (ys.drop i)
  | 0, i, h, hi => by
    rw [Ob.lexAt_zero]
    have hm : i = min xs.length ys.length := by omega
    by_cases hx : xs.length ≤ i
    · rw [List.drop_eq_nil_of_le hx]
      by_cases hy : ys.length ≤ i
      · rw [List.drop_eq_nil_of_le hy, decide_eq_false (by omega)]; rfl
      · rw [List.drop_eq_getElem_cons (by omega : i < ys.length), decide_eq_true (by omega)]; rfl
    · have hy : ys.length ≤ i := by omega
      rw [List.drop_eq_nil_of_le hy, List.drop_eq_getElem_cons (by omega : i < xs.length), decide_eq_false (by omega)]; rfl
  | n + 1, i, h, hi => by
    have h1 : i < xs.length := by omega
    have h2 : i < ys.length := by omega
    have ih := lexAt_ltB xs ys n (i + 1) (by omega) (by omega)
    rw [Ob.lexAt_succ, ih, List.drop_eq_getElem_cons h1, List.drop_eq_getElem_cons h2]
    have e1 : xs.getD i Str.empty = xs[i] := by rw [List.getD_eq_getElem?_getD, List.getElem?_eq_getElem h1]; rfl
    have e2 : ys.getD i Str.empty = ys[i] := by rw [List.getD_eq_getElem?_getD, List.getElem?_eq_getElem h2]; rfl
    simp only [e1, e2]
    show _ = if xs[i] = ys[i] then _ else _
    by_cases e : xs[i] = ys[i]
    · rw [if_pos e, if_pos (decide_eq_true e)]
    · rw [if_neg e, if_neg (by rw [decide_eq_false e]; exact Bool.false_ne_true)]
def rLtTS (K : PySem.W.Frag) : R2 := fun x y H Q => ∃ (a b : Addr) (xs ys : List Str), x = .ref a ∧ y = .ref b ∧ SqT K H a (xs.map V.str) ∧ SqT K H b (ys.map V.str) ∧ Q (.bl (ltB xs ys)) H
theorem op_ltTS {X : Cx} (hu : X.A.units < cLine) : OpR X (compareOp .Lt) (rLtTS X.K) := by
  intro pins s σ H x y v u Q I rx ry h
  obtain ⟨a, b, xs, ys, rfl, rfl, ha, hb, q⟩ := h
  cases rx
  cases ry
  obtain ⟨us, r1, p1, _⟩ := I.tuple ha
  obtain ⟨vs, r2, p2, _⟩ := I.tuple hb
  have z1 : us.toArray.size = xs.length := by rw [List.size_toArray, ← r1.length, List.length_map]
  have z2 : vs.toArray.size = ys.length := by rw [List.size_toArray, ← r2.length, List.length_map]
  have g1 : ∀ j (hj : j < us.toArray.size), ∃ t, us.toArray[j] = .str (xs.getD j Str.empty) t := fun j hj =>
    SS.strs_at (strsAre_of r1) j _ (by simp at hj; simp [hj])
  have g2 : ∀ j (hj : j < vs.toArray.size), ∃ t, vs.toArray[j] = .str (ys.getD j Str.empty) t := fun j hj =>
    SS.strs_at (strsAre_of r2) j _ (by simp at hj; simp [hj])
  have R := Ob.RcOp.tuples_lt (A := X.A) (s := s) (e := fun j => decide (xs.getD j Str.empty = ys.getD j Str.empty)) (r := fun j => decide (tlt (xs.getD j Str.empty) (ys.getD j Str.empty))) p1 p2 hu
    (fun j h1 h2 => by
      obtain ⟨t, e⟩ := g1 j h1
      obtain ⟨t', e'⟩ := g2 j h2
      rw [e, e']
      have z : (xs.getD j Str.empty == ys.getD j Str.empty) = decide (xs.getD j Str.empty = ys.getD j Str.empty) := by
        by_cases q : xs.getD j Str.empty = ys.getD j Str.empty
        · rw [decide_eq_true q]; exact beq_iff_eq.mpr q
        · rw [decide_eq_false q]; exact beq_eq_false_iff_ne.mpr q
      show SeqAt.EqAt _ _ _ _ (decide (xs.getD j Str.empty = ys.getD j Str.empty))
      rw [← z]
      exact SeqAt.EqAt.str_str _ _ _ _)
    (fun j h1 h2 _ => by
      obtain ⟨t, e⟩ := g1 j h1
      obtain ⟨t', e'⟩ := g2 j h2
      rw [e, e']
      exact fun _ _ _ _ h => PyProof.Rows.lt_str h)
  rw [z1, z2, lexAt_ltB xs ys (min xs.length ys.length) 0 (Nat.sub_zero _) (Nat.zero_le _)] at R
  exact R X.prog X.w X.xe (EP X pins σ Q) ⟨.bl _, H, I, rfl, q⟩
abbrev sExact : Stmt := top 59
abbrev nExact : List Str := ["_law_told", "_law_due", "_law_k"]
theorem sc59 : FnScope nExact ["_law_told", "_law_due"] (defScope sExact) := ⟨rfl, rfl, rfl, by decide +kernel, rfl, by decide +kernel, by decide +kernel⟩
/-- the same data, n deep -/
def SameD : Nat → Hp → V → V → Prop
  | 0, _, x, y => ∃ s : Str, x = .str s ∧ y = .str s
  | n + 1, H, x, y => ∃ (a b : Addr) (xs ys : List V), x = .ref a ∧ y = .ref b ∧ ((H a = some (.lst xs) ∧ H b = some (.lst ys)) ∨ (H a = some (.tup xs) ∧ H b = some (.tup ys))) ∧ xs.length = ys.length ∧ xs.length ≤ 1000 ∧
    ∀ (i : Nat) (x' y' : V), xs[i]? = some x' → ys[i]? = some y' → SameD n H x' y'
theorem SameD.same {H H' : Hp} (s : Same H H') : ∀ {n : Nat} {x y : V}, SameD n H x y → SameD n H' x y
  | 0, _, _, h => h
  | n + 1, _, _, ⟨a, b, xs, ys, h1, h2, h3, h4, h5, h6⟩ => ⟨a, b, xs, ys, h1, h2, h3.imp (fun h => ⟨s _ _ h.1, s _ _ h.2⟩) (fun h => ⟨s _ _ h.1, s _ _ h.2⟩), h4, h5, fun i x' y' e1 e2 => SameD.same s (h6 i x' y' e1 e2)⟩
def spExact (n : Nat) : Sp := fun vs H Q _ => ∃ x y, vs = [x, y] ∧ SameD n H x y ∧ ∀ H', Same H H' → Q (.bl true) H'
section
variable {P : Program} {w : World} {K : PySem.W.Frag} {mg : Str → Option Value} {base : Heap}
theorem ok_exact0 (B : Bx mg) {f : Addr} {fd : FuncData} (F : Fun K "_law_exact" "_law_exact" sExact f fd) : FnOk P w K mg base CX0 1 f fd ["_law_told", "_law_due"] (spExact 0) := by
  refine F.ok sc59 (fun vs H Q E h => ?_) (fun cdv A outer s H vs Q E hr h => ?_)
  · obtain ⟨_, _, rfl, _⟩ := h
    rfl
  · obtain ⟨_, _, rfl, ⟨x, rfl, rfl⟩, q⟩ := h
    refine ⟨_, pss_cons (ps_if (pw_or (pt_val (pe_callB call_isi (by rfl) B.isinst boot_isinstance (pa_cons (pv 1) (pa_cons (pe_bltn (v := .ty "list") (by rfl) B.list boot_list rfl) pa_nil)))) (pw_or1 (pt_val (pe_callB call_isi (by rfl) B.isinst boot_isinstance (pa_cons (pv 1) (pa_cons (pe_bltn (v := .ty "tuple") (by rfl) B.tuple boot_tuple rfl) pa_nil)))))).pt pss_never pss_nil)
      (pss_cons (ps_if (pt_cmp (pc_isN (pv 1))) pss_never pss_nil)
      (pss_cons (ps_if (pt_val (pe_callB call_isi (by rfl) B.isinst boot_isinstance (pa_cons (pv 1) (pa_cons (pe_bltn (v := .ty "bool") (by rfl) B.bool boot_bool rfl) pa_nil)))) pss_never pss_nil)
      (pss_cons (ps_if (pt_val (pe_callB call_isi (by rfl) B.isinst boot_isinstance (pa_cons (pv 1) (pa_cons (pe_bltn (v := .ty "int") (by rfl) B.int boot_int rfl) pa_nil)))) pss_never pss_nil)
      (pss_one (ps_ret (pe_and (pe_callB call_isi (by rfl) B.isinst boot_isinstance (pa_cons (pv 0) (pa_cons (pe_bltn (v := .ty "str") (by rfl) B.str boot_str rfl) pa_nil))) (pe_one (pe_cmpR op_eq (pv 0) (pv 1) (nomark _))))))))), ?_⟩
    refine ⟨_, rfl, _, _, _, _, false, rfl, .ty _, .base (.str x), by rfl, _, rfl, iteF ?_⟩
    refine ⟨_, rfl, _, _, _, _, false, rfl, .ty _, .base (.str x), by rfl, _, rfl, iteF ?_⟩
    refine ⟨_, rfl, false, rfl, iteF ?_⟩
    refine ⟨_, rfl, _, _, _, _, false, rfl, .ty _, .base (.str x), by rfl, _, rfl, iteF ?_⟩
    refine ⟨_, rfl, _, _, _, _, false, rfl, .ty _, .base (.str x), by rfl, _, rfl, iteF ?_⟩
    refine ⟨_, rfl, _, _, _, _, true, rfl, .ty _, .base (.str x), by rfl, _, rfl, iteT ?_⟩
    refine ⟨_, rfl, _, rfl, rfl, ?_⟩
    show Q (.bl (decide (V.str x = V.str x))) H
    rw [decide_eq_true rfl]
    exact q H same_rfl
theorem ok_exactS (B : Bx mg) {n k : Nat} {f : Addr} {fd : FuncData} (F : Fun K "_law_exact" "_law_exact" sExact f fd) (b : Binds K fd ["_law_told", "_law_due"] []) (m : mg "_law_exact" = some (.ref f)) (kp : PySem.W.keepIn K (.ref f) = true)
    (G : FnOk P w K mg base CX0 k f fd ["_law_told", "_law_due"] (spExact n)) : FnOk P w K mg base CX0 (k + 1) f fd ["_law_told", "_law_due"] (spExact (n + 1)) := by
  refine F.ok sc59 (fun vs H Q E h => ?_) (fun cdv A outer s H vs Q E hr h => ?_)
  · obtain ⟨_, _, rfl, _⟩ := h
    rfl
  · obtain ⟨_, _, rfl, ⟨p, r, xs, ys, rfl, rfl, hk, hl, hle, hit⟩, q⟩ := h
    refine ⟨_, pss_cons (ps_if (pw_or (pt_val (pe_callB call_isi (by rfl) B.isinst boot_isinstance (pa_cons (pv 1) (pa_cons (pe_bltn (v := .ty "list") (by rfl) B.list boot_list rfl) pa_nil)))) (pw_or1 (pt_val (pe_callB call_isi (by rfl) B.isinst boot_isinstance (pa_cons (pv 1) (pa_cons (pe_bltn (v := .ty "tuple") (by rfl) B.tuple boot_tuple rfl) pa_nil)))))).pt
        (pss_cons (ps_if (pw_and (pt_val (pe_callB call_isi (by rfl) B.isinst boot_isinstance (pa_cons (pv 1) (pa_cons (pe_bltn (v := .ty "list") (by rfl) B.list boot_list rfl) pa_nil)))) (pw_and1 (pt_not (pt_val (pe_callB call_isi (by rfl) B.isinst boot_isinstance (pa_cons (pv 0) (pa_cons (pe_bltn (v := .ty "list") (by rfl) B.list boot_list rfl) pa_nil))))))).pt pss_never pss_nil)
        (pss_cons (ps_if (pw_and (pt_val (pe_callB call_isi (by rfl) B.isinst boot_isinstance (pa_cons (pv 1) (pa_cons (pe_bltn (v := .ty "tuple") (by rfl) B.tuple boot_tuple rfl) pa_nil)))) (pw_and1 (pt_not (pt_val (pe_callB call_isi (by rfl) B.isinst boot_isinstance (pa_cons (pv 0) (pa_cons (pe_bltn (v := .ty "tuple") (by rfl) B.tuple boot_tuple rfl) pa_nil))))))).pt pss_never pss_nil)
        (pss_cons (ps_if (pt_cmpR op_ne (pe_callB call_len_seq (by rfl) B.len boot_len (pa_cons (pv 0) pa_nil)) (pe_callB call_len_seq (by rfl) B.len boot_len (pa_cons (pv 1) pa_nil)) (nomark _)) pss_never pss_nil)
        (pss_cons (ps_for PassesOwn.never rfl (pi_range1 rfl B.range (pa_cons (pe_callB call_len_seq (by rfl) B.len boot_len (pa_cons (pv 1) pa_nil)) pa_nil)) (pg_name (i := 2) sc59.nd rfl (Or.inl rfl))
          (pss_one (ps_if (pt_not (pt_val (pe_call G hr (by rfl) m kp b .nil pass0 (pa_cons (pe_ix ix_seq (pv 0) (pv 2) (fun _ _ => rfl)) (pa_cons (pe_ix ix_seq (pv 1) (pv 2) (fun _ _ => rfl)) pa_nil))))) pss_never pss_nil)))
        (pss_one (ps_ret pe_bl)))))) pss_nil)
      pss_never, ?_⟩
    have ne0 : (!decide (V.int ((xs.length : Nat) : Int) = V.int ((ys.length : Nat) : Int))) = false := by rw [hl, decide_eq_true rfl]; rfl
    rcases hk with ⟨hp, hr'⟩ | ⟨hp, hr'⟩
    · refine ⟨_, rfl, _, _, _, _, true, rfl, .ty _, .base (.lst hr'), by rfl, _, rfl, iteT ?_⟩
      refine ⟨_, rfl, _, _, _, _, true, rfl, .ty _, .base (.lst hr'), by rfl, _, rfl, iteT ?_⟩
      refine ⟨_, rfl, _, _, _, _, true, rfl, .ty _, .base (.lst hp), by rfl, _, rfl, iteF ?_⟩
      refine ⟨_, rfl, _, _, _, _, false, rfl, .ty _, .base (.lst hr'), by rfl, _, rfl, iteF ?_⟩
      refine ⟨_, rfl, p, _, rfl, .inl (SqL.of hp), _, rfl, r, _, rfl, .inl (SqL.of hr'), rfl, _, rfl, ?_⟩
      show if (!decide (V.int ((xs.length : Nat) : Int) = V.int ((ys.length : Nat) : Int))) = true then _ else _
      rw [ne0]
      refine iteF ?_
      refine ⟨_, rfl, r, _, rfl, .inl (SqL.of hr'), ((ys.length : Nat) : Int), rfl, by omega, by omega, for_range (n := ((ys.length : Nat) : Int).toNat) (fun i σ H' => (∃ v, σ = [some (.ref p), some (.ref r), v]) ∧ Same H H') ⟨⟨_, rfl⟩, same_rfl⟩ ?_ ?_⟩
      · rintro i σ H' hi ⟨⟨v, rfl⟩, s'⟩
        have hi : i < ys.length := by omega
        have hix : i < xs.length := by omega
        have ax : atI xs ((0 : Int) + ((i : Nat) : Int)) = some xs[i] := by rw [Int.zero_add]; exact atI_nat (List.getElem?_eq_getElem hix)
        have ay : atI ys ((0 : Int) + ((i : Nat) : Int)) = some ys[i] := by rw [Int.zero_add]; exact atI_nat (List.getElem?_eq_getElem hi)
        refine ⟨_, rfl, _, rfl, .inl ⟨p, _, _, _, rfl, rfl, SqL.of (s' _ _ hp), ax, _, rfl, _, rfl, .inl ⟨r, _, _, _, rfl, rfl, SqL.of (s' _ _ hr'), ay, ?_⟩⟩⟩
        exact ⟨_, _, rfl, (hit i _ _ (List.getElem?_eq_getElem hix) (List.getElem?_eq_getElem hi)).same s', fun H2 s2 => ⟨_, rfl, iteF ⟨⟨_, rfl⟩, s'.trans s2⟩⟩⟩
      · rintro σ H' ⟨⟨v, rfl⟩, s'⟩
        exact q H' s'
    · refine ⟨_, rfl, _, _, _, _, false, rfl, .ty _, .base (.tup hr'), by rfl, _, rfl, iteF ?_⟩
      refine ⟨_, rfl, _, _, _, _, true, rfl, .ty _, .base (.tup hr'), by rfl, _, rfl, iteT ?_⟩
      refine ⟨_, rfl, _, _, _, _, false, rfl, .ty _, .base (.tup hr'), by rfl, _, rfl, iteF ?_⟩
      refine ⟨_, rfl, _, _, _, _, true, rfl, .ty _, .base (.tup hr'), by rfl, _, rfl, iteT ?_⟩
      refine ⟨_, rfl, _, _, _, _, true, rfl, .ty _, .base (.tup hp), by rfl, _, rfl, iteF ?_⟩
      refine ⟨_, rfl, p, _, rfl, .inr (SqT.of hp), _, rfl, r, _, rfl, .inr (SqT.of hr'), rfl, _, rfl, ?_⟩
      show if (!decide (V.int ((xs.length : Nat) : Int) = V.int ((ys.length : Nat) : Int))) = true then _ else _
      rw [ne0]
      refine iteF ?_
      refine ⟨_, rfl, r, _, rfl, .inr (SqT.of hr'), ((ys.length : Nat) : Int), rfl, by omega, by omega, for_range (n := ((ys.length : Nat) : Int).toNat) (fun i σ H' => (∃ v, σ = [some (.ref p), some (.ref r), v]) ∧ Same H H') ⟨⟨_, rfl⟩, same_rfl⟩ ?_ ?_⟩
      · rintro i σ H' hi ⟨⟨v, rfl⟩, s'⟩
        have hi : i < ys.length := by omega
        have hix : i < xs.length := by omega
        have ax : atI xs ((0 : Int) + ((i : Nat) : Int)) = some xs[i] := by rw [Int.zero_add]; exact atI_nat (List.getElem?_eq_getElem hix)
        have ay : atI ys ((0 : Int) + ((i : Nat) : Int)) = some ys[i] := by rw [Int.zero_add]; exact atI_nat (List.getElem?_eq_getElem hi)
        refine ⟨_, rfl, _, rfl, .inr (.inl ⟨p, _, _, _, rfl, rfl, SqT.of (s' _ _ hp), ax, _, rfl, _, rfl, .inr (.inl ⟨r, _, _, _, rfl, rfl, SqT.of (s' _ _ hr'), ay, ?_⟩)⟩)⟩
        exact ⟨_, _, rfl, (hit i _ _ (List.getElem?_eq_getElem hix) (List.getElem?_eq_getElem hi)).same s', fun H2 s2 => ⟨_, rfl, iteF ⟨⟨_, rfl⟩, s'.trans s2⟩⟩⟩
      · rintro σ H' ⟨⟨v, rfl⟩, s'⟩
        exact q H' s'
end
end KN
/-! _law_closed, _law_behind. -/
namespace KN
open PySem PySem.Spec PyProof.Rows L2
theorem inV_int (x : Int) (ws : List Int) : inV (.int x) (ws.map V.int) = decide (x ∈ ws) := by
  unfold inV
  rw [List.any_map, Bool.eq_iff_iff, List.any_eq_true, decide_eq_true_iff]
  constructor
  · rintro ⟨y, hy, h⟩
    have h : (y == x) = true := h
    exact (beq_iff_eq.mp h) ▸ hy
  · intro h
    exact ⟨x, h, show (x == x) = true from beq_self_eq_true x⟩
theorem flat_ints (ws : List Int) : (ws.map V.int).all flatV = true := by
  rw [List.all_map]
  exact List.all_eq_true.mpr fun _ _ => rfl
/-- steps whose end is not found yet -/
def openN (st : List Step) (F : List Int) : Nat := (st.filter fun e => decide (e.2.2 ∉ F)).length
theorem filter_lt {α : Type} {p p' : α → Bool} : ∀ {l : List α}, (∀ a ∈ l, p' a = true → p a = true) → (∃ a ∈ l, p a = true ∧ p' a = false) → (l.filter p').length + 1 ≤ (l.filter p).length
  | [], _, ⟨a, h, _⟩ => by cases h
  | a :: l, hm, hx => by
    have le : ∀ {l : List α}, (∀ a ∈ l, p' a = true → p a = true) → (l.filter p').length ≤ (l.filter p).length := fun {l} => by
      induction l with
      | nil => intro _; exact Nat.le_refl _
      | cons b l ih =>
        intro h
        have ih := ih fun a ha => h a (List.mem_cons_of_mem _ ha)
        by_cases q : p' b = true
        · rw [List.filter_cons_of_pos q, List.filter_cons_of_pos (h b List.mem_cons_self q), List.length_cons, List.length_cons]; omega
        · rw [List.filter_cons_of_neg q]
          by_cases q2 : p b = true
          · rw [List.filter_cons_of_pos q2, List.length_cons]; omega
          · rw [List.filter_cons_of_neg q2]; exact ih
    have hm' : ∀ a ∈ l, p' a = true → p a = true := fun b hb => hm b (List.mem_cons_of_mem _ hb)
    by_cases q : p' a = true
    · have q2 := hm a List.mem_cons_self q
      rw [List.filter_cons_of_pos q, List.filter_cons_of_pos q2, List.length_cons, List.length_cons]
      have ih := filter_lt (l := l) hm' (by
        obtain ⟨b, hb, h1, h2⟩ := hx
        rcases List.mem_cons.mp hb with z | z
        · subst z; rw [q] at h2; cases h2
        · exact ⟨b, z, h1, h2⟩)
      omega
    · rw [List.filter_cons_of_neg q]
      by_cases q2 : p a = true
      · rw [List.filter_cons_of_pos q2, List.length_cons]
        have := le hm'
        omega
      · rw [List.filter_cons_of_neg q2]
        refine filter_lt hm' ?_
        obtain ⟨b, hb, h1, h2⟩ := hx
        rcases List.mem_cons.mp hb with z | z
        · subst z; exact absurd h1 q2
        · exact ⟨b, z, h1, h2⟩
theorem open_lt {st : List Step} {F : List Int} {e : Step} (he : e ∈ st) (hn : e.2.2 ∉ F) : openN st (F ++ [e.2.2]) + 1 ≤ openN st F := by
  refine filter_lt (fun f _ h => ?_) ⟨e, he, decide_eq_true hn, decide_eq_false fun z => z (List.mem_append_right _ List.mem_cons_self)⟩
  have h := of_decide_eq_true h
  exact decide_eq_true fun z => h (List.mem_append_left _ z)
def ClosedF (st : List Step) (T : List (Str × Str)) (F : List Int) : Prop := ∀ e ∈ st, e.1 ∈ F → see T e.2.1 = none → e.2.2 ∈ F
abbrev sClosed : Stmt := top 61
abbrev nClosed : List Str := ["_law_states", "_law_steps", "_law_sights_here", "_law_found", "_law_turn", "_law_step"]
theorem sc61 : FnScope nClosed ["_law_states", "_law_steps", "_law_sights_here"] (defScope sClosed) := ⟨rfl, rfl, rfl, by decide +kernel, rfl, by decide +kernel, by decide +kernel⟩
/-- the law's steps and a table of sights, as the helpers get them -/
structure Sys (H : Hp) (labs : List Int) (sa ta : Addr) (ads : List Addr) (st : List Step) (T : List (Str × Str)) : Prop where
  hs : H sa = some (.lst (ads.map .ref))
  at_ : StepsAt H ads st
  ht : H ta = some (.dK (tabV T))
  l7 : labs.length ≤ 7
  sm : ∀ q ∈ labs, 0 ≤ q ∧ q < 100
  src : ∀ e ∈ st, e.1 ∈ labs
  tgt : ∀ e ∈ st, e.2.2 ∈ labs
  le : st.length ≤ 14
theorem Sys.same {H H' : Hp} {labs : List Int} {sa ta : Addr} {ads : List Addr} {st : List Step} {T : List (Str × Str)} (x : Sys H labs sa ta ads st T) (s : Same H H') : Sys H' labs sa ta ads st T :=
  ⟨s _ _ x.hs, x.at_.same s, s _ _ x.ht, x.l7, x.sm, x.src, x.tgt, x.le⟩
def spClosed : Sp := fun vs H Q _ => ∃ (a sa ta : Addr) (labs : List Int) (ads : List Addr) (st : List Step) (T : List (Str × Str)) (S : List Int), vs = [.ref a, .ref sa, .ref ta] ∧ H a = some (.lst (S.map .int)) ∧ Sys H labs sa ta ads st T ∧ (∀ q ∈ S, q ∈ labs) ∧ S.length ≤ 50 ∧
  ∀ (H' : Hp) (p : Addr), Same H H' → H p = none → H' p = some (.lst ((clo st T S).map .int)) → Q (.ref p) H'
section
variable {P : Program} {w : World} {K : PySem.W.Frag} {mg : Str → Option Value} {base : Heap}
theorem ur_labs {labs : List Int} {st : List Step} {T : List (Str × Str)} {S : Int → Prop} (h : ∀ q, S q → q ∈ labs) (ht : ∀ e ∈ st, e.2.2 ∈ labs) {q : Int} (u : UR st T S q) : q ∈ labs := by
  cases u with
  | base h' => exact h _ h'
  | step _ v =>
    obtain ⟨e, he, _, rfl, _⟩ := v
    exact ht e he
theorem ok_closed (B : Bx mg) {f : Addr} {fd : FuncData} (F : Fun K "_law_closed" "_law_closed" sClosed f fd) : FnOk P w K mg base CX0 1 f fd ["_law_states", "_law_steps", "_law_sights_here"] spClosed := by
  refine F.ok sc61 (fun vs H Q E h => ?_) (fun cdv A outer s H vs Q E hr h => ?_)
  · obtain ⟨_, _, _, _, _, _, _, _, rfl, _⟩ := h
    rfl
  · obtain ⟨a, sa, ta, labs, ads, st, T, S, rfl, ha, Y, hS, hSl, q⟩ := h
    have hu := hu_of hr
    refine ⟨_, pss_cons (ps_set (i := 3) sc61.nd rfl (Or.inl rfl) (pe_callB (L2.cr_sortedSet rfl) (by rfl) B.sorted (by rfl) (pa_cons (pe_callTy (cr_setOfI rfl) (by rfl) B.set (by rfl) (pa_cons (pv 0) pa_nil)) pa_nil)))
      (pss_cons (ps_for PassesOwn.never rfl (pi_range1 rfl B.range (pa_cons (pe_callB call_len_seq (by rfl) B.len boot_len (pa_cons (pv 1) pa_nil)) pa_nil)) (pg_name (i := 4) sc61.nd rfl (Or.inl rfl))
        (pss_one (ps_for PassesOwn.never rfl (pi_list (pv 1)) (pg_name (i := 5) sc61.nd rfl (Or.inl rfl))
          (pss_one (ps_if (pw_and (pt_cmpR op_in_seq (pe_ix ix_tup (pv 5) pe_int (fun _ _ => rfl)) (pv 3) (by rfl)) (pw_and (pt_cmp (pc_dnotin hu (pe_ix ix_tup (pv 5) pe_int (fun _ _ => rfl)) (pv 2)) (by rfl)) (pw_and1 (pt_cmpR op_notIn_seq (pe_ix ix_tup (pv 5) pe_int (fun _ _ => rfl)) (pv 3) (by rfl))))).pt
            (pss_one (ps_expr (pe_bm PySem.F.plainAttrs_list PySem.F.slot_list_append PySem.F.type_list_append mt_append (pv 3) (pa_cons (pe_ix ix_tup (pv 5) pe_int (fun _ _ => rfl)) pa_nil)))) pss_nil)))))
      (pss_one (ps_ret (pe_callB cr_sorted (by rfl) B.sorted (by rfl) (pa_cons (pv 3) pa_nil))))), ?_⟩
    have big : (60 : Nat) < sizeLine := by decide
    have al : ads.length = st.length := Y.at_.len
    have h14 := Y.le
    refine ⟨_, rfl, a, S, rfl, SqL.of ha, by show _ < scanBound; have : (100 : Nat) < scanBound := by decide
                                             omega, fun p0 n0 hp0 hn0 => ?_⟩
    have s0 := Same.upd (o := SetO w p0 (fun j => decide (j ∈ S)) n0) (same_rfl (H := H)) hp0
    refine ⟨p0, (fun j => decide (j ∈ S)), n0, rfl, upd_same, by omega, fun F0 fa hF0 hm0 hl0 hfa => ?_⟩
    have hm0 : ∀ k, k ∈ F0 ↔ k ∈ S := fun k => (hm0 k).trans decide_eq_true_iff
    have nd0 : F0.Nodup := hF0.imp fun h e => by omega
    have s1 := s0.upd (o := HO.lst (F0.map V.int)) (s0.free hfa)
    have hfa1 : upd (upd H p0 (SetO w p0 (fun j => decide (j ∈ S)) n0)) fa (.lst (F0.map V.int)) fa = some (.lst (F0.map V.int)) := upd_same
    have hfa0 : H fa = none := s0.free hfa
    have keep : ∀ {H' : Hp} {o : HO}, Same H H' → Same H (upd H' fa o) := fun s b o e => by
      rw [upd_ne (ne_of_none e hfa0)]; exact s _ _ e
    have few : ∀ {F : List Int}, F.Nodup → (∀ q ∈ F, UR st T (· ∈ S) q) → F.length ≤ 7 := fun nd h => Nat.le_trans (nd_le nd fun q hq => ur_labs hS Y.tgt (h q hq)) Y.l7
    refine ⟨_, rfl, sa, _, rfl, .inl (SqL.of (s1 _ _ Y.hs)), (((ads.map V.ref).length : Nat) : Int), rfl, by omega, by rw [List.length_map]; omega, for_range (n := (((ads.map V.ref).length : Nat) : Int).toNat) (fun i σ H' => ∃ (v4 v5 : Option V) (F : List Int), σ = [some (.ref a), some (.ref sa), some (.ref ta), some (.ref fa), v4, v5] ∧ Same H H' ∧ H' fa = some (.lst (F.map .int)) ∧ F.Nodup ∧ (∀ q ∈ F, UR st T (· ∈ S) q) ∧ (∀ q ∈ S, q ∈ F) ∧ (ClosedF st T F ∨ openN st F + i ≤ st.length))
      ⟨_, _, F0, rfl, s1, hfa1, nd0, fun q hq => .base ((hm0 q).mp hq), fun q hq => (hm0 q).mpr hq, .inr (List.length_filter_le _ _)⟩ ?_ ?_⟩
    · rintro i σ H' hi ⟨v4, v5, F0, rfl, s', hf', nd0, snd0, bs0, cl0⟩
      refine ⟨_, rfl, sa, rfl, ⟨_, SqL.of (s' _ _ Y.hs)⟩, for_list (xs := ads.map .ref) (fun j σ H' => ∃ (v5 : Option V) (F : List Int), σ = [some (.ref a), some (.ref sa), some (.ref ta), some (.ref fa), some (.int (0 + (i : Nat))), v5] ∧ Same H H' ∧ H' fa = some (.lst (F.map .int)) ∧ F.Nodup ∧ (∀ q ∈ F, UR st T (· ∈ S) q) ∧ (∀ q ∈ S, q ∈ F) ∧ ((F = F0 ∧ ∀ e ∈ st.take j, e.1 ∈ F0 → see T e.2.1 = none → e.2.2 ∈ F0) ∨ (¬ ClosedF st T F0 ∧ openN st F + 1 ≤ openN st F0)))
        ⟨_, F0, rfl, s', hf', nd0, snd0, bs0, .inl ⟨rfl, fun e h => by simp at h⟩⟩ (fun j σ H' _ ⟨_, _, _, s', _⟩ => SqL.of (s' _ _ Y.hs)) ?_ ?_⟩
      · rintro j x σ H2 hx ⟨v5, F, rfl, s2, hf2, nd2, snd2, bs2, alt⟩
        obtain ⟨b, hb, rfl⟩ : ∃ b, ads[j]? = some b ∧ V.ref b = x := by
          rw [List.getElem?_map] at hx
          cases e : ads[j]? with
          | none => rw [e] at hx; cases hx
          | some b => rw [e] at hx; exact ⟨b, rfl, Option.some.inj hx⟩
        have hj : j < st.length := by
          have := (List.getElem?_eq_some_iff.mp hb).1
          omega
        have he : st[j]? = some st[j] := List.getElem?_eq_getElem hj
        have hm : st[j] ∈ st := List.getElem_mem hj
        have hbt := s2 _ _ (Y.at_.at_ j b _ hb he)
        have hta := s2 _ _ Y.ht
        have skip : (st[j].1 ∈ F → see T st[j].2.1 = none → st[j].2.2 ∈ F) → ∃ (v5 : Option V) (F' : List Int), [some (V.ref a), some (.ref sa), some (.ref ta), some (.ref fa), some (.int (0 + (i : Nat))), some (V.ref b)] = [some (.ref a), some (.ref sa), some (.ref ta), some (.ref fa), some (.int (0 + (i : Nat))), v5] ∧ Same H H2 ∧ H2 fa = some (.lst (F'.map .int)) ∧ F'.Nodup ∧ (∀ q ∈ F', UR st T (· ∈ S) q) ∧ (∀ q ∈ S, q ∈ F') ∧ ((F' = F0 ∧ ∀ e ∈ st.take (j + 1), e.1 ∈ F0 → see T e.2.1 = none → e.2.2 ∈ F0) ∨ (¬ ClosedF st T F0 ∧ openN st F' + 1 ≤ openN st F0)) := fun h => by
          refine ⟨_, F, rfl, s2, hf2, nd2, snd2, bs2, alt.imp (fun ⟨e1, e2⟩ => ⟨e1, fun e hm' => ?_⟩) id⟩
          rw [List.take_add_one, he] at hm'
          rcases List.mem_append.mp hm' with z | z
          · exact e2 e z
          · rw [Option.toList_some, List.mem_singleton] at z
            rw [z, ← e1]
            exact h
        refine ⟨_, rfl, b, _, _, _, rfl, rfl, SqT.of hbt, atI_nat (j := 0) rfl, _, rfl, fa, _, rfl, .inl (SqL.of hf2), rfl, flat_ints F, _, rfl, ?_⟩
        show if inV (V.int st[j].1) (F.map V.int) = true then _ else _
        rw [inV_int]
        refine ite2 (fun h1 => ?_) (fun h1 => skip fun z => absurd (decide_eq_true z) h1)
        have h1 := of_decide_eq_true h1
        refine ⟨_, rfl, b, _, _, _, rfl, rfl, SqT.of hbt, atI_nat (j := 1) rfl, _, rfl, ta, _, rfl, DGet.k (k := Sum.inr st[j].2.1) hta, _, rfl, ?_⟩
        rw [valV_see]
        cases hsee : see T st[j].2.1 with
        | some y => exact iteF (skip fun _ z => by rw [hsee] at z; cases z)
        | none =>
          refine iteT ?_
          refine ⟨_, rfl, b, _, _, _, rfl, rfl, SqT.of hbt, atI_nat (j := 2) rfl, _, rfl, fa, _, rfl, .inl (SqL.of hf2), rfl, flat_ints F, _, rfl, ?_⟩
          show if (!inV (V.int st[j].2.2) (F.map V.int)) = true then _ else _
          rw [inV_int]
          by_cases h3 : st[j].2.2 ∈ F
          · rw [decide_eq_true h3]
            exact iteF (skip fun _ _ => h3)
          · rw [decide_eq_false h3]
            refine iteT ?_
            have fl := few nd2 snd2
            refine ⟨_, rfl, .inl ⟨rfl, _, SqL.of hf2⟩, _, rfl, b, _, _, _, rfl, rfl, SqT.of hbt, atI_nat (j := 2) rfl, fa, _, _, rfl, rfl, hf2, by rw [List.length_map]; omega, ?_⟩
            refine ⟨_, F ++ [st[j].2.2], rfl, keep s2, by rw [upd_same, List.map_append]; rfl, List.nodup_append.mpr ⟨nd2, by simp, fun x hx y hy => by
              rw [List.mem_singleton.mp hy]
              exact fun z => h3 (z ▸ hx)⟩, fun z hz => ?_, fun z hz => List.mem_append_left _ (bs2 z hz), .inr ?_⟩
            · rcases List.mem_append.mp hz with z | z
              · exact snd2 _ z
              · rw [List.mem_singleton.mp z]
                exact .step (snd2 _ h1) ⟨st[j], hm, rfl, rfl, hsee⟩
            · have lt := open_lt hm h3
              rcases alt with ⟨e1, _⟩ | ⟨e1, e2⟩
              · subst e1
                exact ⟨fun z => h3 (z _ hm h1 hsee), lt⟩
              · exact ⟨e1, by omega⟩
      · rintro σ H2 ⟨v5, F, rfl, s2, hf2, nd2, snd2, bs2, alt⟩
        refine ⟨_, _, F, rfl, s2, hf2, nd2, snd2, bs2, ?_⟩
        rcases alt with ⟨e1, e2⟩ | ⟨e1, e2⟩
        · rw [List.length_map, al, List.take_length] at e2
          subst e1
          exact .inl e2
        · rcases cl0 with c | c
          · exact absurd c e1
          · exact .inr (by omega)
    · rintro σ H' ⟨v4, v5, F, rfl, s', hf', nd', snd', bs', cl'⟩
      have fl := few nd' snd'
      refine ⟨_, rfl, fa, F, rfl, SqL.of hf', by omega, fun ns p hpm hle hp => ?_⟩
      have hcl : ClosedF st T F := by
        rcases cl' with c | c
        · exact c
        · rw [Int.toNat_natCast, List.length_map, al] at c
          have c0 : openN st F = 0 := by omega
          have := List.filter_eq_nil_iff.mp (List.length_eq_zero_iff.mp c0)
          intro e he _ _
          by_cases z : e.2.2 ∈ F
          · exact z
          · exact absurd (decide_eq_true z) (this e he)
      have hsm : Small st := fun e he => ⟨Y.sm _ (Y.src e he), Y.sm _ (Y.tgt e he)⟩
      have e := clo_of hsm (fun q hq => Y.sm _ (hS q hq)) snd' bs' (fun k hk t ⟨e, he, h1, h2, h3⟩ => h2 ▸ hcl e he (h1 ▸ hk) h3) hpm nd' hle
      rw [← e] at q
      exact q _ p (s'.upd (s'.free hp)) (s'.free hp) upd_same
end
end KN
/-! _law_behind, _law_able. -/
namespace KN
open PySem PySem.Spec PyProof.Rows L2
abbrev sBehind : Stmt := top 62
abbrev nBehind : List Str := ["_law_states", "_law_steps", "_law_sights_here", "_law_sight", "_law_near", "_law_step", "_law_ends"]
theorem sc62 : FnScope nBehind ["_law_states", "_law_steps", "_law_sights_here", "_law_sight"] (defScope sBehind) := ⟨rfl, rfl, rfl, by decide +kernel, rfl, by decide +kernel, by decide +kernel⟩
def spBehind : Sp := fun vs H Q _ => ∃ (a sa ta : Addr) (x : Str) (labs : List Int) (ads : List Addr) (st : List Step) (T : List (Str × Str)) (S : List Int), vs = [.ref a, .ref sa, .ref ta, .str x] ∧ H a = some (.lst (S.map .int)) ∧ Sys H labs sa ta ads st T ∧
  ∀ (H' : Hp) (p : Addr) (E : List Int), (∀ t, t ∈ E ↔ ∃ e ∈ st, e.1 ∈ S ∧ e.2.2 = t ∧ see T e.2.1 = some x) → Same H H' → H p = none → H' p = some (.lst ((clo st T E).map .int)) → Q (.ref p) H'
abbrev sLAble : Stmt := top 63
abbrev nLAble : List Str := ["_law_start", "_law_steps", "_law_sights_here", "_law_row_here", "_law_states", "_law_sight"]
theorem sc63 : FnScope nLAble ["_law_start", "_law_steps", "_law_sights_here", "_law_row_here"] (defScope sLAble) := ⟨rfl, rfl, rfl, by decide +kernel, rfl, by decide +kernel, by decide +kernel⟩
def spLAble : Sp := fun vs H Q _ => ∃ (q0 : Int) (sa ta ra : Addr) (labs : List Int) (ads : List Addr) (st : List Step) (T : List (Str × Str)) (r : List Str), vs = [.int q0, .ref sa, .ref ta, .ref ra] ∧ H ra = some (.tup (r.map .str)) ∧ Sys H labs sa ta ads st T ∧ q0 ∈ labs ∧ Feas st T q0 r ∧
  ∀ H', Same H H' → Q (.bl true) H'
section
variable {P : Program} {w : World} {K : PySem.W.Frag} {mg : Str → Option Value} {base : Heap}
theorem ok_behind (B : Bx mg) {fC f : Addr} {fdC fd : FuncData} (FC : FnOk P w K mg base CX0 1 fC fdC ["_law_states", "_law_steps", "_law_sights_here"] spClosed) (bC : Binds K fdC ["_law_states", "_law_steps", "_law_sights_here"] []) (mC : mg "_law_closed" = some (.ref fC)) (kC : PySem.W.keepIn K (.ref fC) = true)
    (F : Fun K "_law_behind" "_law_behind" sBehind f fd) : FnOk P w K mg base CX0 2 f fd ["_law_states", "_law_steps", "_law_sights_here", "_law_sight"] spBehind := by
  refine F.ok sc62 (fun vs H Q E h => ?_) (fun cdv A outer s H vs Q E hr h => ?_)
  · obtain ⟨_, _, _, _, _, _, _, _, _, rfl, _⟩ := h
    rfl
  · obtain ⟨a, sa, ta, x, labs, ads, st, T, S, rfl, ha, Y, q⟩ := h
    have hu := hu_of hr
    refine ⟨_, pss_cons (ps_setLc (i := 4) (own := [("_law_step", 5)]) (g := gName 5) (tt := tAnd (tB (tDIn (tOp (rIxT K) (tVar 5) (tC (.int 1))) (tVar 2))) (tTest (tOp (rIn K false) (tOp (rIxT K) (tVar 5) (tC (.int 0))) (tVar 0)))) (te := tVar 5) rfl sc62.nd rfl rfl (sw_true rfl rfl rfl (by decide +kernel)) (pi_list (pv 1)) (blkOk_by (N := nBehind) (sc := defScope sBehind) (by decide +kernel)) (fun _ _ _ _ _ => pg_name (i := 5) sc62.nd rfl (Or.inl rfl)) (fun _ _ _ _ _ => by exact pts_one (pw_and (pt_cmp (pc_din hu (pe_ix ix_tup (pv 5) pe_int (fun _ _ => rfl)) (pv 2)) (by rfl)) (pw_and1 (pt_cmpR op_in_seq (pe_ix ix_tup (pv 5) pe_int (fun _ _ => rfl)) (pv 0) (by rfl)))).pt) (fun _ _ _ _ _ => pv 5))
      (pss_cons (ps_setLc (i := 6) (own := [("_law_step", 5)]) (g := gName 5) (tt := tTest (tOp _ (tDGet (tVar 2) (tOp (rIxT K) (tVar 5) (tC (.int 1)))) (tVar 3))) (te := tOp (rIxT K) (tVar 5) (tC (.int 2))) rfl sc62.nd rfl rfl (sw_true rfl rfl rfl (by decide +kernel)) (pi_list (pv 4)) (blkOk_by (N := nBehind) (sc := defScope sBehind) (by decide +kernel)) (fun _ _ _ _ _ => pg_name (i := 5) sc62.nd rfl (Or.inl rfl)) (fun _ _ _ _ _ => by exact pts_one (pt_cmpR op_eq (pe_dget hu (pv 2) (pe_ix ix_tup (pv 5) pe_int (fun _ _ => rfl)) (fun _ _ => rfl)) (pv 3) (nomark _))) (fun _ _ _ _ _ => by exact pe_ix ix_tup (pv 5) pe_int (fun _ _ => rfl)))
      (pss_one (ps_ret (pe_call FC hr (by rfl) mC kC bC .nil pass0 (pa_cons (pv 6) (pa_cons (pv 1) (pa_cons (pv 2) pa_nil))))))), ?_⟩
    have big : (60 : Nat) < sizeLine := by decide
    have al : ads.length = st.length := Y.at_.len
    have h14 := Y.le
    refine ⟨_, rfl, sa, rfl, ⟨_, SqL.of Y.hs⟩, fun na hna => lc_list (a := sa) (xs := ads.map .ref) (fun j H' => Same H H' ∧ ∃ (nads : List Addr) (nst : List Step), H' na = some (.lst (nads.map .ref)) ∧ StepsAt H' nads nst ∧ nst.length ≤ j ∧ ∀ e, e ∈ nst ↔ e ∈ st.take j ∧ e.1 ∈ S ∧ (see T e.2.1).isSome = true)
      ⟨Same.upd same_rfl hna, [], [], upd_same, ⟨rfl, fun i a e h => by simp at h⟩, Nat.le_refl _, fun e => by simp⟩ (fun j H' _ h => SqL.of (h.1 _ _ Y.hs)) ?_ ?_⟩
    · rintro j y H' hy ⟨s', nads, nst, hn', hnst, hnl, hmem⟩
      obtain ⟨b, hb, rfl⟩ : ∃ b, ads[j]? = some b ∧ V.ref b = y := by
        rw [List.getElem?_map] at hy
        cases e : ads[j]? with
        | none => rw [e] at hy; cases hy
        | some b => rw [e] at hy; exact ⟨b, rfl, Option.some.inj hy⟩
      have hj : j < st.length := by
        have := (List.getElem?_eq_some_iff.mp hb).1
        omega
      have he : st[j]? = some st[j] := List.getElem?_eq_getElem hj
      have hbt := s' _ _ (Y.at_.at_ j b _ hb he)
      have mt : ∀ e, e ∈ st.take (j + 1) ↔ e ∈ st.take j ∨ e = st[j] := fun e => by
        rw [List.take_add_one, he, List.mem_append, Option.toList_some, List.mem_singleton]
      have skip : ¬ (st[j].1 ∈ S ∧ (see T st[j].2.1).isSome = true) → Same H H' ∧ ∃ (nads : List Addr) (nst : List Step), H' na = some (.lst (nads.map .ref)) ∧ StepsAt H' nads nst ∧ nst.length ≤ j + 1 ∧ ∀ e, e ∈ nst ↔ e ∈ st.take (j + 1) ∧ e.1 ∈ S ∧ (see T e.2.1).isSome = true := fun h => by
        refine ⟨s', nads, nst, hn', hnst, by omega, fun e => ?_⟩
        rw [hmem, mt]
        constructor
        · rintro ⟨h1, h2⟩; exact ⟨.inl h1, h2⟩
        · rintro ⟨h1 | rfl, h2⟩
          · exact ⟨h1, h2⟩
          · exact absurd h2 h
      refine ⟨rfl, _, rfl, b, _, _, _, rfl, rfl, SqT.of hbt, atI_nat (j := 1) rfl, _, rfl, ta, _, rfl, DGet.k (k := Sum.inr st[j].2.1) (s' _ _ Y.ht), _, rfl, ?_⟩
      rw [valV_see]
      cases hsee : see T st[j].2.1 with
      | none => exact iteF (iteF (skip fun z => by rw [hsee] at z; cases z.2))
      | some y =>
        refine iteT ?_
        refine ⟨_, rfl, b, _, _, _, rfl, rfl, SqT.of hbt, atI_nat (j := 0) rfl, _, rfl, a, _, rfl, .inl (SqL.of (s' _ _ ha)), rfl, flat_ints S, _, rfl, ?_⟩
        show if inV (V.int st[j].1) (S.map V.int) = true then _ else _
        rw [inV_int]
        by_cases h3 : st[j].1 ∈ S
        · rw [decide_eq_true h3]
          refine iteT ?_
          have nl : nads.length ≤ 14 := by rw [hnst.len]; omega
          refine ⟨_, rfl, _, hn', by rw [List.length_map]; omega, s'.upd hna, nads ++ [b], nst ++ [st[j]], by rw [upd_same, List.map_append]; rfl, ?_, by rw [List.length_append]; show nst.length + 1 ≤ _; omega, fun e => ?_⟩
          · have nb : ∀ {c es}, H' c = some (.tup es) → c ≠ na := fun h z => by rw [z, hn'] at h; cases h
            refine hnst.snoc (fun i c f h1 h2 => ?_) (by rw [upd_ne (nb hbt)]; exact hbt)
            rw [upd_ne (nb (hnst.at_ i c f h1 h2))]
          · rw [List.mem_append, hmem, mt, List.mem_singleton]
            constructor
            · rintro (⟨h1, h2⟩ | rfl)
              · exact ⟨.inl h1, h2⟩
              · exact ⟨.inr rfl, h3, by rw [hsee]; rfl⟩
            · rintro ⟨h1 | rfl, h2⟩
              · exact .inl ⟨h1, h2⟩
              · exact .inr rfl
        · rw [decide_eq_false h3]
          exact iteF (skip fun z => h3 z.1)
    · rintro H1 ⟨s1, nads, nst, hn1, hnst, hnl, hmem⟩
      rw [List.length_map, al, List.take_length] at hmem
      rw [List.length_map, al] at hnl
      have nal : nads.length = nst.length := hnst.len
      refine ⟨_, rfl, na, rfl, ⟨_, SqL.of hn1⟩, fun ea hea => lc_list (a := na) (xs := nads.map .ref) (fun j H' => Same H1 H' ∧ ∃ E : List Int, H' ea = some (.lst (E.map .int)) ∧ E.length ≤ j ∧ ∀ t, t ∈ E ↔ ∃ e ∈ nst.take j, e.2.2 = t ∧ see T e.2.1 = some x)
        ⟨Same.upd same_rfl hea, [], upd_same, Nat.le_refl _, fun t => by simp⟩ (fun j H' _ h => SqL.of (h.1 _ _ hn1)) ?_ ?_⟩
      · rintro j y H' hy ⟨s', E, hE', hEl, hEm⟩
        obtain ⟨b, hb, rfl⟩ : ∃ b, nads[j]? = some b ∧ V.ref b = y := by
          rw [List.getElem?_map] at hy
          cases e : nads[j]? with
          | none => rw [e] at hy; cases hy
          | some b => rw [e] at hy; exact ⟨b, rfl, Option.some.inj hy⟩
        have hj : j < nst.length := by
          have := (List.getElem?_eq_some_iff.mp hb).1
          omega
        have he : nst[j]? = some nst[j] := List.getElem?_eq_getElem hj
        have hbt := s' _ _ (hnst.at_ j b _ hb he)
        have hj' := (hmem _).mp (List.getElem_mem hj)
        have mt : ∀ e, e ∈ nst.take (j + 1) ↔ e ∈ nst.take j ∨ e = nst[j] := fun e => by
          rw [List.take_add_one, he, List.mem_append, Option.toList_some, List.mem_singleton]
        obtain ⟨y, hsee⟩ := Option.isSome_iff_exists.mp hj'.2.2
        have hg : valV (tabV T) (.inr nst[j].2.1) = some (.str y) := by rw [valV_see, hsee]; rfl
        refine ⟨rfl, _, rfl, _, rfl, b, _, _, _, rfl, rfl, SqT.of hbt, atI_nat (j := 1) rfl, ta, .str y, rfl, by
          have := DGet.k (k := Sum.inr nst[j].2.1) (s' _ _ (s1 _ _ Y.ht))
          rw [hg] at this
          exact this, _, rfl, rfl, _, rfl, ?_⟩
        show if decide (V.str y = V.str x) = true then _ else _
        by_cases z : y = x
        · rw [decide_eq_true (by rw [z])]
          refine iteT ?_
          refine ⟨_, rfl, b, _, _, _, rfl, rfl, SqT.of hbt, atI_nat (j := 2) rfl, _, hE', by rw [List.length_map]; omega, s'.upd hea, E ++ [nst[j].2.2], by rw [upd_same, List.map_append]; rfl, by rw [List.length_append]; show E.length + 1 ≤ _; omega, fun t => ?_⟩
          rw [List.mem_append, hEm, List.mem_singleton]
          constructor
          · rintro (⟨e, h1, h2⟩ | rfl)
            · exact ⟨e, (mt e).mpr (.inl h1), h2⟩
            · exact ⟨nst[j], (mt _).mpr (.inr rfl), rfl, by rw [hsee, z]⟩
          · rintro ⟨e, h1, h2, h3⟩
            rcases (mt e).mp h1 with w | rfl
            · exact .inl ⟨e, w, h2, h3⟩
            · exact .inr h2.symm
        · rw [decide_eq_false fun w => z (by cases w; rfl)]
          refine iteF ⟨s', E, hE', by omega, fun t => ?_⟩
          rw [hEm]
          constructor
          · rintro ⟨e, h1, h2⟩; exact ⟨e, (mt e).mpr (.inl h1), h2⟩
          · rintro ⟨e, h1, h2, h3⟩
            rcases (mt e).mp h1 with w | rfl
            · exact ⟨e, w, h2, h3⟩
            · rw [hsee] at h3
              exact absurd (Option.some.inj h3) z
      · rintro H2 ⟨s2, E, hE2, hEl, hEm⟩
        rw [List.length_map, nal, List.take_length] at hEm
        rw [List.length_map, nal] at hEl
        have s12 := s1.trans s2
        have hEm' : ∀ t, t ∈ E ↔ ∃ e ∈ st, e.1 ∈ S ∧ e.2.2 = t ∧ see T e.2.1 = some x := fun t => by
          rw [hEm]
          constructor
          · rintro ⟨e, h1, h2, h3⟩
            obtain ⟨h4, h5, _⟩ := (hmem e).mp h1
            exact ⟨e, h4, h5, h2, h3⟩
          · rintro ⟨e, h1, h2, h3, h4⟩
            exact ⟨e, (hmem e).mpr ⟨h1, h2, by rw [h4]; rfl⟩, h3, h4⟩
        refine ⟨_, rfl, _, rfl, _, rfl, ea, sa, ta, labs, ads, st, T, E, rfl, hE2, Y.same s12, fun t ht => ?_, by omega, fun H3 p s3 hp hp3 => q H3 p E hEm' (s12.trans s3) (s12.free hp) hp3⟩
        obtain ⟨e, h1, _, rfl, _⟩ := (hEm' t).mp ht
        exact Y.tgt e h1
theorem ok_lable (B : Bx mg) {fC fB f : Addr} {fdC fdB fd : FuncData} (FC : FnOk P w K mg base CX0 1 fC fdC ["_law_states", "_law_steps", "_law_sights_here"] spClosed) (bC : Binds K fdC ["_law_states", "_law_steps", "_law_sights_here"] []) (mC : mg "_law_closed" = some (.ref fC)) (kC : PySem.W.keepIn K (.ref fC) = true)
    (FB : FnOk P w K mg base CX0 2 fB fdB ["_law_states", "_law_steps", "_law_sights_here", "_law_sight"] spBehind) (bB : Binds K fdB ["_law_states", "_law_steps", "_law_sights_here", "_law_sight"] []) (mB : mg "_law_behind" = some (.ref fB)) (kB : PySem.W.keepIn K (.ref fB) = true)
    (F : Fun K "_law_able" "_law_able" sLAble f fd) : FnOk P w K mg base CX0 3 f fd ["_law_start", "_law_steps", "_law_sights_here", "_law_row_here"] spLAble := by
  refine F.ok sc63 (fun vs H Q E h => ?_) (fun cdv A outer s H vs Q E hr h => ?_)
  · obtain ⟨_, _, _, _, _, _, _, _, _, rfl, _⟩ := h
    rfl
  · obtain ⟨q0, sa, ta, ra, labs, ads, st, T, r, rfl, hra, Y, hq0, hF, q⟩ := h
    refine ⟨_, pss_cons (ps_set (i := 4) sc63.nd rfl (Or.inl rfl) (pe_call FC (hr.mono (by decide)) (by rfl) mC kC bC .nil pass0 (pa_cons (pe_lst (pa_cons (pv 0) pa_nil)) (pa_cons (pv 1) (pa_cons (pv 2) pa_nil)))))
      (pss_cons (ps_for PassesOwn.never rfl (pi_tup (pv 3)) (pg_name (i := 5) sc63.nd rfl (Or.inl rfl))
        (pss_one (ps_set (i := 4) sc63.nd rfl (Or.inl rfl) (pe_call FB hr (by rfl) mB kB bB .nil pass0 (pa_cons (pv 4) (pa_cons (pv 1) (pa_cons (pv 2) (pa_cons (pv 5) pa_nil))))))))
      (pss_one (ps_ret (pe_cmpR op_gt (pe_callB call_len_seq (by rfl) B.len boot_len (pa_cons (pv 4) pa_nil)) pe_int (nomark _))))), ?_⟩
    refine ⟨_, rfl, by show 1 ≤ sizeLine; decide, fun l hl => ?_⟩
    have s0 := Same.upd (o := HO.lst [V.int q0]) (same_rfl (H := H)) hl
    have hsm : Small st := fun e he => ⟨Y.sm _ (Y.src e he), Y.sm _ (Y.tgt e he)⟩
    refine ⟨_, rfl, _, rfl, l, sa, ta, labs, ads, st, T, [q0], rfl, upd_same, Y.same s0, fun t ht => by rw [List.mem_singleton.mp ht]; exact hq0, by show 1 ≤ 50; decide, fun H1 p1 s1 hp1 hp1' => ?_⟩
    have s01 := s0.trans s1
    have mclo : ∀ (S : List Int), (∀ t ∈ S, t ∈ labs) → ∀ t, t ∈ clo st T S ↔ UR st T (· ∈ S) t := fun S hS t => by
      unfold clo
      rw [mem_asc]
      exact ⟨fun h => h.2, fun h => ⟨ur_small hsm (fun z hz => Y.sm _ (hS z hz)) h, h⟩⟩
    refine ⟨_, rfl, ra, rfl, ⟨_, SqT.of (s01 _ _ hra)⟩, for_tup (xs := r.map .str) (fun i σ H' => ∃ (L : List Int) (p : Addr) (v5 : Option V), σ = [some (.int q0), some (.ref sa), some (.ref ta), some (.ref ra), some (.ref p), v5] ∧ Same H H' ∧ H' p = some (.lst (L.map .int)) ∧ ∀ t, t ∈ L ↔ RR st T (UR st T (· = q0)) (r.take i) t)
      ⟨clo st T [q0], p1, _, rfl, s01, hp1', fun t => ?_⟩ (fun i σ H' _ ⟨_, _, _, _, s', _⟩ => SqT.of (s' _ _ hra)) ?_ ?_⟩
    · rw [mclo [q0] (fun t ht => by rw [List.mem_singleton.mp ht]; exact hq0)]
      exact ⟨fun h => ur_congr (fun z hz => List.mem_singleton.mp hz) h, fun h => ur_congr (fun z hz => List.mem_singleton.mpr hz) h⟩
    · rintro i x σ H' hx ⟨L, p, v5, rfl, s', hp', hL⟩
      obtain ⟨y, hy, rfl⟩ : ∃ y, r[i]? = some y ∧ x = V.str y := by
        rw [List.getElem?_map] at hx
        cases e : r[i]? with
        | none => rw [e] at hx; cases hx
        | some d => rw [e] at hx; exact ⟨d, rfl, (Option.some.inj hx).symm⟩
      refine ⟨_, rfl, _, rfl, _, rfl, _, rfl, p, sa, ta, y, labs, ads, st, T, L, rfl, hp', Y.same s', fun H2 p2 E hE s2 hp2 hp2' => ?_⟩
      refine ⟨clo st T E, p2, _, rfl, s'.trans s2, hp2', fun t => ?_⟩
      rw [mclo E (fun t ht => by
        obtain ⟨e, h1, _, rfl, _⟩ := (hE t).mp ht
        exact Y.tgt e h1), List.take_add_one, hy]
      show _ ↔ RR st T (UR st T (· = q0)) (r.take i ++ [y]) t
      rw [RR_append]
      show _ ↔ UR st T (fun t => ∃ e ∈ st, RR st T (UR st T (· = q0)) (r.take i) e.1 ∧ e.2.2 = t ∧ see T e.2.1 = some y) t
      have hEq : ∀ z, z ∈ E ↔ ∃ e ∈ st, RR st T (UR st T (· = q0)) (r.take i) e.1 ∧ e.2.2 = z ∧ see T e.2.1 = some y := fun z => by
        rw [hE]
        constructor
        · rintro ⟨e, h1, h2, h3⟩; exact ⟨e, h1, (hL _).mp h2, h3⟩
        · rintro ⟨e, h1, h2, h3⟩; exact ⟨e, h1, (hL _).mpr h2, h3⟩
      exact ⟨fun h => ur_congr (fun z hz => (hEq z).mp hz) h, fun h => ur_congr (fun z hz => (hEq z).mpr hz) h⟩
    · rintro σ H' ⟨L, p, v5, rfl, s', hp', hL⟩
      rw [List.length_map, List.take_length] at hL
      obtain ⟨t, ht⟩ := hF
      have hlt := List.length_pos_of_mem ((hL t).mpr ht)
      refine ⟨_, rfl, p, _, rfl, .inl (SqL.of hp'), _, _, rfl, rfl, ?_⟩
      have e : decide ((0 : Int) < (((L.map V.int).length : Nat) : Int)) = true := decide_eq_true (by rw [List.length_map]; omega)
      show Q (.bl (decide ((0 : Int) < (((L.map V.int).length : Nat) : Int)))) H'
      rw [e]
      exact q H' s'
end
end KN
/-! _law_holds. -/
namespace KN
open PySem PySem.Spec PyProof.Rows L2
abbrev sHolds : Stmt := top 65
abbrev nHolds : List Str := ["_law_told", "_law_many", "_law_start", "_law_steps", "_law_sights_here", "_law_k", "_law_row_here", "_law_sight"]
theorem sc65 : FnScope nHolds ["_law_told", "_law_many", "_law_start", "_law_steps", "_law_sights_here"] (defScope sHolds) := ⟨rfl, rfl, rfl, by decide +kernel, rfl, by decide +kernel, by decide +kernel⟩
def strsV (rows : List (List Str)) : List (List V) := rows.map fun r => r.map V.str
def spHolds : Sp := fun vs H Q _ => ∃ (la : Addr) (n : Nat) (q0 : Int) (sa ta : Addr) (labs : List Int) (ads : List Addr) (st : List Step) (T : List (Str × Str)) (rads : List Addr) (rows : List (List Str)), vs = [.ref la, .int n, .int q0, .ref sa, .ref ta] ∧ H la = some (.lst (rads.map .ref)) ∧ RowsAt H rads (strsV rows) ∧ rows.length ≤ 12 ∧ n ≤ 100 ∧
  Sys H labs sa ta ads st T ∧ q0 ∈ labs ∧ (∀ r ∈ rows, r.length = n ∧ Feas st T q0 r) ∧ rows.Pairwise rlt ∧ ∀ H', Same H H' → Q (.bl true) H'
section
variable {P : Program} {w : World} {K : PySem.W.Frag} {mg : Str → Option Value} {base : Heap}
theorem ok_holds (B : Bx mg) {fA f : Addr} {fdA fd : FuncData} (FA : FnOk P w K mg base CX0 3 fA fdA ["_law_start", "_law_steps", "_law_sights_here", "_law_row_here"] spLAble) (bA : Binds K fdA ["_law_start", "_law_steps", "_law_sights_here", "_law_row_here"] []) (mA : mg "_law_able" = some (.ref fA)) (kA : PySem.W.keepIn K (.ref fA) = true)
    (F : Fun K "_law_holds" "_law_holds" sHolds f fd) : FnOk P w K mg base CX0 4 f fd ["_law_told", "_law_many", "_law_start", "_law_steps", "_law_sights_here"] spHolds := by
  refine F.ok sc65 (fun vs H Q E h => ?_) (fun cdv A outer s H vs Q E hr h => ?_)
  · obtain ⟨_, _, _, _, _, _, _, _, _, _, _, rfl, _⟩ := h
    rfl
  · obtain ⟨la, n, q0, sa, ta, labs, ads, st, T, rads, rows, rfl, hla, hra, hr12, hn, Y, hq0, hrows, hasc, q⟩ := h
    refine ⟨_, pss_cons (ps_for PassesOwn.never rfl (pi_range1 rfl B.range (pa_cons (pe_callB call_len_seq (by rfl) B.len boot_len (pa_cons (pv 0) pa_nil)) pa_nil)) (pg_name (i := 5) sc65.nd rfl (Or.inl rfl))
        (pss_cons (ps_set (i := 6) sc65.nd rfl (Or.inl rfl) (pe_ix ix_list (pv 0) (pv 5) (fun _ _ => rfl)))
        (pss_cons (ps_if (pw_or (pt_not (pt_val (pe_callB call_isi (by rfl) B.isinst boot_isinstance (pa_cons (pv 6) (pa_cons (pe_bltn (v := .ty "tuple") (by rfl) B.tuple boot_tuple rfl) pa_nil))))) (pw_or1 (pt_cmpR op_ne (pe_callB call_len_seq (by rfl) B.len boot_len (pa_cons (pv 6) pa_nil)) (pv 1) (nomark _)))).pt pss_never pss_nil)
        (pss_cons (ps_if (pt_cmpR op_gt (pe_callB call_len_seq (by rfl) B.len boot_len (pa_cons (pe_lc (own := [("_law_sight", 7)]) (g := gName 7) (tt := tNot (tB (tCB (rIsi K) (tCons (tVar 7) (tCons (tC (.ty "str")) tNil))))) (te := tVar 7) rfl sc65.nd (pi_tup (pv 6)) (blkOk_by (N := nHolds) (sc := defScope sHolds) (by decide +kernel)) (fun _ _ _ _ _ => pg_name (i := 7) sc65.nd rfl (Or.inl rfl)) (fun _ _ _ _ _ => by exact pts_one (pt_not (pt_val (pe_callB call_isi (by rfl) B.isinst boot_isinstance (pa_cons (pv 7) (pa_cons (pe_bltn (v := .ty "str") (by rfl) B.str boot_str rfl) pa_nil)))))) (fun _ _ _ _ _ => pv 7)) pa_nil)) pe_int (nomark _)) pss_never pss_nil)
        (pss_cons (ps_if (pt_not (pt_val (pe_call FA hr (by rfl) mA kA bA .nil pass0 (pa_cons (pv 2) (pa_cons (pv 3) (pa_cons (pv 4) (pa_cons (pv 6) pa_nil))))))) pss_never pss_nil)
        (pss_one (ps_if (pw_and (pt_cmpR op_gt (pv 5) pe_int (nomark _)) (pw_and1 (pt_not (pt_cmpR (op_ltTS hr.units0) (pe_ix ix_list (pv 0) (pe_op op_sub (pv 5) pe_int) (fun _ _ => rfl)) (pv 6) (nomark _))))).pt pss_never pss_nil)))))))
      (pss_one (ps_ret pe_bl)), ?_⟩
    have big : (60 : Nat) < sizeLine := by decide
    have ral : rads.length = rows.length := by rw [hra.1]; unfold strsV; rw [List.length_map]
    have rat : ∀ (i : Nat) (b : Addr) (r : List Str), rads[i]? = some b → rows[i]? = some r → H b = some (.tup (r.map .str)) := fun i b r h1 h2 => hra.2 i b _ h1 (by unfold strsV; rw [List.getElem?_map, h2]; rfl)
    refine ⟨_, rfl, la, _, rfl, .inl (SqL.of hla), (((rads.map V.ref).length : Nat) : Int), rfl, by omega, by rw [List.length_map]; omega, for_range (n := (((rads.map V.ref).length : Nat) : Int).toNat) (fun i σ H' => (∃ v5 v6, σ = [some (.ref la), some (.int n), some (.int q0), some (.ref sa), some (.ref ta), v5, v6, none]) ∧ Same H H') ⟨⟨_, _, rfl⟩, same_rfl⟩ ?_ ?_⟩
    · rintro i σ H1 hi ⟨⟨v5, v6, rfl⟩, s1⟩
      have hi : i < rows.length := by
        rw [Int.toNat_natCast, List.length_map, ral] at hi; exact hi
      have hr' : rows[i]? = some rows[i] := List.getElem?_eq_getElem hi
      obtain ⟨b, hb⟩ : ∃ b, rads[i]? = some b := ⟨_, List.getElem?_eq_getElem (by omega)⟩
      have hbt := rat i b _ hb hr'
      have atb : atI (rads.map V.ref) ((0 : Int) + ((i : Nat) : Int)) = some (.ref b) := by
        rw [Int.zero_add]; exact atI_nat (by rw [List.getElem?_map, hb]; rfl)
      obtain ⟨hrl, hrf⟩ := hrows _ (List.getElem_mem hi)
      refine ⟨_, rfl, _, rfl, la, _, _, _, rfl, rfl, SqL.of (s1 _ _ hla), atb, ?_⟩
      refine ⟨_, rfl, _, _, _, _, true, rfl, .ty _, .base (.tup (s1 _ _ hbt)), by rfl, _, rfl, iteF ?_⟩
      refine ⟨_, rfl, b, _, rfl, .inr (SqT.of (s1 _ _ hbt)), _, rfl, rfl, _, rfl, ?_⟩
      have ne0 : (!decide (V.int (((rows[i].map V.str).length : Nat) : Int) = V.int ((n : Nat) : Int))) = false := by rw [List.length_map, hrl, decide_eq_true rfl]; rfl
      show if (!decide (V.int (((rows[i].map V.str).length : Nat) : Int) = V.int ((n : Nat) : Int))) = true then _ else _
      rw [ne0]
      refine iteF ?_
      refine ⟨_, rfl, b, rfl, ⟨_, SqT.of (s1 _ _ hbt)⟩, fun D hD => lc_tup (a := b) (xs := rows[i].map .str) (fun j H' => Same H1 H' ∧ H' D = some (.lst [])) ⟨Same.upd same_rfl hD, upd_same⟩ (fun j H' _ h => SqT.of (h.1 _ _ (s1 _ _ hbt))) ?_ ?_⟩
      · rintro j x H' hx ⟨s', hD'⟩
        obtain ⟨y, hy, rfl⟩ : ∃ y, rows[i][j]? = some y ∧ x = V.str y := by
          rw [List.getElem?_map] at hx
          cases e : rows[i][j]? with
          | none => rw [e] at hx; cases hx
          | some d => rw [e] at hx; exact ⟨d, rfl, (Option.some.inj hx).symm⟩
        refine ⟨rfl, _, rfl, _, _, _, _, true, rfl, .ty _, .base (.str y), by rfl, _, rfl, ?_⟩
        exact iteF ⟨s', hD'⟩
      · rintro H2 ⟨s2, hD2⟩
        have s12 := s1.trans s2
        refine ⟨D, _, rfl, .inl (SqL.of hD2), _, _, rfl, rfl, _, rfl, ?_⟩
        refine iteF ?_
        refine ⟨_, rfl, _, rfl, _, rfl, _, rfl, q0, sa, ta, b, labs, ads, st, T, rows[i], rfl, s12 _ _ hbt, Y.same s12, hq0, hrf, fun H3 s3 => ⟨_, rfl, iteF ?_⟩⟩
        have s13 := s12.trans s3
        refine ⟨_, rfl, _, _, rfl, rfl, _, rfl, ?_⟩
        refine ite2 (fun hpos => ?_) (fun _ => ⟨⟨_, _, rfl⟩, s13⟩)
        have hpos : (0 : Int) < (0 : Int) + ((i : Nat) : Int) := of_decide_eq_true hpos
        have hpr : rows[i - 1]? = some rows[i - 1] := List.getElem?_eq_getElem (by omega)
        obtain ⟨b', hb'⟩ : ∃ b, rads[i - 1]? = some b := ⟨_, List.getElem?_eq_getElem (by omega)⟩
        have hbt' := rat (i - 1) b' _ hb' hpr
        have atb' : atI (rads.map V.ref) ((0 : Int) + ((i : Nat) : Int) - 1) = some (.ref b') := by
          rw [show (0 : Int) + ((i : Nat) : Int) - 1 = ((i - 1 : Nat) : Int) by omega]; exact atI_nat (by rw [List.getElem?_map, hb']; rfl)
        have hlt : ltB rows[i - 1] rows[i] = true := (ltB_iff _ _).mpr (List.pairwise_iff_getElem.mp hasc (i - 1) i (by omega) hi (by omega))
        refine ⟨_, rfl, _, rfl, _, _, rfl, rfl, la, _, _, _, rfl, rfl, SqL.of (s13 _ _ hla), atb', _, rfl, b', b, _, _, rfl, rfl, SqT.of (s13 _ _ hbt'), SqT.of (s13 _ _ hbt), _, rfl, ?_⟩
        rw [hlt]
        exact iteF ⟨⟨_, _, rfl⟩, s13⟩
    · rintro σ H' ⟨_, s'⟩
      exact q H' s'
end
end KN
/-! The machine with eight loops: its rows, plainly. -/
namespace KN
open PySem PySem.Spec PyProof.Rows L2
/-- all rows of n words -/
def pw (ws : List Str) : Nat → List (List Str)
  | 0 => [[]]
  | n + 1 => ws.flatMap fun x => (pw ws n).map (x :: ·)
theorem pw_mem {ws : List Str} : ∀ {n : Nat} {r : List Str}, r ∈ pw ws n ↔ r.length = n ∧ ∀ x ∈ r, x ∈ ws
  | 0, r => by
    show r ∈ [[]] ↔ _
    rw [List.mem_singleton]
    constructor
    · rintro rfl; exact ⟨rfl, fun x h => by cases h⟩
    · rintro ⟨h, _⟩; exact List.length_eq_zero_iff.mp h
  | n + 1, r => by
    show r ∈ ws.flatMap _ ↔ _
    rw [List.mem_flatMap]
    constructor
    · rintro ⟨x, hx, h⟩
      obtain ⟨r', h', rfl⟩ := List.mem_map.mp h
      obtain ⟨h1, h2⟩ := pw_mem.mp h'
      refine ⟨by rw [List.length_cons, h1], fun y hy => ?_⟩
      rcases List.mem_cons.mp hy with z | z
      · rw [z]; exact hx
      · exact h2 y z
    · rintro ⟨h1, h2⟩
      cases r with
      | nil => cases h1
      | cons x r =>
        exact ⟨x, h2 x List.mem_cons_self, List.mem_map.mpr ⟨r, pw_mem.mpr ⟨by simpa using h1, fun y hy => h2 y (List.mem_cons_of_mem _ hy)⟩, rfl⟩⟩
theorem flat_asc {l : List Str} {f : Str → List (List Str)} (hl : l.Pairwise tlt) (h1 : ∀ x ∈ l, (f x).Pairwise rlt) (h2 : ∀ x y, tlt x y → ∀ a ∈ f x, ∀ b ∈ f y, rlt a b) : (l.flatMap f).Pairwise rlt := by
  induction l with
  | nil => exact .nil
  | cons x l ih =>
    rw [List.flatMap_cons]
    obtain ⟨g1, g2⟩ := List.pairwise_cons.mp hl
    refine List.pairwise_append.mpr ⟨h1 x List.mem_cons_self, ih g2 fun y hy => h1 y (List.mem_cons_of_mem _ hy), fun a ha b hb => ?_⟩
    obtain ⟨y, hy, hb⟩ := List.mem_flatMap.mp hb
    exact h2 x y (g1 y hy) a ha b hb
theorem pw_asc {ws : List Str} (h : ws.Pairwise tlt) : ∀ n, (pw ws n).Pairwise rlt
  | 0 => List.pairwise_singleton ..
  | n + 1 => by
    refine flat_asc h (fun x _ => List.pairwise_map.mpr ((pw_asc h n).imp fun q => .cons q)) fun x y q a ha b hb => ?_
    obtain ⟨a', _, rfl⟩ := List.mem_map.mp ha
    obtain ⟨b', _, rfl⟩ := List.mem_map.mp hb
    exact .rel q
theorem pw_len {ws : List Str} : ∀ n, (pw ws n).length = ws.length ^ n
  | 0 => rfl
  | n + 1 => by
    show (ws.flatMap _).length = _
    rw [List.length_flatMap]
    have e : ws.map (fun x => ((pw ws n).map (x :: ·)).length) = ws.map fun _ => ws.length ^ n := List.map_congr_left fun x _ => by rw [List.length_map, pw_len n]
    rw [e, List.map_const', List.sum_replicate_nat, Nat.pow_succ, Nat.mul_comm]
theorem pw_take {x0 : Str} {ws : List Str} {n k : Nat} (h : k ≤ (x0 :: ws).length ^ n) : (pw (x0 :: ws) (n + 1)).take k = ((pw (x0 :: ws) n).take k).map (x0 :: ·) := by
  show ((x0 :: ws).flatMap _).take k = _
  rw [List.flatMap_cons, List.take_append_of_le_length (by rw [List.length_map, pw_len]; exact h), List.map_take]
/-- the first twelve -/
def first12 (w0 w1 w2 w3 w4 w5 w6 w7 : Str) : List (List Str) :=
  [w0, w1, w2, w3, w4, w5, w6, w7].map (fun x => [w0, w0, w0, w0, w0, w0, w0, x]) ++ [w0, w1, w2, w3].map (fun x => [w0, w0, w0, w0, w0, w0, w1, x])
theorem pw_first (w0 w1 w2 w3 w4 w5 w6 w7 : Str) : (pw [w0, w1, w2, w3, w4, w5, w6, w7] 8).take 12 = first12 w0 w1 w2 w3 w4 w5 w6 w7 := by
  have p : ∀ n, 2 ≤ n → 12 ≤ ([w0, w1, w2, w3, w4, w5, w6, w7] : List Str).length ^ n := fun n hn => by
    show 12 ≤ 8 ^ n
    exact Nat.le_trans (by decide : 12 ≤ 8 ^ 2) (Nat.pow_le_pow_right (by decide) hn)
  rw [pw_take (n := 7) (p 7 (by decide)), pw_take (n := 6) (p 6 (by decide)), pw_take (n := 5) (p 5 (by decide)), pw_take (n := 4) (p 4 (by decide)), pw_take (n := 3) (p 3 (by decide)), pw_take (n := 2) (p 2 (by decide))]
  rfl
/-- steps that are loops at 5, one a word -/
structure Loops (st : List Step) (ws : List Str) : Prop where
  one : ∀ e ∈ st, e.1 = 5 ∧ e.2.2 = 5 ∧ e.2.1 ∈ ws
  all : ∀ x ∈ ws, ((5 : Int), x, (5 : Int)) ∈ st
theorem see_id {ws : List Str} {x : Str} (h : x ∈ ws) : see (idT ws) x = some x := by
  unfold see idT
  induction ws with
  | nil => cases h
  | cons y ws ih =>
    rw [List.map_cons, List.find?_cons]
    by_cases e : y = x
    · rw [decide_eq_true e]
      show some y = _
      rw [e]
    · rw [decide_eq_false e]
      rcases List.mem_cons.mp h with z | z
      · exact absurd z.symm e
      · exact ih z
theorem see_id_mem {ws : List Str} {x y : Str} (h : see (idT ws) x = some y) : y ∈ ws := by
  unfold see idT at h
  cases e : (ws.map fun x => (x, x)).find? fun p => decide (p.1 = x) with
  | none => rw [e] at h; cases h
  | some p =>
    rw [e] at h
    obtain ⟨z, hz, rfl⟩ := List.mem_map.mp (List.mem_of_find?_eq_some e)
    cases h
    exact hz
theorem loops_to {st : List Step} {ws : List Str} (L : Loops st ws) : ∀ (r : List Str) (P : Int → Prop), P 5 → (∀ x ∈ r, x ∈ ws) → RR st (idT ws) P r 5
  | [], _, h, _ => h
  | x :: r, P, h, hx => loops_to L r _ (.base ⟨(5, x, 5), L.all x (hx x List.mem_cons_self), h, rfl, see_id (hx x List.mem_cons_self)⟩) fun y hy => hx y (List.mem_cons_of_mem _ hy)
theorem loops_of {st : List Step} {ws : List Str} : ∀ (r : List Str) (P : Int → Prop) (q : Int), RR st (idT ws) P r q → ∀ x ∈ r, x ∈ ws
  | [], _, _, _, x, h => by cases h
  | y :: r, P, q, h, x, hx => by
    have h : RR st (idT ws) (aft st (idT ws) P y) r q := h
    rcases List.mem_cons.mp hx with z | z
    · obtain ⟨p, h1, _⟩ := RR_split h
      obtain ⟨t, ⟨e, _, _, _, h5⟩, _⟩ := ur_first h1
      rw [z]
      exact see_id_mem h5
    · exact loops_of r _ q h x z
theorem wide_rows {st : List Step} {ws : List Str} {reach : List Int} {n : Nat} (L : Loops st ws) (ha : ws.Pairwise tlt) (R : Reach st reach 5) : frows st (idT ws) reach 5 n = pw ws n := by
  refine asc_unique rlt_irrefl rlt_trans frows_asc (pw_asc ha n) fun r => ?_
  rw [frows_mem R, pw_mem]
  refine and_congr Iff.rfl ⟨fun ⟨q, h⟩ => loops_of r _ q h, fun h => ⟨5, loops_to L r _ (.base rfl) h⟩⟩
end KN
/-! _law_wide_holds. -/
namespace KN
open PySem PySem.Spec PyProof.Rows L2
abbrev sWide : Stmt := top 66
abbrev nWide : List Str := ["_law_names_here", "_law_machine_here", "_law_words", "_law_due", "_law_name", "_law_k"]
theorem sc66 : FnScope nWide ["_law_names_here"] (defScope sWide) := ⟨rfl, rfl, rfl, by decide +kernel, rfl, by decide +kernel, by decide +kernel⟩
def spWide : Sp := fun vs H Q _ => ∃ (na : Addr) (names : List Str), vs = [.ref na] ∧ H na = some (.lst (names.map .str)) ∧ names.length = 8 ∧ NamesOk names ∧ ∀ H', Same H H' → Q (.bl true) H'
/-- the machine's maker, as the law calls it -/
structure MakeM (P : Program) (w : World) (K : PySem.W.Frag) (mg : Str → Option Value) (base : Heap) (CM : Addr) where
  f : Addr
  d : FuncData
  M : Mk K CM f
  F : FnOk P w K mg base CX0 6 f d ["self", "start", "steps", "faults"] (spMInit CM)
  b1 : Binds K d ["self", "start", "steps", "faults"] [.none]
  b0 : Binds K d ["self", "start", "steps", "faults"] []
  g : mg "Machine" = some (.ref CM)
/-- a def, as the law calls it -/
structure CalF (P : Program) (w : World) (K : PySem.W.Frag) (mg : Str → Option Value) (base : Heap) (k : Nat) (x : Str) (ps : List Str) (sp : Sp) where
  f : Addr
  d : FuncData
  F : FnOk P w K mg base CX0 k f d ps sp
  b : Binds K d ps []
  m : mg x = some (.ref f)
  kp : PySem.W.keepIn K (.ref f) = true
theorem RowsAt.same {H H' : Hp} {ads : List Addr} {rows : List (List V)} (x : RowsAt H ads rows) (s : Same H H') : RowsAt H' ads rows := ⟨x.1, fun i a r h1 h2 => s _ _ (x.2 i a r h1 h2)⟩
theorem RowsAt.snoc {H H' : Hp} {ads : List Addr} {rows : List (List V)} {a : Addr} {r : List V} (x : RowsAt H ads rows) (s : ∀ b es, H b = some (.tup es) → H' b = some (.tup es)) (h : H' a = some (.tup r)) : RowsAt H' (ads ++ [a]) (rows ++ [r]) := by
  refine ⟨by rw [List.length_append, List.length_append, x.1]; rfl, fun i b f h1 h2 => ?_⟩
  by_cases hi : i < ads.length
  · rw [List.getElem?_append_left hi] at h1
    rw [List.getElem?_append_left (by rw [← x.1]; exact hi)] at h2
    exact s _ _ (x.2 i b f h1 h2)
  · have hb := (List.getElem?_eq_some_iff.mp h1).1
    rw [List.length_append] at hb
    have hb : i < ads.length + 1 := hb
    have hi' : i = ads.length := by omega
    subst hi'
    rw [List.getElem?_append_right (Nat.le_refl _), Nat.sub_self] at h1
    rw [x.1, List.getElem?_append_right (Nat.le_refl _), Nat.sub_self] at h2
    cases h1
    cases h2
    exact h
theorem sameD_rows {H : Hp} {a b : Addr} {ads bds : List Addr} {rows : List (List Str)} (ha : H a = some (.lst (ads.map .ref))) (hb : H b = some (.lst (bds.map .ref))) (xa : RowsAt H ads (strsV rows)) (xb : RowsAt H bds (strsV rows)) (hl : rows.length ≤ 1000) (hr : ∀ r ∈ rows, r.length ≤ 1000) : SameD 2 H (.ref a) (.ref b) := by
  have l1 : ads.length = rows.length := by rw [xa.1]; unfold strsV; rw [List.length_map]
  have l2 : bds.length = rows.length := by rw [xb.1]; unfold strsV; rw [List.length_map]
  refine ⟨a, b, _, _, rfl, rfl, .inl ⟨ha, hb⟩, by rw [List.length_map, List.length_map]; omega, by rw [List.length_map]; omega, fun i x y hx hy => ?_⟩
  rw [List.getElem?_map] at hx hy
  cases e1 : ads[i]? with
  | none => rw [e1] at hx; cases hx
  | some c =>
    cases e2 : bds[i]? with
    | none => rw [e2] at hy; cases hy
    | some d =>
      rw [e1] at hx
      rw [e2] at hy
      cases hx
      cases hy
      have hi : i < rows.length := by
        have := (List.getElem?_eq_some_iff.mp e1).1
        omega
      have e3 : (strsV rows)[i]? = some (rows[i].map V.str) := by unfold strsV; rw [List.getElem?_map, List.getElem?_eq_getElem hi]; rfl
      refine ⟨c, d, _, _, rfl, rfl, .inr ⟨xa.2 i c _ e1 e3, xb.2 i d _ e2 e3⟩, rfl, by rw [List.length_map]; exact hr _ (List.getElem_mem hi), fun j x' y' hx' hy' => ?_⟩
      rw [hx'] at hy'
      cases hy'
      rw [List.getElem?_map] at hx'
      cases e4 : rows[i][j]? with
      | none => rw [e4] at hx'; cases hx'
      | some z =>
        rw [e4] at hx'
        cases hx'
        exact ⟨z, rfl, rfl⟩
theorem len8 {α : Type} {l : List α} (h : l.length = 8) : ∃ a b c d e f g i, l = [a, b, c, d, e, f, g, i] := by
  match l, h with
  | [a, b, c, d, e, f, g, i], _ => exact ⟨a, b, c, d, e, f, g, i, rfl⟩
abbrev loopS (x : Str) : Step := ((5 : Int), x, (5 : Int))
theorem loop_steps {names : List Str} (h : NamesOk names) (h8 : names.length = 8) : OkSteps (names.map loopS) where
  ne := by rw [List.length_map]; omega
  le := by rw [List.length_map]; omega
  ok := fun e he => by
    obtain ⟨x, hx, rfl⟩ := List.mem_map.mp he
    have h5 : (0 : Int) ≤ 5 ∧ (5 : Int) < 100 := ⟨by decide, by decide⟩
    exact ⟨h5, h.nm x hx, h5⟩
  nd := List.pairwise_map.mpr (h.nd.imp fun hab e => hab (congrArg (fun z : Step => z.2.1) e))
  few := fun q => by
    refine Nat.le_trans (List.length_filter_le _ _) ?_
    rw [List.length_map]; omega
theorem loop_clo {names : List Str} {T : List (Str × Str)} {q : Int} (h : q ∈ clo (names.map loopS) T [5]) : q = 5 := by
  unfold clo at h
  rw [mem_asc] at h
  cases h.2 with
  | base h => exact List.mem_singleton.mp h
  | step _ u =>
    obtain ⟨e, he, _, rfl, _⟩ := u
    obtain ⟨x, _, rfl⟩ := List.mem_map.mp he
    rfl
theorem loop_live {names : List Str} (h8 : names.length = 8) : ∀ q ∈ clo (names.map loopS) [] [5], nums (names.map loopS) q ≠ [] := fun q hq => by
  rw [loop_clo hq]
  have hl : 0 < names.length := by omega
  exact List.ne_nil_of_mem (mem_nums.mpr ⟨loopS names[0], by rw [List.getElem?_map, List.getElem?_eq_getElem hl]; rfl, rfl⟩)
theorem reach_clo {st : List Step} {q0 : Int} (hs : Small st) (h0 : 0 ≤ q0 ∧ q0 < 100) : Reach st (clo st [] [q0]) q0 := by
  have m : ∀ q, q ∈ clo st [] [q0] ↔ (0 ≤ q ∧ q < 100) ∧ UR st [] (· ∈ [q0]) q := fun q => by unfold clo; exact mem_asc
  refine ⟨(m q0).mpr ⟨h0, .base List.mem_cons_self⟩, fun e he h1 => (m _).mpr ⟨(hs e he).2, .step ((m _).mp h1).2 ⟨e, he, rfl, rfl, rfl⟩⟩, fun q hq => ((m q).mp hq).1⟩
section
variable {P : Program} {w : World} {K : PySem.W.Frag} {mg : Str → Option Value} {base : Heap} {CM CW : Addr}
theorem ok_wide (B : Bx mg) (MM : MakeM P w K mg base CM) (AS : CalF P w K mg base 5 "all_seen" ["machine"] (spAllSeen CM CW)) (FI : CalF P w K mg base 7 "_law_first" ["_law_machine_here", "_law_watch", "_law_many"] (spFirst CM CW)) (EX : CalF P w K mg base 3 "_law_exact" ["_law_told", "_law_due"] (spExact 2))
    {f : Addr} {fd : FuncData} (F : Fun K "_law_wide_holds" "_law_wide_holds" sWide f fd) : FnOk P w K mg base CX0 8 f fd ["_law_names_here"] spWide := by
  refine F.ok sc66 (fun vs H Q E h => ?_) (fun cdv A outer s H vs Q E hr h => ?_)
  · obtain ⟨_, _, rfl, _⟩ := h
    rfl
  · obtain ⟨na, names, rfl, hna, hn8, hnm, q⟩ := h
    refine ⟨_, C8.pss_cut (ps_set (i := 1) sc66.nd rfl (Or.inl rfl) (pe_make MM.M MM.F hr (by rfl) MM.g MM.b1 (show Vals [V.non] [Value.none] from .cons rfl .nil) pass0 (pa_cons pe_int (pa_cons (pe_lc (own := [("_law_name", 4)]) (g := gName 4) (tt := tYes) (te := tTup (tCons (tC (.int 5)) (tCons (tVar 4) (tCons (tC (.int 5)) tNil)))) rfl sc66.nd (pi_list (pv 0)) (blkOk_by (N := nWide) (sc := defScope sWide) (by decide +kernel)) (fun _ _ _ _ _ => pg_name (i := 4) sc66.nd rfl (Or.inl rfl)) (fun _ _ _ _ _ => pts_nil) (fun _ _ _ _ _ => by exact pe_tup (pa_cons pe_int (pa_cons (pv 4) (pa_cons pe_int pa_nil))))) pa_nil))))
      (pss_cons (ps_set (i := 2) sc66.nd rfl (Or.inr rfl) (pe_callB cr_sortedS (by rfl) B.sorted (by rfl) (pa_cons (pv 0) pa_nil)))
      (pss_cons (ps_setLc (i := 3) (own := [("_law_k", 5)]) (g := gName 5) (tt := tYes) (te := tOp (rCatT K) (tOp (rRepT K) (tTup (tCons (tOp (rIxL K) (tVar 2) (tC (.int 0))) tNil)) (tC (.int 7))) (tTup (tCons (tOp (rIxL K) (tVar 2) (tVar 5)) tNil))) rfl sc66.nd rfl rfl (sw_true rfl rfl rfl (by decide +kernel)) (pi_range1 rfl B.range (pa_cons pe_int pa_nil)) (blkOk_by (N := nWide) (sc := defScope sWide) (by decide +kernel)) (fun _ _ _ _ _ => pg_name (i := 5) sc66.nd rfl (Or.inl rfl)) (fun _ _ _ _ _ => pts_nil) (fun _ _ _ _ _ => by exact pe_op op_catT (pe_op op_repT (pe_tup (pa_cons (pe_ix ix_list (pv 2) pe_int (fun _ _ => rfl)) pa_nil)) pe_int) (pe_tup (pa_cons (pe_ix ix_list (pv 2) (pv 5) (fun _ _ => rfl)) pa_nil))))
      (pss_cons (ps_set (i := 3) sc66.nd rfl (Or.inl rfl) (pe_op op_cat (pv 3) (pe_lc (own := [("_law_k", 5)]) (g := gName 5) (tt := tYes) (te := tOp (rCatT K) (tOp (rRepT K) (tTup (tCons (tOp (rIxL K) (tVar 2) (tC (.int 0))) tNil)) (tC (.int 6))) (tTup (tCons (tOp (rIxL K) (tVar 2) (tC (.int 1))) (tCons (tOp (rIxL K) (tVar 2) (tVar 5)) tNil)))) rfl sc66.nd (pi_range1 rfl B.range (pa_cons pe_int pa_nil)) (blkOk_by (N := nWide) (sc := defScope sWide) (by decide +kernel)) (fun _ _ _ _ _ => pg_name (i := 5) sc66.nd rfl (Or.inl rfl)) (fun _ _ _ _ _ => pts_nil) (fun _ _ _ _ _ => by exact pe_op op_catT (pe_op op_repT (pe_tup (pa_cons (pe_ix ix_list (pv 2) pe_int (fun _ _ => rfl)) pa_nil)) pe_int) (pe_tup (pa_cons (pe_ix ix_list (pv 2) pe_int (fun _ _ => rfl)) (pa_cons (pe_ix ix_list (pv 2) (pv 5) (fun _ _ => rfl)) pa_nil)))))))
      (pss_one (ps_ret (pe_call EX.F (hr.mono (by decide)) (by rfl) EX.m EX.kp EX.b .nil pass0 (pa_cons (pe_call FI.F hr (by rfl) FI.m FI.kp FI.b .nil pass0 (pa_cons (pv 1) (pa_cons (pe_call AS.F (hr.mono (by decide)) (by rfl) AS.m AS.kp AS.b .nil pass0 (pa_cons (pv 1) pa_nil)) (pa_cons pe_int pa_nil)))) (pa_cons (pv 3) pa_nil)))))))), ?_⟩
    have big : (60 : Nat) < sizeLine := by decide
    refine ⟨fun σ' H1 => ∃ (d : MD) (ws : List Str), σ' = [some (.ref na), some (.ref d.m), none, none, none, none] ∧ Same H H1 ∧ FullAt CM H1 d 5 (names.map loopS) ws [], ?_, ?_⟩
    · refine ⟨_, rfl, na, rfl, ⟨_, SqL.of hna⟩, fun D hD => lc_list (a := na) (xs := names.map .str) (fun j H' => Same H H' ∧ ∃ sads : List Addr, H' D = some (.lst (sads.map .ref)) ∧ StepsAt H' sads ((names.take j).map loopS))
        ⟨Same.upd same_rfl hD, [], upd_same, ⟨rfl, fun i a e h => by simp at h⟩⟩ (fun j H' _ h => SqL.of (h.1 _ _ hna)) ?_ ?_⟩
      · rintro j x H' hx ⟨s', sads, hD', hst⟩
        obtain ⟨y, hy, rfl⟩ : ∃ y, names[j]? = some y ∧ x = V.str y := by
          rw [List.getElem?_map] at hx
          cases e : names[j]? with
          | none => rw [e] at hx; cases hx
          | some d => rw [e] at hx; exact ⟨d, rfl, (Option.some.inj hx).symm⟩
        have hj := (List.getElem?_eq_some_iff.mp hy).1
        have sl : sads.length ≤ 8 := by rw [hst.len, List.length_map, List.length_take]; omega
        refine ⟨rfl, ?_⟩
        refine tYes_ok ?_
        refine iteT ?_
        refine ⟨_, rfl, by show 3 ≤ sizeLine; decide, fun tp htp => ?_⟩
        have nDt : D ≠ tp := ne_of_none hD' htp
        have sT := Same.upd (o := HO.tup [V.int 5, V.str y, V.int 5]) (same_rfl (H := H')) htp
        have hDT := sT _ _ hD'
        refine ⟨_, hDT, by rw [List.length_map]; omega, fun b o e => ?_, sads ++ [tp], by rw [upd_same, List.map_append]; rfl, ?_⟩
        · rw [upd_ne (ne_of_none e hD)]
          exact sT _ _ (s' _ _ e)
        · rw [List.take_add_one, hy, List.map_append]
          refine (hst.same sT).snoc (fun i b f h1 h2 => ?_) (by rw [upd_ne nDt.symm]; exact upd_same)
          have hb := (hst.same sT).at_ i b f h1 h2
          rw [upd_ne fun z => by rw [z, hDT] at hb; cases hb]
      · rintro H2 ⟨s2, sads, hD2, hst⟩
        rw [List.length_map, List.take_length] at hst
        intro x dx hx hdx nex
        have sM : Same H2 (upd (upd H2 dx (.own x)) x (.ins CM dx [])) := fun b o e => by
          rw [upd_ne (ne_of_none e hx), upd_ne (ne_of_none e hdx)]; exact e
        refine ⟨x, dx, D, 5, sads, names.map loopS, .non, rfl, upd_same, by rw [upd_ne nex, upd_same], ⟨sM _ _ hD2, hst.same sM, loop_steps hnm hn8, ⟨by decide, by decide⟩, fun ks hnd hks => ?_, .inl rfl, loop_live hn8⟩, fun H' d ws fk sb hdm FA hfk => ⟨rfl, ?_⟩⟩
        · have : ks.length ≤ names.length := nd_le hnd fun a ha => by
            obtain ⟨e, he, h1⟩ := hks a ha
            obtain ⟨z, hz, rfl⟩ := List.mem_map.mp he
            exact h1 ▸ hz
          omega
        · rw [hfk rfl] at FA
          subst hdm
          refine ⟨d, ws, rfl, fun b o e => ?_, FA⟩
          have e2 := s2 _ _ e
          exact sb b o (ne_of_none e2 hx) (sM _ _ e2)
    rintro σ' H1 ⟨d, ws, rfl, s1, FA⟩
    refine ⟨_, rfl, na, names, rfl, SqL.of (s1 _ _ hna), by omega, fun ys wa hpm hso hwa => ?_⟩
    have ynd : ys.Nodup := hpm.nodup_iff.mpr hnm.nd
    have yasc := sorted_asc hso ynd
    have ywm : ∀ x, x ∈ ys ↔ x ∈ ws := fun x => by
      rw [hpm.mem_iff, FA.wmem]
      constructor
      · intro h; exact ⟨loopS x, List.mem_map.mpr ⟨x, h, rfl⟩, rfl⟩
      · rintro ⟨e, he, rfl⟩
        obtain ⟨z, hz, rfl⟩ := List.mem_map.mp he
        exact hz
    have eyw : ws = ys := asc_unique tlt_irrefl tlt_trans (sorted_asc FA.wso FA.wnd) yasc fun x => (ywm x).symm
    subst eyw
    have hN : ∀ x ∈ ws, IsName x := fun x hx => hnm.nm x (hpm.mem_iff.mp hx)
    have w8 : ws.length = 8 := hpm.length_eq.trans hn8
    have hL : Loops (names.map loopS) ws := ⟨fun e he => by
      obtain ⟨x, hx, rfl⟩ := List.mem_map.mp he
      exact ⟨rfl, rfl, hpm.mem_iff.mpr hx⟩, fun x hx => List.mem_map.mpr ⟨x, hpm.mem_iff.mp hx, rfl⟩⟩
    obtain ⟨y0, y1, y2, y3, y4, y5, y6, y7, rfl⟩ := len8 w8
    have s2 := s1.upd (o := HO.lst (([y0, y1, y2, y3, y4, y5, y6, y7] : List Str).map V.str)) (s1.free hwa)
    have sA := Same.upd (o := HO.lst (([y0, y1, y2, y3, y4, y5, y6, y7] : List Str).map V.str)) (same_rfl (H := H1)) hwa
    have hwa2 : ∀ o, upd H1 wa o wa = some o := fun o => upd_same
    have hwa2 := hwa2 (HO.lst (([y0, y1, y2, y3, y4, y5, y6, y7] : List Str).map V.str))
    have FA2 := FA.same sA
    generalize upd H1 wa (.lst (([y0, y1, y2, y3, y4, y5, y6, y7] : List Str).map V.str)) = H2 at s2 hwa2 FA2 ⊢
    have atk : ∀ j, j < 8 → atI (([y0, y1, y2, y3, y4, y5, y6, y7] : List Str).map V.str) ((0 : Int) + ((j : Nat) : Int)) = some (.str (([y0, y1, y2, y3, y4, y5, y6, y7] : List Str).getD j Str.empty)) := fun j hj => by
      rw [Int.zero_add]
      refine atS ?_
      rw [List.getD_eq_getElem?_getD, List.getElem?_eq_getElem (by exact hj)]
      rfl
    refine ⟨8, rfl, by decide, by decide, fun D hD => lc_range (lo := 0) (n := 8) (fun j H' => Same H2 H' ∧ ∃ rads : List Addr, H' D = some (.lst (rads.map .ref)) ∧ RowsAt H' rads ((List.range j).map fun k => List.replicate 7 (V.str y0) ++ [V.str (([y0, y1, y2, y3, y4, y5, y6, y7] : List Str).getD k Str.empty)]))
      ⟨Same.upd same_rfl hD, [], upd_same, ⟨rfl, fun i a e h => by simp at h⟩⟩ ?_ ?_⟩
    · rintro j H' hj ⟨s', rads, hD', hra⟩
      have rl : rads.length = j := by rw [hra.1, List.length_map, List.length_range]
      refine ⟨rfl, ?_⟩
      refine tYes_ok ?_
      refine iteT ?_
      have hw' := s' _ _ hwa2
      refine ⟨_, rfl, wa, _, _, _, rfl, rfl, SqL.of hw', atS (j := 0) rfl, by show 1 ≤ sizeLine; decide, fun t1 ht1 => ?_⟩
      have sT1 := Same.upd (o := HO.tup [V.str y0]) (same_rfl (H := H')) ht1
      refine ⟨t1, 7, [V.str y0], rfl, rfl, SqT.of upd_same, by simp, by decide, by decide, by show 1 ≤ 1000; decide, fun t2 ht2 => ?_⟩
      have sT2 := sT1.upd (o := HO.tup (List.replicate (7 : Int).toNat [V.str y0]).flatten) (sT1.free ht2)
      refine ⟨_, rfl, _, rfl, wa, _, _, _, rfl, rfl, SqL.of (sT2 _ _ hw'), atk j hj, by show 1 ≤ sizeLine; decide, fun t3 ht3 => ?_⟩
      have sT3 := sT2.upd (o := HO.tup [V.str (([y0, y1, y2, y3, y4, y5, y6, y7] : List Str).getD j Str.empty)]) (sT2.free ht3)
      refine ⟨t2, t3, (List.replicate (7 : Int).toNat [V.str y0]).flatten, _, rfl, rfl, SqT.of (by rw [upd_ne (ne_of_none upd_same ht3)]; exact upd_same), SqT.of upd_same, by simp, by show 8 ≤ sizeLine; decide, (fun z => by cases z), fun _ t4 ht4 => ?_⟩
      have sT4 := sT3.upd (o := HO.tup ((List.replicate (7 : Int).toNat [V.str y0]).flatten ++ [V.str (([y0, y1, y2, y3, y4, y5, y6, y7] : List Str).getD j Str.empty)])) (sT3.free ht4)
      have hD4 := sT4 _ _ hD'
      refine ⟨_, hD4, by rw [List.length_map]; omega, fun b o e => ?_, rads ++ [t4], by rw [upd_same, List.map_append]; rfl, ?_⟩
      · rw [upd_ne (ne_of_none e hD)]
        exact sT4 _ _ (s' _ _ e)
      · rw [List.range_succ, List.map_append]
        have nD : ∀ {b es}, upd (upd (upd (upd H' t1 (.tup [V.str y0])) t2 (.tup (List.replicate (7 : Int).toNat [V.str y0]).flatten)) t3 (.tup [V.str (([y0, y1, y2, y3, y4, y5, y6, y7] : List Str).getD j Str.empty)])) t4 (.tup ((List.replicate (7 : Int).toNat [V.str y0]).flatten ++ [V.str (([y0, y1, y2, y3, y4, y5, y6, y7] : List Str).getD j Str.empty)])) b = some (.tup es) → b ≠ D := fun h z => by
          rw [z, hD4] at h; cases h
        refine (hra.same sT4).snoc (fun b es h => by rw [upd_ne (nD h)]; exact h) ?_
        rw [upd_ne (nD upd_same), upd_same]
        rfl
    rintro H3 ⟨s3, rads, hD3, hra⟩
    have s13 := s2.trans s3
    have hwa3 := s3 _ _ hwa2
    refine ⟨_, rfl, 4, rfl, by decide, by decide, fun D2 hD2 => lc_range (lo := 0) (n := 4) (fun j H' => Same H3 H' ∧ ∃ rads : List Addr, H' D2 = some (.lst (rads.map .ref)) ∧ RowsAt H' rads ((List.range j).map fun k => List.replicate 6 (V.str y0) ++ [V.str y1, V.str (([y0, y1, y2, y3, y4, y5, y6, y7] : List Str).getD k Str.empty)]))
      ⟨Same.upd same_rfl hD2, [], upd_same, ⟨rfl, fun i a e h => by simp at h⟩⟩ ?_ ?_⟩
    · rintro j H' hj ⟨s', rads, hD', hra⟩
      have rl : rads.length = j := by rw [hra.1, List.length_map, List.length_range]
      refine ⟨rfl, ?_⟩
      refine tYes_ok ?_
      refine iteT ?_
      have hw' := s' _ _ hwa3
      refine ⟨_, rfl, wa, _, _, _, rfl, rfl, SqL.of hw', atS (j := 0) rfl, by show 1 ≤ sizeLine; decide, fun t1 ht1 => ?_⟩
      have sT1 := Same.upd (o := HO.tup [V.str y0]) (same_rfl (H := H')) ht1
      refine ⟨t1, 6, [V.str y0], rfl, rfl, SqT.of upd_same, by simp, by decide, by decide, by show 1 ≤ 1000; decide, fun t2 ht2 => ?_⟩
      have sT2 := sT1.upd (o := HO.tup (List.replicate (6 : Int).toNat [V.str y0]).flatten) (sT1.free ht2)
      refine ⟨_, rfl, wa, _, _, _, rfl, rfl, SqL.of (sT2 _ _ hw'), atS (j := 1) rfl, _, rfl, _, rfl, wa, _, _, _, rfl, rfl, SqL.of (sT2 _ _ hw'), atk j (by omega), by show 2 ≤ sizeLine; decide, fun t3 ht3 => ?_⟩
      have sT3 := sT2.upd (o := HO.tup [V.str y1, V.str (([y0, y1, y2, y3, y4, y5, y6, y7] : List Str).getD j Str.empty)]) (sT2.free ht3)
      refine ⟨t2, t3, (List.replicate (6 : Int).toNat [V.str y0]).flatten, _, rfl, rfl, SqT.of (by rw [upd_ne (ne_of_none upd_same ht3)]; exact upd_same), SqT.of upd_same, by simp, by show 8 ≤ sizeLine; decide, (fun z => by cases z), fun _ t4 ht4 => ?_⟩
      have sT4 := sT3.upd (o := HO.tup ((List.replicate (6 : Int).toNat [V.str y0]).flatten ++ [V.str y1, V.str (([y0, y1, y2, y3, y4, y5, y6, y7] : List Str).getD j Str.empty)])) (sT3.free ht4)
      have hD4 := sT4 _ _ hD'
      refine ⟨_, hD4, by rw [List.length_map]; omega, fun b o e => ?_, rads ++ [t4], by rw [upd_same, List.map_append]; rfl, ?_⟩
      · rw [upd_ne (ne_of_none e hD2)]
        exact sT4 _ _ (s' _ _ e)
      · rw [List.range_succ, List.map_append]
        have nD : ∀ {b es}, upd (upd (upd (upd H' t1 (.tup [V.str y0])) t2 (.tup (List.replicate (6 : Int).toNat [V.str y0]).flatten)) t3 (.tup [V.str y1, V.str (([y0, y1, y2, y3, y4, y5, y6, y7] : List Str).getD j Str.empty)])) t4 (.tup ((List.replicate (6 : Int).toNat [V.str y0]).flatten ++ [V.str y1, V.str (([y0, y1, y2, y3, y4, y5, y6, y7] : List Str).getD j Str.empty)])) b = some (.tup es) → b ≠ D2 := fun h z => by
          rw [z, hD4] at h; cases h
        refine (hra.same sT4).snoc (fun b es h => by rw [upd_ne (nD h)]; exact h) ?_
        rw [upd_ne (nD upd_same), upd_same]
        rfl
    rintro H4 ⟨s4, rads2, hD4, hra2⟩
    have l1 : rads.length = 8 := by rw [hra.1, List.length_map, List.length_range]
    have l2 : rads2.length = 4 := by rw [hra2.1, List.length_map, List.length_range]
    refine ⟨D, D2, _, _, rfl, rfl, s4 _ _ hD3, hD4, by rw [List.length_map, List.length_map]; omega, fun du hdu => ?_⟩
    have s5 := Same.upd (o := HO.lst (rads.map V.ref ++ rads2.map V.ref)) (same_rfl (H := H4)) hdu
    have hdue : upd H4 du (.lst (rads.map V.ref ++ rads2.map V.ref)) du = some (.lst ((rads ++ rads2).map V.ref)) := by rw [upd_same, List.map_append]
    have hrows : RowsAt (upd H4 du (.lst (rads.map V.ref ++ rads2.map V.ref))) (rads ++ rads2) (strsV (first12 y0 y1 y2 y3 y4 y5 y6 y7)) := by
      have x1 := (hra.same s4).same s5
      have x2 := hra2.same s5
      have eF : strsV (first12 y0 y1 y2 y3 y4 y5 y6 y7) = ((List.range 8).map fun k => List.replicate 7 (V.str y0) ++ [V.str (([y0, y1, y2, y3, y4, y5, y6, y7] : List Str).getD k Str.empty)]) ++ ((List.range 4).map fun k => List.replicate 6 (V.str y0) ++ [V.str y1, V.str (([y0, y1, y2, y3, y4, y5, y6, y7] : List Str).getD k Str.empty)]) := rfl
      rw [eF]
      refine ⟨by rw [List.length_append, List.length_append, x1.1, x2.1], fun i b f h1 h2 => ?_⟩
      by_cases hi : i < rads.length
      · rw [List.getElem?_append_left hi] at h1
        rw [List.getElem?_append_left (by rw [← x1.1]; exact hi)] at h2
        exact x1.2 i b f h1 h2
      · rw [List.getElem?_append_right (by omega)] at h1
        rw [List.getElem?_append_right (by rw [← x1.1]; omega), ← x1.1] at h2
        exact x2.2 _ b f h1 h2
    have s25 := (s3.trans s4).trans s5
    have sH5 := (s2.trans (s3.trans s4)).trans s5
    generalize upd H4 du (.lst (rads.map V.ref ++ rads2.map V.ref)) = H5 at s5 hdue hrows s25 sH5 ⊢
    have FA5 := FA2.same s25
    have hsm : Small (names.map loopS) := fun e he => ⟨((loop_steps hnm hn8).ok e he).a, ((loop_steps hnm hn8).ok e he).c⟩
    have R := reach_clo hsm (q0 := 5) ⟨by decide, by decide⟩
    refine ⟨_, rfl, _, rfl, d, 5, names.map loopS, [y0, y1, y2, y3, y4, y5, y6, y7], rfl, FA5, hN, by show 8 ≤ 1000; decide, fun H6 wt dw tb s6 W => ?_⟩
    refine ⟨d, 5, names.map loopS, clo (names.map loopS) [] [5], wt, dw, tb, idT [y0, y1, y2, y3, y4, y5, y6, y7], 8, rfl, ⟨by decide, hsm, R, clo_nd _ _ _, by rw [List.length_map]; omega, [y0, y1, y2, y3, y4, y5, y6, y7], by show 8 < 64; decide, fun e he x hx => see_id_mem hx⟩, (FA5.same s6).mach, W, fun H7 a ads s7 _ hl7 hr7 _ => ?_⟩
    refine ⟨_, rfl, .ref a, .ref du, rfl, ?_, fun H8 s8 => q H8 ((sH5.trans (s6.trans s7)).trans s8)⟩
    have s57 := s6.trans s7
    have eR : (rowsV (names.map loopS) (idT [y0, y1, y2, y3, y4, y5, y6, y7]) (clo (names.map loopS) [] [5]) 5 8).take 12 = strsV (first12 y0 y1 y2 y3 y4 y5 y6 y7) := by
      unfold rowsV strsV
      rw [wide_rows hL yasc R, ← List.map_take, pw_first]
    rw [eR] at hr7
    exact sameD_rows hl7 (s57 _ _ hdue) hr7 (hrows.same s57) (by show 12 ≤ 1000; decide) fun r hr => by
      have : ∀ r ∈ first12 y0 y1 y2 y3 y4 y5 y6 y7, r.length = 8 := by
        intro r hr
        unfold first12 at hr
        simp only [List.map_cons, List.map_nil, List.cons_append, List.nil_append, List.mem_cons, List.not_mem_nil, or_false] at hr
        rcases hr with rfl | rfl | rfl | rfl | rfl | rfl | rfl | rfl | rfl | rfl | rfl | rfl <;> rfl
      rw [this r hr]; decide
end
end KN
/-! _law_system. -/
namespace KN
open PySem PySem.Spec PyProof.Rows L2
abbrev sSys : Stmt := top 60
abbrev nSys : List Str := ["_law_script", "_law_most", "_law_extra", "_law_many", "_law_names_here", "_law_labels", "_law_steps", "_law_digit", "_law_table"]
theorem sc60 : FnScope nSys ["_law_script", "_law_most", "_law_extra", "_law_many"] (defScope sSys) := ⟨rfl, rfl, rfl, by decide +kernel, rfl, by decide +kernel, by decide +kernel⟩
/-- what the law's system is -/
structure SysD (names marks : List Str) (labs : List Int) (st : List Step) (q0 : Int) (T : List (Str × Str)) : Prop where
  n6 : names.length = 6
  nd : names.Nodup
  nn : ∀ x ∈ names, IsName x
  m2 : marks.length = 2
  mn : ∀ x ∈ marks, IsName x
  M : MData names labs st
  l7 : labs.length ≤ 7
  q0 : q0 ∈ labs
  T3 : T.length ≤ 3
  Tn : ∀ e ∈ T, (IsName e.1 ∧ IsName e.2) ∧ ∃ f ∈ st, f.2.1 = e.1
def spSys (K : PySem.W.Frag) : Sp := fun vs H Q _ => ∃ (a : Addr) (ns : List Int), vs = [.ref a, .int 7, .int 6, .int 6] ∧ SqL K H a (ns.map V.int) ∧ (∀ c ∈ ns, Bd c) ∧ ns.length ≤ 1000 ∧
  ∀ (H' : Hp) (p sa ta na ma : Addr) (q0 : Int) (labs : List Int) (ads : List Addr) (st : List Step) (T : List (Str × Str)) (names marks : List Str), Same H H' → H p = none → H' p = some (.lst [.int q0, .ref sa, .ref ta, .ref na, .ref ma]) →
    H' sa = some (.lst (ads.map .ref)) → StepsAt H' ads st → H' ta = some (.dK (tabV T)) → H' na = some (.lst (names.map .str)) → H' ma = some (.lst (marks.map .str)) → SysD names marks labs st q0 T → Q (.ref p) H'
section
variable {P : Program} {w : World} {K : PySem.W.Frag} {mg : Str → Option Value} {base : Heap}
theorem ok_sys (B : Bx mg) (CE : CalF P w K mg base 2 "_law_cell" ["_law_script", "_law_k"] (spCellB K)) (NA : CalF P w K mg base 3 "_law_names" ["_law_cell_here", "_law_many"] spNames) (MA : CalF P w K mg base 3 "_law_machine" ["_law_cell_here", "_law_names_here", "_law_most", "_law_extra"] spMach)
    (RO : CalF P w K mg base 2 "_law_row" ["_law_cell_here", "_law_sizes"] spRow) (FA : CalF P w K mg base 1 "_law_faults" ["_law_digit", "_law_steps", "_law_names_here", "_law_marks"] spLFaults)
    {f : Addr} {fd : FuncData} (F : Fun K "_law_system" "_law_system" sSys f fd) : FnOk P w K mg base CX0 4 f fd ["_law_script", "_law_most", "_law_extra", "_law_many"] (spSys K) := by
  refine F.ok sc60 (fun vs H Q E h => ?_) (fun cdv A outer s H vs Q E hr h => ?_)
  · obtain ⟨_, _, rfl, _⟩ := h
    rfl
  · obtain ⟨a, ns, rfl, hS, hB, hl, q⟩ := h
    refine ⟨_, pss_cons (ps_set (i := 4) sc60.nd rfl (Or.inl rfl) (pe_call NA.F hr (by rfl) NA.m NA.kp NA.b .nil pass0 (pa_cons (pe_call CE.F (hr.mono (by decide)) (by rfl) CE.m CE.kp CE.b .nil pass0 (pa_cons (pv 0) (pa_cons pe_int pa_nil))) (pa_cons (pe_op op_add (pv 3) pe_int) pa_nil))))
      (pss_cons (ps_asg (pe_call MA.F hr (by rfl) MA.m MA.kp MA.b .nil pass0 (pa_cons (pe_call CE.F (hr.mono (by decide)) (by rfl) CE.m CE.kp CE.b .nil pass0 (pa_cons (pv 0) (pa_cons pe_int pa_nil))) (pa_cons (pe_slice sl_list (pv 4) po_none (po_some (pv 3))) (pa_cons (pv 1) (pa_cons (pv 2) pa_nil))))) (pg_unl rfl (pgs_cons (pg_name (i := 5) sc60.nd rfl (Or.inl rfl)) (pgs_cons (pg_name (i := 6) sc60.nd rfl (Or.inl rfl)) pgs_nil))))
      (pss_cons (ps_set (i := 7) sc60.nd rfl (Or.inl rfl) (pe_ix ix_list (pe_call RO.F (hr.mono (by decide)) (by rfl) RO.m RO.kp RO.b .nil pass0 (pa_cons (pe_call CE.F (hr.mono (by decide)) (by rfl) CE.m CE.kp CE.b .nil pass0 (pa_cons (pv 0) (pa_cons pe_int pa_nil))) (pa_cons (pe_lst (pa_cons pe_int (pa_cons pe_int pa_nil))) pa_nil))) pe_int (fun _ _ => rfl)))
      (pss_cons (ps_set (i := 8) sc60.nd rfl (Or.inl rfl) (pe_call FA.F (hr.mono (by decide)) (by rfl) FA.m FA.kp FA.b .nil pass0 (pa_cons (pv 7) (pa_cons (pv 6) (pa_cons (pv 4) (pa_cons (pe_slice sl_list (pv 4) (po_some (pv 3)) po_none) pa_nil))))))
      (pss_one (ps_ret (pe_lst (pa_cons (pe_ix ix_list (pv 5) pe_int (fun _ _ => rfl)) (pa_cons (pv 6) (pa_cons (pv 8) (pa_cons (pe_slice sl_list (pv 4) po_none (po_some (pv 3))) (pa_cons (pe_slice sl_list (pv 4) (po_some (pv 3)) po_none) pa_nil))))))))))), ?_⟩
    refine ⟨_, rfl, a, ns, 0, rfl, hS, hB, hl, by decide, fun c0 hc0 => ?_⟩
    refine ⟨_, rfl, _, _, rfl, rfl, c0, 8, rfl, hc0, by decide, by decide, fun H1 n8 names s1 hn8 hn81 hnl hok => ?_⟩
    have hS1 : SqL K H1 a (ns.map V.int) := s1.seq hS
    refine ⟨_, rfl, a, ns, 1, rfl, hS1, hB, hl, by decide, fun c1 hc1 => ?_⟩
    have ep : cutV (names.map V.str) none (some 6) = (names.take 6).map V.str := by
      rw [List.map_take]
      exact cut_pre (t := 6) (by rw [List.length_map]; omega)
    have es : cutV (names.map V.str) (some 6) none = (names.drop 6).map V.str := by
      rw [List.map_drop]
      exact cut_suf (t := 6) (by rw [List.length_map]; omega)
    have tnd : (names.take 6).Nodup := hok.nd.sublist (List.take_sublist 6 names)
    have tnm : ∀ x ∈ names.take 6, IsName x := fun x hx => hok.nm x (List.mem_of_mem_take hx)
    have t6 : (names.take 6).length = 6 := by rw [List.length_take]; omega
    refine ⟨_, rfl, _, rfl, _, rfl, n8, _, rfl, SqL.of hn81, fun n6 hn6 => ?_⟩
    rw [ep]
    have sA := Same.upd (o := HO.lst ((names.take 6).map V.str)) (same_rfl (H := H1)) hn6
    refine ⟨_, rfl, _, rfl, c1, n6, names.take 6, rfl, hc1, upd_same, t6, ⟨tnd, tnm⟩, fun H2 p2 la sa labs ads st s2 hp2 hp2' hla hsa hst MD => ?_⟩
    have s12 := sA.trans s2
    have sH2 := s1.trans s12
    refine ⟨p2, _, rfl, SqL.of hp2', rfl, _, _, rfl, _, _, rfl, rfl, ?_⟩
    refine ⟨_, rfl, a, ns, 2, rfl, sH2.seq hS, hB, hl, by decide, fun c2 hc2 => ?_⟩
    refine ⟨by show 2 ≤ sizeLine; decide, fun p3 hp3 => ?_⟩
    have sB := Same.upd (o := HO.lst [V.int 3, V.int 5]) (same_rfl (H := H2)) hp3
    refine ⟨c2, p3, [3, 5], rfl, hc2, upd_same, by decide, by decide, fun H3 p4 ds s3 hp4 hp4' D => ?_⟩
    have s23 := sB.trans s3
    have sH3 := sH2.trans s23
    obtain ⟨d0, hd0⟩ : ∃ d, ds[0]? = some d := ⟨_, List.getElem?_eq_getElem (by rw [D.len]; decide)⟩
    refine ⟨p4, _, _, _, rfl, rfl, SqL.of hp4', atN (j := 0) hd0, ?_⟩
    have s13 := s12.trans s23
    have hn83 := s13 _ _ hn81
    refine ⟨_, rfl, _, rfl, _, rfl, _, rfl, _, rfl, _, rfl, n8, _, rfl, SqL.of hn83, fun ma0 hma0 => ?_⟩
    rw [es]
    have sC := Same.upd (o := HO.lst ((names.drop 6).map V.str)) (same_rfl (H := H3)) hma0
    have n68 : names.length = 8 := hnl
    have dnm : ∀ x ∈ names.drop 6, IsName x := fun x hx => hok.nm x (List.mem_of_mem_drop hx)
    refine ⟨d0, sa, n8, ma0, ads, st, names, names.drop 6, rfl, sC _ _ (s23 _ _ hsa), (hst.same s23).same sC, sC _ _ hn83, upd_same, by omega, by rw [List.length_drop]; omega, by have := MD.le; omega, hok.nm, dnm, fun n0 h0 => MD.hw n0 (by rw [List.getElem?_take_of_lt (by decide)]; exact h0), fun H4 ta T s4 hta hta' hT3 hTn => ?_⟩
    have s34 := sC.trans s4
    have s14 := s13.trans s34
    have s24 := s23.trans s34
    have sH4 := sH3.trans s34
    obtain ⟨q0, hq0⟩ : ∃ q, labs[0]? = some q := ⟨_, List.getElem?_eq_getElem (List.length_pos_iff.mpr MD.ne)⟩
    refine ⟨_, rfl, la, _, _, _, rfl, rfl, SqL.of (s24 _ _ hla), atL (j := 0) hq0, _, rfl, _, rfl, _, rfl, _, rfl, _, rfl, n8, _, rfl, SqL.of (s14 _ _ hn81), fun na' hna' => ?_⟩
    rw [ep]
    have sD := Same.upd (o := HO.lst ((names.take 6).map V.str)) (same_rfl (H := H4)) hna'
    refine ⟨_, rfl, _, rfl, _, rfl, n8, _, rfl, SqL.of (sD _ _ (s14 _ _ hn81)), fun ma' hma' => ?_⟩
    rw [es]
    have sE := sD.upd (o := HO.lst ((names.drop 6).map V.str)) (sD.free hma')
    have nam : na' ≠ ma' := ne_of_none upd_same hma'
    refine ⟨by show 5 ≤ sizeLine; decide, fun p hp => ?_⟩
    have sF := sE.upd (o := HO.lst [V.int q0, V.ref sa, V.ref ta, V.ref na', V.ref ma']) (sE.free hp)
    refine q _ p sa ta na' ma' q0 labs ads st T (names.take 6) (names.drop 6) (sH4.trans sF) (sH4.free (sE.free hp)) upd_same (sF _ _ (s24 _ _ hsa)) ((hst.same s24).same sF) (sF _ _ hta') ?_ ?_ ?_
    · have e1 : upd (upd H4 na' (.lst ((names.take 6).map V.str))) ma' (.lst ((names.drop 6).map V.str)) na' = some (.lst ((names.take 6).map V.str)) := by
        rw [upd_ne nam]; exact upd_same
      rw [upd_ne (ne_of_none e1 hp)]; exact e1
    · rw [upd_ne (ne_of_none upd_same hp)]; exact upd_same
    · exact { n6 := t6, nd := tnd, nn := tnm, m2 := by rw [List.length_drop]; omega, mn := dnm, M := MD, l7 := MD.l7, q0 := List.mem_of_getElem? hq0, T3 := hT3, Tn := hTn }
end
end KN
/-! The law's machine and rows: plain facts. -/
namespace KN
open PySem PySem.Spec PyProof.Rows L2
section
variable {names marks : List Str} {labs : List Int} {st : List Step} {q0 : Int} {T0 : List (Str × Str)}
theorem SysD.steps (S : SysD names marks labs st q0 T0) : OkSteps st where
  ne := by
    obtain ⟨e, he, _⟩ := S.M.lv q0 S.q0
    exact List.length_pos_of_mem he
  le := Nat.le_trans S.M.le (by decide)
  ok := fun e he => ⟨S.M.sm _ (S.M.ok e he).1, S.nn _ (S.M.ok e he).2.1, S.M.sm _ (S.M.ok e he).2.2⟩
  nd := S.M.nd
  few := S.M.few
theorem SysD.small (S : SysD names marks labs st q0 T0) : Small st := fun e he => ⟨S.M.sm _ (S.M.ok e he).1, S.M.sm _ (S.M.ok e he).2.2⟩
theorem SysD.clo_labs (S : SysD names marks labs st q0 T0) {T : List (Str × Str)} {q : Int} (h : q ∈ clo st T [q0]) : q ∈ labs := by
  unfold clo at h
  rw [mem_asc] at h
  exact ur_labs (fun z hz => by rw [List.mem_singleton.mp hz]; exact S.q0) (fun e he => (S.M.ok e he).2.2) h.2
theorem SysD.live (S : SysD names marks labs st q0 T0) : ∀ q ∈ clo st [] [q0], nums st q ≠ [] := fun q hq => by
  obtain ⟨e, he, h1⟩ := S.M.lv q (S.clo_labs hq)
  obtain ⟨i, hi⟩ := List.getElem?_of_mem he
  exact List.ne_nil_of_mem (mem_nums.mpr ⟨e, hi, h1⟩)
theorem SysD.few14 (S : SysD names marks labs st q0 T0) : ∀ ks : List Str, ks.Nodup → (∀ x ∈ ks, ∃ e ∈ st, e.2.1 = x) → ks.length ≤ 14 := fun ks hn h => by
  have : ks.length ≤ names.length := nd_le hn fun x hx => by
    obtain ⟨e, he, rfl⟩ := h x hx
    exact (S.M.ok e he).2.1
  have := S.n6
  omega
theorem SysD.reach (S : SysD names marks labs st q0 T0) : Reach st (clo st [] [q0]) q0 := reach_clo S.small (S.M.sm _ S.q0)
theorem see_val {T : List (Str × Str)} {x y : Str} (h : see T x = some y) : ∃ p ∈ T, p.2 = y := by
  unfold see at h
  cases e : T.find? fun p => decide (p.1 = x) with
  | none => rw [e] at h; cases h
  | some p =>
    rw [e] at h
    exact ⟨p, List.mem_of_find?_eq_some e, Option.some.inj h⟩
theorem SysD.dat (S : SysD names marks labs st q0 T0) {CM CW : Addr} {d : MD} {wt dw tb : Addr} {T : List (Str × Str)} {n : Nat} (hn : n ≤ 8) (hT : T.length ≤ 6) : Dat CM CW d q0 st (clo st [] [q0]) wt dw tb T n :=
  ⟨hn, S.small, S.reach, clo_nd _ _ _, Nat.le_trans S.M.le (by decide), T.map (·.2), by rw [List.length_map]; omega, fun e _ x hx => by
    obtain ⟨p, hp, h⟩ := see_val hx
    exact List.mem_map.mpr ⟨p, hp, h⟩⟩
end
section
variable {st : List Step} {T : List (Str × Str)}
/-- what leads somewhere is seen -/
theorem rr_vals : ∀ (r : List Str) (P : Int → Prop) (q : Int), RR st T P r q → ∀ x ∈ r, ∃ p ∈ T, p.2 = x
  | [], _, _, _, x, h => by cases h
  | y :: r, P, q, h, x, hx => by
    have h : RR st T (aft st T P y) r q := h
    rcases List.mem_cons.mp hx with z | z
    · obtain ⟨p, h1, _⟩ := RR_split h
      obtain ⟨t, ⟨e, _, _, _, h5⟩, _⟩ := ur_first h1
      rw [z]
      exact see_val h5
    · exact rr_vals r _ q h x z
def ClosedP (st : List Step) (T : List (Str × Str)) (P : Int → Prop) : Prop := ∀ q t, P q → unseen st T q t → P t
theorem rr_closed : ∀ (r : List Str) (P : Int → Prop), ClosedP st T P → ClosedP st T (RR st T P r)
  | [], _, h => h
  | x :: r, P, _ => rr_closed r (aft st T P x) fun _ _ h u => .step h u
theorem run_rr {q0 q : Int} {path : List Nat} (h : RunTo st q0 path q) : RR st T (UR st T (· = q0)) (seenOf st T path) q := by
  induction h with
  | nil => exact .base rfl
  | @snoc p q i e _ hi he ih =>
    have es : seenOf st T (p ++ [i]) = seenOf st T p ++ (see T e.2.1).toList := by
      unfold seenOf
      rw [List.filterMap_append]
      congr 1
      rw [List.filterMap_cons, hi, Option.bind_some]
      cases see T e.2.1 <;> rfl
    rw [es]
    have hm := List.mem_of_getElem? hi
    cases hs : see T e.2.1 with
    | none =>
      rw [Option.toList_none, List.append_nil]
      exact rr_closed (seenOf st T p) _ (fun _ _ h u => .step h u) _ _ ih ⟨e, hm, he, rfl, hs⟩
    | some y =>
      show RR st T _ (seenOf st T p ++ [y]) _
      rw [RR_append]
      exact .base ⟨e, hm, by rw [he]; exact ih, rfl, hs⟩
theorem rr_take {P : Int → Prop} {r : List Str} {q : Int} (n : Nat) (h : RR st T P r q) : ∃ p, RR st T P (r.take n) p := by
  rw [← List.take_append_drop n r, RR_append] at h
  obtain ⟨p, hp, _⟩ := RR_split h
  exact ⟨p, hp⟩
theorem run_feas {q0 q : Int} {path : List Nat} (n : Nat) (h : RunTo st q0 path q) : Feas st T q0 ((seenOf st T path).take n) := rr_take n (run_rr h)
/-- a row that a walk shows and that is not among the first twelve -/
theorem behind12 {reach : List Int} {q0 : Int} {n : Nat} (R : Reach st reach q0) {r : List Str} (hl : r.length = n) (hf : Feas st T q0 r) (hn : r ∉ (frows st T reach q0 n).take 12) :
    ((frows st T reach q0 n).take 12).length = 12 ∧ ∀ l, ((frows st T reach q0 n).take 12)[11]? = some l → ltB r l = false := by
  have hm : r ∈ frows st T reach q0 n := (frows_mem R r).mpr ⟨hl, hf⟩
  have ha : (frows st T reach q0 n).Pairwise rlt := frows_asc
  generalize frows st T reach q0 n = L at hn hm ha
  rw [← List.take_append_drop 12 L] at hm ha
  rcases List.mem_append.mp hm with z | z
  · exact absurd z hn
  · have h12 : (L.take 12).length = 12 := by
      have : 12 < L.length := by
        refine Nat.lt_of_not_le fun w => ?_
        rw [List.drop_eq_nil_of_le w] at z
        cases z
      rw [List.length_take]; omega
    refine ⟨h12, fun l e => ?_⟩
    have hlt := (List.pairwise_append.mp ha).2.2 l (List.mem_of_getElem? e) r z
    cases q : ltB r l with
    | false => rfl
    | true => exact absurd (rlt_trans _ _ _ hlt ((ltB_iff _ _).mp q)) (rlt_irrefl l)
end
/-! ### rows as data -/
def rowD (r : List Str) : PyData := .tuple (r.map PyData.str)
theorem strs_lay : ∀ r : List Str, (∀ x ∈ r, IsName x) → PyData.canLayAll0 (r.map PyData.str) = true
  | [], _ => by simp [PyData.canLayAll0]
  | x :: r, h => by
    have h1 := name_ok (h x List.mem_cons_self)
    have h2 := strs_lay r fun y hy => h y (List.mem_cons_of_mem _ hy)
    simp [PyData.canLayAll0, PyData.canLay0, h1, h2]
theorem strs_depth : ∀ r : List Str, PyData.depthAll (r.map PyData.str) = 0
  | [] => by simp [PyData.depthAll]
  | x :: r => by
    have h2 := strs_depth r
    simp [PyData.depthAll, PyData.depth, h2]
theorem rowD_depth (r : List Str) : (rowD r).depth = 1 := by
  have := strs_depth r
  simp [rowD, PyData.depth, this]
theorem rowD_lay {r : List Str} (h : ∀ x ∈ r, IsName x) : (rowD r).canLay0 = true := by
  have := strs_lay r h
  simp [rowD, PyData.canLay0, this]
theorem rowD_shaped {r : List Str} (h : ∀ x ∈ r, IsName x) : SeqAt.shaped (rowD r) = true := by
  have h1 := rowD_depth r
  show ((rowD r).canLay0 && decide ((rowD r).depth ≤ 64)) = true
  rw [Bool.and_eq_true]
  exact ⟨rowD_lay h, decide_eq_true (by omega)⟩
theorem rowDs_lay : ∀ rs : List (List Str), (∀ r ∈ rs, ∀ x ∈ r, IsName x) → PyData.canLayAll0 (rs.map rowD) = true
  | [], _ => by simp [PyData.canLayAll0]
  | z :: zs, h => by simp [PyData.canLayAll0, rowD_lay (h z List.mem_cons_self), rowDs_lay zs fun e he => h e (List.mem_cons_of_mem _ he)]
theorem rowDs_depth : ∀ rs : List (List Str), PyData.depthAll (rs.map rowD) ≤ 1
  | [] => by simp [PyData.depthAll]
  | z :: zs => by
    have h1 := rowDs_depth zs
    have h2 := rowD_depth z
    simp only [List.map_cons, PyData.depthAll]
    omega
theorem rowDs_shaped {rs : List (List Str)} (hn : ∀ r ∈ rs, ∀ x ∈ r, IsName x) : SeqAt.shaped (.list (rs.map rowD)) = true := by
  have h1 := rowDs_depth rs
  have h2 : PyData.depth (.list (rs.map rowD)) ≤ 64 := by
    simp only [PyData.depth]
    omega
  show (PyData.canLay0 (.list (rs.map rowD)) && decide (PyData.depth (.list (rs.map rowD)) ≤ 64)) = true
  rw [Bool.and_eq_true]
  exact ⟨by simp only [PyData.canLay0]; exact rowDs_lay rs hn, decide_eq_true h2⟩
theorem strs_eqv : ∀ r r' : List Str, PyData.eqvAll (r.map PyData.str) (r'.map PyData.str) = decide (r = r')
  | [], [] => by simp [PyData.eqvAll]
  | [], _ :: _ => by simp [PyData.eqvAll]
  | _ :: _, [] => by simp [PyData.eqvAll]
  | x :: r, y :: r' => by
    have ih := strs_eqv r r'
    simp only [List.map_cons, PyData.eqvAll, PyData.eqv, ih]
    rw [Bool.eq_iff_iff]
    simp
theorem rowD_eqv (r r' : List Str) : PyData.eqv (rowD r) (rowD r') = decide (r = r') := by
  unfold rowD
  simp only [PyData.eqv]
  exact strs_eqv r r'
theorem any_row (zs : List (List Str)) (r : List Str) : ((zs.map rowD).any fun z => PyData.eqv z (rowD r)) = decide (r ∈ zs) := by
  rw [Bool.eq_iff_iff, List.any_eq_true, decide_eq_true_iff]
  constructor
  · rintro ⟨z, hz, h⟩
    obtain ⟨f, hf, rfl⟩ := List.mem_map.mp hz
    rw [rowD_eqv, decide_eq_true_iff] at h
    exact h ▸ hf
  · intro h
    exact ⟨_, List.mem_map_of_mem h, by rw [rowD_eqv]; exact decide_eq_true rfl⟩
theorem dp_strs {K : PySem.W.Frag} {H : Hp} : ∀ r : List Str, DpAll K H (r.map V.str) (r.map PyData.str)
  | [] => .nil
  | x :: r => .cons (.str x) (dp_strs r)
theorem dp_row {K : PySem.W.Frag} {H : Hp} {a : Addr} {r : List Str} (h : H a = some (.tup (r.map V.str))) : Dp K H (.ref a) (rowD r) := .tup (SqT.of h) (dp_strs r)
theorem dp_rows {K : PySem.W.Frag} {H : Hp} : ∀ {ads : List Addr} {rs : List (List Str)}, ads.length = rs.length → (∀ (i : Nat) (a : Addr) (r : List Str), ads[i]? = some a → rs[i]? = some r → H a = some (.tup (r.map V.str))) → DpAll K H (ads.map .ref) (rs.map rowD)
  | [], [], _, _ => .nil
  | [], _ :: _, h, _ => by cases h
  | _ :: _, [], h, _ => by cases h
  | a :: ads, e :: st, h, q => .cons (dp_row (q 0 a e rfl rfl)) (dp_rows (by simpa using h) fun i a e h1 h2 => q (i + 1) a e h1 h2)
theorem rows_at {H : Hp} {ads : List Addr} {rows : List (List Str)} (h : RowsAt H ads (strsV rows)) : ads.length = rows.length ∧ ∀ (i : Nat) (a : Addr) (r : List Str), ads[i]? = some a → rows[i]? = some r → H a = some (.tup (r.map V.str)) := by
  refine ⟨by rw [h.1]; unfold strsV; rw [List.length_map], fun i a r h1 h2 => h.2 i a _ h1 (by unfold strsV; rw [List.getElem?_map, h2]; rfl)⟩
/-- tuples of texts are not the same, within the generators' layer -/
theorem go_neD {X : Cx} (hu : X.A.units + 64 < cLine) : GOp X (compareOp .NotEq) (rNeD X.K) := by
  intro G pins s σ H x y v u Q J rx ry h
  obtain ⟨d, e, hd, he, sd, se, q⟩ := h
  obtain ⟨as, r1⟩ := Dp.reads J.iv d x v hd rx
  obtain ⟨bs, r2⟩ := Dp.reads J.iv e y u he ry
  exact SeqAt.compareNe_shaped r1 r2 sd se hu ⟨.bl _, H, J, rfl, q⟩
end KN
/-! law: its text. -/
namespace KN
open PySem PySem.Spec PyProof.Rows L2
abbrev sLaw : Stmt := top 67
abbrev nLaw : List Str := ["_law_script", "_law_start", "_law_steps", "_law_table", "_law_names_here", "_law_marks", "_law_machine_here", "_law_sights_here", "_law_others", "_law_numbers", "_law_many", "_law_told", "_law_mates", "_law_k", "_law_walk_here", "_law_row_here", "_law_watch", "_law_mate", "_law_few", "_law_one", "_law_other"]
theorem sc67 : FnScope nLaw ["_law_script"] (defScope sLaw) := ⟨rfl, rfl, rfl, by decide +kernel, rfl, by decide +kernel, by decide +kernel⟩
def spLaw (K : PySem.W.Frag) : Sp := fun vs H Q _ => ∃ (a : Addr) (ns : List Int), vs = [.ref a] ∧ SqL K H a (ns.map V.int) ∧ (∀ c ∈ ns, Bd c) ∧ ns.length ≤ 63 ∧ ∀ H', Q (.bl true) H'
/-- a watch's maker -/
structure MakeW (P : Program) (w : World) (K : PySem.W.Frag) (mg : Str → Option Value) (base : Heap) (CW : Addr) where
  f : Addr
  d : FuncData
  M : Mk K CW f
  F : FnOk P w K mg base CX0 3 f d ["self", "sights"] (spWInit CW)
  b : Binds K d ["self", "sights"] []
  g : mg "Watch" = some (.ref CW)
/-- all that the law calls -/
structure LawC (P : Program) (w : World) (K : PySem.W.Frag) (mg : Str → Option Value) (base : Heap) (CM CW : Addr) where
  B : Bx mg
  R : RowsC P w K mg base CM CW
  MM : MakeM P w K mg base CM
  MW : MakeW P w K mg base CW
  SY : CalF P w K mg base 4 "_law_system" ["_law_script", "_law_most", "_law_extra", "_law_many"] (spSys K)
  SI : CalF P w K mg base 3 "_law_sights" ["_law_cell_here", "_law_names_here", "_law_marks"] spLSights
  CE : CalF P w K mg base 2 "_law_cell" ["_law_script", "_law_k"] (spCellB K)
  RO : CalF P w K mg base 2 "_law_row" ["_law_cell_here", "_law_sizes"] spRow
  FI : CalF P w K mg base 7 "_law_first" ["_law_machine_here", "_law_watch", "_law_many"] (spFirst CM CW)
  WI : CalF P w K mg base 8 "_law_wide_holds" ["_law_names_here"] spWide
  NA : CalF P w K mg base 3 "_law_names" ["_law_cell_here", "_law_many"] spNames
  HO : CalF P w K mg base 4 "_law_holds" ["_law_told", "_law_many", "_law_start", "_law_steps", "_law_sights_here"] spHolds
  WA : CalF P w K mg base 1 "_law_walk" ["_law_row_here", "_law_steps", "_law_start"] spWalk
  SE : CalF P w K mg base 1 "_law_seen" ["_law_steps", "_law_table", "_law_path"] spSeen
/-- the slots at the last loop -/
abbrev sgL (v0 v1 v2 v3 v4 v5 : Option V) (m : Addr) (v7 v8 v9 : Option V) (n1 : Nat) (la lb : Addr) (k : Int) (v14 v15 : Option V) (w1 w2 : Addr) (n2 : Nat) (v19 v20 : Option V) : St :=
  [v0, v1, v2, v3, v4, v5, some (.ref m), v7, v8, v9, some (.int n1), some (.ref la), some (.ref lb), some (.int k), v14, v15, some (.ref w1), some (.ref w2), some (.int n2), v19, v20]
/-- the last loop's reading -/
def tLast (CM CW : Addr) : TS := fun D σ H => ∃ (v0 v1 v2 v3 v4 v5 v7 v8 v9 v14 v15 v19 v20 : Option V) (d : MD) (q0 : Int) (st : List Step) (reach : List Int) (w1 dw1 tb1 w2 dw2 tb2 la lb : Addr) (T1 T2 : List (Str × Str)) (n1 n2 : Nat) (A1 A2 : List Addr),
  σ = sgL v0 v1 v2 v3 v4 v5 d.m v7 v8 v9 n1 la lb 0 v14 v15 w1 w2 n2 v19 v20 ∧ Dat CM CW d q0 st reach w1 dw1 tb1 T1 n1 ∧ Dat CM CW d q0 st reach w2 dw2 tb2 T2 n2 ∧ MachAt CM H d q0 st reach ∧ WatchAt CW H w1 dw1 tb1 T1 ∧ WatchAt CW H w2 dw2 tb2 T2 ∧
  H la = some (.lst (A1.map .ref)) ∧ RowsAt H A1 (strsV ((frows st T1 reach q0 n1).take 12)) ∧ H lb = some (.lst (A2.map .ref)) ∧ RowsAt H A2 (strsV ((frows st T2 reach q0 n2).take 12)) ∧
  (∀ r ∈ frows st T1 reach q0 n1, ∀ x ∈ r, IsName x) ∧ (∀ r ∈ frows st T2 reach q0 n2, ∀ x ∈ r, IsName x) ∧ (∀ H', D.rt (.bl true) H') ∧
  ∀ (H' : Hp) (i : Nat) (v19 v20 : Option V), Same H H' → i = min ((frows st T1 reach q0 n1).take 12).length ((frows st T2 reach q0 n2).take 12).length → D.nx (sgL v0 v1 v2 v3 v4 v5 d.m v7 v8 v9 n1 la lb (i : Nat) v14 v15 w1 w2 n2 v19 v20) H'
theorem cut_preA {xs : List V} (t : Nat) : cutV xs none (some (t : Int)) = xs.take t := by
  unfold cutV
  rw [HT.sIx_none, HT.sIx_nat, Nat.sub_zero, List.drop_zero]
  by_cases h : t ≤ xs.length
  · rw [Nat.min_eq_left h]
  · rw [Nat.min_eq_right (by omega), List.take_of_length_le (Nat.le_refl _), List.take_of_length_le (by omega)]
theorem same_but {x : Addr} {H H1 H2 : Hp} (hx : H x = none) (sm : Same H H1) (sb : SameBut x H1 H2) : Same H H2 := fun b o e => sb b o (ne_of_none e hx) (sm b o e)
theorem run_lt {st : List Step} {q0 q : Int} {path : List Nat} (h : RunTo st q0 path q) : ∀ i ∈ path, i < st.length := by
  induction h with
  | nil => intro i h; cases h
  | snoc _ hi _ ih =>
    intro j hj
    rcases List.mem_append.mp hj with z | z
    · exact ih j z
    · rw [List.mem_singleton.mp z]
      exact (List.getElem?_eq_some_iff.mp hi).1
theorem seen_names {st : List Step} {T : List (Str × Str)} {path : List Nat} (hT : ∀ e ∈ T, IsName e.1 ∧ IsName e.2) : ∀ x ∈ seenOf st T path, IsName x := fun x hx => by
  obtain ⟨i, _, h⟩ := List.mem_filterMap.mp hx
  cases e : st[i]? with
  | none => rw [e] at h; cases h
  | some f =>
    rw [e, Option.bind_some] at h
    obtain ⟨p, hp, rfl⟩ := see_val h
    exact (hT p hp).2
theorem frows_names {st : List Step} {T : List (Str × Str)} {reach : List Int} {q0 : Int} {n : Nat} (R : Reach st reach q0) (hT : ∀ e ∈ T, IsName e.1 ∧ IsName e.2) : ∀ r ∈ frows st T reach q0 n, ∀ x ∈ r, IsName x := fun r hr x hx => by
  obtain ⟨_, q, h⟩ := (frows_mem R r).mp hr
  obtain ⟨p, hp, rfl⟩ := rr_vals r _ q h x hx
  exact (hT p hp).2
section
variable {P : Program} {w : World} {K : PySem.W.Frag} {mg : Str → Option Value} {base : Heap} {CM CW : Addr}
set_option maxHeartbeats 4000000 in
theorem ok_law (L : LawC P w K mg base CM CW) {f : Addr} {fd : FuncData} (F : Fun K "law" "law" sLaw f fd) : FnOk P w K mg base CX0 9 f fd ["_law_script"] (spLaw K) := by
  have B := L.B
  refine F.ok sc67 (fun vs H Q E h => ?_) (fun cdv A outer s H vs Q E hr h => ?_)
  · obtain ⟨_, _, rfl, _⟩ := h
    rfl
  · obtain ⟨a, ns, rfl, hS, hB, hl, q⟩ := h
    have hu64 : (A.deeper (envOfC "law" (defScope sLaw) s.heap.objs.size f cdv)).units + 64 < cLine := by have := hu65 hr; omega
    refine ⟨_, pss_cons (ps_asg (pe_call L.SY.F (hr.mono (by decide)) (by rfl) L.SY.m L.SY.kp L.SY.b .nil pass0 (pa_cons (pv 0) (pa_cons pe_int (pa_cons pe_int (pa_cons pe_int pa_nil))))) (pg_unl rfl (pgs_cons (pg_name (i := 1) sc67.nd rfl (Or.inl rfl)) (pgs_cons (pg_name (i := 2) sc67.nd rfl (Or.inl rfl)) (pgs_cons (pg_name (i := 3) sc67.nd rfl (Or.inl rfl)) (pgs_cons (pg_name (i := 4) sc67.nd rfl (Or.inl rfl)) (pgs_cons (pg_name (i := 5) sc67.nd rfl (Or.inl rfl)) pgs_nil)))))))
      (pss_cons (ps_set (i := 6) sc67.nd rfl (Or.inl rfl) (pe_make L.MM.M L.MM.F (hr.mono (by decide)) (by rfl) L.MM.g L.MM.b0 .nil pass0 (pa_cons (pv 1) (pa_cons (pv 2) (pa_cons (pv 3) pa_nil)))))
      (pss_cons (ps_set (i := 7) sc67.nd rfl (Or.inl rfl) (pe_call L.SI.F (hr.mono (by decide)) (by rfl) L.SI.m L.SI.kp L.SI.b .nil pass0 (pa_cons (pe_call L.CE.F (hr.mono (by decide)) (by rfl) L.CE.m L.CE.kp L.CE.b .nil pass0 (pa_cons (pv 0) (pa_cons pe_int pa_nil))) (pa_cons (pv 4) (pa_cons (pv 5) pa_nil)))))
      (pss_cons (ps_set (i := 8) sc67.nd rfl (Or.inl rfl) (pe_call L.SI.F (hr.mono (by decide)) (by rfl) L.SI.m L.SI.kp L.SI.b .nil pass0 (pa_cons (pe_call L.CE.F (hr.mono (by decide)) (by rfl) L.CE.m L.CE.kp L.CE.b .nil pass0 (pa_cons (pv 0) (pa_cons pe_int pa_nil))) (pa_cons (pv 4) (pa_cons (pv 5) pa_nil)))))
      (pss_cons (ps_set (i := 9) sc67.nd rfl (Or.inl rfl) (pe_call L.RO.F (hr.mono (by decide)) (by rfl) L.RO.m L.RO.kp L.RO.b .nil pass0 (pa_cons (pe_call L.CE.F (hr.mono (by decide)) (by rfl) L.CE.m L.CE.kp L.CE.b .nil pass0 (pa_cons (pv 0) (pa_cons pe_int pa_nil))) (pa_cons (pe_lst (pa_cons pe_int (pa_cons pe_int pa_nil))) pa_nil))))
      (pss_cons (ps_set (i := 10) sc67.nd rfl (Or.inl rfl) (pe_ix ix_list (pv 9) pe_int (fun _ _ => rfl)))
      (pss_cons (ps_set (i := 11) sc67.nd rfl (Or.inl rfl) (pe_call L.FI.F (hr.mono (by decide)) (by rfl) L.FI.m L.FI.kp L.FI.b .nil pass0 (pa_cons (pv 6) (pa_cons (pe_make L.MW.M L.MW.F (hr.mono (by decide)) (by rfl) L.MW.g L.MW.b .nil pass0 (pa_cons (pv 7) pa_nil)) (pa_cons (pv 10) pa_nil)))))
      (C8.pss_cut (ps_set (i := 12) sc67.nd rfl (Or.inl rfl) (pe_call L.FI.F (hr.mono (by decide)) (by rfl) L.FI.m L.FI.kp L.FI.b .nil pass0 (pa_cons (pv 6) (pa_cons (pe_make L.MW.M L.MW.F (hr.mono (by decide)) (by rfl) L.MW.g L.MW.b .nil pass0 (pa_cons (pv 8) pa_nil)) (pa_cons (pe_ix ix_list (pv 9) pe_int (fun _ _ => rfl)) pa_nil)))))
      (pss_cons (ps_if (pt_not (pt_val (pe_call L.WI.F hr (by rfl) L.WI.m L.WI.kp L.WI.b .nil pass0 (pa_cons (pe_call L.NA.F (hr.mono (by decide)) (by rfl) L.NA.m L.NA.kp L.NA.b .nil pass0 (pa_cons (pe_call L.CE.F (hr.mono (by decide)) (by rfl) L.CE.m L.CE.kp L.CE.b .nil pass0 (pa_cons (pv 0) (pa_cons pe_int pa_nil))) (pa_cons pe_int pa_nil))) pa_nil)))) pss_never pss_nil)
      (pss_cons (ps_if (pt_not (pt_val (pe_call L.HO.F (hr.mono (by decide)) (by rfl) L.HO.m L.HO.kp L.HO.b .nil pass0 (pa_cons (pv 11) (pa_cons (pv 10) (pa_cons (pv 1) (pa_cons (pv 2) (pa_cons (pv 7) pa_nil)))))))) pss_never pss_nil)
      (pss_cons (ps_if (pt_not (pt_val (pe_call L.HO.F (hr.mono (by decide)) (by rfl) L.HO.m L.HO.kp L.HO.b .nil pass0 (pa_cons (pv 12) (pa_cons (pe_ix ix_list (pv 9) pe_int (fun _ _ => rfl)) (pa_cons (pv 1) (pa_cons (pv 2) (pa_cons (pv 8) pa_nil)))))))) pss_never pss_nil)
      (pss_cons (ps_for PassesOwn.never rfl (pi_range1 rfl B.range (pa_cons pe_int pa_nil)) (pg_name (i := 13) sc67.nd rfl (Or.inl rfl))
        (pss_cons (ps_set (i := 14) sc67.nd rfl (Or.inl rfl) (pe_call L.WA.F (hr.mono (by decide)) (by rfl) L.WA.m L.WA.kp L.WA.b .nil pass0 (pa_cons (pe_call L.RO.F (hr.mono (by decide)) (by rfl) L.RO.m L.RO.kp L.RO.b .nil pass0 (pa_cons (pe_call L.CE.F (hr.mono (by decide)) (by rfl) L.CE.m L.CE.kp L.CE.b .nil pass0 (pa_cons (pv 0) (pa_cons (pe_op op_add pe_int (pv 13)) pa_nil))) (pa_cons (pe_op op_rep (pe_lst (pa_cons pe_int pa_nil)) pe_int) pa_nil))) (pa_cons (pv 2) (pa_cons (pv 1) pa_nil)))))
        (pss_cons (ps_set (i := 15) sc67.nd rfl (Or.inl rfl) (pe_callTy call_tuple_of (by rfl) B.tuple boot_tuple (pa_cons (pe_slice sl_list (pe_call L.SE.F (hr.mono (by decide)) (by rfl) L.SE.m L.SE.kp L.SE.b .nil pass0 (pa_cons (pv 2) (pa_cons (pv 7) (pa_cons (pv 14) pa_nil)))) po_none (po_some (pv 10))) pa_nil)))
        (pss_one (ps_if (pw_and (pt_cmpR op_eq (pe_callB call_len_seq (by rfl) B.len boot_len (pa_cons (pv 15) pa_nil)) (pv 10) (nomark _)) (pw_and1 (pt_cmpR (op_notInD (hu65 hr)) (pv 15) (pv 11) (by rfl)))).pt
          (pss_one (ps_if (pw_or (pt_cmpR op_lt (pe_callB call_len_seq (by rfl) B.len boot_len (pa_cons (pv 11) pa_nil)) pe_int (nomark _)) (pw_or1 (pt_cmpR (op_ltTS hr.units0) (pv 15) (pe_ix ix_list (pv 11) (pe_un un_neg pe_int) (fun _ _ => rfl)) (nomark _)))).pt pss_never pss_nil)) pss_nil)))))
      (pss_cons (ps_set (i := 16) sc67.nd rfl (Or.inl rfl) (pe_make L.MW.M L.MW.F (hr.mono (by decide)) (by rfl) L.MW.g L.MW.b .nil pass0 (pa_cons (pv 7) pa_nil)))
      (pss_cons (ps_set (i := 17) sc67.nd rfl (Or.inl rfl) (pe_make L.MW.M L.MW.F (hr.mono (by decide)) (by rfl) L.MW.g L.MW.b .nil pass0 (pa_cons (pv 8) pa_nil)))
      (pss_cons (ps_set (i := 18) sc67.nd rfl (Or.inl rfl) (pe_ix ix_list (pv 9) pe_int (fun _ _ => rfl)))
      (pss_cons (ps_set (i := 13) sc67.nd rfl (Or.inl rfl) pe_int)
      (pss_cons (ps_forZip (t := tLast CM CW) (g := gTup K 2 (gCons (gName 19) (gCons (gName 20) gNil)))
          (tb := tSeq (tIfS (tAnd (tTest (tOp (rI0 fun i j => .bl (decide (i < j))) (tVar 13) (tC (.int 12)))) (tOr (tTest (tOp (rNeD K) (tVar 19) (tOp (ixK K) (tVar 11) (tVar 13)))) (tTest (tOp (rNeD K) (tVar 20) (tOp (ixK K) (tVar 12) (tVar 13)))))) tNever tNext) (tSeq (tAug 13 (tC (.int 1)) (ipI fun i j => i + j)) (tIfS (tTest (tOp (rI0 fun i j => .bl (decide (j ≤ i))) (tVar 13) (tC (.int 12)))) (tRet (tC (.bl true))) tNext))) rfl rfl
          (fun s H => by exact gg_tup rfl (ggs_cons (gg_name (i := 19) sc67.nd rfl (Or.inl rfl)) (ggs_cons (gg_name (i := 20) sc67.nd rfl (Or.inl rfl)) ggs_nil)))
          (fun s H => by
            exact gps_cons (gp_if (gw_and (gt_cmp go_lt (gv 13) ge_int (by rfl)) (gw_and1 (gw_or (gt_cmp (go_neD hu64) (gv 19) (ge_ixLk K rfl (gv 11) (gv 13) (by intro _ _; rfl)) (by rfl)) (gw_or1 (gt_cmp (go_neD hu64) (gv 20) (ge_ixLk K rfl (gv 12) (gv 13) (by intro _ _; rfl)) (by rfl)))).gt)).gt gps_never gps_nil)
              (gps_cons (gp_addI (i := 13) sc67.nd rfl (Or.inl rfl) ge_int) (gps_one (gp_if (gt_cmp go_ge (gv 13) ge_int (by rfl)) (gps_one (gp_ret ge_bl)) gps_nil)))) ?_)
      (pss_one (ps_ret (pe_cmpR op_eq (pv 13) (pe_callB (call_min2 rfl) (by rfl) B.min (by rfl) (pa_cons (pe_callB call_len_seq (by rfl) B.len boot_len (pa_cons (pv 11) pa_nil)) (pa_cons (pe_callB call_len_seq (by rfl) B.len boot_len (pa_cons (pv 12) pa_nil)) pa_nil))) (nomark _)))))))))))))))))))), ?_⟩
    · intro pins s1 σ H1 D I h
      obtain ⟨v0, v1, v2, v3, v4, v5, v7, v8, v9, v14, v15, v19, v20, d, q0, st, reach, w1, dw1, tb1, w2, dw2, tb2, la, lb, T1, T2, n1, n2, A1, A2, rfl, D1, D2, M, W1, W2, hla, hra, hlb, hrb, nm1, nm2, hRt, hN⟩ := h
      refine ev_zipGG (Dom := fun b => MDom d b ∨ WDom w1 dw1 tb1 b ∨ WDom w2 dw2 tb2 b) L.R (hr.mono (by decide)) rfl rfl (by rfl) (by rfl) B.zip (j0 := 6) (j1 := 16) (j2 := 10) (k0 := 6) (k1 := 17) (k2 := 18)
        rfl rfl rfl (Or.inl rfl) (Or.inl rfl) (Or.inl rfl) (by rfl) rfl rfl rfl rfl rfl
        rfl rfl rfl (Or.inl rfl) (Or.inl rfl) (Or.inl rfl) (by rfl) rfl rfl rfl rfl rfl rfl rfl rfl rfl rfl rfl rfl rfl I D1 M W1 (fun b => .inl) (fun b h => .inr (.inl h)) D2 M W2 (fun b => .inl) (fun b h => .inr (.inr h)) ?_
      intro z TI TO ga ga' g g' own own' cf cf' hS c hA hS' c' hA' s2 I2 Z2
      generalize hf1 : frows st T1 reach q0 n1 = f1 at hra nm1 hN Z2
      generalize hf2 : frows st T2 reach q0 n2 = f2 at hrb nm2 hN Z2
      obtain ⟨al1, at1⟩ := rows_at hra
      obtain ⟨al2, at2⟩ := rows_at hrb
      refine ⟨_, _, _, _, _, _, _, z, TI, TO, _, _, H1, (fun m x y σ' H' => ∃ (i : Nat) (v19 v20 : Option V), m = 12 - i ∧ i < 12 ∧ x.1 = (strsV f1).drop i ∧ y.1 = (strsV f2).drop i ∧ i ≤ f1.length ∧ i ≤ f2.length ∧ σ' = sgL v0 v1 v2 v3 v4 v5 d.m v7 v8 v9 n1 la lb (i : Nat) v14 v15 w1 w2 n2 v19 v20 ∧ Same H1 H'), 12, rfl, I2, Z2, ⟨0, v19, v20, rfl, by decide, rfl, rfl, Nat.zero_le _, Nat.zero_le _, rfl, same_rfl⟩, ?_⟩
      rintro m x y σ' H' ⟨i, v19', v20', rfl, hi, hx, hy, hl1, hl2, rfl, s'⟩
      refine ⟨fun b o e => let ⟨_, e1, _⟩ := shOf_iff.mp e; s' b o e1, ?_⟩
      have ls : ∀ f : List (List Str), (strsV f).length = f.length := fun f => by unfold strsV; rw [List.length_map]
      by_cases ho : x.1 = [] ∨ y.1 = []
      · refine .inl ⟨ho, fun H'' sm => hN H'' i v19' v20' (s'.trans sm) ?_⟩
        rw [List.length_take, List.length_take]
        rcases ho with h | h
        · rw [hx] at h
          have := List.drop_eq_nil_iff.mp h
          rw [ls] at this
          omega
        · rw [hy] at h
          have := List.drop_eq_nil_iff.mp h
          rw [ls] at this
          omega
      · refine .inr ⟨fun q => ho (.inl q), fun q => ho (.inr q), ?_⟩
        rintro u1 u2 x' y' H2 H3 T ⟨r1, a1, hxr, rfl, ha10, _, hH2⟩ ⟨r2, a2, hyr, rfl, ha20, _, hH3⟩ hT sm FF HF hF1 hF2 hF3
        subst hH2
        subst hH3
        have i1 : i < f1.length := by
          refine Nat.lt_of_not_le fun w => ho (.inl ?_)
          rw [hx]
          exact List.drop_eq_nil_of_le (by rw [ls]; exact w)
        have i2 : i < f2.length := by
          refine Nat.lt_of_not_le fun w => ho (.inr ?_)
          rw [hy]
          exact List.drop_eq_nil_of_le (by rw [ls]; exact w)
        have hd1 := List.drop_eq_getElem_cons (l := strsV f1) (by rw [ls]; exact i1)
        have hd2 := List.drop_eq_getElem_cons (l := strsV f2) (by rw [ls]; exact i2)
        rw [hx, hd1] at hxr
        rw [hy, hd2] at hyr
        injection hxr with hr1 hx'
        injection hyr with hr2 hy'
        have g1 : (strsV f1)[i]'(by rw [ls]; exact i1) = f1[i].map V.str := by unfold strsV; rw [List.getElem_map]
        have g2 : (strsV f2)[i]'(by rw [ls]; exact i2) = f2[i].map V.str := by unfold strsV; rw [List.getElem_map]
        rw [g1] at hr1
        rw [g2] at hr2
        subst hr1
        subst hr2
        have e12 : upd (upd (upd H' a1 (.tup (f1[i].map V.str))) a2 (.tup (f2[i].map V.str))) T (.tup [.ref a1, .ref a2]) T = some (.tup [.ref a1, .ref a2]) := upd_same
        have sN : Same H' (upd (upd (upd H' a1 (.tup (f1[i].map V.str))) a2 (.tup (f2[i].map V.str))) T (.tup [.ref a1, .ref a2])) := fun b o e => by
          have q1 := ne_of_none e ha10
          have e1 : upd H' a1 (.tup (f1[i].map V.str)) b = some o := by rw [upd_ne q1]; exact e
          have q2 := ne_of_none e1 ha20
          have e2 : upd (upd H' a1 (.tup (f1[i].map V.str))) a2 (.tup (f2[i].map V.str)) b = some o := by rw [upd_ne q2]; exact e1
          rw [upd_ne (ne_of_none e2 hT)]; exact e2
        have ea1 : upd (upd (upd H' a1 (.tup (f1[i].map V.str))) a2 (.tup (f2[i].map V.str))) T (.tup [.ref a1, .ref a2]) a1 = some (.tup (f1[i].map V.str)) := by
          have e1 : upd H' a1 (.tup (f1[i].map V.str)) a1 = some (.tup (f1[i].map V.str)) := upd_same
          have q2 := ne_of_none e1 ha20
          have e2 : upd (upd H' a1 (.tup (f1[i].map V.str))) a2 (.tup (f2[i].map V.str)) a1 = some (.tup (f1[i].map V.str)) := by rw [upd_ne q2]; exact e1
          rw [upd_ne (ne_of_none e2 hT)]; exact e2
        have ea2 : upd (upd (upd H' a1 (.tup (f1[i].map V.str))) a2 (.tup (f2[i].map V.str))) T (.tup [.ref a1, .ref a2]) a2 = some (.tup (f2[i].map V.str)) := by
          have e2 : upd (upd H' a1 (.tup (f1[i].map V.str))) a2 (.tup (f2[i].map V.str)) a2 = some (.tup (f2[i].map V.str)) := upd_same
          rw [upd_ne (ne_of_none e2 hT)]; exact e2
        generalize upd (upd (upd H' a1 (.tup (f1[i].map V.str))) a2 (.tup (f2[i].map V.str))) T (.tup [.ref a1, .ref a2]) = H4 at e12 sN ea1 ea2 hF2 hF3
        have nF : ∀ {b o}, H4 b = some o → HF b = some o := fun {b o} e => (hF2 b fun z => by rw [hF3 b z] at e; cases e).trans e
        have s4 := s'.trans sN
        have t1 : ((f1.take 12)[i]?) = some f1[i] := by rw [List.getElem?_take_of_lt hi, List.getElem?_eq_getElem i1]
        have t2 : ((f2.take 12)[i]?) = some f2[i] := by rw [List.getElem?_take_of_lt hi, List.getElem?_eq_getElem i2]
        obtain ⟨b1, hb1⟩ : ∃ b, A1[i]? = some b := ⟨_, List.getElem?_eq_getElem (by rw [al1, List.length_take]; omega)⟩
        obtain ⟨b2, hb2⟩ : ∃ b, A2[i]? = some b := ⟨_, List.getElem?_eq_getElem (by rw [al2, List.length_take]; omega)⟩
        have hb1t := nF (s4 _ _ (at1 i b1 _ hb1 t1))
        have hb2t := nF (s4 _ _ (at2 i b2 _ hb2 t2))
        have hlaF := nF (s4 _ _ hla)
        have hlbF := nF (s4 _ _ hlb)
        have sh1 := rowD_shaped (nm1 _ (List.getElem_mem i1))
        have sh2 := rowD_shaped (nm2 _ (List.getElem_mem i2))
        refine ⟨T, _, rfl, SqT.of (nF e12), rfl, _, _, rfl, _, _, rfl, rfl, ?_⟩
        refine ⟨_, rfl, _, _, rfl, rfl, _, rfl, ?_⟩
        rw [show decide (((i : Nat) : Int) < 12) = true from decide_eq_true (by omega)]
        refine iteT ?_
        refine ⟨_, rfl, _, rfl, _, rfl, la, _, i, .ref b1, rfl, rfl, SqL.of hlaF, by rw [List.getElem?_map, hb1]; rfl, rowD f1[i], rowD f1[i], dp_row (nF ea1), dp_row hb1t, sh1, sh1, _, rfl, ?_⟩
        rw [rowD_eqv, decide_eq_true rfl]
        refine iteF ?_
        refine ⟨_, rfl, _, rfl, _, rfl, lb, _, i, .ref b2, rfl, rfl, SqL.of hlbF, by rw [List.getElem?_map, hb2]; rfl, rowD f2[i], rowD f2[i], dp_row (nF ea2), dp_row hb2t, sh2, sh2, _, rfl, ?_⟩
        rw [rowD_eqv, decide_eq_true rfl]
        refine iteF ?_
        refine ⟨_, rfl, _, _, rfl, rfl, ?_⟩
        refine ⟨_, rfl, _, _, rfl, rfl, _, rfl, ?_⟩
        refine ite2 (fun _ => ⟨fun b hb => rfl, hRt _⟩) (fun h12 => ?_)
        have h12 : ¬ (12 : Int) ≤ ((i : Nat) : Int) + 1 := fun w => h12 (decide_eq_true w)
        refine ⟨fun b hb => rfl, 12 - (i + 1), by omega, i + 1, _, _, rfl, by omega, hx'.symm, hy'.symm, i1, i2, rfl, fun b o e => ?_⟩
        have e4 := s4 _ _ e
        have hb : b ∉ FF := fun w => by rw [hF3 b w] at e4; cases e4
        rw [thawH_out hb]
        exact nF e4
    · refine ⟨_, rfl, a, ns, rfl, hS, hB, by omega, fun H1 p1 sa ta na ma q0 labs ads st T0 names marks s1 hp1 hp1' hsa hst hta hna hma S => ?_⟩
      refine ⟨p1, _, rfl, SqL.of hp1', rfl, _, _, rfl, _, _, rfl, _, _, rfl, _, _, rfl, _, _, rfl, rfl, ?_⟩
      refine ⟨_, rfl, _, rfl, _, rfl, ?_⟩
      intro mx mdx hmx hmdx mne
      have sM : Same H1 (upd (upd H1 mdx (.own mx)) mx (.ins CM mdx [])) := fun b o e => by
        rw [upd_ne (ne_of_none e hmx), upd_ne (ne_of_none e hmdx)]; exact e
      refine ⟨mx, mdx, sa, q0, ads, st, .ref ta, rfl, upd_same, by rw [upd_ne mne, upd_same], ⟨sM _ _ hsa, hst.same sM, S.steps, S.M.sm _ S.q0, S.few14, .inr ⟨ta, T0, rfl, sM _ _ hta, S.T3, S.Tn⟩, S.live⟩, fun H2 d ws fk sb2 hdm FA _ => ⟨rfl, ?_⟩⟩
      have s2 : Same H1 H2 := same_but hmx sM sb2
      subst hdm
      have hS2 := (s1.trans s2).seq hS
      refine ⟨_, rfl, a, ns, 3, rfl, hS2, hB, by omega, by decide, fun c3 hc3 => ⟨_, rfl, _, rfl, c3, na, ma, names, marks, rfl, hc3, s2 _ _ hna, s2 _ _ hma, S.n6, S.nd, S.m2, S.nn, S.mn, fun H3 t1 T1 s3 ht1 ht1' nd1 l1 in1 => ?_⟩⟩
      have s23 := s2.trans s3
      have hS3 := (s1.trans s23).seq hS
      refine ⟨_, rfl, a, ns, 4, rfl, hS3, hB, by omega, by decide, fun c4 hc4 => ⟨_, rfl, _, rfl, c4, na, ma, names, marks, rfl, hc4, s23 _ _ hna, s23 _ _ hma, S.n6, S.nd, S.m2, S.nn, S.mn, fun H4 t2 T2 s4 ht2 ht2' nd2 l2 in2 => ?_⟩⟩
      have s24 := s23.trans s4
      have hS4 := (s1.trans s24).seq hS
      refine ⟨_, rfl, a, ns, 5, rfl, hS4, hB, by omega, by decide, fun c5 hc5 => ⟨by show 2 ≤ sizeLine; decide, fun pz hpz => ?_⟩⟩
      have sZ := Same.upd (o := HO.lst [V.int 9, V.int 9]) (same_rfl (H := H4)) hpz
      refine ⟨c5, pz, [9, 9], rfl, hc5, upd_same, by decide, by decide, fun H5 nu ds s5 hnu hnu' Dg => ?_⟩
      obtain ⟨n1, hd0⟩ : ∃ d, ds[0]? = some d := ⟨_, List.getElem?_eq_getElem (by rw [Dg.len]; decide)⟩
      obtain ⟨n2, hd1⟩ : ∃ d, ds[1]? = some d := ⟨_, List.getElem?_eq_getElem (by rw [Dg.len]; decide)⟩
      have ln1 : n1 < 9 := Dg.lt 0 n1 9 hd0 rfl
      have ln2 : n2 < 9 := Dg.lt 1 n2 9 hd1 rfl
      refine ⟨_, rfl, nu, _, _, _, rfl, rfl, SqL.of hnu', atN (j := 0) hd0, ?_⟩
      -- all that stands at H5
      have s45 := sZ.trans s5
      have s25 := (s3.trans s4).trans s45
      have s15 := s2.trans s25
      have M5 : MachAt CM H5 d q0 st (clo st [] [q0]) := FA.mach.same s25
      have hS5 : SqL K H5 a (ns.map V.int) := (s1.trans s15).seq hS
      have ht15 := (s4.trans s45) _ _ ht1'
      have ht25 := s45 _ _ ht2'
      have Y1 : Sys H5 labs sa t1 ads st T1 := ⟨s15 _ _ hsa, hst.same s15, ht15, S.l7, S.M.sm, fun e he => (S.M.ok e he).1, fun e he => (S.M.ok e he).2.2, S.M.le⟩
      have Y2 : Sys H5 labs sa t2 ads st T2 := ⟨s15 _ _ hsa, hst.same s15, ht25, S.l7, S.M.sm, fun e he => (S.M.ok e he).1, fun e he => (S.M.ok e he).2.2, S.M.le⟩
      have Rc := S.reach
      have nmf1 := frows_names (n := n1) Rc in1
      have nmf2 := frows_names (n := n2) Rc in2
      have own : ∀ {Hx : Hp} {x dx : Addr}, Hx x = none → Hx dx = none → Same Hx (upd (upd Hx dx (.own x)) x (.ins CW dx [])) := fun hx hdx b o e => by
        rw [upd_ne (ne_of_none e hx), upd_ne (ne_of_none e hdx)]; exact e
      refine ⟨_, rfl, _, rfl, ?_⟩
      intro x1 dx1 hx1 hdx1 ne1
      refine ⟨x1, dx1, t1, T1, rfl, upd_same, by rw [upd_ne ne1, upd_same], own hx1 hdx1 _ _ ht15, in1, nd1, by omega, fun H6 tb1 sb6 W1 => ⟨rfl, ?_⟩⟩
      have s6 : Same H5 H6 := same_but hx1 (own hx1 hdx1) sb6
      refine ⟨_, rfl, d, q0, st, clo st [] [q0], x1, dx1, tb1, T1, n1, rfl, S.dat (by omega) l1, M5.same s6, W1, fun H7 la A1 s7 hla0 hla hra _ => ?_⟩
      have s57 := s6.trans s7
      have hra : RowsAt H7 A1 (strsV ((frows st T1 (clo st [] [q0]) q0 n1).take 12)) := by
        have e : (rowsV st T1 (clo st [] [q0]) q0 n1).take 12 = strsV ((frows st T1 (clo st [] [q0]) q0 n1).take 12) := by unfold rowsV strsV; rw [List.map_take]
        rw [← e]; exact hra
      have sp1 : (A1.length = ((frows st T1 (clo st [] [q0]) q0 n1).take 12).length) := (rows_at hra).1
      refine ⟨fun σ' H8 => ∃ (lb : Addr) (A2 : List Addr), σ' = [some (.ref a), some (.int q0), some (.ref sa), some (.ref ta), some (.ref na), some (.ref ma), some (.ref d.m), some (.ref t1), some (.ref t2), some (.ref nu), some (.int ((n1 : Nat) : Int)), some (.ref la), some (.ref lb), none, none, none, none, none, none, none, none] ∧ Same H7 H8 ∧ H8 lb = some (.lst (A2.map .ref)) ∧ RowsAt H8 A2 (strsV ((frows st T2 (clo st [] [q0]) q0 n2).take 12)), ?_, ?_⟩
      · refine ⟨_, rfl, _, rfl, ?_⟩
        intro x2 dx2 hx2 hdx2 ne2
        refine ⟨x2, dx2, t2, T2, rfl, upd_same, by rw [upd_ne ne2, upd_same], own hx2 hdx2 _ _ (s57 _ _ ht25), in2, nd2, by omega, fun H6 tb2 sb6 W2 => ⟨rfl, ?_⟩⟩
        have s8 : Same H7 H6 := same_but hx2 (own hx2 hdx2) sb6
        refine ⟨_, rfl, nu, _, _, _, rfl, rfl, SqL.of ((s57.trans s8) _ _ hnu'), atN (j := 1) hd1, ?_⟩
        refine ⟨d, q0, st, clo st [] [q0], x2, dx2, tb2, T2, n2, rfl, S.dat (by omega) l2, M5.same (s57.trans s8), W2, fun H8 lb A2 s9 _ hlb hrb _ => ?_⟩
        have e : (rowsV st T2 (clo st [] [q0]) q0 n2).take 12 = strsV ((frows st T2 (clo st [] [q0]) q0 n2).take 12) := by unfold rowsV strsV; rw [List.map_take]
        rw [e] at hrb
        exact ⟨lb, A2, rfl, s8.trans s9, hlb, hrb⟩
      rintro σ' H8 ⟨lb, A2, rfl, s78, hlb, hrb⟩
      have s58 := s57.trans s78
      have hla8 := s78 _ _ hla
      have hra8 := hra.same s78
      have fea : ∀ (T : List (Str × Str)) (n : Nat), ∀ r ∈ (frows st T (clo st [] [q0]) q0 n).take 12, r.length = n ∧ Feas st T q0 r := fun T n r hr => (frows_mem Rc r).mp (List.mem_of_mem_take hr)
      have asc12 : ∀ (T : List (Str × Str)) (n : Nat), ((frows st T (clo st [] [q0]) q0 n).take 12).Pairwise rlt := fun T n => frows_asc.sublist (List.take_sublist _ _)
      have le12 : ∀ (T : List (Str × Str)) (n : Nat), ((frows st T (clo st [] [q0]) q0 n).take 12).length ≤ 12 := fun T n => by rw [List.length_take]; omega
      -- the wide machine
      refine ⟨_, rfl, a, ns, 14, rfl, s58.seq hS5, hB, by omega, by decide, fun c14 hc14 => ⟨c14, 8, rfl, hc14, by decide, by decide, fun H9 p9 nm9 s9 _ hp9 h98 hok9 => ⟨p9, nm9, rfl, hp9, h98, hok9, fun H10 s10 => ⟨_, rfl, iteF ?_⟩⟩⟩⟩
      have s810 := s9.trans s10
      have s510 := s58.trans s810
      refine ⟨_, rfl, _, rfl, _, rfl, _, rfl, _, rfl, la, n1, q0, sa, t1, labs, ads, st, T1, A1, _, rfl, s810 _ _ hla8, hra8.same s810, le12 _ _, by omega, Y1.same s510, S.q0, fea T1 n1, asc12 T1 n1, fun H11 s11 => ⟨_, rfl, iteF ?_⟩⟩
      have s811 := s810.trans s11
      have s511 := s58.trans s811
      refine ⟨_, rfl, _, rfl, nu, _, _, _, rfl, rfl, SqL.of (s511 _ _ hnu'), atN (j := 1) hd1, _, rfl, _, rfl, _, rfl, lb, n2, q0, sa, t2, labs, ads, st, T2, A2, _, rfl, s811 _ _ hlb, hrb.same s811, le12 _ _, by omega, Y2.same s511, S.q0, fea T2 n2, asc12 T2 n2, fun H12 s12 => ⟨_, rfl, iteF ?_⟩⟩
      have s812 := s811.trans s12
      have s512 := s58.trans s812
      have hla12 := s812 _ _ hla8
      have hra12 := hra8.same s812
      have hlb12 := s812 _ _ hlb
      have hrb12 := hrb.same s812
      have hS12 := s512.seq hS5
      have Y12 := Y1.same s512
      refine ⟨8, rfl, by decide, by decide, for_range (n := 8) (fun i σ H' => (∃ v13 v14 v15, σ = [some (.ref a), some (.int q0), some (.ref sa), some (.ref ta), some (.ref na), some (.ref ma), some (.ref d.m), some (.ref t1), some (.ref t2), some (.ref nu), some (.int ((n1 : Nat) : Int)), some (.ref la), some (.ref lb), v13, v14, v15, none, none, none, none, none]) ∧ Same H12 H') ⟨⟨_, _, _, rfl⟩, same_rfl⟩ ?_ ?_⟩
      · rintro i σ H13 hi ⟨⟨v13, v14, v15, rfl⟩, s13⟩
        have s513 := s512.trans s13
        have ek : (6 : Int) + (0 + ((i : Nat) : Int)) = ((6 + i : Nat) : Int) := by omega
        refine ⟨_, rfl, _, rfl, _, _, rfl, rfl, a, ns, 6 + i, congrArg (fun z => [V.ref a, V.int z]) ek, s513.seq hS5, hB, by omega, by omega, fun ck hck => ?_⟩
        refine ⟨by show 1 ≤ sizeLine; decide, fun p40 hp40 => ⟨p40, 40, [V.int 64], rfl, rfl, upd_same, by decide, by decide, by show 1 * 40 ≤ sizeLine; decide, fun q40 hq40 => ?_⟩⟩
        have u1 := Same.upd (o := HO.lst [V.int 64]) (same_rfl (H := H13)) hp40
        have u2 := u1.upd (o := HO.lst (List.replicate (40 : Int).toNat [V.int 64]).flatten) (u1.free hq40)
        refine ⟨ck, q40, List.replicate 40 64, rfl, hck, upd_same, fun z hz => by rw [(List.mem_replicate.mp hz).2]; decide, by rw [List.length_replicate]; decide, fun H14 rw' dw s14 hrw hrw' Dw => ?_⟩
        have s1314 := u2.trans s14
        have s514 := s513.trans s1314
        have dwl : dw.length = 40 := Dw.len.trans (List.length_replicate ..)
        refine ⟨_, rfl, _, rfl, rw', sa, q0, dw, ads, st, labs, rfl, hrw', (s15.trans s514) _ _ hsa, hst.same (s15.trans s514), by omega, by have := S.M.le; omega, S.q0, fun e he => (S.M.ok e he).2.2, S.M.lv, fun H15 pa path qq s1415 _ hpa hrun hpl => ?_⟩
        have s515 := s514.trans s1415
        refine ⟨_, rfl, _, rfl, _, rfl, sa, t1, pa, ads, st, T1, path, rfl, (s15.trans s515) _ _ hsa, hst.same (s15.trans s515), s515 _ _ ht15, hpa, run_lt hrun, by omega, fun H16 se s1516 hse hse' => ?_⟩
        refine ⟨_, rfl, _, rfl, se, _, rfl, SqL.of hse', fun sl hsl => ?_⟩
        rw [cut_preA, ← List.map_take]
        have u3 := Same.upd (o := HO.lst (((seenOf st T1 path).take n1).map V.str)) (same_rfl (H := H16)) hsl
        refine ⟨sl, _, rfl, .inl ⟨SqL.of upd_same, fun tp htp => ?_⟩⟩
        have u4 := u3.upd (o := HO.tup (((seenOf st T1 path).take n1).map V.str)) (u3.free htp)
        have s1317 := ((s1314.trans s1415).trans s1516).trans u4
        have s1217 := s13.trans s1317
        have htp' : ∀ o, upd (upd H16 sl (.lst (((seenOf st T1 path).take n1).map V.str))) tp o tp = some o := fun o => upd_same
        have htp' := htp' (HO.tup (((seenOf st T1 path).take n1).map V.str))
        have hfe : Feas st T1 q0 ((seenOf st T1 path).take n1) := run_feas n1 hrun
        have hnm : ∀ x ∈ (seenOf st T1 path).take n1, IsName x := fun x hx => seen_names in1 x (List.mem_of_mem_take hx)
        dsimp only [gName]
        generalize upd (upd H16 sl (.lst (((seenOf st T1 path).take n1).map V.str))) tp (.tup (((seenOf st T1 path).take n1).map V.str)) = H17 at s1217 htp' ⊢
        generalize (seenOf st T1 path).take n1 = r at htp' hfe hnm
        have nxt : (∃ v13 v14 v15, [some (V.ref a), some (.int q0), some (.ref sa), some (.ref ta), some (.ref na), some (.ref ma), some (.ref d.m), some (.ref t1), some (.ref t2), some (.ref nu), some (.int ((n1 : Nat) : Int)), some (.ref la), some (.ref lb), some (.int (0 + (i : Nat))), some (.ref pa), some (.ref tp), none, none, none, none, none] = [some (.ref a), some (.int q0), some (.ref sa), some (.ref ta), some (.ref na), some (.ref ma), some (.ref d.m), some (.ref t1), some (.ref t2), some (.ref nu), some (.int ((n1 : Nat) : Int)), some (.ref la), some (.ref lb), v13, v14, v15, none, none, none, none, none]) ∧ Same H12 H17 := ⟨⟨_, _, _, rfl⟩, s1217⟩
        have hla17 := s1217 _ _ hla12
        obtain ⟨al1, at1⟩ := rows_at (hra12.same s1217)
        refine ⟨_, rfl, tp, _, rfl, .inr (SqT.of htp'), _, rfl, rfl, _, rfl, ?_⟩
        refine ite2 (fun hlen => ?_) (fun _ => nxt)
        have hlen : r.length = n1 := by
          have := of_decide_eq_true hlen
          rw [List.length_map] at this
          injection this with h
          omega
        have nm12 : ∀ r' ∈ (frows st T1 (clo st [] [q0]) q0 n1).take 12, ∀ x ∈ r', IsName x := fun r' hr' => nmf1 r' (List.mem_of_mem_take hr')
        refine ⟨_, rfl, _, rfl, rowD r, _, dp_row htp', .lst (SqL.of hla17) (dp_rows al1 at1), rowD_shaped hnm, rowDs_shaped nm12, _, rfl, ?_⟩
        rw [any_row]
        by_cases hin : r ∈ (frows st T1 (clo st [] [q0]) q0 n1).take 12
        · rw [decide_eq_true hin]
          exact iteF nxt
        · rw [decide_eq_false hin]
          refine iteT ?_
          obtain ⟨h12, hlast⟩ := behind12 Rc hlen hfe hin
          obtain ⟨bl, hbl⟩ : ∃ b, A1[11]? = some b := ⟨_, List.getElem?_eq_getElem (by rw [al1, h12]; decide)⟩
          have hlr : ((frows st T1 (clo st [] [q0]) q0 n1).take 12)[11]? = some (((frows st T1 (clo st [] [q0]) q0 n1).take 12)[11]'(by rw [h12]; decide)) := List.getElem?_eq_getElem (by rw [h12]; decide)
          have hblt := at1 11 bl _ hbl hlr
          have hlt := hlast _ hlr
          refine ⟨_, rfl, la, _, rfl, .inl (SqL.of hla17), _, _, rfl, rfl, _, rfl, ?_⟩
          rw [show decide ((((A1.map V.ref).length : Nat) : Int) < 12) = false from decide_eq_false (by rw [List.length_map, al1, h12]; decide)]
          refine iteF ?_
          have atl : atI (A1.map V.ref) (-1) = some (.ref bl) := by
            have e1 : A1.map V.ref = (A1.map V.ref).take 11 ++ [V.ref bl] := by
              have h1 : (A1.map V.ref).length = 12 := by rw [List.length_map, al1, h12]
              have h2 : (A1.map V.ref)[11]? = some (V.ref bl) := by rw [List.getElem?_map, hbl]; rfl
              have h3 : (A1.map V.ref).take 12 = A1.map V.ref := List.take_of_length_le (by omega)
              have h4 := List.take_add_one (l := A1.map V.ref) (i := 11)
              rw [h2, h3] at h4
              exact h4
            rw [e1]
            exact atI_last _ _
          refine ⟨_, rfl, _, rfl, _, rfl, la, _, _, _, rfl, rfl, SqL.of hla17, atl, tp, bl, r, _, rfl, rfl, SqT.of htp', SqT.of hblt, _, rfl, ?_⟩
          rw [hlt]
          exact iteF nxt
      · rintro σ H13 ⟨⟨v13, v14, v15, rfl⟩, s13⟩
        have s513 := s512.trans s13
        refine ⟨_, rfl, ?_⟩
        intro x3 dx3 hx3 hdx3 ne3
        refine ⟨x3, dx3, t1, T1, rfl, upd_same, by rw [upd_ne ne3, upd_same], own hx3 hdx3 _ _ (s513 _ _ ht15), in1, nd1, by omega, fun H14 tb3 sb14 W3 => ⟨rfl, ?_⟩⟩
        have s14 : Same H13 H14 := same_but hx3 (own hx3 hdx3) sb14
        have s514 := s513.trans s14
        refine ⟨_, rfl, ?_⟩
        intro x4 dx4 hx4 hdx4 ne4
        refine ⟨x4, dx4, t2, T2, rfl, upd_same, by rw [upd_ne ne4, upd_same], own hx4 hdx4 _ _ (s514 _ _ ht25), in2, nd2, by omega, fun H15 tb4 sb15 W4 => ⟨rfl, ?_⟩⟩
        have s15' : Same H14 H15 := same_but hx4 (own hx4 hdx4) sb15
        have s515 := s514.trans s15'
        have s1215 := s13.trans (s14.trans s15')
        refine ⟨_, rfl, nu, _, _, _, rfl, rfl, SqL.of (s515 _ _ hnu'), atN (j := 1) hd1, ?_⟩
        show tLast CM CW _ (sgL (some (.ref a)) (some (.int q0)) (some (.ref sa)) (some (.ref ta)) (some (.ref na)) (some (.ref ma)) d.m (some (.ref t1)) (some (.ref t2)) (some (.ref nu)) n1 la lb 0 v14 v15 x3 x4 n2 none none) H15
        refine ⟨_, _, _, _, _, _, _, _, _, _, _, _, _, d, q0, st, clo st [] [q0], x3, dx3, tb3, x4, dx4, tb4, la, lb, T1, T2, n1, n2, A1, A2, rfl, S.dat (by omega) l1, S.dat (by omega) l2, M5.same s515, W3.same s15', W4, s1215 _ _ hla12, hra12.same s1215, s1215 _ _ hlb12, hrb12.same s1215, nmf1, nmf2, fun H' => q H', fun H' i v19 v20 s' hi => ?_⟩
        have s12e := s1215.trans s'
        refine ⟨_, rfl, _, rfl, la, _, rfl, .inl (SqL.of (s12e _ _ hla12)), _, rfl, lb, _, rfl, .inl (SqL.of (s12e _ _ hlb12)), _, _, rfl, rfl, ?_⟩
        have l2' : A2.length = ((frows st T2 (clo st [] [q0]) q0 n2).take 12).length := (rows_at hrb).1
        have e : decide (V.int ((i : Nat) : Int) = V.int (if (((A2.map V.ref).length : Nat) : Int) < (((A1.map V.ref).length : Nat) : Int) then (((A2.map V.ref).length : Nat) : Int) else (((A1.map V.ref).length : Nat) : Int))) = true := by
          refine decide_eq_true (congrArg V.int ?_)
          rw [List.length_map, List.length_map, sp1, l2']
          split <;> omega
        show Q (.bl (decide (V.int ((i : Nat) : Int) = V.int (if (((A2.map V.ref).length : Nat) : Int) < (((A1.map V.ref).length : Nat) : Int) then (((A2.map V.ref).length : Nat) : Int) else (((A1.map V.ref).length : Nat) : Int))))) H'
        rw [e]
        exact q H'
end
end KN
/-! All that the top has written, put together. -/
namespace KN
open PySem PySem.Spec PyProof.Rows L2
/-- a def as it stands -/
def DefF (K : PySem.W.Frag) (x q : Str) (st : Stmt) (f : Addr) : Prop :=
  ∃ (oc : Value) (od : Option Addr) (kV dc pm : Value) (an : Option Addr) (cd ct : Value) (sl : Array (Option Value)), K.lookup f = some ⟨oc, od, .func (PySem.W.fnOf x q (defArgs st) (defBody st) (defScope st) .none kV dc pm an cd ct), sl⟩ ∧ PySem.W.codeIn K cd q = true ∧ PySem.W.keepIn K (.ref f) = true
theorem DefF.fn {K : PySem.W.Frag} {x q : Str} {st : Stmt} {f : Addr} (h : DefF K x q st f) : ∃ fd, Fun K x q st f fd := by
  obtain ⟨oc, od, kV, dc, pm, an, cd, ct, sl, l, c, k⟩ := h
  exact ⟨_, fun_mk l c k⟩
/-- a def whose last parameter is None if nothing is said -/
def DefN (K : PySem.W.Frag) (x q : Str) (st : Stmt) (f : Addr) : Prop :=
  ∃ (oc : Value) (od : Option Addr) (T : Addr) (kV dc pm : Value) (an : Option Addr) (cd ct : Value) (sl : Array (Option Value)) (oc2 : Value) (od2 : Option Addr) (n : Nat) (sl2 : Array (Option Value)), K.lookup f = some ⟨oc, od, .func (PySem.W.fnOf x q (defArgs st) (defBody st) (defScope st) (.ref T) kV dc pm an cd ct), sl⟩ ∧ PySem.W.codeIn K cd q = true ∧ PySem.W.keepIn K (.ref f) = true ∧ K.lookup T = some ⟨oc2, od2, .seq #[.none] n, sl2⟩
theorem DefN.fn {K : PySem.W.Frag} {x q : Str} {st : Stmt} {f : Addr} (h : DefN K x q st f) : ∃ fd, FunD K x q (defArgs st) (defBody st) (defScope st) [.non] [] f fd := by
  obtain ⟨oc, od, T, kV, dc, pm, an, cd, ct, sl, oc2, od2, n, sl2, l, c, k, t⟩ := h
  refine ⟨_, ⟨oc, od, .ref T, kV, dc, pm, an, cd, ct, sl, rfl, l, c, .inr ⟨by simp, T, _, [.none], n, rfl, t, rfl, .cons rfl .nil⟩, .inl rfl⟩, k⟩
theorem vals_none {ds : List Value} (h : Vals [V.non] ds) : ds = [.none] := by
  cases h with
  | cons a b =>
    cases b
    cases a
    rfl
theorem bd_of {c : Int} (h : Builtin.Int.intBits c ≤ 1048576) : Bd c := by
  unfold Builtin.Int.intBits at h
  unfold Bd
  split at h
  · rename_i z
    have z : c = 0 := by simpa using z
    subst z
    decide
  · omega
theorem kit_self {K : PySem.W.Frag} {C : Addr} : PySem.W.kitOne K (.ref C) (.ref C) = some true := by
  unfold PySem.W.kitOne
  rw [if_pos (by simp)]
set_option maxHeartbeats 16000000 in
theorem all_mk {l : PySem.W.OpenLaw} {w : World} {K : PySem.W.Frag} {h : Heap} {mg : Str → Option Value} {fa CM CW f_mi f_wi f_isint f_iscount f_isstate f_isname f_isrow f_checked f_isstep f_faults f_leaving f_reached f_stepsfrom f_istab f_allseen f_checkwatch f_sightof f_rows f_ends f_clo f_able f_mix f_cell f_row f_names f_mach f_lfaults f_lsights f_seen f_walk f_exact f_sys f_closed f_behind f_lable f_first f_holds f_wide f_law p_start gf_start p_mwords gf_mwords p_mfaults gf_mfaults p_states gf_states : Addr} {r_start r_mwords r_mfaults r_states : List Value} {tk_cL tk_cML tk_cMS tk_cMP tk_cMF tk_cMW tk_cMU tk_cMG : Tok} {od_isint an_isint od_iscount an_iscount od_isstate an_isstate od_isname an_isname od_isrow an_isrow od_checked an_checked od_isstep an_isstep od_faults an_faults od_leaving an_leaving od_reached an_reached od_stepsfrom an_stepsfrom od_istab an_istab od_allseen an_allseen od_checkwatch an_checkwatch od_sightof an_sightof od_rows an_rows od_ends an_ends od_clo an_clo od_able an_able od_mix an_mix od_cell an_cell od_row an_row od_names an_names od_mach an_mach od_lfaults an_lfaults od_lsights an_lsights od_seen an_seen od_walk an_walk od_exact an_exact od_sys an_sys od_closed an_closed od_behind an_behind od_lable an_lable od_first an_first od_holds an_holds od_wide an_wide od_law an_law od_start an_start od_mwords an_mwords od_mfaults an_mfaults od_states an_states od_diM an_diM od_diW an_diW : Option Addr} {sl_isint sl_iscount sl_isstate sl_isname sl_isrow sl_checked sl_isstep sl_faults sl_leaving sl_reached sl_stepsfrom sl_istab sl_allseen sl_checkwatch sl_sightof sl_rows sl_ends sl_clo sl_able sl_mix sl_cell sl_row sl_names sl_mach sl_lfaults sl_lsights sl_seen sl_walk sl_exact sl_sys sl_closed sl_behind sl_lable sl_first sl_holds sl_wide sl_law sl_start sl_mwords sl_mfaults sl_states sl_diM sl_diW : Array (Option Value)} {oc_isint kV_isint dc_isint pm_isint cd_isint ct_isint oc_iscount kV_iscount dc_iscount pm_iscount cd_iscount ct_iscount oc_isstate kV_isstate dc_isstate pm_isstate cd_isstate ct_isstate oc_isname kV_isname dc_isname pm_isname cd_isname ct_isname oc_isrow kV_isrow dc_isrow pm_isrow cd_isrow ct_isrow oc_checked kV_checked dc_checked pm_checked cd_checked ct_checked oc_isstep kV_isstep dc_isstep pm_isstep cd_isstep ct_isstep oc_faults kV_faults dc_faults pm_faults cd_faults ct_faults oc_leaving kV_leaving dc_leaving pm_leaving cd_leaving ct_leaving oc_reached kV_reached dc_reached pm_reached cd_reached ct_reached oc_stepsfrom kV_stepsfrom dc_stepsfrom pm_stepsfrom cd_stepsfrom ct_stepsfrom oc_istab kV_istab dc_istab pm_istab cd_istab ct_istab oc_allseen kV_allseen dc_allseen pm_allseen cd_allseen ct_allseen oc_checkwatch kV_checkwatch dc_checkwatch pm_checkwatch cd_checkwatch ct_checkwatch oc_sightof kV_sightof dc_sightof pm_sightof cd_sightof ct_sightof oc_rows kV_rows dc_rows pm_rows cd_rows ct_rows oc_ends kV_ends dc_ends pm_ends cd_ends ct_ends oc_clo kV_clo dc_clo pm_clo cd_clo ct_clo oc_able kV_able dc_able pm_able cd_able ct_able oc_mix kV_mix dc_mix pm_mix cd_mix ct_mix oc_cell kV_cell dc_cell pm_cell cd_cell ct_cell oc_row kV_row dc_row pm_row cd_row ct_row oc_names kV_names dc_names pm_names cd_names ct_names oc_mach kV_mach dc_mach pm_mach cd_mach ct_mach oc_lfaults kV_lfaults dc_lfaults pm_lfaults cd_lfaults ct_lfaults oc_lsights kV_lsights dc_lsights pm_lsights cd_lsights ct_lsights oc_seen kV_seen dc_seen pm_seen cd_seen ct_seen oc_walk kV_walk dc_walk pm_walk cd_walk ct_walk oc_exact kV_exact dc_exact pm_exact cd_exact ct_exact oc_sys kV_sys dc_sys pm_sys cd_sys ct_sys oc_closed kV_closed dc_closed pm_closed cd_closed ct_closed oc_behind kV_behind dc_behind pm_behind cd_behind ct_behind oc_lable kV_lable dc_lable pm_lable cd_lable ct_lable oc_first kV_first dc_first pm_first cd_first ct_first oc_holds kV_holds dc_holds pm_holds cd_holds ct_holds oc_wide kV_wide dc_wide pm_wide cd_wide ct_wide oc_law kV_law dc_law pm_law cd_law ct_law oc_start kV_start dc_start pm_start cd_start ct_start oc_mwords kV_mwords dc_mwords pm_mwords cd_mwords ct_mwords oc_mfaults kV_mfaults dc_mfaults pm_mfaults cd_mfaults ct_mfaults oc_states kV_states dc_states pm_states cd_states ct_states oc_diM kV_diM dc_diM pm_diM cd_diM ct_diM oc_diW kV_diW dc_diW pm_diW cd_diW ct_diW : Value} {T_diM T_diW : Addr} {oe_diM oe_diW : Value} {of_diM of_diW : Option Addr} {nn_diM nn_diW : Nat} {sm_diM sm_diW : Array (Option Value)} (X : K.In h) (G : h.Ns mainGlobals mg) (hfa : mg "law" = some (.ref fa))
    (a_isint : PySem.W.nsIn K mainGlobals "is_integer" = some (some (.ref f_isint)))
    (l_isint : K.lookup f_isint = some ⟨oc_isint, od_isint, .func (PySem.W.fnOf "is_integer" "is_integer" (defArgs sIsInt) (defBody sIsInt) (defScope sIsInt) .none kV_isint dc_isint pm_isint an_isint cd_isint ct_isint), sl_isint⟩)
    (c_isint : PySem.W.codeIn K cd_isint "is_integer" = true)
    (k_isint : PySem.W.keepIn K (.ref f_isint) = true)
    (a_iscount : PySem.W.nsIn K mainGlobals "is_count" = some (some (.ref f_iscount)))
    (l_iscount : K.lookup f_iscount = some ⟨oc_iscount, od_iscount, .func (PySem.W.fnOf "is_count" "is_count" (defArgs sIsCount) (defBody sIsCount) (defScope sIsCount) .none kV_iscount dc_iscount pm_iscount an_iscount cd_iscount ct_iscount), sl_iscount⟩)
    (c_iscount : PySem.W.codeIn K cd_iscount "is_count" = true)
    (k_iscount : PySem.W.keepIn K (.ref f_iscount) = true)
    (a_isstate : PySem.W.nsIn K mainGlobals "is_state" = some (some (.ref f_isstate)))
    (l_isstate : K.lookup f_isstate = some ⟨oc_isstate, od_isstate, .func (PySem.W.fnOf "is_state" "is_state" (defArgs sIsState) (defBody sIsState) (defScope sIsState) .none kV_isstate dc_isstate pm_isstate an_isstate cd_isstate ct_isstate), sl_isstate⟩)
    (c_isstate : PySem.W.codeIn K cd_isstate "is_state" = true)
    (k_isstate : PySem.W.keepIn K (.ref f_isstate) = true)
    (a_isname : PySem.W.nsIn K mainGlobals "is_name" = some (some (.ref f_isname)))
    (l_isname : K.lookup f_isname = some ⟨oc_isname, od_isname, .func (PySem.W.fnOf "is_name" "is_name" (defArgs sIsName) (defBody sIsName) (defScope sIsName) .none kV_isname dc_isname pm_isname an_isname cd_isname ct_isname), sl_isname⟩)
    (c_isname : PySem.W.codeIn K cd_isname "is_name" = true)
    (k_isname : PySem.W.keepIn K (.ref f_isname) = true)
    (a_isrow : PySem.W.nsIn K mainGlobals "is_row" = some (some (.ref f_isrow)))
    (l_isrow : K.lookup f_isrow = some ⟨oc_isrow, od_isrow, .func (PySem.W.fnOf "is_row" "is_row" (defArgs sIsRow) (defBody sIsRow) (defScope sIsRow) .none kV_isrow dc_isrow pm_isrow an_isrow cd_isrow ct_isrow), sl_isrow⟩)
    (c_isrow : PySem.W.codeIn K cd_isrow "is_row" = true)
    (k_isrow : PySem.W.keepIn K (.ref f_isrow) = true)
    (a_checked : PySem.W.nsIn K mainGlobals "checked_steps" = some (some (.ref f_checked)))
    (l_checked : K.lookup f_checked = some ⟨oc_checked, od_checked, .func (PySem.W.fnOf "checked_steps" "checked_steps" (defArgs sChecked) (defBody sChecked) (defScope sChecked) .none kV_checked dc_checked pm_checked an_checked cd_checked ct_checked), sl_checked⟩)
    (c_checked : PySem.W.codeIn K cd_checked "checked_steps" = true)
    (k_checked : PySem.W.keepIn K (.ref f_checked) = true)
    (a_isstep : PySem.W.nsIn K mainGlobals "is_step" = some (some (.ref f_isstep)))
    (l_isstep : K.lookup f_isstep = some ⟨oc_isstep, od_isstep, .func (PySem.W.fnOf "is_step" "is_step" (defArgs sIsStep) (defBody sIsStep) (defScope sIsStep) .none kV_isstep dc_isstep pm_isstep an_isstep cd_isstep ct_isstep), sl_isstep⟩)
    (c_isstep : PySem.W.codeIn K cd_isstep "is_step" = true)
    (k_isstep : PySem.W.keepIn K (.ref f_isstep) = true)
    (a_faults : PySem.W.nsIn K mainGlobals "checked_faults" = some (some (.ref f_faults)))
    (l_faults : K.lookup f_faults = some ⟨oc_faults, od_faults, .func (PySem.W.fnOf "checked_faults" "checked_faults" (defArgs sFaults) (defBody sFaults) (defScope sFaults) .none kV_faults dc_faults pm_faults an_faults cd_faults ct_faults), sl_faults⟩)
    (c_faults : PySem.W.codeIn K cd_faults "checked_faults" = true)
    (k_faults : PySem.W.keepIn K (.ref f_faults) = true)
    (a_leaving : PySem.W.nsIn K mainGlobals "leaving_table" = some (some (.ref f_leaving)))
    (l_leaving : K.lookup f_leaving = some ⟨oc_leaving, od_leaving, .func (PySem.W.fnOf "leaving_table" "leaving_table" (defArgs sLeaving) (defBody sLeaving) (defScope sLeaving) .none kV_leaving dc_leaving pm_leaving an_leaving cd_leaving ct_leaving), sl_leaving⟩)
    (c_leaving : PySem.W.codeIn K cd_leaving "leaving_table" = true)
    (k_leaving : PySem.W.keepIn K (.ref f_leaving) = true)
    (a_reached : PySem.W.nsIn K mainGlobals "reached_states" = some (some (.ref f_reached)))
    (l_reached : K.lookup f_reached = some ⟨oc_reached, od_reached, .func (PySem.W.fnOf "reached_states" "reached_states" (defArgs sReached) (defBody sReached) (defScope sReached) .none kV_reached dc_reached pm_reached an_reached cd_reached ct_reached), sl_reached⟩)
    (c_reached : PySem.W.codeIn K cd_reached "reached_states" = true)
    (k_reached : PySem.W.keepIn K (.ref f_reached) = true)
    (a_stepsfrom : PySem.W.nsIn K mainGlobals "steps_from" = some (some (.ref f_stepsfrom)))
    (l_stepsfrom : K.lookup f_stepsfrom = some ⟨oc_stepsfrom, od_stepsfrom, .func (PySem.W.fnOf "steps_from" "steps_from" (defArgs sStepsFrom) (defBody sStepsFrom) (defScope sStepsFrom) .none kV_stepsfrom dc_stepsfrom pm_stepsfrom an_stepsfrom cd_stepsfrom ct_stepsfrom), sl_stepsfrom⟩)
    (c_stepsfrom : PySem.W.codeIn K cd_stepsfrom "steps_from" = true)
    (k_stepsfrom : PySem.W.keepIn K (.ref f_stepsfrom) = true)
    (a_istab : PySem.W.nsIn K mainGlobals "is_sight_table" = some (some (.ref f_istab)))
    (l_istab : K.lookup f_istab = some ⟨oc_istab, od_istab, .func (PySem.W.fnOf "is_sight_table" "is_sight_table" (defArgs sIsTab) (defBody sIsTab) (defScope sIsTab) .none kV_istab dc_istab pm_istab an_istab cd_istab ct_istab), sl_istab⟩)
    (c_istab : PySem.W.codeIn K cd_istab "is_sight_table" = true)
    (k_istab : PySem.W.keepIn K (.ref f_istab) = true)
    (a_allseen : PySem.W.nsIn K mainGlobals "all_seen" = some (some (.ref f_allseen)))
    (l_allseen : K.lookup f_allseen = some ⟨oc_allseen, od_allseen, .func (PySem.W.fnOf "all_seen" "all_seen" (defArgs sAllSeen) (defBody sAllSeen) (defScope sAllSeen) .none kV_allseen dc_allseen pm_allseen an_allseen cd_allseen ct_allseen), sl_allseen⟩)
    (c_allseen : PySem.W.codeIn K cd_allseen "all_seen" = true)
    (k_allseen : PySem.W.keepIn K (.ref f_allseen) = true)
    (a_checkwatch : PySem.W.nsIn K mainGlobals "check_watch" = some (some (.ref f_checkwatch)))
    (l_checkwatch : K.lookup f_checkwatch = some ⟨oc_checkwatch, od_checkwatch, .func (PySem.W.fnOf "check_watch" "check_watch" (defArgs sCheckWatch) (defBody sCheckWatch) (defScope sCheckWatch) .none kV_checkwatch dc_checkwatch pm_checkwatch an_checkwatch cd_checkwatch ct_checkwatch), sl_checkwatch⟩)
    (c_checkwatch : PySem.W.codeIn K cd_checkwatch "check_watch" = true)
    (k_checkwatch : PySem.W.keepIn K (.ref f_checkwatch) = true)
    (a_sightof : PySem.W.nsIn K mainGlobals "sight_of" = some (some (.ref f_sightof)))
    (l_sightof : K.lookup f_sightof = some ⟨oc_sightof, od_sightof, .func (PySem.W.fnOf "sight_of" "sight_of" (defArgs sSightOf) (defBody sSightOf) (defScope sSightOf) .none kV_sightof dc_sightof pm_sightof an_sightof cd_sightof ct_sightof), sl_sightof⟩)
    (c_sightof : PySem.W.codeIn K cd_sightof "sight_of" = true)
    (k_sightof : PySem.W.keepIn K (.ref f_sightof) = true)
    (a_rows : PySem.W.nsIn K mainGlobals "rows_of" = some (some (.ref f_rows)))
    (l_rows : K.lookup f_rows = some ⟨oc_rows, od_rows, .func (PySem.W.fnOf "rows_of" "rows_of" (defArgs sRows) (defBody sRows) (defScope sRows) .none kV_rows dc_rows pm_rows an_rows cd_rows ct_rows), sl_rows⟩)
    (c_rows : PySem.W.codeIn K cd_rows "rows_of" = true)
    (k_rows : PySem.W.keepIn K (.ref f_rows) = true)
    (a_ends : PySem.W.nsIn K mainGlobals "sight_ends" = some (some (.ref f_ends)))
    (l_ends : K.lookup f_ends = some ⟨oc_ends, od_ends, .func (PySem.W.fnOf "sight_ends" "sight_ends" (defArgs sEnds) (defBody sEnds) (defScope sEnds) .none kV_ends dc_ends pm_ends an_ends cd_ends ct_ends), sl_ends⟩)
    (c_ends : PySem.W.codeIn K cd_ends "sight_ends" = true)
    (k_ends : PySem.W.keepIn K (.ref f_ends) = true)
    (a_clo : PySem.W.nsIn K mainGlobals "unseen_closure" = some (some (.ref f_clo)))
    (l_clo : K.lookup f_clo = some ⟨oc_clo, od_clo, .func (PySem.W.fnOf "unseen_closure" "unseen_closure" (defArgs sClo) (defBody sClo) (defScope sClo) .none kV_clo dc_clo pm_clo an_clo cd_clo ct_clo), sl_clo⟩)
    (c_clo : PySem.W.codeIn K cd_clo "unseen_closure" = true)
    (k_clo : PySem.W.keepIn K (.ref f_clo) = true)
    (a_able : PySem.W.nsIn K mainGlobals "able_states" = some (some (.ref f_able)))
    (l_able : K.lookup f_able = some ⟨oc_able, od_able, .func (PySem.W.fnOf "able_states" "able_states" (defArgs sAble) (defBody sAble) (defScope sAble) .none kV_able dc_able pm_able an_able cd_able ct_able), sl_able⟩)
    (c_able : PySem.W.codeIn K cd_able "able_states" = true)
    (k_able : PySem.W.keepIn K (.ref f_able) = true)
    (a_mix : PySem.W.nsIn K mainGlobals "_law_mix" = some (some (.ref f_mix)))
    (l_mix : K.lookup f_mix = some ⟨oc_mix, od_mix, .func (PySem.W.fnOf "_law_mix" "_law_mix" (defArgs sMix) (defBody sMix) (defScope sMix) .none kV_mix dc_mix pm_mix an_mix cd_mix ct_mix), sl_mix⟩)
    (c_mix : PySem.W.codeIn K cd_mix "_law_mix" = true)
    (k_mix : PySem.W.keepIn K (.ref f_mix) = true)
    (a_cell : PySem.W.nsIn K mainGlobals "_law_cell" = some (some (.ref f_cell)))
    (l_cell : K.lookup f_cell = some ⟨oc_cell, od_cell, .func (PySem.W.fnOf "_law_cell" "_law_cell" (defArgs sCell) (defBody sCell) (defScope sCell) .none kV_cell dc_cell pm_cell an_cell cd_cell ct_cell), sl_cell⟩)
    (c_cell : PySem.W.codeIn K cd_cell "_law_cell" = true)
    (k_cell : PySem.W.keepIn K (.ref f_cell) = true)
    (a_row : PySem.W.nsIn K mainGlobals "_law_row" = some (some (.ref f_row)))
    (l_row : K.lookup f_row = some ⟨oc_row, od_row, .func (PySem.W.fnOf "_law_row" "_law_row" (defArgs sRow) (defBody sRow) (defScope sRow) .none kV_row dc_row pm_row an_row cd_row ct_row), sl_row⟩)
    (c_row : PySem.W.codeIn K cd_row "_law_row" = true)
    (k_row : PySem.W.keepIn K (.ref f_row) = true)
    (a_names : PySem.W.nsIn K mainGlobals "_law_names" = some (some (.ref f_names)))
    (l_names : K.lookup f_names = some ⟨oc_names, od_names, .func (PySem.W.fnOf "_law_names" "_law_names" (defArgs sNames) (defBody sNames) (defScope sNames) .none kV_names dc_names pm_names an_names cd_names ct_names), sl_names⟩)
    (c_names : PySem.W.codeIn K cd_names "_law_names" = true)
    (k_names : PySem.W.keepIn K (.ref f_names) = true)
    (a_mach : PySem.W.nsIn K mainGlobals "_law_machine" = some (some (.ref f_mach)))
    (l_mach : K.lookup f_mach = some ⟨oc_mach, od_mach, .func (PySem.W.fnOf "_law_machine" "_law_machine" (defArgs sMach) (defBody sMach) (defScope sMach) .none kV_mach dc_mach pm_mach an_mach cd_mach ct_mach), sl_mach⟩)
    (c_mach : PySem.W.codeIn K cd_mach "_law_machine" = true)
    (k_mach : PySem.W.keepIn K (.ref f_mach) = true)
    (a_lfaults : PySem.W.nsIn K mainGlobals "_law_faults" = some (some (.ref f_lfaults)))
    (l_lfaults : K.lookup f_lfaults = some ⟨oc_lfaults, od_lfaults, .func (PySem.W.fnOf "_law_faults" "_law_faults" (defArgs sLFaults) (defBody sLFaults) (defScope sLFaults) .none kV_lfaults dc_lfaults pm_lfaults an_lfaults cd_lfaults ct_lfaults), sl_lfaults⟩)
    (c_lfaults : PySem.W.codeIn K cd_lfaults "_law_faults" = true)
    (k_lfaults : PySem.W.keepIn K (.ref f_lfaults) = true)
    (a_lsights : PySem.W.nsIn K mainGlobals "_law_sights" = some (some (.ref f_lsights)))
    (l_lsights : K.lookup f_lsights = some ⟨oc_lsights, od_lsights, .func (PySem.W.fnOf "_law_sights" "_law_sights" (defArgs sLSights) (defBody sLSights) (defScope sLSights) .none kV_lsights dc_lsights pm_lsights an_lsights cd_lsights ct_lsights), sl_lsights⟩)
    (c_lsights : PySem.W.codeIn K cd_lsights "_law_sights" = true)
    (k_lsights : PySem.W.keepIn K (.ref f_lsights) = true)
    (a_seen : PySem.W.nsIn K mainGlobals "_law_seen" = some (some (.ref f_seen)))
    (l_seen : K.lookup f_seen = some ⟨oc_seen, od_seen, .func (PySem.W.fnOf "_law_seen" "_law_seen" (defArgs sSeen) (defBody sSeen) (defScope sSeen) .none kV_seen dc_seen pm_seen an_seen cd_seen ct_seen), sl_seen⟩)
    (c_seen : PySem.W.codeIn K cd_seen "_law_seen" = true)
    (k_seen : PySem.W.keepIn K (.ref f_seen) = true)
    (a_walk : PySem.W.nsIn K mainGlobals "_law_walk" = some (some (.ref f_walk)))
    (l_walk : K.lookup f_walk = some ⟨oc_walk, od_walk, .func (PySem.W.fnOf "_law_walk" "_law_walk" (defArgs sWalk) (defBody sWalk) (defScope sWalk) .none kV_walk dc_walk pm_walk an_walk cd_walk ct_walk), sl_walk⟩)
    (c_walk : PySem.W.codeIn K cd_walk "_law_walk" = true)
    (k_walk : PySem.W.keepIn K (.ref f_walk) = true)
    (a_exact : PySem.W.nsIn K mainGlobals "_law_exact" = some (some (.ref f_exact)))
    (l_exact : K.lookup f_exact = some ⟨oc_exact, od_exact, .func (PySem.W.fnOf "_law_exact" "_law_exact" (defArgs sExact) (defBody sExact) (defScope sExact) .none kV_exact dc_exact pm_exact an_exact cd_exact ct_exact), sl_exact⟩)
    (c_exact : PySem.W.codeIn K cd_exact "_law_exact" = true)
    (k_exact : PySem.W.keepIn K (.ref f_exact) = true)
    (a_sys : PySem.W.nsIn K mainGlobals "_law_system" = some (some (.ref f_sys)))
    (l_sys : K.lookup f_sys = some ⟨oc_sys, od_sys, .func (PySem.W.fnOf "_law_system" "_law_system" (defArgs sSys) (defBody sSys) (defScope sSys) .none kV_sys dc_sys pm_sys an_sys cd_sys ct_sys), sl_sys⟩)
    (c_sys : PySem.W.codeIn K cd_sys "_law_system" = true)
    (k_sys : PySem.W.keepIn K (.ref f_sys) = true)
    (a_closed : PySem.W.nsIn K mainGlobals "_law_closed" = some (some (.ref f_closed)))
    (l_closed : K.lookup f_closed = some ⟨oc_closed, od_closed, .func (PySem.W.fnOf "_law_closed" "_law_closed" (defArgs sClosed) (defBody sClosed) (defScope sClosed) .none kV_closed dc_closed pm_closed an_closed cd_closed ct_closed), sl_closed⟩)
    (c_closed : PySem.W.codeIn K cd_closed "_law_closed" = true)
    (k_closed : PySem.W.keepIn K (.ref f_closed) = true)
    (a_behind : PySem.W.nsIn K mainGlobals "_law_behind" = some (some (.ref f_behind)))
    (l_behind : K.lookup f_behind = some ⟨oc_behind, od_behind, .func (PySem.W.fnOf "_law_behind" "_law_behind" (defArgs sBehind) (defBody sBehind) (defScope sBehind) .none kV_behind dc_behind pm_behind an_behind cd_behind ct_behind), sl_behind⟩)
    (c_behind : PySem.W.codeIn K cd_behind "_law_behind" = true)
    (k_behind : PySem.W.keepIn K (.ref f_behind) = true)
    (a_lable : PySem.W.nsIn K mainGlobals "_law_able" = some (some (.ref f_lable)))
    (l_lable : K.lookup f_lable = some ⟨oc_lable, od_lable, .func (PySem.W.fnOf "_law_able" "_law_able" (defArgs sLAble) (defBody sLAble) (defScope sLAble) .none kV_lable dc_lable pm_lable an_lable cd_lable ct_lable), sl_lable⟩)
    (c_lable : PySem.W.codeIn K cd_lable "_law_able" = true)
    (k_lable : PySem.W.keepIn K (.ref f_lable) = true)
    (a_first : PySem.W.nsIn K mainGlobals "_law_first" = some (some (.ref f_first)))
    (l_first : K.lookup f_first = some ⟨oc_first, od_first, .func (PySem.W.fnOf "_law_first" "_law_first" (defArgs sFirst) (defBody sFirst) (defScope sFirst) .none kV_first dc_first pm_first an_first cd_first ct_first), sl_first⟩)
    (c_first : PySem.W.codeIn K cd_first "_law_first" = true)
    (k_first : PySem.W.keepIn K (.ref f_first) = true)
    (a_holds : PySem.W.nsIn K mainGlobals "_law_holds" = some (some (.ref f_holds)))
    (l_holds : K.lookup f_holds = some ⟨oc_holds, od_holds, .func (PySem.W.fnOf "_law_holds" "_law_holds" (defArgs sHolds) (defBody sHolds) (defScope sHolds) .none kV_holds dc_holds pm_holds an_holds cd_holds ct_holds), sl_holds⟩)
    (c_holds : PySem.W.codeIn K cd_holds "_law_holds" = true)
    (k_holds : PySem.W.keepIn K (.ref f_holds) = true)
    (a_wide : PySem.W.nsIn K mainGlobals "_law_wide_holds" = some (some (.ref f_wide)))
    (l_wide : K.lookup f_wide = some ⟨oc_wide, od_wide, .func (PySem.W.fnOf "_law_wide_holds" "_law_wide_holds" (defArgs sWide) (defBody sWide) (defScope sWide) .none kV_wide dc_wide pm_wide an_wide cd_wide ct_wide), sl_wide⟩)
    (c_wide : PySem.W.codeIn K cd_wide "_law_wide_holds" = true)
    (k_wide : PySem.W.keepIn K (.ref f_wide) = true)
    (a_law : PySem.W.nsIn K mainGlobals "law" = some (some (.ref f_law)))
    (l_law : K.lookup f_law = some ⟨oc_law, od_law, .func (PySem.W.fnOf "law" "law" (defArgs sLaw) (defBody sLaw) (defScope sLaw) .none kV_law dc_law pm_law an_law cd_law ct_law), sl_law⟩)
    (c_law : PySem.W.codeIn K cd_law "law" = true)
    (k_law : PySem.W.keepIn K (.ref f_law) = true)
    (aM : PySem.W.nsIn K mainGlobals "Machine" = some (some (.ref CM)))
    (aW : PySem.W.nsIn K mainGlobals "Watch" = some (some (.ref CW)))
    (pgM : PySem.W.plainGet K CM Str.empty = true)
    (hdM : PySem.W.hasDictIn K CM = true)
    (poM : PySem.W.plainOver K CM = true)
    (saM : PySem.W.findIn K (.ref CM) "__setattr__" = some (some (.builtin "object.__setattr__")))
    (mkM : PySem.W.makesIn K CM = true)
    (kcM : PySem.W.keepIn K (.ref CM) = true)
    (inM : PySem.W.findIn K (.ref CM) "__init__" = some (some (.ref f_mi)))
    (fnM : PySem.W.isFn K (.ref f_mi) = true)
    (l_diM : K.lookup f_mi = some ⟨oc_diM, od_diM, .func (PySem.W.fnOf "__init__" "Machine.__init__" (defArgs sMInit) (defBody sMInit) (defScope sMInit) (.ref T_diM) kV_diM dc_diM pm_diM an_diM cd_diM ct_diM), sl_diM⟩)
    (c_diM : PySem.W.codeIn K cd_diM "Machine.__init__" = true)
    (k_diM : PySem.W.keepIn K (.ref f_mi) = true)
    (t_diM : K.lookup T_diM = some ⟨oe_diM, of_diM, .seq #[.none] nn_diM, sm_diM⟩)
    (pgW : PySem.W.plainGet K CW Str.empty = true)
    (hdW : PySem.W.hasDictIn K CW = true)
    (poW : PySem.W.plainOver K CW = true)
    (saW : PySem.W.findIn K (.ref CW) "__setattr__" = some (some (.builtin "object.__setattr__")))
    (mkW : PySem.W.makesIn K CW = true)
    (kcW : PySem.W.keepIn K (.ref CW) = true)
    (inW : PySem.W.findIn K (.ref CW) "__init__" = some (some (.ref f_wi)))
    (fnW : PySem.W.isFn K (.ref f_wi) = true)
    (l_diW : K.lookup f_wi = some ⟨oc_diW, od_diW, .func (PySem.W.fnOf "__init__" "Watch.__init__" (defArgs sWInit) (defBody sWInit) (defScope sWInit) (.ref T_diW) kV_diW dc_diW pm_diW an_diW cd_diW ct_diW), sl_diW⟩)
    (c_diW : PySem.W.codeIn K cd_diW "Watch.__init__" = true)
    (k_diW : PySem.W.keepIn K (.ref f_wi) = true)
    (t_diW : K.lookup T_diW = some ⟨oe_diW, of_diW, .seq #[.none] nn_diW, sm_diW⟩)
    (n1 : PySem.W.findIn K (.ref CM) "first_state" = some none)
    (n2 : PySem.W.findIn K (.ref CM) "step_rows" = some none)
    (n3 : PySem.W.findIn K (.ref CM) "word_list" = some none)
    (n4 : PySem.W.findIn K (.ref CM) "fault_table" = some none)
    (n5 : PySem.W.findIn K (.ref CM) "leaving" = some none)
    (n6 : PySem.W.findIn K (.ref CM) "met_states" = some none)
    (nT : PySem.W.findIn K (.ref CW) "table" = some none)
    (pa_start : PySem.W.findIn K (.ref CM) "start" = some (some (.ref p_start)))
    (pb_start : PySem.W.specialIn K (.ref p_start) "__get__" = some (some (.builtin "property.__get__")))
    (pc_start : PySem.W.takesIn K (.ref p_start) = some true)
    (pd_start : PySem.W.recIn K p_start "property" = some (.ref gf_start :: r_start))
    (l_start : K.lookup gf_start = some ⟨oc_start, od_start, .func (PySem.W.fnOf "start" "Machine.start" (defArgs sStart) (defBody sStart) (defScope sStart) .none kV_start dc_start pm_start an_start cd_start ct_start), sl_start⟩)
    (c_start : PySem.W.codeIn K cd_start "Machine.start" = true)
    (k_start : PySem.W.keepIn K (.ref gf_start) = true)
    (pa_mwords : PySem.W.findIn K (.ref CM) "words" = some (some (.ref p_mwords)))
    (pb_mwords : PySem.W.specialIn K (.ref p_mwords) "__get__" = some (some (.builtin "property.__get__")))
    (pc_mwords : PySem.W.takesIn K (.ref p_mwords) = some true)
    (pd_mwords : PySem.W.recIn K p_mwords "property" = some (.ref gf_mwords :: r_mwords))
    (l_mwords : K.lookup gf_mwords = some ⟨oc_mwords, od_mwords, .func (PySem.W.fnOf "words" "Machine.words" (defArgs sMWords) (defBody sMWords) (defScope sMWords) .none kV_mwords dc_mwords pm_mwords an_mwords cd_mwords ct_mwords), sl_mwords⟩)
    (c_mwords : PySem.W.codeIn K cd_mwords "Machine.words" = true)
    (k_mwords : PySem.W.keepIn K (.ref gf_mwords) = true)
    (pa_mfaults : PySem.W.findIn K (.ref CM) "faults" = some (some (.ref p_mfaults)))
    (pb_mfaults : PySem.W.specialIn K (.ref p_mfaults) "__get__" = some (some (.builtin "property.__get__")))
    (pc_mfaults : PySem.W.takesIn K (.ref p_mfaults) = some true)
    (pd_mfaults : PySem.W.recIn K p_mfaults "property" = some (.ref gf_mfaults :: r_mfaults))
    (l_mfaults : K.lookup gf_mfaults = some ⟨oc_mfaults, od_mfaults, .func (PySem.W.fnOf "faults" "Machine.faults" (defArgs sMFaults) (defBody sMFaults) (defScope sMFaults) .none kV_mfaults dc_mfaults pm_mfaults an_mfaults cd_mfaults ct_mfaults), sl_mfaults⟩)
    (c_mfaults : PySem.W.codeIn K cd_mfaults "Machine.faults" = true)
    (k_mfaults : PySem.W.keepIn K (.ref gf_mfaults) = true)
    (pa_states : PySem.W.findIn K (.ref CM) "states" = some (some (.ref p_states)))
    (pb_states : PySem.W.specialIn K (.ref p_states) "__get__" = some (some (.builtin "property.__get__")))
    (pc_states : PySem.W.takesIn K (.ref p_states) = some true)
    (pd_states : PySem.W.recIn K p_states "property" = some (.ref gf_states :: r_states))
    (l_states : K.lookup gf_states = some ⟨oc_states, od_states, .func (PySem.W.fnOf "states" "Machine.states" (defArgs sStates) (defBody sStates) (defScope sStates) .none kV_states dc_states pm_states an_states cd_states ct_states), sl_states⟩)
    (c_states : PySem.W.codeIn K cd_states "Machine.states" = true)
    (k_states : PySem.W.keepIn K (.ref gf_states) = true)
    (z_isinst : PySem.W.nsIn K mainGlobals "isinstance" = some none)
    (z_int : PySem.W.nsIn K mainGlobals "int" = some none)
    (z_bool : PySem.W.nsIn K mainGlobals "bool" = some none)
    (z_list : PySem.W.nsIn K mainGlobals "list" = some none)
    (z_sorted : PySem.W.nsIn K mainGlobals "sorted" = some none)
    (z_reversed : PySem.W.nsIn K mainGlobals "reversed" = some none)
    (z_len : PySem.W.nsIn K mainGlobals "len" = some none)
    (z_range : PySem.W.nsIn K mainGlobals "range" = some none)
    (z_str : PySem.W.nsIn K mainGlobals "str" = some none)
    (z_dict : PySem.W.nsIn K mainGlobals "dict" = some none)
    (z_tuple : PySem.W.nsIn K mainGlobals "tuple" = some none)
    (z_set : PySem.W.nsIn K mainGlobals "set" = some none)
    (z_min : PySem.W.nsIn K mainGlobals "min" = some none)
    (z_enum : PySem.W.nsIn K mainGlobals "enumerate" = some none)
    (z_zip : PySem.W.nsIn K mainGlobals "zip" = some none)
    (cL : PySem.W.nsIn K mainGlobals "LETTERS" = some (some (.str letters tk_cL)))
    (cML : PySem.W.nsIn K mainGlobals "MOST_LETTERS" = some (some (.int 12 tk_cML)))
    (cMS : PySem.W.nsIn K mainGlobals "MOST_STATE" = some (some (.int 99 tk_cMS)))
    (cMP : PySem.W.nsIn K mainGlobals "MOST_STEPS" = some (some (.int 80 tk_cMP)))
    (cMF : PySem.W.nsIn K mainGlobals "MOST_FROM" = some (some (.int 8 tk_cMF)))
    (cMW : PySem.W.nsIn K mainGlobals "MOST_WORDS" = some (some (.int 14 tk_cMW)))
    (cMU : PySem.W.nsIn K mainGlobals "MOST_FAULTS" = some (some (.int 3 tk_cMU)))
    (cMG : PySem.W.nsIn K mainGlobals "MOST_SIGHTS" = some (some (.int 8 tk_cMG)))
    (wc : PySem.W.findIn K (.ref CW) "__class__" = some (some (.builtin "object.__class__")))
    (wg : PySem.W.specialIn K (.builtin "object.__class__") "__get__" = some (some (.builtin "getset_descriptor.__get__")))
    (wt : PySem.W.takesIn K (.builtin "object.__class__") = some true)
    (wm : PySem.W.mroIn K CW (.type "object") = some true)
    : ∃ fd : FuncData, (∀ (s : Shared) (v : Value), BindsTo s fd ⟨[v], []⟩ [("_law_script", v)]) ∧ ∀ base : Heap, K.In base → base.Ns mainGlobals mg → FnOk l.prog w K mg base CX0 9 fa fd ["_law_script"] (spLaw K) := by
  have e := hfa.symm.trans (PySem.W.mg_of X G a_law)
  cases e
  have d_isint : DefF K "is_integer" "is_integer" sIsInt f_isint := ⟨_, _, _, _, _, _, _, _, _, l_isint, c_isint, k_isint⟩
  have d_iscount : DefF K "is_count" "is_count" sIsCount f_iscount := ⟨_, _, _, _, _, _, _, _, _, l_iscount, c_iscount, k_iscount⟩
  have d_isstate : DefF K "is_state" "is_state" sIsState f_isstate := ⟨_, _, _, _, _, _, _, _, _, l_isstate, c_isstate, k_isstate⟩
  have d_isname : DefF K "is_name" "is_name" sIsName f_isname := ⟨_, _, _, _, _, _, _, _, _, l_isname, c_isname, k_isname⟩
  have d_isrow : DefF K "is_row" "is_row" sIsRow f_isrow := ⟨_, _, _, _, _, _, _, _, _, l_isrow, c_isrow, k_isrow⟩
  have d_checked : DefF K "checked_steps" "checked_steps" sChecked f_checked := ⟨_, _, _, _, _, _, _, _, _, l_checked, c_checked, k_checked⟩
  have d_isstep : DefF K "is_step" "is_step" sIsStep f_isstep := ⟨_, _, _, _, _, _, _, _, _, l_isstep, c_isstep, k_isstep⟩
  have d_faults : DefF K "checked_faults" "checked_faults" sFaults f_faults := ⟨_, _, _, _, _, _, _, _, _, l_faults, c_faults, k_faults⟩
  have d_leaving : DefF K "leaving_table" "leaving_table" sLeaving f_leaving := ⟨_, _, _, _, _, _, _, _, _, l_leaving, c_leaving, k_leaving⟩
  have d_reached : DefF K "reached_states" "reached_states" sReached f_reached := ⟨_, _, _, _, _, _, _, _, _, l_reached, c_reached, k_reached⟩
  have d_stepsfrom : DefF K "steps_from" "steps_from" sStepsFrom f_stepsfrom := ⟨_, _, _, _, _, _, _, _, _, l_stepsfrom, c_stepsfrom, k_stepsfrom⟩
  have d_istab : DefF K "is_sight_table" "is_sight_table" sIsTab f_istab := ⟨_, _, _, _, _, _, _, _, _, l_istab, c_istab, k_istab⟩
  have d_allseen : DefF K "all_seen" "all_seen" sAllSeen f_allseen := ⟨_, _, _, _, _, _, _, _, _, l_allseen, c_allseen, k_allseen⟩
  have d_checkwatch : DefF K "check_watch" "check_watch" sCheckWatch f_checkwatch := ⟨_, _, _, _, _, _, _, _, _, l_checkwatch, c_checkwatch, k_checkwatch⟩
  have d_sightof : DefF K "sight_of" "sight_of" sSightOf f_sightof := ⟨_, _, _, _, _, _, _, _, _, l_sightof, c_sightof, k_sightof⟩
  have d_rows : DefF K "rows_of" "rows_of" sRows f_rows := ⟨_, _, _, _, _, _, _, _, _, l_rows, c_rows, k_rows⟩
  have d_ends : DefF K "sight_ends" "sight_ends" sEnds f_ends := ⟨_, _, _, _, _, _, _, _, _, l_ends, c_ends, k_ends⟩
  have d_clo : DefF K "unseen_closure" "unseen_closure" sClo f_clo := ⟨_, _, _, _, _, _, _, _, _, l_clo, c_clo, k_clo⟩
  have d_able : DefF K "able_states" "able_states" sAble f_able := ⟨_, _, _, _, _, _, _, _, _, l_able, c_able, k_able⟩
  have d_mix : DefF K "_law_mix" "_law_mix" sMix f_mix := ⟨_, _, _, _, _, _, _, _, _, l_mix, c_mix, k_mix⟩
  have d_cell : DefF K "_law_cell" "_law_cell" sCell f_cell := ⟨_, _, _, _, _, _, _, _, _, l_cell, c_cell, k_cell⟩
  have d_row : DefF K "_law_row" "_law_row" sRow f_row := ⟨_, _, _, _, _, _, _, _, _, l_row, c_row, k_row⟩
  have d_names : DefF K "_law_names" "_law_names" sNames f_names := ⟨_, _, _, _, _, _, _, _, _, l_names, c_names, k_names⟩
  have d_mach : DefF K "_law_machine" "_law_machine" sMach f_mach := ⟨_, _, _, _, _, _, _, _, _, l_mach, c_mach, k_mach⟩
  have d_lfaults : DefF K "_law_faults" "_law_faults" sLFaults f_lfaults := ⟨_, _, _, _, _, _, _, _, _, l_lfaults, c_lfaults, k_lfaults⟩
  have d_lsights : DefF K "_law_sights" "_law_sights" sLSights f_lsights := ⟨_, _, _, _, _, _, _, _, _, l_lsights, c_lsights, k_lsights⟩
  have d_seen : DefF K "_law_seen" "_law_seen" sSeen f_seen := ⟨_, _, _, _, _, _, _, _, _, l_seen, c_seen, k_seen⟩
  have d_walk : DefF K "_law_walk" "_law_walk" sWalk f_walk := ⟨_, _, _, _, _, _, _, _, _, l_walk, c_walk, k_walk⟩
  have d_exact : DefF K "_law_exact" "_law_exact" sExact f_exact := ⟨_, _, _, _, _, _, _, _, _, l_exact, c_exact, k_exact⟩
  have d_sys : DefF K "_law_system" "_law_system" sSys f_sys := ⟨_, _, _, _, _, _, _, _, _, l_sys, c_sys, k_sys⟩
  have d_closed : DefF K "_law_closed" "_law_closed" sClosed f_closed := ⟨_, _, _, _, _, _, _, _, _, l_closed, c_closed, k_closed⟩
  have d_behind : DefF K "_law_behind" "_law_behind" sBehind f_behind := ⟨_, _, _, _, _, _, _, _, _, l_behind, c_behind, k_behind⟩
  have d_lable : DefF K "_law_able" "_law_able" sLAble f_lable := ⟨_, _, _, _, _, _, _, _, _, l_lable, c_lable, k_lable⟩
  have d_first : DefF K "_law_first" "_law_first" sFirst f_first := ⟨_, _, _, _, _, _, _, _, _, l_first, c_first, k_first⟩
  have d_holds : DefF K "_law_holds" "_law_holds" sHolds f_holds := ⟨_, _, _, _, _, _, _, _, _, l_holds, c_holds, k_holds⟩
  have d_wide : DefF K "_law_wide_holds" "_law_wide_holds" sWide f_wide := ⟨_, _, _, _, _, _, _, _, _, l_wide, c_wide, k_wide⟩
  have d_law : DefF K "law" "law" sLaw fa := ⟨_, _, _, _, _, _, _, _, _, l_law, c_law, k_law⟩
  have diM : DefN K "__init__" "Machine.__init__" sMInit f_mi := ⟨_, _, _, _, _, _, _, _, _, _, _, _, _, _, l_diM, c_diM, k_diM, t_diM⟩
  have diW : DefN K "__init__" "Watch.__init__" sWInit f_wi := ⟨_, _, _, _, _, _, _, _, _, _, _, _, _, _, l_diW, c_diW, k_diW, t_diW⟩
  have d_start : DefF K "start" "Machine.start" sStart gf_start := ⟨_, _, _, _, _, _, _, _, _, l_start, c_start, k_start⟩
  have d_mwords : DefF K "words" "Machine.words" sMWords gf_mwords := ⟨_, _, _, _, _, _, _, _, _, l_mwords, c_mwords, k_mwords⟩
  have d_mfaults : DefF K "faults" "Machine.faults" sMFaults gf_mfaults := ⟨_, _, _, _, _, _, _, _, _, l_mfaults, c_mfaults, k_mfaults⟩
  have d_states : DefF K "states" "Machine.states" sStates gf_states := ⟨_, _, _, _, _, _, _, _, _, l_states, c_states, k_states⟩
  have m_isint := PySem.W.mg_of X G a_isint
  obtain ⟨h_isint, F_isint⟩ := d_isint.fn
  have b_isint := F_isint.binds (ps := ["value"]) fun _ _ _ _ _ _ us hl => match us, hl with | [_], _ => rfl
  have m_iscount := PySem.W.mg_of X G a_iscount
  obtain ⟨h_iscount, F_iscount⟩ := d_iscount.fn
  have b_iscount := F_iscount.binds (ps := ["value", "most"]) fun _ _ _ _ _ _ us hl => match us, hl with | [_, _], _ => rfl
  have m_isstate := PySem.W.mg_of X G a_isstate
  obtain ⟨h_isstate, F_isstate⟩ := d_isstate.fn
  have b_isstate := F_isstate.binds (ps := ["value"]) fun _ _ _ _ _ _ us hl => match us, hl with | [_], _ => rfl
  have m_isname := PySem.W.mg_of X G a_isname
  obtain ⟨h_isname, F_isname⟩ := d_isname.fn
  have b_isname := F_isname.binds (ps := ["value"]) fun _ _ _ _ _ _ us hl => match us, hl with | [_], _ => rfl
  have m_isrow := PySem.W.mg_of X G a_isrow
  obtain ⟨h_isrow, F_isrow⟩ := d_isrow.fn
  have b_isrow := F_isrow.binds (ps := ["value"]) fun _ _ _ _ _ _ us hl => match us, hl with | [_], _ => rfl
  have m_checked := PySem.W.mg_of X G a_checked
  obtain ⟨h_checked, F_checked⟩ := d_checked.fn
  have b_checked := F_checked.binds (ps := ["steps"]) fun _ _ _ _ _ _ us hl => match us, hl with | [_], _ => rfl
  have m_isstep := PySem.W.mg_of X G a_isstep
  obtain ⟨h_isstep, F_isstep⟩ := d_isstep.fn
  have b_isstep := F_isstep.binds (ps := ["step"]) fun _ _ _ _ _ _ us hl => match us, hl with | [_], _ => rfl
  have m_faults := PySem.W.mg_of X G a_faults
  obtain ⟨h_faults, F_faults⟩ := d_faults.fn
  have b_faults := F_faults.binds (ps := ["faults", "words"]) fun _ _ _ _ _ _ us hl => match us, hl with | [_, _], _ => rfl
  have m_leaving := PySem.W.mg_of X G a_leaving
  obtain ⟨h_leaving, F_leaving⟩ := d_leaving.fn
  have b_leaving := F_leaving.binds (ps := ["rows"]) fun _ _ _ _ _ _ us hl => match us, hl with | [_], _ => rfl
  have m_reached := PySem.W.mg_of X G a_reached
  obtain ⟨h_reached, F_reached⟩ := d_reached.fn
  have b_reached := F_reached.binds (ps := ["start", "rows", "leaving"]) fun _ _ _ _ _ _ us hl => match us, hl with | [_, _, _], _ => rfl
  have m_stepsfrom := PySem.W.mg_of X G a_stepsfrom
  obtain ⟨h_stepsfrom, F_stepsfrom⟩ := d_stepsfrom.fn
  have b_stepsfrom := F_stepsfrom.binds (ps := ["machine", "state"]) fun _ _ _ _ _ _ us hl => match us, hl with | [_, _], _ => rfl
  have m_istab := PySem.W.mg_of X G a_istab
  obtain ⟨h_istab, F_istab⟩ := d_istab.fn
  have b_istab := F_istab.binds (ps := ["value"]) fun _ _ _ _ _ _ us hl => match us, hl with | [_], _ => rfl
  have m_allseen := PySem.W.mg_of X G a_allseen
  obtain ⟨h_allseen, F_allseen⟩ := d_allseen.fn
  have b_allseen := F_allseen.binds (ps := ["machine"]) fun _ _ _ _ _ _ us hl => match us, hl with | [_], _ => rfl
  have m_checkwatch := PySem.W.mg_of X G a_checkwatch
  obtain ⟨h_checkwatch, F_checkwatch⟩ := d_checkwatch.fn
  have b_checkwatch := F_checkwatch.binds (ps := ["watch"]) fun _ _ _ _ _ _ us hl => match us, hl with | [_], _ => rfl
  have m_sightof := PySem.W.mg_of X G a_sightof
  obtain ⟨h_sightof, F_sightof⟩ := d_sightof.fn
  have b_sightof := F_sightof.binds (ps := ["watch", "word"]) fun _ _ _ _ _ _ us hl => match us, hl with | [_, _], _ => rfl
  have m_rows := PySem.W.mg_of X G a_rows
  obtain ⟨h_rows, F_rows⟩ := d_rows.fn
  have b_rows := F_rows.binds (ps := ["machine", "watch", "many"]) fun _ _ _ _ _ _ us hl => match us, hl with | [_, _, _], _ => rfl
  have m_ends := PySem.W.mg_of X G a_ends
  obtain ⟨h_ends, F_ends⟩ := d_ends.fn
  have b_ends := F_ends.binds (ps := ["machine", "watch", "states"]) fun _ _ _ _ _ _ us hl => match us, hl with | [_, _, _], _ => rfl
  have m_clo := PySem.W.mg_of X G a_clo
  obtain ⟨h_clo, F_clo⟩ := d_clo.fn
  have b_clo := F_clo.binds (ps := ["machine", "watch", "states"]) fun _ _ _ _ _ _ us hl => match us, hl with | [_, _, _], _ => rfl
  have m_able := PySem.W.mg_of X G a_able
  obtain ⟨h_able, F_able⟩ := d_able.fn
  have b_able := F_able.binds (ps := ["machine", "watch", "many"]) fun _ _ _ _ _ _ us hl => match us, hl with | [_, _, _], _ => rfl
  have m_mix := PySem.W.mg_of X G a_mix
  obtain ⟨h_mix, F_mix⟩ := d_mix.fn
  have b_mix := F_mix.binds (ps := ["_law_cell_here", "_law_k"]) fun _ _ _ _ _ _ us hl => match us, hl with | [_, _], _ => rfl
  have m_cell := PySem.W.mg_of X G a_cell
  obtain ⟨h_cell, F_cell⟩ := d_cell.fn
  have b_cell := F_cell.binds (ps := ["_law_script", "_law_k"]) fun _ _ _ _ _ _ us hl => match us, hl with | [_, _], _ => rfl
  have m_row := PySem.W.mg_of X G a_row
  obtain ⟨h_row, F_row⟩ := d_row.fn
  have b_row := F_row.binds (ps := ["_law_cell_here", "_law_sizes"]) fun _ _ _ _ _ _ us hl => match us, hl with | [_, _], _ => rfl
  have m_names := PySem.W.mg_of X G a_names
  obtain ⟨h_names, F_names⟩ := d_names.fn
  have b_names := F_names.binds (ps := ["_law_cell_here", "_law_many"]) fun _ _ _ _ _ _ us hl => match us, hl with | [_, _], _ => rfl
  have m_mach := PySem.W.mg_of X G a_mach
  obtain ⟨h_mach, F_mach⟩ := d_mach.fn
  have b_mach := F_mach.binds (ps := ["_law_cell_here", "_law_names_here", "_law_most", "_law_extra"]) fun _ _ _ _ _ _ us hl => match us, hl with | [_, _, _, _], _ => rfl
  have m_lfaults := PySem.W.mg_of X G a_lfaults
  obtain ⟨h_lfaults, F_lfaults⟩ := d_lfaults.fn
  have b_lfaults := F_lfaults.binds (ps := ["_law_digit", "_law_steps", "_law_names_here", "_law_marks"]) fun _ _ _ _ _ _ us hl => match us, hl with | [_, _, _, _], _ => rfl
  have m_lsights := PySem.W.mg_of X G a_lsights
  obtain ⟨h_lsights, F_lsights⟩ := d_lsights.fn
  have b_lsights := F_lsights.binds (ps := ["_law_cell_here", "_law_names_here", "_law_marks"]) fun _ _ _ _ _ _ us hl => match us, hl with | [_, _, _], _ => rfl
  have m_seen := PySem.W.mg_of X G a_seen
  obtain ⟨h_seen, F_seen⟩ := d_seen.fn
  have b_seen := F_seen.binds (ps := ["_law_steps", "_law_table", "_law_path"]) fun _ _ _ _ _ _ us hl => match us, hl with | [_, _, _], _ => rfl
  have m_walk := PySem.W.mg_of X G a_walk
  obtain ⟨h_walk, F_walk⟩ := d_walk.fn
  have b_walk := F_walk.binds (ps := ["_law_row_here", "_law_steps", "_law_start"]) fun _ _ _ _ _ _ us hl => match us, hl with | [_, _, _], _ => rfl
  have m_exact := PySem.W.mg_of X G a_exact
  obtain ⟨h_exact, F_exact⟩ := d_exact.fn
  have b_exact := F_exact.binds (ps := ["_law_told", "_law_due"]) fun _ _ _ _ _ _ us hl => match us, hl with | [_, _], _ => rfl
  have m_sys := PySem.W.mg_of X G a_sys
  obtain ⟨h_sys, F_sys⟩ := d_sys.fn
  have b_sys := F_sys.binds (ps := ["_law_script", "_law_most", "_law_extra", "_law_many"]) fun _ _ _ _ _ _ us hl => match us, hl with | [_, _, _, _], _ => rfl
  have m_closed := PySem.W.mg_of X G a_closed
  obtain ⟨h_closed, F_closed⟩ := d_closed.fn
  have b_closed := F_closed.binds (ps := ["_law_states", "_law_steps", "_law_sights_here"]) fun _ _ _ _ _ _ us hl => match us, hl with | [_, _, _], _ => rfl
  have m_behind := PySem.W.mg_of X G a_behind
  obtain ⟨h_behind, F_behind⟩ := d_behind.fn
  have b_behind := F_behind.binds (ps := ["_law_states", "_law_steps", "_law_sights_here", "_law_sight"]) fun _ _ _ _ _ _ us hl => match us, hl with | [_, _, _, _], _ => rfl
  have m_lable := PySem.W.mg_of X G a_lable
  obtain ⟨h_lable, F_lable⟩ := d_lable.fn
  have b_lable := F_lable.binds (ps := ["_law_start", "_law_steps", "_law_sights_here", "_law_row_here"]) fun _ _ _ _ _ _ us hl => match us, hl with | [_, _, _, _], _ => rfl
  have m_first := PySem.W.mg_of X G a_first
  obtain ⟨h_first, F_first⟩ := d_first.fn
  have b_first := F_first.binds (ps := ["_law_machine_here", "_law_watch", "_law_many"]) fun _ _ _ _ _ _ us hl => match us, hl with | [_, _, _], _ => rfl
  have m_holds := PySem.W.mg_of X G a_holds
  obtain ⟨h_holds, F_holds⟩ := d_holds.fn
  have b_holds := F_holds.binds (ps := ["_law_told", "_law_many", "_law_start", "_law_steps", "_law_sights_here"]) fun _ _ _ _ _ _ us hl => match us, hl with | [_, _, _, _, _], _ => rfl
  have m_wide := PySem.W.mg_of X G a_wide
  obtain ⟨h_wide, F_wide⟩ := d_wide.fn
  have b_wide := F_wide.binds (ps := ["_law_names_here"]) fun _ _ _ _ _ _ us hl => match us, hl with | [_], _ => rfl
  obtain ⟨oc, od, kV, dc, pm, an, cd, ct, sl, lL, cL', kL⟩ := d_law
  obtain ⟨h_start, F_start⟩ := d_start.fn
  have b_start := F_start.binds (ps := ["self"]) fun _ _ _ _ _ _ us hl => match us, hl with | [_], _ => rfl
  have P_start : PropOf K CM "start" p_start gf_start := ⟨pa_start, pb_start, pc_start, _, pd_start⟩
  obtain ⟨h_mwords, F_mwords⟩ := d_mwords.fn
  have b_mwords := F_mwords.binds (ps := ["self"]) fun _ _ _ _ _ _ us hl => match us, hl with | [_], _ => rfl
  have P_mwords : PropOf K CM "words" p_mwords gf_mwords := ⟨pa_mwords, pb_mwords, pc_mwords, _, pd_mwords⟩
  obtain ⟨h_mfaults, F_mfaults⟩ := d_mfaults.fn
  have b_mfaults := F_mfaults.binds (ps := ["self"]) fun _ _ _ _ _ _ us hl => match us, hl with | [_], _ => rfl
  have P_mfaults : PropOf K CM "faults" p_mfaults gf_mfaults := ⟨pa_mfaults, pb_mfaults, pc_mfaults, _, pd_mfaults⟩
  obtain ⟨h_states, F_states⟩ := d_states.fn
  have b_states := F_states.binds (ps := ["self"]) fun _ _ _ _ _ _ us hl => match us, hl with | [_], _ => rfl
  have P_states : PropOf K CM "states" p_states gf_states := ⟨pa_states, pb_states, pc_states, _, pd_states⟩
  have B : Bx mg := { isinst := PySem.W.mg_none_of X G z_isinst, int := PySem.W.mg_none_of X G z_int, bool := PySem.W.mg_none_of X G z_bool, list := PySem.W.mg_none_of X G z_list, sorted := PySem.W.mg_none_of X G z_sorted, reversed := PySem.W.mg_none_of X G z_reversed, len := PySem.W.mg_none_of X G z_len, range := PySem.W.mg_none_of X G z_range, str := PySem.W.mg_none_of X G z_str, dict := PySem.W.mg_none_of X G z_dict, tuple := PySem.W.mg_none_of X G z_tuple, set := PySem.W.mg_none_of X G z_set, min := PySem.W.mg_none_of X G z_min, enum := PySem.W.mg_none_of X G z_enum, zip := PySem.W.mg_none_of X G z_zip }
  have cM : Cls K CM := ⟨pgM, hdM, poM, saM⟩
  have cW : Cls K CW := ⟨pgW, hdW, poW, saW⟩
  have gM := PySem.W.mg_of X G aM
  have gW := PySem.W.mg_of X G aW
  have T : TxG K mg CM CW := { bu := B.toBu, cM := cM, cW := cW, n1 := n1, n2 := n2, n3 := n5, n4 := n6, n5 := nT, gW := gW, wI := fun H a dx fs e => .base (.ins e cW wc wg wt wm), wK := kit_self, most := ⟨_, PySem.W.mg_of X G cMG⟩ }
  have TM : TxM K CM := ⟨cM, n1, n2, n3, n4, n5, n6⟩
  obtain ⟨hmi, Fmi⟩ := diM.fn
  obtain ⟨hwi, Fwi⟩ := diW.fn
  obtain ⟨ds1, vd1, bmi1⟩ := Fmi.binds1 (ps := ["self", "start", "steps", "faults"]) 3 0 (by simp) rfl fun T kV doc pm an cdv ct us its hu hi => match us, its, hu, hi with | [_, _, _], [_], _, _ => ⟨_, rfl, rfl⟩
  obtain ⟨ds0, vd0, bmi0⟩ := Fmi.binds1 (ps := ["self", "start", "steps", "faults"]) 4 1 (by simp) rfl fun T kV doc pm an cdv ct us its hu hi => match us, its, hu, hi with | [_, _, _, _], [_], _, _ => ⟨_, rfl, rfl⟩
  obtain ⟨dsw, vdw, bwi⟩ := Fwi.binds1 (ps := ["self", "sights"]) 2 1 (by simp) rfl fun T kV doc pm an cdv ct us its hu hi => match us, its, hu, hi with | [_, _], [_], _, _ => ⟨_, rfl, rfl⟩
  have e1 := vals_none vd1
  subst e1
  cases vd0
  cases vdw
  have bl := (fun_mk (st := sLaw) lL cL' kL).binds (ps := ["_law_script"]) fun _ _ _ _ _ _ us hl => match us, hl with | [_], _ => rfl
  refine ⟨PySem.W.fnOf "law" "law" (defArgs sLaw) (defBody sLaw) (defScope sLaw) .none kV dc pm an cd ct, fun s v => .of_eq rfl, fun base _ _ => ?_⟩
  -- the program
  have Gint := g_isint (P := l.prog) (w := w) (base := base) F_isint B.toBu
  have Gcount := g_iscount F_iscount Gint b_isint m_isint k_isint
  have Gstate := g_isstate F_isstate Gcount b_iscount m_iscount k_iscount (PySem.W.mg_of X G cMS)
  have Oname := ok_isname (P := l.prog) (w := w) (base := base) F_isname B (PySem.W.mg_of X G cL) (PySem.W.mg_of X G cML)
  have Orow := ok_isrow (P := l.prog) (w := w) (base := base) F_isrow B
  have Ostep := ok_isstep F_isstep B Gstate b_isstate m_isstate k_isstate Oname b_isname m_isname k_isname
  have Ochecked := ok_checked F_checked B Orow b_isrow m_isrow k_isrow Ostep b_isstep m_isstep k_isstep (PySem.W.mg_of X G cMP) (PySem.W.mg_of X G cMF)
  have Oleaving := ok_leaving (P := l.prog) (w := w) (base := base) F_leaving B
  have Oreached := ok_reached (P := l.prog) (w := w) (base := base) F_reached B
  have Ofaults := ok_faults F_faults B Oname b_isname m_isname k_isname (PySem.W.mg_of X G cMU)
  have Otab := ok_istab F_istab B Oname b_isname m_isname k_isname
  have C : CalM l.prog w K mg base := ⟨_, _, Gstate, b_isstate, m_isstate, k_isstate, _, _, Ochecked, b_checked, m_checked, k_checked, _, _, Ofaults, b_faults, m_faults, k_faults, _, _, Oleaving, b_leaving, m_leaving, k_leaving, _, _, Oreached, b_reached, m_reached, k_reached, _, PySem.W.mg_of X G cMW⟩
  have Ominit := ok_minit B TM C Fmi
  have Owinit := ok_winit B cW nT Otab b_istab m_istab k_istab Fwi
  have MkM : Mk K CM f_mi := ⟨mkM, inM, fnM, kcM⟩
  have MkW : Mk K CW f_wi := ⟨mkW, inW, fnW, kcW⟩
  have Owords := ok_mwords (P := l.prog) (w := w) (base := base) B TM F_mwords
  have Omfaults := ok_mfaults (P := l.prog) (w := w) (base := base) B TM F_mfaults
  have Oseen := ok_allseen B cM Owords P_mwords b_mwords Omfaults P_mfaults b_mfaults MkW Owinit bwi gW F_allseen
  have Gsf := g_stepsfrom (P := l.prog) (w := w) (base := base) F_stepsfrom T
  have Gcw := g_checkwatch (P := l.prog) (w := w) (base := base) F_checkwatch T
  have Gso := g_sightof (P := l.prog) (w := w) (base := base) F_sightof T
  have Gst := g_start (P := l.prog) (w := w) (base := base) F_start T
  have Gss := g_states (P := l.prog) (w := w) (base := base) F_states T
  have Lc : Cal l.prog w K mg base CM CW f_stepsfrom f_sightof h_stepsfrom h_sightof := ⟨Gsf, b_stepsfrom, m_stepsfrom, k_stepsfrom, Gso, b_sightof, m_sightof, k_sightof⟩
  have Gclo := g_clo F_clo T Lc
  have Gable := g_able F_able T Lc ⟨P_states, Gss, b_states⟩
  have Gends := g_ends F_ends T Lc Gclo b_clo m_clo k_clo
  have CR : CalR l.prog w K mg base CM CW := ⟨_, _, Gcw, b_checkwatch, m_checkwatch, k_checkwatch, _, _, Gcount, b_iscount, m_iscount, k_iscount, _, _, Gable, b_able, m_able, k_able, _, _, Gclo, b_clo, m_clo, k_clo, _, _, Gends, b_ends, m_ends, k_ends, _, _, _, ⟨P_start, Gst, b_start⟩⟩
  have R : RowsC l.prog w K mg base CM CW := ⟨T, CR, _, _, F_rows, b_rows, m_rows⟩
  -- the law
  have Omix := ok_mix (P := l.prog) (w := w) (base := base) B F_mix
  have Ocell := ok_cell B Omix b_mix m_mix k_mix F_cell
  have Orowl := ok_row B Omix b_mix m_mix k_mix F_row
  have Onames := ok_names B Orowl b_row m_row k_row F_names
  have Omach := ok_machl B Orowl b_row m_row k_row F_mach
  have Olf := ok_lfaults (P := l.prog) (w := w) (base := base) B F_lfaults
  have Ols := ok_lsights B Orowl b_row m_row k_row F_lsights
  have Ose := ok_seen (P := l.prog) (w := w) (mg := mg) (base := base) F_seen
  have Owa := ok_walk (P := l.prog) (w := w) (base := base) B F_walk
  have Oex := ok_exactS B F_exact b_exact m_exact k_exact (ok_exactS B F_exact b_exact m_exact k_exact (ok_exact0 (P := l.prog) (w := w) (base := base) B F_exact))
  have CE : CalF l.prog w K mg base 2 "_law_cell" ["_law_script", "_law_k"] (spCellB K) := ⟨_, _, Ocell, b_cell, m_cell, k_cell⟩
  have NA : CalF l.prog w K mg base 3 "_law_names" ["_law_cell_here", "_law_many"] spNames := ⟨_, _, Onames, b_names, m_names, k_names⟩
  have RO : CalF l.prog w K mg base 2 "_law_row" ["_law_cell_here", "_law_sizes"] spRow := ⟨_, _, Orowl, b_row, m_row, k_row⟩
  have Osys := ok_sys B CE NA ⟨_, _, Omach, b_mach, m_mach, k_mach⟩ RO ⟨_, _, Olf, b_lfaults, m_lfaults, k_lfaults⟩ F_sys
  have Ocl := ok_closed (P := l.prog) (w := w) (base := base) B F_closed
  have Obe := ok_behind B Ocl b_closed m_closed k_closed F_behind
  have Oab := ok_lable B Ocl b_closed m_closed k_closed Obe b_behind m_behind k_behind F_lable
  have Oho := ok_holds B Oab b_lable m_lable k_lable F_holds
  have Ofi := ok_first R B.zip F_first
  have FI : CalF l.prog w K mg base 7 "_law_first" ["_law_machine_here", "_law_watch", "_law_many"] (spFirst CM CW) := ⟨_, _, Ofi, b_first, m_first, k_first⟩
  have MM : MakeM l.prog w K mg base CM := ⟨_, _, MkM, Ominit, bmi1, bmi0, gM⟩
  have MW : MakeW l.prog w K mg base CW := ⟨_, _, MkW, Owinit, bwi, gW⟩
  have Owi := ok_wide B MM ⟨_, _, Oseen, b_allseen, m_allseen, k_allseen⟩ FI ⟨_, _, Oex, b_exact, m_exact, k_exact⟩ F_wide
  exact ok_law ⟨B, R, MM, MW, ⟨_, _, Osys, b_sys, m_sys, k_sys⟩, ⟨_, _, Ols, b_lsights, m_lsights, k_lsights⟩, CE, RO, FI, ⟨_, _, Owi, b_wide, m_wide, k_wide⟩, NA, ⟨_, _, Oho, b_holds, m_holds, k_holds⟩, ⟨_, _, Owa, b_walk, m_walk, k_walk⟩, ⟨_, _, Ose, b_seen, m_seen, k_seen⟩⟩ (fun_mk (st := sLaw) lL cL' kL)
theorem walkL {l : PySem.W.OpenLaw} {q : Program} {loose : List Str} {XP : (Str → Option Value) → Heap → Prop} {YP : World → Heap → Prop} {d : DefRec} {K : Params → PySem.W.Frag} (hn : l.most = some 63) (hdf : d.params.defaults = [])
    (hY : ∀ (w : World) (h : Heap), YP w h → (K w.params).In h)
    (F : ∀ (w : World) (mg : Str → Option Value) (fa : Addr) (h : Heap), (K w.params).In h → h.Ns mainGlobals mg → mg d.name = some (.ref fa) →
      ∃ fd : FuncData, (∀ (s : Shared) (u : Value), BindsTo s fd ⟨[u], []⟩ [("_law_script", u)]) ∧ ∀ base : Heap, (K w.params).In base → base.Ns mainGlobals mg → FnOk l.prog w (K w.params) mg base CX0 9 fa fd ["_law_script"] (spLaw (K w.params))) :
    PySem.W.WalkO q loose XP YP l.row.toRowW d [] (fun f vs => PySem.call f vs) :=
  L2.walk_ofB (n := 63) (k := 9) (x := "_law_script") (CX := fun _ => CX0) (sp := fun w => spLaw (K w.params)) hn (by decide) hdf ⟨rfl, by decide, by decide⟩ hY F (fun _ _ a ns hl hb _ hS => ⟨a, ns, rfl, hS, fun c hc => bd_of (hb c hc), hl, fun _ => rfl⟩) fun _ _ _ _ _ z => z
end KN
open PySem PySem.W PyProof.Rows in
set_option maxRecDepth 100000 in
set_option maxHeartbeats 0 in
theorem PySem.Challenge.cw_knownlate_k19_whole_first_rows_holds : PySem.Challenge.rw_knownlate_k19_whole_first_rows.Holds := by
  w_on; o_law; k_head; (case hw => w_witness2)
  k_fill
  refine KN.walkL (l := PySem.Challenge.rw_knownlate_k19_whole_first_rows) rfl rfl (fun w h Y => PySem.W.kIn_of Y) ?F
  case F =>
    intro w mg fa h KX G hmg
    refine' KN.all_mk KX G hmg ?a_isint ?l_isint ?c_isint ?k_isint ?a_iscount ?l_iscount ?c_iscount ?k_iscount ?a_isstate ?l_isstate ?c_isstate ?k_isstate ?a_isname ?l_isname ?c_isname ?k_isname ?a_isrow ?l_isrow ?c_isrow ?k_isrow ?a_checked ?l_checked ?c_checked ?k_checked ?a_isstep ?l_isstep ?c_isstep ?k_isstep ?a_faults ?l_faults ?c_faults ?k_faults ?a_leaving ?l_leaving ?c_leaving ?k_leaving ?a_reached ?l_reached ?c_reached ?k_reached ?a_stepsfrom ?l_stepsfrom ?c_stepsfrom ?k_stepsfrom ?a_istab ?l_istab ?c_istab ?k_istab ?a_allseen ?l_allseen ?c_allseen ?k_allseen ?a_checkwatch ?l_checkwatch ?c_checkwatch ?k_checkwatch ?a_sightof ?l_sightof ?c_sightof ?k_sightof ?a_rows ?l_rows ?c_rows ?k_rows ?a_ends ?l_ends ?c_ends ?k_ends ?a_clo ?l_clo ?c_clo ?k_clo ?a_able ?l_able ?c_able ?k_able ?a_mix ?l_mix ?c_mix ?k_mix ?a_cell ?l_cell ?c_cell ?k_cell ?a_row ?l_row ?c_row ?k_row ?a_names ?l_names ?c_names ?k_names ?a_mach ?l_mach ?c_mach ?k_mach ?a_lfaults ?l_lfaults ?c_lfaults ?k_lfaults ?a_lsights ?l_lsights ?c_lsights ?k_lsights ?a_seen ?l_seen ?c_seen ?k_seen ?a_walk ?l_walk ?c_walk ?k_walk ?a_exact ?l_exact ?c_exact ?k_exact ?a_sys ?l_sys ?c_sys ?k_sys ?a_closed ?l_closed ?c_closed ?k_closed ?a_behind ?l_behind ?c_behind ?k_behind ?a_lable ?l_lable ?c_lable ?k_lable ?a_first ?l_first ?c_first ?k_first ?a_holds ?l_holds ?c_holds ?k_holds ?a_wide ?l_wide ?c_wide ?k_wide ?a_law ?l_law ?c_law ?k_law ?aM ?aW ?pgM ?hdM ?poM ?saM ?mkM ?kcM ?inM ?fnM ?l_diM ?c_diM ?k_diM ?t_diM ?pgW ?hdW ?poW ?saW ?mkW ?kcW ?inW ?fnW ?l_diW ?c_diW ?k_diW ?t_diW ?n1 ?n2 ?n3 ?n4 ?n5 ?n6 ?nT ?pa_start ?pb_start ?pc_start ?pd_start ?l_start ?c_start ?k_start ?pa_mwords ?pb_mwords ?pc_mwords ?pd_mwords ?l_mwords ?c_mwords ?k_mwords ?pa_mfaults ?pb_mfaults ?pc_mfaults ?pd_mfaults ?l_mfaults ?c_mfaults ?k_mfaults ?pa_states ?pb_states ?pc_states ?pd_states ?l_states ?c_states ?k_states ?z_isinst ?z_int ?z_bool ?z_list ?z_sorted ?z_reversed ?z_len ?z_range ?z_str ?z_dict ?z_tuple ?z_set ?z_min ?z_enum ?z_zip ?cL ?cML ?cMS ?cMP ?cMF ?cMW ?cMU ?cMG ?wc ?wg ?wt ?wm
    (case a_isint => k_is)
    (case l_isint => k_is)
    (case c_isint => k_is)
    (case k_isint => k_is)
    (case a_iscount => k_is)
    (case l_iscount => k_is)
    (case c_iscount => k_is)
    (case k_iscount => k_is)
    (case a_isstate => k_is)
    (case l_isstate => k_is)
    (case c_isstate => k_is)
    (case k_isstate => k_is)
    (case a_isname => k_is)
    (case l_isname => k_is)
    (case c_isname => k_is)
    (case k_isname => k_is)
    (case a_isrow => k_is)
    (case l_isrow => k_is)
    (case c_isrow => k_is)
    (case k_isrow => k_is)
    (case a_checked => k_is)
    (case l_checked => k_is)
    (case c_checked => k_is)
    (case k_checked => k_is)
    (case a_isstep => k_is)
    (case l_isstep => k_is)
    (case c_isstep => k_is)
    (case k_isstep => k_is)
    (case a_faults => k_is)
    (case l_faults => k_is)
    (case c_faults => k_is)
    (case k_faults => k_is)
    (case a_leaving => k_is)
    (case l_leaving => k_is)
    (case c_leaving => k_is)
    (case k_leaving => k_is)
    (case a_reached => k_is)
    (case l_reached => k_is)
    (case c_reached => k_is)
    (case k_reached => k_is)
    (case a_stepsfrom => k_is)
    (case l_stepsfrom => k_is)
    (case c_stepsfrom => k_is)
    (case k_stepsfrom => k_is)
    (case a_istab => k_is)
    (case l_istab => k_is)
    (case c_istab => k_is)
    (case k_istab => k_is)
    (case a_allseen => k_is)
    (case l_allseen => k_is)
    (case c_allseen => k_is)
    (case k_allseen => k_is)
    (case a_checkwatch => k_is)
    (case l_checkwatch => k_is)
    (case c_checkwatch => k_is)
    (case k_checkwatch => k_is)
    (case a_sightof => k_is)
    (case l_sightof => k_is)
    (case c_sightof => k_is)
    (case k_sightof => k_is)
    (case a_rows => k_is)
    (case l_rows => k_is)
    (case c_rows => k_is)
    (case k_rows => k_is)
    (case a_ends => k_is)
    (case l_ends => k_is)
    (case c_ends => k_is)
    (case k_ends => k_is)
    (case a_clo => k_is)
    (case l_clo => k_is)
    (case c_clo => k_is)
    (case k_clo => k_is)
    (case a_able => k_is)
    (case l_able => k_is)
    (case c_able => k_is)
    (case k_able => k_is)
    (case a_mix => k_is)
    (case l_mix => k_is)
    (case c_mix => k_is)
    (case k_mix => k_is)
    (case a_cell => k_is)
    (case l_cell => k_is)
    (case c_cell => k_is)
    (case k_cell => k_is)
    (case a_row => k_is)
    (case l_row => k_is)
    (case c_row => k_is)
    (case k_row => k_is)
    (case a_names => k_is)
    (case l_names => k_is)
    (case c_names => k_is)
    (case k_names => k_is)
    (case a_mach => k_is)
    (case l_mach => k_is)
    (case c_mach => k_is)
    (case k_mach => k_is)
    (case a_lfaults => k_is)
    (case l_lfaults => k_is)
    (case c_lfaults => k_is)
    (case k_lfaults => k_is)
    (case a_lsights => k_is)
    (case l_lsights => k_is)
    (case c_lsights => k_is)
    (case k_lsights => k_is)
    (case a_seen => k_is)
    (case l_seen => k_is)
    (case c_seen => k_is)
    (case k_seen => k_is)
    (case a_walk => k_is)
    (case l_walk => k_is)
    (case c_walk => k_is)
    (case k_walk => k_is)
    (case a_exact => k_is)
    (case l_exact => k_is)
    (case c_exact => k_is)
    (case k_exact => k_is)
    (case a_sys => k_is)
    (case l_sys => k_is)
    (case c_sys => k_is)
    (case k_sys => k_is)
    (case a_closed => k_is)
    (case l_closed => k_is)
    (case c_closed => k_is)
    (case k_closed => k_is)
    (case a_behind => k_is)
    (case l_behind => k_is)
    (case c_behind => k_is)
    (case k_behind => k_is)
    (case a_lable => k_is)
    (case l_lable => k_is)
    (case c_lable => k_is)
    (case k_lable => k_is)
    (case a_first => k_is)
    (case l_first => k_is)
    (case c_first => k_is)
    (case k_first => k_is)
    (case a_holds => k_is)
    (case l_holds => k_is)
    (case c_holds => k_is)
    (case k_holds => k_is)
    (case a_wide => k_is)
    (case l_wide => k_is)
    (case c_wide => k_is)
    (case k_wide => k_is)
    (case a_law => k_is)
    (case l_law => k_is)
    (case c_law => k_is)
    (case k_law => k_is)
    (case aM => k_is)
    (case aW => k_is)
    (case pgM => k_is)
    (case hdM => k_is)
    (case poM => k_is)
    (case saM => k_is)
    (case mkM => k_is)
    (case kcM => k_is)
    (case inM => k_is)
    (case fnM => k_is)
    (case l_diM => k_is)
    (case c_diM => k_is)
    (case k_diM => k_is)
    (case t_diM => k_is)
    (case pgW => k_is)
    (case hdW => k_is)
    (case poW => k_is)
    (case saW => k_is)
    (case mkW => k_is)
    (case kcW => k_is)
    (case inW => k_is)
    (case fnW => k_is)
    (case l_diW => k_is)
    (case c_diW => k_is)
    (case k_diW => k_is)
    (case t_diW => k_is)
    (case n1 => k_is)
    (case n2 => k_is)
    (case n3 => k_is)
    (case n4 => k_is)
    (case n5 => k_is)
    (case n6 => k_is)
    (case nT => k_is)
    (case pa_start => k_is)
    (case pb_start => k_is)
    (case pc_start => k_is)
    (case pd_start => k_is)
    (case l_start => k_is)
    (case c_start => k_is)
    (case k_start => k_is)
    (case pa_mwords => k_is)
    (case pb_mwords => k_is)
    (case pc_mwords => k_is)
    (case pd_mwords => k_is)
    (case l_mwords => k_is)
    (case c_mwords => k_is)
    (case k_mwords => k_is)
    (case pa_mfaults => k_is)
    (case pb_mfaults => k_is)
    (case pc_mfaults => k_is)
    (case pd_mfaults => k_is)
    (case l_mfaults => k_is)
    (case c_mfaults => k_is)
    (case k_mfaults => k_is)
    (case pa_states => k_is)
    (case pb_states => k_is)
    (case pc_states => k_is)
    (case pd_states => k_is)
    (case l_states => k_is)
    (case c_states => k_is)
    (case k_states => k_is)
    (case z_isinst => k_is)
    (case z_int => k_is)
    (case z_bool => k_is)
    (case z_list => k_is)
    (case z_sorted => k_is)
    (case z_reversed => k_is)
    (case z_len => k_is)
    (case z_range => k_is)
    (case z_str => k_is)
    (case z_dict => k_is)
    (case z_tuple => k_is)
    (case z_set => k_is)
    (case z_min => k_is)
    (case z_enum => k_is)
    (case z_zip => k_is)
    (case cL => k_is)
    (case cML => k_is)
    (case cMS => k_is)
    (case cMP => k_is)
    (case cMF => k_is)
    (case cMW => k_is)
    (case cMU => k_is)
    (case cMG => k_is)
    (case wc => k_is)
    (case wg => k_is)
    (case wt => k_is)
    (case wm => k_is)
