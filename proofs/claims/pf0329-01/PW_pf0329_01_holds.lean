import PyProof.Rows.All
import PyProof.ListNew
import PyProof.ZipIter
import Wide.All
import OpenK.AllK
import Wide.FinOn
import PySem.Challenge.RW_pf0329_01
set_option Elab.async false

section
open PySem PyProof.Rows
namespace Mine
set_option autoImplicit false
set_option linter.unusedVariables false
set_option maxRecDepth 100000

noncomputable def Ext (h h' : Heap) : Prop := ∀ b o, h.get? b = some o → h'.get? b = some o
theorem Ext.refl (h : Heap) : Ext h h := fun _ _ e => e
theorem Ext.trans {a b c : Heap} (x : Ext a b) (y : Ext b c) : Ext a c := fun _ _ e => y _ _ (x _ _ e)
theorem Ext.push (h : Heap) (o : Obj) : Ext h (h.push o) := fun _ _ e => Heap.get?_push_of_some _ e

inductive D where
  | none
  | bool (b : Bool)
  | int (i : Int)
  | str (x : Str)
  | tup (ds : List D)
  | lst (ds : List D)

mutual
inductive R (X : Addr → Prop) (h : Heap) : Value → D → Prop
  | none : R X h Value.none D.none
  | bool (b : Bool) : R X h (Value.bool b) (D.bool b)
  | int (i : Int) (t : Tok) : R X h (Value.int i t) (D.int i)
  | str (x : Str) (t : Tok) : R X h (Value.str x t) (D.str x)
  | tup {a : Addr} {vs : List Value} {ds : List D} : ¬ X a → h.IsTuple a vs.toArray → RS X h vs ds → R X h (Value.ref a) (D.tup ds)
  | lst {a : Addr} {vs : List Value} {ds : List D} : ¬ X a → h.IsList a vs.toArray → RS X h vs ds → R X h (Value.ref a) (D.lst ds)
inductive RS (X : Addr → Prop) (h : Heap) : List Value → List D → Prop
  | nil : RS X h [] []
  | cons {v : Value} {vs : List Value} {d : D} {ds : List D} : R X h v d → RS X h vs ds → RS X h (v :: vs) (d :: ds)
end

section
variable {X X' : Addr → Prop} {h h' : Heap}
theorem tup_ext {a : Addr} {items : Array Value} (x : h.IsTuple a items) (k : ∀ o, h.get? a = some o → h'.get? a = some o) : h'.IsTuple a items :=
  let ⟨o, ho, r⟩ := x; ⟨o, k o ho, r⟩
theorem lst_ext {a : Addr} {items : Array Value} (x : h.IsList a items) (k : ∀ o, h.get? a = some o → h'.get? a = some o) : h'.IsList a items :=
  let ⟨o, ho, r⟩ := x; ⟨o, k o ho, r⟩
mutual
theorem R.mono (k : ∀ b o, ¬ X b → h.get? b = some o → ¬ X' b ∧ h'.get? b = some o) : ∀ {v : Value} {d : D}, R X h v d → R X' h' v d
  | _, _, .none => .none
  | _, _, .bool b => .bool b
  | _, _, .int i t => .int i t
  | _, _, .str x t => .str x t
  | _, _, .tup hx ht r => .tup (let ⟨_, ho, _⟩ := ht; (k _ _ hx ho).1) (tup_ext ht fun _ ho => (k _ _ hx ho).2) (RS.mono k r)
  | _, _, .lst hx ht r => .lst (let ⟨_, ho, _⟩ := ht; (k _ _ hx ho).1) (lst_ext ht fun _ ho => (k _ _ hx ho).2) (RS.mono k r)
theorem RS.mono (k : ∀ b o, ¬ X b → h.get? b = some o → ¬ X' b ∧ h'.get? b = some o) : ∀ {vs : List Value} {ds : List D}, RS X h vs ds → RS X' h' vs ds
  | _, _, .nil => .nil
  | _, _, .cons a r => .cons (R.mono k a) (RS.mono k r)
end
theorem R.ext {v : Value} {d : D} (r : R X h v d) (e : Ext h h') : R X h' v d := r.mono fun b o hx ho => ⟨hx, e b o ho⟩
theorem RS.ext {vs : List Value} {ds : List D} (r : RS X h vs ds) (e : Ext h h') : RS X h' vs ds := r.mono fun b o hx ho => ⟨hx, e b o ho⟩
theorem RS.length {vs : List Value} {ds : List D} (r : RS X h vs ds) : vs.length = ds.length := by
  induction vs generalizing ds with
  | nil => cases r; rfl
  | cons v vs ih => cases r with | cons _ r => rw [List.length_cons, List.length_cons, ih r]
theorem RS.append {vs ws : List Value} {ds es : List D} (r : RS X h vs ds) (q : RS X h ws es) : RS X h (vs ++ ws) (ds ++ es) := by
  induction vs generalizing ds with
  | nil => cases r; exact q
  | cons v vs ih => cases r with | cons a r => exact .cons a (ih r)
theorem RS.get {vs : List Value} {ds : List D} (r : RS X h vs ds) {k : Nat} {d : D} (hk : ds[k]? = some d) : ∃ v, vs[k]? = some v ∧ R X h v d := by
  induction vs generalizing ds k with
  | nil => cases r; simp at hk
  | cons v vs ih =>
    cases r with
    | cons a r =>
      cases k with
      | zero => simp at hk; subst hk; exact ⟨v, rfl, a⟩
      | succ k => simp at hk; obtain ⟨u, e, q⟩ := ih r hk; exact ⟨u, by simpa using e, q⟩
theorem RS.getV {vs : List Value} {ds : List D} (r : RS X h vs ds) {k : Nat} {v : Value} (hk : vs[k]? = some v) : ∃ d, ds[k]? = some d ∧ R X h v d := by
  induction vs generalizing ds k with
  | nil => simp at hk
  | cons u vs ih =>
    cases r with
    | cons a r =>
      cases k with
      | zero => simp at hk; subst hk; exact ⟨_, rfl, a⟩
      | succ k => simp at hk; obtain ⟨u, e, q⟩ := ih r hk; exact ⟨u, by simpa using e, q⟩
theorem RS.set {vs : List Value} {ds : List D} (r : RS X h vs ds) {k : Nat} {v : Value} {d : D} (q : R X h v d) : RS X h (vs.set k v) (ds.set k d) := by
  induction vs generalizing ds k with
  | nil => cases r; exact .nil
  | cons u vs ih =>
    cases r with
    | cons a r =>
      cases k with
      | zero => exact .cons q r
      | succ k => exact .cons a (ih r)
end

/-- where and how code runs -/
structure Cx where
  prog : Program
  w : World
  A : Around
  env : Env
  X : Addr → Prop

noncomputable def Bd (X : Addr → Prop) (h : Heap) : Prop := ∀ b, X b → ∃ o, h.get? b = some o
theorem Bd.ext {X : Addr → Prop} {h h' : Heap} (b : Bd X h) (e : Ext h h') : Bd X h' := fun a x => let ⟨o, ho⟩ := b a x; ⟨o, e _ _ ho⟩
theorem Bd.fresh {X : Addr → Prop} {h : Heap} (b : Bd X h) : ¬ X h.objs.size := fun x => let ⟨_, ho⟩ := b _ x; Nat.lt_irrefl _ (Heap.lt_size ho)

/-- the tree t, from any state that extends h, ends with a value that bears d, the heap only extended -/
noncomputable def Sv (c : Cx) (h : Heap) (t : Sem Value) (d : D) : Prop :=
  ∀ (s : Shared) (Q : Value → Shared → Prop) (E : Value → Shared → Prop), Ext h s.heap →
    (∀ v h' tk, Ext s.heap h' → R c.X h' v d → Q v { s with heap := h', toks := tk }) → wpAny (model c.prog c.w) c.A t Q E s
noncomputable def Ev (c : Cx) (h : Heap) (e : Expr) (d : D) : Prop := Sv c h (eval e c.env) d
/-- a test -/
noncomputable def Te (c : Cx) (h : Heap) (e : Expr) (b : Bool) : Prop :=
  ∀ (s : Shared) (Q : Bool → Shared → Prop) (E : Value → Shared → Prop), Ext h s.heap →
    (∀ h' tk, Ext s.heap h' → Q b { s with heap := h', toks := tk }) → wpAny (model c.prog c.w) c.A (isTrue e c.env (eval e c.env)) Q E s

section
variable {c : Cx} {h h' : Heap} {a b e : Expr} {x y : Int} {d : D} {pos : Pos}
theorem Sv.ext {t : Sem Value} (r : Sv c h t d) (k : Ext h h') : Sv c h' t d := fun s Q E e q => r s Q E (k.trans e) q
theorem Ev.ext (r : Ev c h e d) (k : Ext h h') : Ev c h' e d := Sv.ext r k
theorem Te.ext {b : Bool} (r : Te c h e b) (k : Ext h h') : Te c h' e b := fun s Q E e q => r s Q E (k.trans e) q

theorem Ev.int {i : Int} {n : Nat} : Ev c h (.Constant (.int i) n pos) (.int i) := fun s _ _ _ q =>
  wpAny_Constant_int (q _ s.heap _ (Ext.refl _) (.int _ _))
theorem Ev.bool {b : Bool} {n : Nat} : Ev c h (.Constant (.bool b) n pos) (.bool b) := fun s _ _ _ q =>
  wpAny_Constant_bool (q _ s.heap s.toks (Ext.refl _) (.bool _))
theorem Ev.str {x : Str} {n : Nat} : Ev c h (.Constant (.str x) n pos) (.str x) := fun s _ _ _ q =>
  wpAny_Constant_str (q _ s.heap _ (Ext.refl _) (.str _ _))

theorem Ev.bin {op : Operator} {dx dy : D} (ha : Ev c h a dx) (hb : Ev c h b dy)
    (hop : ∀ (v u : Value) (s : Shared) (Q : Value → Shared → Prop) (E : Value → Shared → Prop), Ext h s.heap → R c.X s.heap v dx → R c.X s.heap u dy →
      (∀ r h' tk, Ext s.heap h' → R c.X h' r d → Q r { s with heap := h', toks := tk }) → wpAny (model c.prog c.w) c.A (binaryOp op v u) Q E s) :
    Ev c h (.BinOp a op b pos) d := by
  intro s Q E hx k
  refine wpAny_BinOp (ha s _ _ hx fun v h1 t1 e1 r1 => ?_)
  refine hb _ _ _ (hx.trans e1) fun u h2 t2 e2 r2 => ?_
  exact hop v u _ _ _ ((hx.trans e1).trans e2) (r1.ext e2) r2 fun r h3 t3 e3 r3 => k r h3 t3 ((e1.trans e2).trans e3) r3
theorem Ev.ibin {op : Operator} {z : Int} (ha : Ev c h a (.int x)) (hb : Ev c h b (.int y))
    (hop : ∀ (t u : Tok) (s : Shared) (Q : Value → Shared → Prop) (E : Value → Shared → Prop), Q (.int z s.toks) { s with toks := s.toks + 1 } → wpAny (model c.prog c.w) c.A (binaryOp op (.int x t) (.int y u)) Q E s) :
    Ev c h (.BinOp a op b pos) (.int z) :=
  Ev.bin ha hb fun v u s Q E _ r1 r2 q => by
    cases r1; cases r2
    exact hop _ _ s Q E (q _ s.heap _ (Ext.refl _) (.int _ _))
theorem Ev.add (ha : Ev c h a (.int x)) (hb : Ev c h b (.int y)) : Ev c h (.BinOp a .Add b pos) (.int (x + y)) := Ev.ibin ha hb fun _ _ _ _ _ q => add_int q
theorem Ev.sub (ha : Ev c h a (.int x)) (hb : Ev c h b (.int y)) : Ev c h (.BinOp a .Sub b pos) (.int (x - y)) := Ev.ibin ha hb fun _ _ _ _ _ q => sub_int q
theorem Ev.mul (ha : Ev c h a (.int x)) (hb : Ev c h b (.int y)) (hm : IntMulOk x y) : Ev c h (.BinOp a .Mult b pos) (.int (x * y)) := Ev.ibin ha hb fun _ _ _ _ _ q => mul_int q hm
theorem Ev.mod (ha : Ev c h a (.int x)) (hb : Ev c h b (.int y)) (hy : y ≠ 0) : Ev c h (.BinOp a .Mod b pos) (.int (x.fmod y)) := Ev.ibin ha hb fun _ _ _ _ _ q => PyProof.Rows.mod_int hy q
theorem Ev.band (ha : Ev c h a (.int x)) (hb : Ev c h b (.int y)) : Ev c h (.BinOp a .BitAnd b pos) (.int (Builtin.bitAnd x y)) := Ev.ibin ha hb fun _ _ _ _ _ q => and_int q
theorem Ev.shl (ha : Ev c h a (.int x)) (hb : Ev c h b (.int y)) (h0 : 0 ≤ y) (h1 : y ≤ 1000000) (h2 : x.natAbs < 2 ^ 64) : Ev c h (.BinOp a .LShift b pos) (.int (x * 2 ^ y.toNat)) :=
  Ev.ibin ha hb fun _ _ _ _ _ q => lshift_int_small h0 h1 h2 q
theorem Ev.fdiv (ha : Ev c h a (.int x)) (hb : Ev c h b (.int y)) (hy : y ≠ 0) (hp : Builtin.divisionGoesByPylong x y = false) : Ev c h (.BinOp a .FloorDiv b pos) (.int (x.fdiv y)) :=
  Ev.ibin ha hb fun _ _ _ _ _ q => floordiv_int hy q (.inl hp)
end
end Mine
end

section
open PySem PyProof.Rows
namespace Mine
set_option autoImplicit false
set_option linter.unusedVariables false
set_option maxRecDepth 100000

/-- room left: n more frames -/
structure Rm (n : Nat) (A : Around) : Prop where
  hh : A.handled = none
  dp : A.depth + n < recursionLimit
  un : A.units + 8 * n + 64 < cLine

section
variable {c : Cx} {h h' : Heap} {a b e : Expr} {x y : Int} {d : D} {pos : Pos}

theorem Ev.shr (ha : Ev c h a (.int x)) (hb : Ev c h b (.int y)) (h0 : 0 ≤ y) : Ev c h (.BinOp a .RShift b pos) (.int (x.fdiv (2 ^ y.toNat))) := Ev.ibin ha hb fun _ _ _ _ _ q => rshift_int h0 q
theorem Ev.pow (ha : Ev c h a (.int x)) (hb : Ev c h b (.int y)) (h0 : 0 ≤ y) (h1 : y ≤ 1000000) (h2 : x.natAbs < 2 ^ 64) : Ev c h (.BinOp a .Pow b pos) (.int (x ^ y.toNat)) := Ev.ibin ha hb fun _ _ _ _ _ q => pow_int_small h0 h1 h2 q

theorem Ev.neg (ha : Ev c h a (.int x)) : Ev c h (.UnaryOp .USub a pos) (.int (-x)) := fun s Q E hx q =>
  wpAny_UnaryOp (ha s _ _ hx fun v h1 t1 e1 r1 => by cases r1; exact PyProof.Rows.neg_int (q _ h1 _ e1 (.int _ _)))

/-- truth of data -/
noncomputable def Tr (c : Cx) (h : Heap) (d : D) (t : Bool) : Prop := ∀ (v : Value) (s : Shared) (Q : Bool → Shared → Prop) (E : Value → Shared → Prop), Ext h s.heap → R c.X s.heap v d →
  (∀ h' tk, Ext s.heap h' → Q t { s with heap := h', toks := tk }) → wpAny (model c.prog c.w) c.A (truthy v) Q E s
theorem Tr.bool {t : Bool} : Tr c h (.bool t) t := fun v s Q E _ r q => by
  cases r; exact wpAny_truthy_bool (q s.heap s.toks (Ext.refl _))
theorem Tr.lst {ds : List D} (hs : ds.length < 2 ^ 62) : Tr c h (.lst ds) (!ds.isEmpty) := fun v s Q E _ r q => by
  cases r with
  | lst hx hl rs =>
    rename_i a vs
    refine wpAny_truthy_list hl (by rw [List.size_toArray, rs.length]; lia) ?_
    have e : (!vs.toArray.isEmpty) = !ds.isEmpty := by
      have := rs.length
      cases vs <;> cases ds <;> simp_all
    rw [e]; exact q s.heap _ (Ext.refl _)

theorem Ev.not {t : Bool} (ha : Ev c h a d) (ht : Tr c h d t) : Ev c h (.UnaryOp .Not a pos) (.bool (!t)) := fun s Q E hx q =>
  wpAny_UnaryOp (ha s _ _ hx fun v h1 t1 e1 r1 => not_of (ht v _ _ _ (hx.trans e1) r1 fun h2 t2 e2 => q _ h2 _ (e1.trans e2) (.bool _)))

/-- comparison -/
noncomputable def Co (c : Cx) (h : Heap) (op : CmpOp) (d1 d2 : D) (t : Bool) : Prop := ∀ (v u : Value) (s : Shared) (Q : Value → Shared → Prop) (E : Value → Shared → Prop), Ext h s.heap → R c.X s.heap v d1 → R c.X s.heap u d2 →
  (∀ h' tk, Ext s.heap h' → Q (.bool t) { s with heap := h', toks := tk }) → wpAny (model c.prog c.w) c.A (compareOp op v u) Q E s
theorem Co.lt : Co c h .Lt (.int x) (.int y) (decide (x < y)) := fun v u s Q E _ r1 r2 q => by cases r1; cases r2; exact PyProof.Rows.lt_int (q s.heap s.toks (Ext.refl _))
theorem Co.le : Co c h .LtE (.int x) (.int y) (decide (x ≤ y)) := fun v u s Q E _ r1 r2 q => by cases r1; cases r2; exact PyProof.Rows.le_int (q s.heap s.toks (Ext.refl _))
theorem Co.gt : Co c h .Gt (.int x) (.int y) (decide (y < x)) := fun v u s Q E _ r1 r2 q => by cases r1; cases r2; exact PyProof.Rows.gt_int (q s.heap s.toks (Ext.refl _))
theorem Co.eq : Co c h .Eq (.int x) (.int y) (x == y) := fun v u s Q E _ r1 r2 q => by cases r1; cases r2; exact PyProof.Rows.eq_int (q s.heap s.toks (Ext.refl _))
theorem Co.ne : Co c h .NotEq (.int x) (.int y) (x != y) := fun v u s Q E _ r1 r2 q => by cases r1; cases r2; exact PyProof.Rows.ne_int (q s.heap s.toks (Ext.refl _))

theorem Ev.cmp {op : CmpOp} {d1 d2 : D} {t : Bool} (ha : Ev c h a d1) (hb : Ev c h b d2) (hc : Co c h op d1 d2 t) (hm : behindInMarks op b = false := by with_unfolding_all rfl) :
    Ev c h (.Compare a [op] [b] pos) (.bool t) := fun s Q E hx q =>
  wpAny_Compare1 (ha s _ _ hx fun v h1 t1 e1 r1 => hb _ _ _ (hx.trans e1) fun u h2 t2 e2 r2 =>
    hc v u _ _ _ ((hx.trans e1).trans e2) (r1.ext e2) r2 fun h3 t3 e3 => q _ h3 _ ((e1.trans e2).trans e3) (.bool _)) hm
theorem Te.cmp {op : CmpOp} {d1 d2 : D} {t : Bool} (ha : Ev c h a d1) (hb : Ev c h b d2) (hc : Co c h op d1 d2 t) (hm : behindInMarks op b = false := by with_unfolding_all rfl) :
    Te c h (.Compare a [op] [b] pos) t := fun s Q E hx q =>
  wpAny_isTrue_Compare1 (ha s _ _ hx fun v h1 t1 e1 r1 => hb _ _ _ (hx.trans e1) fun u h2 t2 e2 r2 =>
    hc v u _ _ _ ((hx.trans e1).trans e2) (r1.ext e2) r2 fun h3 t3 e3 => wpAny_truthy_bool (q h3 t3 ((e1.trans e2).trans e3))) hm
/-- a op1 b op2 e -/
theorem Ev.chain {op1 op2 : CmpOp} {d1 d2 d3 : D} {t1 t2 : Bool} (ha : Ev c h a d1) (hb : Ev c h b d2) (he : Ev c h e d3) (h1 : Co c h op1 d1 d2 t1) (h2 : t1 = true → Co c h op2 d2 d3 t2)
    (hm : lastMarks [op1, op2] [b, e] = false := by with_unfolding_all rfl) : Ev c h (.Compare a [op1, op2] [b, e] pos) (.bool (t1 && t2)) := fun s Q E hx q => by
  refine Compare_chain (ha s _ _ hx fun v h1' k1 e1 r1 => ?_) hm
  refine chain_link (hb _ _ _ (hx.trans e1) fun u h2' k2 e2 r2 => ?_)
  refine h1 v u _ _ _ ((hx.trans e1).trans e2) (r1.ext e2) r2 fun h3 k3 e3 => wpAny_truthy_bool ?_
  cases t1 with
  | false => exact q _ h3 _ ((e1.trans e2).trans e3) (.bool _)
  | true =>
    refine chain_last (he _ _ _ (((hx.trans e1).trans e2).trans e3) fun z h4 k4 e4 r4 => ?_)
    exact h2 rfl u z _ _ _ ((((hx.trans e1).trans e2).trans e3).trans e4) ((r2.ext e3).ext e4) r4 fun h5 k5 e5 => q _ h5 _ ((((e1.trans e2).trans e3).trans e4).trans e5) (.bool _)

theorem Te.val {t : Bool} (ha : Ev c h e d) (ht : Tr c h d t) (he : ∀ w : Sem Value, isTrue e c.env w = (do let v ← w; standAt e.pos; holding [v] (truthy v)) := by intro _; rfl) : Te c h e t := fun s Q E hx q =>
  wpAny_isTrue_value (ha s _ _ hx fun v h1 t1 e1 r1 => ht v _ _ _ (hx.trans e1) r1 fun h2 t2 e2 => q h2 t2 (e1.trans e2)) (he _)
theorem Te.not {t : Bool} (ha : Te c h a t) : Te c h (.UnaryOp .Not a pos) (!t) := fun s Q E hx q => wpAny_isTrue_Not (ha s _ _ hx fun h1 t1 e1 => q h1 t1 e1)
theorem Te.and {t1 t2 : Bool} (ha : Te c h a t1) (hb : t1 = true → Te c h b t2) : Te c h (.BoolOp .And [a, b] pos) (t1 && t2) := fun s Q E hx q => by
  refine wpAny_isTrue_BoolOp (wpAny_allTrue_And_cons (ha s _ _ hx fun h1 k1 e1 => ?_))
  cases t1 with
  | false => exact q h1 k1 e1
  | true => exact wpAny_allTrue_And_cons (hb rfl _ _ _ (hx.trans e1) fun h2 k2 e2 => by
      cases t2 with
      | false => exact q h2 k2 (e1.trans e2)
      | true => exact wpAny_allTrue_And_nil (q h2 k2 (e1.trans e2)))
theorem Te.or {t1 t2 : Bool} (ha : Te c h a t1) (hb : t1 = false → Te c h b t2) : Te c h (.BoolOp .Or [a, b] pos) (t1 || t2) := fun s Q E hx q => by
  refine wpAny_isTrue_BoolOp (wpAny_allTrue_Or_cons (ha s _ _ hx fun h1 k1 e1 => ?_))
  cases t1 with
  | true => exact q h1 k1 e1
  | false => exact wpAny_allTrue_Or_cons (hb rfl _ _ _ (hx.trans e1) fun h2 k2 e2 => by
      cases t2 with
      | true => exact q h2 k2 (e1.trans e2)
      | false => exact wpAny_allTrue_Or_nil (q h2 k2 (e1.trans e2)))
/-- and, or of bools, as a value -/
theorem Ev.and {t1 t2 : Bool} (ha : Ev c h a (.bool t1)) (hb : t1 = true → Ev c h b (.bool t2)) : Ev c h (.BoolOp .And [a, b] pos) (.bool (t1 && t2)) := fun s Q E hx q => by
  refine wpAny_And2 (ha s _ _ hx fun v h1 k1 e1 r1 => ?_)
  cases r1
  refine wpAny_truthy_bool ?_
  cases t1 with
  | false => exact q _ h1 k1 e1 (.bool _)
  | true => exact hb rfl _ _ _ (hx.trans e1) fun u h2 k2 e2 r2 => by cases r2; exact q _ h2 k2 (e1.trans e2) (.bool _)
theorem Ev.or {t1 t2 : Bool} (ha : Ev c h a (.bool t1)) (hb : t1 = false → Ev c h b (.bool t2)) : Ev c h (.BoolOp .Or [a, b] pos) (.bool (t1 || t2)) := fun s Q E hx q => by
  refine wpAny_Or2 (ha s _ _ hx fun v h1 k1 e1 r1 => ?_)
  cases r1
  refine wpAny_truthy_bool ?_
  cases t1 with
  | true => exact q _ h1 k1 e1 (.bool _)
  | false => exact hb rfl _ _ _ (hx.trans e1) fun u h2 k2 e2 r2 => by cases r2; exact q _ h2 k2 (e1.trans e2) (.bool _)
theorem Ev.ite {t : Bool} {d1 d2 : D} (ht : Te c h e t) (ha : t = true → Ev c h a d1) (hb : t = false → Ev c h b d2) : Ev c h (.IfExp e a b pos) (if t then d1 else d2) := fun s Q E hx q => by
  refine wpAny_IfExp (ht s _ _ hx fun h1 k1 e1 => ?_)
  cases t with
  | true => exact ha rfl _ _ _ (hx.trans e1) fun u h2 k2 e2 r2 => q _ h2 k2 (e1.trans e2) r2
  | false => exact hb rfl _ _ _ (hx.trans e1) fun u h2 k2 e2 r2 => q _ h2 k2 (e1.trans e2) r2

/-- items -/
theorem Ev.item {ds : List D} {k : Int} (ha : Ev c h a (.lst ds)) (hb : Ev c h b (.int k)) (h0 : 0 ≤ k) (hk : k < 2 ^ 63) (hd : ds[k.toNat]? = some d)
    (hs : ∀ l t, subscripted b false (.ref l) (.int k t) = operate [.ref l, .int k t] (getItem (.ref l) (.int k t)) := by intro _ _; with_unfolding_all rfl) : Ev c h (.Subscript a b pos) d := fun s Q E hx q => by
  refine Subscript_ (ha s _ _ hx fun v h1 k1 e1 r1 => hb _ _ _ (hx.trans e1) fun u h2 k2 e2 r2 => ?_)
  cases r2
  cases r1.ext e2 with
  | lst hX hl rs =>
    obtain ⟨z, hz, rz⟩ := rs.get hd
    exact tail_any hl.typeIs slot_list_getitem.lookup (wpAny_getItem_list hl h0 hk (by simpa using hz) (q z h2 k2 (e1.trans e2) rz)) (hs _ _)
theorem Ev.itemNeg {ds : List D} (ha : Ev c h a (.lst ds)) (hb : Ev c h b (.int (-1))) (hn : ds.length < 2 ^ 62) (hd : ds.getLast? = some d)
    (hs : ∀ l t, subscripted b false (.ref l) (.int (-1) t) = operate [.ref l, .int (-1) t] (getItem (.ref l) (.int (-1) t)) := by intro _ _; with_unfolding_all rfl) : Ev c h (.Subscript a b pos) d := fun s Q E hx q => by
  refine Subscript_ (ha s _ _ hx fun v h1 k1 e1 r1 => hb _ _ _ (hx.trans e1) fun u h2 k2 e2 r2 => ?_)
  cases r2
  cases r1.ext e2 with
  | lst hX hl rs =>
    have hne : ds ≠ [] := by rintro rfl; simp at hd
    have hlen := rs.length
    have hpos : 0 < ds.length := List.length_pos_iff.mpr hne
    rw [List.getLast?_eq_getElem?] at hd
    obtain ⟨z, hz, rz⟩ := rs.get hd
    rename_i l vs
    refine tail_any hl.typeIs slot_list_getitem.lookup (wpAny_getItem_list_neg hl (by decide) ?_ (by decide) ?_ (q z h2 k2 (e1.trans e2) rz)) (hs _ _)
    · rw [List.size_toArray]; lia
    · have e : ((-1 : Int) + (vs.toArray.size : Int)).toNat = ds.length - 1 := by rw [List.size_toArray]; lia
      rw [e]; simpa using hz
theorem Ev.place {ds : List D} {k : Nat} (ha : Ev c h a (.tup ds)) (hb : Ev c h b (.int k)) (hk : (k : Int) < 2 ^ 62) (hd : ds[k]? = some d)
    (hs : ∀ l t, subscripted b false (.ref l) (.int k t) = operate [.ref l, .int k t] (getItem (.ref l) (.int k t)) := by intro _ _; with_unfolding_all rfl) : Ev c h (.Subscript a b pos) d := fun s Q E hx q => by
  refine Subscript_ (ha s _ _ hx fun v h1 k1 e1 r1 => hb _ _ _ (hx.trans e1) fun u h2 k2 e2 r2 => ?_)
  cases r2
  cases r1.ext e2 with
  | tup hX ht rs =>
    obtain ⟨z, hz, rz⟩ := rs.get hd
    have hlt : k < ds.length := by
      rcases Nat.lt_or_ge k ds.length with hlt | hge
      · exact hlt
      · rw [List.getElem?_eq_none hge] at hd; cases hd
    refine item_tupleT (j := k) ht (by (first | exact Int.neg_ofNat_le_natCast (2 ^ 63) k | lia)) (by lia) ?_ hz (q z h2 k2 (e1.trans e2) rz) (hs _ _)
    rw [rs.length]
    unfold seqIndex?
    simp; lia
end
end Mine
end

section
open PySem PyProof.Rows
namespace Mine
set_option autoImplicit false
set_option linter.unusedVariables false
set_option maxRecDepth 100000

section
variable {c : Cx} {h h' : Heap} {a b e : Expr} {x y : Int} {d : D} {pos : Pos}

/-- the name n loads a value that bears d -/
noncomputable def Ld (c : Cx) (h : Heap) (n : Str) (d : D) : Prop :=
  ∀ (s : Shared) (Q : Value → Shared → Prop) (E : Value → Shared → Prop), Ext h s.heap → (∀ v, R c.X s.heap v d → Q v s) → wpAny (model c.prog c.w) c.A (loadName c.env n) Q E s
theorem Ld.ext {n : Str} (r : Ld c h n d) (k : Ext h h') : Ld c h' n d := fun s Q E e q => r s Q E (k.trans e) q
theorem Ld.local {n : Str} {m : Str → Option Value} {v : Value} (hn : h.Ns c.env.locals m) (hv : m n = some v) (r : R c.X h v d) (hk : c.env.scope.kind = .function) (hl : c.env.kindOf n = some .local) : Ld c h n d :=
  fun s Q E e q => wpAny_loadName_local hk hl (hn.keeps e) hv (q v (r.ext e))
theorem Ld.cell {n : Str} {a : Addr} {v : Value} (hc : c.env.cells.lookup n = some a) (hv : h.IsCell a (some v)) (r : R c.X h v d) (hk : c.env.scope.kind = .function) (hl : c.env.kindOf n = some .cell) : Ld c h n d :=
  fun s Q E e q => wpAny_loadName_cell hk hl hc (hv.keeps e) (q v (r.ext e))
theorem Ev.name {n : Str} (r : Ld c h n d) (hd : (n == ("__debug__" : Str)) = false) : Ev c h (.Name n pos) d := fun s Q E e q =>
  wpAny_Name (r s _ _ e fun v rv => q v s.heap s.toks (Ext.refl _) rv) hd

/-- the name n loads that very value -/
noncomputable def Lv (c : Cx) (h : Heap) (n : Str) (v : Value) : Prop :=
  ∀ (s : Shared) (Q : Value → Shared → Prop) (E : Value → Shared → Prop) (pos : Pos), Ext h s.heap → Q v s → wpAny (model c.prog c.w) c.A (eval (.Name n pos) c.env) Q E s
theorem Lv.ext {n : Str} {v : Value} (r : Lv c h n v) (k : Ext h h') : Lv c h' n v := fun s Q E p e q => r s Q E p (k.trans e) q
theorem Lv.glob {n : Str} {v : Value} {mg : Str → Option Value} (hg : h.Ns c.env.globals mg) (hv : mg n = some v) (hk : c.env.scope.kind = .function) (hx : c.env.kindOf n = some .globalImplicit)
    (hd : (n == ("__debug__" : Str)) = false) : Lv c h n v := fun s Q E p e q => Calls.Name_function_global hk hx (Calls.loadGlobal_global (hg.keeps e) hv q) hd
theorem Lv.built {n : Str} {v : Value} {mg mb : Str → Option Value} (hg : h.Ns c.env.globals mg) (hm : mg n = none) (hb : h.Ns c.env.builtins mb) (hv : mb n = some v) (hk : c.env.scope.kind = .function) (hx : c.env.kindOf n = some .globalImplicit)
    (hd : (n == ("__debug__" : Str)) = false) : Lv c h n v := fun s Q E p e q => Calls.Name_function_global hk hx (Calls.loadGlobal_builtin (hg.keeps e) hm (hb.keeps e) hv q) hd

/-- arguments, the items of a display -/
noncomputable def Sp (c : Cx) (h : Heap) (es : List Expr) (ds : List D) : Prop :=
  ∀ (pos : Pos) (s : Shared) (Q : List Value → Shared → Prop) (E : Value → Shared → Prop), Ext h s.heap →
    (∀ vs h' tk, Ext s.heap h' → RS c.X h' vs ds → Q vs { s with heap := h', toks := tk }) → wpAny (model c.prog c.w) c.A (spliced (backTo pos (starEach es c.env))) Q E s
theorem Sp.nil : Sp c h [] [] := fun _ s _ _ _ q => args_nil (q [] s.heap s.toks (Ext.refl _) .nil)
theorem Sp.cons {es : List Expr} {ds : List D} (ha : Ev c h e d) (hr : Sp c h es ds) (he : starEach (e :: es) c.env = (false, eval e c.env) :: starEach es c.env := by rfl) : Sp c h (e :: es) (d :: ds) := fun pos s Q E hx q =>
  args_cons (ha s _ _ hx fun v h1 k1 e1 r1 => hr _ _ _ _ (hx.trans e1) fun vs h2 k2 e2 r2 => q (v :: vs) h2 k2 (e1.trans e2) (.cons (r1.ext e2) r2)) he
theorem Sp.ext {es : List Expr} {ds : List D} (r : Sp c h es ds) (k : Ext h h') : Sp c h' es ds := fun p s Q E e q => r p s Q E (k.trans e) q

theorem Ev.tuple {es : List Expr} {ds : List D} {k : Nat} (hb : Bd c.X h) (hs : Sp c h es ds) (hn : ds.length ≤ 1000 := by simp) : Ev c h (.Tuple es k pos) (.tup ds) := fun s Q E hx q => by
  refine wpAny_Tuple_spliced (hs _ _ _ _ hx fun vs h1 k1 e1 r1 => ⟨?_, ?_⟩)
  · rw [r1.length, sizeLine_eq]; lia
  · exact q (.ref h1.objs.size) (h1.push _) k1 (e1.trans (Ext.push _ _)) (.tup ((hb.ext (hx.trans e1)).fresh) ⟨_, Heap.get?_push_size _ rfl, rfl, _, rfl⟩ (r1.ext (Ext.push _ _)))
theorem Ev.list {es : List Expr} {ds : List D} (hb : Bd c.X h) (hs : Sp c h es ds) (hn : ds.length ≤ 1000 := by simp) : Ev c h (.List es pos) (.lst ds) := fun s Q E hx q => by
  refine wpAny_List_spliced (hs _ _ _ _ hx fun vs h1 k1 e1 r1 => ⟨?_, ?_⟩)
  · rw [r1.length, sizeLine_eq]; lia
  · exact q (.ref h1.objs.size) (h1.push _) k1 (e1.trans (Ext.push _ _)) (.lst ((hb.ext (hx.trans e1)).fresh) ⟨_, Heap.get?_push_size _ rfl, rfl, _, rfl⟩ (r1.ext (Ext.push _ _)))

/-- a value called with data -/
noncomputable def Cl (c : Cx) (h : Heap) (f : Value) (ds : List D) (d : D) : Prop :=
  ∀ (vs : List Value) (s : Shared) (Q : Value → Shared → Prop) (E : Value → Shared → Prop), Ext h s.heap → RS c.X s.heap vs ds →
    (∀ v h' tk, Ext s.heap h' → R c.X h' v d → Q v { s with heap := h', toks := tk }) → wpAny (model c.prog c.w) c.A (call f vs) Q E s
theorem Ev.callB {n : Str} {np : Pos} {id : String} {es : List Expr} {ds : List D} (hf : Lv c h n (.builtin id)) (hs : Sp c h (e :: es) ds) (hc : Cl c h (.builtin id) ds d)
    (he : starEach (e :: es) c.env = (false, eval e c.env) :: starEach es c.env := by rfl) (hp : ∀ p, (backTo p (starEach es c.env)).any (·.1) = false := by intro _; rfl) :
    Ev c h (.Call (.Name n np) (e :: es) [] pos) d := fun s Q E hx q =>
  Call_ (hf s _ _ _ hx (callWith_builtin1 (hs _ _ _ _ hx fun vs h1 k1 e1 r1 => hc vs _ _ _ (hx.trans e1) r1 fun v h2 k2 e2 r2 => q v h2 k2 (e1.trans e2) r2) he (hp _)))
theorem Ev.callT {n : Str} {np : Pos} {id : String} {es : List Expr} {ds : List D} (hf : Lv c h n (.type id)) (hs : Sp c h (e :: es) ds) (hc : Cl c h (.type id) ds d)
    (he : starEach (e :: es) c.env = (false, eval e c.env) :: starEach es c.env := by rfl) (hp : ∀ p, (backTo p (starEach es c.env)).any (·.1) = false := by intro _; rfl) :
    Ev c h (.Call (.Name n np) (e :: es) [] pos) d := fun s Q E hx q =>
  Call_ (hf s _ _ _ hx (callWith_type1 (hs _ _ _ _ hx fun vs h1 k1 e1 r1 => hc vs _ _ _ (hx.trans e1) r1 fun v h2 k2 e2 r2 => q v h2 k2 (e1.trans e2) r2) he (hp _)))
theorem Ev.callF {n : Str} {np : Pos} {f : Addr} {o : Obj} {fd : FuncData} {es : List Expr} {ds : List D} (hf : Lv c h n (.ref f)) (ho : h.get? f = some o) (hd : o.data = .func fd) (hs : Sp c h (e :: es) ds) (hc : Cl c h (.ref f) ds d)
    (he : starEach (e :: es) c.env = (false, eval e c.env) :: starEach es c.env := by rfl) :
    Ev c h (.Call (.Name n np) (e :: es) [] pos) d := fun s Q E hx q =>
  Call_ (hf s _ _ _ hx (callWith_def hd (hs _ _ _ _ hx fun vs h1 k1 e1 r1 => ⟨e1 _ _ (hx _ _ ho), hc vs _ _ _ (hx.trans e1) r1 fun v h2 k2 e2 r2 => q v h2 k2 (e1.trans e2) r2⟩) he))

theorem Cl.len {ds : List D} (hn : ds.length < 2 ^ 62) : Cl c h (.builtin "len") [.lst ds] (.int ds.length) := fun vs s Q E hx r q => by
  cases r with
  | cons r1 r2 =>
    cases r2
    cases r1 with
    | lst hX hl rs =>
      rename_i l ws
      refine Calls.call_len_list hl (by rw [List.size_toArray, rs.length]; lia) ?_
      have e : (ws.toArray.size : Int) = (ds.length : Int) := by rw [List.size_toArray, rs.length]
      rw [e]
      exact q _ s.heap _ (Ext.refl _) (.int _ _)
theorem Cl.maxI (hA : c.A.handled = none) : Cl c h (.builtin "max") [.int x, .int y] (.int (max x y)) := fun vs s Q E hx r q => by
  cases r with
  | cons r1 r2 =>
    cases r2 with
    | cons r2 r3 =>
      cases r3; cases r1; cases r2
      refine max_two_ints hA fun h1 k1 e1 => ?_
      by_cases hxy : y > x
      · rw [if_pos hxy]; rw [show max x y = y by lia] at q; exact q _ h1 k1 e1 (.int _ _)
      · rw [if_neg hxy]; rw [show max x y = x by grind] at q; exact q _ h1 k1 e1 (.int _ _)
theorem Cl.minI (hA : c.A.handled = none) : Cl c h (.builtin "min") [.int x, .int y] (.int (min x y)) := fun vs s Q E hx r q => by
  cases r with
  | cons r1 r2 =>
    cases r2 with
    | cons r2 r3 =>
      cases r3; cases r1; cases r2
      refine min_two_ints hA fun h1 k1 e1 => ?_
      by_cases hxy : y < x
      · rw [if_pos hxy]; rw [show min x y = y by grind] at q; exact q _ h1 k1 e1 (.int _ _)
      · rw [if_neg hxy]; rw [show min x y = x by lia] at q; exact q _ h1 k1 e1 (.int _ _)
theorem Cl.str (ha : x.natAbs.log2 < 1920) : Cl c h (.type "str") [.int x] (.str (toString x)) := fun vs s Q E hx r q => by
  cases r with
  | cons r1 r2 =>
    cases r2; cases r1
    exact P.str_of_int ha (q _ s.heap _ (Ext.refl _) (.str _ _))

theorem range_any (bs : List Bool) : (List.range bs.length).any (fun i => (bs[i]?).getD false) = bs.any id := by
  rw [Bool.eq_iff_iff]
  simp only [List.any_eq_true, List.mem_range, id]
  constructor
  · rintro ⟨i, hi, hb⟩
    rw [List.getElem?_eq_getElem hi] at hb
    exact ⟨true, by simp at hb; rw [← hb]; exact List.getElem_mem hi, rfl⟩
  · rintro ⟨b, hm, hb⟩
    obtain ⟨i, hi, e⟩ := List.mem_iff_getElem.mp hm
    exact ⟨i, hi, by rw [List.getElem?_eq_getElem hi]; simp [e, hb]⟩
theorem iter_kept {s : Shared} {h' : Heap} {o : Obj} (hk : ∀ b x, b ∉ [s.heap.objs.size] → (s.heap.push o).get? b = some x → h'.get? b = some x) : Ext s.heap h' :=
  fun b x e => hk b x (fun hm => by rw [List.mem_singleton.mp hm] at e; exact Nat.lt_irrefl _ (Heap.lt_size e)) (Heap.get?_push_of_some _ e)
theorem Cl.any (hA : c.A.handled = none) {bs : List Bool} : Cl c h (.builtin "any") [.lst (bs.map D.bool)] (.bool (bs.any id)) := fun vs s Q E hx r q => by
  cases r with
  | cons r1 r2 =>
    cases r2
    cases r1 with
    | lst hX hl rs =>
      rename_i l ws
      have hlt : l < s.heap.objs.size := by obtain ⟨_, e, _⟩ := hl; exact Heap.lt_size e
      refine call_any_walk (wpAny_pyIter_list hl ?_)
      refine ⟨s.heap.objs.size, [s.heap.objs.size, l], [s.heap.objs.size], ws.toArray.size, _, _, fun i => (bs[i]?).getD false, rfl, Walks.list (A := c.A.in1) hA _ l (Nat.ne_of_lt hlt) ws.toArray,
        ⟨⟨_, Heap.get?_push_size _ rfl, rfl, rfl⟩, hl.push _⟩, fun i v s' Q' E' hP hQ => ?_, fun h' tk hk => ?_⟩
      · obtain ⟨d, e, rd⟩ := rs.getV (by simpa using hP)
        rw [List.getElem?_map] at e
        cases hb : bs[i]? with
        | none => rw [hb] at e; cases e
        | some b =>
          rw [hb] at e; cases e
          cases rd
          simp only [hb, Option.getD_some] at hQ
          exact wpAny_truthy_bool hQ
      · have e : ws.toArray.size = bs.length := by rw [List.size_toArray, rs.length, List.length_map]
        rw [e, range_any]
        exact q _ h' tk (iter_kept hk) (.bool _)

theorem Ev.cat {ds es : List D} (hX : Bd c.X h) (ha : Ev c h a (.lst ds)) (hb : Ev c h b (.lst es)) (hn : ds.length + es.length ≤ 1000) : Ev c h (.BinOp a .Add b pos) (.lst (ds ++ es)) :=
  Ev.bin ha hb fun v u s Q E hx r1 r2 q => by
    cases r1 with
    | lst hX1 hl1 rs1 =>
      cases r2 with
      | lst hX2 hl2 rs2 =>
        rename_i l vs b ws
        obtain ⟨⟨cls, dd, data, sl⟩, ho, hc, n, hd⟩ := id hl1
        obtain ⟨⟨cls2, dd2, data2, sl2⟩, ho2, hc2, n2, hd2⟩ := id hl2
        simp only at hc hd hc2 hd2
        subst hc hd hc2 hd2
        have e : vs.toArray ++ ws.toArray = (vs ++ ws).toArray := by simp
        refine concat_meets ⟨_, ho, rfl⟩ ⟨_, ho2, rfl⟩ noFill_list_add seq_list_add PySem.F.slot_list_add PySem.F.entry_list_add (PySem.F.args_list_add_2 _ _) (list_addW l b vs.toArray ws.toArray n n2 dd dd2 sl sl2 ?_) ⟨ho, ho2, ?_⟩
        · rw [List.size_toArray, List.size_toArray, rs1.length, rs2.length, sizeLine_eq]; lia
        · rw [e]
          exact q (.ref s.heap.objs.size) (s.heap.push _) s.toks (Ext.push _ _) (.lst ((hX.ext hx).fresh) ⟨_, Heap.get?_push_size _ rfl, rfl, _, rfl⟩ ((rs1.append rs2).ext (Ext.push _ _)))
theorem Ev.catS {x y : Str} (ha : Ev c h a (.str x)) (hb : Ev c h b (.str y)) (hn : x.length + y.length ≤ sizeLine) : Ev c h (.BinOp a .Add b pos) (.str (x ++ y)) :=
  Ev.bin ha hb fun v u s Q E hx r1 r2 q => by
    cases r1; cases r2
    exact PyProof.Rows.add_str (fun t' tk => q _ s.heap tk (Ext.refl _) (.str _ _)) hn
end

/-! equality of like data -/
mutual
noncomputable def toP : D → PyData
  | .none => .none
  | .bool b => .bool b
  | .int i => .int i
  | .str x => .str x
  | .tup ds => .tuple (toPs ds)
  | .lst ds => .list (toPs ds)
noncomputable def toPs : List D → List PyData
  | [] => []
  | d :: ds => toP d :: toPs ds
end
section
variable {X : Addr → Prop} {h : Heap}
mutual
theorem R.reads : ∀ {v : Value} {d : D}, R X h v d → ∃ as, Reads h v (toP d) as
  | _, _, .none => ⟨_, Reads.none⟩
  | _, _, .bool b => ⟨_, Reads.bool b⟩
  | _, _, .int i t => ⟨_, Reads.int i t⟩
  | _, _, .str x t => ⟨_, Reads.str x t⟩
  | _, _, .tup hx ⟨o, ho, hc, n, hd⟩ r => by
    obtain ⟨as, q⟩ := RS.reads r
    rw [toP]
    exact ⟨as, reads_tuple_at ho hc hd (by simpa using q)⟩
  | _, _, .lst hx ⟨o, ho, hc, n, hd⟩ r => by
    obtain ⟨as, q⟩ := RS.reads r
    rw [toP]
    exact ⟨_, reads_list_at ho hc hd (by simpa using q)⟩
theorem RS.reads : ∀ {vs : List Value} {ds : List D}, RS X h vs ds → ∃ as, ReadsAll h vs (toPs ds) as
  | _, _, .nil => ⟨_, ReadsAll.nil⟩
  | _, _, .cons a r => by
    obtain ⟨as, q⟩ := R.reads a
    obtain ⟨bs, p⟩ := RS.reads r
    rw [toPs]
    exact ⟨_, ReadsAll.cons q p⟩
end
end
section
variable {c : Cx} {h : Heap} {d : D}
theorem Co.same (hc : (toP d).canLay0 = true) (hd : (toP d).depth ≤ 64) (hu : c.A.units + 64 < cLine) : Co c h .Eq d d true := fun v u s Q E hx r1 r2 q => by
  obtain ⟨as, ra⟩ := r1.reads
  obtain ⟨bs, rb⟩ := r2.reads
  refine SeqAt.compareEq_shaped ra rb ?_ ?_ hu ?_
  · unfold SeqAt.shaped; rw [hc, Bool.true_and]; exact decide_eq_true hd
  · unfold SeqAt.shaped; rw [hc, Bool.true_and]; exact decide_eq_true hd
  · rw [SeqAt.eqv_refl _ hc]; exact q s.heap s.toks (Ext.refl _)
theorem Co.noDiff (hc : (toP d).canLay0 = true) (hd : (toP d).depth ≤ 64) (hu : c.A.units + 64 < cLine) : Co c h .NotEq d d false := fun v u s Q E hx r1 r2 q => by
  obtain ⟨as, ra⟩ := r1.reads
  obtain ⟨bs, rb⟩ := r2.reads
  refine SeqAt.compareNe_shaped ra rb ?_ ?_ hu ?_
  · unfold SeqAt.shaped; rw [hc, Bool.true_and]; exact decide_eq_true hd
  · unfold SeqAt.shaped; rw [hc, Bool.true_and]; exact decide_eq_true hd
  · rw [SeqAt.eqv_refl _ hc]; exact q s.heap s.toks (Ext.refl _)
end
end Mine
end

section
open PySem PyProof.Rows
namespace Mine
set_option autoImplicit false
set_option linter.unusedVariables false
set_option maxRecDepth 100000

/-- a frame of a def: h₀ the heap at the call, X₀ what the caller may yet turn, Y what this frame may turn -/
structure Fx where
  prog : Program
  w : World
  A : Around
  env : Env
  h₀ : Heap
  X₀ : Addr → Prop
  Y : Addr → Prop
noncomputable def Fx.X (f : Fx) : Addr → Prop := fun b => f.X₀ b ∨ f.Y b
noncomputable def Fx.cx (f : Fx) : Cx := ⟨f.prog, f.w, f.A, f.env, f.X⟩
noncomputable def Fx.more (f : Fx) (l : Addr) : Fx := { f with Y := fun b => f.Y b ∨ b = l }

noncomputable def Kp (Y : Addr → Prop) (h h' : Heap) : Prop := ∀ b o, ¬ Y b → h.get? b = some o → h'.get? b = some o
theorem Kp.of_ext {Y : Addr → Prop} {h h' : Heap} (e : Ext h h') : Kp Y h h' := fun b o _ ho => e b o ho
theorem Kp.trans {Y : Addr → Prop} {a b c : Heap} (x : Kp Y a b) (y : Kp Y b c) : Kp Y a c := fun d o hy ho => y d o hy (x d o hy ho)

abbrev Own := Option (Str × List D)
noncomputable def upd {α : Type} (ρ : Str → Option α) (x : Str) (d : α) : Str → Option α := fun y => if y = x then some d else ρ y

noncomputable def OwnOk (f : Fx) (m : Str → Option Value) (h : Heap) : Own → Prop
  | none => True
  | some (x, ds) => ∃ l vs, f.Y l ∧ l ≠ f.env.locals ∧ (∀ n, f.env.cells.lookup n ≠ some l) ∧ f.env.kindOf x = some .local ∧ m x = some (.ref l) ∧ h.PlainList l (List.toArray vs) ∧ RS f.X h vs ds

structure Sm (f : Fx) (m cm : Str → Option Value) (ρ : Str → Option D) (own : Own) (h : Heap) : Prop where
  ns : h.Ns f.env.locals m
  keep : Ext f.h₀ h
  cell : ∀ n a, f.env.cells.lookup n = some a → h.IsCell a (cm n)
  apart : f.env.cells.Pairwise fun x y => x.2 ≠ y.2
  Lc : ∀ n a, f.env.cells.lookup n = some a → a ≠ f.env.locals
  YL : f.Y f.env.locals
  Y0 : ∀ b, f.Y b → f.h₀.get? b = none
  bd : Bd f.X h
  dj : ∀ b, f.Y b → ¬ f.X₀ b
  vw : ∀ x d, ρ x = some d → (f.env.kindOf x = some .local ∧ ∃ v, m x = some v ∧ R f.X h v d) ∨ (f.env.kindOf x = some .cell ∧ ∃ a v, f.env.cells.lookup x = some a ∧ cm x = some v ∧ R f.X h v d)
  own : OwnOk f m h own
noncomputable def St (f : Fx) (ρ : Str → Option D) (own : Own) (h : Heap) : Prop := ∃ m cm, Sm f m cm ρ own h

section
variable {f : Fx} {ρ : Str → Option D} {own : Own} {h h' : Heap}

theorem St.ext (S : St f ρ own h) (e : Ext h h') : St f ρ own h' := by
  obtain ⟨m, cm, S⟩ := S
  refine ⟨m, cm, S.ns.keeps e, S.keep.trans e, fun n a hc => (S.cell n a hc).keeps e, S.apart, S.Lc, S.YL, S.Y0, S.bd.ext e, S.dj, fun x d hx => ?_, ?_⟩
  · rcases S.vw x d hx with ⟨k, v, hv, r⟩ | ⟨k, a, v, ha, hv, r⟩
    · exact .inl ⟨k, v, hv, r.ext e⟩
    · exact .inr ⟨k, a, v, ha, hv, r.ext e⟩
  · have o := S.own
    cases own with
    | none => trivial
    | some p => obtain ⟨l, vs, a1, a2, a3, a4, a5, a6, a7⟩ := o; exact ⟨l, vs, a1, a2, a3, a4, a5, a6.at fun o ho => e _ o ho, a7.ext e⟩

theorem St.bd (S : St f ρ own h) : Bd f.cx.X h := let ⟨_, _, S⟩ := S; S.bd
theorem St.keep (S : St f ρ own h) : Ext f.h₀ h := let ⟨_, _, S⟩ := S; S.keep

/-- only what is in Y was turned, each thing in Y is there yet -/
theorem bd_kp {Y X₀ : Addr → Prop} {b : Addr} (hb : Bd (fun b => X₀ b ∨ Y b) h) (k : ∀ a o, a ≠ b → h.get? a = some o → h'.get? a = some o) (kb : ∃ o, h'.get? b = some o) : Bd (fun b => X₀ b ∨ Y b) h' := by
  intro a ha
  by_cases e : a = b
  · rw [e]; exact kb
  · obtain ⟨o, ho⟩ := hb a ha; exact ⟨o, k a o e ho⟩

theorem ns_get {h : Heap} {a : Addr} {m : Str → Option Value} (n : h.Ns a m) : ∃ o, h.get? a = some o := let ⟨o, _, _, ho, _⟩ := n; ⟨o, ho⟩

/-- a local is stored -/
theorem Sm.setL {m cm : Str → Option Value} (S : Sm f m cm ρ own h) {x : Str} {v : Value} {d : D} (hx : f.env.kindOf x = some .local) (ho : ∀ p, own = some p → p.1 ≠ x) (r : R f.X h v d)
    (hn : h'.Ns f.env.locals (fun y => if y = x then some v else m y)) (hs : Heap.SameBut f.env.locals h h') :
    Sm f (fun y => if y = x then some v else m y) cm (upd ρ x d) own h' ∧ Kp f.Y h h' := by
  have kk : ∀ b o, b ≠ f.env.locals → h.get? b = some o → h'.get? b = some o := fun b o hb e => hs.extBut b o hb e
  have rr : ∀ {v d}, R f.X h v d → R f.X h' v d := fun r => r.mono fun b o hb ho => ⟨hb, kk b o (fun e => hb (.inr (e ▸ S.YL))) ho⟩
  refine ⟨⟨hn, fun b o e => kk b o (fun e' => by rw [e', S.Y0 _ S.YL] at e; cases e) (S.keep b o e), fun n a hc => ?_, S.apart, S.Lc, S.YL, S.Y0, bd_kp S.bd kk (ns_get hn), S.dj, fun y d' hy => ?_, ?_⟩, fun b o hb e => kk b o (fun e' => hb (e' ▸ S.YL)) e⟩
  · exact (S.cell n a hc).sameBut hs (S.Lc n a hc)
  · unfold upd at hy
    by_cases e : y = x
    · rw [if_pos e] at hy; cases hy
      exact .inl ⟨e ▸ hx, v, by rw [if_pos e], rr r⟩
    · rw [if_neg e] at hy
      rcases S.vw y d' hy with ⟨k, u, hu, ru⟩ | ⟨k, a, u, ha, hu, ru⟩
      · exact .inl ⟨k, u, by rw [if_neg e]; exact hu, rr ru⟩
      · exact .inr ⟨k, a, u, ha, hu, rr ru⟩
  · have o := S.own
    cases own with
    | none => trivial
    | some p =>
      obtain ⟨l, vs, a1, a2, a3, a4, a5, a6, a7⟩ := o
      have hne := ho p rfl
      exact ⟨l, vs, a1, a2, a3, a4, by show (if p.1 = x then some v else m p.1) = _; rw [if_neg hne]; exact a5, a6.extBut hs.extBut a2, a7.mono fun b o hb ho => ⟨hb, kk b o (fun e => hb (.inr (e ▸ S.YL))) ho⟩⟩

/-- a cell's name is stored -/
theorem Sm.setC {m cm : Str → Option Value} (S : Sm f m cm ρ own h) {x : Str} {a : Addr} {v : Value} {d : D} (hx : f.env.kindOf x = some .cell) (ha : f.env.cells.lookup x = some a) (hYa : f.Y a) (r : R f.X h v d)
    (hn : h'.IsCell a (some v)) (hs : Heap.SameBut a h h') :
    Sm f m (fun y => if y = x then some v else cm y) (upd ρ x d) own h' ∧ Kp f.Y h h' := by
  have hLa := S.Lc x a ha
  have kk : ∀ b o, b ≠ a → h.get? b = some o → h'.get? b = some o := fun b o hb e => hs.extBut b o hb e
  have rr : ∀ {v d}, R f.X h v d → R f.X h' v d := fun r => r.mono fun b o hb ho => ⟨hb, kk b o (fun e => hb (.inr (e ▸ hYa))) ho⟩
  refine ⟨⟨S.ns.sameBut hs (Ne.symm hLa), fun b o e => kk b o (fun e' => by rw [e', S.Y0 _ hYa] at e; cases e) (S.keep b o e), fun n c hc => ?_, S.apart, S.Lc, S.YL, S.Y0,
    bd_kp S.bd kk (let ⟨o, ho, _⟩ := hn; ⟨o, ho⟩), S.dj, fun y d' hy => ?_, ?_⟩, fun b o hb e => kk b o (fun e' => hb (e' ▸ hYa)) e⟩
  · by_cases e : n = x
    · subst e
      rw [ha] at hc; cases hc
      simpa using hn
    · rw [if_neg e]
      exact (S.cell n c hc).sameBut hs fun e' => e (name_of_addr S.apart (mem_of_lookup hc) (e' ▸ mem_of_lookup ha))
  · unfold upd at hy
    by_cases e : y = x
    · rw [if_pos e] at hy; cases hy
      exact .inr ⟨e ▸ hx, a, v, e ▸ ha, by rw [if_pos e], rr r⟩
    · rw [if_neg e] at hy
      rcases S.vw y d' hy with ⟨k, u, hu, ru⟩ | ⟨k, c, u, hc, hu, ru⟩
      · exact .inl ⟨k, u, hu, rr ru⟩
      · exact .inr ⟨k, c, u, hc, by rw [if_neg e]; exact hu, rr ru⟩
  · have o := S.own
    cases own with
    | none => trivial
    | some p =>
      obtain ⟨l, vs, a1, a2, a3, a4, a5, a6, a7⟩ := o
      exact ⟨l, vs, a1, a2, a3, a4, a5, a6.extBut hs.extBut (fun e => a3 x (e ▸ ha)), a7.mono fun b o hb ho => ⟨hb, kk b o (fun e => hb (.inr (e ▸ hYa))) ho⟩⟩

theorem St.ld (S : St f ρ own h) {n : Str} {d : D} (hn : ρ n = some d) (hk : f.env.scope.kind = .function) : Ld f.cx h n d := by
  obtain ⟨m, cm, S⟩ := S
  rcases S.vw n d hn with ⟨k, v, hv, r⟩ | ⟨k, a, v, ha, hv, r⟩
  · exact Ld.local (c := f.cx) S.ns hv r hk k
  · exact Ld.cell (c := f.cx) ha (hv ▸ S.cell n a ha) r hk k

/-- the list that is being built, as a value -/
theorem St.ldOwn {x : Str} {ds : List D} (S : St f ρ (some (x, ds)) h) (hk : f.env.scope.kind = .function) :
    ∃ l vs, f.Y l ∧ h.PlainList l (List.toArray vs) ∧ RS f.X h vs ds ∧ ∀ (s : Shared) (Q : Value → Shared → Prop) (E : Value → Shared → Prop), Ext h s.heap → Q (.ref l) s → wpAny (model f.prog f.w) f.A (loadName f.env x) Q E s := by
  obtain ⟨m, cm, S⟩ := S
  obtain ⟨l, vs, a1, a2, a3, a4, a5, a6, a7⟩ := S.own
  exact ⟨l, vs, a1, a6, a7, fun s Q E e q => wpAny_loadName_local hk a4 (S.ns.keeps e) a5 q⟩
end

/-- statements: the heap turns in Y alone; Φ of the flow and the heap -/
noncomputable def Exs (f : Fx) (h : Heap) (l : List Stmt) (Φ : Flow → Heap → Prop) : Prop :=
  ∀ (s : Shared) (Q : Flow → Shared → Prop) (E : Value → Shared → Prop), s.heap = h → (∀ fl h' tk, Kp f.Y h h' → Φ fl h' → Q fl { s with heap := h', toks := tk }) → wpAny (model f.prog f.w) f.A (execs l f.env) Q E s
noncomputable def Ex (f : Fx) (h : Heap) (st : Stmt) (Φ : Flow → Heap → Prop) : Prop :=
  ∀ (s : Shared) (Q : Flow → Shared → Prop) (E : Value → Shared → Prop), s.heap = h → (∀ fl h' tk, Kp f.Y h h' → Φ fl h' → Q fl { s with heap := h', toks := tk }) → wpAny (model f.prog f.w) f.A (exec st f.env) Q E s

section
variable {f : Fx} {ρ : Str → Option D} {own : Own} {h h' : Heap} {Φ Ψ : Flow → Heap → Prop} {st : Stmt} {l : List Stmt} {pos : Pos}

theorem Exs.nil (q : Φ .next h) : Exs f h [] Φ := fun s Q E e k => wpAny_execs_nil (k .next s.heap s.toks (Kp.of_ext (e ▸ Ext.refl _)) (e ▸ q))
theorem Exs.cons (a : Ex f h st Ψ) (r : ∀ h', Kp f.Y h h' → Ψ .next h' → Exs f h' l Φ) (o : ∀ fl h', fl ≠ .next → Ψ fl h' → Φ fl h' := by exact fun _ _ n x => absurd x n) : Exs f h (st :: l) Φ := fun s Q E e k => by
  refine wpAny_execs_cons (a s _ _ e fun fl h1 t1 k1 p1 => ?_)
  cases fl with
  | next => exact r h1 k1 p1 _ _ _ rfl fun fl h2 t2 k2 p2 => k fl h2 t2 (k1.trans k2) p2
  | brk => exact k _ h1 t1 k1 (o _ _ (fun x => nomatch x) p1)
  | cont => exact k _ h1 t1 k1 (o _ _ (fun x => nomatch x) p1)
  | ret v => exact k _ h1 t1 k1 (o _ _ (fun x => nomatch x) p1)
theorem Exs.mono (a : Exs f h l Ψ) (k : ∀ fl h', Ψ fl h' → Φ fl h') : Exs f h l Φ := fun s Q E e q => a s Q E e fun fl h' tk x y => q fl h' tk x (k _ _ y)
theorem Ex.mono (a : Ex f h st Ψ) (k : ∀ fl h', Ψ fl h' → Φ fl h') : Ex f h st Φ := fun s Q E e q => a s Q E e fun fl h' tk x y => q fl h' tk x (k _ _ y)

/-- x = e -/
theorem Ex.assign {x : Str} {xp : Pos} {e : Expr} {d : D} (S : St f ρ own h) (he : Ev f.cx h e d) (hx : f.env.kindOf x = some .local) (hk : f.env.scope.kind = .function)
    (k : ∀ h', St f (upd ρ x d) own h' → Φ .next h') (ho : ∀ p, own = some p → p.1 ≠ x) (hs : swapsWith e (some (.Name x xp)) pos.line f.env = pure false := by rfl) :
    Ex f h (.Assign [.Name x xp] e pos) Φ := fun s Q E e0 q => by
  subst e0
  refine wpAny_Assign_Name (he s _ _ (Ext.refl _) fun v h1 t1 e1 r1 => ?_) hs
  obtain ⟨m, cm, S1⟩ := S.ext e1
  refine wpAny_storeName_local hx S1.ns (fun h2 hn2 hs2 => ?_) (by rw [hk]; rfl)
  obtain ⟨S2, k2⟩ := S1.setL hx ho r1 hn2 hs2
  exact q _ h2 _ ((Kp.of_ext e1).trans k2) (k h2 ⟨_, _, S2⟩)
theorem Ex.assignC {x : Str} {xp : Pos} {e : Expr} {d : D} {a : Addr} (S : St f ρ own h) (he : Ev f.cx h e d) (hx : f.env.kindOf x = some .cell) (ha : f.env.cells.lookup x = some a) (hYa : f.Y a) (hk : f.env.scope.kind = .function)
    (k : ∀ h', St f (upd ρ x d) own h' → Φ .next h') (hs : swapsWith e (some (.Name x xp)) pos.line f.env = pure false := by rfl) :
    Ex f h (.Assign [.Name x xp] e pos) Φ := fun s Q E e0 q => by
  subst e0
  refine wpAny_Assign_Name (he s _ _ (Ext.refl _) fun v h1 t1 e1 r1 => ?_) hs
  obtain ⟨m, cm, S1⟩ := S.ext e1
  refine wpAny_storeName_cell hk hx ha (S1.cell x a ha) fun h2 hn2 hs2 => ?_
  obtain ⟨S2, k2⟩ := S1.setC hx ha hYa r1 hn2 hs2
  exact q _ h2 _ ((Kp.of_ext e1).trans k2) (k h2 ⟨_, _, S2⟩)
/-- x += e, of ints -/
theorem Ex.aug {x : Str} {xp : Pos} {e : Expr} {i j : Int} (S : St f ρ own h) (hv : ρ x = some (.int i)) (he : Ev f.cx h e (.int j)) (hx : f.env.kindOf x = some .local) (hk : f.env.scope.kind = .function)
    (k : ∀ h', St f (upd ρ x (.int (i + j))) own h' → Φ .next h') (ho : ∀ p, own = some p → p.1 ≠ x) : Ex f h (.AugAssign (.Name x xp) .Add e pos) Φ := fun s Q E e0 q => by
  subst e0
  refine wpAny_AugAssign_Name (S.ld hv hk s _ _ (Ext.refl _) fun v r => ?_)
  cases r
  refine he s _ _ (Ext.refl _) fun v h1 t1 e1 r1 => ?_
  cases r1
  refine wpAny_iadd_int ?_
  obtain ⟨m, cm, S1⟩ := S.ext e1
  refine wpAny_storeName_local hx S1.ns (fun h2 hn2 hs2 => ?_) (by rw [hk]; rfl)
  obtain ⟨S2, k2⟩ := S1.setL hx ho (.int _ _) hn2 hs2
  exact q _ h2 _ ((Kp.of_ext e1).trans k2) (k h2 ⟨_, _, S2⟩)
theorem Ex.ret {e : Expr} {d : D} (he : Ev f.cx h e d) (k : ∀ v h', Ext h h' → R f.X h' v d → Φ (.ret v) h') : Ex f h (.Return (some e) pos) Φ := fun s Q E e0 q => by
  subst e0
  exact wpAny_Return_some (he s _ _ (Ext.refl _) fun v h1 t1 e1 r1 => q _ h1 t1 (Kp.of_ext e1) (k v h1 e1 r1))
theorem Ex.ite {e : Expr} {t : Bool} {body orelse : List Stmt} (ht : Te f.cx h e t) (ha : ∀ h', Ext h h' → t = true → Exs f h' body Φ) (hb : ∀ h', Ext h h' → t = false → Exs f h' orelse Φ) : Ex f h (.If e body orelse pos) Φ := fun s Q E e0 q => by
  subst e0
  refine wpAny_If (ht s _ _ (Ext.refl _) fun h1 t1 e1 => ?_)
  cases t with
  | true => exact ha h1 e1 rfl _ _ _ rfl fun fl h2 t2 k2 p2 => q fl h2 t2 ((Kp.of_ext e1).trans k2) p2
  | false => exact hb h1 e1 rfl _ _ _ rfl fun fl h2 t2 k2 p2 => q fl h2 t2 ((Kp.of_ext e1).trans k2) p2
end
end Mine
end

section
open PySem PyProof.Rows
namespace Mine
set_option autoImplicit false
set_option linter.unusedVariables false
set_option maxRecDepth 100000

theorem setItem_plain_last {prog : Program} {w : World} {A : Around} {E : Value → Shared → Prop} {s : Shared} {l : Addr} {items : Array Value} {t : Tok} {v : Value} {Q : Unit → Shared → Prop} (hl : s.heap.PlainList l items)
    (hn : 0 < items.size)
    (hQ : ∀ h', h'.PlainList l (items.setIfInBounds (items.size - 1) v) → Heap.SameBut l s.heap h' → Q () { s with heap := h' }) :
    wpAny (model prog w) A (setItem (.ref l) (.int (-1) t) v) Q E s := by
  obtain ⟨ne, ho⟩ := id hl
  unfold setItem
  try with_reducible refine wpAny_holding ?_
  first | refine wpAny_bind (wpAny_pure ?_) | skip
  refine wpAny_bind (wpAny_sequenceKey hl.isList.typeIs (by decide) ?_)
  refine wpAny_bind (wpAny_callSpecial?_slot (name := Str.ofString "__setitem__") hl.isList.typeIs slot_list_setitem
    (wpAny_call_entry slot_list_setitem hl.isList.typeIs entry_list_setitem ?_ (args_list_setitem _ _ _)))
  show wpAny _ _ (Builtin.List.listSubscript? (.int (-1) t) >>= _) _ _ s
  refine wpAny_bind (wpAny_listSubscript_int (fitsIndex_neg (by decide) (by decide)) ?_)
  have hidx : seqIndex? (-1) items.size = some (items.size - 1) := by
    rw [seqIndex_neg (k := -1) (n := items.size) (by decide) (by lia)]
    congr 1; lia
  have hlt : items.size - 1 < items.size := by (first | exact Nat.sub_one_lt_of_lt hn | lia)
  have hx' : items[items.size - 1]? = some items[items.size - 1] := Array.getElem?_eq_getElem hlt
  show wpAny _ _ ((Builtin.List.listItems (.ref l) >>= fun xs => pure ((seqIndex? (-1) xs.size).bind fun i => xs[i]?.map (i, ·))) >>= _) _ _ s
  refine wpAny_bind (wpAny_bind ?_)
  show wpAny _ _ (seqItems? (.ref l) >>= _) _ _ s
  refine wpAny_bind (wpAny_seqItems ho rfl (wpAny_pure (wpAny_pure ?_)))
  rw [hidx]
  simp only [Option.bind_some, hx', Option.map_some]
  show wpAny _ _ (setSeqItemAt l (items.size - 1) v >>= _) _ _ s
  have e : Obj.mapSeq (·.setIfInBounds (items.size - 1) v) { cls := .type "list", data := .seq items ne } = { cls := .type "list", data := .seq (items.setIfInBounds (items.size - 1) v) ne } := by
    simp [Obj.mapSeq]
  have hfin : (s.heap.update l (Obj.mapSeq (·.setIfInBounds (items.size - 1) v))).PlainList l (items.setIfInBounds (items.size - 1) v) :=
    ⟨ne, by rw [Heap.get?_update_self _ ho (by rw [e]; rfl), e]⟩
  refine wpAny_bind (wpAny_setSeqItemAt ho rfl ?_)
  first
    | exact wpAny_bind (wpAny_pure (wpAny_pure ⟨.none, rfl, wpAny_pure (hQ _ hfin (Heap.SameBut.update ..))⟩))
    | exact wpAny_pure ⟨.none, rfl, wpAny_pure (hQ _ hfin (Heap.SameBut.update ..))⟩

section
variable {f : Fx} {ρ : Str → Option D} {own : Own} {h h' : Heap} {Φ Ψ : Flow → Heap → Prop} {st : Stmt} {l : List Stmt} {pos : Pos}

/-- x = []: the list that this frame builds -/
theorem Exs.born {x : Str} {xp lp : Pos} (S : St f ρ none h) (hx : f.env.kindOf x = some .local) (hk : f.env.scope.kind = .function) (hnx : ρ x = none)
    (k : ∀ g h', St (f.more g) ρ (some (x, [])) h' → Exs (f.more g) h' l Φ) (hs : swapsWith (.List [] lp) (some (.Name x xp)) pos.line f.env = pure false := by rfl) :
    Exs f h (.Assign [.Name x xp] (.List [] lp) pos :: l) Φ := fun s Q E e0 q => by
  subst e0
  refine wpAny_execs_cons (wpAny_Assign_Name (wpAny_List_spliced (args_nil ⟨by rw [sizeLine_eq]; decide, ?_⟩)) hs)
  have e1 : Ext s.heap (s.heap.push { cls := .type "list", data := .seq ([] : List Value).toArray }) := Ext.push _ _
  obtain ⟨m, cm, S0⟩ := id S
  have hL : f.env.locals < s.heap.objs.size := S0.ns.lt
  have hg : s.heap.get? s.heap.objs.size = none := Heap.get?_none_of_le (Nat.le_refl _)
  refine wpAny_storeName_local hx (S0.ns.keeps e1) (fun h2 hn2 hs2 => ?_) (by rw [hk]; rfl)
  dsimp only at hn2 hs2 ⊢
  have kk : ∀ b o, b ≠ f.env.locals → s.heap.get? b = some o → h2.get? b = some o := fun b o hb e => hs2.extBut b o hb (e1 b o e)
  have hgo : h2.get? s.heap.objs.size = some { cls := .type "list", data := .seq ([] : List Value).toArray } := hs2.extBut _ _ (Nat.ne_of_gt hL) (Heap.get?_push_size _ rfl)
  have S2 : St (f.more s.heap.objs.size) ρ (some (x, [])) h2 := by
    refine ⟨_, cm, hn2, fun b o e => kk b o (fun e' => by subst e'; have e9 := S0.Y0 _ S0.YL; rw [show f.h₀.get? f.env.locals = some o from e] at e9; cases e9) (S0.keep b o e), fun n a hc => ?_, S0.apart, S0.Lc, .inl S0.YL, fun b hb => ?_, ?_, fun b hb => ?_, fun y d hy => ?_, ?_⟩
    · exact ((S0.cell n a hc).keeps e1).sameBut hs2 (S0.Lc n a hc)
    · rcases hb with hb | rfl
      · exact S0.Y0 b hb
      · cases hq : f.h₀.get? s.heap.objs.size with
        | none => exact hq
        | some o => rw [S0.keep _ _ hq] at hg; cases hg
    · intro b hb
      have hb' : (f.X₀ b ∨ f.Y b) ∨ b = s.heap.objs.size := by
        rcases hb with hb | hb | hb
        · exact .inl (.inl hb)
        · exact .inl (.inr hb)
        · exact .inr hb
      rcases hb' with hb | rfl
      · by_cases e : b = f.env.locals
        · rw [e]; exact ns_get hn2
        · obtain ⟨o, ho⟩ := S0.bd b hb; exact ⟨o, kk b o e ho⟩
      · exact ⟨_, hgo⟩
    · rcases hb with hb | rfl
      · exact S0.dj b hb
      · intro hx
        obtain ⟨o, ho⟩ := S0.bd _ (.inl hx)
        rw [hg] at ho; cases ho
    · have rr : ∀ {v d}, R f.X s.heap v d → R (f.more s.heap.objs.size).X h2 v d := fun r => r.mono fun b o hb ho => by
        refine ⟨fun hc => ?_, kk b o (fun e => hb (.inr (e ▸ S0.YL))) ho⟩
        rcases hc with hc | hc | hc
        · exact hb (.inl hc)
        · exact hb (.inr hc)
        · rw [hc, hg] at ho; cases ho
      rcases S0.vw y d hy with ⟨k, u, hu, ru⟩ | ⟨k, a, u, ha, hu, ru⟩
      · refine .inl ⟨k, u, ?_, rr ru⟩
        rw [if_neg (fun e => by rw [e, hnx] at hy; cases hy)]
        exact hu
      · exact .inr ⟨k, a, u, ha, hu, rr ru⟩
    · refine ⟨s.heap.objs.size, [], .inr rfl, Nat.ne_of_gt hL, fun n hm => ?_, hx, by simp, ⟨0, hgo⟩, .nil⟩
      obtain ⟨o, ho, _⟩ := S0.cell n _ hm
      rw [hg] at ho; cases ho
  refine k s.heap.objs.size h2 S2 _ _ _ rfl fun fl h3 t3 k3 p3 => q fl h3 t3 (fun b o hb ho => ?_) p3
  refine k3 b o (fun hc => ?_) (kk b o (fun e => hb (e ▸ S0.YL)) ho)
  rcases hc with hc | hc
  · exact hb hc
  · rw [hc, hg] at ho; cases ho

/-- the list that is built, turned -/
theorem Sm.setO {m cm : Str → Option Value} {x : Str} {ds es : List D} {a : Addr} {vs ws : List Value} (S : Sm f m cm ρ (some (x, ds)) h) (ha : f.Y a) (hL : a ≠ f.env.locals) (hc : ∀ n, f.env.cells.lookup n ≠ some a)
    (hx : f.env.kindOf x = some .local) (hm : m x = some (.ref a)) (hs : Heap.SameBut a h h') (hp : h'.PlainList a (List.toArray ws)) (r : RS f.X h ws es) : Sm f m cm ρ (some (x, es)) h' ∧ Kp f.Y h h' := by
  have kk : ∀ b o, b ≠ a → h.get? b = some o → h'.get? b = some o := fun b o hb e => hs.extBut b o hb e
  have rr : ∀ {v d}, R f.X h v d → R f.X h' v d := fun r => r.mono fun b o hb ho => ⟨hb, kk b o (fun e => hb (.inr (e ▸ ha))) ho⟩
  refine ⟨⟨S.ns.sameBut hs (Ne.symm hL), fun b o e => kk b o (fun e' => by rw [e', S.Y0 _ ha] at e; cases e) (S.keep b o e), fun n c hn => (S.cell n c hn).sameBut hs (fun e => hc n (e ▸ hn)), S.apart, S.Lc, S.YL, S.Y0,
    bd_kp S.bd kk (let ⟨n, e⟩ := hp; ⟨_, e⟩), S.dj, fun y d hy => ?_, a, ws, ha, hL, hc, hx, hm, hp, r.mono fun b o hb ho => ⟨hb, kk b o (fun e => hb (.inr (e ▸ ha))) ho⟩⟩, fun b o hb e => kk b o (fun e' => hb (e' ▸ ha)) e⟩
  rcases S.vw y d hy with ⟨k, u, hu, ru⟩ | ⟨k, c, u, hc, hu, ru⟩
  · exact .inl ⟨k, u, hu, rr ru⟩
  · exact .inr ⟨k, c, u, hc, hu, rr ru⟩

/-- x.append(e) -/
theorem Ex.append {x : Str} {xp ap cp : Pos} {e : Expr} {ds : List D} {d : D} (S : St f ρ (some (x, ds)) h) (he : ∀ h', Ext h h' → Ev f.cx h' e d) (hk : f.env.scope.kind = .function) (hn : ds.length ≤ 1000000)
    (k : ∀ h', St f ρ (some (x, ds ++ [d])) h' → Φ .next h') (hx : (x == ("__debug__" : Str)) = false) (hd : f.env.kindOf x = some .local)
    (hline : (ap.endLine == cp.line) = true := by rfl)
    (htrees : backTo cp (starEach [e] f.env) = [(false, eval e f.env)] := by rfl)
    (hbase : attributeBase (.Name x xp) "append" f.env (eval (.Name x xp) f.env) = eval (.Name x xp) f.env := by rfl)
    (hfew : ((backTo cp (starEach [e] f.env)).all (fun x => !x.1) && (backToKw cp (keywordEach [] f.env)).all (fun x => x.1.isSome)
      && decide (([e] : List Expr).length + ([] : List Keyword).length + (if ([] : List Keyword).isEmpty then 0 else 1) < 30)) = true := by rfl)
    (hi : interactive f.env = false := by rfl) (hs : swapsWith (.Call (.Attribute (.Name x xp) "append" ap) [e] [] cp) none pos.line f.env = pure false := by rfl) :
    Ex f h (.Expr (.Call (.Attribute (.Name x xp) "append" ap) [e] [] cp) pos) Φ := fun s Q E e0 q => by
  subst e0
  obtain ⟨m, cm, S0⟩ := S
  obtain ⟨l, vs, a1, a2, a3, a4, a5, a6, a7⟩ := S0.own
  refine wpAny_Expr_any (wpAny_Call_append hbase hfew hline htrees ?_) hi hs
  refine wpAny_Name (wpAny_loadName_local hk a4 S0.ns a5 ?_) hx
  refine ⟨l, List.toArray vs, rfl, let ⟨n, e⟩ := a6; ⟨_, n, e, rfl, rfl, rfl⟩, ?_⟩
  refine he _ (Ext.refl _) _ _ _ (Ext.refl _) fun y h1 t1 e1 r1 => ?_
  obtain ⟨m1, cm1, S1⟩ := St.ext ⟨m, cm, S0⟩ e1
  refine wpAny_list_append_plain (hsz := by rw [List.size_toArray, a7.length, sizeLine_eq]; lia) (a6.at fun o ho => e1 _ o ho) fun h2 hp2 hs2 => ?_
  have hp2' : h2.PlainList l (List.toArray (vs ++ [y])) := by simpa using hp2
  have S1' : Sm f m cm ρ (some (x, ds)) h1 := by
    obtain ⟨ns, keep, cell, apart, Lc, YL, Y0, bd, dj, vw, own⟩ := S0
    exact ⟨ns.keeps e1, keep.trans e1, fun n a hc => (cell n a hc).keeps e1, apart, Lc, YL, Y0, bd.ext e1, dj, fun z d hz => by
      rcases vw z d hz with ⟨k, v, hv, r⟩ | ⟨k, a, v, ha, hv, r⟩
      · exact .inl ⟨k, v, hv, r.ext e1⟩
      · exact .inr ⟨k, a, v, ha, hv, r.ext e1⟩, l, vs, a1, a2, a3, a4, a5, a6.at fun o ho => e1 _ o ho, a7.ext e1⟩
  obtain ⟨S2, k2⟩ := S1'.setO (vs := vs) a1 a2 a3 a4 a5 hs2 hp2' ((a7.ext e1).append (.cons r1 .nil))
  exact q _ h2 _ ((Kp.of_ext e1).trans k2) (k h2 ⟨_, _, S2⟩)

/-- the list that is built, looked into: its last item -/
theorem Ev.ownLast {x : Str} {xp : Pos} {b : Expr} {ds : List D} {d : D} (S : St f ρ (some (x, ds)) h) (hb : Ev f.cx h b (.int (-1))) (hk : f.env.scope.kind = .function) (hn : ds.length < 2 ^ 62) (hd : ds.getLast? = some d) (hx : (x == ("__debug__" : Str)) = false)
    (hs : ∀ l t, subscripted b false (.ref l) (.int (-1) t) = operate [.ref l, .int (-1) t] (getItem (.ref l) (.int (-1) t)) := by intro _ _; with_unfolding_all rfl) : Ev f.cx h (.Subscript (.Name x xp) b pos) d := fun s Q E e q => by
  obtain ⟨l, vs, a1, a6, a7, ld⟩ := S.ldOwn hk
  refine Subscript_ (wpAny_Name (ld s _ _ e ?_) hx)
  refine hb _ _ _ e fun u h2 k2 e2 r2 => ?_
  cases r2
  have hne : ds ≠ [] := by rintro rfl; simp at hd
  have hlen := a7.length
  have hpos : 0 < ds.length := List.length_pos_iff.mpr hne
  rw [List.getLast?_eq_getElem?] at hd
  have hl2 : h2.IsList l vs.toArray := (a6.at fun o ho => e2 _ o (e _ o ho)).isList
  obtain ⟨z, hz, rz⟩ := (a7.ext (e.trans e2)).get hd
  refine tail_any hl2.typeIs slot_list_getitem.lookup (wpAny_getItem_list_neg hl2 (by decide) ?_ (by decide) ?_ (q z h2 k2 e2 rz)) (hs _ _)
  · rw [List.size_toArray]; lia
  · have e : ((-1 : Int) + (vs.toArray.size : Int)).toNat = ds.length - 1 := by rw [List.size_toArray]; lia
    rw [e]; simpa using hz
/-- its truth -/
theorem Te.ownList {x : Str} {xp : Pos} {ds : List D} (S : St f ρ (some (x, ds)) h) (hk : f.env.scope.kind = .function) (hn : ds.length < 2 ^ 62) (hx : (x == ("__debug__" : Str)) = false) : Te f.cx h (.Name x xp) (!ds.isEmpty) := fun s Q E e q => by
  obtain ⟨l, vs, a1, a6, a7, ld⟩ := S.ldOwn hk
  refine wpAny_isTrue_value (wpAny_Name (ld s _ _ e ?_) hx)
  refine wpAny_truthy_list (a6.at fun o ho => e _ o ho).isList (by rw [List.size_toArray, a7.length]; lia) ?_
  have e : (!vs.toArray.isEmpty) = !ds.isEmpty := by
    have := a7.length
    cases vs <;> cases ds <;> simp_all
  rw [e]; exact q s.heap _ (Ext.refl _)
/-- its length -/
theorem Ev.lenOwn {x ln : Str} {xp np : Pos} {ds : List D} (S : St f ρ (some (x, ds)) h) (hf : Lv f.cx h ln (.builtin "len")) (hk : f.env.scope.kind = .function) (hn : ds.length < 2 ^ 62) (hx : (x == ("__debug__" : Str)) = false) :
    Ev f.cx h (.Call (.Name ln np) [.Name x xp] [] pos) (.int ds.length) := fun s Q E e q => by
  obtain ⟨l, vs, a1, a6, a7, ld⟩ := S.ldOwn hk
  refine Call_ (hf s _ _ _ e (callWith_builtin1 (args_cons (wpAny_Name (ld s _ _ e (args_nil ?_)) hx) rfl) rfl rfl))
  refine Calls.call_len_list (a6.at fun o ho => e _ o ho).isList (by rw [List.size_toArray, a7.length]; lia) ?_
  have e : (vs.toArray.size : Int) = (ds.length : Int) := by rw [List.size_toArray, a7.length]
  rw [e]
  exact q _ s.heap _ (Ext.refl _) (.int _ _)
/-- x[-1] = e -/
theorem Ex.setLast {x : Str} {xp sp : Pos} {b e : Expr} {ds : List D} {d : D} (S : St f ρ (some (x, ds)) h) (he : Ev f.cx h e d) (hb : ∀ h', Ext h h' → Ev f.cx h' b (.int (-1))) (hk : f.env.scope.kind = .function) (hne : ds ≠ [])
    (k : ∀ h', St f ρ (some (x, ds.dropLast ++ [d])) h' → Φ .next h') (hx : (x == ("__debug__" : Str)) = false) (hs : swapsWith e (some (.Subscript (.Name x xp) b sp)) pos.line f.env = pure false := by rfl) :
    Ex f h (.Assign [.Subscript (.Name x xp) b sp] e pos) Φ := fun s Q E e0 q => by
  subst e0
  obtain ⟨m, cm, S0⟩ := S
  refine wpAny_Assign_Subscript (he s _ _ (Ext.refl _) fun v h1 t1 e1 r1 => ?_) hs
  have S1 : Sm f m cm ρ (some (x, ds)) h1 := by
    obtain ⟨ns, keep, cell, apart, Lc, YL, Y0, bd, dj, vw, own⟩ := S0
    exact ⟨ns.keeps e1, keep.trans e1, fun n a hc => (cell n a hc).keeps e1, apart, Lc, YL, Y0, bd.ext e1, dj, fun z d hz => by
      rcases vw z d hz with ⟨k, v, hv, r⟩ | ⟨k, a, v, ha, hv, r⟩
      · exact .inl ⟨k, v, hv, r.ext e1⟩
      · exact .inr ⟨k, a, v, ha, hv, r.ext e1⟩, by
      obtain ⟨l, vs, a1, a2, a3, a4, a5, a6, a7⟩ := own
      exact ⟨l, vs, a1, a2, a3, a4, a5, a6.at fun o ho => e1 _ o ho, a7.ext e1⟩⟩
  obtain ⟨l, vs, a1, a2, a3, a4, a5, a6, a7⟩ := S1.own
  refine wpAny_Name (wpAny_loadName_local hk a4 S1.ns a5 ?_) hx
  refine hb h1 e1 _ _ _ (Ext.refl _) fun u h2 t2 e2 r2 => ?_
  cases r2
  have S2 : Sm f m cm ρ (some (x, ds)) h2 := by
    obtain ⟨ns, keep, cell, apart, Lc, YL, Y0, bd, dj, vw, own⟩ := S1
    exact ⟨ns.keeps e2, keep.trans e2, fun n a hc => (cell n a hc).keeps e2, apart, Lc, YL, Y0, bd.ext e2, dj, fun z d hz => by
      rcases vw z d hz with ⟨k, v, hv, r⟩ | ⟨k, a, v, ha, hv, r⟩
      · exact .inl ⟨k, v, hv, r.ext e2⟩
      · exact .inr ⟨k, a, v, ha, hv, r.ext e2⟩, l, vs, a1, a2, a3, a4, a5, a6.at fun o ho => e2 _ o ho, a7.ext e2⟩
  have hlen := a7.length
  have hpos : 0 < ds.length := List.length_pos_iff.mpr hne
  refine setItem_plain_last (a6.at fun o ho => e2 _ o ho) (by rw [List.size_toArray]; (first | exact Nat.lt_of_lt_of_eq hpos (id (Eq.symm hlen)) | lia)) fun h3 hp3 hs3 => ?_
  have e3 : vs.toArray.setIfInBounds (vs.toArray.size - 1) v = List.toArray (vs.set (vs.length - 1) v) := by simp
  rw [e3] at hp3
  have e4 : ds.set (vs.length - 1) d = ds.dropLast ++ [d] := by
    rw [hlen]
    obtain ⟨xs, y, rfl⟩ : ∃ xs y, ds = xs ++ [y] := ⟨ds.dropLast, ds.getLast hne, (List.dropLast_concat_getLast hne).symm⟩
    simp
  obtain ⟨S3, k3⟩ := S2.setO (vs := vs) a1 a2 a3 a4 a5 hs3 hp3 (e4 ▸ (a7.ext e2).set (r1.ext e2))
  exact q _ h3 _ (((Kp.of_ext e1).trans (Kp.of_ext e2)).trans k3) (k h3 ⟨_, _, S3⟩)
/-- return x, the list that was built -/
theorem Ex.retOwn {x : Str} {xp : Pos} {ds : List D} (S : St f ρ (some (x, ds)) h) (hk : f.env.scope.kind = .function) (hx : (x == ("__debug__" : Str)) = false)
    (k : ∀ v, R f.X₀ h v (.lst ds) → Φ (.ret v) h) : Ex f h (.Return (some (.Name x xp)) pos) Φ := fun s Q E e0 q => by
  subst e0
  have S' := S
  obtain ⟨m, cm, S0⟩ := S
  obtain ⟨l, vs, a1, a2, a3, a4, a5, a6, a7⟩ := S0.own
  refine wpAny_Return_some (wpAny_Name (wpAny_loadName_local hk a4 S0.ns a5 ?_) hx)
  refine q _ s.heap s.toks (Kp.of_ext (Ext.refl _)) (k _ (.lst (fun hX => ?_) a6.isList (a7.mono fun b o hb ho => ⟨fun hX => hb (.inl hX), ho⟩)))
  exact S0.dj _ a1 hX
end
end Mine
end

section
open PySem PyProof.Rows
namespace Mine
set_option autoImplicit false
set_option linter.unusedVariables false
set_option maxRecDepth 100000

noncomputable def SeqObj (o : Obj) : Prop := ∃ xs n, o.data = .seq xs n
/-- neither data nor a cell -/
noncomputable def ItObj (o : Obj) : Prop := ¬ SeqObj o ∧ ∀ v, o.data ≠ .cell v
section
variable {X X' : Addr → Prop} {h h' : Heap}
mutual
theorem R.monoC (k : ∀ b o, ¬ X b → h.get? b = some o → SeqObj o → ¬ X' b ∧ h'.get? b = some o) : ∀ {v : Value} {d : D}, R X h v d → R X' h' v d
  | _, _, .none => .none
  | _, _, .bool b => .bool b
  | _, _, .int i t => .int i t
  | _, _, .str x t => .str x t
  | _, _, .tup hx ⟨o, ho, hc, n, hd⟩ rs => .tup (k _ _ hx ho ⟨_, n, hd⟩).1 ⟨o, (k _ _ hx ho ⟨_, n, hd⟩).2, hc, n, hd⟩ (RS.monoC k rs)
  | _, _, .lst hx ⟨o, ho, hc, n, hd⟩ rs => .lst (k _ _ hx ho ⟨_, n, hd⟩).1 ⟨o, (k _ _ hx ho ⟨_, n, hd⟩).2, hc, n, hd⟩ (RS.monoC k rs)
theorem RS.monoC (k : ∀ b o, ¬ X b → h.get? b = some o → SeqObj o → ¬ X' b ∧ h'.get? b = some o) : ∀ {vs : List Value} {ds : List D}, RS X h vs ds → RS X' h' vs ds
  | _, _, .nil => .nil
  | _, _, .cons a r => .cons (R.monoC k a) (RS.monoC k r)
end
end

section
variable {f : Fx} {ρ : Str → Option D} {own : Own} {h h' : Heap} {Φ Ψ : Flow → Heap → Prop} {st : Stmt} {l : List Stmt} {pos : Pos}

/-- something that is neither data nor the frame's is turned (an iterator) -/
theorem St.turn {I : Addr} (S : St f ρ own h) (hI : ∀ o, h.get? I = some o → ItObj o) (hX : ¬ f.X I) (h0 : f.h₀.get? I = none) (k : ∀ b o, b ≠ I → h.get? b = some o → h'.get? b = some o) : St f ρ own h' := by
  obtain ⟨m, cm, S⟩ := S
  have hY : ¬ f.Y I := fun x => hX (.inr x)
  have rr : ∀ {v d}, R f.X h v d → R f.X h' v d := fun r => r.monoC fun b o hb ho hs => ⟨hb, k b o (fun e => by subst e; exact (hI o ho).1 hs) ho⟩
  refine ⟨m, cm, S.ns.at' fun o ho => k _ o (fun e => hY (e ▸ S.YL)) ho, fun b o ho => k b o (fun e => by rw [e, h0] at ho; cases ho) (S.keep b o ho), fun n a hc => ?_, S.apart, S.Lc, S.YL, S.Y0, ?_, S.dj, fun x d hx => ?_, ?_⟩
  · obtain ⟨o, ho, hd⟩ := S.cell n a hc
    exact ⟨o, k _ o (fun e => by subst e; exact (hI o ho).2 _ hd) ho, hd⟩
  · intro b hb
    obtain ⟨o, ho⟩ := S.bd b hb
    exact ⟨o, k b o (fun e => hX (e ▸ hb)) ho⟩
  · rcases S.vw x d hx with ⟨kx, v, hv, r⟩ | ⟨kx, a, v, ha, hv, r⟩
    · exact .inl ⟨kx, v, hv, rr r⟩
    · exact .inr ⟨kx, a, v, ha, hv, rr r⟩
  · have o := S.own
    cases own with
    | none => trivial
    | some p =>
      obtain ⟨l, vs, a1, a2, a3, a4, a5, a6, a7⟩ := o
      exact ⟨l, vs, a1, a2, a3, a4, a5, a6.at fun o ho => k _ o (fun e => hY (e ▸ a1)) ho, a7.monoC fun b o hb ho hs => ⟨hb, k b o (fun e => by subst e; exact (hI o ho).1 hs) ho⟩⟩

noncomputable def Body (f : Fx) (Inv : (Str → Option D) → Own → Prop) (Φ : Flow → Heap → Prop) (fl : Flow) (h : Heap) : Prop :=
  match fl with
  | .next | .cont => ∃ ρ own, Inv ρ own ∧ St f ρ own h
  | .brk => Φ .next h
  | .ret v => Φ (.ret v) h

/-- while: a family of states by a measure -/
theorem Ex.while {test : Expr} {body : List Stmt} (Inv : Nat → (Str → Option D) → Own → Prop)
    (turn : ∀ n ρ own h1, Inv n ρ own → St f ρ own h1 → ∃ b, Te f.cx h1 test b ∧
      (b = true → ∀ h2, St f ρ own h2 → Exs f h2 body (Body f (fun ρ' own' => ∃ m, m < n ∧ Inv m ρ' own') Φ)) ∧ (b = false → ∀ h2, St f ρ own h2 → Φ .next h2))
    (n : Nat) (h0 : Inv n ρ own) (S : St f ρ own h) : Ex f h (.While test body [] pos) Φ := fun s Q E e0 q => by
  subst e0
  refine wpAny_While (codeAny_whileLoop (fun k s' => ∃ h' tk ρ' own', s' = { s with heap := h', toks := tk } ∧ Inv k ρ' own' ∧ St f ρ' own' h' ∧ Kp f.Y s.heap h') ?_ n ⟨s.heap, s.toks, ρ, own, rfl, h0, S, Kp.of_ext (Ext.refl _)⟩)
  rintro k s' ⟨h1, t1, ρ1, own1, rfl, hi, S1, k1⟩
  obtain ⟨b, te, tt, ff⟩ := turn k ρ1 own1 h1 hi S1
  refine te _ _ _ (Ext.refl _) fun h2 t2 e2 => ?_
  have S2 := S1.ext e2
  have k2 : Kp f.Y s.heap h2 := k1.trans (Kp.of_ext e2)
  cases b with
  | true =>
    simp only [if_true]
    refine tt rfl h2 S2 _ _ _ rfl fun fl h3 t3 k3 p3 => ?_
    cases fl with
    | next => obtain ⟨ρ', own', ⟨m, hm, hi'⟩, S'⟩ := p3; exact ⟨m, hm, h3, t3, ρ', own', rfl, hi', S', k2.trans k3⟩
    | cont => obtain ⟨ρ', own', ⟨m, hm, hi'⟩, S'⟩ := p3; exact ⟨m, hm, h3, t3, ρ', own', rfl, hi', S', k2.trans k3⟩
    | brk => exact q _ h3 t3 (k2.trans k3) p3
    | ret v => exact q _ h3 t3 (k2.trans k3) p3
  | false =>
    simp only [Bool.false_eq_true, if_false]
    exact wpAny_execs_nil (q _ h2 t2 k2 (ff rfl h2 S2))

/-- how a target takes an item -/
noncomputable def Tg (f : Fx) (target : Expr) (d : D) (bind : (Str → Option D) → (Str → Option D)) (own : Own) : Prop :=
  ∀ (ρ : Str → Option D) (v : Value) (s : Shared) (Q : Unit → Shared → Prop) (E : Value → Shared → Prop), St f ρ own s.heap → R f.X s.heap v d →
    (∀ h2 tk, Kp f.Y s.heap h2 → St f (bind ρ) own h2 → Q () { s with heap := h2, toks := tk }) → wpAny (model f.prog f.w) f.A (assign target f.env v) Q E s
theorem Tg.name {x : Str} {xp : Pos} {d : D} (hx : f.env.kindOf x = some .local) (hk : f.env.scope.kind = .function) (ho : ∀ p, own = some p → p.1 ≠ x) : Tg f (.Name x xp) d (fun ρ => upd ρ x d) own := fun ρ v s Q E S r q => by
  obtain ⟨m, cm, S⟩ := S
  refine wpAny_assign_Name (wpAny_storeName_local hx S.ns (fun h2 hn2 hs2 => ?_) (by rw [hk]; rfl))
  obtain ⟨S2, k2⟩ := S.setL hx ho r hn2 hs2
  exact q h2 _ k2 ⟨_, _, S2⟩
theorem Tg.pair {x y : Str} {xp yp tp : Pos} {c : Nat} {d e : D} (hA : f.A.handled = none) (hx : f.env.kindOf x = some .local) (hy : f.env.kindOf y = some .local) (hk : f.env.scope.kind = .function) (hox : ∀ p, own = some p → p.1 ≠ x) (hoy : ∀ p, own = some p → p.1 ≠ y) :
    Tg f (.Tuple [.Name x xp, .Name y yp] c tp) (.tup [d, e]) (fun ρ => upd (upd ρ x d) y e) own := fun ρ v s Q E S r q => by
  cases r with
  | tup hX ht rs =>
    cases rs with
    | cons r1 rs =>
      cases rs with
      | cons r2 rs =>
        cases rs
        refine wpAny_assign_Tuple hA ht rfl rfl fun h1 e1 => ?_
        have e1' : Ext s.heap h1 := fun b o ho => e1 b o (Nat.ne_of_lt (Heap.lt_size ho)) ho
        show wpAny _ _ (holding _ (assign (.Name x xp) f.env _) >>= fun _ => (holding _ (assign (.Name y yp) f.env _) >>= fun _ => pure ())) _ _ _
        refine wpAny_bind (wpAny_holding (Tg.name hx hk hox ρ _ _ _ _ (S.ext e1') (r1.ext e1') fun h2 t2 k2 S2 => ?_))
        have r2' : R f.X h2 _ e := (r2.ext e1').mono fun b o hb ho => ⟨hb, k2 b o (fun hy => hb (.inr hy)) ho⟩
        refine wpAny_bind (wpAny_holding (Tg.name hy hk hoy (upd ρ x d) _ _ _ _ S2 r2' fun h3 t3 k3 S3 => ?_))
        exact wpAny_pure (q h3 t3 (((Kp.of_ext e1').trans k2).trans k3) S3)

theorem forCore {target : Expr} {body : List Stmt} {I : Addr} {fp : List Addr} {n : Nat} {P : Nat → Value → Prop} {Sti : Nat → Heap → Prop} {R' : Result → Shared → Prop} {s : Shared}
    (W : Walks f.prog f.w f.A I fp [I] n P Sti) (hst : Sti 0 s.heap) (hcls : ∀ i h, Sti i h → ∃ o, h.get? I = some o ∧ ItObj o) (hfY : ∀ b ∈ fp, ¬ f.Y b) (hX : ¬ f.X I) (h0 : f.h₀.get? I = none)
    (dat : Nat → D) (hP : ∀ i v, i < n → P i v → R f.X s.heap v (dat i))
    (lot : ∀ i v (s : Shared) (Q : Unit → Shared → Prop) (E : Value → Shared → Prop), P i v → Sti (i + 1) s.heap → Q () s → wpAny (model f.prog f.w) f.A (letOwnedTupleGo target (.ref I) v) Q E s)
    (bind : Nat → (Str → Option D) → (Str → Option D)) (Inv : Nat → (Str → Option D) → Own → Prop) (tg : ∀ i ρ own, i < n → Inv i ρ own → Tg f target (dat i) (bind i) own)
    (turn : ∀ i ρ own h1, i < n → Inv i ρ own → St f (bind i ρ) own h1 → Exs f h1 body (Body f (Inv (i + 1)) Φ))
    (hi : Inv 0 ρ own) (S : St f ρ own s.heap) (done : ∀ ρ own h1, Inv n ρ own → St f ρ own h1 → Φ .next h1)
    (hR : ∀ fl h' tk, (∀ b o, ¬ f.Y b → b ≠ I → s.heap.get? b = some o → h'.get? b = some o) → Φ fl h' → R' (.ok fl) { s with heap := h', toks := tk }) :
    codeAny (model f.prog f.w) f.A (.forLoop target (.ref I) body [] f.env) R' s := by
  refine codeAny_forLoop_any (fun k s' => ∃ h' tk i ρ' own', s' = { s with heap := h', toks := tk } ∧ i ≤ n ∧ k = n + 1 - i ∧ Inv i ρ' own' ∧ St f ρ' own' h' ∧ Sti i h' ∧ (∀ b o, ¬ f.Y b → b ≠ I → s.heap.get? b = some o → h'.get? b = some o)) ?_ (n + 1)
    ⟨s.heap, s.toks, 0, ρ, own, rfl, Nat.zero_le _, rfl, hi, S, hst, fun _ _ _ _ e => e⟩
  rintro k s' ⟨h1, t1, i, ρ1, own1, rfl, hin, rfl, hi1, S1, st1, k1⟩
  have hYI : ¬ f.Y I := fun x => hX (.inr x)
  obtain ⟨oI, hoI, hnI⟩ := hcls i h1 st1
  have hsI : ∀ o, s.heap.get? I = some o → ItObj o := by
    obtain ⟨o2, ho2, hn2⟩ := hcls 0 s.heap hst
    intro o ho; rw [ho2] at ho; cases ho; exact hn2
  by_cases hlt : i < n
  · refine W.item i _ _ _ hlt st1 fun v h2 t2 hPv st2 hk2 => ?_
    have k2' : ∀ b o, b ≠ I → h1.get? b = some o → h2.get? b = some o := fun b o hb e => hk2 b o (fun hm => hb (List.mem_singleton.mp hm)) e
    have S2 : St f ρ1 own1 h2 := S1.turn (fun o ho => by rw [hoI] at ho; cases ho; exact hnI) hX h0 k2'
    have k2 : ∀ b o, ¬ f.Y b → b ≠ I → s.heap.get? b = some o → h2.get? b = some o := fun b o hy hb e => k2' b o hb (k1 b o hy hb e)
    have r2 : R f.X h2 v (dat i) := (hP i v hlt hPv).monoC fun b o hb ho hs => ⟨hb, k2 b o (fun hy => hb (.inr hy)) (fun e => by subst e; exact (hsI o ho).1 hs) ho⟩
    refine lot i v _ _ _ hPv st2 ?_
    refine tg i ρ1 own1 hlt hi1 ρ1 v _ _ _ S2 r2 fun h3 t3 k3 S3 => ?_
    refine turn i ρ1 own1 h3 hlt hi1 S3 _ _ _ rfl fun fl h4 t4 k4 p4 => ?_
    have k34 : ∀ b o, ¬ f.Y b → h2.get? b = some o → h4.get? b = some o := fun b o hy e => k4 b o hy (k3 b o hy e)
    have kall : ∀ b o, ¬ f.Y b → b ≠ I → s.heap.get? b = some o → h4.get? b = some o := fun b o hy hb e => k34 b o hy (k2 b o hy hb e)
    have st4 : Sti (i + 1) h4 := W.frame _ _ _ st2 fun b hb o ho => k34 b o (hfY b hb) ho
    cases fl with
    | next => obtain ⟨ρ', own', hi', S'⟩ := p4; exact ⟨n + 1 - (i + 1), by grind, h4, t4, i + 1, ρ', own', rfl, hlt, rfl, hi', S', st4, kall⟩
    | cont => obtain ⟨ρ', own', hi', S'⟩ := p4; exact ⟨n + 1 - (i + 1), by grind, h4, t4, i + 1, ρ', own', rfl, hlt, rfl, hi', S', st4, kall⟩
    | brk => exact hR _ h4 t4 kall p4
    | ret v => exact hR _ h4 t4 kall p4
  · have e : i = n := by lia
    subst e
    refine W.done _ _ _ st1 fun h2 t2 hk2 => ?_
    have k2' : ∀ b o, b ≠ I → h1.get? b = some o → h2.get? b = some o := fun b o hb e => hk2 b o (fun hm => hb (List.mem_singleton.mp hm)) e
    have S2 : St f ρ1 own1 h2 := S1.turn (fun o ho => by rw [hoI] at ho; cases ho; exact hnI) hX h0 k2'
    exact wpAny_execs_nil (hR _ h2 t2 (fun b o hy hb e => k2' b o hb (k1 b o hy hb e)) (done _ _ _ hi1 S2))

/-- for over a list of data -/
theorem Ex.forList {target iter : Expr} {body : List Stmt} {ds : List D} (hA : f.A.handled = none) (he : Ev f.cx h iter (.lst ds))
    (bind : Nat → (Str → Option D) → (Str → Option D)) (Inv : Nat → (Str → Option D) → Own → Prop) (tg : ∀ i ρ own d, ds[i]? = some d → Inv i ρ own → Tg f target d (bind i) own)
    (turn : ∀ i ρ own h1, i < ds.length → Inv i ρ own → St f (bind i ρ) own h1 → Exs f h1 body (Body f (Inv (i + 1)) Φ))
    (hi : Inv 0 ρ own) (S : St f ρ own h) (done : ∀ ρ own h1, Inv ds.length ρ own → St f ρ own h1 → Φ .next h1)
    (lot : ∀ I l i T (s : Shared) (Q : Unit → Shared → Prop) (E : Value → Shared → Prop), (∃ x xp, target = .Name x xp) ∨ (∃ es c p, target = .Tuple es c p ∧ ∃ a, T = .ref a) → s.heap.IsListIter I l i → Q () s → wpAny (model f.prog f.w) f.A (letOwnedTupleGo target (.ref I) T) Q E s)
    (ht : (∃ x xp, target = .Name x xp) ∨ ((∃ es c p, target = .Tuple es c p) ∧ ∀ d ∈ ds, ∃ es, d = .tup es))
    (hs : ∀ x, foldedSetIterable iter f.env x = pure x := by intro _; rfl) : Ex f h (.For target iter body [] pos) Φ := fun s Q E e0 q => by
  subst e0
  refine wpAny_For (he s _ _ (Ext.refl _) fun v h1 t1 e1 r1 => ?_) hs
  cases r1 with
  | lst hX hl rs =>
    rename_i a vs
    refine wpAny_pyIter_list hl ?_
    dsimp only
    have S1 := S.ext e1
    have e2 : Ext h1 (h1.push { cls := .type "list_iterator", data := .fields #[.ref a, .int 0 0] }) := Ext.push _ _
    have hlt : a < h1.objs.size := by obtain ⟨_, e, _⟩ := hl; exact Heap.lt_size e
    have hXI : ¬ f.X h1.objs.size := S1.bd.fresh
    have h0 : f.h₀.get? h1.objs.size = none := by
      cases e : f.h₀.get? h1.objs.size with
      | none => rfl
      | some o => exact absurd (Heap.lt_size (S1.keep _ _ e)) (Nat.lt_irrefl _)
    refine forCore (W := Walks.list hA h1.objs.size a (Nat.ne_of_lt hlt) vs.toArray) (ρ := ρ) (own := own) (Φ := Φ) (dat := fun i => ds.getD i .none) (bind := bind) (Inv := Inv)
      ⟨⟨_, Heap.get?_push_size _ rfl, rfl, rfl⟩, hl.push _⟩ ?_ ?_ hXI h0 ?_ ?_ ?_ ?_ hi (S1.ext e2) ?_ ?_
    · rintro i hh ⟨⟨o, ho, hc, hd⟩, _⟩
      refine ⟨o, ho, ?_, fun v e => by rw [hd] at e; cases e⟩
      rintro ⟨xs, n, e⟩; rw [hd] at e; cases e
    · intro b hb
      rcases List.mem_cons.mp hb with rfl | hb
      · exact fun hy => hXI (.inr hy)
      · rw [List.mem_singleton.mp hb]; exact fun hy => hX (.inr hy)
    · intro i v hi hv
      obtain ⟨d, hd, rd⟩ := rs.getV (by simpa using hv)
      rw [List.getD_eq_getElem?_getD, hd]
      exact rd.ext e2
    · rintro i v s' Q' E' hv ⟨hst, _⟩ hq
      refine lot _ _ _ _ _ _ _ ?_ hst hq
      rcases ht with ht | ⟨ht, hd⟩
      · exact .inl ht
      · obtain ⟨es, c, p, rfl⟩ := ht
        obtain ⟨d, hd', rd⟩ := rs.getV (by simpa using hv)
        obtain ⟨es', rfl⟩ := hd d (List.mem_of_getElem? hd')
        cases rd
        exact .inr ⟨es, c, p, rfl, _, rfl⟩
    · intro i ρ' own' hlt' hi'
      have hlt2 : i < ds.length := by rw [← rs.length]; simpa using hlt'
      refine tg i ρ' own' _ ?_ hi'
      rw [List.getD_eq_getElem?_getD, List.getElem?_eq_getElem hlt2]; rfl
    · intro i ρ' own' h2 hlt' hi' S2
      exact turn i ρ' own' h2 (by rw [← rs.length]; simpa using hlt') hi' S2
    · intro ρ' own' h2 hi' S2
      exact done ρ' own' h2 (by rw [← rs.length]; simpa using hi') S2
    · intro fl h' tk hk p
      refine q fl h' tk (fun b o hy ho => ?_) p
      have ho1 := e1 b o ho
      exact hk b o hy (Nat.ne_of_lt (Heap.lt_size ho1)) (e2 b o ho1)
end
end Mine
end

section
open PySem PyProof.Rows
namespace Mine
set_option autoImplicit false
set_option linter.unusedVariables false
set_option maxRecDepth 100000

section
variable {f : Fx} {ρ : Str → Option D} {own : Own} {h h' : Heap} {Φ Ψ : Flow → Heap → Prop} {st : Stmt} {l : List Stmt} {pos : Pos}
theorem lotOk {target : Expr} (I l : Addr) (i : Nat) (T : Value) (s : Shared) (Q : Unit → Shared → Prop) (E : Value → Shared → Prop)
    (ht : (∃ x xp, target = .Name x xp) ∨ (∃ es c p, target = .Tuple es c p ∧ ∃ a, T = .ref a)) (hi : s.heap.IsListIter I l i) (q : Q () s) : wpAny (model f.prog f.w) f.A (letOwnedTupleGo target (.ref I) T) Q E s := by
  rcases ht with ⟨x, xp, rfl⟩ | ⟨es, c, p, rfl, a, rfl⟩
  · exact wpAny_pure q
  · exact wpAny_letOwnedTupleGo_listiter hi q

/-- for low, high in a list of pairs -/
theorem Ex.forPairs {x y : Str} {xp yp tp : Pos} {c : Nat} {iter : Expr} {body : List Stmt} (ps : List (D × D)) (hA : f.A.handled = none) (he : Ev f.cx h iter (.lst (ps.map fun p => .tup [p.1, p.2])))
    (Inv : Nat → (Str → Option D) → Own → Prop) (hx : f.env.kindOf x = some .local) (hy : f.env.kindOf y = some .local) (hk : f.env.scope.kind = .function)
    (hox : ∀ i ρ own, Inv i ρ own → ∀ p, own = some p → p.1 ≠ x ∧ p.1 ≠ y)
    (turn : ∀ i ρ own h1 p, ps[i]? = some p → Inv i ρ own → St f (upd (upd ρ x p.1) y p.2) own h1 → Exs f h1 body (Body f (Inv (i + 1)) Φ))
    (hi : Inv 0 ρ own) (S : St f ρ own h) (done : ∀ ρ own h1, Inv ps.length ρ own → St f ρ own h1 → Φ .next h1)
    (hs : ∀ x, foldedSetIterable iter f.env x = pure x := by intro _; rfl) : Ex f h (.For (.Tuple [.Name x xp, .Name y yp] c tp) iter body [] pos) Φ := by
  refine Ex.forList hA he (fun i ρ => match ps[i]? with | some p => upd (upd ρ x p.1) y p.2 | none => ρ) Inv ?_ ?_ hi S ?_ (fun I l i T s Q E ht hi q => lotOk I l i T s Q E ht hi q) (.inr ⟨⟨_, _, _, rfl⟩, ?_⟩) hs
  · intro i ρ own d hd hi
    rw [List.getElem?_map] at hd
    cases hp : ps[i]? with
    | none => rw [hp] at hd; cases hd
    | some p =>
      rw [hp] at hd; cases hd
      exact Tg.pair hA hx hy hk (fun q hq => (hox i ρ own hi q hq).1) (fun q hq => (hox i ρ own hi q hq).2)
  · intro i ρ own h1 hlt hi S
    rw [List.length_map] at hlt
    rw [List.getElem?_eq_getElem hlt] at S
    exact turn i ρ own h1 _ (List.getElem?_eq_getElem hlt) hi S
  · intro ρ own h1 hi S
    exact done ρ own h1 (by simpa using hi) S
  · intro d hd
    obtain ⟨p, _, rfl⟩ := List.mem_map.mp hd
    exact ⟨_, rfl⟩

/-- for k in range(e) -/
theorem Ex.forRange {x rn : Str} {xp rp cp : Pos} {e : Expr} {body : List Stmt} {n : Nat} (hA : f.A.handled = none) (hr : Lv f.cx h rn (.type "range")) (he : Ev f.cx h e (.int n)) (hn : n < 2 ^ 60)
    (Inv : Nat → (Str → Option D) → Own → Prop) (hx : f.env.kindOf x = some .local) (hk : f.env.scope.kind = .function)
    (hox : ∀ i ρ own, Inv i ρ own → ∀ p, own = some p → p.1 ≠ x)
    (turn : ∀ (i : Nat) ρ own h1, i < n → Inv i ρ own → St f (upd ρ x (.int i)) own h1 → Exs f h1 body (Body f (Inv (i + 1)) Φ))
    (hi : Inv 0 ρ own) (S : St f ρ own h) (done : ∀ ρ own h1, Inv n ρ own → St f ρ own h1 → Φ .next h1)
    (hse : starEach (e :: []) f.env = (false, eval e f.env) :: starEach [] f.env := by rfl)
    (hs : ∀ x, foldedSetIterable (.Call (.Name rn rp) [e] [] cp) f.env x = pure x := by intro _; rfl) : Ex f h (.For (.Name x xp) (.Call (.Name rn rp) [e] [] cp) body [] pos) Φ := fun s Q E e0 q => by
  subst e0
  refine wpAny_For (Call_ (hr s _ _ _ (Ext.refl _) (callWith_type1 (args_cons (he s _ _ (Ext.refl _) fun v h1 t1 e1 r1 => args_nil ?_) hse) hse rfl))) hs
  cases r1
  refine call_range_1 ?_
  dsimp only
  rename_i tn
  have e2 : Ext h1 (h1.push { cls := .type "range", data := .fields #[.int 0 t1, .int n tn, .int 1 (t1 + 1)] }) := Ext.push _ _
  have S2 := (S.ext e1).ext e2
  generalize hH : h1.push { cls := .type "range", data := .fields #[.int 0 t1, .int n tn, .int 1 (t1 + 1)] } = H at S2 e2 ⊢
  have hrg : IsRange H h1.objs.size 0 n 1 t1 tn (t1 + 1) := by rw [← hH]; exact Heap.get?_push_size _ rfl
  refine wpAny_pyIter_range hrg (small_one (by (first | exact Int.neg_ofNat_le_ofNat (2 ^ 62) 0 | lia)) (by (first | exact W.kbt_pos 62 | lia)) (by (first | exact Int.neg_ofNat_le_natCast (2 ^ 62) n | lia)) (by lia)) ?_
  dsimp only
  have e3 : Ext H (H.push { cls := .type "range_iterator", data := .fields #[rawInt 0, rawInt (Builtin.Range.rangeSize 0 n 1), rawInt 1] }) := Ext.push _ _
  have hXI : ¬ f.X H.objs.size := S2.bd.fresh
  have h0 : f.h₀.get? H.objs.size = none := by
    cases e : f.h₀.get? H.objs.size with
    | none => rfl
    | some o => exact absurd (Heap.lt_size (S2.keep _ _ e)) (Nat.lt_irrefl _)
  refine forCore (W := Walks.range hA H.objs.size 0 1 n) (ρ := ρ) (own := own) (Φ := Φ) (dat := fun i => .int i) (bind := fun i ρ => upd ρ x (.int i)) (Inv := Inv) ?_ ?_ ?_ hXI h0 ?_ ?_ ?_ ?_ hi (S2.ext e3) ?_ ?_
  · show IsRangeIter _ _ _ _ _
    have e : Builtin.Range.rangeSize 0 n 1 = (n : Int) := by rw [rangeSize_nat]; (first | exact Int.ofNat_inj.mpr rfl | lia)
    rw [e]
    simpa using Heap.get?_push_size _ rfl
  · intro i hh hst
    refine ⟨_, hst, ?_, fun v e => nomatch e⟩
    rintro ⟨xs, n, e⟩; cases e
  · intro b hb
    rw [List.mem_singleton.mp hb]; exact fun hy => hXI (.inr hy)
  · rintro i v hi ⟨t, rfl⟩
    have e : (0 : Int) + (i : Int) * 1 = (i : Int) := by lia
    rw [e]; exact .int _ _
  · rintro i v s' Q' E' hv hst hq
    exact wpAny_pure hq
  · intro i ρ' own' hlt' hi'
    exact Tg.name hx hk (hox i ρ' own' hi')
  · intro i ρ' own' h2 hlt' hi' S3
    exact turn i ρ' own' h2 hlt' hi' S3
  · intro ρ' own' h2 hi' S3
    exact done ρ' own' h2 hi' S3
  · intro fl h' tk hk' p
    refine q fl h' tk (fun b o hy ho => ?_) p
    have ho2 := e2 b o (e1 b o ho)
    exact hk' b o hy (Nat.ne_of_lt (Heap.lt_size ho2)) (e3 b o ho2)
end

section
variable {f : Fx} {ρ : Str → Option D} {own : Own} {h h' : Heap} {Φ Ψ : Flow → Heap → Prop} {st : Stmt} {l : List Stmt} {pos : Pos}
/-! statements with what follows -/
theorem Exs.set {x : Str} {xp : Pos} {e : Expr} {d : D} (S : St f ρ own h) (he : Ev f.cx h e d) (k : ∀ h', St f (upd ρ x d) own h' → Exs f h' l Φ) (hx : f.env.kindOf x = some .local := by rfl) (hk : f.env.scope.kind = .function := by rfl)
    (ho : ∀ p, own = some p → p.1 ≠ x := by intro p hp; cases hp <;> (dsimp only; decide)) (hs : swapsWith e (some (.Name x xp)) pos.line f.env = pure false := by rfl) : Exs f h (.Assign [.Name x xp] e pos :: l) Φ :=
  Exs.cons (Ψ := fun fl h' => fl = .next ∧ St f (upd ρ x d) own h') (Ex.assign S he hx hk (fun h2 S2 => ⟨rfl, S2⟩) ho hs) (fun h2 _ S2 => k h2 S2.2) (fun _ _ n x => absurd x.1 n)
theorem Exs.setC {x : Str} {xp : Pos} {e : Expr} {d : D} {a : Addr} (S : St f ρ own h) (he : Ev f.cx h e d) (k : ∀ h', St f (upd ρ x d) own h' → Exs f h' l Φ) (ha : f.env.cells.lookup x = some a) (hYa : f.Y a) (hx : f.env.kindOf x = some .cell := by rfl) (hk : f.env.scope.kind = .function := by rfl)
    (hs : swapsWith e (some (.Name x xp)) pos.line f.env = pure false := by rfl) : Exs f h (.Assign [.Name x xp] e pos :: l) Φ :=
  Exs.cons (Ψ := fun fl h' => fl = .next ∧ St f (upd ρ x d) own h') (Ex.assignC S he hx ha hYa hk (fun h2 S2 => ⟨rfl, S2⟩) hs) (fun h2 _ S2 => k h2 S2.2) (fun _ _ n x => absurd x.1 n)
theorem Exs.aug {x : Str} {xp : Pos} {e : Expr} {i j : Int} (S : St f ρ own h) (hv : ρ x = some (.int i)) (he : Ev f.cx h e (.int j)) (k : ∀ h', St f (upd ρ x (.int (i + j))) own h' → Exs f h' l Φ) (hx : f.env.kindOf x = some .local := by rfl) (hk : f.env.scope.kind = .function := by rfl)
    (ho : ∀ p, own = some p → p.1 ≠ x := by intro p hp; cases hp <;> (dsimp only; decide)) : Exs f h (.AugAssign (.Name x xp) .Add e pos :: l) Φ :=
  Exs.cons (Ψ := fun fl h' => fl = .next ∧ St f (upd ρ x (.int (i + j))) own h') (Ex.aug S hv he hx hk (fun h2 S2 => ⟨rfl, S2⟩) ho) (fun h2 _ S2 => k h2 S2.2) (fun _ _ n x => absurd x.1 n)
theorem Exs.app {x : Str} {xp ap cp : Pos} {e : Expr} {ds : List D} {d : D} (S : St f ρ (some (x, ds)) h) (he : ∀ h', Ext h h' → Ev f.cx h' e d) (hn : ds.length ≤ 1000000) (k : ∀ h', St f ρ (some (x, ds ++ [d])) h' → Exs f h' l Φ)
    (hk : f.env.scope.kind = .function := by rfl) (hx : (x == ("__debug__" : Str)) = false := by rfl) (hd : f.env.kindOf x = some .local := by rfl)
    (hline : (ap.endLine == cp.line) = true := by rfl)
    (htrees : backTo cp (starEach [e] f.env) = [(false, eval e f.env)] := by rfl)
    (hbase : attributeBase (.Name x xp) "append" f.env (eval (.Name x xp) f.env) = eval (.Name x xp) f.env := by rfl)
    (hfew : ((backTo cp (starEach [e] f.env)).all (fun x => !x.1) && (backToKw cp (keywordEach [] f.env)).all (fun x => x.1.isSome)
      && decide (([e] : List Expr).length + ([] : List Keyword).length + (if ([] : List Keyword).isEmpty then 0 else 1) < 30)) = true := by rfl)
    (hi : interactive f.env = false := by rfl) (hs : swapsWith (.Call (.Attribute (.Name x xp) "append" ap) [e] [] cp) none pos.line f.env = pure false := by rfl) :
    Exs f h (.Expr (.Call (.Attribute (.Name x xp) "append" ap) [e] [] cp) pos :: l) Φ :=
  Exs.cons (Ψ := fun fl h' => fl = .next ∧ St f ρ (some (x, ds ++ [d])) h') (Ex.append S he hk hn (fun h2 S2 => ⟨rfl, S2⟩) hx hd hline htrees hbase hfew hi hs) (fun h2 _ S2 => k h2 S2.2) (fun _ _ n x => absurd x.1 n)
theorem Exs.setLast {x : Str} {xp sp : Pos} {b e : Expr} {ds : List D} {d : D} (S : St f ρ (some (x, ds)) h) (he : Ev f.cx h e d) (hb : ∀ h', Ext h h' → Ev f.cx h' b (.int (-1))) (hne : ds ≠ [])
    (k : ∀ h', St f ρ (some (x, ds.dropLast ++ [d])) h' → Exs f h' l Φ) (hk : f.env.scope.kind = .function := by rfl) (hx : (x == ("__debug__" : Str)) = false := by rfl) (hs : swapsWith e (some (.Subscript (.Name x xp) b sp)) pos.line f.env = pure false := by rfl) :
    Exs f h (.Assign [.Subscript (.Name x xp) b sp] e pos :: l) Φ :=
  Exs.cons (Ψ := fun fl h' => fl = .next ∧ St f ρ (some (x, ds.dropLast ++ [d])) h') (Ex.setLast S he hb hk hne (fun h2 S2 => ⟨rfl, S2⟩) hx hs) (fun h2 _ S2 => k h2 S2.2) (fun _ _ n x => absurd x.1 n)
/-- while, then the rest -/
theorem Exs.while {test : Expr} {body : List Stmt} (Inv : Nat → (Str → Option D) → Own → Prop) (n : Nat) (h0 : Inv n ρ own) (S : St f ρ own h)
    (turn : ∀ n ρ own h1, Inv n ρ own → St f ρ own h1 → ∃ b, Te f.cx h1 test b ∧
      (b = true → ∀ h2, St f ρ own h2 → Exs f h2 body (Body f (fun ρ' own' => ∃ m, m < n ∧ Inv m ρ' own') (fun fl h' => fl ≠ .next ∧ Φ fl h'))) ∧ (b = false → ∀ h2, St f ρ own h2 → Exs f h2 l Φ)) :
    Exs f h (.While test body [] pos :: l) Φ := by
  refine Exs.cons (Ψ := fun fl h' => (fl = .next ∧ Exs f h' l Φ) ∨ (fl ≠ .next ∧ Φ fl h')) (Ex.while Inv (fun n ρ own h1 hi S1 => ?_) n h0 S) (fun h2 _ x => ?_) (fun fl h2 n x => ?_)
  · obtain ⟨b, te, tt, ff⟩ := turn n ρ own h1 hi S1
    refine ⟨b, te, fun hb h2 S2 => (tt hb h2 S2).mono fun fl h3 p => ?_, fun hb h2 S2 => .inl ⟨rfl, ff hb h2 S2⟩⟩
    cases fl with
    | next => exact p
    | cont => exact p
    | brk => exact absurd rfl p.1
    | ret v => exact .inr p
  · rcases x with x | x
    · exact x.2
    · exact absurd rfl x.1
  · rcases x with x | x
    · exact absurd x.1 n
    · exact x.2
/-- for low, high in .., then the rest -/
theorem Exs.forPairs {x y : Str} {xp yp tp : Pos} {c : Nat} {iter : Expr} {body : List Stmt} (ps : List (D × D)) (hA : f.A.handled = none) (he : Ev f.cx h iter (.lst (ps.map fun p => .tup [p.1, p.2])))
    (Inv : Nat → (Str → Option D) → Own → Prop) (hox : ∀ i ρ own, Inv i ρ own → ∀ p, own = some p → p.1 ≠ x ∧ p.1 ≠ y)
    (hi : Inv 0 ρ own) (S : St f ρ own h)
    (turn : ∀ i ρ own h1 p, ps[i]? = some p → Inv i ρ own → St f (upd (upd ρ x p.1) y p.2) own h1 → Exs f h1 body (Body f (Inv (i + 1)) (fun fl h' => fl ≠ .next ∧ Φ fl h')))
    (done : ∀ ρ own h1, Inv ps.length ρ own → St f ρ own h1 → Exs f h1 l Φ)
    (hx : f.env.kindOf x = some .local := by rfl) (hy : f.env.kindOf y = some .local := by rfl) (hk : f.env.scope.kind = .function := by rfl)
    (hs : ∀ x, foldedSetIterable iter f.env x = pure x := by intro _; rfl) : Exs f h (.For (.Tuple [.Name x xp, .Name y yp] c tp) iter body [] pos :: l) Φ := by
  refine Exs.cons (Ψ := fun fl h' => (fl = .next ∧ Exs f h' l Φ) ∨ (fl ≠ .next ∧ Φ fl h')) (Ex.forPairs ps hA he Inv hx hy hk hox (fun i ρ own h1 p hp hi S1 => (turn i ρ own h1 p hp hi S1).mono fun fl h3 q => ?_) hi S (fun ρ own h1 hi S1 => .inl ⟨rfl, done ρ own h1 hi S1⟩) hs) (fun h2 _ x => ?_) (fun fl h2 n x => ?_)
  · cases fl with
    | next => exact q
    | cont => exact q
    | brk => exact absurd rfl q.1
    | ret v => exact .inr q
  · rcases x with x | x
    · exact x.2
    · exact absurd rfl x.1
  · rcases x with x | x
    · exact absurd x.1 n
    · exact x.2
theorem Exs.forRange {x rn : Str} {xp rp cp : Pos} {e : Expr} {body : List Stmt} {n : Nat} (hA : f.A.handled = none) (hr : Lv f.cx h rn (.type "range")) (he : Ev f.cx h e (.int n)) (hn : n < 2 ^ 60)
    (Inv : Nat → (Str → Option D) → Own → Prop) (hox : ∀ i ρ own, Inv i ρ own → ∀ p, own = some p → p.1 ≠ x) (hi : Inv 0 ρ own) (S : St f ρ own h)
    (turn : ∀ (i : Nat) ρ own h1, i < n → Inv i ρ own → St f (upd ρ x (.int i)) own h1 → Exs f h1 body (Body f (Inv (i + 1)) (fun fl h' => fl ≠ .next ∧ Φ fl h')))
    (done : ∀ ρ own h1, Inv n ρ own → St f ρ own h1 → Exs f h1 l Φ)
    (hx : f.env.kindOf x = some .local := by rfl) (hk : f.env.scope.kind = .function := by rfl)
    (hse : starEach (e :: []) f.env = (false, eval e f.env) :: starEach [] f.env := by rfl)
    (hs : ∀ x, foldedSetIterable (.Call (.Name rn rp) [e] [] cp) f.env x = pure x := by intro _; rfl) : Exs f h (.For (.Name x xp) (.Call (.Name rn rp) [e] [] cp) body [] pos :: l) Φ := by
  refine Exs.cons (Ψ := fun fl h' => (fl = .next ∧ Exs f h' l Φ) ∨ (fl ≠ .next ∧ Φ fl h')) (Ex.forRange hA hr he hn Inv hx hk hox (fun i ρ own h1 hp hi S1 => (turn i ρ own h1 hp hi S1).mono fun fl h3 q => ?_) hi S (fun ρ own h1 hi S1 => .inl ⟨rfl, done ρ own h1 hi S1⟩) hse hs) (fun h2 _ x => ?_) (fun fl h2 n x => ?_)
  · cases fl with
    | next => exact q
    | cont => exact q
    | brk => exact absurd rfl q.1
    | ret v => exact .inr q
  · rcases x with x | x
    · exact x.2
    · exact absurd rfl x.1
  · rcases x with x | x
    · exact absurd x.1 n
    · exact x.2
/-- if, then the rest: the two ways join in a state -/
theorem Exs.if {e : Expr} {t : Bool} {body orelse : List Stmt} (J : (Str → Option D) → Own → Prop) (ht : Te f.cx h e t) (ha : t = true → ∀ h', Ext h h' → Exs f h' body fun fl h2 => fl = .next ∧ ∃ ρ' own', J ρ' own' ∧ St f ρ' own' h2)
    (hb : t = false → ∀ h', Ext h h' → Exs f h' orelse fun fl h2 => fl = .next ∧ ∃ ρ' own', J ρ' own' ∧ St f ρ' own' h2) (k : ∀ ρ' own' h', J ρ' own' → St f ρ' own' h' → Exs f h' l Φ) : Exs f h (.If e body orelse pos :: l) Φ :=
  Exs.cons (Ψ := fun fl h2 => fl = .next ∧ ∃ ρ' own', J ρ' own' ∧ St f ρ' own' h2) (Ex.ite ht (fun h2 e2 q => ha q h2 e2) (fun h2 e2 q => hb q h2 e2)) (fun h2 _ x => let ⟨_, ρ', own', j, S⟩ := x; k ρ' own' h2 j S) (fun _ _ n x => absurd x.1 n)
/-- if with return within, no else -/
theorem Exs.ifRet {e : Expr} {t : Bool} {body orelse : List Stmt} (ht : Te f.cx h e t) (ha : t = true → ∀ h', Ext h h' → Exs f h' body fun fl h2 => fl ≠ .next ∧ Φ fl h2)
    (hb : t = false → ∀ h', Ext h h' → Exs f h' l Φ) : Exs f h (.If e body [] pos :: l) Φ := by
  refine Exs.cons (Ψ := fun fl h2 => (fl = .next ∧ t = false ∧ Ext h h2) ∨ (fl ≠ .next ∧ Φ fl h2)) (Ex.ite ht (fun h2 e2 q => (ha q h2 e2).mono fun fl h3 x => .inr x) (fun h2 e2 q => Exs.nil (.inl ⟨rfl, q, e2⟩))) (fun h2 _ x => ?_) (fun fl h2 n x => ?_)
  · rcases x with x | x
    · exact hb x.2.1 h2 x.2.2
    · exact absurd rfl x.1
  · rcases x with x | x
    · exact absurd x.1 n
    · exact x.2
theorem Exs.ret {e : Expr} {d : D} (he : Ev f.cx h e d) (k : ∀ v h', Ext h h' → R f.X h' v d → Φ (.ret v) h') : Exs f h (.Return (some e) pos :: l) Φ :=
  Exs.cons (Ψ := fun fl h' => fl ≠ .next ∧ Φ fl h') (Ex.ret he fun v h2 e2 r => ⟨(fun x => nomatch x), k v h2 e2 r⟩) (fun _ _ x => absurd rfl x.1) (fun _ _ _ x => x.2)
theorem Exs.retOwn {x : Str} {xp : Pos} {ds : List D} (S : St f ρ (some (x, ds)) h) (k : ∀ v, R f.X₀ h v (.lst ds) → Φ (.ret v) h) (hk : f.env.scope.kind = .function := by rfl) (hx : (x == ("__debug__" : Str)) = false := by rfl) :
    Exs f h (.Return (some (.Name x xp)) pos :: l) Φ :=
  Exs.cons (Ψ := fun fl h' => fl ≠ .next ∧ Φ fl h') (Ex.retOwn S hk hx fun v r => ⟨(fun x => nomatch x), k v r⟩) (fun _ _ x => absurd rfl x.1) (fun _ _ _ x => x.2)
end

/-! calls of the text's defs -/
noncomputable def FnAt (h : Heap) (a : Addr) (name : Str) (params : Arguments) (body : List Stmt) (scope : Scope) : Prop :=
  ∃ o pm doc c, h.get? a = some o ∧ o.data = .func (Calls.docDef name params body scope pm (.ref c) doc) ∧ h.CodeRec (.ref c) name
theorem FnAt.ext {h h' : Heap} {a : Addr} {name : Str} {params : Arguments} {body : List Stmt} {scope : Scope} (F : FnAt h a name params body scope) (e : Ext h h') : FnAt h' a name params body scope :=
  let ⟨o, pm, doc, c, h1, h2, h3⟩ := F; ⟨o, pm, doc, c, e _ _ h1, h2, h3.keeps e⟩

noncomputable def bindD : List Str → List D → (Str → Option D) → (Str → Option D)
  | p :: ps, d :: ds, ρ => bindD ps ds (upd ρ p d)
  | _, _, ρ => ρ

theorem vw_binds {X : Addr → Prop} {h : Heap} (kindOf : Str → Option NameKind) (cells : List (Str × Addr)) : ∀ (ps : List Str) (vs : List Value) (ds : List D) (m cm : Str → Option Value) (ρ : Str → Option D), RS X h vs ds →
    (∀ x ∈ ps.zip vs, kindOf x.1 = some .local ∨ (kindOf x.1 = some .cell ∧ (cells.lookup x.1).isSome = true)) →
    (∀ x d, ρ x = some d → (kindOf x = some .local ∧ ∃ v, m x = some v ∧ R X h v d) ∨ (kindOf x = some .cell ∧ ∃ a v, cells.lookup x = some a ∧ cm x = some v ∧ R X h v d)) →
    ∀ x d, bindD ps ds ρ x = some d → (kindOf x = some .local ∧ ∃ v, bindL kindOf (ps.zip vs) m x = some v ∧ R X h v d) ∨ (kindOf x = some .cell ∧ ∃ a v, cells.lookup x = some a ∧ bindC kindOf (ps.zip vs) cm x = some v ∧ R X h v d)
  | [], _, ds, m, cm, ρ, _, _, k, x, d, hx => by
    have e : bindD [] ds ρ = ρ := by cases ds <;> rfl
    rw [e] at hx
    simpa [bindL, bindC] using k x d hx
  | p :: ps, [], ds, m, cm, ρ, r, _, k, x, d, hx => by
    cases r
    have e : bindD (p :: ps) [] ρ = ρ := rfl
    rw [e] at hx
    simpa [bindL, bindC] using k x d hx
  | p :: ps, v :: vs, ds, m, cm, ρ, r, hk, k, x, d, hx => by
    cases r with
    | cons r1 r2 =>
      rename_i d1 ds
      refine vw_binds kindOf cells ps vs ds _ _ _ r2 (fun y hy => hk y (List.mem_cons_of_mem _ hy)) ?_ x d hx
      intro y dy hy
      unfold upd at hy
      rcases hk (p, v) List.mem_cons_self with hl | ⟨hl, hc⟩
      · rw [if_pos hl, if_pos hl]
        by_cases e : y = p
        · rw [if_pos e] at hy; cases hy
          exact .inl ⟨e ▸ hl, v, by rw [if_pos e], r1⟩
        · rw [if_neg e] at hy
          rcases k y dy hy with ⟨a, u, hu, ru⟩ | h9
          · exact .inl ⟨a, u, by rw [if_neg e]; exact hu, ru⟩
          · exact .inr h9
      · have hnl : ¬ kindOf p = some .local := by
          have hl' : kindOf p = some .cell := hl
          rw [hl']; decide
        rw [if_neg hnl, if_neg hnl]
        by_cases e : y = p
        · rw [if_pos e] at hy; cases hy
          obtain ⟨a, ha⟩ := Option.isSome_iff_exists.mp hc
          exact .inr ⟨e ▸ hl, a, v, e ▸ ha, by rw [if_pos e], r1⟩
        · rw [if_neg e] at hy
          rcases k y dy hy with h9 | ⟨a, b, u, hb, hu, ru⟩
          · exact .inl h9
          · exact .inr ⟨a, b, u, hb, by rw [if_neg e]; exact hu, ru⟩

/-- the environment of a call of a def of the text -/
noncomputable def dEnv (name : Str) (params : Arguments) (body : List Stmt) (scope : Scope) (pm doc : Value) (c L a : Addr) : Env := callEnvC (Calls.docDef name params body scope pm (.ref c) doc) L a

theorem callOk {prog : Program} {w : World} {A : Around} {E : Value → Shared → Prop} {Q : Value → Shared → Prop} {s : Shared} {X₀ : Addr → Prop} {a : Addr} {name : Str} {params : Arguments} {body : List Stmt} {scope : Scope} {vs : List Value} {ds : List D} {d : D}
    (F : FnAt s.heap a name params body scope) (hlim : s.heap.NoLimit) (hroom : A.depth < recursionLimit) (hX : Bd X₀ s.heap) (r : RS X₀ s.heap vs ds)
    (ps : List Str) (hbind : ∀ pm doc c, bindArgs (Calls.docDef name params body scope pm (.ref c) doc) ⟨vs, []⟩ = pure (ps.zip vs))
    (hkind : ∀ x ∈ ps.zip vs, scope.names.lookup x.1 = some .local ∨ (scope.names.lookup x.1 = some .cell ∧ ((cellsFrom (s.heap.objs.size + 1) scope.names []).lookup x.1).isSome = true))
    (hbody : ∀ pm doc c L h1, let env := dEnv name params body scope pm doc c L a
      let f : Fx := ⟨prog, w, A.deeper env, env, s.heap, X₀, fun b => b = L ∨ ∃ n, env.cells.lookup n = some b⟩
      s.heap.objs.size = L → St f (bindD ps ds fun _ => none) none h1 → Exs f h1 body fun fl h' => ∃ v, fl = .ret v ∧ R X₀ h' v d)
    (q : ∀ v h' tk, Ext s.heap h' → R X₀ h' v d → Q v { s with heap := h', toks := tk })
    (hco : scope.isCoroutine = false := by rfl) (hgen : scope.isGenerator = false := by rfl) (hk : scope.kind = .function := by rfl) :
    wpAny (model prog w) A (call (.ref a) vs) Q E s := by
  obtain ⟨o, pm, doc, c, ho, hd, hcd⟩ := F
  refine wpAny_call (codeAny_call_cells hroom ho hd hlim hcd rfl (hbind pm doc c) rfl hkind (fun s1 hin => ?_) hco hgen hk)
  obtain ⟨h1, t1, e1, k1⟩ := hin.done
  subst e1
  have hY0 : ∀ b, (b = s.heap.objs.size ∨ ∃ n, (dEnv name params body scope pm doc c s.heap.objs.size a).cells.lookup n = some b) → s.heap.get? b = none := by
    rintro b (rfl | ⟨n, hb⟩)
    · exact Heap.get?_none_of_le (Nat.le_refl _)
    · exact Heap.get?_none_of_le (Nat.le_of_lt (hin.above n b (mem_of_lookup hb)))
  have S1 : St ⟨prog, w, A.deeper (dEnv name params body scope pm doc c s.heap.objs.size a), dEnv name params body scope pm doc c s.heap.objs.size a, s.heap, X₀, fun b => b = s.heap.objs.size ∨ ∃ n, (dEnv name params body scope pm doc c s.heap.objs.size a).cells.lookup n = some b⟩ (bindD ps ds fun _ => none) none h1 := by
    refine ⟨_, _, hin.toInCall.ns, k1, hin.cell, hin.apart, fun n a h => Nat.ne_of_gt (hin.above n a (mem_of_lookup h)), .inl rfl, hY0, ?_, fun b hb hx => ?_, ?_, trivial⟩
    · rintro b (hb | rfl | ⟨n, hb⟩)
      · obtain ⟨o, ho⟩ := hX b hb; exact ⟨o, k1 _ _ ho⟩
      · exact ns_get hin.toInCall.ns
      · obtain ⟨o, ho, _⟩ := hin.cell n b hb; exact ⟨o, ho⟩
    · obtain ⟨o, ho⟩ := hX b hx
      rw [hY0 b hb] at ho; cases ho
    · refine vw_binds _ _ ps vs ds _ _ _ (r.mono fun b o hb ho => ⟨?_, k1 b o ho⟩) hkind (fun x d hx => by cases hx)
      rintro (hc | hc)
      · exact hb hc
      · rw [hY0 b hc] at ho; cases ho
  refine hbody pm doc c _ h1 rfl S1 _ _ _ rfl fun fl h' tk kp ⟨v, hv, rv⟩ => ?_
  subst hv
  exact q v h' tk (fun b o ho => kp b o (fun hy => by rw [hY0 b hy] at ho; cases ho) (k1 b o ho)) rv
end Mine
end

section
open PySem PyProof.Rows
namespace Mine
set_option autoImplicit false
set_option linter.unusedVariables false
set_option maxRecDepth 100000

/-! where the items of a loop come from -/
noncomputable def TgtOk (t : Expr) : Prop := (∃ x xp, t = .Name x xp) ∨ ∃ es c p, t = .Tuple es c p
structure SrcAt (c : Cx) (h0 : Heap) (I : Addr) (fp : List Addr) (n : Nat) (P : Nat → Value → Prop) (Sti : Nat → Heap → Prop) (dat : Nat → D) (h1 : Heap) : Prop where
  W : Walks c.prog c.w c.A I fp [I] n P Sti
  st : Sti 0 h1
  cls : ∀ i h, Sti i h → ∃ o, h.get? I = some o ∧ ItObj o
  nX : ∀ b ∈ fp, ¬ c.X b
  lt : ∀ b ∈ fp, b < h1.objs.size
  new : h0.get? I = none
  Im : I ∈ fp
  dat : ∀ i v, i < n → P i v → R c.X h1 v (dat i)
  lot : ∀ t i v (s : Shared) (Q : Unit → Shared → Prop) (E : Value → Shared → Prop), TgtOk t → P i v → Sti (i + 1) s.heap → Q () s → wpAny (model c.prog c.w) c.A (letOwnedTupleGo t (.ref I) v) Q E s
noncomputable def Src (c : Cx) (h : Heap) (iter : Expr) (n : Nat) (dat : Nat → D) : Prop :=
  ∀ (s : Shared) (Q : Value → Shared → Prop) (E : Value → Shared → Prop), Ext h s.heap →
    (∀ I fp P Sti h1 tk, Ext s.heap h1 → SrcAt c s.heap I fp n P Sti dat h1 → Q (.ref I) { s with heap := h1, toks := tk }) →
    wpAny (model c.prog c.w) c.A (eval iter c.env) (fun xv s1 => wpAny (model c.prog c.w) c.A (pyIter xv) Q E s1) E s

section
variable {c : Cx} {h : Heap} {iter e e2 : Expr}
theorem lot_list {prog : Program} {w : World} {A : Around} {t : Expr} {I l : Addr} {i : Nat} {v : Value} {s : Shared} {Q : Unit → Shared → Prop} {E : Value → Shared → Prop} (ht : TgtOk t) (hi : s.heap.IsListIter I l i) (q : Q () s) : wpAny (model prog w) A (letOwnedTupleGo t (.ref I) v) Q E s := by
  rcases ht with ⟨x, xp, rfl⟩ | ⟨es, c, p, rfl⟩
  · exact wpAny_pure q
  · cases v with
    | ref a => exact wpAny_letOwnedTupleGo_listiter hi q
    | _ => exact wpAny_pure q
theorem Src.list {ds : List D} (hb : Bd c.X h) (hA : c.A.handled = none) (he : Ev c h iter (.lst ds)) : Src c h iter ds.length (fun i => ds.getD i .none) := fun s Q E hx q => by
  refine he s _ _ hx fun v h1 t1 e1 r1 => ?_
  cases r1 with
  | lst hX hl rs =>
    rename_i a vs
    refine wpAny_pyIter_list hl ?_
    dsimp only
    have e2 : Ext h1 (h1.push { cls := .type "list_iterator", data := .fields #[.ref a, .int 0 0] }) := Ext.push _ _
    have hlt : a < h1.objs.size := by obtain ⟨_, e, _⟩ := hl; exact Heap.lt_size e
    have hs : vs.toArray.size = ds.length := by rw [List.size_toArray, rs.length]
    have W := Walks.list (prog := c.prog) (w := c.w) hA h1.objs.size a (Nat.ne_of_lt hlt) vs.toArray
    rw [hs] at W
    refine q h1.objs.size _ _ _ _ t1 (e1.trans e2) ⟨W, ⟨⟨_, Heap.get?_push_size _ rfl, rfl, rfl⟩, hl.push _⟩, ?_, ?_, ?_, ?_, by simp, ?_, ?_⟩
    · rintro i hh ⟨⟨o, ho, hc, hd⟩, _⟩
      refine ⟨o, ho, ?_, fun v e => by rw [hd] at e; cases e⟩
      rintro ⟨xs, n, e⟩; rw [hd] at e; cases e
    · intro b hm
      rcases List.mem_cons.mp hm with rfl | hm
      · exact ((hb.ext hx).ext e1).fresh
      · rw [List.mem_singleton.mp hm]; exact hX
    · intro b hm
      rw [Heap.size_push]
      rcases List.mem_cons.mp hm with rfl | hm
      · exact Nat.lt_succ_self _
      · rw [List.mem_singleton.mp hm]; exact Nat.lt_succ_of_lt hlt
    · cases e : s.heap.get? h1.objs.size with
      | none => rfl
      | some o => exact absurd (Heap.lt_size (e1 _ _ e)) (Nat.lt_irrefl _)
    · intro i v hi hv
      obtain ⟨d, hd, rd⟩ := rs.getV (by simpa using hv)
      rw [List.getD_eq_getElem?_getD, hd]
      exact rd.ext e2
    · rintro t i v s' Q' E' ht hv ⟨hst, _⟩ hq
      exact lot_list ht hst hq

theorem lot_range {prog : Program} {w : World} {A : Around} {t : Expr} {I : Addr} {i : Int} {tk : Tok} {s : Shared} {Q : Unit → Shared → Prop} {E : Value → Shared → Prop} (ht : TgtOk t) (q : Q () s) : wpAny (model prog w) A (letOwnedTupleGo t (.ref I) (.int i tk)) Q E s := by
  rcases ht with ⟨x, xp, rfl⟩ | ⟨es, c, p, rfl⟩ <;> exact wpAny_pure q

theorem src_range {s : Shared} {Q : Value → Shared → Prop} {E : Value → Shared → Prop} {H : Heap} {tk : Nat} {r : Addr} {a b : Int} {n : Nat} {t u v : Tok} (hb : Bd c.X H) (hA : c.A.handled = none) (hr : IsRange H r a b 1 t u v)
    (hn : b - a = n) (ha : -(2 ^ 60) ≤ a) (ha' : a < 2 ^ 60) (hb' : b < 2 ^ 60) (e0 : Ext s.heap H)
    (q : ∀ I fp P Sti h1 tk, Ext s.heap h1 → SrcAt c s.heap I fp n P Sti (fun i => .int (a + i)) h1 → Q (.ref I) { s with heap := h1, toks := tk }) :
    wpAny (model c.prog c.w) c.A (pyIter (.ref r)) Q E { s with heap := H, toks := tk } := by
  refine wpAny_pyIter_range hr (small_one (by grind) (by grind) (by lia) (by lia)) ?_
  dsimp only
  have e3 : Ext H (H.push { cls := .type "range_iterator", data := .fields #[rawInt a, rawInt (Builtin.Range.rangeSize a b 1), rawInt 1] }) := Ext.push _ _
  refine q H.objs.size _ _ _ _ tk (e0.trans e3) ⟨Walks.range hA H.objs.size a 1 n, ?_, ?_, ?_, ?_, ?_, by simp, ?_, ?_⟩
  · show IsRangeIter _ _ _ _ _
    have e : Builtin.Range.rangeSize a b 1 = (n : Int) := by rw [rangeSize_nat]; (first | exact Eq.symm (Nat.ToInt.of_eq rfl (congrArg NatCast.natCast (congrArg Int.toNat (id (Eq.symm hn)))) rfl) | lia)
    rw [e]
    simpa using Heap.get?_push_size _ rfl
  · intro i hh hst
    refine ⟨_, hst, ?_, fun v e => nomatch e⟩
    rintro ⟨xs, n, e⟩; cases e
  · intro b hm
    rw [List.mem_singleton.mp hm]; exact hb.fresh
  · intro b hm
    rw [List.mem_singleton.mp hm, Heap.size_push]; exact Nat.lt_succ_self _
  · cases e : s.heap.get? H.objs.size with
    | none => rfl
    | some o => exact absurd (Heap.lt_size (e0 _ _ e)) (Nat.lt_irrefl _)
  · rintro i v hi ⟨t, rfl⟩
    have e : a + (i : Int) * 1 = a + (i : Int) := by lia
    rw [e]; exact .int _ _
  · rintro t i v s' Q' E' ht ⟨tk', rfl⟩ hst hq
    exact lot_range ht hq
theorem Src.range {rn : Str} {rp cp : Pos} {n : Nat} (hb : Bd c.X h) (hA : c.A.handled = none) (hr : Lv c h rn (.type "range")) (he : Ev c h e (.int n)) (hn : n < 2 ^ 60)
    (hse : starEach (e :: []) c.env = (false, eval e c.env) :: starEach [] c.env := by rfl) : Src c h (.Call (.Name rn rp) [e] [] cp) n (fun i => .int i) := fun s Q E hx q => by
  refine Call_ (hr s _ _ _ hx (callWith_type1 (args_cons (he s _ _ hx fun v h1 t1 e1 r1 => args_nil ?_) hse) hse rfl))
  cases r1
  refine call_range_1 ?_
  dsimp only
  rename_i tn
  have e2 : Ext h1 (h1.push { cls := .type "range", data := .fields #[.int 0 t1, .int n tn, .int 1 (t1 + 1)] }) := Ext.push _ _
  refine src_range (c := c) (s := s) (H := h1.push { cls := .type "range", data := .fields #[.int 0 t1, .int n tn, .int 1 (t1 + 1)] }) (((hb.ext hx).ext e1).ext e2) hA (t := t1) (u := tn) (v := t1 + 1) (Heap.get?_push_size _ rfl) (show (n : Int) - 0 = n by (first | exact Int.sub_zero ↑n | lia)) (by decide) (by decide) (by (first | exact Int.lt_toNat.mp hn | lia)) (e1.trans e2) ?_
  simpa using q
theorem Src.range2 {rn : Str} {rp cp : Pos} {a b : Int} {n : Nat} (hb : Bd c.X h) (hA : c.A.handled = none) (hr : Lv c h rn (.type "range")) (he : Ev c h e (.int a)) (he2 : Ev c h e2 (.int b)) (hn : b - a = n) (ha : -(2 ^ 60) ≤ a) (ha' : a < 2 ^ 60) (hb' : b < 2 ^ 60)
    (hse : starEach (e :: [e2]) c.env = (false, eval e c.env) :: starEach [e2] c.env := by rfl) (hse2 : starEach (e2 :: []) c.env = (false, eval e2 c.env) :: starEach [] c.env := by rfl) (hp : ∀ p, (backTo p (starEach [e2] c.env)).any (·.1) = false := by intro _; rfl) :
    Src c h (.Call (.Name rn rp) [e, e2] [] cp) n (fun i => .int (a + i)) := fun s Q E hx q => by
  refine Call_ (hr s _ _ _ hx (callWith_type1 (args_cons (he s _ _ hx fun v h1 t1 e1 r1 => args_cons (he2 _ _ _ (hx.trans e1) fun v2 h2 t2 e2 r2 => args_nil ?_) hse2) hse) hse (hp _)))
  cases r1
  cases r2
  rename_i ta tb
  refine call_range_2 ?_
  dsimp only
  have e3 : Ext h2 (h2.push { cls := .type "range", data := .fields #[.int a ta, .int b tb, .int 1 t2] }) := Ext.push _ _
  exact src_range (c := c) (s := s) (H := h2.push { cls := .type "range", data := .fields #[.int a ta, .int b tb, .int 1 t2] }) ((((hb.ext hx).ext e1).ext e2).ext e3) hA (t := ta) (u := tb) (v := t2) (Heap.get?_push_size _ rfl) hn ha ha' hb' ((e1.trans e2).trans e3) q
end
end Mine
end

section
open PySem PyProof.Rows
namespace Mine
set_option autoImplicit false
set_option linter.unusedVariables false
set_option maxRecDepth 100000

/-- the environment of a comprehension -/
noncomputable def cEnv (scope : Scope) (cl : List (Str × Addr)) (C : Addr) (env : Env) : Env :=
  { scope := relabel scope env, locals := C, globals := env.globals, cells := cellsFrom (C + 1) scope.names cl, qual := env.qual, func := none, code := env.code, frame := env.frame, builtins := env.builtins }

structure CellsX (h : Heap) (lo : Nat) (cl cs : List (Str × Addr)) : Prop where
  mem : ∀ p ∈ cs, p ∈ cl ∨ (lo ≤ p.2 ∧ h.IsCell p.2 none)
  lt : ∀ p ∈ cs, p.2 < h.objs.size
  apart : cs.Pairwise fun x y => x.2 ≠ y.2
theorem cellsX : ∀ (names : List (Str × NameKind)) (h : Heap) (lo : Nat) (cl acc : List (Str × Addr)), CellsX h lo cl acc → lo ≤ h.objs.size → CellsX (pushCells h names) lo cl (cellsFrom h.objs.size names acc)
  | [], _, _, _, _, x, _ => x
  | (name, kind) :: r, h, lo, cl, acc, x, hlo => by
    unfold pushCells cellsFrom
    split
    · have := cellsX r (h.push { cls := .type "cell", data := .cell none }) lo cl ((name, h.objs.size) :: acc)
        ⟨fun p hp => by
            rcases List.mem_cons.mp hp with e | hp
            · subst e; exact .inr ⟨hlo, _, Heap.get?_push_size _ rfl, rfl⟩
            · rcases x.mem p hp with h1 | ⟨h1, h2⟩
              · exact .inl h1
              · exact .inr ⟨h1, h2.keeps fun b o e => Heap.get?_push_of_some _ e⟩,
          fun p hp => by
            rw [Heap.size_push]
            rcases List.mem_cons.mp hp with e | hp
            · subst e; exact Nat.lt_succ_self _
            · exact Nat.lt_succ_of_lt (x.lt p hp),
          List.pairwise_cons.mpr ⟨fun y hy e => by
            have hlt := x.lt y hy
            have e' : h.objs.size = y.2 := e
            exact Nat.lt_irrefl _ (e' ▸ hlt), x.apart⟩⟩ (by rw [Heap.size_push]; (first | exact Nat.le_add_right_of_le hlo | lia))
      rwa [Heap.size_push] at this
    · exact cellsX r h lo cl acc x hlo

theorem newEnv_comp {M : Model} {A : Around} {E : Value → Shared → Prop} {s : Shared} {scope : Scope} {globals : Addr} {cl : List (Str × Addr)} {qual : Str} {env : Env} {Q : Env → Shared → Prop}
    (h : Q { scope := scope, locals := s.heap.objs.size, globals := globals, cells := cellsFrom (s.heap.objs.size + 1) scope.names cl, qual := qual, func := none, code := env.code, frame := env.frame, builtins := env.builtins }
      { s with heap := pushCells (s.heap.push { cls := .type "dict", data := .dict #[] }) scope.names }) :
    wpAny M A (newFunctionEnv scope globals cl [] qual none .none (some env)) Q E s := by
  simp only [newFunctionEnv, Option.isSome_some, if_true]
  refine wpAny_bind (wpAny_alloc ?_)
  refine wpAny_bind (wpAny_layCells _ (fun name kind cells => by cases hkc : kind == NameKind.cell <;> simp) _ _ _ _ ?_)
  rw [show ({ s with heap := s.heap.push { cls := .type "dict", data := .dict #[] } } : Shared).heap.objs.size = s.heap.objs.size + 1 from Heap.size_push ..]
  exact wpAny_bind (wpAny_pure (wpAny_pure h))

/-- the frame of a comprehension: C its names, D the list that it fills -/
noncomputable def cf (f : Fx) (scope : Scope) (cl : List (Str × Addr)) (C D : Addr) (h₀ : Heap) : Fx :=
  ⟨f.prog, f.w, f.A, cEnv scope cl C f.env, h₀, fun b => f.X b ∨ b = D, fun b => b = C ∨ ((∃ n, (cEnv scope cl C f.env).cells.lookup n = some b) ∧ C < b)⟩

/-- the tests of a comprehension -/
noncomputable def Ts (c : Cx) (h : Heap) (ifs : List Expr) (b : Bool) : Prop :=
  ∀ (s : Shared) (Q : Bool → Shared → Prop) (E : Value → Shared → Prop), Ext h s.heap → (∀ h' tk, Ext s.heap h' → Q b { s with heap := h', toks := tk }) →
    wpAny (model c.prog c.w) c.A (forIn ifs true fun e r => if r = true then do let ok ← isTrue e c.env (eval e c.env); pure (ForInStep.yield ok) else pure (ForInStep.yield r)) Q E s
theorem Ts.nil {c : Cx} {h : Heap} : Ts c h [] true := fun s Q E e q => by
  rw [List.forIn_nil]; exact wpAny_pure (q s.heap s.toks (Ext.refl _))
theorem Ts.one {c : Cx} {h : Heap} {e : Expr} {b : Bool} (t : Te c h e b) : Ts c h [e] b := fun s Q E hx q => by
  rw [List.forIn_cons]
  refine wpAny_bind ?_
  simp only [if_true]
  refine wpAny_bind (t s _ _ hx fun h1 t1 e1 => wpAny_pure ?_)
  simp only [List.forIn_nil]
  exact wpAny_pure (q h1 t1 e1)

section
variable {prog : Program} {w : World} {A : Around} {s : Shared} {R' : Result → Shared → Prop}
theorem compLoop_tests {elt target iter : Expr} {ifs : List Expr} {scope : Scope} {pos : Pos} {it acc : Value} {env : Env} (I : Nat → Shared → Prop)
    (turn : ∀ n s, I n s → wpAny (model prog w) A (pyNext it) (fun r s₁ => match r with
      | none => R' (.ok .next) s₁
      | some v => wpAny (model prog w) A (letOwnedTupleGo target it v) (fun _ s₁' => wpAny (model prog w) A (assign target env v) (fun _ s₂ =>
          wpAny (model prog w) A (forIn ifs true fun c r => if r = true then do let ok ← isTrue c env (eval c env); pure (ForInStep.yield ok) else pure (ForInStep.yield r)) (fun ok s₃ =>
            if ok = true then wpAny (model prog w) A (eval elt env) (fun x s₄ =>
              wpAny (model prog w) A (call (.builtin "list.append") [acc, x]) (fun _ s₅ => ∃ m, m < n ∧ I m s₅) (notedBy (model prog w) A env fun e s' => R' (.error e) s') s₄) (notedBy (model prog w) A env fun e s' => R' (.error e) s') s₃
            else ∃ m, m < n ∧ I m s₃) (notedBy (model prog w) A env fun e s' => R' (.error e) s') s₂) (notedBy (model prog w) A env fun e s' => R' (.error e) s') s₁') (notedBy (model prog w) A env fun e s' => R' (.error e) s') s₁) (notedBy (model prog w) A env fun e s' => R' (.error e) s') s)
    (n : Nat) (h : I n s) :
    codeAny (model prog w) A (.compLoop (.ListComp elt [⟨target, iter, ifs, 0⟩] scope pos) 0 it acc env) R' s := by
  refine codeAny_loop rfl I (fun n s hI => ?_) n h
  show wpAny _ A ((compTurn (.ListComp elt [⟨target, iter, ifs, 0⟩] scope pos) 0 it acc env).onRaise (fun x => do noteFrame x env; theTreesLotGoes x)) _ _ s
  refine wpAny_noted ?_
  rw [compTurn_list]
  refine wpAny_bind (wpAny_standAt (wpAny_bind (wpAny_mono (turn n s hI) (fun r s₁ h₁ => ?_) fun _ _ h' => h')))
  cases r with
  | none => exact wpAny_pure h₁
  | some v =>
    refine wpAny_bind (wpAny_mono h₁ (fun _ s₁' h₁' => ?_) fun _ _ h' => h')
    refine wpAny_bind (wpAny_mono h₁' (fun _ s₂ h₂ => wpAny_bind (wpAny_mono h₂ (fun ok s₃ h₃ => ?_) fun _ _ h' => h')) fun _ _ h' => h')
    cases ok with
    | false => exact wpAny_pure ⟨rfl, h₃⟩
    | true =>
      exact wpAny_bind (wpAny_bind (wpAny_mono h₃ (fun x s₄ h₄ => wpAny_bind (wpAny_mono h₄ (fun _ s₅ h₅ => wpAny_pure (wpAny_pure ⟨rfl, h₅⟩)) fun _ _ h' => h')) fun _ _ h' => h'))
end

/-- what a comprehension makes of its first i items -/
noncomputable def made (keep : Nat → Bool) (g : Nat → D) (i : Nat) : List D := ((List.range i).filter keep).map g
theorem made_succ (keep : Nat → Bool) (g : Nat → D) (i : Nat) : made keep g (i + 1) = made keep g i ++ (if keep i = true then [g i] else []) := by
  unfold made
  rw [List.range_succ, List.filter_append, List.map_append]
  by_cases h : keep i = true <;> simp [h]
theorem made_le (keep : Nat → Bool) (g : Nat → D) (i : Nat) : (made keep g i).length ≤ i := by
  unfold made
  rw [List.length_map]
  exact Nat.le_trans (List.length_filter_le _ _) (by simp)

section
variable {f : Fx} {scope : Scope} {cl : List (Str × Addr)} {C D' : Addr} {h₀ : Heap}
/-- the list that is filled, pushed to -/
theorem St.pushD {ρ : Str → Option D} {h h' : Heap} (S : St (cf f scope cl C D' h₀) ρ none h) (hCD : D' ≠ C) (hc : ∀ n, (cEnv scope cl C f.env).cells.lookup n ≠ some D') (h0 : h₀.get? D' = none)
    (k : ∀ b o, b ≠ D' → h.get? b = some o → h'.get? b = some o) (hD : ∃ o, h'.get? D' = some o) : St (cf f scope cl C D' h₀) ρ none h' := by
  obtain ⟨m, cm, S⟩ := S
  have rr : ∀ {v d}, R (cf f scope cl C D' h₀).X h v d → R (cf f scope cl C D' h₀).X h' v d := fun r => r.mono fun b o hb ho => ⟨hb, k b o (fun e => hb (.inl (.inr e))) ho⟩
  refine ⟨m, cm, S.ns.at' fun o ho => k _ o (Ne.symm hCD) ho, fun b o ho => k b o (fun e => ?_) (S.keep b o ho), fun n a hn => ?_, S.apart, S.Lc, S.YL, S.Y0, bd_kp S.bd k hD, S.dj, fun x d hx => ?_, trivial⟩
  · subst e
    have : h₀.get? b = some o := ho
    rw [h0] at this; cases this
  · obtain ⟨o, ho, hd⟩ := S.cell n a hn
    exact ⟨o, k _ o (fun e => hc n (e ▸ hn)) ho, hd⟩
  · rcases S.vw x d hx with ⟨kx, v, hv, r⟩ | ⟨kx, a, v, ha, hv, r⟩
    · exact .inl ⟨kx, v, hv, rr r⟩
    · exact .inr ⟨kx, a, v, ha, hv, rr r⟩

theorem compCore {elt target iter : Expr} {ifs : List Expr} {pos : Pos} {I : Addr} {fp : List Addr} {n : Nat} {P : Nat → Value → Prop} {Sti : Nat → Heap → Prop} {dat : Nat → D} {R' : Result → Shared → Prop} {s : Shared} {hb : Heap} {ρ : Str → Option D}
    (sr : SrcAt f.cx h₀ I fp n P Sti dat hb) (eb : Ext hb s.heap) (hYb : ∀ b, (cf f scope cl C D' h₀).Y b → hb.objs.size ≤ b) (hDb : hb.objs.size ≤ D') (hYD : ¬ (cf f scope cl C D' h₀).Y D')
    (hCD : D' ≠ C) (hc : ∀ n, (cEnv scope cl C f.env).cells.lookup n ≠ some D') (h0D : h₀.get? D' = none)
    (hD : s.heap.PlainList D' #[]) (hn : n ≤ 100000) (bind : Nat → (Str → Option D) → (Str → Option D)) (Inv : (Str → Option D) → Prop) (hi : Inv ρ) (hinv : ∀ i ρ, i < n → Inv ρ → Inv (bind i ρ)) (ht : TgtOk target)
    (keep : Nat → Bool) (g : Nat → D) (S : St (cf f scope cl C D' h₀) ρ none s.heap)
    (tg : ∀ i ρ, i < n → Inv ρ → Tg (cf f scope cl C D' h₀) target (dat i) (bind i) none)
    (turn : ∀ i ρ h, i < n → Inv ρ → St (cf f scope cl C D' h₀) (bind i ρ) none h → Ts (cf f scope cl C D' h₀).cx h ifs (keep i) ∧ (keep i = true → Ev (cf f scope cl C D' h₀).cx h elt (g i)))
    (hR : ∀ h' tk ρ vs, St (cf f scope cl C D' h₀) ρ none h' → h'.PlainList D' (List.toArray vs) → RS (cf f scope cl C D' h₀).X h' vs (made keep g n) → (∀ b o, ¬ (cf f scope cl C D' h₀).Y b → b ≠ I → b ≠ D' → s.heap.get? b = some o → h'.get? b = some o) → R' (.ok .next) { s with heap := h', toks := tk }) :
    codeAny (model f.prog f.w) f.A (.compLoop (.ListComp elt [⟨target, iter, ifs, 0⟩] scope pos) 0 (.ref I) (.ref D') (cEnv scope cl C f.env)) R' s := by
  have hfY : ∀ b ∈ fp, ¬ (cf f scope cl C D' h₀).Y b := fun b hb hy => Nat.not_le_of_lt (sr.lt b hb) (hYb b hy)
  have hYI : ¬ (cf f scope cl C D' h₀).Y I := hfY I sr.Im
  have hDf : ∀ b ∈ fp, b ≠ D' := fun b hb e => Nat.not_le_of_lt (sr.lt b hb) (e ▸ hDb)
  have hXI : ¬ (cf f scope cl C D' h₀).X I := fun hx => hx.elim (fun hx => hx.elim (sr.nX I sr.Im) (hDf I sr.Im)) hYI
  have hI0 := sr.new
  have st0 : Sti 0 s.heap := sr.W.frame _ _ _ sr.st fun b _ o e => eb b o e
  have hsI : ∀ o, s.heap.get? I = some o → ItObj o := by
    obtain ⟨o2, ho2, hn2⟩ := sr.cls 0 s.heap st0
    intro o ho; rw [ho2] at ho; cases ho; exact hn2
  refine compLoop_tests (fun k s' => ∃ h' tk i ρ' vs, s' = { s with heap := h', toks := tk } ∧ i ≤ n ∧ k = n + 1 - i ∧ Inv ρ' ∧ St (cf f scope cl C D' h₀) ρ' none h' ∧ Sti i h' ∧ h'.PlainList D' (List.toArray vs) ∧ RS (cf f scope cl C D' h₀).X h' vs (made keep g i) ∧
      (∀ b o, ¬ (cf f scope cl C D' h₀).Y b → b ≠ I → b ≠ D' → s.heap.get? b = some o → h'.get? b = some o)) ?_ (n + 1)
    ⟨s.heap, s.toks, 0, ρ, [], rfl, Nat.zero_le _, rfl, hi, S, st0, hD, .nil, fun _ _ _ _ _ e => e⟩
  rintro k s' ⟨h1, t1, i, ρ1, vs, rfl, hin, rfl, hi1, S1, st1, pl1, rs1, k1⟩
  obtain ⟨oI, hoI, hnI⟩ := sr.cls i h1 st1
  have hI1 : ∀ o, h1.get? I = some o → ItObj o := fun o ho => by rw [hoI] at ho; cases ho; exact hnI
  have hDI : D' ≠ I := fun e => hDf I sr.Im e.symm
  by_cases hlt : i < n
  · refine sr.W.item i _ _ _ hlt st1 fun v h2 t2 hPv st2 hk2 => ?_
    have k2' : ∀ b o, b ≠ I → h1.get? b = some o → h2.get? b = some o := fun b o hb e => hk2 b o (fun hm => hb (List.mem_singleton.mp hm)) e
    have S2 : St (cf f scope cl C D' h₀) ρ1 none h2 := S1.turn hI1 hXI hI0 k2'
    have k2 : ∀ b o, ¬ (cf f scope cl C D' h₀).Y b → b ≠ I → b ≠ D' → s.heap.get? b = some o → h2.get? b = some o := fun b o hy hb hD' e => k2' b o hb (k1 b o hy hb hD' e)
    have pl2 : h2.PlainList D' (List.toArray vs) := pl1.at fun o ho => k2' _ o hDI ho
    have rs2 : RS (cf f scope cl C D' h₀).X h2 vs (made keep g i) := rs1.monoC fun b o hb ho hs => ⟨hb, k2' b o (fun e => by subst e; exact (hI1 o ho).1 hs) ho⟩
    have r2 : R (cf f scope cl C D' h₀).X h2 v (dat i) := (sr.dat i v hlt hPv).monoC fun b o hb' ho hs => by
      have hbI : b ≠ I := fun e => by subst e; exact (hsI o (eb _ _ ho)).1 hs
      have hnY : ¬ (cf f scope cl C D' h₀).Y b := fun hy => Nat.not_le_of_lt (Heap.lt_size ho) (hYb b hy)
      exact ⟨fun hx => hx.elim (fun hx => hx.elim hb' (fun e => Nat.not_le_of_lt (Heap.lt_size ho) (e ▸ hDb))) hnY, k2 b o hnY hbI (fun e => Nat.not_le_of_lt (Heap.lt_size ho) (e ▸ hDb)) (eb _ _ ho)⟩
    refine sr.lot _ i v _ _ _ ht hPv st2 ?_
    refine tg i ρ1 hlt hi1 ρ1 v _ _ _ S2 r2 fun h3 t3 k3 S3 => ?_
    obtain ⟨ts, ev⟩ := turn i ρ1 h3 hlt hi1 S3
    have st3 : Sti (i + 1) h3 := sr.W.frame _ _ _ st2 fun b hb o ho => k3 b o (hfY b hb) ho
    have rs3 : RS (cf f scope cl C D' h₀).X h3 vs (made keep g i) := rs2.mono fun b o hb ho => ⟨hb, k3 b o (fun hy => hb (.inr hy)) ho⟩
    have pl3 : h3.PlainList D' (List.toArray vs) := pl2.at fun o ho => k3 _ o hYD ho
    refine ts _ _ _ (Ext.refl _) fun h4 t4 e4 => ?_
    have k4 : ∀ b o, ¬ (cf f scope cl C D' h₀).Y b → b ≠ I → b ≠ D' → s.heap.get? b = some o → h4.get? b = some o := fun b o hy hb hD' e => e4 _ _ (k3 b o hy (k2 b o hy hb hD' e))
    have st4 : Sti (i + 1) h4 := sr.W.frame _ _ _ st3 fun b hb o ho => e4 b o ho
    have e9 := made_succ keep g i
    cases hkp : keep i with
    | false =>
      rw [hkp] at e9
      simp only [Bool.false_eq_true, if_false, List.append_nil] at e9 ⊢
      exact ⟨n + 1 - (i + 1), by grind, h4, t4, i + 1, _, vs, rfl, hlt, rfl, hinv i ρ1 hlt hi1, S3.ext e4, st4, Heap.PlainList.at pl3 fun o ho => e4 _ o ho, e9 ▸ rs3.ext e4, k4⟩
    | true =>
      rw [hkp] at e9
      simp only [if_true] at e9 ⊢
      refine ev hkp _ _ _ e4 fun y h5 t5 e5 r5 => ?_
      have rs5 := (rs3.ext e4).ext e5
      refine wpAny_list_append_plain (hsz := by rw [List.size_toArray, rs3.length, sizeLine_eq]; have := made_le keep g i; lia) (Heap.PlainList.at pl3 fun o ho => e5 _ o (e4 _ o ho)) fun h6 hp6 hs6 => ?_
      have hp6' : h6.PlainList D' (List.toArray (vs ++ [y])) := by simpa using hp6
      have k6 : ∀ b o, b ≠ D' → h5.get? b = some o → h6.get? b = some o := fun b o hb e => hs6.extBut b o hb e
      refine ⟨n + 1 - (i + 1), by grind, h6, t5, i + 1, _, vs ++ [y], rfl, hlt, rfl, hinv i ρ1 hlt hi1, ((S3.ext e4).ext e5).pushD hCD hc h0D k6 (let ⟨_, e⟩ := hp6; ⟨_, e⟩), ?_, hp6', ?_, ?_⟩
      · exact sr.W.frame _ _ _ st4 fun b hb o ho => k6 b o (fun e => hDf b hb e) (e5 b o ho)
      · rw [e9]
        exact (rs5.append (.cons r5 .nil)).mono fun b o hb ho => ⟨hb, k6 b o (fun e => hb (.inl (.inr e))) ho⟩
      · exact fun b o hy hb hD' e => k6 b o hD' (e5 _ _ (k4 b o hy hb hD' e))
  · have e : i = n := by lia
    subst e
    refine sr.W.done _ _ _ st1 fun h2 t2 hk2 => ?_
    have k2' : ∀ b o, b ≠ I → h1.get? b = some o → h2.get? b = some o := fun b o hb e => hk2 b o (fun hm => hb (List.mem_singleton.mp hm)) e
    have S2 : St (cf f scope cl C D' h₀) ρ1 none h2 := S1.turn hI1 hXI hI0 k2'
    exact hR h2 t2 ρ1 vs S2 (pl1.at fun o ho => k2' _ o hDI ho) (rs1.monoC fun b o hb ho hs => ⟨hb, k2' b o (fun e => by subst e; exact (hI1 o ho).1 hs) ho⟩) fun b o hy hb hD' e => k2' b o hb (k1 b o hy hb hD' e)
end

noncomputable def capt (caps : List Str) (ρ : Str → Option D) : Str → Option D := fun x => if x ∈ caps then ρ x else none
noncomputable def cellAt (h : Heap) (a : Addr) : Option Value := match h.get? a with
  | some ⟨_, _, .cell v, _⟩ => v
  | _ => none
theorem cellAt_of {h : Heap} {a : Addr} {v : Option Value} (x : h.IsCell a v) : cellAt h a = v := by
  obtain ⟨⟨c, d, data, sl⟩, ho, hd⟩ := x
  simp only at hd
  subst hd
  unfold cellAt
  rw [ho]

section
variable {f : Fx} {ρ : Str → Option D} {own : Own} {h : Heap}
/-- the comprehension's block, from the iterable on -/
theorem compBlock {elt target iter : Expr} {ifs : List Expr} {scope : Scope} {pos : Pos} {cl : List (Str × Addr)} {n : Nat} {dat : Nat → D} {s : Shared} {E : Value → Shared → Prop} {RR : Value → Addr → Result → Shared → Prop}
    (S : St f ρ own s.heap) (hclm : ∀ p ∈ cl, f.env.cells.lookup p.1 = some p.2) (hcln : (cl.map (·.1)).Nodup)
    (sr : Src f.cx s.heap iter n dat) (hn : n ≤ 100000) (caps : List Str) (hcap : ∀ C : Addr, ∀ x ∈ caps, f.env.kindOf x = some .cell ∧ (cEnv scope cl C f.env).kindOf x = some .cell ∧ (cEnv scope cl C f.env).cells.lookup x = f.env.cells.lookup x)
    (bind : Nat → (Str → Option D) → (Str → Option D)) (Inv : (Str → Option D) → Prop) (hi : Inv (capt caps ρ)) (hinv : ∀ i ρ, i < n → Inv ρ → Inv (bind i ρ)) (ht : TgtOk target) (keep : Nat → Bool) (g : Nat → D)
    (tg : ∀ C D' h₀ i ρ, i < n → Inv ρ → Tg (cf f scope cl C D' h₀) target (dat i) (bind i) none)
    (turn : ∀ C D' h₀ i ρ h, i < n → Inv ρ → Ext s.heap h → Bd (cf f scope cl C D' h₀).X h → St (cf f scope cl C D' h₀) (bind i ρ) none h → Ts (cf f scope cl C D' h₀).cx h ifs (keep i) ∧ (keep i = true → Ev (cf f scope cl C D' h₀).cx h elt (g i)))
    (hRR : ∀ C D' h' tk, (∃ m, h'.Ns C m) → s.heap.get? C = none → s.heap.get? D' = none → D' ≠ C → ¬ f.X C → Ext s.heap h' → R f.X h' (.ref D') (.lst (made keep g n)) → RR (.ref D') C (.ok .next) { s with heap := h', toks := tk }) :
    wpAny (model f.prog f.w) f.A (eval iter f.env) (fun xv s1 => wpAny (model f.prog f.w) f.A (pyIter xv) (fun it s2 => wpAny (model f.prog f.w) f.A (newList []) (fun acc s3 =>
      wpAny (model f.prog f.w) f.A (newFunctionEnv scope f.env.globals cl [] f.env.qual none .none (some f.env)) (fun cenv s4 =>
        codeAny (model f.prog f.w) f.A (.compStart (.ListComp elt [⟨target, iter, ifs, 0⟩] scope pos) 0 it acc { cenv with scope := relabel scope f.env }) (RR acc cenv.locals) s4) E s3) E s2) E s1) E s := by
  refine sr s _ _ (Ext.refl _) fun I fp P Sti h1 t1 e1 sa => ?_
  refine wpAny_newList ?_ (Nat.zero_le _)
  dsimp only
  refine newEnv_comp ?_
  dsimp only
  generalize hH2 : h1.push { cls := .type "list", dict := none, data := .seq ([] : List Value).toArray } = H2
  generalize hH3 : H2.push { cls := .type "dict", data := .dict #[] } = H3
  have z2 : H2.objs.size = h1.objs.size + 1 := by rw [← hH2, Heap.size_push]
  have z3 : H3.objs.size = H2.objs.size + 1 := by rw [← hH3, Heap.size_push]
  have hCge : h1.objs.size ≤ H2.objs.size := by rw [z2]; exact Nat.le_succ _
  have hDC : h1.objs.size ≠ H2.objs.size := by rw [z2]; exact Nat.ne_of_lt (Nat.lt_succ_self _)
  have hC3 : H2.objs.size < H3.objs.size := by rw [z3]; exact Nat.lt_succ_self _
  have e2 : Ext h1 H2 := hH2 ▸ Ext.push _ _
  have e3 : Ext H2 H3 := hH3 ▸ Ext.push _ _
  have e4 : Ext H3 (pushCells H3 scope.names) := pushCells_keeps _ _
  have eb : Ext h1 (pushCells H3 scope.names) := (e2.trans e3).trans e4
  have ea : Ext s.heap (pushCells H3 scope.names) := e1.trans eb
  obtain ⟨m, cm, Sm0⟩ := S
  -- the cells
  have hcl1 : ∀ p ∈ cl, ∃ v, s.heap.IsCell p.2 v := fun p hp => ⟨_, Sm0.cell p.1 p.2 (hclm p hp)⟩
  have hcla : cl.Pairwise fun x y => x.2 ≠ y.2 := by
    rw [List.pairwise_iff_getElem]
    intro i j hi hj hij he
    have h1 := hclm _ (List.getElem_mem hi)
    have h2 := hclm _ (List.getElem_mem hj)
    have h3 := name_of_addr Sm0.apart (mem_of_lookup h1) (he ▸ mem_of_lookup h2)
    have h4 := List.pairwise_iff_getElem.mp hcln i j (by simpa using hi) (by simpa using hj) hij
    simp only [List.getElem_map] at h4
    exact h4 h3
  have old : ∀ b o, s.heap.get? b = some o → b < h1.objs.size := fun b o e => Heap.lt_size (e1 b o e)
  have cx : CellsX (pushCells H3 scope.names) H3.objs.size cl (cellsFrom H3.objs.size scope.names cl) := by
    refine cellsX scope.names H3 H3.objs.size cl cl ⟨fun p hp => .inl hp, fun p hp => ?_, hcla⟩ (Nat.le_refl _)
    obtain ⟨v, o, ho, _⟩ := hcl1 p hp
    exact Nat.lt_of_lt_of_le (Nat.lt_of_lt_of_le (old _ _ ho) hCge) (Nat.le_of_lt hC3)
  have hce : (cEnv scope cl H2.objs.size f.env).cells = cellsFrom H3.objs.size scope.names cl := by show cellsFrom (H2.objs.size + 1) _ _ = _; rw [← z3]
  have fresh : ∀ b, h1.objs.size ≤ b → s.heap.get? b = none := fun b hb => by
    cases e : s.heap.get? b with
    | none => rfl
    | some o => exact absurd (old _ _ e) (Nat.not_lt.mpr hb)
  have hYb : ∀ b, (cf f scope cl H2.objs.size h1.objs.size s.heap).Y b → h1.objs.size ≤ b := by
    rintro b (rfl | ⟨_, hlt⟩)
    · exact hCge
    · exact Nat.le_of_lt (Nat.lt_of_le_of_lt hCge hlt)
  have hcellD : ∀ n, (cEnv scope cl H2.objs.size f.env).cells.lookup n ≠ some h1.objs.size := by
    intro n hn'
    rw [hce] at hn'
    rcases cx.mem _ (mem_of_lookup hn') with hm | ⟨hm, _⟩
    · obtain ⟨v, o, ho, _⟩ := hcl1 _ hm
      exact absurd (old _ _ ho) (Nat.lt_irrefl _)
    · exact Nat.lt_irrefl _ (Nat.lt_of_lt_of_le (Nat.lt_of_le_of_lt hCge hC3) hm)
  have hYD : ¬ (cf f scope cl H2.objs.size h1.objs.size s.heap).Y h1.objs.size := by
    rintro (h | ⟨_, h⟩)
    · exact hDC h
    · exact Nat.lt_irrefl _ (Nat.lt_of_lt_of_le h hCge)
  have hDg : H2.get? h1.objs.size = some { cls := .type "list", data := .seq ([] : List Value).toArray } := by rw [← hH2]; exact Heap.get?_push_size _ rfl
  have hCg : H3.get? H2.objs.size = some { cls := .type "dict", data := .dict #[] } := by rw [← hH3]; exact Heap.get?_push_size _ rfl
  have hns : (pushCells H3 scope.names).Ns H2.objs.size fun _ => none := Heap.Ns.keeps (hH3 ▸ Heap.Ns.new H2 (.type "dict")) e4
  have S1 : St (cf f scope cl H2.objs.size h1.objs.size s.heap) (capt caps ρ) none (pushCells H3 scope.names) := by
    refine ⟨fun _ => none, fun x => match (cEnv scope cl H2.objs.size f.env).cells.lookup x with | some a => cellAt (pushCells H3 scope.names) a | none => none, hns, ea, fun x a hx => ?_, ?_, fun x a hx => ?_, .inl rfl, fun b hb => fresh b (hYb b hb), ?_, ?_, fun x d hx => ?_, trivial⟩
    · have hx' : (cEnv scope cl H2.objs.size f.env).cells.lookup x = some a := hx
      rw [hx']
      have hx2 := hx'
      rw [hce] at hx2
      rcases cx.mem _ (mem_of_lookup hx2) with hm | ⟨_, hm⟩
      · obtain ⟨v, hv⟩ := hcl1 _ hm
        have hv' := hv.keeps ea
        show (pushCells H3 scope.names).IsCell a (cellAt _ a)
        rw [cellAt_of hv']; exact hv'
      · show (pushCells H3 scope.names).IsCell a (cellAt _ a)
        rw [cellAt_of hm]; exact hm
    · show ((cEnv scope cl H2.objs.size f.env).cells).Pairwise _
      rw [hce]; exact cx.apart
    · have hx2 : (cEnv scope cl H2.objs.size f.env).cells.lookup x = some a := hx
      rw [hce] at hx2
      show a ≠ H2.objs.size
      rcases cx.mem _ (mem_of_lookup hx2) with hm | ⟨hm, _⟩
      · obtain ⟨v, o, ho, _⟩ := hcl1 _ hm
        have := old _ _ ho
        exact Nat.ne_of_lt (Nat.lt_of_lt_of_le this hCge)
      · exact Nat.ne_of_gt (Nat.lt_of_lt_of_le hC3 hm)
    · rintro b ((hb | rfl) | rfl | ⟨⟨x, hx⟩, _⟩)
      · obtain ⟨o, ho⟩ := Sm0.bd b hb; exact ⟨o, ea _ _ ho⟩
      · exact ⟨_, e4 _ _ (e3 _ _ hDg)⟩
      · exact ⟨_, e4 _ _ hCg⟩
      · have hx2 : (cEnv scope cl H2.objs.size f.env).cells.lookup x = some b := hx
        rw [hce] at hx2
        rcases cx.mem _ (mem_of_lookup hx2) with hm | ⟨_, o, ho, _⟩
        · obtain ⟨v, o, ho, _⟩ := hcl1 _ hm; exact ⟨o, ea _ _ ho⟩
        · exact ⟨o, ho⟩
    · rintro b hb (hx | rfl)
      · obtain ⟨o, ho⟩ := Sm0.bd b hx
        rw [fresh b (hYb b hb)] at ho; cases ho
      · exact hYD hb
    · unfold capt at hx
      by_cases hm : x ∈ caps
      · rw [if_pos hm] at hx
        obtain ⟨c1, c2, c3⟩ := hcap H2.objs.size x hm
        rcases Sm0.vw x d hx with ⟨k, _⟩ | ⟨_, a, v, ha, hv, r⟩
        · rw [k] at c1; cases c1
        · refine .inr ⟨c2, a, v, c3.trans ha, ?_, r.mono fun b o hb ho => ⟨?_, ea b o ho⟩⟩
          · show (match (cEnv scope cl H2.objs.size f.env).cells.lookup x with | some a => cellAt (pushCells H3 scope.names) a | none => none) = some v
            rw [c3, ha]
            exact cellAt_of ((hv ▸ Sm0.cell x a ha).keeps ea)
          · rintro ((hc | rfl) | hy)
            · exact hb hc
            · exact absurd (old _ _ ho) (Nat.lt_irrefl _)
            · rw [fresh b (hYb b hy)] at ho; cases ho
      · rw [if_neg hm] at hx; cases hx
  have loop : codeAny (model f.prog f.w) f.A (.compLoop (.ListComp elt [⟨target, iter, ifs, 0⟩] scope pos) 0 (.ref I) (.ref h1.objs.size) (cEnv scope cl H2.objs.size f.env)) (RR (.ref h1.objs.size) H2.objs.size) { s with heap := pushCells H3 scope.names, toks := t1 } := by
    refine compCore (f := f) (h₀ := s.heap) (hb := h1) (D' := h1.objs.size) (C := H2.objs.size) (ρ := capt caps ρ) sa eb hYb (Nat.le_refl _) hYD hDC hcellD (fresh _ (Nat.le_refl _)) ⟨0, e4 _ _ (e3 _ _ hDg)⟩ hn bind Inv hi hinv ht keep g S1 (fun i ρ hl hv => tg _ _ _ i ρ hl hv)
      (fun i ρ h hl hv S => turn _ _ _ i ρ h hl hv S.keep S.bd S) fun h' tk ρ' vs S' pl rs hk => ?_
    obtain ⟨m', cm', Sm'⟩ := S'
    refine hRR H2.objs.size h1.objs.size h' tk ⟨_, Sm'.ns⟩ (fresh _ hCge) (fresh _ (Nat.le_refl _)) hDC (fun hx => ?_) Sm'.keep (.lst (fun hx => ?_) pl.isList (rs.mono fun b o hb ho => ⟨fun hx => hb (.inl (.inl hx)), ho⟩))
    · obtain ⟨o, ho⟩ := Sm0.bd _ hx
      rw [fresh _ hCge] at ho; cases ho
    · obtain ⟨o, ho⟩ := Sm0.bd _ hx
      rw [fresh _ (Nat.le_refl _)] at ho; cases ho
  exact codeAny_compStart_list loop (sa.W.self 0 _ _ _ (sa.W.frame _ _ _ sa.st fun b _ o e => eb b o e) loop)

theorem ns_it {h : Heap} {C : Addr} {m : Str → Option Value} (n : h.Ns C m) : ∀ o, h.get? C = some o → ItObj o := by
  obtain ⟨o, es, ep, ho, hd, _⟩ := n
  intro o' ho'
  rw [ho] at ho'; cases ho'
  refine ⟨?_, fun v e => ?_⟩
  · rintro ⟨xs, n, e⟩; rw [hd] at e; cases e
  · rw [hd] at e; cases e

theorem Ev.comp {elt target iter : Expr} {ifs : List Expr} {scope : Scope} {pos : Pos} {cl : List (Str × Addr)} {n : Nat} {dat : Nat → D}
    (S : St f ρ own h) (hclos : closureFor scope f.env = pure cl) (hclm : ∀ p ∈ cl, f.env.cells.lookup p.1 = some p.2) (hcln : (cl.map (·.1)).Nodup)
    (sr : Src f.cx h iter n dat) (hn : n ≤ 100000) (caps : List Str) (hcap : ∀ C : Addr, ∀ x ∈ caps, f.env.kindOf x = some .cell ∧ (cEnv scope cl C f.env).kindOf x = some .cell ∧ (cEnv scope cl C f.env).cells.lookup x = f.env.cells.lookup x)
    (bind : Nat → (Str → Option D) → (Str → Option D)) (Inv : (Str → Option D) → Prop) (hi : Inv (capt caps ρ)) (hinv : ∀ i ρ, i < n → Inv ρ → Inv (bind i ρ)) (ht : TgtOk target) (keep : Nat → Bool) (g : Nat → D)
    (tg : ∀ C D' h₀ i ρ, i < n → Inv ρ → Tg (cf f scope cl C D' h₀) target (dat i) (bind i) none)
    (turn : ∀ C D' h₀ i ρ h1, i < n → Inv ρ → Ext h h1 → Bd (cf f scope cl C D' h₀).X h1 → St (cf f scope cl C D' h₀) (bind i ρ) none h1 → Ts (cf f scope cl C D' h₀).cx h1 ifs (keep i) ∧ (keep i = true → Ev (cf f scope cl C D' h₀).cx h1 elt (g i)))
    (hkind : scope.kind = .function := by rfl) (hnames : ∀ y ∈ scope.names, y.2 = .local → scope.names.lookup y.1 = some .local := by decide) (hs : ∀ x, foldedSetIterable iter f.env x = pure x := by intro _; rfl) :
    Ev f.cx h (.ListComp elt [⟨target, iter, ifs, 0⟩] scope pos) (.lst (made keep g n)) := fun s Q E hx q => by
  rw [eval_ListComp]
  refine wpAny_comprehension_free (use := none) rfl hs hclos hkind hnames ?_
  refine compBlock (RR := fun acc C => compPost (model f.prog f.w) f.A E none Q acc C) (S.ext hx) hclm hcln (fun s' Q' E' e q' => sr s' Q' E' (hx.trans e) q') hn caps hcap bind Inv hi hinv ht keep g tg
    (fun C D' h₀ i ρ h1 hl hv e b S' => turn C D' h₀ i ρ h1 hl hv (hx.trans e) b S') ?_
  intro C D' h' tk ⟨m, hm⟩ hC hD hDC hXC e r
  refine ⟨m, hm, fun h'' hs'' => ?_⟩
  have hC' : ∀ b o, s.heap.get? b = some o → b ≠ C := fun b o ho e => by rw [e, hC] at ho; cases ho
  refine q _ h'' tk (fun b o ho => hs''.extBut b o (hC' b o ho) (e b o ho)) (r.monoC fun b o hb ho hsq => ⟨hb, hs''.extBut b o (fun e => ?_) ho⟩)
  subst e
  exact (ns_it hm o ho).1 hsq

/-- x = [.. for ..] -/
theorem Exs.setComp {Φ : Flow → Heap → Prop} {l : List Stmt} {x : Str} {xp spos : Pos} {elt target iter : Expr} {ifs : List Expr} {scope : Scope} {pos : Pos} {cl : List (Str × Addr)} {n : Nat} {dat : Nat → D}
    (S : St f ρ own h) (hclos : closureFor scope f.env = pure cl) (hclm : ∀ p ∈ cl, f.env.cells.lookup p.1 = some p.2) (hcln : (cl.map (·.1)).Nodup)
    (sr : Src f.cx h iter n dat) (hn : n ≤ 100000) (caps : List Str) (hcap : ∀ C : Addr, ∀ x ∈ caps, f.env.kindOf x = some .cell ∧ (cEnv scope cl C f.env).kindOf x = some .cell ∧ (cEnv scope cl C f.env).cells.lookup x = f.env.cells.lookup x)
    (bind : Nat → (Str → Option D) → (Str → Option D)) (Inv : (Str → Option D) → Prop) (hi : Inv (capt caps ρ)) (hinv : ∀ i ρ, i < n → Inv ρ → Inv (bind i ρ)) (ht : TgtOk target) (keep : Nat → Bool) (g : Nat → D)
    (tg : ∀ C D' h₀ i ρ, i < n → Inv ρ → Tg (cf f scope cl C D' h₀) target (dat i) (bind i) none)
    (turn : ∀ C D' h₀ i ρ h1, i < n → Inv ρ → Ext h h1 → Bd (cf f scope cl C D' h₀).X h1 → St (cf f scope cl C D' h₀) (bind i ρ) none h1 → Ts (cf f scope cl C D' h₀).cx h1 ifs (keep i) ∧ (keep i = true → Ev (cf f scope cl C D' h₀).cx h1 elt (g i)))
    (k : ∀ h', St f (upd ρ x (.lst (made keep g n))) own h' → Exs f h' l Φ)
    (hsw : swapsWith (.ListComp elt [⟨target, iter, ifs, 0⟩] scope pos) (some (.Name x xp)) spos.line f.env = pure true := by rfl)
    (hx : f.env.kindOf x = some .local := by rfl) (hk : f.env.scope.kind = .function := by rfl) (ho : ∀ p, own = some p → p.1 ≠ x := by intro p hp; cases hp <;> (dsimp only; decide))
    (hkind : scope.kind = .function := by rfl) (hnames : ∀ y ∈ scope.names, y.2 = .local → scope.names.lookup y.1 = some .local := by decide) (hs : ∀ x, foldedSetIterable iter f.env x = pure x := by intro _; rfl) :
    Exs f h (.Assign [.Name x xp] (.ListComp elt [⟨target, iter, ifs, 0⟩] scope pos) spos :: l) Φ := by
  refine Exs.cons (Ψ := fun fl h' => fl = .next ∧ St f (upd ρ x (.lst (made keep g n))) own h') ?_ (fun h2 _ S2 => k h2 S2.2) (fun _ _ n x => absurd x.1 n)
  intro s Q E e0 q
  subst e0
  rw [exec_Assign_Name_used _ _ _ _ hsw]
  refine wpAny_bind (wpAny_standAt (wpAny_bind ?_))
  show wpAny _ f.A (do let _ ← comprehension (.ListComp elt [⟨target, iter, ifs, 0⟩] scope pos) scope f.env _ (newList []) false (eval iter f.env) (some (assign (.Name x xp) f.env))) _ _ s
  refine wpAny_bind (wpAny_mono (wpAny_comprehension_free (use := some (assign (.Name x xp) f.env)) (Q := fun _ s' => Q .next s') rfl hs hclos hkind hnames ?_) (fun _ s' hq => wpAny_pure (wpAny_pure hq)) fun _ _ e => e)
  refine compBlock (RR := fun acc C => compPost (model f.prog f.w) f.A E (some (assign (.Name x xp) f.env)) (fun _ s' => Q .next s') acc C) S hclm hcln sr hn caps hcap bind Inv hi hinv ht keep g tg turn ?_
  intro C D' h' tk ⟨m, hm⟩ hC hD hDC hXC e r
  show wpAny _ f.A (assign (.Name x xp) f.env (.ref D')) _ _ _
  have S' := S.ext e
  refine Tg.name hx hk ho ρ _ _ _ _ S' r fun h2 t2 k2 S2 => ?_
  have hm2 : h2.Ns C m := hm.at' fun o ho => k2 C o (fun hy => hXC (.inr hy)) ho
  refine ⟨m, hm2, fun h3 hs3 => ?_⟩
  have h0C : f.h₀.get? C = none := by
    cases e9 : f.h₀.get? C with
    | none => rfl
    | some o => rw [S.keep _ _ e9] at hC; cases hC
  have S3 : St f (upd ρ x (.lst (made keep g n))) own h3 := S2.turn (ns_it hm2) hXC h0C fun b o hb ho => hs3.extBut b o hb ho
  refine q .next h3 _ (fun b o hy ho => ?_) ⟨rfl, S3⟩
  have hbC : b ≠ C := fun e => by rw [e, hC] at ho; cases ho
  exact hs3.extBut b o hbC (k2 b o hy (e b o ho))
end
end Mine
end

section
open PySem PyProof.Rows
namespace Mine
set_option autoImplicit false
set_option linter.unusedVariables false
set_option maxRecDepth 100000

theorem len1 {vs : List Value} (h : vs.length = 1) : ∃ a, vs = [a] := List.length_eq_one_iff.mp h
theorem len2 {vs : List Value} (h : vs.length = 2) : ∃ a b, vs = [a, b] := by
  cases vs with
  | nil => cases h
  | cons a r => obtain ⟨b, rfl⟩ := len1 (Nat.succ.inj h); exact ⟨a, b, rfl⟩
theorem len3 {vs : List Value} (h : vs.length = 3) : ∃ a b c, vs = [a, b, c] := by
  cases vs with
  | nil => cases h
  | cons a r => obtain ⟨b, c, rfl⟩ := len2 (Nat.succ.inj h); exact ⟨a, b, c, rfl⟩
theorem len4 {vs : List Value} (h : vs.length = 4) : ∃ a b c d, vs = [a, b, c, d] := by
  cases vs with
  | nil => cases h
  | cons a r => obtain ⟨b, c, d, rfl⟩ := len3 (Nat.succ.inj h); exact ⟨a, b, c, d, rfl⟩
theorem len5 {vs : List Value} (h : vs.length = 5) : ∃ a b c d e, vs = [a, b, c, d, e] := by
  cases vs with
  | nil => cases h
  | cons a r => obtain ⟨b, c, d, e, rfl⟩ := len4 (Nat.succ.inj h); exact ⟨a, b, c, d, e, rfl⟩
abbrev PW : Program := PySem.Challenge.pw_pf0329_01
noncomputable def fdOf : Stmt → Arguments × List Stmt × Scope
  | .FunctionDef _ a b _ _ _ sc _ _ _ => (a, b, sc)
  | _ => (⟨[], [], none, [], [], none, []⟩, [], ⟨.module, [], false, false, []⟩)
noncomputable def fdAt (n : Nat) : Arguments × List Stmt × Scope := fdOf (PW.main.body.getD n (.Pass ⟨0, 0, 0, 0⟩))

noncomputable def bltns : List (Str × Value) := [(Str.ofString "len", .builtin "len"), (Str.ofString "max", .builtin "max"), (Str.ofString "min", .builtin "min"), (Str.ofString "any", .builtin "any"), (Str.ofString "sorted", .builtin "sorted"),
  (Str.ofString "range", .type "range"), (Str.ofString "list", .type "list"), (Str.ofString "zip", .type "zip"), (Str.ofString "str", .type "str"), (Str.ofString "Exception", .type "Exception")]
noncomputable def fnames : List (Str × Nat) := [(Str.ofString "tidy", 4), (Str.ofString "meet", 5), (Str.ofString "join", 6), (Str.ofString "minus", 7), (Str.ofString "flip", 8), (Str.ofString "in_spans", 9), (Str.ofString "mask_spans", 10),
  (Str.ofString "_law_digit", 12), (Str.ofString "_law_drawn", 13), (Str.ofString "_law_truths", 14), (Str.ofString "_law_runs", 15), (Str.ofString "_law_masked", 16), (Str.ofString "_law_mask", 17), (Str.ofString "law", 18)]
noncomputable def FnP (h : Heap) (a : Addr) (p : Str × Nat) : Prop := FnAt h a p.1 (fdAt p.2).1 (fdAt p.2).2.1 (fdAt p.2).2.2

/-- what is known of the text's globals -/
structure Gl (mg mb : Str → Option Value) (h : Heap) : Prop where
  g : h.Ns mainGlobals mg
  b : h.Ns builtinsNs mb
  nolimit : h.NoLimit
  bi : ∀ p ∈ bltns, mg p.1 = none ∧ mb p.1 = some p.2
  fn : ∀ p ∈ fnames, ∃ a, mg p.1 = some (.ref a) ∧ FnP h a p
theorem Gl.ext {mg mb : Str → Option Value} {h h' : Heap} (G : Gl mg mb h) (e : Ext h h') : Gl mg mb h' :=
  ⟨G.g.keeps e, G.b.keeps e, G.nolimit.keeps e, G.bi, fun p hp => let ⟨a, h1, h2⟩ := G.fn p hp; ⟨a, h1, h2.ext e⟩⟩

section
variable {c : Cx} {h : Heap} {mg mb : Str → Option Value}
theorem Gl.built (G : Gl mg mb h) (n : Str) {v : Value} (hm : (n, v) ∈ bltns) (hk : c.env.scope.kind = .function) (hx : c.env.kindOf n = some .globalImplicit) (hg : c.env.globals = mainGlobals) (hb : c.env.builtins = builtinsNs)
    (hd : (n == ("__debug__" : Str)) = false) : Lv c h n v := Lv.built (hg ▸ G.g) (G.bi _ hm).1 (hb ▸ G.b) (G.bi _ hm).2 hk hx hd
end

theorem Rm.deeper {k : Nat} {A : Around} {env : Env} (r : Rm (k + 1) A) : Rm k (A.deeper env) := by
  refine ⟨r.hh, ?_, ?_⟩
  · show A.depth + 1 + k < _; have := r.dp; lia
  · show A.units + 3 + 8 * k + 64 < _; have := r.un; lia
theorem Rm.le {k j : Nat} {A : Around} (r : Rm k A) (h : j ≤ k) : Rm j A := ⟨r.hh, by have := r.dp; lia, by have := r.un; lia⟩

/-- the frame of a call of one of the text's defs -/
noncomputable def fx (w : World) (A : Around) (p : Str × Nat) (pm doc : Value) (c L a : Addr) (h₀ : Heap) (X₀ : Addr → Prop) : Fx :=
  ⟨PW, w, A.deeper (dEnv p.1 (fdAt p.2).1 (fdAt p.2).2.1 (fdAt p.2).2.2 pm doc c L a), dEnv p.1 (fdAt p.2).1 (fdAt p.2).2.1 (fdAt p.2).2.2 pm doc c L a, h₀, X₀,
    fun b => b = L ∨ ∃ n, (dEnv p.1 (fdAt p.2).1 (fdAt p.2).2.1 (fdAt p.2).2.2 pm doc c L a).cells.lookup n = some b⟩

/-- what a def of the text gives back: with room for k frames -/
noncomputable def FnOk (mg mb : Str → Option Value) (p : Str × Nat) (k : Nat) (ds : List D) (d : D) : Prop :=
  ∀ (w : World) (A : Around) (X₀ : Addr → Prop) (a : Addr) (vs : List Value) (s : Shared) (Q : Value → Shared → Prop) (E : Value → Shared → Prop),
    Rm k A → Gl mg mb s.heap → FnP s.heap a p → Bd X₀ s.heap → RS X₀ s.heap vs ds →
    (∀ v h' tk, Ext s.heap h' → R X₀ h' v d → Q v { s with heap := h', toks := tk }) → wpAny (model PW w) A (call (.ref a) vs) Q E s

theorem FnOk.of {mg mb : Str → Option Value} {p : Str × Nat} {k : Nat} {ds : List D} {d : D} (ps : List Str)
    (hbind : ∀ vs : List Value, vs.length = ds.length → ∀ pm doc c, bindArgs (Calls.docDef p.1 (fdAt p.2).1 (fdAt p.2).2.1 (fdAt p.2).2.2 pm (.ref c) doc) ⟨vs, []⟩ = pure (ps.zip vs))
    (hkind : ∀ (L : Nat), ∀ x ∈ ps, (fdAt p.2).2.2.names.lookup x = some .local ∨ ((fdAt p.2).2.2.names.lookup x = some .cell ∧ ((cellsFrom (L + 1) (fdAt p.2).2.2.names []).lookup x).isSome = true))
    (hbody : ∀ w A X₀ pm doc c L a h₀ h1, Rm k (fx w A p pm doc c L a h₀ X₀).A → Gl mg mb h₀ → St (fx w A p pm doc c L a h₀ X₀) (bindD ps ds fun _ => none) none h1 →
      Exs (fx w A p pm doc c L a h₀ X₀) h1 (fdAt p.2).2.1 fun fl h' => ∃ v, fl = .ret v ∧ R X₀ h' v d)
    (hco : (fdAt p.2).2.2.isCoroutine = false := by rfl) (hgen : (fdAt p.2).2.2.isGenerator = false := by rfl) (hk : (fdAt p.2).2.2.kind = .function := by rfl) : FnOk mg mb p (k + 1) ds d := by
  intro w A X₀ a vs s Q E rm G F hX r q
  have hlen := r.length
  refine callOk F G.nolimit (by have := rm.dp; (first | exact Nat.lt_of_add_right_lt this | lia)) hX r ps (hbind vs hlen) (fun x hx => hkind _ x.1 (List.of_mem_zip hx).1) (fun pm doc c L h1 => ?_) q hco hgen hk
  intro env f hL S
  exact hbody w A X₀ pm doc c L a s.heap h1 rm.deeper G S

/-! spans -/
abbrev Spans := List (Int × Int)
noncomputable def enc (l : Spans) : List D := l.map fun p => .tup [.int p.1, .int p.2]
theorem enc_length (l : Spans) : (enc l).length = l.length := by simp [enc]
theorem enc_get {l : Spans} {i : Nat} {p : Int × Int} (h : l[i]? = some p) : (enc l)[i]? = some (.tup [.int p.1, .int p.2]) := by simp [enc, h]
noncomputable def inSp (l : Spans) (n : Int) : Bool := l.any fun p => decide (p.1 ≤ n) && decide (n ≤ p.2)
noncomputable def Tidy (l : Spans) : Prop := l.Pairwise (fun p q => p.2 + 1 < q.1) ∧ ∀ p ∈ l, p.1 ≤ p.2


section
variable {f : Fx} {ρ : Str → Option D} {own : Own} {h : Heap} {mg mb : Str → Option Value}
theorem St.nm {n : Str} {d : D} {pos : Pos} (S : St f ρ own h) (hn : ρ n = some d) (hk : f.env.scope.kind = .function := by rfl) (hd : (n == ("__debug__" : Str)) = false := by rfl) : Ev f.cx h (.Name n pos) d :=
  Ev.name (S.ld hn hk) hd
/-- len of a name's list -/
theorem Ev.lenOf {a : Expr} {np pos : Pos} {ds : List D} {n : Nat} (G : Gl mg mb h) (ha : Ev f.cx h a (.lst ds)) (hl : ds.length = n) (hn : n < 2 ^ 62) (hk : f.env.scope.kind = .function := by rfl) (hx : f.env.kindOf (Str.ofString "len") = some .globalImplicit := by rfl)
    (hg : f.env.globals = mainGlobals := by rfl) (hb : f.env.builtins = builtinsNs := by rfl)
    (he : starEach (a :: []) f.env = (false, eval a f.env) :: starEach [] f.env := by rfl) : Ev f.cx h (.Call (.Name (Str.ofString "len") np) [a] [] pos) (.int n) := by
  subst hl
  exact Ev.callB (G.built (c := f.cx) (Str.ofString "len") (by simp [bltns]) hk hx hg hb (by rfl)) (Sp.cons ha Sp.nil he) (Cl.len hn) he (fun _ => rfl)
end

theorem lt62 {n : Nat} (h : n ≤ 1000) : n < 2 ^ 62 := by lia
section
variable {c : Cx} {h : Heap} {a b : Expr} {pos pos2 pos3 : Pos} {l : Spans} {i : Nat} {p : Int × Int} {n : Nat}
theorem Ev.itemE (ha : Ev c h a (.lst (enc l))) (hb : Ev c h b (.int i)) (hp : l[i]? = some p) (hl : l.length ≤ 1000)
    (hs : ∀ l t, subscripted b false (.ref l) (.int i t) = operate [.ref l, .int i t] (getItem (.ref l) (.int i t)) := by intro _ _; with_unfolding_all rfl) : Ev c h (.Subscript a b pos) (.tup [.int p.1, .int p.2]) := by
  have hi := (List.getElem?_eq_some_iff.mp hp).1
  exact Ev.item ha hb (by (first | exact Int.natCast_nonneg i | lia)) (by lia) (enc_get hp) hs
theorem Ev.itemFst (ha : Ev c h a (.lst (enc l))) (hb : Ev c h b (.int i)) (hp : l[i]? = some p) (hl : l.length ≤ 1000)
    (hs : ∀ l t, subscripted b false (.ref l) (.int i t) = operate [.ref l, .int i t] (getItem (.ref l) (.int i t)) := by intro _ _; with_unfolding_all rfl) : Ev c h (.Subscript (.Subscript a b pos) (.Constant (.int 0) n pos2) pos3) (.int p.1) :=
  Ev.place (k := 0) (Ev.itemE ha hb hp hl hs) Ev.int (by decide) rfl
theorem Ev.itemSnd (ha : Ev c h a (.lst (enc l))) (hb : Ev c h b (.int i)) (hp : l[i]? = some p) (hl : l.length ≤ 1000)
    (hs : ∀ l t, subscripted b false (.ref l) (.int i t) = operate [.ref l, .int i t] (getItem (.ref l) (.int i t)) := by intro _ _; with_unfolding_all rfl) : Ev c h (.Subscript (.Subscript a b pos) (.Constant (.int 1) n pos2) pos3) (.int p.2) :=
  Ev.place (k := 1) (Ev.itemE ha hb hp hl hs) Ev.int (by decide) rfl
end
theorem tidy_le {l : Spans} (ht : Tidy l) {i j : Nat} (hij : i ≤ j) {p q : Int × Int} (hp : l[i]? = some p) (hq : l[j]? = some q) : p.2 ≤ q.2 := by
  obtain ⟨hi, rfl⟩ := List.getElem?_eq_some_iff.mp hp
  obtain ⟨hj, rfl⟩ := List.getElem?_eq_some_iff.mp hq
  rcases Nat.lt_or_eq_of_le hij with h | h
  · have h1 := List.pairwise_iff_getElem.mp ht.1 i j hi hj h
    have h2 := ht.2 _ (List.getElem_mem hj)
    lia
  · subst h; (first | exact Int.le_refl l[i].snd | lia)
theorem in_at {l : Spans} (ht : Tidy l) {n : Int} {lo : Nat} (q3 : ∀ i p, i < lo → l[i]? = some p → p.2 < n) (q4 : ∀ i p, lo ≤ i → l[i]? = some p → n ≤ p.2) :
    inSp l n = (decide ((lo : Int) < (l.length : Int)) && (match l[lo]? with | some p => decide (p.1 ≤ n) | none => false)) := by
  rw [Bool.eq_iff_iff]
  unfold inSp
  simp only [List.any_eq_true, Bool.and_eq_true, decide_eq_true_eq]
  constructor
  · rintro ⟨p, hm, h1, h2⟩
    obtain ⟨i, hi, e⟩ := List.mem_iff_getElem.mp hm
    have hp : l[i]? = some p := by rw [List.getElem?_eq_getElem hi, e]
    have hlo : lo ≤ i := by
      rcases Nat.lt_or_ge i lo with h | h
      · have := q3 i p h hp; lia
      · exact h
    have hll : lo < l.length := by (first | exact Nat.lt_of_le_of_lt hlo hi | lia)
    refine ⟨by (first | exact Int.ofNat_lt.mpr hll | lia), ?_⟩
    rw [List.getElem?_eq_getElem hll]
    simp only [decide_eq_true_eq]
    rcases Nat.lt_or_eq_of_le hlo with h | h
    · have := List.pairwise_iff_getElem.mp ht.1 lo i hll hi h
      have := q4 lo _ (Nat.le_refl _) (List.getElem?_eq_getElem hll)
      have := ht.2 _ (List.getElem_mem hll)
      rw [e] at *; lia
    · subst h; rw [e]; exact h1
  · rintro ⟨hlt, hm⟩
    have hll : lo < l.length := by (first | exact Int.ofNat_lt.mp hlt | lia)
    have hp := List.getElem?_eq_getElem hll
    rw [hp] at hm
    exact ⟨l[lo], List.getElem_mem hll, by simpa using hm, q4 lo _ (Nat.le_refl _) hp⟩

theorem stay {f : Fx} {ρ : Str → Option D} {own : Own} {h : Heap} {J : (Str → Option D) → Own → Prop} (S : St f ρ own h) (j : J ρ own) : ∃ ρ' own', J ρ' own' ∧ St f ρ' own' h := ⟨ρ, own, j, S⟩
noncomputable def pIn : Str × Nat := (Str.ofString "in_spans", 9)
theorem in_spans_ok {mg mb : Str → Option Value} (l : Spans) (n : Int) (hl : l.length ≤ 1000) (ht : Tidy l) : FnOk mg mb pIn 1 [.lst (enc l), .int n] (.bool (inSp l n)) := by
  refine FnOk.of [Str.ofString "spans", Str.ofString "n"] ?_ ?_ ?_
  · intro vs hv pm doc c
    obtain ⟨v1, v2, rfl⟩ := len2 hv
    rfl
  · intro L x hx
    simp only [List.mem_cons, List.not_mem_nil, or_false] at hx
    rcases hx with rfl | rfl <;> exact .inl rfl
  · intro w A X₀ pm doc c L a h₀ h1 rm G S
    have e1 := enc_length l
    refine Exs.set (d := .int 0) S Ev.int fun h2 S => ?_
    refine Exs.set (d := .int l.length) S (Ev.lenOf (G.ext S.keep) (S.nm rfl) e1 (lt62 hl)) fun h2 S => ?_
    refine Exs.while (fun k ρ own => own = none ∧ ∃ lo hi : Nat, ρ (Str.ofString "spans") = some (.lst (enc l)) ∧ ρ (Str.ofString "n") = some (.int n) ∧ ρ (Str.ofString "low") = some (.int lo) ∧ ρ (Str.ofString "high") = some (.int hi) ∧
        lo ≤ hi ∧ hi ≤ l.length ∧ (∀ i p, i < lo → l[i]? = some p → p.2 < n) ∧ (∀ i p, hi ≤ i → l[i]? = some p → n ≤ p.2) ∧ k = hi - lo) l.length
      ⟨rfl, 0, l.length, rfl, rfl, rfl, rfl, Nat.zero_le _, Nat.le_refl _, fun i p hi => absurd hi (Nat.not_lt_zero _), fun i p hi hp => ?_, rfl⟩ S ?_
    · rw [List.getElem?_eq_none hi] at hp; cases hp
    rintro k ρ own h3 ⟨rfl, lo, hi, r1, r2, r3, r4, q1, q2, q3, q4, rfl⟩ S
    refine ⟨_, Te.cmp (S.nm r3) (S.nm r4) Co.lt, fun hb h4 S => ?_, fun hb h4 S => ?_⟩
    · have hlt : lo < hi := by simpa using hb
      obtain ⟨mid, hmid⟩ : ∃ mid : Nat, mid = (lo + hi) / 2 := ⟨_, rfl⟩
      have hm1 : lo ≤ mid := by lia
      have hm2 : mid < hi := by lia
      have hml : mid < l.length := by (first | exact Nat.lt_of_lt_of_le hm2 q2 | lia)
      obtain ⟨p, hp⟩ : ∃ p, l[mid]? = some p := ⟨_, List.getElem?_eq_getElem hml⟩
      have em : ((lo : Int) + (hi : Int)).fdiv 2 = (mid : Int) := by
        rw [Int.fdiv_eq_ediv_of_nonneg _ (by decide)]; (first | exact Eq.symm ((fun {a b} => Int.neg_inj.mp) (congrArg Neg.neg (congrArg Nat.cast hmid))) | lia)
      refine Exs.set (d := .int mid) S (by rw [← em]; exact Ev.fdiv (Ev.add (S.nm r3) (S.nm r4)) Ev.int (by decide) (PyProof.noPylong_small (by (first | exact Nat.lt_of_sub_eq_succ rfl | lia)))) fun h5 S => ?_
      refine Exs.if (t := decide (p.2 < n)) (fun ρ' own' => own' = none ∧ ∃ lo' hi' : Nat, ρ' (Str.ofString "spans") = some (.lst (enc l)) ∧ ρ' (Str.ofString "n") = some (.int n) ∧ ρ' (Str.ofString "low") = some (.int lo') ∧ ρ' (Str.ofString "high") = some (.int hi') ∧
        lo' ≤ hi' ∧ hi' ≤ l.length ∧ (∀ i p, i < lo' → l[i]? = some p → p.2 < n) ∧ (∀ i p, hi' ≤ i → l[i]? = some p → n ≤ p.2) ∧ hi' - lo' < hi - lo) ?_ (fun hd h6 e6 => ?_) (fun hd h6 e6 => ?_) (fun ρ' own' h6 hj S => ?_)
      · exact Te.cmp (Ev.itemSnd (S.nm r1) (S.nm rfl) hp hl) (S.nm r2) Co.lt
      · have hd' : p.2 < n := by simpa using hd
        refine Exs.set (d := .int (mid + 1 : Nat)) (S.ext e6) (by push_cast; exact Ev.add ((S.ext e6).nm rfl) Ev.int) fun h7 S => Exs.nil ⟨rfl, stay S ⟨rfl, mid + 1, hi, r1, r2, rfl, r4, by assumption, q2, fun i p' hi' hp' => ?_, q4, by grind⟩⟩
        rcases Nat.lt_or_ge i lo with h | h
        · exact q3 i p' h hp'
        · have := tidy_le ht (show i ≤ mid by (first | exact Nat.le_of_lt_succ hi' | lia)) hp' hp
          (first | exact Int.lt_of_le_of_lt this hd' | lia)
      · have hd' : n ≤ p.2 := by simpa using hd
        refine Exs.set (d := .int mid) (S.ext e6) ((S.ext e6).nm rfl) fun h7 S => Exs.nil ⟨rfl, stay S ⟨rfl, lo, mid, r1, r2, r3, rfl, hm1, by (first | exact Nat.le_of_succ_le hml | lia), q3, fun i p' hi' hp' => ?_, by (first | exact Nat.sub_lt_sub_right hm1 hm2 | lia)⟩⟩
        have := tidy_le ht hi' hp hp'
        (first | exact Int.le_trans hd' this | lia)
      · obtain ⟨rfl, lo', hi', a1, a2, a3, a4, a5, a6, a7, a8, a9⟩ := hj
        exact Exs.nil ⟨_, _, ⟨hi' - lo', a9, rfl, lo', hi', a1, a2, a3, a4, a5, a6, a7, a8, rfl⟩, S⟩
    · have hge : lo = hi := by simp at hb; (first | exact Nat.le_antisymm q1 hb | lia)
      subst hge
      have ev : inSp l n = (decide ((lo : Int) < (l.length : Int)) && (match l[lo]? with | some p => decide (p.1 ≤ n) | none => false)) := in_at ht q3 q4
      rw [ev]
      refine Exs.ret (Ev.and (Ev.cmp (S.nm r3) (Ev.lenOf (G.ext S.keep) (S.nm r1) e1 (lt62 hl)) Co.lt) fun hlt => ?_) fun v h' e r => ⟨v, rfl, r.mono fun b o hb ho => ⟨fun hx => hb (.inl hx), ho⟩⟩
      have hlt' : lo < l.length := by simpa using hlt
      have hp := List.getElem?_eq_getElem hlt'
      rw [hp]
      exact Ev.cmp (Ev.itemFst (S.nm r1) (S.nm r3) hp hl) (S.nm r2) Co.le
end Mine
end

section
open PySem PyProof.Rows
namespace Mine
set_option autoImplicit false
set_option linter.unusedVariables false
set_option maxRecDepth 100000

section
variable {f : Fx} {ρ : Str → Option D} {own : Own} {h : Heap} {mg mb : Str → Option Value}
/-- a call of one of the text's defs, by its name -/
theorem Ev.callFn {p : Str × Nat} {k : Nat} {np pos : Pos} {e : Expr} {es : List Expr} {ds : List D} {d : D} (hp : p ∈ fnames) (F : FnOk mg mb p k ds d) (rm : Rm k f.A) (G : Gl mg mb h) (hb : Bd f.X h) (hs : Sp f.cx h (e :: es) ds)
    (hprog : f.prog = PW := by rfl) (hk : f.env.scope.kind = .function := by rfl) (hx : f.env.kindOf p.1 = some .globalImplicit := by rfl) (hg : f.env.globals = mainGlobals := by rfl) (hd : (p.1 == ("__debug__" : Str)) = false := by rfl)
    (he : starEach (e :: es) f.env = (false, eval e f.env) :: starEach es f.env := by rfl) : Ev f.cx h (.Call (.Name p.1 np) (e :: es) [] pos) d := by
  obtain ⟨a, ha, Fa⟩ := G.fn p hp
  obtain ⟨o, pm, doc, c, ho, hdt, _⟩ := id Fa
  refine Ev.callF (c := f.cx) (Lv.glob (c := f.cx) (by rw [show f.cx.env.globals = mainGlobals from hg]; exact G.g) ha hk hx hd) ho hdt hs (fun vs s Q E hx' r q => ?_) he
  show wpAny (model f.prog f.w) f.A _ _ _ _
  rw [hprog]
  exact F f.w f.A f.X a vs s Q E rm (G.ext hx') (Fa.ext hx') (hb.ext hx') r q
end
theorem FnP.ext' {h h' : Heap} {a : Addr} {p : Str × Nat} (F : FnP h a p) (e : Ext h h') : FnP h' a p := FnAt.ext F e

/-! _law_digit -/
noncomputable def dig (ns : List Int) (k : Nat) : Int := ns.getD k 0
noncomputable def encI (ns : List Int) : D := .lst (ns.map D.int)
noncomputable def pDigit : Str × Nat := (Str.ofString "_law_digit", 12)
theorem digit_ok {mg mb : Str → Option Value} (ns : List Int) (k : Nat) (hl : ns.length ≤ 1000) (hk : k ≤ 1000) : FnOk mg mb pDigit 1 [encI ns, .int k] (.int (dig ns k)) := by
  refine FnOk.of [Str.ofString "script", Str.ofString "place"] ?_ ?_ ?_
  · intro vs hv pm doc c
    obtain ⟨v1, v2, rfl⟩ := len2 hv
    rfl
  · intro L x hx
    simp only [List.mem_cons, List.not_mem_nil, or_false] at hx
    rcases hx with rfl | rfl <;> exact .inl rfl
  · intro w A X₀ pm doc c L a h₀ h1 rm G S
    have e : D.int (dig ns k) = if decide ((k : Int) < (ns.length : Int)) then D.int (dig ns k) else .int 0 := by
      by_cases h : k < ns.length
      · rw [if_pos (by simpa using h)]
      · rw [if_neg (by simpa using h)]
        unfold dig
        rw [List.getD_eq_getElem?_getD, List.getElem?_eq_none (by (first | exact Nat.le_of_not_lt h | lia))]; rfl
    rw [e]
    refine Exs.ret (Ev.ite (Te.cmp (S.nm rfl) (Ev.lenOf (G.ext S.keep) (S.nm rfl) (by simp) (by (first | exact lt62 hl | lia))) Co.lt) (fun hlt => ?_) fun _ => Ev.int) fun v h' e r => ⟨v, rfl, r.mono fun b o hb ho => ⟨fun hx => hb (.inl hx), ho⟩⟩
    have hlt' : k < ns.length := by simpa using hlt
    refine Ev.item (S.nm rfl) (S.nm rfl) (by (first | exact Int.natCast_nonneg k | lia)) (by omega) ?_
    simp [dig, hlt']
end Mine
end

section
open PySem PyProof.Rows
namespace Mine
set_option autoImplicit false
set_option linter.unusedVariables false
set_option maxRecDepth 100000

/-! _law_drawn -/
noncomputable def drawOne (ns : List Int) (first : Nat) (starts : Spans) (k : Nat) : Int × Int :=
  let s := starts.getD k (0, 0)
  let low := (dig ns (first + 2 * k + 1) + s.1).fmod 64
  (low, min 63 (low + (dig ns (first + 2 * k + 2) + s.2).fmod 24))
noncomputable def drawnN (ns : List Int) (first : Nat) (starts : Spans) : Nat := starts.length - ((dig ns first).fmod (starts.length + 1)).toNat
noncomputable def drawn (ns : List Int) (first : Nat) (starts : Spans) : Spans := (List.range (drawnN ns first starts)).map (drawOne ns first starts)
noncomputable def pDrawn : Str × Nat := (Str.ofString "_law_drawn", 13)

theorem retX {w : World} {A : Around} {p : Str × Nat} {pm doc : Value} {c L a : Addr} {h₀ : Heap} {X₀ : Addr → Prop} {h' : Heap} {v : Value} {d : D} (r : R (fx w A p pm doc c L a h₀ X₀).X h' v d) : R X₀ h' v d :=
  r.mono fun b o hb ho => ⟨fun hx => hb (.inl hx), ho⟩

theorem Ev.eqI {c : Cx} {h : Heap} {e : Expr} {x y : Int} (r : Ev c h e (.int x)) (k : x = y) : Ev c h e (.int y) := k ▸ r
theorem mulOk_small {a b : Int} (ha : a.natAbs < 2 ^ 30) (hb : b.natAbs < 2 ^ 30) : IntMulOk a b := by
  exact IntMulOk.of_left (intBits_le_64 (by omega) (by grind))
theorem drawn_ok {mg mb : Str → Option Value} (ns : List Int) (first : Nat) (starts : Spans) (hl : ns.length ≤ 1000) (hf : first ≤ 100) (hst : starts.length ≤ 10) : FnOk mg mb pDrawn 2 [encI ns, .int first, .lst (enc starts)] (.lst (enc (drawn ns first starts))) := by
  refine FnOk.of [Str.ofString "script", Str.ofString "first", Str.ofString "starts"] ?_ ?_ ?_
  · intro vs hv pm doc c
    obtain ⟨v1, v2, v3, rfl⟩ := len3 hv
    rfl
  · intro L x hx
    simp only [List.mem_cons, List.not_mem_nil, or_false] at hx
    rcases hx with rfl | rfl | rfl <;> exact .inl rfl
  · intro w A X₀ pm doc c L a h₀ h1 rm G S
    have e1 := enc_length starts
    have hm : 0 ≤ (dig ns first).fmod (starts.length + 1) := Int.fmod_nonneg_of_pos _ (by (first | exact Int.succ_ofNat_pos (List.length starts) | lia))
    have hm2 : (dig ns first).fmod (starts.length + 1) < starts.length + 1 := Int.fmod_lt_of_pos _ (by (first | exact Int.succ_ofNat_pos (List.length starts) | lia))
    refine Exs.born S rfl rfl rfl fun gg h2 S => ?_
    have G1 := G.ext S.keep
    have hmul : ∀ k : Nat, k < 10 → IntMulOk 2 (k : Int) := fun k hk => mulOk_small (by decide) (by omega)
    refine Exs.forRange (n := drawnN ns first starts) rm.hh (G1.built (c := ((fx w A pDrawn pm doc c L a h₀ X₀).more gg).cx) (Str.ofString "range") (by simp [bltns]) rfl rfl rfl rfl (by rfl)) ?_ (by unfold drawnN; omega)
      (fun i ρ own => own = some (Str.ofString "spans", enc ((List.range i).map (drawOne ns first starts))) ∧ ρ (Str.ofString "script") = some (encI ns) ∧ ρ (Str.ofString "first") = some (.int first) ∧ ρ (Str.ofString "starts") = some (.lst (enc starts)))
      (fun i ρ own hi p hp => by rw [hi.1] at hp; cases hp; dsimp only; decide) ⟨rfl, rfl, rfl, rfl⟩ S ?_ ?_
    · refine Ev.eqI (Ev.sub (Ev.lenOf G1 (S.nm rfl) e1 (lt62 (Nat.le_trans hst (by decide)))) (Ev.mod (Ev.callFn (p := pDigit) (by simp [fnames, pDigit]) (digit_ok ns first hl (by lia)) rm G1 S.bd (Sp.cons (S.nm rfl) (Sp.cons (S.nm rfl) Sp.nil))) (Ev.add (Ev.lenOf G1 (S.nm rfl) e1 (lt62 (Nat.le_trans hst (by decide)))) Ev.int) (by (first | exact Ne.symm ((fun {x y} => bi_ine.mp) rfl) | lia)))) ?_
      unfold drawnN; omega
    · rintro i ρ own h3 hi ⟨rfl, r1, r2, r3⟩ S
      have hi' : i < starts.length := by unfold drawnN at hi; omega
      have G2 := G.ext S.keep
      obtain ⟨p, hp⟩ : ∃ p, starts[i]? = some p := ⟨_, List.getElem?_eq_getElem hi'⟩
      have hpd : starts.getD i (0, 0) = p := by rw [List.getD_eq_getElem?_getD, hp]; rfl
      refine Exs.set (d := .int (drawOne ns first starts i).1) S (Ev.eqI (Ev.mod (Ev.add (Ev.callFn (p := pDigit) (by simp [fnames, pDigit]) (digit_ok ns (first + 2 * i + 1) hl (by lia)) rm G2 S.bd
        (Sp.cons (S.nm r1) (Sp.cons (Ev.eqI (Ev.add (Ev.add (S.nm r2) (Ev.mul Ev.int (S.nm rfl) (hmul i (by (first | exact Nat.lt_of_lt_of_le hi' hst | lia))))) Ev.int) (by push_cast; rfl)) Sp.nil))) (Ev.itemFst (S.nm r3) (S.nm rfl) hp (Nat.le_trans hst (by decide)))) Ev.int (by decide)) (by simp only [drawOne, hpd])) fun h4 S => ?_
      have G3 := G.ext S.keep
      refine Exs.set (d := .int ((drawOne ns first starts i).1 + (dig ns (first + 2 * i + 2) + p.2).fmod 24)) S (Ev.add (S.nm rfl) (Ev.mod (Ev.add (Ev.callFn (p := pDigit) (by simp [fnames, pDigit]) (digit_ok ns (first + 2 * i + 2) hl (by lia)) rm G3 S.bd
        (Sp.cons (S.nm r1) (Sp.cons (Ev.eqI (Ev.add (Ev.add (S.nm r2) (Ev.mul Ev.int (S.nm rfl) (hmul i (by (first | exact Nat.lt_of_lt_of_le hi' hst | lia))))) Ev.int) (by push_cast; rfl)) Sp.nil))) (Ev.itemSnd (S.nm r3) (S.nm rfl) hp (Nat.le_trans hst (by decide)))) Ev.int (by decide))) fun h5 S => ?_
      refine Exs.app (d := .tup [.int (drawOne ns first starts i).1, .int (drawOne ns first starts i).2]) S (fun h6 e6 => ?_) (by rw [enc_length]; simp; lia) fun h6 S => Exs.nil (stay S ⟨?_, r1, r2, r3⟩)
      · have S := S.ext e6
        have G4 := G.ext S.keep
        refine Ev.tuple S.bd (Sp.cons (S.nm rfl) (Sp.cons (Ev.eqI (Ev.callB (G4.built (c := ((fx w A pDrawn pm doc c L a h₀ X₀).more gg).cx) (Str.ofString "min") (by simp [bltns]) rfl rfl rfl rfl (by rfl)) (Sp.cons Ev.int (Sp.cons (S.nm rfl) Sp.nil)) (Cl.minI rm.hh)) ?_) Sp.nil))
        simp only [drawOne, hpd]
      · rw [List.range_succ, List.map_append]
        simp [enc]
    · rintro ρ own h3 ⟨rfl, r1, r2, r3⟩ S
      exact Exs.retOwn S fun v r => ⟨v, rfl, r⟩
end Mine
end

section
open PySem PyProof.Rows
namespace Mine
set_option autoImplicit false
set_option linter.unusedVariables false
set_option maxRecDepth 100000

theorem Tg.nameC {f : Fx} {own : Own} {x : Str} {xp : Pos} {d : D} {a : Addr} (hx : f.env.kindOf x = some .cell) (ha : f.env.cells.lookup x = some a) (hY : f.Y a) (hk : f.env.scope.kind = .function) : Tg f (.Name x xp) d (fun ρ => upd ρ x d) own := fun ρ v s Q E S r q => by
  obtain ⟨m, cm, S⟩ := S
  refine wpAny_assign_Name (wpAny_storeName_cell hk hx ha (S.cell x a ha) fun h2 hn2 hs2 => ?_)
  obtain ⟨S2, k2⟩ := S.setC hx ha hY r hn2 hs2
  exact q h2 _ k2 ⟨_, _, S2⟩
theorem made_all (g : Nat → D) (n : Nat) : made (fun _ => true) g n = (List.range n).map g := by
  unfold made
  rw [List.filter_eq_self.mpr (by simp)]
theorem map_range {α β : Type} (l : List α) (G : α → β) (e : α) : (List.range l.length).map (fun j => G (l.getD j e)) = l.map G := by
  apply List.ext_getElem
  · simp
  · intro i h1 h2
    simp at h1
    simp [h1]

/-! _law_truths -/
noncomputable def truths (l : Spans) : List Bool := (List.range 64).map fun (n : Nat) => inSp l (n : Int)
noncomputable def pTruths : Str × Nat := (Str.ofString "_law_truths", 14)
theorem truths_ok {mg mb : Str → Option Value} (l : Spans) (hl : l.length ≤ 1000) : FnOk mg mb pTruths 1 [.lst (enc l)] (.lst ((truths l).map D.bool)) := by
  refine FnOk.of [Str.ofString "spans"] ?_ ?_ ?_
  · intro vs hv pm doc c
    obtain ⟨v1, rfl⟩ := len1 hv
    rfl
  · intro L x hx
    simp only [List.mem_cons, List.not_mem_nil, or_false] at hx
    rcases hx with rfl
    exact .inr ⟨rfl, rfl⟩
  · intro w A X₀ pm doc c L a h₀ h1 rm G S
    have e1 := enc_length l
    have G1 := G.ext S.keep
    have er : (truths l).map D.bool = made (fun _ => true) (fun i => .bool (inSp l (i : Int))) 64 := by rw [made_all]; simp [truths]
    rw [er]
    refine Exs.ret (Ev.comp (n := 64) (dat := fun i => .int i) (cl := [(Str.ofString "spans", L + 1)]) S rfl (by intro p hp; rw [List.mem_singleton.mp hp]; rfl) (by simp)
      (Src.range S.bd rm.hh (G1.built (c := (fx w A pTruths pm doc c L a h₀ X₀).cx) (Str.ofString "range") (by simp [bltns]) rfl rfl rfl rfl (by rfl)) Ev.int (by decide)) (by decide) [Str.ofString "spans"]
      (by intro C x hx; rw [List.mem_singleton.mp hx]; exact ⟨rfl, rfl, rfl⟩) (fun i ρ => upd ρ (Str.ofString "n") (.int i)) (fun ρ => ρ (Str.ofString "spans") = some (.lst (enc l))) (by simp [capt]; rfl) (fun i ρ _ h => h) (.inl ⟨_, _, rfl⟩) _ _ ?_ ?_)
      fun v h' e r => ⟨v, rfl, retX r⟩
    · intro C D' h9 i ρ hi hv
      exact Tg.nameC (a := C + 1) rfl rfl (.inr ⟨⟨Str.ofString "n", rfl⟩, Nat.lt_succ_self _⟩) rfl
    · intro C D' h9 i ρ h2 hi hv he hb S
      refine ⟨Ts.nil, fun _ => ?_⟩
      have G2 := G1.ext he
      have ei : inSp l (i : Int) = (l.map fun p => decide (p.1 ≤ (i : Int)) && decide ((i : Int) ≤ p.2)).any id := by simp [inSp, List.any_map, Function.comp_def]
      have em : (l.map fun p => decide (p.1 ≤ (i : Int)) && decide ((i : Int) ≤ p.2)).map D.bool = made (fun _ => true) (fun j => .bool (decide ((l.getD j (0, 0)).1 ≤ (i : Int)) && decide ((i : Int) ≤ (l.getD j (0, 0)).2))) (enc l).length := by
        rw [made_all, e1, ← map_range l (fun p => decide (p.1 ≤ (i : Int)) && decide ((i : Int) ≤ p.2)) (0, 0), List.map_map]; rfl
      rw [ei]
      refine Ev.callB (G2.built (c := (cf (fx w A pTruths pm doc c L a h₀ X₀) _ _ C D' h9).cx) (Str.ofString "any") (by simp [bltns]) rfl rfl rfl rfl (by rfl)) (Sp.cons ?_ Sp.nil) (Cl.any rm.hh)
      rw [em]
      refine Ev.comp (cl := [(Str.ofString "n", C + 1)]) S rfl (by intro p hp; rw [List.mem_singleton.mp hp]; rfl) (by simp)
        (Src.list hb rm.hh (S.nm (n := Str.ofString "spans") hv)) (by rw [e1]; lia) [Str.ofString "n"]
        (by intro C x hx; rw [List.mem_singleton.mp hx]; exact ⟨rfl, rfl, rfl⟩) (fun j ρ => upd (upd ρ (Str.ofString "low") (.int (l.getD j (0, 0)).1)) (Str.ofString "high") (.int (l.getD j (0, 0)).2)) (fun ρ => ρ (Str.ofString "n") = some (.int i)) (by simp [capt]; rfl) (fun i ρ _ h => h) (.inr ⟨_, _, _, rfl⟩) _ _ ?_ ?_
      · intro C2 D2 h92 j ρ2 hj hv2
        have hj' : j < l.length := by (first | exact Nat.lt_of_lt_of_eq hj e1 | lia)
        have ed : (enc l).getD j .none = .tup [.int (l.getD j (0, 0)).1, .int (l.getD j (0, 0)).2] := by simp [enc, hj']
        rw [ed]
        exact Tg.pair rm.hh rfl rfl rfl (by simp) (by simp)
      · intro C2 D2 h92 j ρ2 h3 hj hv2 he2 hb2 S2
        exact ⟨Ts.nil, fun _ => Ev.chain (S2.nm rfl) (S2.nm hv2) (S2.nm rfl) Co.le (fun _ => Co.le)⟩
end Mine
end

section
open PySem PyProof.Rows
namespace Mine
set_option autoImplicit false
set_option linter.unusedVariables false
set_option maxRecDepth 100000

abbrev IsZip2 (h : Heap) (z TI TO T : Addr) (b : Bool) : Prop :=
  h.get? z = some { cls := .type "zip", dict := none, data := .fields #[rawInt T, .bool b, .bool false, .ref TI, .ref TO], slots := #[] }

section
variable {prog : Program} {w : World} {A : Around} {E : Value → Shared → Prop} {s : Shared}
theorem wpAny_alive {M : Model} {a : Addr} {o : Obj} {Q : Option Obj → Shared → Prop} (ho : s.heap.get? a = some o) (q : Q (some o) s) : wpAny M A (loadIfAlive a) Q E s := fun Γ p _ => by
  unfold loadIfAlive
  rw [Sem.wp_loadIfAlive, ho]
  exact q

theorem zip_next_busy {z TI TO T i1 i2 l1 l2 : Addr} {bb : Bool} {oT : Obj} {k1 k2 : Nat} {xs ys : Array Value} {x y : Value} {Q : Value → Shared → Prop} (D : ZipApart z TI TO i1 i2 l1 l2)
    (hz : IsZip2 s.heap z TI TO T bb) (hT : s.heap.get? T = some oT) (hTz : T ≠ z) (hTI : IsPair s.heap TI (.ref i1) (.ref i2))
    (h1 : s.heap.IsListIter i1 l1 k1) (h2 : s.heap.IsListIter i2 l2 k2) (hl1 : s.heap.IsList l1 xs) (hl2 : s.heap.IsList l2 ys) (hx : xs[k1]? = some x) (hy : ys[k2]? = some y)
    (hQ : ∀ h', IsZip2 h' z TI TO T true → h'.IsListIter i1 l1 (k1 + 1) → h'.IsListIter i2 l2 (k2 + 1) → IsPair h' s.heap.objs.size x y → h'.objs.size = s.heap.objs.size + 1 →
      (∀ c o, c ≠ z → c ≠ i1 → c ≠ i2 → s.heap.get? c = some o → h'.get? c = some o) → Q (.ref s.heap.objs.size) { s with heap := h' }) :
    wpAny (model prog w) A (Builtin.«zip.__next__» ⟨[.ref z], []⟩) (fun fin s' => ∃ v, fin = .done (.ret v) ∧ Q v s') E s := by
  show wpAny _ _ (field (.ref z) 2 >>= _) _ _ _
  refine wpAny_bind (wpAny_field hz rfl (x := .bool false) rfl ?_)
  show wpAny _ _ (field (.ref z) 3 >>= _) _ _ _
  refine wpAny_bind (wpAny_field hz rfl (x := .ref TI) rfl ?_)
  refine wpAny_bind (wpAny_seqItems hTI rfl ?_)
  show wpAny _ _ (Builtin.SmallTypes.ownedTupleIsFree (.ref z) >>= _) _ _ _
  refine wpAny_bind ?_
  unfold Builtin.SmallTypes.ownedTupleIsFree
  refine wpAny_bind (wpAny_field hz rfl (x := rawInt T) rfl ?_)
  show wpAny _ _ (loadIfAlive T >>= _) _ _ _
  refine wpAny_bind (wpAny_alive hT ?_)
  simp only [Option.isNone_some, Bool.false_eq_true, if_false]
  refine wpAny_bind (wpAny_field hz rfl (x := .bool bb) rfl ?_)
  refine wpAny_mono (Q := fun b s1 => b = false ∧ ∃ h0, s1 = { s with heap := h0 } ∧ IsZip2 h0 z TI TO T true ∧ h0.objs.size = s.heap.objs.size ∧ ∀ c o, c ≠ z → s.heap.get? c = some o → h0.get? c = some o) ?_ ?_ (fun _ _ x => x)
  · cases bb with
    | true =>
      rw [if_neg (by decide)]
      exact wpAny_pure ⟨rfl, s.heap, rfl, hz, rfl, fun _ _ _ e => e⟩
    | false =>
      rw [if_pos (by decide)]
      exact wpAny_bind (wpAny_setField_rec hz (by simp) fun h₁ hz₁ hs₁ => wpAny_pure ⟨rfl, h₁, rfl, hz₁, hs₁.1, fun c o hc e => hs₁.extBut _ _ hc e⟩)
  · rintro b s1 ⟨rfl, h0, rfl, hz0, hs0, hk0⟩
    have a1 := h1.at fun o e => hk0 _ o D.i1z e
    have a2 := h2.at fun o e => hk0 _ o D.i2z e
    have b1 := hl1.at fun o e => hk0 _ o D.l1z e
    have b2 := hl2.at fun o e => hk0 _ o D.l2z e
    simp only [Bool.false_eq_true, if_false, List.forIn_toArray, List.forIn_cons, List.forIn_nil]
    refine wpAny_bind (wpAny_bind (wpAny_bind (wpAny_holding ?_)))
    show wpAny _ _ (Builtin.SmallTypes.nextOf (.ref i1) >>= fun v => pure (some v)) _ _ _
    refine wpAny_bind (wpAny_nextOf_list_item a1 b1 hx fun h₂ h1₂ hs₂ => wpAny_pure (wpAny_pure ?_))
    refine wpAny_bind (wpAny_bind (wpAny_holding ?_))
    show wpAny _ _ (Builtin.SmallTypes.nextOf (.ref i2) >>= fun v => pure (some v)) _ _ _
    refine wpAny_bind (wpAny_nextOf_list_item (a2.extBut hs₂.extBut D.i12.symm) (b2.extBut hs₂.extBut D.l2i1) hy fun h₃ h2₃ hs₃ => wpAny_pure (wpAny_pure (wpAny_pure ?_)))
    refine wpAny_bind (wpAny_newTuple ?_ (by show _ ≤ sizeLine; rw [sizeLine_eq]; simp))
    have hz3 : h₃.objs.size = s.heap.objs.size := by rw [hs₃.1, hs₂.1, hs0]
    refine wpAny_pure ⟨_, rfl, ?_⟩
    show Q (.ref h₃.objs.size) _
    rw [hz3]
    have up : ∀ c o, h₃.get? c = some o → (h₃.push { cls := .type "tuple", data := .seq #[x, y] }).get? c = some o := fun c o e => Heap.get?_push_of_some _ e
    refine hQ _ (up _ _ (hs₃.extBut _ _ D.i2z.symm (hs₂.extBut _ _ D.i1z.symm hz0))) ((h1₂.extBut hs₃.extBut D.i12).at fun o e => up _ o e) (h2₃.at fun o e => up _ o e) ?_ (by rw [Heap.size_push, hz3]) fun c o c1 c2 c3 e => up _ _ (hs₃.extBut _ _ c3 (hs₂.extBut _ _ c2 (hk0 _ _ c1 e)))
    rw [← hz3]; exact Heap.get?_push_size _ rfl

theorem zip_busy_end {z TI TO T i1 i2 l1 l2 : Addr} {bb : Bool} {oT : Obj} {k1 k2 : Nat} {xs ys : Array Value} {Q : Fin → Shared → Prop} (hh : A.handled = none) (D : ZipApart z TI TO i1 i2 l1 l2)
    (hz : IsZip2 s.heap z TI TO T bb) (hT : s.heap.get? T = some oT) (hTz : T ≠ z) (hTI : IsPair s.heap TI (.ref i1) (.ref i2))
    (h1 : s.heap.IsListIter i1 l1 k1) (h2 : s.heap.IsListIter i2 l2 k2) (hl1 : s.heap.IsList l1 xs) (hl2 : s.heap.IsList l2 ys) (hend : xs[k1]? = none ∨ ys[k2]? = none)
    (hE : ∀ h' e, (∀ c o, c ≠ z → c ≠ TO → c ≠ i1 → c ≠ i2 → s.heap.get? c = some o → h'.get? c = some o) → (∃ o, h'.get? e = some o ∧ o.cls = .type "StopIteration") → E (.ref e) { s with heap := h' }) :
    wpAny (model prog w) A (Builtin.«zip.__next__» ⟨[.ref z], []⟩) Q E s := by
  show wpAny _ _ (field (.ref z) 2 >>= _) _ _ _
  refine wpAny_bind (wpAny_field hz rfl (x := .bool false) rfl ?_)
  show wpAny _ _ (field (.ref z) 3 >>= _) _ _ _
  refine wpAny_bind (wpAny_field hz rfl (x := .ref TI) rfl ?_)
  refine wpAny_bind (wpAny_seqItems hTI rfl ?_)
  show wpAny _ _ (Builtin.SmallTypes.ownedTupleIsFree (.ref z) >>= _) _ _ _
  refine wpAny_bind ?_
  unfold Builtin.SmallTypes.ownedTupleIsFree
  refine wpAny_bind (wpAny_field hz rfl (x := rawInt T) rfl ?_)
  show wpAny _ _ (loadIfAlive T >>= _) _ _ _
  refine wpAny_bind (wpAny_alive hT ?_)
  simp only [Option.isNone_some, Bool.false_eq_true, if_false]
  refine wpAny_bind (wpAny_field hz rfl (x := .bool bb) rfl ?_)
  refine wpAny_mono (Q := fun b s1 => b = false ∧ ∃ h0, s1 = { s with heap := h0 } ∧ ∀ c o, c ≠ z → s.heap.get? c = some o → h0.get? c = some o) ?_ ?_ (fun _ _ x => x)
  · cases bb with
    | true =>
      rw [if_neg (by decide)]
      exact wpAny_pure ⟨rfl, s.heap, rfl, fun _ _ _ e => e⟩
    | false =>
      rw [if_pos (by decide)]
      exact wpAny_bind (wpAny_setField_rec hz (by simp) fun h₁ hz₁ hs₁ => wpAny_pure ⟨rfl, h₁, rfl, fun c o hc e => hs₁.extBut _ _ hc e⟩)
  · rintro b s1 ⟨rfl, h0, rfl, hk0⟩
    have a1 := h1.at fun o e => hk0 _ o D.i1z e
    have a2 := h2.at fun o e => hk0 _ o D.i2z e
    have b1 := hl1.at fun o e => hk0 _ o D.l1z e
    have b2 := hl2.at fun o e => hk0 _ o D.l2z e
    simp only [Bool.false_eq_true, if_false, List.forIn_toArray, List.forIn_cons, List.forIn_nil]
    refine wpAny_bind (wpAny_bind (wpAny_bind (wpAny_holding ?_)))
    show wpAny _ _ (Builtin.SmallTypes.nextOf (.ref i1) >>= fun v => pure (some v)) _ _ _
    cases hx : xs[k1]? with
    | none =>
      refine wpAny_bind (wpAny_nextOf_list_end hh a1 b1 hx fun h₂ e hs₂ he => ?_)
      exact hE h₂ e (fun c o c1 _ c3 _ x => hs₂ _ _ c3 (hk0 _ _ c1 x)) he
    | some x =>
      have hy : ys[k2]? = none := by rcases hend with h | h; rw [hx] at h; cases h; exact h
      refine wpAny_bind (wpAny_nextOf_list_item a1 b1 hx fun h₂ h1₂ hs₂ => wpAny_pure (wpAny_pure ?_))
      refine wpAny_bind (wpAny_bind (wpAny_holding ?_))
      show wpAny _ _ (Builtin.SmallTypes.nextOf (.ref i2) >>= fun v => pure (some v)) _ _ _
      refine wpAny_bind (wpAny_nextOf_list_end hh (a2.extBut hs₂.extBut D.i12.symm) (b2.extBut hs₂.extBut D.l2i1) hy fun h₃ e hs₃ he => ?_)
      exact hE h₃ e (fun c o c1 _ c3 c4 x => hs₃ _ _ c4 (hs₂.extBut _ _ c3 (hk0 _ _ c1 x))) he

/-- the zip object when i items have gone to the list -/
noncomputable def Zst (z TI TO i1 i2 l1 l2 : Addr) (xs ys : Array Value) (i : Nat) (h : Heap) : Prop :=
  ((i = 0 ∧ IsZip h z TI TO .none ∧ ∃ a b, IsPair h TO a b) ∨ (0 < i ∧ ∃ T b oT, IsZip2 h z TI TO T b ∧ h.get? T = some oT ∧ T ≠ z)) ∧ (∃ oz, h.get? z = some oz ∧ oz.cls = .type "zip") ∧ (∃ o, h.get? TO = some o) ∧
  IsPair h TI (.ref i1) (.ref i2) ∧ h.IsListIter i1 l1 i ∧ h.IsListIter i2 l2 i ∧ h.IsList l1 xs ∧ h.IsList l2 ys
theorem zst_next {z TI TO i1 i2 l1 l2 : Addr} {xs ys : Array Value} {i : Nat} {x y : Value} {Q : Option Value → Shared → Prop} (D : ZipApart z TI TO i1 i2 l1 l2) (hz : Zst z TI TO i1 i2 l1 l2 xs ys i s.heap) (hx : xs[i]? = some x) (hy : ys[i]? = some y)
    (hQ : ∀ h', Zst z TI TO i1 i2 l1 l2 xs ys (i + 1) h' → IsPair h' s.heap.objs.size x y → (∀ c o, c ≠ z → c ≠ TO → c ≠ i1 → c ≠ i2 → s.heap.get? c = some o → h'.get? c = some o) → Q (some (.ref s.heap.objs.size)) { s with heap := h' }) :
    wpAny (model prog w) A (pyNext (.ref z)) Q E s := by
  obtain ⟨hc, ⟨oz, hoz, hcz⟩, ⟨oTO, hoTO⟩, hTI, a1, a2, b1, b2⟩ := hz
  have hT : s.TypeIs (.ref z) "zip" := ⟨oz, hoz, hcz⟩
  have hzlt : z < s.heap.objs.size := Heap.lt_size hoz
  have hTOlt : TO < s.heap.objs.size := Heap.lt_size hoTO
  unfold pyNext
  refine wpAny_bind (wpAny_attempt (wpAny_callSpecial?_slot (name := Str.ofString "__next__") hT F.slot_zip_next (wpAny_call_entry F.slot_zip_next hT F.entry_zip_next ?_ (F.args_zip_next_1 _))))
  have fin : ∀ h', (∃ T b oT, IsZip2 h' z TI TO T b ∧ h'.get? T = some oT ∧ T ≠ z) → (∃ o, h'.get? TO = some o) → h'.IsListIter i1 l1 (i + 1) → h'.IsListIter i2 l2 (i + 1) → IsPair h' s.heap.objs.size x y →
      (∀ c o, c ≠ z → c ≠ TO → c ≠ i1 → c ≠ i2 → s.heap.get? c = some o → h'.get? c = some o) → Q (some (.ref s.heap.objs.size)) { s with heap := h' } := by
    intro h' c1 c2 c3 c4 c5 c6
    refine hQ h' ⟨.inr ⟨Nat.succ_pos _, c1⟩, ?_, c2, c6 _ _ D.TIz D.TITO D.TIi1 D.TIi2 hTI, c3, c4, b1.at fun o e => c6 _ o D.l1z D.l1TO D.l1i1 D.l1i2 e, b2.at fun o e => c6 _ o D.l2z D.l2TO D.l2i1 D.l2i2 e⟩ c5 c6
    obtain ⟨T, b, oT, g, _⟩ := c1
    exact ⟨_, g, rfl⟩
  rcases hc with ⟨rfl, hz, a, b, hTO⟩ | ⟨hi, T, b, oT, hz, hoT, hTz⟩
  · refine zip_next_item D hz hTI hTO a1 a2 b1 b2 hx hy fun h' g1 g2 g3 g4 g5 g6 g7 => wpAny_pure (fin h' ⟨_, false, _, g1, g5, Nat.ne_of_gt hzlt⟩ ⟨_, g2⟩ g3 g4 g5 g7)
  · refine zip_next_busy D hz hoT hTz hTI a1 a2 b1 b2 hx hy fun h' g1 g3 g4 g5 g6 g7 => wpAny_pure (fin h' ?_ ⟨_, g7 _ _ D.TOz D.TOi1 D.TOi2 hoTO⟩ g3 g4 g5 fun c o c1 _ c3 c4 e => g7 c o c1 c3 c4 e)
    by_cases e1 : T = i1
    · subst e1; obtain ⟨o, ho, _⟩ := g3; exact ⟨_, true, o, g1, ho, hTz⟩
    · by_cases e2 : T = i2
      · subst e2; obtain ⟨o, ho, _⟩ := g4; exact ⟨_, true, o, g1, ho, hTz⟩
      · exact ⟨_, true, oT, g1, g7 _ _ hTz e1 e2 hoT, hTz⟩
theorem zst_end {z TI TO i1 i2 l1 l2 : Addr} {xs ys : Array Value} {i : Nat} {Q : Option Value → Shared → Prop} (hh : A.handled = none) (D : ZipApart z TI TO i1 i2 l1 l2) (hz : Zst z TI TO i1 i2 l1 l2 xs ys i s.heap) (hend : xs[i]? = none ∨ ys[i]? = none)
    (hQ : ∀ h', (∀ c o, c ≠ z → c ≠ TO → c ≠ i1 → c ≠ i2 → s.heap.get? c = some o → h'.get? c = some o) → Q none { s with heap := h' }) :
    wpAny (model prog w) A (pyNext (.ref z)) Q E s := by
  obtain ⟨hc, ⟨oz, hoz, hcz⟩, _, hTI, a1, a2, b1, b2⟩ := hz
  have hT : s.TypeIs (.ref z) "zip" := ⟨oz, hoz, hcz⟩
  unfold pyNext
  refine wpAny_bind (wpAny_attempt (wpAny_callSpecial?_slot (name := Str.ofString "__next__") hT F.slot_zip_next (wpAny_call_entry F.slot_zip_next hT F.entry_zip_next ?_ (F.args_zip_next_1 _))))
  rcases hc with ⟨rfl, hz, a, b, hTO⟩ | ⟨hi, T, b, oT, hz, hoT, hTz⟩
  · refine zip_next_end hh D hz hTI hTO a1 a2 b1 b2 hend fun h' e hk he => ?_
    obtain ⟨o, ho, hc⟩ := he
    exact wpAny_bind (wpAny_isInstance (T := "StopIteration") (b := true) ⟨o, ho, hc⟩ isSubtype_stop (wpAny_pure (hQ _ hk)))
  · refine zip_busy_end hh D hz hoT hTz hTI a1 a2 b1 b2 hend fun h' e hk he => ?_
    obtain ⟨o, ho, hc⟩ := he
    exact wpAny_bind (wpAny_isInstance (T := "StopIteration") (b := true) ⟨o, ho, hc⟩ isSubtype_stop (wpAny_pure (hQ _ hk)))

/-- what the list holds after i items -/
noncomputable def Zacc (lo : Nat) (xs ys acc : Array Value) (i : Nat) (h : Heap) : Prop := acc.size = i ∧ ∀ (j : Nat) (v : Value), acc[j]? = some v → ∃ T x y, v = Value.ref T ∧ lo ≤ T ∧ xs[j]? = some x ∧ ys[j]? = some y ∧ IsPair h T x y
theorem zip_extend {S z TI TO i1 i2 l1 l2 : Addr} {xs ys : Array Value} {R' : Result → Shared → Prop} {res : Value} (lo n : Nat) (hh : A.handled = none) (D : ZipApart z TI TO i1 i2 l1 l2) (hn : min xs.size ys.size = n) (hn1 : n ≤ 1000)
    (hSz : S ≠ z) (hSTI : S ≠ TI) (hSTO : S ≠ TO) (hS1 : S ≠ i1) (hS2 : S ≠ i2) (hSl1 : S ≠ l1) (hSl2 : S ≠ l2) :
    ∀ (k i : Nat) (s : Shared) (acc : Array Value) (c : Nat), n - i = k → i ≤ n → lo ≤ s.heap.objs.size → Zst z TI TO i1 i2 l1 l2 xs ys i s.heap → s.heap.get? S = some { cls := .type "list", dict := none, data := .seq acc c, slots := #[] } → Zacc lo xs ys acc i s.heap →
    (∀ T, (∃ j : Nat, acc[j]? = some (Value.ref T)) → T ≠ z ∧ T ≠ TO ∧ T ≠ i1 ∧ T ≠ i2 ∧ T ≠ S) →
    (∀ h' acc' c', (∀ b o, b ≠ S → b ≠ z → b ≠ TO → b ≠ i1 → b ≠ i2 → s.heap.get? b = some o → h'.get? b = some o) → h'.get? S = some { cls := .type "list", dict := none, data := .seq acc' c', slots := #[] } → Zacc lo xs ys acc' n h' → R' (.ok (.ret res)) { s with heap := h' }) →
    codeAny (model prog w) A (.builtin "list.extend.loop" ⟨[.ref S, .ref z, res], []⟩) R' s := by
  intro k
  induction k with
  | zero =>
    intro i s acc c hk hi hlo hst hS hacc hap hR
    have hin : i = n := by grind
    subst hin
    refine codeAny_builtin F.entry_extend_loop ?_
    rw [Around.under_plainId F.plain_extend_loop _]
    show wpAny _ A.in1 (pyNext (.ref z) >>= _) _ _ s
    have hend : xs[i]? = none ∨ ys[i]? = none := by
      rcases Nat.le_total xs.size ys.size with h | h
      · exact .inl (Array.getElem?_eq_none (by lia))
      · exact .inr (Array.getElem?_eq_none (by grind))
    refine wpAny_bind (zst_end (A := A.in1) hh D hst hend fun h' hk' => ?_)
    refine wpAny_pure (hR h' acc c (fun b o _ b1 b2 b3 b4 e => hk' b o b1 b2 b3 b4 e) (hk' _ _ hSz hSTO hS1 hS2 hS) ⟨hacc.1, fun j v hj => ?_⟩)
    obtain ⟨T, x, y, e1, e2, e3, e4, e5⟩ := hacc.2 j v hj
    obtain ⟨t1, t2, t3, t4, _⟩ := hap T ⟨j, e1 ▸ hj⟩
    exact ⟨T, x, y, e1, e2, e3, e4, hk' _ _ t1 t2 t3 t4 e5⟩
  | succ k ih =>
    intro i s acc c hk hi hlo hst hS hacc hap hR
    have hlt : i < n := by (first | exact Nat.lt_of_sub_eq_succ hk | lia)
    refine codeAny_builtin F.entry_extend_loop ?_
    rw [Around.under_plainId F.plain_extend_loop _]
    show wpAny _ A.in1 (pyNext (.ref z) >>= _) _ _ s
    have hx : xs[i]? = some (xs[i]'(by grind)) := Array.getElem?_eq_getElem _
    have hy : ys[i]? = some (ys[i]'(by grind)) := Array.getElem?_eq_getElem _
    refine wpAny_bind (zst_next D hst hx hy fun h' hst' hp hk' => ?_)
    have hS' := hk' _ _ hSz hSTO hS1 hS2 hS
    show wpAny _ A.in1 (updateSeq S (·.push (.ref s.heap.objs.size)) >>= _) _ _ _
    refine wpAny_bind ?_
    have hTS : s.heap.objs.size ≠ S := Nat.ne_of_gt (Heap.lt_size hS)
    have kk : ∀ b o, b ≠ S → h'.get? b = some o → (h'.update S (Obj.mapSeq (·.push (.ref s.heap.objs.size)))).get? b = some o := fun b o hb e => (Heap.get?_update_other _ _ (Ne.symm hb)).trans e
    obtain ⟨hc, ⟨oz, hoz, hcz⟩, ⟨oTO, hoTO⟩, hTI, a1, a2, b1, b2⟩ := id hst
    have hsz : s.heap.objs.size ≤ h'.objs.size := Nat.le_of_lt (Heap.lt_size hp)
    refine wpAny_updateSeq hS' rfl (wpAny_pure ⟨plainId_quiet F.plain_extend_loop _, ih (i + 1) _ (acc.push (.ref s.heap.objs.size)) _ (by grind) hlt ?_ ?_ (Heap.get?_update_self _ hS' rfl) ⟨by rw [Array.size_push, hacc.1], ?_⟩ ?_ fun h'' acc' c' hk'' hS'' hacc' => ?_⟩)
      (by rw [hacc.1, sizeLine_eq]; lia) (by show (acc.push _).size ≤ sizeLine + 1; rw [Array.size_push, hacc.1, sizeLine_eq]; lia)
    · show lo ≤ (h'.update S _).objs.size
      rw [Heap.size_update]; exact Nat.le_trans hlo hsz
    · obtain ⟨c1, ⟨oz', hoz', hcz'⟩, ⟨oTO', hoTO'⟩, c2, c3, c4, c5, c6⟩ := hst'
      refine ⟨?_, ⟨oz', kk _ _ hSz.symm hoz', hcz'⟩, ⟨oTO', kk _ _ hSTO.symm hoTO'⟩, kk _ _ hSTI.symm c2, c3.at fun o e => kk _ o hS1.symm e, c4.at fun o e => kk _ o hS2.symm e, c5.at fun o e => kk _ o hSl1.symm e, c6.at fun o e => kk _ o hSl2.symm e⟩
      rcases c1 with ⟨c1, _⟩ | ⟨c1, T, b, oT, g1, g2, g3⟩
      · exact absurd c1 (Nat.succ_ne_zero _)
      · refine .inr ⟨c1, T, b, ?_⟩
        by_cases eT : T = S
        · exact ⟨_, kk _ _ hSz.symm g1, (by rw [eT]; exact Heap.get?_update_self _ hS' rfl), g3⟩
        · exact ⟨oT, kk _ _ hSz.symm g1, kk _ _ eT g2, g3⟩
    · intro j v hj
      rw [Array.getElem?_push] at hj
      split at hj
      · rename_i e
        cases hj
        rw [hacc.1] at e; subst e
        exact ⟨_, _, _, rfl, hlo, hx, hy, kk _ _ hTS hp⟩
      · obtain ⟨T, x, y, e1, e2, e3, e4, e5⟩ := hacc.2 j v hj
        obtain ⟨t1, t2, t3, t4, t5⟩ := hap T ⟨j, e1 ▸ hj⟩
        exact ⟨T, x, y, e1, e2, e3, e4, kk _ _ t5 (hk' _ _ t1 t2 t3 t4 e5)⟩
    · rintro T ⟨j, hj⟩
      rw [Array.getElem?_push] at hj
      split at hj
      · cases hj
        refine ⟨Nat.ne_of_gt (Heap.lt_size hoz), Nat.ne_of_gt (Heap.lt_size hoTO), ?_, ?_, hTS⟩
        · obtain ⟨o, ho, _⟩ := a1; exact Nat.ne_of_gt (Heap.lt_size ho)
        · obtain ⟨o, ho, _⟩ := a2; exact Nat.ne_of_gt (Heap.lt_size ho)
      · exact hap T ⟨j, hj⟩
    · exact hR h'' acc' c' (fun b o b0 b1 b2 b3 b4 e => hk'' b o b0 b1 b2 b3 b4 (kk _ _ b0 (hk' _ _ b1 b2 b3 b4 e))) hS'' hacc'

theorem zip_no_len : typeLookup (.type "zip") "__len__" = pure none := by rw [typeLookup_type, builtinLookup_eq_fast]; kernel_rfl
theorem zip_no_hint : typeLookup (.type "zip") "__length_hint__" = pure none := by rw [typeLookup_type, builtinLookup_eq_fast]; kernel_rfl

theorem list_of_zip {z TI TO i1 i2 l1 l2 : Addr} {xs ys : Array Value} {Q : Value → Shared → Prop} (lo : Nat) (hh : A.handled = none) (D : ZipApart z TI TO i1 i2 l1 l2) (hn1 : min xs.size ys.size ≤ 1000)
    (hz : IsZip s.heap z TI TO .none) (hTI : IsPair s.heap TI (.ref i1) (.ref i2)) (hTO : IsPair s.heap TO .none .none) (h1 : s.heap.IsListIter i1 l1 0) (h2 : s.heap.IsListIter i2 l2 0) (hl1 : s.heap.IsList l1 xs) (hl2 : s.heap.IsList l2 ys) (hlo : lo ≤ s.heap.objs.size)
    (hQ : ∀ h' acc' c', (∀ b o, b ≠ z → b ≠ TO → b ≠ i1 → b ≠ i2 → s.heap.get? b = some o → h'.get? b = some o) → h'.get? s.heap.objs.size = some { cls := .type "list", dict := none, data := .seq acc' c', slots := #[] } →
      Zacc lo xs ys acc' (min xs.size ys.size) h' → Q (.ref s.heap.objs.size) { s with heap := h' }) :
    wpAny (model prog w) A (call (.type "list") [.ref z]) Q E s := by
  have lt : ∀ {a : Addr} {o : Obj}, s.heap.get? a = some o → s.heap.objs.size ≠ a := fun e => Nat.ne_of_gt (Heap.lt_size e)
  have hSz := lt hz
  have hSTI := lt hTI
  have hSTO := lt hTO
  have hS1 : s.heap.objs.size ≠ i1 := by obtain ⟨o, ho, _⟩ := h1; exact lt ho
  have hS2 : s.heap.objs.size ≠ i2 := by obtain ⟨o, ho, _⟩ := h2; exact lt ho
  have hSl1 : s.heap.objs.size ≠ l1 := by obtain ⟨o, ho, _⟩ := hl1; exact lt ho
  have hSl2 : s.heap.objs.size ≠ l2 := by obtain ⟨o, ho, _⟩ := hl2; exact lt ho
  refine callType_codes (Q₁ := fun obj s₁ => obj = .ref s.heap.objs.size ∧ s₁ = { s with heap := s.heap.push { cls := .type "list", data := .seq #[] } }) F.called_list (F.typeCall_list_1 _) F.entry_list_init
    (code_list_new _ ⟨rfl, rfl⟩) fun obj s₁ h₁ => ?_
  obtain ⟨rfl, rfl⟩ := h₁
  have hS : (s.heap.push { cls := .type "list", data := .seq #[] }).get? s.heap.objs.size = some { cls := .type "list", data := .seq #[] } := Heap.get?_push_size _ rfl
  refine ⟨⟨_, hS, rfl⟩, F.args_list_init_2 _ _, ?_⟩
  show wpAny _ A.in1.in1 (do let old ← Builtin.List.listItems (.ref s.heap.objs.size); Builtin.List.listUpdate (.ref s.heap.objs.size) (fun _ => #[]); letGo old.toList.reverse; Builtin.List.listExtendWith (.ref s.heap.objs.size) (.ref z) .none) _ _ _
  refine wpAny_bind ?_
  unfold Builtin.List.listItems
  refine wpAny_bind (wpAny_seqItems hS rfl (wpAny_pure ?_))
  show wpAny _ A.in1.in1 (updateSeq s.heap.objs.size (fun _ => #[]) >>= fun _ => letGo (#[] : Array Value).toList.reverse >>= fun _ => Builtin.List.listExtendWith (.ref s.heap.objs.size) (.ref z) .none) _ _ _
  refine wpAny_bind (wpAny_updateSeq hS rfl ?_)
  have hS₂ := Heap.get?_update_self (Obj.mapSeq (fun _ => (#[] : Array Value))) hS rfl
  have oth : ∀ b o, s.heap.get? b = some o → ((s.heap.push { cls := .type "list", data := .seq #[] }).update s.heap.objs.size (Obj.mapSeq (fun _ => (#[] : Array Value)))).get? b = some o :=
    fun b o e => (Heap.get?_update_other _ _ (lt e)).trans (Heap.get?_push_of_some _ e)
  refine wpAny_bind (wpAny_letGo ?_)
  generalize hH : (s.heap.push { cls := .type "list", data := .seq #[] }).update s.heap.objs.size (Obj.mapSeq (fun _ => (#[] : Array Value))) = H at hS₂ oth ⊢
  have hHs : s.heap.objs.size ≤ H.objs.size := by rw [← hH, Heap.size_update, Heap.size_push]; exact Nat.le_succ _
  have hT : ({ s with heap := H } : Shared).TypeIs (.ref z) "zip" := ⟨_, oth _ _ hz, rfl⟩
  unfold Builtin.List.listExtendWith
  refine wpAny_bind (wpAny_typeOf hT ?_)
  have g1 : Builtin.List.listSameRef (.ref s.heap.objs.size) (.ref z) = false := by simp [Builtin.List.listSameRef, hSz]
  have g2 : (Value.type "zip" == Value.type "list") = false := by decide
  have g3 : (Value.type "zip" == Value.type "tuple") = false := by decide
  simp only [g1, g2, g3, Bool.or_false, Bool.false_eq_true, if_false]
  refine wpAny_bind (wpAny_pyIter_zip (oth _ _ hz) ?_)
  refine wpAny_bind (wpAny_holding ?_)
  unfold Builtin.List.listLengthHint
  refine wpAny_bind (wpAny_specialOf hT zip_no_len ?_)
  show wpAny _ A.in1.in1 (specialOf (Value.ref z) (Str.ofString "__length_hint__") >>= _) _ _ _
  refine wpAny_bind (wpAny_specialOf hT zip_no_hint ?_)
  refine wpAny_pure ?_
  show wpAny _ A.in1.in1 (rule "list.extend.makes-room" >>= fun _ => Builtin.List.listTouch (.ref s.heap.objs.size) >>= fun _ =>
    again (.builtin "list.extend.loop" ⟨[.ref s.heap.objs.size, .ref z, .none], []⟩)) _ _ _
  refine wpAny_bind (wpAny_rule ?_)
  refine wpAny_bind ?_
  show wpAny _ A.in1.in1 (updateSeq s.heap.objs.size (·.push .none) >>= fun _ => updateSeq s.heap.objs.size (·.pop)) _ _ _
  refine wpAny_bind (wpAny_updateSeq hS₂ rfl ?_)
  have hS₃ := Heap.get?_update_self (Obj.mapSeq (·.push Value.none)) hS₂ rfl
  refine wpAny_updateSeq (hz := by seq_fits) hS₃ rfl ?_
  have hS₄ := Heap.get?_update_self (Obj.mapSeq (·.pop)) hS₃ rfl
  have oth2 : ∀ b o, s.heap.get? b = some o → ((H.update s.heap.objs.size (Obj.mapSeq (·.push Value.none))).update s.heap.objs.size (Obj.mapSeq (·.pop))).get? b = some o :=
    fun b o e => (Heap.get?_update_other _ _ (lt e)).trans ((Heap.get?_update_other _ _ (lt e)).trans (oth b o e))
  refine wpAny_pure ⟨plainId_quiet F.plain_extend_loop _, zip_extend (A := A.in1) lo _ hh D rfl hn1 hSz hSTI hSTO hS1 hS2 hSl1 hSl2 _ 0 _ _ _ rfl (Nat.zero_le _) ?_ ?_ hS₄ ⟨rfl, fun j v hj => by simp at hj⟩ (by rintro T ⟨j, hj⟩; simp at hj) fun h' acc' c' hk hS' hacc => ?_⟩
  · show lo ≤ ((H.update _ _).update _ _).objs.size
    rw [Heap.size_update, Heap.size_update]; exact Nat.le_trans hlo hHs
  · exact ⟨.inl ⟨rfl, oth2 _ _ hz, _, _, oth2 _ _ hTO⟩, ⟨_, oth2 _ _ hz, rfl⟩, ⟨_, oth2 _ _ hTO⟩, oth2 _ _ hTI, h1.at fun o e => oth2 _ o e, h2.at fun o e => oth2 _ o e, hl1.at fun o e => oth2 _ o e, hl2.at fun o e => oth2 _ o e⟩
  · exact ⟨rfl, hQ h' acc' c' (fun b o b1 b2 b3 b4 e => hk b o (fun e' => lt e e'.symm) b1 b2 b3 b4 (oth2 _ _ e)) hS' hacc⟩
end
end Mine
end

section
open PySem PyProof.Rows
namespace Mine
set_option autoImplicit false
set_option linter.unusedVariables false
set_option maxRecDepth 100000
theorem zapart {N l1 l2 : Nat} (h1 : l1 < N) (h2 : l2 < N) : ZipApart (N + 4) (N + 2) (N + 3) N (N + 1) l1 l2 := by
  constructor <;> (show ¬ ((_ : Nat) = _)) <;> (first | assumption | lia | omega | grind)
section
variable {c : Cx} {h : Heap} {a b : Expr} {pos : Pos}
theorem Ev.listZip {ln zn : Str} {lp zp zc : Pos} {ds es : List D} (hA : c.A.handled = none) (hX : Bd c.X h) (hlist : Lv c h ln (.type "list")) (hzip : Lv c h zn (.type "zip")) (ha : Ev c h a (.lst ds)) (hb : Ev c h b (.lst es)) (hn : ds.length ≤ 1000)
    (hse : starEach [.Call (.Name zn zp) [a, b] [] zc] c.env = (false, eval (.Call (.Name zn zp) [a, b] [] zc) c.env) :: starEach [] c.env := by rfl)
    (hs1 : starEach (a :: [b]) c.env = (false, eval a c.env) :: starEach [b] c.env := by rfl) (hs2 : starEach (b :: []) c.env = (false, eval b c.env) :: starEach [] c.env := by rfl) (hp : ∀ p, (backTo p (starEach [b] c.env)).any (·.1) = false := by intro _; rfl) :
    Ev c h (.Call (.Name ln lp) [.Call (.Name zn zp) [a, b] [] zc] [] pos) (.lst (List.zipWith (fun x y => .tup [x, y]) ds es)) := fun s Q E hx q => by
  refine Call_ (hlist s _ _ _ hx (callWith_type1 (args_cons (Call_ (hzip s _ _ _ hx (callWith_type1 (Sp.cons ha (Sp.cons hb Sp.nil hs2) hs1 _ s _ _ hx fun vs h1 t1 e1 r1 => ?_) hs1 (hp _)))) hse) hse rfl))
  cases r1 with
  | cons r1 r2 =>
    cases r2 with
    | cons r2 r3 =>
      cases r3
      cases r1 with
      | lst hX1 hl1 rs1 =>
        cases r2 with
        | lst hX2 hl2 rs2 =>
          rename_i l1 ws1 l2 ws2
          have k1 : l1 < h1.objs.size := by obtain ⟨_, e, _⟩ := hl1; exact Heap.lt_size e
          have k2 : l2 < h1.objs.size := by obtain ⟨_, e, _⟩ := hl2; exact Heap.lt_size e
          refine call_zip_2 hl1 hl2 fun h2 z1 z2 z3 z4 z5 z6 z7 => ?_
          dsimp only at z1 z2 z3 z4 z5 z6 z7 ⊢
          refine args_nil ?_
          have hw1 := rs1.length
          have hw2 := rs2.length
          refine list_of_zip (s := { s with heap := h2, toks := t1 }) h1.objs.size hA (zapart k1 k2) ?_ z1 z2 z3 z4 z5 (hl1.at fun o e => z7 _ o e) (hl2.at fun o e => z7 _ o e) (by show h1.objs.size ≤ h2.objs.size; (first | exact Nat.le.intro (id (Eq.symm z6)) | lia)) fun h3 acc c' hk hS hacc => ?_
          · rw [List.size_toArray]; grind
          · have fr : ∀ (b : Nat) (o : Obj), h1.get? b = some o → h3.get? b = some o := fun b o e => by
              have hb : b < h1.objs.size := Heap.lt_size e
              refine hk b o ?_ ?_ ?_ ?_ (z7 _ _ e) <;> (show ¬ ((_ : Nat) = _)) <;> (first | assumption | lia | omega | grind)
            have hXb := (hX.ext hx).ext e1
            have old : ∀ b, c.X b → b < h1.objs.size := fun b hb => by obtain ⟨o, ho⟩ := hXb b hb; exact Heap.lt_size ho
            refine q _ h3 t1 (e1.trans fr) (R.lst (vs := acc.toList) (fun hX => ?_) ⟨_, hS, rfl, c', by simp⟩ ?_)
            · have hX' : h2.objs.size < h1.objs.size := old _ hX
              lia
            · have gen : ∀ (k : Nat) (vs : List Value) (ds es : List D) (as bs : List Value), RS c.X h1 as ds → RS c.X h1 bs es → vs.length = min as.length bs.length →
                  (∀ (j : Nat) (v : Value), vs[j]? = some v → ∃ T x y, v = Value.ref T ∧ h1.objs.size ≤ T ∧ as[j]? = some x ∧ bs[j]? = some y ∧ IsPair h3 T x y) → vs.length = k → RS c.X h3 vs (List.zipWith (fun x y => .tup [x, y]) ds es) := by
                intro k
                induction k with
                | zero =>
                  intro vs ds es as bs ra rb hl hv hk
                  have : vs = [] := List.length_eq_zero_iff.mp hk
                  subst this
                  cases ra with
                  | nil => exact .nil
                  | cons _ _ =>
                    cases rb with
                    | nil => simpa using RS.nil
                    | cons _ _ => simp at hl
                | succ k ih =>
                  intro vs ds es as bs ra rb hl hv hk
                  match vs, hk with
                  | v :: vs, hk =>
                    cases ra with
                    | nil => simp at hl
                    | cons a1 ra =>
                      cases rb with
                      | nil => simp at hl
                      | cons b1 rb =>
                        obtain ⟨T, x, y, rfl, hT, hx', hy', hp'⟩ := hv 0 v rfl
                        simp at hx' hy'
                        subst hx' hy'
                        refine .cons (.tup (vs := [_, _]) (fun hX => Nat.not_le_of_lt (old _ hX) hT) ⟨_, hp', rfl, _, rfl⟩ (.cons (a1.ext fr) (.cons (b1.ext fr) .nil))) (ih vs _ _ _ _ ra rb (by simp at hl; omega) (fun j v' hj => ?_) (by simpa using hk))
                        exact hv (j + 1) v' (by simpa using hj)
              refine gen _ acc.toList ds es ws1 ws2 rs1 rs2 ?_ (fun j v hj => ?_) rfl
              · have := hacc.1; simp at this ⊢; omega
              · obtain ⟨T, x, y, e1, e2, e3, e4, e5⟩ := hacc.2 j v (by simpa using hj)
                exact ⟨T, _, _, e1, e2, (by simpa using e3), (by simpa using e4), e5⟩
end
end Mine
end

section
open PySem PyProof.Rows
namespace Mine
set_option autoImplicit false
set_option linter.unusedVariables false
set_option maxRecDepth 100000

/-! _law_runs -/
noncomputable def edged (bs : List Bool) : List Bool := false :: (bs ++ [false])
noncomputable def edge (bs : List Bool) (i : Nat) : Bool := (edged bs).getD i false
noncomputable def lowsN (bs : List Bool) : List Nat := (List.range bs.length).filter fun i => edge bs (i + 1) && !edge bs i
noncomputable def highsN (bs : List Bool) : List Nat := (List.range bs.length).filter fun i => edge bs (i + 1) && !edge bs (i + 2)
noncomputable def runs (bs : List Bool) : Spans := List.zipWith (fun (a b : Nat) => ((a : Int), (b : Int))) (lowsN bs) (highsN bs)
noncomputable def pRuns : Str × Nat := (Str.ofString "_law_runs", 15)
theorem edged_length (bs : List Bool) : (edged bs).length = bs.length + 2 := by simp [edged]
theorem edged_get (bs : List Bool) {i : Nat} (h : i < bs.length + 2) : ((edged bs).map D.bool)[i]? = some (D.bool (edge bs i)) := by
  rw [List.getElem?_map, List.getElem?_eq_getElem (by rw [edged_length]; exact h)]
  unfold edge
  rw [List.getD_eq_getElem?_getD, List.getElem?_eq_getElem (by rw [edged_length]; exact h)]; rfl

theorem runs_ok {mg mb : Str → Option Value} (bs : List Bool) (hl : bs.length ≤ 500) : FnOk mg mb pRuns 1 [.lst (bs.map D.bool)] (.lst (enc (runs bs))) := by
  refine FnOk.of [Str.ofString "truths"] ?_ ?_ ?_
  · intro vs hv pm doc c
    obtain ⟨v1, rfl⟩ := len1 hv
    rfl
  · intro L x hx
    simp only [List.mem_cons, List.not_mem_nil, or_false] at hx
    rcases hx with rfl
    exact .inl rfl
  · intro w A X₀ pm doc c L a h₀ h1 rm G S
    have ee : (edged bs).map D.bool = [D.bool false] ++ bs.map D.bool ++ [D.bool false] := by simp [edged]
    refine Exs.setC (d := .lst ((edged bs).map D.bool)) (a := L + 1) S (by rw [ee]; exact Ev.cat S.bd (Ev.cat S.bd (Ev.list S.bd (Sp.cons Ev.bool Sp.nil)) (S.nm rfl) (by simp; lia)) (Ev.list S.bd (Sp.cons Ev.bool Sp.nil)) (by simp; lia)) (fun h2 S => ?_) rfl (.inr ⟨Str.ofString "edged", rfl⟩)
    have G1 := G.ext S.keep
    have item : ∀ {scope : Scope} {cl : List (Str × Addr)} {C D' : Addr} {h9 h2 : Heap} {ρ : Str → Option D} {e : Expr} {np pos : Pos} (S : St (cf (fx w A pRuns pm doc c L a h₀ X₀) scope cl C D' h9) ρ none h2) (hk : (cf (fx w A pRuns pm doc c L a h₀ X₀) scope cl C D' h9).env.scope.kind = .function) (j : Nat), j < bs.length + 2 → ρ (Str.ofString "edged") = some (.lst ((edged bs).map D.bool)) →
        Ev (cf (fx w A pRuns pm doc c L a h₀ X₀) scope cl C D' h9).cx h2 e (.int j) → (∀ l t, subscripted e false (.ref l) (.int j t) = operate [.ref l, .int j t] (getItem (.ref l) (.int j t))) →
        Ev (cf (fx w A pRuns pm doc c L a h₀ X₀) scope cl C D' h9).cx h2 (.Subscript (.Name (Str.ofString "edged") np) e pos) (.bool (edge bs j)) :=
      fun S hk j hj r e hs => Ev.item (S.nm r hk) e (by (first | exact Int.natCast_nonneg j | lia)) (by lia) (edged_get bs hj) hs
    refine Exs.setComp (n := bs.length) (dat := fun i => .int i) (cl := [(Str.ofString "edged", L + 1)]) S rfl (by intro p hp; rw [List.mem_singleton.mp hp]; rfl) (by simp)
      (Src.range S.bd rm.hh (G1.built (c := (fx w A pRuns pm doc c L a h₀ X₀).cx) (Str.ofString "range") (by simp [bltns]) rfl rfl rfl rfl (by rfl)) (Ev.lenOf G1 (S.nm (n := Str.ofString "truths") rfl) (by simp) (by lia)) (by lia)) (by lia) [Str.ofString "edged"]
      (by intro C x hx; rw [List.mem_singleton.mp hx]; exact ⟨rfl, rfl, rfl⟩) (fun i ρ => upd ρ (Str.ofString "n") (.int i)) (fun ρ => ρ (Str.ofString "edged") = some (.lst ((edged bs).map D.bool))) (by simp [capt]; rfl) (fun i ρ _ h => h) (.inl ⟨_, _, rfl⟩)
      (fun i => edge bs (i + 1) && !edge bs i) (fun i => .int i) ?_ ?_ (fun h3 S => ?_)
    · intro C D' h9 i ρ hi hv
      exact Tg.name rfl rfl (by simp)
    · intro C D' h9 i ρ h3 hi hv he hb S
      refine ⟨Ts.one (Te.and (Te.val (item S rfl (i + 1) (by lia) hv (Ev.eqI (Ev.add (S.nm rfl) Ev.int) (by push_cast; rfl)) (by intro _ _; with_unfolding_all rfl)) Tr.bool) fun _ => Te.not (Te.val (item S rfl i (by (first | exact Nat.lt_add_right 2 hi | lia)) hv (S.nm rfl) (by intro _ _; with_unfolding_all rfl)) Tr.bool)), fun _ => S.nm rfl⟩
    have G2 := G.ext S.keep
    refine Exs.setComp (n := bs.length) (dat := fun i => .int i) (cl := [(Str.ofString "edged", L + 1)]) S rfl (by intro p hp; rw [List.mem_singleton.mp hp]; rfl) (by simp)
      (Src.range S.bd rm.hh (G2.built (c := (fx w A pRuns pm doc c L a h₀ X₀).cx) (Str.ofString "range") (by simp [bltns]) rfl rfl rfl rfl (by rfl)) (Ev.lenOf G2 (S.nm (n := Str.ofString "truths") rfl) (by simp) (by lia)) (by lia)) (by lia) [Str.ofString "edged"]
      (by intro C x hx; rw [List.mem_singleton.mp hx]; exact ⟨rfl, rfl, rfl⟩) (fun i ρ => upd ρ (Str.ofString "n") (.int i)) (fun ρ => ρ (Str.ofString "edged") = some (.lst ((edged bs).map D.bool))) (by simp [capt]; rfl) (fun i ρ _ h => h) (.inl ⟨_, _, rfl⟩)
      (fun i => edge bs (i + 1) && !edge bs (i + 2)) (fun i => .int i) ?_ ?_ (fun h4 S => ?_)
    · intro C D' h9 i ρ hi hv
      exact Tg.name rfl rfl (by simp)
    · intro C D' h9 i ρ h4 hi hv he hb S
      refine ⟨Ts.one (Te.and (Te.val (item S rfl (i + 1) (by lia) hv (Ev.eqI (Ev.add (S.nm rfl) Ev.int) (by push_cast; rfl)) (by intro _ _; with_unfolding_all rfl)) Tr.bool) fun _ => Te.not (Te.val (item S rfl (i + 2) (by (first | exact Nat.add_lt_add_right hi 2 | lia)) hv (Ev.eqI (Ev.add (S.nm rfl) Ev.int) (by push_cast; rfl)) (by intro _ _; with_unfolding_all rfl)) Tr.bool)), fun _ => S.nm rfl⟩
    have G3 := G.ext S.keep
    have er : enc (runs bs) = List.zipWith (fun x y => D.tup [x, y]) (made (fun i => edge bs (i + 1) && !edge bs i) (fun i => .int i) bs.length) (made (fun i => edge bs (i + 1) && !edge bs (i + 2)) (fun i => .int i) bs.length) := by
      unfold enc runs made lowsN highsN
      rw [List.map_zipWith, List.zipWith_map]
    rw [er]
    exact Exs.ret (Ev.listZip rm.hh S.bd (G3.built (c := (fx w A pRuns pm doc c L a h₀ X₀).cx) (Str.ofString "list") (by simp [bltns]) rfl rfl rfl rfl (by rfl)) (G3.built (c := (fx w A pRuns pm doc c L a h₀ X₀).cx) (Str.ofString "zip") (by simp [bltns]) rfl rfl rfl rfl (by rfl))
      (S.nm rfl) (S.nm rfl) (Nat.le_trans (made_le _ _ _) (by lia))) fun v h' e r => ⟨v, rfl, retX r⟩
end Mine
end

section
open PySem PyProof.Rows PySem.W
namespace Mine
set_option autoImplicit false
set_option linter.unusedVariables false
set_option maxRecDepth 100000

/-! the sort's tree, read with a key -/
noncomputable def Gd (n : Nat) (key : Nat → Int) {α : Type} : KasT α → (α → Prop) → Prop
  | .ret a, Q => Q a
  | .ask i j k, Q => i < n ∧ j < n ∧ Gd n key (k (decide (key i < key j))) Q
theorem Gd.bind {n : Nat} {key : Nat → Int} {α β : Type} {f : α → KasT β} {Q : β → Prop} : ∀ {t : KasT α}, Gd n key t (fun a => Gd n key (f a) Q) → Gd n key (t.bind f) Q
  | .ret _, h => h
  | .ask _ _ k, h => ⟨h.1, h.2.1, Gd.bind (t := k _) h.2.2⟩
theorem Gd.mono {n : Nat} {key : Nat → Int} {α : Type} {Q Q' : α → Prop} (hq : ∀ a, Q a → Q' a) : ∀ {t : KasT α}, Gd n key t Q → Gd n key t Q'
  | .ret _, h => hq _ h
  | .ask _ _ k, h => ⟨h.1, h.2.1, Gd.mono hq (t := k _) h.2.2⟩
theorem Gd.wp {n : Nat} {key : Nat → Int} {α : Type} {cmp : Nat → Nat → (Bool → Shared → Prop) → Shared → Prop} {Q : α → Prop} {R : α → Shared → Prop} {s : Shared}
    (hc : ∀ i j C, i < n → j < n → C (decide (key i < key j)) s → cmp i j C s) (hr : ∀ a, Q a → R a s) : ∀ {t : KasT α}, Gd n key t Q → t.kasWp cmp R s
  | .ret _, h => hr _ h
  | .ask _ _ k, h => hc _ _ _ h.1 h.2.1 (Gd.wp hc hr (t := k _) h.2.2)

section
variable {n : Nat} {key : Nat → Int}
noncomputable def Kp' (key : Nat → Int) (p : Array Nat) (i : Nat) : Int := key (p.getD i 0)
structure Bs (n : Nat) (p : Array Nat) : Prop where
  perm : p.Perm (List.toArray (List.range n))
theorem Bs.size {p : Array Nat} (b : Bs n p) : p.size = n := by rw [b.perm.size_eq]; simp
theorem Bs.lt {p : Array Nat} (b : Bs n p) {i : Nat} (hi : i < n) : p.getD i 0 < n := by
  have h : i < p.size := by rw [b.size]; exact hi
  have e : p.getD i 0 = p[i] := by simp [Array.getD, h]
  rw [e]
  have : p[i] ∈ (List.toArray (List.range n)) := b.perm.mem_iff.mp (Array.getElem_mem h)
  simpa using this
theorem Bs.rev {p : Array Nat} (b : Bs n p) (i j : Nat) : Bs n (kas_rev p i j) := ⟨(mirror_perm _ _ _ _).trans b.perm⟩
theorem Bs.bub {p : Array Nat} (b : Bs n p) (i j : Nat) : Bs n (bubble p i j) := ⟨(bubble_perm _ _ _).trans b.perm⟩
theorem getD_of {p q : Array Nat} {i j : Nat} (h : p[i]? = q[j]?) : p.getD i 0 = q.getD j 0 := by
  rw [Array.getD_eq_getD_getElem?, Array.getD_eq_getD_getElem?, h]
theorem Kp_rev {p : Array Nat} {i j : Nat} (hj : j ≤ p.size) (k : Nat) : Kp' key (kas_rev p i j) k = if i ≤ k ∧ k < j then Kp' key p (i + j - 1 - k) else Kp' key p k := by
  have e := getElem?_mirror_all (i := i) hj k
  unfold Kp' kas_rev
  by_cases h : i ≤ k ∧ k < j
  · rw [if_pos h] at e ⊢; rw [getD_of e]
  · rw [if_neg h] at e ⊢; rw [getD_of e]
theorem Kp_bub {p : Array Nat} {src d : Nat} (hs : src < p.size) (hd : d ≤ src) (k : Nat) : Kp' key (bubble p src d) k = if k = src - d then Kp' key p src else if src - d < k ∧ k ≤ src then Kp' key p (k - 1) else Kp' key p k := by
  have e := getElem?_bubble hs d hd k
  unfold Kp'
  by_cases h1 : k = src - d
  · rw [if_pos h1] at e ⊢; rw [getD_of e]
  · rw [if_neg h1] at e ⊢
    by_cases h2 : src - d < k ∧ k ≤ src
    · rw [if_pos h2] at e ⊢; rw [getD_of e]
    · rw [if_neg h2] at e ⊢; rw [getD_of e]
noncomputable def Up (key : Nat → Int) (p : Array Nat) (m : Nat) : Prop := ∀ i j, i ≤ j → j < m → Kp' key p i ≤ Kp' key p j
noncomputable def Dn (key : Nat → Int) (p : Array Nat) (m : Nat) : Prop := ∀ i j, i ≤ j → j < m → Kp' key p j ≤ Kp' key p i

theorem asc_gd {p : Array Nat} (b : Bs n p) {Q : Nat → Prop} : ∀ (f m : Nat), 1 ≤ m → m + f ≤ n → Up key p m → (∀ k, m ≤ k → k ≤ m + f → Up key p k → (k = m + f ∨ Kp' key p k < Kp' key p (k - 1)) → Q k) → Gd n key (kas_asc p f m) Q
  | 0, m, h1, h2, hu, q => q m (Nat.le_refl _) (Nat.le_refl _) hu (.inl rfl)
  | f + 1, m, h1, h2, hu, q => by
    refine ⟨b.lt (by (first | exact Nat.lt_of_add_right_lt h2 | lia)), b.lt (by omega), ?_⟩
    show Gd n key (if decide (Kp' key p m < Kp' key p (m - 1)) = true then KasT.ret m else kas_asc p f (m + 1)) Q
    by_cases h : Kp' key p m < Kp' key p (m - 1)
    · rw [if_pos (by simpa using h)]; exact q m (Nat.le_refl _) (by (first | exact Nat.le_add_right m (f + 1) | lia)) hu (.inr h)
    · rw [if_neg (by simpa using h)]
      refine asc_gd b f (m + 1) (by (first | exact Nat.le_add_right_of_le h1 | lia)) (by lia) (fun i j hij hj => ?_) fun k a1 a2 a3 a4 => q k (by (first | exact Nat.le_of_succ_le a1 | lia)) (by lia) a3 (by rcases a4 with a4 | a4; exact .inl (by grind); exact .inr a4)
      rcases Nat.lt_or_ge j m with h' | h'
      · exact hu i j hij h'
      · have : j = m := by (first | exact Nat.eq_of_le_of_lt_succ h' hj | lia)
        subst this
        rcases Nat.lt_or_ge i j with h'' | h''
        · have := hu i (j - 1) (by (first | exact (Nat.le_sub_one_iff_lt h1).mpr h'' | lia)) (by (first | exact Nat.sub_one_lt_of_lt h1 | lia)); lia
        · have : i = j := by (first | exact Nat.le_antisymm hij h'' | lia)
          subst this; (first | exact Int.le_refl (Kp' key p i) | lia)
/-- an equal stretch turned about: keys as they were -/
theorem Kp_rev_eq {p : Array Nat} {i j : Nat} (hj : j ≤ p.size) {v : Int} (he : ∀ k, i ≤ k → k < j → Kp' key p k = v) (k : Nat) : Kp' key (kas_rev p i j) k = Kp' key p k := by
  rw [Kp_rev hj]
  by_cases h : i ≤ k ∧ k < j
  · rw [if_pos h, he _ (by omega) (by omega), he k h.1 h.2]
  · rw [if_neg h]
theorem desc_gd {Q : Array Nat × Nat × Nat → Prop} : ∀ (f : Nat) (p : Array Nat) (m q : Nat), Bs n p → 1 ≤ m → m + f ≤ n → Dn key p m → q + 1 ≤ m → (∀ i, m - (q + 1) ≤ i → i < m → Kp' key p i = Kp' key p (m - 1)) →
    (∀ p' m' q', Bs n p' → m ≤ m' → m' ≤ n → Dn key p' m' → q' + 1 ≤ m' → (∀ i, m' - (q' + 1) ≤ i → i < m' → Kp' key p' i = Kp' key p' (m' - 1)) → Q (p', m', q')) → Gd n key (kas_desc f p m q) Q
  | 0, p, m, q, b, h1, h2, hd, hq, he, k => k p m q b (Nat.le_refl _) (by omega) hd hq he
  | f + 1, p, m, q, b, h1, h2, hd, hq, he, k => by
    have hsz := b.size
    have step : ∀ p', (∀ i, Kp' key p' i = Kp' key p i) → Kp' key p m ≤ Kp' key p (m - 1) → Dn key p' (m + 1) := fun p' e hl i j hij hj => by
      rw [e, e]
      rcases Nat.lt_or_ge j m with h' | h'
      · exact hd i j hij h'
      · have : j = m := by (first | exact Nat.eq_of_le_of_lt_succ h' hj | lia)
        subst this
        rcases Nat.lt_or_ge i j with h'' | h''
        · have := hd i (j - 1) (by (first | exact (Nat.le_sub_one_iff_lt h1).mpr h'' | lia)) (by (first | exact Nat.sub_one_lt_of_lt h1 | lia)); (first | exact Int.le_trans hl this | lia)
        · have : i = j := by (first | exact Nat.le_antisymm hij h'' | lia)
          subst this; (first | exact Int.le_refl (Kp' key p i) | lia)
    refine ⟨b.lt (by (first | exact Nat.lt_of_add_right_lt h2 | lia)), b.lt (by lia), ?_⟩
    show Gd n key (if decide (Kp' key p m < Kp' key p (m - 1)) = true then _ else _) Q
    by_cases h : Kp' key p m < Kp' key p (m - 1)
    · rw [if_pos (by simpa using h)]
      by_cases hq0 : q > 0
      · rw [if_pos hq0]
        exact desc_gd f _ (m + 1) 0 (b.rev _ _) (by (first | exact Nat.le_add_right_of_le h1 | lia)) (by lia) (step _ (Kp_rev_eq (by lia) he) (by (first | exact Int.le_of_lt h | lia))) (by (first | exact Nat.le_add_right_of_le h1 | lia)) (fun i a1 a2 => by congr 1; (first | exact Nat.eq_of_le_of_lt_succ a1 a2 | lia)) fun p' m' q' a1 a2 a3 a4 a5 a6 => k p' m' q' a1 (by (first | exact Nat.le_of_succ_le a2 | lia)) a3 a4 a5 a6
      · rw [if_neg hq0]
        exact desc_gd f _ (m + 1) 0 b (by (first | exact Nat.le_add_right_of_le h1 | lia)) (by lia) (step _ (fun _ => rfl) (by (first | exact Int.le_of_lt h | lia))) (by (first | exact Nat.le_add_right_of_le h1 | lia)) (fun i a1 a2 => by congr 1; (first | exact Nat.eq_of_le_of_lt_succ a1 a2 | lia)) fun p' m' q' a1 a2 a3 a4 a5 a6 => k p' m' q' a1 (by (first | exact Nat.le_of_succ_le a2 | lia)) a3 a4 a5 a6
    · rw [if_neg (by simpa using h)]
      refine ⟨b.lt (by lia), b.lt (by (first | exact Nat.lt_of_add_right_lt h2 | lia)), ?_⟩
      show Gd n key (if decide (Kp' key p (m - 1) < Kp' key p m) = true then _ else _) Q
      by_cases h' : Kp' key p (m - 1) < Kp' key p m
      · rw [if_pos (by simpa using h')]
        exact k p m q b (Nat.le_refl _) (by (first | exact Nat.le_of_add_right_le h2 | lia)) hd hq he
      · rw [if_neg (by simpa using h')]
        refine desc_gd f _ (m + 1) (q + 1) b (by (first | exact Nat.le_add_right_of_le h1 | lia)) (by lia) (step _ (fun _ => rfl) (by (first | exact Int.not_lt.mp h' | lia))) (by (first | exact Nat.add_le_add_right hq 1 | lia)) (fun i a1 a2 => ?_) fun p' m' q' a1 a2 a3 a4 a5 a6 => k p' m' q' a1 (by (first | exact Nat.le_of_succ_le a2 | lia)) a3 a4 a5 a6
        show _ = Kp' key p m
        rcases Nat.lt_or_ge i m with h'' | h''
        · have := he i (by lia) h''; lia
        · have : i = m := by (first | exact Nat.eq_of_le_of_lt_succ h'' a2 | lia)
          subst this; rfl
theorem tail3_gd {p : Array Nat} (b : Bs n p) {m : Nat} (h1 : 1 ≤ m) (hm : m ≤ n) (hd : Dn key p m) {Q : Nat × Array Nat → Prop} (q : ∀ k p', Bs n p' → 1 ≤ k → k ≤ n → Up key p' k → Q (k, p')) : Gd n key (kas_tail3 m n p) Q := by
  have hsz := b.size
  refine Gd.bind (asc_gd (b.rev 0 m) (n - m) m h1 (by lia) (fun i j hij hj => ?_) fun k a1 a2 a3 a4 => q k _ (b.rev 0 m) (by (first | exact Nat.le_trans h1 a1 | lia)) (by lia) a3)
  rw [Kp_rev (by (first | exact le_of_le_of_eq hm (id (Eq.symm hsz)) | lia)), Kp_rev (by (first | exact le_of_le_of_eq hm (id (Eq.symm hsz)) | lia)), if_pos (by lia), if_pos (by (first | exact if_false_right.mp hj | lia))]
  exact hd _ _ (by (first | exact Nat.sub_le_sub_left hij (0 + m - 1) | lia)) (by omega)
theorem descPart_gd {p : Array Nat} (b : Bs n p) {m : Nat} (h1 : 1 ≤ m) (hm : m + 1 ≤ n) (hd : Dn key p (m + 1)) {Q : Nat × Array Nat → Prop} (q : ∀ k p', Bs n p' → 1 ≤ k → k ≤ n → Up key p' k → Q (k, p')) : Gd n key (kas_descPart m n p) Q := by
  refine Gd.bind (desc_gd (n - (m + 1)) p (m + 1) 0 b (by (first | exact Nat.le_add_right_of_le h1 | lia)) (by omega) hd (by (first | exact Nat.le_add_right_of_le h1 | lia)) (fun i a1 a2 => by congr 1; (first | exact Nat.eq_of_le_of_lt_succ a1 a2 | lia)) fun p' m' q' b' a1 a2 a3 a4 a5 => ?_)
  have hsz := b'.size
  dsimp only
  by_cases hq : q' > 0
  · rw [if_pos hq]
    refine tail3_gd (b'.rev _ _) (by (first | exact Nat.one_le_of_lt a1 | lia)) a2 (fun i j hij hj => ?_) q
    rw [Kp_rev_eq (by (first | exact le_of_le_of_eq a2 (id (Eq.symm hsz)) | lia)) a5, Kp_rev_eq (by (first | exact le_of_le_of_eq a2 (id (Eq.symm hsz)) | lia)) a5]
    exact a3 i j hij hj
  · rw [if_neg hq]; exact tail3_gd b' (by (first | exact Nat.one_le_of_lt a1 | lia)) a2 a3 q
theorem count_gd {p : Array Nat} (b : Bs n p) (hn : 1 ≤ n) {Q : Nat × Array Nat → Prop} (q : ∀ k p', Bs n p' → 1 ≤ k → k ≤ n → Up key p' k → Q (k, p')) : Gd n key (kas_count n p) Q := by
  have hsz := b.size
  refine Gd.bind (asc_gd b (n - 1) 1 (by (first | exact Nat.le_of_ble_eq_true rfl | lia)) (by lia) (fun i j hij hj => by
    have : i = j := by lia
    subst this
    (first | exact Int.le_refl (Kp' key p i) | lia)) fun k a1 a2 a3 a4 => ?_)
  by_cases hk : k = n
  · rw [if_pos (by simpa using hk)]; exact q k p b a1 (by (first | exact Nat.le_of_eq hk | lia)) a3
  · rw [if_neg (by simpa using hk)]
    have hlt : Kp' key p k < Kp' key p (k - 1) := by rcases a4 with a4 | a4; grind; exact a4
    by_cases h1 : k > 1
    · rw [if_pos h1]
      refine ⟨b.lt (by assumption), b.lt (by grind), ?_⟩
      show Gd n key (if decide (Kp' key p 0 < Kp' key p (k - 1)) = true then _ else _) Q
      by_cases h : Kp' key p 0 < Kp' key p (k - 1)
      · rw [if_pos (by simpa using h)]; exact q k p b a1 (by lia) a3
      · rw [if_neg (by simpa using h)]
        have he : ∀ i, 0 ≤ i → i < k → Kp' key p i = Kp' key p 0 := fun i x1 x2 => by
          have y1 := a3 0 i (by omega) x2
          have y2 := a3 i (k - 1) (by (first | exact (Nat.le_sub_one_iff_lt a1).mpr x2 | lia)) (by (first | exact Nat.sub_one_lt_of_lt a1 | lia))
          lia
        refine descPart_gd (b.rev _ _) (by omega) (by lia) (fun i j hij hj => ?_) q
        rw [Kp_rev_eq (by grind) he, Kp_rev_eq (by grind) he]
        rcases Nat.lt_or_ge j k with h' | h'
        · rw [he i (by (first | exact Nat.zero_le i | lia)) (by (first | exact Nat.lt_of_le_of_lt hij h' | lia)), he j (by (first | exact Nat.zero_le j | lia)) h']; (first | exact Int.le_refl (Kp' key p 0) | lia)
        · have : j = k := by (first | exact Nat.eq_of_le_of_lt_succ h' hj | lia)
          subst this
          rcases Nat.lt_or_ge i j with h'' | h''
          · have := he i (by (first | exact Nat.zero_le i | lia)) h''; have := he (j - 1) (by (first | exact (Nat.le_sub_one_iff_lt a1).mpr a1 | lia)) (by (first | exact Nat.sub_one_lt_of_lt a1 | lia)); lia
          · have : i = j := by (first | exact Nat.le_antisymm hij h'' | lia)
            subst this; (first | exact Int.le_refl (Kp' key p i) | lia)
    · rw [if_neg h1]
      have : k = 1 := by lia
      subst this
      refine descPart_gd b (by omega) (by lia) (fun i j hij hj => ?_) q
      have hj' : j = 0 ∨ j = 1 := by lia
      have hi' : i = 0 ∨ i = 1 := by lia
      have hlt' : Kp' key p 1 < Kp' key p 0 := hlt
      rcases hj' with rfl | rfl <;> rcases hi' with rfl | rfl <;> (first | assumption | lia | omega | grind)
theorem place_gd {p : Array Nat} (b : Bs n p) {k : Nat} (hk : k < n) {Q : Nat → Prop} : ∀ (f l r : Nat), l ≤ r → r ≤ k → r - l ≤ f → (∀ i, i < l → Kp' key p i ≤ Kp' key p k) → (∀ i, r ≤ i → i < k → Kp' key p k < Kp' key p i) → Up key p k →
    (∀ l, l ≤ k → (∀ i, i < l → Kp' key p i ≤ Kp' key p k) → (∀ i, l ≤ i → i < k → Kp' key p k < Kp' key p i) → Q l) → Gd n key (kas_place p k f l r) Q
  | 0, l, r, h1, h2, h3, a, c, u, q => q l (by (first | exact Nat.le_trans h1 h2 | lia)) a fun i hi hk => c i (by lia) hk
  | f + 1, l, r, h1, h2, h3, a, c, u, q => by
    show Gd n key (if l ≥ r then _ else _) Q
    by_cases h : l ≥ r
    · rw [if_pos h]; exact q l (by (first | exact Nat.le_trans h1 h2 | lia)) a fun i hi hk => c i (by (first | exact Nat.le_trans h hi | lia)) hk
    · rw [if_neg h]
      obtain ⟨mid, hmid⟩ : ∃ mid : Nat, mid = (l + r) / 2 := ⟨_, rfl⟩
      rw [← hmid]
      refine ⟨b.lt hk, b.lt (by lia), ?_⟩
      show Gd n key (if decide (Kp' key p k < Kp' key p mid) = true then _ else _) Q
      by_cases hx : Kp' key p k < Kp' key p mid
      · rw [if_pos (by simpa using hx)]
        exact place_gd b hk f l mid (by lia) (by lia) (by grind) a (fun i hi hik => by have := u mid i hi hik; (first | exact Int.lt_of_lt_of_le hx (u mid i hi hik) | lia)) u q
      · rw [if_neg (by simpa using hx)]
        exact place_gd b hk f (mid + 1) r (by lia) (by omega) (by grind) (fun i hi => by have := u i mid (by (first | exact Nat.le_of_lt_succ hi | lia)) (by lia); lia) c u q
theorem bin_gd {Q : Array Nat → Prop} : ∀ (f : Nat) (p : Array Nat) (k : Nat), Bs n p → k + f = n → Up key p k → (∀ p', Bs n p' → Up key p' n → Q p') → Gd n key (kas_bin f p k) Q
  | 0, p, k, b, h1, u, q => by
    have : k = n := by omega
    subst this
    exact q p b u
  | f + 1, p, k, b, h1, u, q => by
    have hsz := b.size
    refine Gd.bind (place_gd b (by lia) k 0 k (Nat.zero_le _) (Nat.le_refl _) (by (first | exact Nat.sub_le k 0 | lia)) (fun i hi => absurd hi (Nat.not_lt_zero _)) (fun i h1 h2 => by grind) u fun l hl lo hi => ?_)
    refine bin_gd f _ (k + 1) (b.bub _ _) (by grind) (fun i j hij hj => ?_) q
    rw [Kp_bub (by lia) (by (first | exact Nat.sub_le k l | lia)), Kp_bub (by lia) (by (first | exact Nat.sub_le k l | lia)), show k - (k - l) = l by (first | exact Nat.sub_sub_self hl | lia)]
    repeat' split
    all_goals first
      | (exfalso; lia)
      | (first | assumption | lia | omega | grind)
      | exact lo _ (by omega)
      | exact Int.le_of_lt (hi _ (by omega) (by omega))
      | exact u _ _ (by (first | assumption | lia | omega | grind)) (by lia)
theorem sort_gd (hn : 1 ≤ n) {Q : Array Nat → Prop} (q : ∀ p', Bs n p' → Up key p' n → Q p') : Gd n key (kas_sort n) Q := by
  refine Gd.bind (count_gd ⟨Array.Perm.refl _⟩ hn fun k p' b h1 h2 u => ?_)
  dsimp only
  by_cases h : k < n
  · rw [if_pos h, show max k 1 = k by (first | exact Nat.max_eq_left h1 | lia)]
    exact bin_gd (n - k) p' k b (by (first | exact Nat.add_sub_of_le h2 | lia)) u q
  · rw [if_neg h]
    have : k = n := by lia
    subst this; exact q p' b u
end
end Mine
end

section
open PySem PyProof.Rows PySem.W
namespace Mine
set_option autoImplicit false
set_option linter.unusedVariables false
set_option maxRecDepth 100000

noncomputable def pk (p : Int × Int) : Int := p.1 * 1000 + p.2
noncomputable def Small (l : Spans) : Prop := ∀ p ∈ l, 0 ≤ p.1 ∧ p.1 < 1000 ∧ 0 ≤ p.2 ∧ p.2 < 1000
theorem pk_inj {p q : Int × Int} (hp : 0 ≤ p.1 ∧ p.1 < 1000 ∧ 0 ≤ p.2 ∧ p.2 < 1000) (hq : 0 ≤ q.1 ∧ q.1 < 1000 ∧ 0 ≤ q.2 ∧ q.2 < 1000) (h : pk p = pk q) : p = q := by
  obtain ⟨a, b⟩ := p
  obtain ⟨c, d⟩ := q
  unfold pk at h
  simp only at h hp hq
  have e1 : a = c := by lia
  have e2 : b = d := by lia
  rw [e1, e2]
/-- the spans in order -/
noncomputable def sortS (l : Spans) : Spans := l.mergeSort fun p q => decide (pk p ≤ pk q)
theorem sortS_perm (l : Spans) : (sortS l).Perm l := List.mergeSort_perm ..
theorem sortS_sorted (l : Spans) : (sortS l).Pairwise fun p q => pk p ≤ pk q := by
  have := List.pairwise_mergeSort (le := fun p q => decide (pk p ≤ pk q)) (fun a b c h1 h2 => by simp only [decide_eq_true_eq] at *; (first | exact Int.le_trans h1 h2 | lia)) (fun a b => by simp only [Bool.or_eq_true, decide_eq_true_eq]; (first | exact Int.le_total (pk a) (pk b) | lia)) l
  exact this.imp fun h => by simpa using h
theorem sortS_eq {l m : Spans} (hs : Small l) (hp : m.Perm l) (hm : m.Pairwise fun p q => pk p ≤ pk q) : m = sortS l :=
  List.Perm.eq_of_pairwise (le := fun p q => pk p ≤ pk q) (fun a b ha hb h1 h2 => pk_inj (hs _ (hp.mem_iff.mp ha)) (hs _ ((sortS_perm l).mem_iff.mp hb)) (by (first | exact Int.le_antisymm h1 h2 | lia))) hm (sortS_sorted l) (hp.trans (sortS_perm l).symm)

section
variable {X : Addr → Prop} {h : Heap}
theorem enc_tups : ∀ {vs : List Value} {l : Spans}, RS X h vs (enc l) → ∃ fs, fs.length = l.length ∧ KatTups h vs fs ∧ ∀ v ∈ fs, ∃ i t, v = .int i t
  | _, [], .nil => ⟨[], rfl, KatTups.nil, by simp⟩
  | _, p :: l, .cons (.tup hx ⟨o, ho, hc, n, hd⟩ r) rs => by
    obtain ⟨fs, h1, h2, h3⟩ := enc_tups (l := l) rs
    cases r with
    | cons a r =>
      cases a with
      | int i t =>
        refine ⟨.int p.1 t :: fs, by simp [h1], KatTups.cons ho hc hd (by simp) h2, fun v hv => ?_⟩
        rcases List.mem_cons.mp hv with rfl | hv
        · exact ⟨_, _, rfl⟩
        · exact h3 v hv
theorem enc_at {vs : List Value} {l : Spans} (r : RS X h vs (enc l)) {i : Nat} (hi : i < l.length) :
    ∃ b o n t u, vs.getD i Value.none = .ref b ∧ h.get? b = some o ∧ o.data = .seq #[.int (l.getD i (0, 0)).1 t, .int (l.getD i (0, 0)).2 u] n := by
  have hp : l[i]? = some (l.getD i (0, 0)) := by simp [hi]
  obtain ⟨v, hv, q⟩ := r.get (enc_get hp)
  cases q with
  | tup hx ht rs =>
    obtain ⟨o, ho, hc, n, hd⟩ := ht
    cases rs with
    | cons r1 rs =>
      cases rs with
      | cons r2 rs =>
        cases rs
        cases r1 with
        | int _ t =>
          cases r2 with
          | int _ u =>
            rename_i b
            exact ⟨b, o, n, t, u, by rw [List.getD_eq_getElem?_getD, hv]; rfl, ho, hd⟩
end

section
variable {prog : Program} {w : World} {A : Around} {E : Value → Shared → Prop} {s : Shared} {X : Addr → Prop}
theorem enc_lt {vs : List Value} {l : Spans} (r : RS X s.heap vs (enc l)) (hs : Small l) {i j : Nat} {C : Bool → Shared → Prop} (hi : i < l.length) (hj : j < l.length)
    (h : C (decide (pk (l.getD i (0, 0)) < pk (l.getD j (0, 0)))) s) : kas_ask prog w A (tuples' true) vs i j C s := by
  obtain ⟨b, o, n, t, u, e1, h1, d1⟩ := enc_at r hi
  obtain ⟨b', o', n', t', u', e2, h2, d2⟩ := enc_at r hj
  have m1 := hs (l.getD i (0, 0)) (by rw [List.getD_eq_getElem?_getD, List.getElem?_eq_getElem hi]; exact List.getElem_mem hi)
  have m2 := hs (l.getD j (0, 0)) (by rw [List.getD_eq_getElem?_getD, List.getElem?_eq_getElem hj]; exact List.getElem_mem hj)
  generalize l.getD i (0, 0) = p at *
  generalize l.getD j (0, 0) = q at *
  unfold kas_ask
  rw [e1, e2]
  refine kat_lt h1 d1 h2 d2 (kat_cons (wpAny_eqBool_int ?_))
  unfold pk at h
  cases hpq : (p.1 == q.1) with
  | true =>
    have e : p.1 = q.1 := by simpa using hpq
    refine kat_yes (kat_cons (wpAny_eqBool_int ?_))
    cases hpq2 : (p.2 == q.2) with
    | true =>
      have e' : p.2 = q.2 := by simpa using hpq2
      refine kat_yes (kat_nil ?_)
      rw [show decide (p.1 * 1000 + p.2 < q.1 * 1000 + q.2) = false by simp; lia] at h
      exact h
    | false =>
      refine kat_no ?_
      show wpAny _ _ (oneLt' false _ _) _ _ _
      refine kat_one _ _ (PyProof.Rows.lt_int ?_)
      rw [show decide (p.1 * 1000 + p.2 < q.1 * 1000 + q.2) = decide (p.2 < q.2) by rw [Bool.eq_iff_iff]; simp only [decide_eq_true_eq]; lia] at h
      exact h
  | false =>
    have e : p.1 ≠ q.1 := by simpa using hpq
    refine kat_no (oneLt_int ?_)
    rw [show decide (p.1 * 1000 + p.2 < q.1 * 1000 + q.2) = decide (p.1 < q.1) by rw [Bool.eq_iff_iff]; simp only [decide_eq_true_eq]; omega] at h
    exact h
end

/-- the rearranged -/
noncomputable def arr (p : Array Nat) (vs : List Value) : List Value := p.toList.map fun i => vs.getD i Value.none
noncomputable def arrL (p : Array Nat) (l : Spans) : Spans := p.toList.map fun i => l.getD i (0, 0)
theorem arr_rs {X : Addr → Prop} {h : Heap} {vs : List Value} {l : Spans} (r : RS X h vs (enc l)) : ∀ (p : List Nat), (∀ i ∈ p, i < l.length) → RS X h (p.map fun i => vs.getD i Value.none) (enc (p.map fun i => l.getD i (0, 0)))
  | [], _ => .nil
  | i :: p, k => by
    have hi := k i (List.mem_cons_self ..)
    have hp : l[i]? = some (l.getD i (0, 0)) := by simp [hi]
    obtain ⟨v, hv, q⟩ := r.get (enc_get hp)
    refine .cons ?_ (arr_rs r p fun j hj => k j (List.mem_cons_of_mem _ hj))
    dsimp only
    rw [show vs.getD i Value.none = v by rw [List.getD_eq_getElem?_getD, hv]; rfl]
    exact q
theorem map_range_getD (l : Spans) : (List.range l.length).map (fun i => l.getD i (0, 0)) = l := by
  refine List.ext_getElem (by simp) fun i h1 h2 => ?_
  simp [h2]
theorem arrL_sorted {l : Spans} (hs : Small l) {p : Array Nat} (b : Bs l.length p) (u : Up (fun i => pk (l.getD i (0, 0))) p l.length) : arrL p l = sortS l := by
  refine sortS_eq hs ?_ ?_
  · unfold arrL
    have := (Array.perm_iff_toList_perm.mp b.perm).map fun i => l.getD i (0, 0)
    rw [map_range_getD] at this
    exact this
  · unfold arrL
    rw [List.pairwise_map]
    rw [List.pairwise_iff_getElem]
    intro i j hi hj hij
    have hsz := b.size
    simp only [Array.length_toList] at hi hj
    have := u i j (by (first | exact Nat.le_of_succ_le hij | lia)) (by (first | exact Nat.lt_of_lt_of_eq hj hsz | lia))
    unfold Kp' at this
    simpa [Array.getD, hi, hj] using this

section
variable {prog : Program} {w : World} {A : Around} {E : Value → Shared → Prop} {s : Shared} {X : Addr → Prop}
theorem sort_tree {a : Addr} {vs : List Value} {l : Spans} {n : Nat} {h0 : Heap} {P : PySem.Fin → Shared → Prop} (ho : s.heap.get? a = some (seqObj "list" vs.toArray n)) (r : RS X h0 vs (enc l))
    (k0 : ∀ b o, h0.get? b = some o → b ≠ a ∧ s.heap.get? b = some o) (hs : Small l) (h64 : l.length < 64)
    (h : ∀ p : Array Nat, Bs l.length p → Up (fun i => pk (l.getD i (0, 0))) p l.length → P (.done (.ret .none)) { s with heap := sortedHeap s.heap a vs (List.toArray (arr p vs)) }) :
    wpAny (model prog w) A (Builtin.«list.sort» ⟨[.ref a], []⟩) P E s := by
  have hlen : vs.length = l.length := by rw [r.length, enc_length]
  rw [list_sort_plain]
  have ha : a < s.heap.objs.size := Heap.lt_size ho
  refine wpAny_bind (listItems_at ho rfl ?_)
  refine wpAny_bind (listUpdate_at ho rfl ?_)
  obtain ⟨e1, ho1⟩ : ∃ e1, (s.heap.update a (Obj.mapSeq fun _ => (#[] : Array Value))).get? a = some (seqObj "list" #[] e1) := ⟨_, get?_update_seq ho (fun _ => #[])⟩
  refine wpAny_bind (seqEpoch_at ho1 rfl ?_)
  refine wpAny_bind (wpAny_newTuple ?_)
  refine wpAny_bind (wpAny_newList ?_)
  refine wpAny_holding ?_
  have ho6 : (((s.heap.update a (Obj.mapSeq fun _ => #[])).push (seqObj "tuple" vs.toArray 0)).push (seqObj "list" #[] 0)).get? a = some (seqObj "list" #[] e1) := by
    rw [Heap.get?_push_ne _ _ _ (by rw [size_push', Heap.size_update]; exact Nat.ne_of_lt (Nat.lt_succ_of_lt ha)), Heap.get?_push_ne _ _ _ (by rw [Heap.size_update]; exact Nat.ne_of_lt ha)]
    exact ho1
  have r6 : RS X (((s.heap.update a (Obj.mapSeq fun _ => #[])).push (seqObj "tuple" vs.toArray 0)).push (seqObj "list" #[] 0)) vs (enc l) := r.mono fun b o hb hbo => by
    obtain ⟨k1, k2⟩ := k0 b o hbo
    refine ⟨hb, Heap.get?_push_of_some _ (Heap.get?_push_of_some _ ?_)⟩
    rw [Heap.get?_update_ne _ _ _ _ k1]; exact k2
  show wpAny (model prog w) A _ P E { s with heap := ((s.heap.update a (Obj.mapSeq fun _ => #[])).push (seqObj "tuple" vs.toArray 0)).push (seqObj "list" #[] 0) }
  dsimp only
  have hsz : vs.toArray.size = vs.length := by simp
  by_cases h2 : vs.toArray.size < 2
  · rw [if_pos h2, if_pos h2]
    refine wpAny_bind (wpAny_pure ?_)
    rw [StateT.run_pure]
    refine wpAny_bind (wpAny_pure ?_)
    dsimp only
    refine wpAny_bind (seqEpoch_at ho6 rfl ?_)
    refine wpAny_bind (listUpdate_at ho6 rfl ?_ (hsz2 := by rw [Array.size_map]; show (pairsOf vs).size ≤ _; rw [pairsOf_size, sizeLine_eq]; lia))
    simp only [bne_self_eq_false, Bool.false_eq_true, if_false]
    refine wpAny_pure ?_
    have b : Bs l.length (List.toArray (List.range l.length)) := ⟨Array.Perm.refl _⟩
    have q := h (List.toArray (List.range l.length)) b (fun i j hij hj => by have : i = j := by lia
                                                                             subst this
                                                                             exact Int.le_refl _)
    have e : (arrOf (SortSt.mk' general' (vs.toArray.zip vs.toArray) #[] 7 none)).map (·.2) = List.toArray (arr (List.toArray (List.range l.length)) vs) := by
      refine kat_snds rfl (p := List.toArray (List.range l.length)) ?_
      have : (vs.toArray.zip vs.toArray).size = l.length := by rw [← hlen]; simp
      rw [← this, kas_range]
    rw [e]
    exact q
  · rw [if_neg h2, if_neg h2]
    obtain ⟨fs, f1, f2, f3⟩ := enc_tups r6
    refine wpAny_bind (kat_kind (T := .type "int") f2 (by lia) (fun v hv => ?_) (by decide) ?_)
    · obtain ⟨i, t, rfl⟩ := f3 v hv
      exact Looks.of_pure rfl
    have run := kat_run (prog := prog) (w := w) (A := A) (E := E) (κ := tuples' true) (ks := vs) (vs := vs)
      (s := { s with heap := ((s.heap.update a (Obj.mapSeq fun _ => #[])).push (seqObj "tuple" vs.toArray 0)).push (seqObj "list" #[] 0) })
      (G := fun p s' => (Bs l.length p ∧ Up (fun i => pk (l.getD i (0, 0))) p l.length) ∧ s' = { s with heap := ((s.heap.update a (Obj.mapSeq fun _ => #[])).push (seqObj "tuple" vs.toArray 0)).push (seqObj "list" #[] 0) })
      (Q := fun st' s' => ∃ p : Array Nat, arrOf st' = p.map (kas_item (vs.toArray.zip vs.toArray)) ∧ failedOf st' = none ∧ (Bs l.length p ∧ Up (fun i => pk (l.getD i (0, 0))) p l.length) ∧ s' = { s with heap := ((s.heap.update a (Obj.mapSeq fun _ => #[])).push (seqObj "tuple" vs.toArray 0)).push (seqObj "list" #[] 0) })
      rfl (by (first | exact Nat.le_of_not_lt h2 | lia)) (by (first | exact lt_of_eq_of_lt hlen h64 | lia)) (fun p st' s' a1 a2 a3 a4 => ⟨p, a2, a3, a4⟩)
      (Gd.wp (n := l.length) (key := fun i => pk (l.getD i (0, 0))) (fun i j C hi hj hC => enc_lt r6 hs hi hj hC) (fun p hp => ⟨hp, rfl⟩) (by rw [hlen]; exact sort_gd (by lia) fun p b u => ⟨b, u⟩))
    refine wpAny_bind (wpAny_mono run ?_ fun _ _ e => e)
    rintro ⟨⟨⟩, st'⟩ s' ⟨p, har, hf, ⟨b, u⟩, rfl⟩
    dsimp only
    have hout := kat_snds rfl har
    have hsz' : (List.toArray (p.toList.map fun i => vs.getD i Value.none)).size = l.length := by rw [List.size_toArray, List.length_map, Array.length_toList, b.size]
    rw [hout]
    refine wpAny_bind (seqEpoch_at ho6 rfl ?_)
    refine wpAny_bind (listUpdate_at ho6 rfl ?_ (Nat.zero_le _) (Nat.le_trans (Nat.le_of_eq hsz') (by rw [sizeLine_eq]; lia)))
    rw [hf]
    simp only [bne_self_eq_false, Bool.false_eq_true, if_false]
    exact wpAny_pure (h p b u)

theorem sorted_call {a : Addr} {vs : List Value} {l : Spans} {Q : Value → Shared → Prop} (hl : s.heap.IsList a vs.toArray) (r : RS X s.heap vs (enc l)) (hs : Small l) (h64 : l.length < 64)
    (h : ∀ p : Array Nat, Bs l.length p → Up (fun i => pk (l.getD i (0, 0))) p l.length → Q (.ref (s.heap.objs.size + 1)) { s with heap := sortedAll s.heap vs (List.toArray (arr p vs)) }) :
    wpAny (model prog w) A (call (.builtin "sorted") [.ref a]) Q E s := by
  have hlen : vs.length = l.length := by rw [r.length, enc_length]
  refine Calls.call_function_entry kind_sorted plain_sorted entry_sorted (args_sorted1 _) ?_
  unfold Builtin.«sorted»
  refine wpAny_bind (m := checkCount "sorted" 1 1 _) (wpAny_pure ?_)
  refine wpAny_bind (collect_list hl ?_ (by rw [sizeLine_eq]; omega))
  refine wpAny_bind (wpAny_newList ?_ (by rw [sizeLine_eq]; omega))
  have hsz : ((s.heap.push (seqObj "list" #[] 0)).update s.heap.objs.size (Obj.mapSeq (· ++ vs.toArray))).objs.size = s.heap.objs.size + 1 := by
    rw [Heap.size_update, size_push']
  have hoL : (((s.heap.push (seqObj "list" #[] 0)).update s.heap.objs.size (Obj.mapSeq (· ++ vs.toArray))).push (seqObj "list" vs.toArray 0)).get? (s.heap.objs.size + 1) = some (seqObj "list" vs.toArray 0) := by
    rw [← hsz]; exact Heap.get?_push_size _ rfl
  show wpAny _ _ _ _ _ { s with heap := ((s.heap.push (seqObj "list" #[] 0)).update s.heap.objs.size (Obj.mapSeq (· ++ vs.toArray))).push (seqObj "list" vs.toArray 0) }
  rw [hsz]
  refine wpAny_bind (wpAny_holding (wpAny_call_entry slot_list_sort ⟨_, hoL, rfl⟩ entry_list_sort (sort_tree (h0 := s.heap) (X := X) hoL r (fun b o hb => ?_) hs h64 fun p b u => ⟨_, rfl, ?_⟩) (args_list_sort _)))
  · have hlt : b < s.heap.objs.size := Heap.lt_size hb
    refine ⟨Nat.ne_of_lt (Nat.lt_succ_of_lt hlt), ?_⟩
    dsimp only
    rw [Heap.get?_push_ne _ _ _ (by rw [hsz]; exact Nat.ne_of_lt (Nat.lt_succ_of_lt hlt)), Heap.get?_update_ne _ _ _ _ (Nat.ne_of_lt hlt), Heap.get?_push_ne _ _ _ (Nat.ne_of_lt hlt)]
    exact hb
  · exact wpAny_pure ⟨_, rfl, h p b u⟩
end

section
variable {c : Cx} {h : Heap}
theorem Cl.sorted {l : Spans} (hX : Bd c.X h) (hs : Small l) (h64 : l.length < 64) : Cl c h (.builtin "sorted") [.lst (enc l)] (.lst (enc (sortS l))) := fun vs s Q E hx r q => by
  cases r with
  | cons r1 rs =>
    cases rs
    cases r1 with
    | lst hX' hl rs =>
      refine sorted_call hl rs hs h64 fun p b u => ?_
      obtain ⟨e, he⟩ := sortedAll_at s.heap _ (List.toArray (arr p _))
      refine q _ _ s.toks (fun b o hb => sortedAll_old hb) (.lst (fun hX'' => ?_) ⟨_, he, rfl, _, rfl⟩ ?_)
      · obtain ⟨o, ho⟩ := hX.ext hx _ hX''
        exact Nat.not_le_of_lt (Heap.lt_size ho) (Nat.le_succ _)
      · rw [← arrL_sorted hs b u]
        refine RS.ext (arr_rs rs p.toList fun i hi => ?_) (fun b o hb => sortedAll_old hb)
        have := (Array.perm_iff_toList_perm.mp b.perm).mem_iff.mp hi
        simpa using this
end
end Mine
end

section
open PySem PyProof.Rows PySem.W
namespace Mine
set_option autoImplicit false
set_option linter.unusedVariables false
set_option maxRecDepth 100000

noncomputable def psOf (l : Spans) : List (D × D) := l.map fun p => (D.int p.1, D.int p.2)
theorem enc_ps (l : Spans) : enc l = (psOf l).map fun p => .tup [p.1, p.2] := by unfold psOf enc; rw [List.map_map]; rfl
theorem ps_len (l : Spans) : (psOf l).length = l.length := by simp [psOf]
theorem ps_get {l : Spans} {i : Nat} {p : D × D} (h : (psOf l)[i]? = some p) : ∃ q, l[i]? = some q ∧ (D.int q.1, D.int q.2) = p := by
  unfold psOf at h
  rw [List.getElem?_map] at h
  exact Option.map_eq_some_iff.mp h
theorem Te.eqB {c : Cx} {h : Heap} {e : Expr} {x y : Bool} (r : Te c h e x) (k : x = y) : Te c h e y := k ▸ r
/-! tidy -/
noncomputable def put (F : Spans) (p : Int × Int) : Spans :=
  match F.getLast? with
  | some q => if p.1 ≤ q.2 + 1 then (if q.2 < p.2 then F.dropLast ++ [(q.1, p.2)] else F) else F ++ [p]
  | none => F ++ [p]
noncomputable def tidyS (l : Spans) : Spans := (sortS l).foldl put []
theorem put_len (F : Spans) (p : Int × Int) : (put F p).length ≤ F.length + 1 := by
  unfold put
  split
  · split
    · split
      · simp
      · (first | exact Nat.le_add_right (List.length F) 1 | lia)
    · simp
  · simp
theorem fold_len : ∀ (l F : Spans), (l.foldl put F).length ≤ F.length + l.length
  | [], F => by simp
  | p :: l, F => by
    have h1 := fold_len l (put F p)
    have h2 := put_len F p
    simp only [List.foldl_cons, List.length_cons]
    lia
theorem enc_last {F : Spans} {q : Int × Int} (h : F.getLast? = some q) : (enc F).getLast? = some (.tup [.int q.1, .int q.2]) := by
  unfold enc; rw [List.getLast?_map, h]; rfl
theorem enc_app (F : Spans) (p : Int × Int) : enc F ++ [.tup [.int p.1, .int p.2]] = enc (F ++ [p]) := by simp [enc]
theorem enc_drop (F : Spans) : (enc F).dropLast = enc F.dropLast := by unfold enc; rw [List.map_dropLast]
theorem enc_empty (F : Spans) : (enc F).isEmpty = F.isEmpty := by cases F <;> rfl
noncomputable def pTidy : Str × Nat := (Str.ofString "tidy", 4)
theorem tidy_ok {mg mb : Str → Option Value} (l : Spans) (hl : l.length < 64) (hs : Small l) : FnOk mg mb pTidy 1 [.lst (enc l)] (.lst (enc (tidyS l))) := by
  refine FnOk.of [Str.ofString "spans"] ?_ ?_ ?_
  · intro vs hv pm doc c
    obtain ⟨v1, rfl⟩ := len1 hv
    rfl
  · intro L x hx
    rw [List.mem_singleton.mp hx]
    exact .inl rfl
  · intro w A X₀ pm doc c L a h₀ h1 rm G S
    refine Exs.born S rfl rfl rfl fun gg h2 S => ?_
    have G1 := G.ext S.keep
    have hml : (sortS l).length = l.length := (sortS_perm l).length_eq
    refine Exs.forPairs (psOf (sortS l)) rm.hh (by rw [← enc_ps]; exact Ev.callB (G1.built (c := ((fx w A pTidy pm doc c L a h₀ X₀).more gg).cx) (Str.ofString "sorted") (by simp [bltns]) rfl rfl rfl rfl (by rfl)) (Sp.cons (S.nm rfl) Sp.nil) (Cl.sorted S.bd hs hl))
      (fun i ρ own => own = some (Str.ofString "found", enc (((sortS l).take i).foldl put [])))
      (fun i ρ own hi p hp => by rw [hi] at hp; cases hp; dsimp only; exact ⟨by decide, by decide⟩) rfl S ?_ ?_
    · rintro i ρ own h3 p hp rfl S
      obtain ⟨p, hp', rfl⟩ := ps_get hp
      have hi : i < (sortS l).length := (List.getElem?_eq_some_iff.mp hp').1
      have htk : (sortS l).take (i + 1) = (sortS l).take i ++ [p] := by rw [List.take_add_one, hp']; rfl
      rw [htk, List.foldl_append]
      have hFl := fold_len ((sortS l).take i) []
      rw [List.length_take] at hFl
      generalize ((sortS l).take i).foldl put [] = F at *
      have hFl' : F.length < 64 := by simp at hFl; grind
      have hlE := enc_length F
      show Exs _ _ _ (Body _ (fun ρ own => own = some (Str.ofString "found", enc (put F p))) _)
      refine Exs.if (t := match F.getLast? with | some q => decide (p.1 ≤ q.2 + 1) | none => false) (fun ρ own => own = some (Str.ofString "found", enc (put F p))) ?_ (fun ht h4 e4 => ?_) (fun ht h4 e4 => ?_) (fun ρ' own' h4 hj S => Exs.nil ⟨_, _, hj, S⟩)
      · cases hF : F.getLast? with
        | none =>
          have hF0 : F = [] := List.getLast?_eq_none_iff.mp hF
          subst hF0
          exact Te.and (t1 := false) (t2 := false) (Te.ownList S rfl (by (first | exact Nat.lt_of_sub_eq_succ rfl | lia)) rfl) (fun h => nomatch h)
        | some q =>
          have hne : F ≠ [] := by rintro rfl; simp at hF
          have e : (!(enc F).isEmpty) = true := by rw [enc_empty]; cases F; exact absurd rfl hne; rfl
          refine Te.eqB (Te.and (Te.ownList S rfl (by lia) rfl) fun _ => Te.cmp (S.nm rfl) (Ev.add (Ev.place (k := 1) (Ev.ownLast S (Ev.neg Ev.int) rfl (by lia) (enc_last hF) rfl) Ev.int (by decide) rfl) Ev.int) Co.le) (by rw [e]; rfl)
      · have S := S.ext e4
        cases hF : F.getLast? with
        | none => rw [hF] at ht; cases ht
        | some q =>
          rw [hF] at ht
          have ht' : p.1 ≤ q.2 + 1 := by simpa using ht
          have hne : F ≠ [] := by rintro rfl; simp at hF
          refine Exs.if (t := decide (q.2 < p.2)) (fun ρ own => own = some (Str.ofString "found", enc (put F p))) ?_ (fun ht2 h5 e5 => ?_) (fun ht2 h5 e5 => ?_) (fun ρ' own' h5 hj S => Exs.nil ⟨rfl, stay S hj⟩)
          · exact Te.cmp (S.nm rfl) (Ev.place (k := 1) (Ev.ownLast S (Ev.neg Ev.int) rfl (by lia) (enc_last hF) rfl) Ev.int (by decide) rfl) Co.gt
          · have S := S.ext e5
            have ht2' : q.2 < p.2 := by simpa using ht2
            refine Exs.setLast (d := .tup [.int q.1, .int p.2]) S (Ev.tuple S.bd (Sp.cons (Ev.place (k := 0) (Ev.ownLast S (Ev.neg Ev.int) rfl (by lia) (enc_last hF) rfl) Ev.int (by decide) rfl) (Sp.cons (S.nm rfl) Sp.nil)))
              (fun h6 e6 => Ev.neg Ev.int) (by intro h; have := congrArg List.length h; rw [hlE] at this; exact hne (List.length_eq_zero_iff.mp this)) fun h6 S => Exs.nil ⟨rfl, stay S ?_⟩
            rw [enc_drop]
            have : put F p = F.dropLast ++ [(q.1, p.2)] := by unfold put; rw [hF]; simp only; rw [if_pos ht', if_pos ht2']
            rw [this, ← enc_app]
          · have S := S.ext e5
            have ht2' : ¬ q.2 < p.2 := by simpa using ht2
            refine Exs.nil ⟨rfl, stay S ?_⟩
            have : put F p = F := by unfold put; rw [hF]; simp only; rw [if_pos ht', if_neg ht2']
            rw [this]
      · have S := S.ext e4
        have hput : put F p = F ++ [p] := by
          unfold put
          cases hF : F.getLast? with
          | none => rfl
          | some q =>
            rw [hF] at ht
            have ht' : ¬ p.1 ≤ q.2 + 1 := by simpa using ht
            simp only; rw [if_neg ht']
        refine Exs.app (d := .tup [.int p.1, .int p.2]) S (fun h6 e6 => ?_) (by lia) fun h6 S => Exs.nil ⟨rfl, stay S ?_⟩
        · have S := S.ext e6
          exact Ev.tuple S.bd (Sp.cons (S.nm rfl) (Sp.cons (S.nm rfl) Sp.nil))
        · rw [hput, ← enc_app]
    · rintro ρ own h3 rfl S
      rw [ps_len, List.take_length] at S
      exact Exs.retOwn S fun v r => ⟨v, rfl, r⟩
end Mine
end

section
open PySem PyProof.Rows PySem.W
namespace Mine
set_option autoImplicit false
set_option linter.unusedVariables false
set_option maxRecDepth 100000

/-! plain laws of spans -/
noncomputable def In (l : Spans) (n : Int) : Prop := ∃ p ∈ l, p.1 ≤ n ∧ n ≤ p.2
theorem inSp_iff (l : Spans) (n : Int) : inSp l n = true ↔ In l n := by
  unfold inSp In
  simp only [List.any_eq_true, Bool.and_eq_true, decide_eq_true_eq]
theorem In.nil {n : Int} : ¬ In [] n := fun ⟨_, h, _⟩ => nomatch h
theorem In.app {l m : Spans} {n : Int} : In (l ++ m) n ↔ In l n ∨ In m n := by
  unfold In
  constructor
  · rintro ⟨p, h, k⟩
    rcases List.mem_append.mp h with h | h
    · exact .inl ⟨p, h, k⟩
    · exact .inr ⟨p, h, k⟩
  · rintro (⟨p, h, k⟩ | ⟨p, h, k⟩)
    · exact ⟨p, List.mem_append_left _ h, k⟩
    · exact ⟨p, List.mem_append_right _ h, k⟩
theorem In.one {p : Int × Int} {n : Int} : In [p] n ↔ p.1 ≤ n ∧ n ≤ p.2 := by
  unfold In
  constructor
  · rintro ⟨q, h, k⟩; rw [List.mem_singleton.mp h] at k; exact k
  · intro k; exact ⟨p, List.mem_singleton.mpr rfl, k⟩
theorem In.perm {l m : Spans} (h : l.Perm m) {n : Int} : In l n ↔ In m n := by
  unfold In
  constructor
  · rintro ⟨p, a, k⟩; exact ⟨p, h.mem_iff.mp a, k⟩
  · rintro ⟨p, a, k⟩; exact ⟨p, h.mem_iff.mpr a, k⟩
theorem Tidy.nil : Tidy [] := ⟨.nil, by simp⟩
theorem Tidy.snoc {F : Spans} {p : Int × Int} (t : Tidy F) (h1 : p.1 ≤ p.2) (h2 : ∀ q ∈ F, q.2 + 1 < p.1) : Tidy (F ++ [p]) := by
  refine ⟨List.pairwise_append.mpr ⟨t.1, List.pairwise_singleton _ _, fun a ha b hb => ?_⟩, fun q hq => ?_⟩
  · rw [List.mem_singleton.mp hb]; exact h2 a ha
  · rcases List.mem_append.mp hq with hq | hq
    · exact t.2 q hq
    · rw [List.mem_singleton.mp hq]; exact h1
theorem Tidy.of_snoc {F : Spans} {p : Int × Int} (t : Tidy (F ++ [p])) : Tidy F ∧ p.1 ≤ p.2 ∧ ∀ q ∈ F, q.2 + 1 < p.1 := by
  obtain ⟨a, b, c⟩ := List.pairwise_append.mp t.1
  exact ⟨⟨a, fun q hq => t.2 q (List.mem_append_left _ hq)⟩, t.2 p (List.mem_append_right _ (.head _)), fun q hq => c q hq p (.head _)⟩
/-- apart: two spans of a tidy list that both near a number are one -/
theorem Tidy.apart {l : Spans} (t : Tidy l) {p q : Int × Int} (hp : p ∈ l) (hq : q ∈ l) : p = q ∨ p.2 + 1 < q.1 ∨ q.2 + 1 < p.1 := by
  obtain ⟨i, hi, rfl⟩ := List.mem_iff_getElem.mp hp
  obtain ⟨j, hj, rfl⟩ := List.mem_iff_getElem.mp hq
  rcases Nat.lt_trichotomy i j with h | h | h
  · exact .inr (.inl (List.pairwise_iff_getElem.mp t.1 i j hi hj h))
  · subst h; exact .inl rfl
  · exact .inr (.inr (List.pairwise_iff_getElem.mp t.1 j i hj hi h))
theorem Tidy.at {l : Spans} (t : Tidy l) {i j : Nat} (hij : i < j) {p q : Int × Int} (hp : l[i]? = some p) (hq : l[j]? = some q) : p.2 + 1 < q.1 := by
  obtain ⟨hi, rfl⟩ := List.getElem?_eq_some_iff.mp hp
  obtain ⟨hj, rfl⟩ := List.getElem?_eq_some_iff.mp hq
  exact List.pairwise_iff_getElem.mp t.1 i j hi hj hij

theorem same_list {l m : List Int} (hl : l.Pairwise (· < ·)) (hm : m.Pairwise (· < ·)) (h : ∀ x, x ∈ l ↔ x ∈ m) : l = m := by
  have nl : l.Nodup := hl.imp fun {a b} h => by (first | exact Int.ne_of_lt h | lia)
  have nm : m.Nodup := hm.imp fun {a b} h => by (first | exact Int.ne_of_lt h | lia)
  exact List.Perm.eq_of_pairwise (le := (· < ·)) (fun a b _ _ h1 h2 => by lia) hl hm ((List.perm_ext_iff_of_nodup nl nm).mpr h)

/-- all within 0 .. N - 1 -/
noncomputable def Wi (l : Spans) (N : Nat) : Prop := ∀ p ∈ l, 0 ≤ p.1 ∧ p.2 < N
noncomputable def tab (f : Int → Bool) (N : Nat) : List Bool := (List.range N).map fun (n : Nat) => f (n : Int)
theorem edge_tab {l : Spans} {N : Nat} (hw : Wi l N) (i : Nat) : edge (tab (inSp l) N) i = inSp l ((i : Int) - 1) := by
  have out : ∀ n : Int, (n < 0 ∨ (N : Int) ≤ n) → inSp l n = false := fun n h => by
    rw [Bool.eq_false_iff]
    intro h'
    obtain ⟨p, hp, a, b⟩ := (inSp_iff _ _).mp h'
    have := hw p hp
    lia
  cases i with
  | zero => rw [out _ (by omega)]; rfl
  | succ i =>
    have e : edge (tab (inSp l) N) (i + 1) = (tab (inSp l) N ++ [false]).getD i false := by
      unfold edge edged; rfl
    rw [e, show ((i + 1 : Nat) : Int) - 1 = (i : Int) by (first | exact Int.sub_eq_iff_eq_add.mpr rfl | lia)]
    unfold tab
    by_cases hi : i < N
    · rw [List.getD_eq_getElem?_getD, List.getElem?_append_left (by simpa using hi)]
      simp [hi]
    · rw [out _ (by omega), List.getD_eq_getElem?_getD, List.getElem?_append_right (by simp; (first | exact Nat.le_of_not_lt hi | lia))]
      rcases Nat.eq_zero_or_pos (i - N) with h | h
      · simp [h]
      · simp
        rw [List.getElem?_eq_none (by simp; assumption)]; rfl
theorem range_lt (N : Nat) (f : Nat → Bool) : (((List.range N).filter f).map fun (n : Nat) => (n : Int)).Pairwise (· < ·) := by
  rw [List.pairwise_map]
  refine (List.Pairwise.filter _ List.pairwise_lt_range).imp fun {a b} h => by (first | exact Int.ofNat_lt.mpr h | lia)
theorem runs_tidy {l : Spans} {N : Nat} (t : Tidy l) (hw : Wi l N) : runs (tab (inSp l) N) = l := by
  have hN : (tab (inSp l) N).length = N := by simp [tab]
  have e1 : ((lowsN (tab (inSp l) N)).map fun (n : Nat) => (n : Int)) = l.map (·.1) := by
    unfold lowsN
    refine same_list (range_lt _ _) ?_ fun x => ?_
    · rw [List.pairwise_map]
      refine List.Pairwise.imp_of_mem (R := fun p q => p.2 + 1 < q.1) (fun {a b} ha hb h => ?_) t.1
      have := t.2 a ha
      lia
    · simp only [List.mem_map, List.mem_filter, List.mem_range, hN, edge_tab hw, Bool.and_eq_true, Bool.not_eq_true']
      constructor
      · rintro ⟨i, ⟨h1, h2, h3⟩, rfl⟩
        rw [show ((i + 1 : Nat) : Int) - 1 = (i : Int) by (first | exact Int.sub_eq_iff_eq_add.mpr rfl | lia)] at h2
        obtain ⟨p, hp, a, b⟩ := (inSp_iff _ _).mp h2
        refine ⟨p, hp, ?_⟩
        rcases Int.lt_or_le p.1 i with h | h
        · have := (inSp_iff l ((i : Int) - 1)).mpr ⟨p, hp, by (first | exact Int.le_sub_one_of_lt h | lia), by lia⟩
          rw [this] at h3; cases h3
        · (first | exact Eq.symm (Int.le_antisymm h a) | lia)
      · rintro ⟨p, hp, rfl⟩
        have hwp := hw p hp
        have htp := t.2 p hp
        refine ⟨p.1.toNat, ⟨by omega, ?_, ?_⟩, by lia⟩
        · rw [show ((p.1.toNat + 1 : Nat) : Int) - 1 = p.1 by lia]
          exact (inSp_iff _ _).mpr ⟨p, hp, by (first | exact Int.le_refl p.fst | lia), htp⟩
        · rw [Bool.eq_false_iff]
          intro h
          obtain ⟨q, hq, a, b⟩ := (inSp_iff _ _).mp h
          have htq := t.2 q hq
          rcases t.apart hp hq with h | h | h
          · subst h; omega
          · grind
          · omega
  have e2 : ((highsN (tab (inSp l) N)).map fun (n : Nat) => (n : Int)) = l.map (·.2) := by
    unfold highsN
    refine same_list (range_lt _ _) ?_ fun x => ?_
    · rw [List.pairwise_map]
      refine List.Pairwise.imp_of_mem (R := fun p q => p.2 + 1 < q.1) (fun {a b} ha hb h => ?_) t.1
      have := t.2 b hb
      lia
    · simp only [List.mem_map, List.mem_filter, List.mem_range, hN, edge_tab hw, Bool.and_eq_true, Bool.not_eq_true']
      constructor
      · rintro ⟨i, ⟨h1, h2, h3⟩, rfl⟩
        rw [show ((i + 1 : Nat) : Int) - 1 = (i : Int) by (first | exact Int.sub_eq_iff_eq_add.mpr rfl | lia)] at h2
        rw [show ((i + 2 : Nat) : Int) - 1 = (i : Int) + 1 by (first | exact Int.sub_eq_iff_eq_add.mpr rfl | lia)] at h3
        obtain ⟨p, hp, a, b⟩ := (inSp_iff _ _).mp h2
        refine ⟨p, hp, ?_⟩
        rcases Int.lt_or_le i p.2 with h | h
        · have := (inSp_iff l ((i : Int) + 1)).mpr ⟨p, hp, by (first | exact Int.le_add_one a | lia), by assumption⟩
          rw [this] at h3; cases h3
        · (first | exact Eq.symm (Int.le_antisymm b h) | lia)
      · rintro ⟨p, hp, rfl⟩
        have hwp := hw p hp
        have htp := t.2 p hp
        refine ⟨p.2.toNat, ⟨by omega, ?_, ?_⟩, by lia⟩
        · rw [show ((p.2.toNat + 1 : Nat) : Int) - 1 = p.2 by lia]
          exact (inSp_iff _ _).mpr ⟨p, hp, htp, by (first | exact Int.le_refl p.snd | lia)⟩
        · rw [show ((p.2.toNat + 2 : Nat) : Int) - 1 = p.2 + 1 by lia, Bool.eq_false_iff]
          intro h
          obtain ⟨q, hq, a, b⟩ := (inSp_iff _ _).mp h
          have htq := t.2 q hq
          rcases t.apart hp hq with h | h | h
          · subst h; lia
          · lia
          · lia
  unfold runs
  have e3 : List.zipWith (fun (a b : Nat) => ((a : Int), (b : Int))) (lowsN (tab (inSp l) N)) (highsN (tab (inSp l) N))
      = List.zipWith (fun (a b : Int) => (a, b)) ((lowsN (tab (inSp l) N)).map fun (n : Nat) => (n : Int)) ((highsN (tab (inSp l) N)).map fun (n : Nat) => (n : Int)) := by
    rw [List.zipWith_map]
  rw [e3, e1, e2, List.zipWith_map]
  have : ∀ l : Spans, List.zipWith (fun (a b : Int × Int) => (a.1, b.2)) l l = l := by
    intro l
    induction l with
    | nil => rfl
    | cons p l ih => rw [List.zipWith_cons_cons, ih]
  exact this l
theorem tab_eq {f g : Int → Bool} {N : Nat} (h : ∀ n : Nat, n < N → f n = g n) : tab f N = tab g N :=
  List.map_congr_left fun n hn => h n (List.mem_range.mp hn)
/-- the tidy list of a truth table -/
theorem runs_of {l : Spans} {N : Nat} {f : Int → Bool} (t : Tidy l) (hw : Wi l N) (h : ∀ n, In l n ↔ f n = true) : runs (tab f N) = l := by
  rw [tab_eq (g := inSp l) fun n _ => by rw [Bool.eq_iff_iff, inSp_iff]; exact (h n).symm]
  exact runs_tidy t hw
end Mine
end

section
open PySem PyProof.Rows PySem.W
namespace Mine
set_option autoImplicit false
set_option linter.unusedVariables false
set_option maxRecDepth 100000

theorem Wi.of {F : Spans} {N : Nat} (t : Tidy F) (h : ∀ n, In F n → 0 ≤ n ∧ n < N) : Wi F N := fun p hp => by
  have htp := t.2 p hp
  have h1 := h p.1 ⟨p, hp, by (first | exact Int.le_refl p.fst | lia), htp⟩
  have h2 := h p.2 ⟨p, hp, htp, by (first | exact Int.le_refl p.snd | lia)⟩
  exact ⟨h1.1, h2.2⟩
/-- tidy: a step -/
theorem put_ok {F : Spans} {p : Int × Int} (t : Tidy F) (hF : ∀ q ∈ F, q.1 ≤ p.1) (hp : p.1 ≤ p.2) : Tidy (put F p) ∧ (∀ n, In (put F p) n ↔ In F n ∨ (p.1 ≤ n ∧ n ≤ p.2)) ∧ ∀ q ∈ put F p, q.1 ≤ p.1 := by
  unfold put
  have snoc : (∀ q ∈ F, q.2 + 1 < p.1) → Tidy (F ++ [p]) ∧ (∀ n, In (F ++ [p]) n ↔ In F n ∨ (p.1 ≤ n ∧ n ≤ p.2)) ∧ ∀ q ∈ F ++ [p], q.1 ≤ p.1 := fun h =>
    ⟨t.snoc hp h, fun n => by rw [In.app, In.one], fun q hq => by
      rcases List.mem_append.mp hq with hq | hq
      · exact hF q hq
      · rw [List.mem_singleton.mp hq]; (first | exact Int.le_refl p.fst | lia)⟩
  cases hl : F.getLast? with
  | none =>
    have : F = [] := List.getLast?_eq_none_iff.mp hl
    subst this
    exact snoc (by simp)
  | some q =>
    obtain ⟨F', rfl⟩ := List.getLast?_eq_some_iff.mp hl
    obtain ⟨t1, t2, t3⟩ := t.of_snoc
    have hq := hF q (List.mem_append_right _ (.head _))
    simp only [List.dropLast_concat]
    split
    · split
      · refine ⟨t1.snoc (by show q.1 ≤ p.2; (first | exact Int.le_trans hq hp | lia)) t3, fun n => ?_, fun r hr => ?_⟩
        · rw [In.app, In.app, In.one, In.one]
          dsimp only
          constructor
          · rintro (h | h)
            · exact .inl (.inl h)
            · by_cases h' : n ≤ q.2
              · exact .inl (.inr ⟨h.1, h'⟩)
              · exact .inr ⟨by lia, h.2⟩
          · rintro ((h | h) | h)
            · exact .inl h
            · exact .inr ⟨h.1, by lia⟩
            · exact .inr ⟨by lia, h.2⟩
        · rcases List.mem_append.mp hr with hr | hr
          · exact hF r (List.mem_append_left _ hr)
          · rw [List.mem_singleton.mp hr]; exact hq
      · refine ⟨t, fun n => ⟨.inl, ?_⟩, hF⟩
        rintro (h | h)
        · exact h
        · rw [In.app, In.one]; exact .inr ⟨by lia, by lia⟩
    · refine snoc fun r hr => ?_
      rcases List.mem_append.mp hr with hr | hr
      · have := t3 r hr; (first | exact Int.lt_of_lt_of_le (t3 r hr) hq | lia)
      · rw [List.mem_singleton.mp hr]; lia
theorem fold_ok : ∀ (l F : Spans), Tidy F → (∀ q ∈ F, ∀ p ∈ l, q.1 ≤ p.1) → (∀ p ∈ l, p.1 ≤ p.2) → l.Pairwise (fun p q => p.1 ≤ q.1) → Tidy (l.foldl put F) ∧ ∀ n, In (l.foldl put F) n ↔ In F n ∨ In l n
  | [], F, t, _, _, _ => ⟨t, fun n => ⟨.inl, fun h => h.elim id fun h => absurd h In.nil⟩⟩
  | p :: l, F, t, h1, h2, h3 => by
    obtain ⟨a, b, c⟩ := put_ok t (fun q hq => h1 q hq p (.head _)) (h2 p (.head _))
    obtain ⟨h4, h5⟩ := List.pairwise_cons.mp h3
    obtain ⟨x, y⟩ := fold_ok l (put F p) a (fun q hq r hr => Int.le_trans (c q hq) (h4 r hr)) (fun r hr => h2 r (.tail _ hr)) h5
    refine ⟨x, fun n => (y n).trans ?_⟩
    rw [b, show p :: l = [p] ++ l from rfl, In.app, In.one, or_assoc]
theorem tidyS_ok {l : Spans} (hs : Small l) (hl : ∀ p ∈ l, p.1 ≤ p.2) : Tidy (tidyS l) ∧ ∀ n, In (tidyS l) n ↔ In l n := by
  have hm := (sortS_perm l)
  obtain ⟨x, y⟩ := fold_ok (sortS l) [] Tidy.nil (by simp) (fun p hp => hl p (hm.mem_iff.mp hp)) (List.Pairwise.imp_of_mem (fun {a b} ha hb h => by
    have h1 := hs a (hm.mem_iff.mp ha)
    have h2 := hs b (hm.mem_iff.mp hb)
    unfold pk at h
    lia) (sortS_sorted l))
  refine ⟨x, fun n => (y n).trans ?_⟩
  rw [In.perm hm]
  exact ⟨fun h => h.elim (fun h => absurd h In.nil) id, .inr⟩

/-! meet: a step -/
structure MInv (a b : Spans) (i j : Nat) (F : Spans) : Prop where
  t : Tidy F
  far : ∀ p ∈ F, ∀ x y, a[i]? = some x → b[j]? = some y → p.2 + 1 < max x.1 y.1
  eq : ∀ n, In F n ↔ (In (a.take i) n ∧ In b n) ∨ (In a n ∧ In (b.take j) n)
theorem MInv.start (a b : Spans) : MInv a b 0 0 [] := ⟨Tidy.nil, by simp, fun n => by
  rw [List.take_zero, List.take_zero]
  exact ⟨fun h => absurd h In.nil, fun h => h.elim (fun h => absurd h.1 In.nil) fun h => absurd h.2 In.nil⟩⟩
theorem take_succ' {l : Spans} {i : Nat} {p : Int × Int} (h : l[i]? = some p) : l.take (i + 1) = l.take i ++ [p] := by rw [List.take_add_one, h]; rfl
theorem In.at {l : Spans} {i : Nat} {p : Int × Int} {n : Int} (h : l[i]? = some p) (a : p.1 ≤ n) (b : n ≤ p.2) : In l n := ⟨p, List.mem_of_getElem? h, a, b⟩
/-- where a number of a tidy list lies -/
theorem In.part {l : Spans} (t : Tidy l) {i : Nat} {p : Int × Int} {n : Int} (h : l[i]? = some p) (hn : In l n) : In (l.take i) n ∨ (p.1 ≤ n ∧ n ≤ p.2) ∨ p.2 + 1 < n := by
  obtain ⟨q, hq, a, b⟩ := hn
  obtain ⟨k, hk⟩ := List.mem_iff_getElem?.mp hq
  rcases Nat.lt_trichotomy k i with h' | h' | h'
  · exact .inl ⟨q, List.mem_of_getElem? (by rw [List.getElem?_take, if_pos h']; exact hk), a, b⟩
  · subst h'
    rw [h] at hk; cases hk
    exact .inr (.inl ⟨a, b⟩)
  · have := t.at h' h hk
    exact .inr (.inr (by (first | exact Int.lt_of_lt_of_le this a | lia)))
theorem In.sub {l : Spans} {i : Nat} {n : Int} (h : In (l.take i) n) : In l n := let ⟨p, hp, k⟩ := h; ⟨p, List.mem_of_mem_take hp, k⟩
noncomputable def meetPut (F : Spans) (x y : Int × Int) : Spans := if max x.1 y.1 ≤ min x.2 y.2 then F ++ [(max x.1 y.1, min x.2 y.2)] else F
theorem meetPut_ok {a b : Spans} {i j : Nat} {F : Spans} (m : MInv a b i j F) {x y : Int × Int} (hx : a[i]? = some x) (hy : b[j]? = some y) :
    Tidy (meetPut F x y) ∧ (∀ n, In (meetPut F x y) n ↔ In F n ∨ (x.1 ≤ n ∧ n ≤ x.2 ∧ y.1 ≤ n ∧ n ≤ y.2)) ∧ ∀ p ∈ meetPut F x y, p ∈ F ∨ p.2 = min x.2 y.2 := by
  unfold meetPut
  by_cases h : max x.1 y.1 ≤ min x.2 y.2
  · rw [if_pos h]
    refine ⟨m.t.snoc h fun q hq => m.far q hq x y hx hy, fun n => ?_, fun p hp => ?_⟩
    · rw [In.app, In.one]
      dsimp only
      refine or_congr Iff.rfl ?_
      lia
    · rcases List.mem_append.mp hp with hp | hp
      · exact .inl hp
      · rw [List.mem_singleton.mp hp]; exact .inr rfl
  · rw [if_neg h]
    refine ⟨m.t, fun n => ⟨.inl, fun h' => h'.elim id fun h' => ?_⟩, fun p hp => .inl hp⟩
    exact absurd (show max x.1 y.1 ≤ min x.2 y.2 by grind) h
theorem MInv.left {a b : Spans} (ta : Tidy a) (tb : Tidy b) {i j : Nat} {F : Spans} (m : MInv a b i j F) {x y : Int × Int} (hx : a[i]? = some x) (hy : b[j]? = some y) (h : x.2 < y.2) : MInv a b (i + 1) j (meetPut F x y) := by
  obtain ⟨h1, h2, h3⟩ := meetPut_ok m hx hy
  have hy' := tb.2 y (List.mem_of_getElem? hy)
  refine ⟨h1, fun p hp x' y' hx' hy'' => ?_, fun n => ?_⟩
  · rw [hy] at hy''; cases hy''
    have hxx := ta.at (Nat.lt_succ_self i) hx hx'
    have hxl := ta.2 x (List.mem_of_getElem? hx)
    rcases h3 p hp with hp | hp
    · have := m.far p hp x y hx hy; lia
    · omega
  · rw [h2, m.eq, take_succ' hx, In.app, In.one]
    constructor
    · rintro ((h' | h') | h')
      · exact .inl ⟨.inl h'.1, h'.2⟩
      · exact .inr h'
      · exact .inl ⟨.inr ⟨h'.1, h'.2.1⟩, .at hy h'.2.2.1 h'.2.2.2⟩
    · rintro (⟨h' | h', hb⟩ | h')
      · exact .inl (.inl ⟨h', hb⟩)
      · rcases In.part tb hy hb with h'' | h'' | h''
        · exact .inl (.inr ⟨.at hx h'.1 h'.2, h''⟩)
        · exact .inr ⟨h'.1, h'.2, h''.1, h''.2⟩
        · grind
      · exact .inl (.inr h')
theorem MInv.right {a b : Spans} (ta : Tidy a) (tb : Tidy b) {i j : Nat} {F : Spans} (m : MInv a b i j F) {x y : Int × Int} (hx : a[i]? = some x) (hy : b[j]? = some y) (h : ¬ x.2 < y.2) : MInv a b i (j + 1) (meetPut F x y) := by
  obtain ⟨h1, h2, h3⟩ := meetPut_ok m hx hy
  refine ⟨h1, fun p hp x' y' hx' hy' => ?_, fun n => ?_⟩
  · rw [hx] at hx'; cases hx'
    have hyy := tb.at (Nat.lt_succ_self j) hy hy'
    have hyl := tb.2 y (List.mem_of_getElem? hy)
    rcases h3 p hp with hp | hp
    · have := m.far p hp x y hx hy; omega
    · omega
  · rw [h2, m.eq, take_succ' hy, In.app, In.one]
    constructor
    · rintro ((h' | h') | h')
      · exact .inl h'
      · exact .inr ⟨h'.1, .inl h'.2⟩
      · exact .inr ⟨.at hx h'.1 h'.2.1, .inr h'.2.2⟩
    · rintro (h' | ⟨ha, h' | h'⟩)
      · exact .inl (.inl h')
      · exact .inl (.inr ⟨ha, h'⟩)
      · rcases In.part ta hx ha with h'' | h'' | h''
        · exact .inl (.inl ⟨h'', .at hy h'.1 h'.2⟩)
        · exact .inr ⟨h''.1, h''.2, h'.1, h'.2⟩
        · omega
theorem MInv.done {a b : Spans} {i j : Nat} {F : Spans} (m : MInv a b i j F) (h : a.length ≤ i ∨ b.length ≤ j) (n : Int) : In F n ↔ In a n ∧ In b n := by
  rw [m.eq]
  rcases h with h | h
  · rw [List.take_of_length_le h]
    exact ⟨fun h => h.elim id fun h => ⟨h.1, h.2.sub⟩, .inl⟩
  · rw [List.take_of_length_le h]
    exact ⟨fun h => h.elim (fun h => ⟨h.1.sub, h.2⟩) id, .inr⟩

/-! minus: the two loops of one span -/
/-- within the span x, from number begin on yet to do, k the next of b -/
structure SInv (b : Spans) (x : Int × Int) (F₀ : Spans) (begin : Int) (k : Nat) (F : Spans) : Prop where
  t : Tidy F
  lo : x.1 ≤ begin
  far : ∀ p ∈ F, p.2 + 1 < begin
  top : ∀ p ∈ F, p.2 ≤ x.2
  low : ∀ i y, i < k → b[i]? = some y → y.2 < begin
  nxt : ∀ y, b[k]? = some y → begin ≤ y.2
  eq : ∀ n, In F n ↔ In F₀ n ∨ (x.1 ≤ n ∧ n ≤ x.2 ∧ n < begin ∧ ¬ In b n)
theorem SInv.start {b : Spans} {x : Int × Int} {F₀ : Spans} {k : Nat} (t : Tidy F₀) (hx : x.1 ≤ x.2) (far : ∀ p ∈ F₀, p.2 + 1 < x.1) (low : ∀ i y, i < k → b[i]? = some y → y.2 < x.1) (nxt : ∀ y, b[k]? = some y → x.1 ≤ y.2) : SInv b x F₀ x.1 k F₀ :=
  ⟨t, Int.le_refl _, far, fun p hp => by have := far p hp; lia, low, nxt, fun n => ⟨.inl, fun h => h.elim id fun h => by lia⟩⟩
noncomputable def minusPut (F : Spans) (begin : Int) (y : Int × Int) : Spans := if begin < y.1 then F ++ [(begin, y.1 - 1)] else F
theorem SInv.step {b : Spans} (tb : Tidy b) {x : Int × Int} {F₀ : Spans} {begin : Int} {k : Nat} {F : Spans} (m : SInv b x F₀ begin k F) {y : Int × Int} (hy : b[k]? = some y) (h : y.1 ≤ x.2) : SInv b x F₀ (y.2 + 1) (k + 1) (minusPut F begin y) := by
  have hyl := tb.2 y (List.mem_of_getElem? hy)
  have hn := m.nxt y hy
  have hlo := m.lo
  have hlow : ∀ i z, i < k + 1 → b[i]? = some z → z.2 < y.2 + 1 := fun i z hi hz => by
    rcases Nat.lt_or_ge i k with h' | h'
    · have := m.low i z h' hz; lia
    · have : i = k := by (first | exact Nat.eq_of_le_of_lt_succ h' hi | lia)
      subst this; rw [hy] at hz; cases hz; (first | exact Int.lt_succ y.snd | lia)
  have hnxt : ∀ z, b[k + 1]? = some z → y.2 + 1 ≤ z.2 := fun z hz => by
    have := tb.at (Nat.lt_succ_self k) hy hz
    have := tb.2 z (List.mem_of_getElem? hz)
    lia
  -- a number from begin up to before y is not in b
  have gap : ∀ n, begin ≤ n → n < y.1 → ¬ In b n := fun n h1 h2 h3 => by
    obtain ⟨z, hz, c, d⟩ := h3
    obtain ⟨i, hi⟩ := List.mem_iff_getElem?.mp hz
    rcases Nat.lt_trichotomy i k with h' | h' | h'
    · have := m.low i z h' hi; lia
    · subst h'; rw [hy] at hi; cases hi; lia
    · have := tb.at h' hy hi; lia
  unfold minusPut
  by_cases hb : begin < y.1
  · rw [if_pos hb]
    refine ⟨m.t.snoc (by show begin ≤ y.1 - 1; (first | exact Int.le_sub_one_of_lt hb | lia)) m.far, by lia, fun p hp => ?_, fun p hp => ?_, hlow, hnxt, fun n => ?_⟩
    · rcases List.mem_append.mp hp with hp | hp
      · have := m.far p hp; lia
      · rw [List.mem_singleton.mp hp]; show y.1 - 1 + 1 < _; lia
    · rcases List.mem_append.mp hp with hp | hp
      · exact m.top p hp
      · rw [List.mem_singleton.mp hp]; show y.1 - 1 ≤ _; lia
    · rw [In.app, In.one, m.eq]
      dsimp only
      constructor
      · rintro ((h' | h') | h')
        · exact .inl h'
        · exact .inr ⟨h'.1, h'.2.1, by lia, h'.2.2.2⟩
        · exact .inr ⟨by lia, by lia, by lia, gap n h'.1 (by lia)⟩
      · rintro (h' | h')
        · exact .inl (.inl h')
        · by_cases h1 : n < begin
          · exact .inl (.inr ⟨h'.1, h'.2.1, h1, h'.2.2.2⟩)
          · by_cases h2 : n ≤ y.1 - 1
            · exact .inr ⟨by (first | exact Int.not_lt.mp h1 | lia), h2⟩
            · exact absurd (In.at hy (by lia) (by lia)) h'.2.2.2
  · rw [if_neg hb]
    refine ⟨m.t, by lia, fun p hp => by have := m.far p hp; lia, m.top, hlow, hnxt, fun n => ?_⟩
    rw [m.eq]
    constructor
    · rintro (h' | h')
      · exact .inl h'
      · exact .inr ⟨h'.1, h'.2.1, by lia, h'.2.2.2⟩
    · rintro (h' | h')
      · exact .inl h'
      · by_cases h1 : n < begin
        · exact .inr ⟨h'.1, h'.2.1, h1, h'.2.2.2⟩
        · exact absurd (In.at hy (by lia) (by lia)) h'.2.2.2
noncomputable def minusEnd (F : Spans) (begin : Int) (x : Int × Int) : Spans := if begin ≤ x.2 then F ++ [(begin, x.2)] else F
theorem SInv.done {b : Spans} (tb : Tidy b) {x : Int × Int} {F₀ : Spans} {begin : Int} {k : Nat} {F : Spans} (m : SInv b x F₀ begin k F) (h : ∀ y, b[k]? = some y → x.2 < y.1) :
    Tidy (minusEnd F begin x) ∧ (∀ p ∈ minusEnd F begin x, p.2 ≤ x.2) ∧ ∀ n, In (minusEnd F begin x) n ↔ In F₀ n ∨ (x.1 ≤ n ∧ n ≤ x.2 ∧ ¬ In b n) := by
  have hlo := m.lo
  unfold minusEnd
  by_cases hb : begin ≤ x.2
  · rw [if_pos hb]
    refine ⟨m.t.snoc hb m.far, fun p hp => ?_, fun n => ?_⟩
    · rcases List.mem_append.mp hp with hp | hp
      · exact m.top p hp
      · rw [List.mem_singleton.mp hp]; exact Int.le_refl _
    · rw [In.app, In.one, m.eq]
      dsimp only
      constructor
      · rintro ((h' | h') | h')
        · exact .inl h'
        · exact .inr ⟨h'.1, h'.2.1, h'.2.2.2⟩
        · refine .inr ⟨by lia, h'.2, fun h3 => ?_⟩
          obtain ⟨z, hz, c, d⟩ := h3
          obtain ⟨i, hi⟩ := List.mem_iff_getElem?.mp hz
          rcases Nat.lt_or_ge i k with h4 | h4
          · have := m.low i z h4 hi; lia
          · have hk : k < b.length := by have := (List.getElem?_eq_some_iff.mp hi).1; (first | exact Nat.lt_of_le_of_lt h4 this | lia)
            have hy := List.getElem?_eq_getElem hk
            have hxy := h _ hy
            rcases Nat.lt_or_ge k i with h5 | h5
            · have := tb.at h5 hy hi
              have := tb.2 _ (List.mem_of_getElem? hy)
              lia
            · have : i = k := by (first | exact Nat.le_antisymm h5 h4 | lia)
              subst this; rw [hy] at hi; cases hi; lia
      · rintro (h' | h')
        · exact .inl (.inl h')
        · by_cases h1 : n < begin
          · exact .inl (.inr ⟨h'.1, h'.2.1, h1, h'.2.2⟩)
          · exact .inr ⟨by (first | exact Int.not_lt.mp h1 | lia), h'.2.1⟩
  · rw [if_neg hb]
    refine ⟨m.t, m.top, fun n => ?_⟩
    rw [m.eq]
    constructor
    · rintro (h' | h')
      · exact .inl h'
      · exact .inr ⟨h'.1, h'.2.1, h'.2.2.2⟩
    · rintro (h' | h')
      · exact .inl h'
      · exact .inr ⟨h'.1, h'.2.1, by lia, h'.2.2⟩
end Mine
end

section
open PySem PyProof.Rows PySem.W
namespace Mine
set_option autoImplicit false
set_option linter.unusedVariables false
set_option maxRecDepth 100000

noncomputable def pMeet : Str × Nat := (Str.ofString "meet", 5)
theorem meet_ok {mg mb : Str → Option Value} (a b : Spans) (ta : Tidy a) (tb : Tidy b) (wa : Wi a 64) (la : a.length ≤ 64) (lb : b.length ≤ 64) :
    FnOk mg mb pMeet 1 [.lst (enc a), .lst (enc b)] (.lst (enc (runs (tab (fun n => inSp a n && inSp b n) 64)))) := by
  refine FnOk.of [Str.ofString "a", Str.ofString "b"] ?_ ?_ ?_
  · intro vs hv pm doc c
    obtain ⟨v1, v2, rfl⟩ := len2 hv
    rfl
  · intro L x hx
    simp only [List.mem_cons, List.not_mem_nil, or_false] at hx
    rcases hx with rfl | rfl <;> exact .inl rfl
  · intro w A X₀ pm doc c L ad h₀ h1 rm G S
    have ea := enc_length a
    have la' : a.length ≤ 1000 := Nat.le_trans la (by decide)
    have eb := enc_length b
    have lb' : b.length ≤ 1000 := Nat.le_trans lb (by decide)
    refine Exs.born S rfl rfl rfl fun gg h2 S => ?_
    refine Exs.set (d := .int 0) S Ev.int fun h2 S => ?_
    refine Exs.set (d := .int 0) S Ev.int fun h2 S => ?_
    refine Exs.while (fun k ρ own => ∃ (i j : Nat) (F : Spans), own = some (Str.ofString "found", enc F) ∧ ρ (Str.ofString "a") = some (.lst (enc a)) ∧ ρ (Str.ofString "b") = some (.lst (enc b)) ∧ ρ (Str.ofString "i") = some (.int i) ∧ ρ (Str.ofString "j") = some (.int j) ∧
      MInv a b i j F ∧ i ≤ a.length ∧ j ≤ b.length ∧ F.length ≤ i + j ∧ k = (a.length - i) + (b.length - j)) (a.length + b.length)
      ⟨0, 0, [], rfl, rfl, rfl, rfl, rfl, .start a b, Nat.zero_le _, Nat.zero_le _, Nat.zero_le _, rfl⟩ S ?_
    rintro k ρ own h3 ⟨i, j, F, rfl, r1, r2, r3, r4, m, q1, q2, q3, rfl⟩ S
    have G1 := G.ext S.keep
    have eF := enc_length F
    refine ⟨_, Te.and (Te.cmp (S.nm r3) (Ev.lenOf G1 (S.nm r1) ea (lt62 la')) Co.lt) fun _ => Te.cmp (S.nm r4) (Ev.lenOf G1 (S.nm r2) eb (lt62 lb')) Co.lt, fun hb h4 S => ?_, fun hb h4 S => ?_⟩
    · simp only [Bool.and_eq_true, decide_eq_true_eq] at hb
      obtain ⟨x, hx⟩ : ∃ x, a[i]? = some x := ⟨_, List.getElem?_eq_getElem (show i < a.length by lia)⟩
      obtain ⟨y, hy⟩ : ∃ y, b[j]? = some y := ⟨_, List.getElem?_eq_getElem (show j < b.length by lia)⟩
      have G2 := G.ext S.keep
      refine Exs.set (d := .int (max x.1 y.1)) S (Ev.callB (G2.built (c := ((fx w A pMeet pm doc c L ad h₀ X₀).more gg).cx) (Str.ofString "max") (by simp [bltns]) rfl rfl rfl rfl (by rfl))
        (Sp.cons (Ev.itemFst (S.nm r1) (S.nm r3) hx la') (Sp.cons (Ev.itemFst (S.nm r2) (S.nm r4) hy lb') Sp.nil)) (Cl.maxI rm.hh)) fun h5 S => ?_
      have G3 := G.ext S.keep
      refine Exs.set (d := .int (min x.2 y.2)) S (Ev.callB (G3.built (c := ((fx w A pMeet pm doc c L ad h₀ X₀).more gg).cx) (Str.ofString "min") (by simp [bltns]) rfl rfl rfl rfl (by rfl))
        (Sp.cons (Ev.itemSnd (S.nm r1) (S.nm r3) hx la') (Sp.cons (Ev.itemSnd (S.nm r2) (S.nm r4) hy lb') Sp.nil)) (Cl.minI rm.hh)) fun h6 S => ?_
      refine Exs.if (t := decide (max x.1 y.1 ≤ min x.2 y.2)) (fun ρ own => own = some (Str.ofString "found", enc (meetPut F x y)) ∧ ρ (Str.ofString "a") = some (.lst (enc a)) ∧ ρ (Str.ofString "b") = some (.lst (enc b)) ∧ ρ (Str.ofString "i") = some (.int i) ∧ ρ (Str.ofString "j") = some (.int j))
        (Te.cmp (S.nm rfl) (S.nm rfl) Co.le) (fun ht h7 e7 => ?_) (fun ht h7 e7 => ?_) ?_
      · have S := S.ext e7
        refine Exs.app (d := .tup [.int (max x.1 y.1), .int (min x.2 y.2)]) S (fun h8 e8 => ?_) (by lia) fun h8 S => Exs.nil ⟨rfl, stay S ⟨?_, r1, r2, r3, r4⟩⟩
        · have S := S.ext e8
          exact Ev.tuple S.bd (Sp.cons (S.nm rfl) (Sp.cons (S.nm rfl) Sp.nil))
        · unfold meetPut; rw [if_pos (by simpa using ht), ← enc_app]
      · have S := S.ext e7
        refine Exs.nil ⟨rfl, stay S ⟨?_, r1, r2, r3, r4⟩⟩
        unfold meetPut; rw [if_neg (by simpa using ht)]
      · rintro ρ own h7 ⟨rfl, r1, r2, r3, r4⟩ S
        have hlen : (meetPut F x y).length ≤ F.length + 1 := by
          unfold meetPut; split
          · simp
          · (first | exact Nat.le_add_right (List.length F) 1 | lia)
        refine Exs.if (t := decide (x.2 < y.2)) (fun ρ own => ∃ (i' j' : Nat), own = some (Str.ofString "found", enc (meetPut F x y)) ∧ ρ (Str.ofString "a") = some (.lst (enc a)) ∧ ρ (Str.ofString "b") = some (.lst (enc b)) ∧ ρ (Str.ofString "i") = some (.int i') ∧ ρ (Str.ofString "j") = some (.int j') ∧
            MInv a b i' j' (meetPut F x y) ∧ i' ≤ a.length ∧ j' ≤ b.length ∧ i' + j' = i + j + 1)
          (Te.cmp (Ev.itemSnd (S.nm r1) (S.nm r3) hx la') (Ev.itemSnd (S.nm r2) (S.nm r4) hy lb') Co.lt) (fun ht h8 e8 => ?_) (fun ht h8 e8 => ?_) ?_
        · have S := S.ext e8
          exact Exs.aug S r3 Ev.int fun h9 S => Exs.nil ⟨rfl, stay S ⟨i + 1, j, rfl, r1, r2, rfl, r4, m.left ta tb hx hy (by simpa using ht), by lia, q2, by (first | exact Nat.add_right_comm i 1 j | lia)⟩⟩
        · have S := S.ext e8
          exact Exs.aug S r4 Ev.int fun h9 S => Exs.nil ⟨rfl, stay S ⟨i, j + 1, rfl, r1, r2, r3, rfl, m.right ta tb hx hy (by simpa using ht), q1, by lia, by (first | exact Eq.symm (Nat.add_assoc i j 1) | lia)⟩⟩
        · rintro ρ own h8 ⟨i', j', rfl, r1, r2, r3, r4, m', w1, w2, w3⟩ S
          exact Exs.nil ⟨_, _, ⟨(a.length - i') + (b.length - j'), by grind, i', j', _, rfl, r1, r2, r3, r4, m', w1, w2, by lia, rfl⟩, S⟩
    · have hd := m.done (by
        simp only [Bool.and_eq_false_iff, decide_eq_false_iff_not] at hb
        lia)
      have e : runs (tab (fun n => inSp a n && inSp b n) 64) = F := by
        refine runs_of m.t (.of m.t fun n hn => ?_) fun n => ?_
        · obtain ⟨p, hp, c, d⟩ := ((hd n).mp hn).1
          have := wa p hp
          lia
        · rw [hd n, Bool.and_eq_true, inSp_iff, inSp_iff]
      rw [e]
      exact Exs.retOwn S fun v r => ⟨v, rfl, r⟩

noncomputable def pMinus : Str × Nat := (Str.ofString "minus", 7)
theorem minus_ok {mg mb : Str → Option Value} (a b : Spans) (N : Nat) (ta : Tidy a) (tb : Tidy b) (wa : Wi a N) (la : a.length ≤ 64) (lb : b.length ≤ 64) :
    FnOk mg mb pMinus 1 [.lst (enc a), .lst (enc b)] (.lst (enc (runs (tab (fun n => inSp a n && !inSp b n) N)))) := by
  refine FnOk.of [Str.ofString "a", Str.ofString "b"] ?_ ?_ ?_
  · intro vs hv pm doc c
    obtain ⟨v1, v2, rfl⟩ := len2 hv
    rfl
  · intro L x hx
    simp only [List.mem_cons, List.not_mem_nil, or_false] at hx
    rcases hx with rfl | rfl <;> exact .inl rfl
  · intro w A X₀ pm doc c L ad h₀ h1 rm G S
    have eb := enc_length b
    have lb' : b.length ≤ 1000 := Nat.le_trans lb (by decide)
    refine Exs.born S rfl rfl rfl fun gg h2 S => ?_
    refine Exs.set (d := .int 0) S Ev.int fun h2 S => ?_
    refine Exs.forPairs (psOf a) rm.hh (by rw [← enc_ps]; exact S.nm rfl)
      (fun i ρ own => ∃ (j : Nat) (F : Spans), own = some (Str.ofString "found", enc F) ∧ ρ (Str.ofString "b") = some (.lst (enc b)) ∧ ρ (Str.ofString "j") = some (.int j) ∧ j ≤ b.length ∧ Tidy F ∧ (∀ p ∈ F, ∀ x, a[i]? = some x → p.2 + 1 < x.1) ∧
        (∀ j' y x, j' < j → b[j']? = some y → a[i]? = some x → y.2 < x.1) ∧ (∀ n, In F n ↔ In (a.take i) n ∧ ¬ In b n) ∧ F.length ≤ 70 * i)
      (fun i ρ own hi p hp => by obtain ⟨j, F, rfl, _⟩ := hi; cases hp; dsimp only; exact ⟨by decide, by decide⟩) ⟨0, [], rfl, rfl, rfl, Nat.zero_le _, Tidy.nil, by simp, fun j' y x h => absurd h (Nat.not_lt_zero _), fun n => ⟨fun h => absurd h In.nil, fun h => absurd h.1 (by rw [List.take_zero]; exact In.nil)⟩, by simp⟩ S ?_ ?_
    · rintro i ρ own h3 p hp ⟨j, F, rfl, r1, r2, q1, tF, q2, q3, q4, q5⟩ S
      obtain ⟨x, hx, rfl⟩ := ps_get hp
      have hi : i < a.length := (List.getElem?_eq_some_iff.mp hx).1
      have hxl := ta.2 x (List.mem_of_getElem? hx)
      refine Exs.set (d := .int x.1) S (S.nm rfl) fun h4 S => ?_
      -- the first loop
      refine Exs.while (fun k ρ own => ∃ j : Nat, own = some (Str.ofString "found", enc F) ∧ ρ (Str.ofString "b") = some (.lst (enc b)) ∧ ρ (Str.ofString "j") = some (.int j) ∧ ρ (Str.ofString "low") = some (.int x.1) ∧ ρ (Str.ofString "high") = some (.int x.2) ∧ ρ (Str.ofString "begin") = some (.int x.1) ∧ j ≤ b.length ∧
        (∀ j' y, j' < j → b[j']? = some y → y.2 < x.1) ∧ k = b.length - j) (b.length - j) ⟨j, rfl, by exact r1, by exact r2, rfl, rfl, rfl, q1, fun j' y hj hy => q3 j' y x hj hy hx, rfl⟩ S ?_
      rintro k ρ own h5 ⟨j, rfl, r1, r2, r3, r4, r5, q1, q3, rfl⟩ S
      have G1 := G.ext S.keep
      refine ⟨decide ((j : Int) < (b.length : Int)) && (match b[j]? with | some y => decide (y.2 < x.1) | none => false), Te.and (Te.cmp (S.nm r2) (Ev.lenOf G1 (S.nm r1) eb (lt62 lb')) Co.lt) (fun h => ?_), fun hb h6 S => ?_, fun hb h6 S => ?_⟩
      · simp only [decide_eq_true_eq] at h
        have hy := List.getElem?_eq_getElem (show j < b.length by (first | exact Int.ofNat_lt.mp h | lia))
        rw [hy]
        exact Te.cmp (Ev.itemSnd (S.nm r1) (S.nm r2) hy lb') (S.nm r5) Co.lt
      · simp only [Bool.and_eq_true, decide_eq_true_eq] at hb
        have hjl : j < b.length := by lia
        have hy := List.getElem?_eq_getElem hjl
        rw [hy] at hb
        simp only [decide_eq_true_eq] at hb
        refine Exs.aug S r2 Ev.int fun h7 S => Exs.nil ⟨_, _, ⟨b.length - (j + 1), by (first | exact Nat.sub_succ_lt_self (List.length b) j hjl | lia), j + 1, rfl, by exact r1, by rfl, by exact r3, by exact r4, by exact r5, by assumption, fun j' y hj' hy' => ?_, rfl⟩, S⟩
        rcases Nat.lt_or_ge j' j with h | h
        · exact q3 j' y h hy'
        · have : j' = j := by (first | exact Nat.eq_of_le_of_lt_succ h hj' | lia)
          subst this; rw [hy] at hy'; cases hy'; exact hb.2
      · have hnx : ∀ y, b[j]? = some y → x.1 ≤ y.2 := fun y hy => by
          have hjl := (List.getElem?_eq_some_iff.mp hy).1
          rw [hy] at hb
          simp only [Bool.and_eq_false_iff, decide_eq_false_iff_not] at hb
          lia
        have sv := SInv.start tF hxl (fun p hp => q2 p hp x hx) q3 hnx
        refine Exs.set (d := .int j) S (S.nm r2) fun h7 S => ?_
        -- the second loop
        refine Exs.while (fun k' ρ own => ∃ (k : Nat) (begin : Int) (F' : Spans), own = some (Str.ofString "found", enc F') ∧ ρ (Str.ofString "b") = some (.lst (enc b)) ∧ ρ (Str.ofString "j") = some (.int j) ∧ ρ (Str.ofString "high") = some (.int x.2) ∧ ρ (Str.ofString "begin") = some (.int begin) ∧ ρ (Str.ofString "k") = some (.int k) ∧ k ≤ b.length ∧ j ≤ k ∧
          SInv b x F begin k F' ∧ F'.length ≤ 70 * i + (k - j) ∧ k' = b.length - k) (b.length - j) ⟨j, x.1, F, rfl, by exact r1, by exact r2, by exact r4, by exact r5, rfl, q1, Nat.le_refl _, sv, by (first | exact Nat.le_add_right_of_le q5 | lia), rfl⟩ S ?_
        rintro k' ρ own h8 ⟨k, begin, F', rfl, r1, r2, r4, r5, r6, w1, w2, sv, w3, rfl⟩ S
        have G2 := G.ext S.keep
        refine ⟨decide ((k : Int) < (b.length : Int)) && (match b[k]? with | some y => decide (y.1 ≤ x.2) | none => false), Te.and (Te.cmp (S.nm r6) (Ev.lenOf G2 (S.nm r1) eb (lt62 lb')) Co.lt) (fun h => ?_), fun hb h9 S => ?_, fun hb h9 S => ?_⟩
        · simp only [decide_eq_true_eq] at h
          have hy := List.getElem?_eq_getElem (show k < b.length by (first | exact Int.ofNat_lt.mp h | lia))
          rw [hy]
          exact Te.cmp (Ev.itemFst (S.nm r1) (S.nm r6) hy lb') (S.nm r4) Co.le
        · simp only [Bool.and_eq_true, decide_eq_true_eq] at hb
          have hkl : k < b.length := by lia
          obtain ⟨y, hy⟩ : ∃ y, b[k]? = some y := ⟨_, List.getElem?_eq_getElem hkl⟩
          rw [hy] at hb
          simp only [decide_eq_true_eq] at hb
          have eF := enc_length F'
          refine Exs.if (t := decide (begin < y.1)) (fun ρ own => own = some (Str.ofString "found", enc (minusPut F' begin y)) ∧ ρ (Str.ofString "b") = some (.lst (enc b)) ∧ ρ (Str.ofString "j") = some (.int j) ∧ ρ (Str.ofString "high") = some (.int x.2) ∧ ρ (Str.ofString "k") = some (.int k))
            (Te.cmp (S.nm r5) (Ev.itemFst (S.nm r1) (S.nm r6) hy lb') Co.lt) (fun ht h10 e10 => ?_) (fun ht h10 e10 => ?_) ?_
          · have S := S.ext e10
            refine Exs.app (d := .tup [.int begin, .int (y.1 - 1)]) S (fun h11 e11 => ?_) (by grind) fun h11 S => Exs.nil ⟨rfl, stay S ⟨?_, r1, r2, r4, r6⟩⟩
            · have S := S.ext e11
              exact Ev.tuple S.bd (Sp.cons (S.nm r5) (Sp.cons (Ev.sub (Ev.itemFst (S.nm r1) (S.nm r6) hy lb') Ev.int) Sp.nil))
            · unfold minusPut; rw [if_pos (by simpa using ht), ← enc_app]
          · have S := S.ext e10
            refine Exs.nil ⟨rfl, stay S ⟨?_, r1, r2, r4, r6⟩⟩
            unfold minusPut; rw [if_neg (by simpa using ht)]
          · rintro ρ own h10 ⟨rfl, r1, r2, r4, r6⟩ S
            have hlen : (minusPut F' begin y).length ≤ F'.length + 1 := by
              unfold minusPut; split
              · simp
              · (first | exact Nat.le_add_right (List.length F') 1 | lia)
            refine Exs.set (d := .int (y.2 + 1)) S (Ev.add (Ev.itemSnd (S.nm r1) (S.nm r6) hy lb') Ev.int) fun h11 S => ?_
            exact Exs.aug S r6 Ev.int fun h12 S => Exs.nil ⟨_, _, ⟨b.length - (k + 1), by (first | exact Nat.sub_succ_lt_self (List.length b) k hkl | lia), k + 1, y.2 + 1, _, rfl, by exact r1, by exact r2, by exact r4, by rfl, by rfl, by assumption, by (first | exact Nat.le_add_right_of_le w2 | lia), sv.step tb hy hb.2, by grind, rfl⟩, S⟩
        · have hend : ∀ y, b[k]? = some y → x.2 < y.1 := fun y hy => by
            have hkl := (List.getElem?_eq_some_iff.mp hy).1
            rw [hy] at hb
            simp only [Bool.and_eq_false_iff, decide_eq_false_iff_not] at hb
            grind
          obtain ⟨d1, d2, d3⟩ := sv.done tb hend
          have eF := enc_length F'
          have hlen : (minusEnd F' begin x).length ≤ F'.length + 1 := by
            unfold minusEnd; split
            · simp
            · (first | exact Nat.le_add_right (List.length F') 1 | lia)
          refine Exs.if (t := decide (begin ≤ x.2)) (fun ρ own => own = some (Str.ofString "found", enc (minusEnd F' begin x)) ∧ ρ (Str.ofString "b") = some (.lst (enc b)) ∧ ρ (Str.ofString "j") = some (.int j))
            (Te.cmp (S.nm r5) (S.nm r4) Co.le) (fun ht h10 e10 => ?_) (fun ht h10 e10 => ?_) ?_
          · have S := S.ext e10
            refine Exs.app (d := .tup [.int begin, .int x.2]) S (fun h11 e11 => ?_) (by grind) fun h11 S => Exs.nil ⟨rfl, stay S ⟨?_, r1, r2⟩⟩
            · have S := S.ext e11
              exact Ev.tuple S.bd (Sp.cons (S.nm r5) (Sp.cons (S.nm r4) Sp.nil))
            · unfold minusEnd; rw [if_pos (by simpa using ht), ← enc_app _ (begin, x.2)]
          · have S := S.ext e10
            refine Exs.nil ⟨rfl, stay S ⟨?_, r1, r2⟩⟩
            unfold minusEnd; rw [if_neg (by simpa using ht)]
          · rintro ρ own h10 ⟨rfl, r1, r2⟩ S
            refine Exs.nil ⟨_, _, ⟨j, _, rfl, r1, r2, q1, d1, fun p hp x' hx' => ?_, fun j' y x' hj hy hx' => ?_, fun n => ?_, by grind⟩, S⟩
            · have := ta.at (Nat.lt_succ_self i) hx hx'
              have := d2 p hp
              lia
            · have := ta.at (Nat.lt_succ_self i) hx hx'
              have := q3 j' y hj hy
              lia
            · rw [d3, q4, take_succ' hx, In.app, In.one]
              constructor
              · rintro (h | h)
                · exact ⟨.inl h.1, h.2⟩
                · exact ⟨.inr ⟨h.1, h.2.1⟩, h.2.2⟩
              · rintro ⟨h | h, h'⟩
                · exact .inl ⟨h, h'⟩
                · exact .inr ⟨h.1, h.2, h'⟩
    · rintro ρ own h3 ⟨j, F, rfl, r1, r2, q1, tF, q2, q3, q4, q5⟩ S
      rw [ps_len] at q4
      have e : runs (tab (fun n => inSp a n && !inSp b n) N) = F := by
        refine runs_of tF (.of tF fun n hn => ?_) fun n => ?_
        · obtain ⟨p, hp, c, d⟩ := ((q4 n).mp hn).1
          have := wa p (List.mem_of_mem_take hp)
          lia
        · rw [q4 n, Bool.and_eq_true, Bool.not_eq_true', Bool.eq_false_iff, Ne, inSp_iff, inSp_iff, List.take_length]
      rw [e]
      exact Exs.retOwn S fun v r => ⟨v, rfl, r⟩
end Mine
end

section
open PySem PyProof.Rows PySem.W
namespace Mine
set_option autoImplicit false
set_option linter.unusedVariables false
set_option maxRecDepth 100000

/-- spans within 0 .. 63 -/
noncomputable def Dr (l : Spans) : Prop := ∀ p ∈ l, 0 ≤ p.1 ∧ p.1 ≤ p.2 ∧ p.2 < 64
theorem Dr.small {l : Spans} (d : Dr l) : Small l := fun p hp => by have := d p hp; grind
theorem Dr.app {l m : Spans} (d : Dr l) (e : Dr m) : Dr (l ++ m) := fun p hp => (List.mem_append.mp hp).elim (d p) (e p)
theorem inSp_app (a b : Spans) (n : Int) : inSp (a ++ b) n = (inSp a n || inSp b n) := by unfold inSp; rw [List.any_append]
theorem tidyS_runs {l : Spans} (d : Dr l) : Tidy (tidyS l) ∧ runs (tab (inSp l) 64) = tidyS l ∧ Wi (tidyS l) 64 ∧ ∀ n, inSp (tidyS l) n = inSp l n := by
  obtain ⟨t, h⟩ := tidyS_ok d.small fun p hp => (d p hp).2.1
  have w : Wi (tidyS l) 64 := .of t fun n hn => by
    obtain ⟨p, hp, c, e⟩ := (h n).mp hn
    have := d p hp
    omega
  exact ⟨t, runs_of t w fun n => by rw [h n, inSp_iff], w, fun n => by rw [Bool.eq_iff_iff, inSp_iff, inSp_iff, h n]⟩
theorem tidyS_len (l : Spans) : (tidyS l).length ≤ l.length := by
  have h := fold_len (sortS l) []
  rw [(sortS_perm l).length_eq] at h
  simpa [tidyS] using h
theorem Tidy.dr {l : Spans} (t : Tidy l) (w : Wi l 64) : Dr l := fun p hp => by
  have := w p hp
  have := t.2 p hp
  omega
theorem tidyR_ok {mg mb : Str → Option Value} (l : Spans) (hl : l.length < 64) (d : Dr l) : FnOk mg mb pTidy 1 [.lst (enc l)] (.lst (enc (runs (tab (inSp l) 64)))) := by
  rw [(tidyS_runs d).2.1]
  exact tidy_ok l hl d.small

noncomputable def pJoin : Str × Nat := (Str.ofString "join", 6)
theorem join_ok {mg mb : Str → Option Value} (a b : Spans) (la : a.length < 32) (lb : b.length < 32) (da : Dr a) (db : Dr b) :
    FnOk mg mb pJoin 2 [.lst (enc a), .lst (enc b)] (.lst (enc (runs (tab (fun n => inSp a n || inSp b n) 64)))) := by
  refine FnOk.of [Str.ofString "a", Str.ofString "b"] ?_ ?_ ?_
  · intro vs hv pm doc c
    obtain ⟨v1, v2, rfl⟩ := len2 hv
    rfl
  · intro L x hx
    simp only [List.mem_cons, List.not_mem_nil, or_false] at hx
    rcases hx with rfl | rfl <;> exact .inl rfl
  · intro w A X₀ pm doc c L ad h₀ h1 rm G S
    have ea := enc_length a
    have eb := enc_length b
    have e : tab (fun n => inSp a n || inSp b n) 64 = tab (inSp (a ++ b)) 64 := tab_eq fun n _ => (inSp_app a b n).symm
    have e2 : enc (a ++ b) = enc a ++ enc b := by simp [enc]
    rw [e]
    refine Exs.ret (Ev.callFn (p := pTidy) (by simp [fnames, pTidy]) (tidyR_ok (a ++ b) (by rw [List.length_append]; lia) (da.app db)) rm (G.ext S.keep) S.bd (Sp.cons (by rw [e2]; exact Ev.cat S.bd (S.nm rfl) (S.nm rfl) (by lia)) Sp.nil)) fun v h' e r => ⟨v, rfl, retX r⟩

noncomputable def pFlip : Str × Nat := (Str.ofString "flip", 8)
theorem flip_ok {mg mb : Str → Option Value} (l : Spans) (top : Nat) (ll : l.length ≤ 64) (t : Tidy l) :
    FnOk mg mb pFlip 2 [.lst (enc l), .int top] (.lst (enc (runs (tab (fun n => !inSp l n) (top + 1))))) := by
  refine FnOk.of [Str.ofString "spans", Str.ofString "top"] ?_ ?_ ?_
  · intro vs hv pm doc c
    obtain ⟨v1, v2, rfl⟩ := len2 hv
    rfl
  · intro L x hx
    simp only [List.mem_cons, List.not_mem_nil, or_false] at hx
    rcases hx with rfl | rfl <;> exact .inl rfl
  · intro w A X₀ pm doc c L ad h₀ h1 rm G S
    have e : tab (fun n => !inSp l n) (top + 1) = tab (fun n => inSp [(0, (top : Int))] n && !inSp l n) (top + 1) := tab_eq fun n hn => by
      have : inSp [(0, (top : Int))] n = true := (inSp_iff _ _).mpr ⟨_, .head _, by show (0 : Int) ≤ n; (first | exact Int.natCast_nonneg n | lia), by show (n : Int) ≤ top; lia⟩
      rw [this, Bool.true_and]
    rw [e]
    refine Exs.ret (Ev.callFn (p := pMinus) (by simp [fnames, pMinus]) (minus_ok [(0, (top : Int))] l (top + 1) ⟨List.pairwise_singleton _ _, fun p hp => ?_⟩ t (fun p hp => ?_) (by simp) ll) rm (G.ext S.keep) S.bd (Sp.cons (Ev.list (ds := [.tup [.int 0, .int top]]) S.bd (Sp.cons (Ev.tuple (ds := [.int 0, .int top]) S.bd (Sp.cons Ev.int (Sp.cons (S.nm rfl) Sp.nil))) Sp.nil)) (Sp.cons (S.nm rfl) Sp.nil))) fun v h' e r => ⟨v, rfl, retX r⟩
    · rw [List.mem_singleton.mp hp]; show (0 : Int) ≤ top; (first | exact Int.natCast_nonneg top | lia)
    · rw [List.mem_singleton.mp hp]; show (0 : Int) ≤ 0 ∧ (top : Int) < ((top + 1 : Nat) : Int); lia
end Mine
end

section
open PySem
open PySem.W (Looks)
namespace Mine
set_option autoImplicit false
set_option linter.unusedVariables false
set_option maxRecDepth 100000

section
variable {prog : Program} {w : World} {A : Around} {E : Value → Shared → Prop} {h : Heap} {g : Array GenState} {d : Drawn} {t : Nat} {os : OsState}
variable {nm q : Str} {C N : Addr} {bs bm bmB : List Value} {hdct : Bool} {sn : List Str} {sub : List Value} {ab : Bool} {col : Option Bool} {dd : Option Addr} {k0 k1 k2 k3 k5 : Option Value} {B newId initId : String}

/-- what a made exception's class has above it -/
structure Above (B : String) (bm : List Value) : Prop where
  hasB : bm.contains (.type B) = true
  noAttr : bm.contains (.type "AttributeError") = false
  noName : bm.contains (.type "NameError") = false

theorem check_new2 (F : ExcBaseFacts B newId initId bmB) (U : Above B bm) {rest : List Value} {Q : Unit → Shared → Prop} (hC : h.get? C = some (excClassObj nm q C N bs bm hdct sn sub ab col dd k0 k1 k2 k3 k5 newId))
    (hq : Q () ⟨h, g, d, t, os⟩) : wpAny (model prog w) A (checkBuiltinCall newId ⟨.ref C :: rest, []⟩) Q E ⟨h, g, d, t, os⟩ := by
  have hcont : (Value.ref C :: bm).contains (.type B) = true := by rw [List.contains_cons, U.hasB, Bool.or_true]
  have hstar := F.noStar
  simp only [checkBuiltinCall, F.newKind, F.newSplit, F.newRow]
  repeat (first | refine wpAny_loadPart_at hC ?_ | (refine wpAny_isSubtype_exc hC ?_; rw [hcont]) | refine wpAny_staticBase_exc hC ?_ | refine wpAny_madeBy_exc hC ?_ | simp only [bne_self_eq_false, Bool.false_eq_true, if_false] | wp_step)
  exact hq

theorem exc_new2 {R : Result → Shared → Prop} (F : ExcBaseFacts B newId initId bmB) (U : Above B bm) {rest : List Value} (hC : h.get? C = some (excClassObj nm q C N bs bm hdct sn sub ab col dd k0 k1 k2 k3 k5 newId))
    (hq : R (.ok (.ret (.ref (h.objs.size + 1)))) ⟨(h.push { cls := .type "tuple", data := .seq rest.toArray }).push
      { cls := .ref C, data := .fields #[.ref h.objs.size, .none, .none, .none, .bool false, .none] }, g, d, t, os⟩) (hrest : rest.length ≤ sizeLine) :
    codeAny (model prog w) A (.builtin newId ⟨.ref C :: rest, []⟩) R ⟨h, g, d, t, os⟩ := by
  have hends := F.ends
  have hcB : (Value.ref C :: bm).contains (.type B) = true := by rw [List.contains_cons, U.hasB, Bool.or_true]
  have hcA : (Value.ref C :: bm).contains (.type "AttributeError") = false := by rw [List.contains_cons, U.noAttr]; rfl
  have hcN : (Value.ref C :: bm).contains (.type "NameError") = false := by rw [List.contains_cons, U.noName]; rfl
  refine codeAny_builtinAt F.entry ?_
  unfold Builtin.«BaseException.__new__»
  refine wpAt_bind ?_
  show wpAt _ _ _ (stack >>= _) _ _ _
  refine wpAt_bind (wpAt_stack fun p below => wpAt_of_wpAny ?_)
  wp_walk
  refine wpAt_of_wpAny ?_
  rw [F.owner]
  repeat (first | with_reducible refine wpAny_madeHere_exc F.canon hC ?_ | with_reducible refine wpAny_loadPart_at hC ?_ | (with_reducible refine wpAny_isSubtype_exc hC ?_; first | rw [hcB] | rw [hcA] | rw [hcN]) | wp_step)
  show R _ _
  rw [Heap.size_push]
  exact hq

theorem type_call2 (F : ExcBaseFacts B newId initId bmB) (U : Above B bm) {rest : List Value} {fI : Addr} {oI : Obj} {Q : PySem.Fin → Shared → Prop}
    (hC : h.get? C = some (excClassObj nm q C N bs bm hdct sn sub ab col dd k0 k1 k2 k3 k5 newId)) (hi : Looks (model prog w) h (typeLookup (.ref C) "__init__") (some (.ref fI)))
    (hfI : h.get? fI = some oI) (hfc : oI.cls = .type "function")
    (hq : ∀ h' e, Heap.MadeExcOf h h' e (.ref C) rest →
      wpAny (model prog w) A (call (.ref fI) (.ref e :: rest)) (fun r s' => r = .none ∧ Q (.done (.ret (.ref e))) s') E ⟨h', g, d, t, os⟩) (hrest : rest.length ≤ sizeLine) :
    wpAny (model prog w) A (Builtin.«type.__call__» ⟨.ref C :: rest, []⟩) Q E ⟨h, g, d, t, os⟩ := by
  repeat (first | with_reducible refine wpAny_loadPart_at hC ?_ | with_reducible refine wpAny_madeBy_exc hC ?_ | wp_step)
  refine codeAny_call_builtin_code (Code.quiet_builtin _ F.quiet) (check_new2 F U hC ?_)
  refine exc_new2 F U hC ?_ hrest
  show wpAny _ _ _ _ _ _
  have hC₁ := Heap.get?_push_of_some { cls := .ref C, data := .fields #[.ref h.objs.size, .none, .none, .none, .bool false, .none] }
    (Heap.get?_push_of_some { cls := .type "tuple", data := .seq rest.toArray } hC)
  have hfI₁ := Heap.get?_push_of_some { cls := .ref C, data := .fields #[.ref h.objs.size, .none, .none, .none, .bool false, .none] }
    (Heap.get?_push_of_some { cls := .type "tuple", data := .seq rest.toArray } hfI)
  have hget : ((h.push { cls := .type "tuple", data := .seq rest.toArray }).push
      { cls := .ref C, data := .fields #[.ref h.objs.size, .none, .none, .none, .bool false, .none] }).get? (h.objs.size + 1) = some
      { cls := .ref C, data := .fields #[.ref h.objs.size, .none, .none, .none, .bool false, .none] } := by heap_get
  have hcC : (Value.ref C :: bm).contains (.ref C) = true := by simp
  unfold isInstance
  repeat (first | with_reducible refine wpAny_loadPart_at hget ?_ | (with_reducible refine wpAny_isSubtype_exc hC₁ ?_; rw [hcC]) | wp_step)
  show wpAny _ _ (typeLookup (.ref C) _) _ _ _
  refine hi _ _ _ _ (fun b o e => Heap.get?_push_of_some _ (Heap.get?_push_of_some _ e)) ?_
  refine wpAny_holding (wpAny_bind ?_)
  unfold bindSpecial
  refine wpAny_bind (wpAny_typeOf (T := "function") ⟨_, hfI₁, hfc⟩ ?_)
  rw [if_pos (by decide)]
  refine wpAny_pure (wpAny_bind (wpAny_mono (hq _ (h.objs.size + 1) ⟨fun b o hb => Heap.get?_push_of_some _ (Heap.get?_push_of_some _ hb), Heap.get?_none_of_le (Nat.le_succ _), h.objs.size, hget, Heap.get?_none_of_le (Nat.le_refl _), ?_⟩) (fun r s' hr => ?_) fun _ _ x => x))
  · exact Heap.get?_push_of_some _ (Heap.get?_push_at rfl rfl)
  · obtain ⟨rfl, hQ⟩ := hr
    wp_walk
    exact hQ

theorem call2 (F : ExcBaseFacts B newId initId bmB) (U : Above B bm) {rest : List Value} {fI : Addr} {oI : Obj} {Q : Value → Shared → Prop}
    (hC : h.get? C = some (excClassObj nm q C N bs bm hdct sn sub ab col dd k0 k1 k2 k3 k5 newId)) (hi : Looks (model prog w) h (typeLookup (.ref C) "__init__") (some (.ref fI)))
    (hfI : h.get? fI = some oI) (hfc : oI.cls = .type "function")
    (hq : ∀ h' e, Heap.MadeExcOf h h' e (.ref C) rest →
      wpAny (model prog w) (A.under (.builtin "type.__call__" ⟨.ref C :: rest, []⟩)) (call (.ref fI) (.ref e :: rest)) (fun r s' => r = .none ∧ Q (.ref e) s') E ⟨h', g, d, t, os⟩) (hrest : rest.length ≤ sizeLine) :
    wpAny (model prog w) A (call (.ref C) rest) Q E ⟨h, g, d, t, os⟩ := by
  have f1 := tc_lookup
  have f2 := tc_bind (.ref C)
  have hT : (⟨h, g, d, t, os⟩ : Shared).TypeIs (.ref C) "type" := ⟨_, hC, rfl⟩
  refine wpAny_call (codeAny_of_tree ?_)
  show wpAny _ _ (callAny (.ref C) _) _ _ _
  repeat (any_goals (first | assumption | with_reducible refine wpAny_loadPart_at hC ?_ | wp_step))
  refine ⟨rfl, ?_⟩
  refine codeAny_call_builtin_at (Code.quiet_builtin _ (by decide +kernel)) entry_typeCall (wpAny_check_type_call_sub hC (type_call2 F U hC hi hfI hfc (fun h' e hm => ?_) hrest))
  exact hq h' e hm
end
end Mine
end

section
open PySem
open PySem.W (Looks)
open PySem.Builtin PySem.Builtin.ObjectAttr
namespace Mine
set_option autoImplicit false
set_option linter.unusedVariables false
set_option maxRecDepth 100000

section
variable {prog : Program} {w : World} {A : Around} {E : Value → Shared → Prop} {h : Heap} {g : Array GenState} {d : Drawn} {t : Nat} {os : OsState}
variable {nm q : Str} {C N : Addr} {bs bm bmB : List Value} {hdct : Bool} {sn : List Str} {sub : List Value} {ab : Bool} {col : Option Bool} {dd : Option Addr} {k0 k1 k2 k3 k5 : Option Value} {B newId initId : String}

theorem check_init2 (F : ExcBaseFacts B newId initId bmB) (U : Above B bm) {M : Model} {e : Addr} {oe : Obj} {rest : List Value} {Q : Unit → Shared → Prop}
    (hC : h.get? C = some (excClassObj nm q C N bs bm hdct sn sub ab col dd k0 k1 k2 k3 k5 newId)) (he : h.get? e = some oe) (hcls : oe.cls = .ref C) (hq : Q () ⟨h, g, d, t, os⟩) :
    wpAny M A (checkBuiltinCall initId ⟨.ref e :: rest, []⟩) Q E ⟨h, g, d, t, os⟩ := by
  have hcB : (Value.ref C :: bm).contains (.type B) = true := by rw [List.contains_cons, U.hasB, Bool.or_true]
  have hshort := F.noStar
  simp only [checkBuiltinCall, F.initKind, F.initSplit, F.initRow]
  repeat (first | (with_reducible refine wpAny_loadPart_at he ?_; rw [hcls]) | with_reducible refine wpAny_loadPart_at hC ?_ | (with_reducible refine wpAny_isSubtype_exc hC ?_; rw [hcB]) | wp_step)
  refine wpAny_onRaise ?_
  rw [show ∀ (a b : String) (n : Nat), Bind.check ⟨.positional, "*", B, .self, [⟨"args", .varPos, false⟩]⟩ a b n (List.map (fun x => x.fst) ({ pos := Value.ref e :: rest } : Args).kw) = pure () from
    fun a b n => check_star_args _ _ _ _ _ _]
  exact wpAny_pure hq

/-- the built-in's own initialiser, called by its class's name -/
theorem init2 (F : ExcBaseFacts B newId initId bmB) (U : Above B bm) {e t0 : Addr} {rest : List Value} {Q : Value → Shared → Prop}
    (hC : h.get? C = some (excClassObj nm q C N bs bm hdct sn sub ab col dd k0 k1 k2 k3 k5 newId)) (he : h.get? e = some { cls := .ref C, data := .fields #[.ref t0, .none, .none, .none, .bool false, .none] }) (hrest : rest.length ≤ sizeLine)
    (hq : ∀ h' t1, (∀ b o, b ≠ e → h.get? b = some o → h'.get? b = some o) → h'.get? e = some { cls := .ref C, data := .fields #[.ref t1, .none, .none, .none, .bool false, .none] } → Q .none ⟨h', g, d, t, os⟩) :
    wpAny (model prog w) A (call (.builtin initId) (.ref e :: rest)) Q E ⟨h, g, d, t, os⟩ := by
  refine wpAny_call (codeAny_call_builtin F.init.plain F.initEntry (check_init2 F U hC he rfl ?_))
  have hlt := Heap.lt_size he
  wp_walk
  refine hq _ h.objs.size (fun b o hb ho => ?_) ?_
  · rw [Heap.get?_update_other _ _ (Ne.symm hb)]
    exact Heap.get?_push_of_some _ ho
  · rw [Heap.get?_update_self _ (Heap.get?_push_of_some _ he) rfl]
    rfl
end

section
variable {prog : Program} {w : World} {A : Around} {E : Value → Shared → Prop} {h : Heap} {g : Array GenState} {d : Drawn} {t : Nat} {os : OsState}
variable {nm q : Str} {C N x : Addr} {bs bm : List Value} {sn : List Str} {sub : List Value} {ab : Bool} {col : Option Bool} {dd : Option Addr} {k0 k1 k2 k3 k5 : Option Value} {newId : String}
  {mA : Str → Option Value} {name : Str} {v : Value}

/-- the store of an attribute, the class looked up along its own line -/
theorem store2 {tk : Tok} {Q : PySem.Fin → Shared → Prop} {ns : List Str} (hpass : ∀ self : Value, refuseLoop self "__setattr__" bm = pure ())
    (hC : h.get? C = some (excClassObj nm q C N bs bm true sn sub ab col dd k0 k1 k2 k3 k5 newId)) (hl : Looks (model prog w) h (typeLookup (.ref C) name) none) (hxC : x ≠ C) (I : h.Inst x C mA)
    (hq : ∀ h' tk', h'.Inst x C (fun y => if y = name then some v else mA y) →
      (∀ b o, b ≠ x → (∀ o₀ dx, h.get? x = some o₀ → o₀.dict = some dx → b ≠ dx) → h.get? b = some o → h'.get? b = some o) →
      (∀ o₀, h.get? x = some o₀ → ∃ o₁, h'.get? x = some o₁ ∧ o₁.cls = o₀.cls ∧ o₁.data = o₀.data ∧ o₁.slots = o₀.slots ∧ (∀ dx, o₀.dict = some dx → o₁.dict = some dx) ∧ (∀ dx, o₁.dict = some dx → o₀.dict = some dx ∨ h.get? dx = none)) → Q (.done (.ret .none)) ⟨h', g, d, tk', os⟩) (hw : Within mA ns) (hsz : ns.length ≤ 100) :
    wpAny (model prog w) A (Builtin.«object.__setattr__» ⟨[.ref x, .str name tk, v], []⟩) Q E ⟨h, g, d, t, os⟩ := by
  obtain ⟨o, hx, hc, hnc, hd⟩ := I
  have hpass := hpass (.ref x)
  unfold Builtin.«object.__setattr__»
  repeat (first | rw [refuse_eq] | (rw [refuseLoop_ref, hpass]) | (with_reducible refine wpAny_loadPart_at hx ?_; rw [hc]) | with_reducible refine wpAny_mroOf_exc hC ?_ | with_reducible refine PySem.W.Looks.at hl ?_ | wp_step)
  rcases hd with ⟨hdn, hmA⟩ | ⟨dx, hdx, hne, hns⟩
  ·
    rw [hdn, if_neg (by simp [typeHasDict])]
    split
    · rename_i hcd
      cases hcd
    split
    · rename_i c hcd
      exact absurd hcd (hnc c)
    · have hx₁ : (h.push { cls := .type "dict", data := .dict #[] }).get? x = some o := Heap.get?_push_of_some _ hx
      have hxs : x ≠ h.objs.size := Nat.ne_of_lt (Heap.lt_size hx)
      refine wpAny_bind (wpAny_alloc' ?_)
      refine wpAny_bind (wpAny_update' hx₁ ?_)
      refine wpAny_pure ?_
      have hgd : ((h.push { cls := .type "dict", data := .dict #[] }).update x fun o => { cls := o.cls, dict := some h.objs.size, data := o.data, slots := o.slots }).get? h.objs.size
          = some { cls := .type "dict", data := .dict #[] } :=
        (Heap.get?_update_ne _ _ _ _ hxs.symm).trans (Heap.get?_push_at rfl rfl)
      have hnd : ((h.push { cls := .type "dict", data := .dict #[] }).update x fun o => { cls := o.cls, dict := some h.objs.size, data := o.data, slots := o.slots }).Ns h.objs.size (fun _ => none) :=
        ⟨_, #[], _, hgd, rfl, fun e he => absurd he (by simp), fun _ => rfl⟩
      show wpAny _ _ (storeInDict h.objs.size (.str name tk) name v) _ _ _
      unfold storeInDict newKeyGuard
      refine wpAny_bind (wpAny_pure (wpAny_bind (wpAny_nsSet1 (Heap.Ns1.of_empty hnd) fun h' hn' hs => ?_)))
      obtain ⟨oD, esD, epD, hoD, hdD, hcD⟩ := hn'.count (Within.cons name v Within.nil)
      refine wpAny_bind (wpAny_lookBehind hoD (by rw [hdD]; exact pastItsLine_dict (Nat.le_trans hcD (by rw [List.length_cons, List.length_nil, sizeLine_eq]; (first | exact Nat.le_add_left (0 + 1) 16777216 | lia)))) ?_)
      wp_walk
      have hx' : h'.get? x = some { cls := o.cls, dict := some h.objs.size, data := o.data, slots := o.slots } := ?_
      refine hq h' _ ⟨{ cls := o.cls, dict := some h.objs.size, data := o.data, slots := o.slots }, hx', hc, hnc, .inr ⟨h.objs.size, rfl, hxs.symm, ?_⟩⟩ (fun b ob hbx _ hb => ?_)
        (fun o₀ h₀ => by
          obtain rfl : o = o₀ := Option.some.inj (hx.symm.trans h₀)
          refine ⟨_, hx', rfl, rfl, rfl, fun dx e => ?_, fun dx e => ?_⟩
          · rw [hdn] at e; cases e
          · cases e; exact .inr (Heap.get?_none_of_le (Nat.le_refl _)))
      · obtain ⟨o', es, ep, e1, e2, e3, eu, e4⟩ := hn'
        exact ⟨o', es, ep, e1, e2, e3, eu, fun y => by rw [e4 y]; by_cases hy : y = name <;> simp [hy, hmA]⟩
      · exact (hs.2 b (Nat.ne_of_lt (Heap.lt_size hb))).trans ((Heap.get?_update_ne _ _ _ _ hbx).trans (Heap.get?_push_of_some _ hb))
      · refine (hs.2 x hxs).trans (Heap.get?_update_self _ hx₁ ?_)
        have hfr := (Heap.get?_some_iff.mp hx).2
        obtain ⟨oc, od, odt, osl⟩ := o
        cases odt <;> first | rfl | exact hfr
  ·
    rw [hdx]
    refine wpAny_pure ?_
    show wpAny _ _ (storeInDict dx (.str name tk) name v) _ _ _
    unfold storeInDict newKeyGuard
    refine wpAny_bind (wpAny_pure (wpAny_bind (wpAny_nsSet1 hns fun h' hn' hs => ?_)))
    obtain ⟨oD, esD, epD, hoD, hdD, hcD⟩ := hn'.count (Within.cons name v hw)
    refine wpAny_bind (wpAny_lookBehind hoD (by rw [hdD]; exact pastItsLine_dict (Nat.le_trans hcD (by rw [List.length_cons, sizeLine_eq]; lia))) ?_)
    wp_walk
    refine hq h' _ ⟨o, (hs.2 x hne.symm).trans hx, hc, hnc, .inr ⟨dx, hdx, hne, hn'⟩⟩ (fun b ob _ hbd hb => ?_)
      (fun o₀ h₀ => ⟨o₀, (hs.2 x hne.symm).trans h₀, rfl, rfl, rfl, fun _ e => e, fun _ e => .inl e⟩)
    exact (hs.2 b (hbd o dx hx hdx)).trans hb

theorem setAttr2 {Q : Unit → Shared → Prop} {ns : List Str} (hpass : ∀ self : Value, refuseLoop self "__setattr__" bm = pure ()) (hob : bm.contains (.type "object") = true)
    (hC : h.get? C = some (excClassObj nm q C N bs bm true sn sub ab col dd k0 k1 k2 k3 k5 newId)) (hl : Looks (model prog w) h (typeLookup (.ref C) name) none) (hls : Looks (model prog w) h (typeLookup (.ref C) "__setattr__") (some (.builtin "object.__setattr__"))) (hxC : x ≠ C) (I : h.Inst x C mA)
    (hq : ∀ h' tk', h'.Inst x C (fun y => if y = name then some v else mA y) →
      (∀ b o, b ≠ x → (∀ o₀ dx, h.get? x = some o₀ → o₀.dict = some dx → b ≠ dx) → h.get? b = some o → h'.get? b = some o) →
      (∀ o₀, h.get? x = some o₀ → ∃ o₁, h'.get? x = some o₁ ∧ o₁.cls = o₀.cls ∧ o₁.data = o₀.data ∧ o₁.slots = o₀.slots ∧ (∀ dx, o₀.dict = some dx → o₁.dict = some dx) ∧ (∀ dx, o₁.dict = some dx → o₀.dict = some dx ∨ h.get? dx = none)) → Q () ⟨h', g, d, tk', os⟩) (hw : Within mA ns) (hsz : ns.length ≤ 100) :
    wpAny (model prog w) A (setAttr (.ref x) name v) Q E ⟨h, g, d, t, os⟩ := by
  obtain ⟨o, hx, hc, _⟩ := id I
  have SF := PySem.F.store_object
  have f3 := SF.slot.bind (.ref x)
  have hsubt : ∀ (tt : Tok) {M : Model} {A : Around} {E : Value → Shared → Prop} {Q : Unit → Shared → Prop}, Q () ⟨h, g, d, tt, os⟩ → ∀ tk, wpAny M A.in1 (checkBuiltinCall "object.__setattr__" ⟨[.ref x, .str name tk, v], []⟩) Q E ⟨h, g, d, tt, os⟩ := by
    intro tt M A E Q hQ tk
    have hcB : (Value.ref C :: bm).contains (.type "object") = true := by rw [List.contains_cons, hob, Bool.or_true]
    have ha := SF.args (.ref x) (.str name tk) v
    simp only [checkBuiltinCall, SF.kind, SF.split]
    refine wpAny_bind ?_
    · unfold isInstance
      repeat (first | (with_reducible refine wpAny_loadPart_at hx ?_; rw [hc]) | (with_reducible refine wpAny_isSubtype_exc hC ?_; rw [hcB]) | wp_step)
      exact hQ
  unfold setAttr callSpecial? specialOf
  repeat (any_goals (first | assumption | (with_reducible refine wpAny_loadPart_at hx ?_; rw [hc]) | with_reducible refine PySem.W.Looks.at hls ?_ | wp_step))
  refine codeAny_call_builtin SF.slot.plain SF.entry (hsubt _ ?_ _)
  refine store2 hpass hC hl hxC I (fun h' tk' I' hk hsame => ?_) hw hsz
  repeat (any_goals (first | assumption | wp_step))
  exact hq h' tk' I' hk hsame

/-- an attribute of the exception is read -/
theorem load2 {expr : Bool} {Q : Value → Shared → Prop} (hbase : bm.contains (.type "BaseException") = true)
    (hC : h.get? C = some (excClassObj nm q C N bs bm true sn sub ab col dd k0 k1 k2 k3 k5 newId)) (hl : Looks (model prog w) h (typeLookup (.ref C) name) none) (hlg : Looks (model prog w) h (typeLookup (.ref C) "__getattribute__") (some (.builtin "BaseException.__getattribute__")))
    (hlt : Looks (model prog w) h (typeLookup (.ref C) "__getattr__") none)
    (I : h.Inst x C mA) (hv : mA name = some v) (hh : handedOut v = pure v) (hq : Q v ⟨h, g, d, t + 1, os⟩) :
    wpAny (model prog w) A (getAttr (.ref x) name expr) Q E ⟨h, g, d, t, os⟩ := by
  obtain ⟨o, hx, hc, hnc, hd⟩ := I
  have FB := PySem.F.attr_Exception
  have f3 := FB.ga.bind (.ref x)
  have hx0 : (expr && onTheHeap (Value.builtin "BaseException.__getattribute__")) = false := by cases expr <;> rfl
  have hx2 : (Value.builtin "BaseException.__getattribute__" == Value.builtin "object.__getattribute__") = false := by decide +kernel
  have hx1 : (onTheHeap (Value.ref C) && Value.builtin "BaseException.__getattribute__" == Value.builtin "object.__getattribute__") = false := by rw [hx2]; rfl
  have chk : ∀ (tt : Tok) {M : Model} {A : Around} {E : Value → Shared → Prop} {Q : Unit → Shared → Prop} (tk : Tok), Q () ⟨h, g, d, tt, os⟩ → wpAny M A.in1 (checkBuiltinCall "BaseException.__getattribute__" ⟨[.ref x, .str name tk], []⟩) Q E ⟨h, g, d, tt, os⟩ := by
    intro tt M A E Q tk hQ
    have hk : builtinKind "BaseException.__getattribute__" = some .slot := by decide +kernel
    have hsplit : splitId "BaseException.__getattribute__" = some ("BaseException", "__getattribute__") := by decide +kernel
    have hcB : (Value.ref C :: bm).contains (.type "BaseException") = true := by rw [List.contains_cons, hbase, Bool.or_true]
    have ha := PySem.F.args_bexc_ga (.ref x) (.str name tk)
    simp only [checkBuiltinCall, hk, hsplit]
    refine wpAny_bind ?_
    · unfold isInstance
      repeat (first | (with_reducible refine wpAny_loadPart_at hx ?_; rw [hc]) | (with_reducible refine wpAny_isSubtype_exc hC ?_; rw [hcB]) | wp_step)
      exact hQ
  rcases hd with ⟨_, hmA⟩ | ⟨dx, hdx, hne, hns⟩
  · rw [hmA name] at hv; cases hv
  unfold getAttr
  repeat (any_goals (first | assumption | (with_reducible refine wpAny_loadPart_at hx ?_; rw [hc]) | with_reducible refine PySem.W.Looks.at hlg ?_ | with_reducible refine PySem.W.Looks.at hlt ?_ | wp_step))
  refine codeAny_call_builtin FB.ga.plain PySem.F.entry_bexc_ga (chk _ _ ?_)
  show wpAny _ _ (Builtin.«object.__getattribute__» ⟨[.ref x, .str name t], []⟩) _ _ _
  unfold Builtin.«object.__getattribute__»
  repeat (first | (with_reducible refine wpAny_loadPart_at hx ?_; rw [hc]) | with_reducible refine PySem.W.Looks.at hl ?_ | wp_step)
  split
  · rename_i c hcd
    exact absurd hcd (hnc c)
  unfold instanceDict
  repeat (first | (with_reducible refine wpAny_loadPart_at hx ?_; rw [hc]) | with_reducible refine wpAny_loadPart_at hC ?_ | wp_step)
  rw [hdx]
  repeat (first | (with_reducible refine wpAny_nsGet hns.ns ?_; rw [hv]) | wp_step)
  first
    | exact hq
    | (show wpAny _ _ (handedOut v) _ _ _; rw [hh]; exact wpAny_pure hq)
end
end Mine
end

section
open PySem PyProof.Rows
open PySem.W (Looks Frag findIn)
namespace Mine
set_option autoImplicit false
set_option linter.unusedVariables false
set_option maxRecDepth 100000

noncomputable def clsBody : Stmt → List Stmt
  | .ClassDef _ _ _ body .. => body
  | _ => []
noncomputable def initP : Arguments × List Stmt × Scope := fdOf ((clsBody (PW.main.body.getD 1 (.Pass ⟨0, 0, 0, 0⟩))).getD 0 (.Pass ⟨0, 0, 0, 0⟩))
noncomputable def fdInit : FuncData := { name := Str.ofString "__init__", qualname := Str.ofString "WallFault.__init__", params := initP.1, body := .stmts initP.2.1, scope := initP.2.2, globals := 3, closure := [], defaults := .none, kwdefaults := .none, pyModule := .str (Str.ofString "siftwall.faults") 187, code := .ref 27 }
noncomputable def bmL : List Value := [.ref 31, .type "Exception", .type "BaseException", .type "object"]
/-- what is known of the class LeftOut -/
structure KF (K : Frag) : Prop where
  c44 : ∃ nm q N bs sn sub ab col dd k0 k1 k2 k3 k5, K.lookup 44 = some (excClassObj nm q 44 N bs bmL true sn sub ab col dd k0 k1 k2 k3 k5 "Exception.__new__")
  f28 : K.lookup 28 = some { cls := .type "function", data := .func fdInit }
  code : ∀ h, K.In h → h.CodeRec (.ref 27) (Str.ofString "WallFault.__init__")
  init : findIn K (.ref 44) "__init__" = some (some (.ref 28))
  sa : findIn K (.ref 44) "__setattr__" = some (some (.builtin "object.__setattr__"))
  ga : findIn K (.ref 44) "__getattribute__" = some (some (.builtin "BaseException.__getattribute__"))
  gt : findIn K (.ref 44) "__getattr__" = some none
  why : findIn K (.ref 44) "why" = some none
  at_ : findIn K (.ref 44) "at" = some none
theorem aboveL : Above "Exception" bmL := ⟨by decide, by decide, by decide⟩
theorem passL (self : Value) : refuseLoop self "__setattr__" bmL = pure () := by
  unfold bmL
  rw [refuseLoop_ref]
  exact PySem.F.store_Exception.passes self

/-- the heap below all frames -/
structure Bz (mg mb : Str → Option Value) (K : Frag) (base : Heap) : Prop where
  G : Gl mg mb base
  X : K.In base
  F : KF K
  L : mg (Str.ofString "LeftOut") = some (.ref 44)

noncomputable def noHeap : Heap := { objs := #[] }
theorem empty_get (b : Addr) : noHeap.get? b = none := Heap.get?_none_of_le (Nat.zero_le _)
theorem method_exc {w : World} {A : Around} {E : Value → Shared → Prop} {s : Shared} {mg : Str → Option Value} {pl : Sem Bool} {Q : Value × List Value → Shared → Prop} (hg : s.heap.Ns mainGlobals mg)
    (h : Q (.builtin "Exception.__init__", []) { s with toks := s.toks + 1 }) : wpAny (model PW w) A (getMethod (.type "Exception") (Str.ofString "__init__") pl) Q E s :=
  PySem.W.method_type (K := []) (h₀ := noHeap) (L := mainGlobals) (m := mg) ⟨hg, (fun b x e => by rw [empty_get] at e; cases e), Nat.zero_le _⟩ (fun a o e => by cases e) rfl (by decide +kernel) (by kernel_rfl) rfl h

/-- e is a LeftOut that carries msg -/
noncomputable def Carries (old h : Heap) (e : Addr) (msg : Str) : Prop :=
  ∃ mA t oe t1 dx, h.Inst e 44 mA ∧ mA (Str.ofString "why") = some (.str msg t) ∧ h.get? e = some oe ∧ oe.data = .fields #[.ref t1, .none, .none, .none, .bool false, .none] ∧ oe.dict = some dx ∧ old.get? dx = none

theorem wall_init {w : World} {A : Around} {E : Value → Shared → Prop} {s : Shared} {mg mb : Str → Option Value} {K : Frag} {base old : Heap} {e t0 : Addr} {msg : Str} {tk : Tok} {Q : Value → Shared → Prop}
    (Z : Bz mg mb K base) (hb : Ext base s.heap) (heb : base.get? e = none) (ho : Ext old s.heap) (hoe : old.get? e = none) (hroom : A.depth < recursionLimit) (he : s.heap.get? e = some { cls := .ref 44, data := .fields #[.ref t0, .none, .none, .none, .bool false, .none] })
    (hq : ∀ h' tk', (∀ b o, b ≠ e → s.heap.get? b = some o → h'.get? b = some o) → Carries old h' e msg → Q .none { s with heap := h', toks := tk' }) :
    wpAny (model PW w) A (call (.ref 28) [.ref e, .str msg tk]) Q E s := by
  have hf : s.heap.get? 28 = some { cls := .type "function", data := .func fdInit } := hb _ _ (Z.X _ _ Z.F.f28)
  have hne28 : (28 : Addr) ≠ e := by rintro rfl; rw [Z.X _ _ Z.F.f28] at heb; cases heb
  have G0 := Z.G.ext hb
  refine wpAny_call (codeAny_call_cells (fd := fdInit) (body := initP.2.1) (binds := [(Str.ofString "self", .ref e), (Str.ofString "why", .str msg tk)]) hroom hf rfl G0.nolimit ((Z.F.code base Z.X).keeps hb) rfl (by rfl) rfl
    (fun x hx => by
      simp only [List.mem_cons, List.not_mem_nil, or_false] at hx
      rcases hx with rfl | rfl <;> exact .inl rfl) (fun s1 hin => ?_))
  obtain ⟨h1, t1, e1, k1⟩ := hin.done
  subst e1
  have ns1 := hin.toInCall.ns
  obtain ⟨Lo, hLo⟩ : ∃ L, L = (callEnvC fdInit s.heap.objs.size 28).locals := ⟨_, rfl⟩
  rw [← hLo] at ns1
  have hsz : e < s.heap.objs.size := Heap.lt_size he
  have hLe : Lo ≠ e := by
    have := hin.toInCall.fresh
    rw [← hLo] at this
    exact Nat.ne_of_gt (Nat.lt_of_lt_of_le hsz this)
  have he1 := k1 _ _ he
  have hb1 : Ext base h1 := hb.trans k1
  obtain ⟨nm, q, N, bs, sn, sub, ab, col, dd, k0, k1', k2, k3, k5, hc44⟩ := Z.F.c44
  have hC := Z.X _ _ hc44
  have hnC : (44 : Addr) ≠ e := by rintro rfl; rw [hC] at heb; cases heb
  let A' := A.deeper (callEnvC fdInit s.heap.objs.size 28)
  let env := callEnvC fdInit s.heap.objs.size 28
  have nSelf : ∀ (h : Heap) (tk : Tok) (pos : Pos) (Q : Value → Shared → Prop) (E : Value → Shared → Prop) {m : Str → Option Value}, h.Ns Lo m → m (Str.ofString "self") = some (.ref e) → Q (.ref e) { s with heap := h, toks := tk } → wpAny (model PW w) A' (eval (.Name (Str.ofString "self") pos) env) Q E { s with heap := h, toks := tk } :=
    fun h tk pos Q E m hn hm hq => wpAny_Name (wpAny_loadName_local rfl rfl (show h.Ns env.locals m from hLo ▸ hn) hm hq) rfl
  have nWhy : ∀ (h : Heap) (tk' : Tok) (pos : Pos) (Q : Value → Shared → Prop) (E : Value → Shared → Prop) {m : Str → Option Value}, h.Ns Lo m → m (Str.ofString "why") = some (.str msg tk) → Q (.str msg tk) { s with heap := h, toks := tk' } → wpAny (model PW w) A' (eval (.Name (Str.ofString "why") pos) env) Q E { s with heap := h, toks := tk' } :=
    fun h tk pos Q E m hn hm hq => wpAny_Name (wpAny_loadName_local rfl rfl (show h.Ns env.locals m from hLo ▸ hn) hm hq) rfl
  -- Exception.__init__(self, why)
  refine wpAny_execs_cons (wpAny_Expr_any (PySem.W.methodCall_KW (pl := _) ?_ rfl) rfl rfl)
  refine ((Z.G.ext hb1).built (c := ⟨PW, w, A', env, fun _ => False⟩) (Str.ofString "Exception") (v := .type "Exception") (by simp [bltns]) rfl rfl rfl rfl (by rfl)) _ _ _ _ (Ext.refl _) ?_
  refine method_exc (Z.G.ext hb1).g ?_
  refine callWith_builtin1 (args_cons (nSelf _ _ _ _ _ ns1 rfl (args_cons (nWhy _ _ _ _ _ ns1 rfl (args_nil ?_)) rfl)) rfl) rfl rfl
  refine init2 PySem.F.excBase_Exception aboveL (hb1 _ _ hC) he1 (by rw [sizeLine_eq, List.length_singleton]; omega) fun h2 t2 kk2 he2 => ?_
  have ns2 : h2.Ns Lo _ := ns1.at' fun o ho => kk2 _ o hLe ho
  have hb2 : Ext base h2 := fun b o ho => kk2 _ _ (by rintro rfl; rw [ho] at heb; cases heb) (hb1 _ _ ho)
  -- self.why = why
  refine wpAny_execs_cons (plainObj_wpAny_Assign_Attribute (nWhy _ _ _ _ _ ns2 rfl (nSelf _ _ _ _ _ ns2 rfl ?_)))
  have X2 : K.In h2 := fun a o hl => hb2 _ _ (Z.X a o hl)
  refine setAttr2 passL (by decide) (hb2 _ _ hC) (PySem.W.looks_findIn X2 Z.F.why) (PySem.W.looks_findIn X2 Z.F.sa) (Ne.symm hnC) (mA := fun _ => none) ⟨_, he2, rfl, (fun c hc => by cases hc), .inl ⟨rfl, fun _ => rfl⟩⟩ (fun h3 t3 I3 kk3 ob3 => ?_) Within.nil (by decide)
  have hdx2 : ∀ o₀ dx, h2.get? e = some o₀ → o₀.dict = some dx → False := fun o₀ dx h0 hd => by rw [he2] at h0; cases h0; cases hd
  have kk3' : ∀ b o, b ≠ e → h2.get? b = some o → h3.get? b = some o := fun b o hne ho => kk3 b o hne (fun o₀ dx h0 hd => (hdx2 o₀ dx h0 hd).elim) ho
  obtain ⟨o3, ho3, hc3, hd3, hs3, hdk3, hdf3⟩ := ob3 _ he2
  have ns3 : h3.Ns Lo _ := ns2.at' fun o ho => kk3' _ o hLe ho
  have hb3 : Ext base h3 := fun b o ho => kk3' _ _ (by rintro rfl; rw [ho] at heb; cases heb) (hb2 _ _ ho)
  -- self.at = -1
  refine wpAny_execs_cons (plainObj_wpAny_Assign_Attribute (wpAny_UnaryOp (wpAny_Constant_int (PyProof.Rows.neg_int ?_))))
  refine nSelf _ _ _ _ _ ns3 rfl ?_
  have X3 : K.In h3 := fun a o hl => hb3 _ _ (Z.X a o hl)
  refine setAttr2 passL (by decide) (hb3 _ _ hC) (PySem.W.looks_findIn X3 Z.F.at_) (PySem.W.looks_findIn X3 Z.F.sa) (Ne.symm hnC) I3 (fun h4 t4 I4 kk4 ob4 => ?_) (Within.cons (Str.ofString "why") _ Within.nil) (by decide)
  obtain ⟨o4, ho4, hc4, hd4, hs4, hdk4, hdf4⟩ := ob4 _ ho3
  obtain ⟨oI, hoI, -, -, hdI⟩ := id I4
  rw [ho4] at hoI
  cases hoI
  have hdx3 : ∀ dx, o3.dict = some dx → h2.get? dx = none := fun dx hd => by
    rcases hdf3 dx hd with h' | h'
    · cases h'
    · exact h'
  refine wpAny_execs_nil (hq h4 t4 (fun b o hne ho => kk4 b o hne (fun o₀ dx h0 hd => ?_) (kk3' b o hne (kk2 b o hne (k1 b o ho)))) ?_)
  · rw [ho3] at h0; cases h0
    rintro rfl
    have := hdx3 _ hd
    rw [kk2 _ o hne (k1 _ o ho)] at this; cases this
  · rcases hdI with ⟨_, hn⟩ | ⟨dx, hdx, hne, hns⟩
    · have h' := hn (Str.ofString "why")
      exact absurd h' (by show ¬ (some (Value.str msg tk) = none); simp)
    · refine ⟨_, tk, o4, _, dx, I4, ?_, ho4, by rw [hd4, hd3], hdx, ?_⟩
      · rfl
      · cases hbx : old.get? dx with
        | none => rfl
        | some ob =>
          have hnd : dx ≠ e := by rintro rfl; rw [hoe] at hbx; cases hbx
          have ho2 := kk2 _ _ hnd (k1 _ _ (ho _ _ hbx))
          rcases hdf4 dx hdx with h' | h'
          · have := hdx3 _ h'
            rw [ho2] at this; cases this
          · rw [kk3' _ _ hnd ho2] at h'; cases h'
end Mine
end

section
open PySem PyProof.Rows
open PySem.W (Looks Frag findIn)
namespace Mine
set_option autoImplicit false
set_option linter.unusedVariables false
set_option maxRecDepth 100000

section
variable {M : Model} {A : Around} {E : Value → Shared → Prop} {env : Env}
variable {nm q : Str} {C N : Addr} {bs bm : List Value} {hdct : Bool} {sn : List Str} {sub : List Value} {ab : Bool} {col : Option Bool} {dd : Option Addr} {k0 k1 k2 k3 k5 : Option Value} {newId : String}
theorem raise2 {s : Shared} {x : Sem Value} {Q : Flow → Shared → Prop} (hbase : bm.contains (.type "BaseException") = true) (hh : A.handled = none)
    (h : wpAny M A x (fun v s₁ => ∃ e oe, v = .ref e ∧ s₁.heap.get? C = some (excClassObj nm q C N bs bm hdct sn sub ab col dd k0 k1 k2 k3 k5 newId) ∧
      s₁.heap.get? e = some oe ∧ oe.cls = .ref C ∧ (∃ t1 : Addr, oe.data = .fields #[.ref t1, .none, .none, .none, .bool false, .none]) ∧ E (.ref e) s₁) E s) :
    wpAny M A (raiseStmt env (some x) none) Q E s := by
  have hcB : (Value.ref C :: bm).contains (.type "BaseException") = true := by rw [List.contains_cons, hbase, Bool.or_true]
  unfold raiseStmt
  refine wpAny_bind (wpAny_mono h (fun v s₁ h₁ => ?_) fun _ _ x => x)
  obtain ⟨e, ⟨oc, od, odt, osl⟩, rfl, hC, he, hcl, ⟨vs, hdt⟩, hE⟩ := h₁
  dsimp only at hcl hdt
  subst hcl hdt
  obtain ⟨hp, g, d, tk, os⟩ := s₁
  repeat (first | with_reducible refine wpAny_loadPart_at he ?_ | with_reducible refine wpAny_loadPart_at hC ?_ | (with_reducible refine wpAny_isSubtype_exc hC ?_; rw [hcB]) | wp_step)
  exact wpAny_raiseNew_none hh hE
end

theorem raise_left {c : Cx} {mg mb : Str → Option Value} {K : Frag} {base : Heap} {np cpos pos : Pos} {arg : Expr} {msg : Str} {Q : Flow → Shared → Prop} {E : Value → Shared → Prop} {s : Shared}
    (Z : Bz mg mb K base) (hb : Ext base s.heap) (hprog : c.prog = PW) (hh : c.A.handled = none) (hd : c.A.depth + 1 < recursionLimit) (ha : Ev c s.heap arg (.str msg))
    (hE : ∀ e h' tk, Ext s.heap h' → s.heap.get? e = none → Carries s.heap h' e msg → E (.ref e) { s with heap := h', toks := tk })
    (hg : c.env.globals = mainGlobals) (hk : c.env.scope.kind = .function) (hx : c.env.kindOf (Str.ofString "LeftOut") = some .globalImplicit)
    (hse : starEach (arg :: []) c.env = (false, eval arg c.env) :: starEach [] c.env) (hse0 : starEach [] c.env = []) :
    wpAny (model c.prog c.w) c.A (exec (.Raise (some (.Call (.Name (Str.ofString "LeftOut") np) [arg] [] cpos)) none pos) c.env) Q E s := by
  obtain ⟨nm, q, N, bs, sn, sub, ab, col, dd, k0, k1', k2, k3, k5, hc44⟩ := Z.F.c44
  have hC := Z.X _ _ hc44
  have main : wpAny (model c.prog c.w) c.A (eval (.Call (.Name (Str.ofString "LeftOut") np) [arg] [] cpos) c.env) (fun v s₁ => ∃ e oe, v = .ref e ∧ s₁.heap.get? 44 = some (excClassObj nm q 44 N bs bmL true sn sub ab col dd k0 k1' k2 k3 k5 "Exception.__new__") ∧
      s₁.heap.get? e = some oe ∧ oe.cls = .ref 44 ∧ (∃ t1 : Addr, oe.data = .fields #[.ref t1, .none, .none, .none, .bool false, .none]) ∧ E (.ref e) s₁) E s := by
    refine wpAny_Call_ofName (Lv.glob (c := c) (v := .ref 44) (mg := mg) (h := base) (by rw [hg]; exact Z.G.g) Z.L hk hx (by rfl) s _ _ _ hb ?_)
    unfold callWith
    have hplain : (backTo cpos (starEach [arg] c.env)).any (·.1) = false := by rw [hse, hse0]; rfl
    simp only [hplain]
    rw [hse]
    refine wpAny_bind (wpAny_holding (Calls.evalArgs_plain ?_))
    show wpAny _ _ (spliced (backTo cpos ((false, eval arg c.env) :: starEach [] c.env))) _ _ _
    rw [← hse]
    refine args_cons (ha s _ _ (Ext.refl _) fun v h1 t1 e1 r1 => args_nil ?_) hse
    cases r1 with
    | str _ tk0 =>
      refine wpAny_bind (wpAny_standAt ?_)
      have hC1 := e1 _ _ (hb _ _ hC)
      refine wpAny_bind (wpAny_keeperOf_exc hC1 ?_)
      have hb1 := hb.trans e1
      have X1 : K.In h1 := fun a o hl => hb1 _ _ (Z.X a o hl)
      refine wpAny_bind (call2 PySem.F.excBase_Exception aboveL hC1 (PySem.W.looks_findIn X1 Z.F.init) (hb1 _ _ (Z.X _ _ Z.F.f28)) rfl (fun h2 e hm => ?_) (by rw [sizeLine_eq]; simp))
      obtain ⟨t, ht, -, -⟩ := hm.there
      rw [hprog]
      have hb2 : Ext base h2 := fun b o ho => hm.keeps _ _ (hb1 _ _ ho)
      have hes : s.heap.get? e = none := by
        cases hsx : s.heap.get? e with
        | none => rfl
        | some ob => have := e1 _ _ hsx; rw [hm.new] at this; cases this
      refine wall_init (old := s.heap) (s := ⟨h2, s.gens, s.drawn, t1, s.os⟩) Z hb2 ?_ (fun b o ho => hm.keeps _ _ (e1 _ _ ho)) hes hd ht fun h3 t3 kk3 Ca => ⟨rfl, ?_⟩
      · cases hbx : base.get? e with
        | none => rfl
        | some ob => have := hb1 _ _ hbx; rw [hm.new] at this; cases this
      · refine wpAny_bind (wpAny_holding (wpAny_point (wpAny_pure ?_)))
        have ext3 : Ext s.heap h3 := fun b o ho => kk3 b o (by rintro rfl; have := e1 _ _ ho; rw [hm.new] at this; cases this) (hm.keeps _ _ (e1 _ _ ho))
        obtain ⟨mA, tt, oe, tt1, dx, I, hw, he, hdt, hdc, hdn⟩ := id Ca
        obtain ⟨o', ho', hcl, -⟩ := I
        rw [he] at ho'; cases ho'
        refine ⟨e, oe, rfl, ext3 _ _ (hb _ _ hC), he, hcl, ⟨_, hdt⟩, hE e h3 t3 ext3 hes Ca⟩
  rw [arm_exec_Raise]
  exact wpAny_bind (wpAny_standAt (raise2 (C := 44) (nm := nm) (q := q) (N := N) (bs := bs) (bm := bmL) (hdct := true) (sn := sn) (sub := sub) (ab := ab) (col := col) (dd := dd) (k0 := k0) (k1 := k1') (k2 := k2) (k3 := k3) (k5 := k5) (newId := "Exception.__new__") (by decide) hh
    (wpAny_bind (wpAny_mono main (fun v s₃ h₃ => wpAny_bind (wpAny_standAt (wpAny_pure h₃))) fun _ _ x => x))))
end Mine
end

section
open PySem
namespace Mine
set_option autoImplicit false
set_option linter.unusedVariables false
set_option maxRecDepth 100000

theorem ns1_slots {h h' : Heap} {a : Addr} {m : Str → Option Value} (n : h.Ns1 a m) (k : ∀ o, h.get? a = some o → (∀ vs, o.data ≠ .fields vs) → ∃ sl, h'.get? a = some { o with slots := sl }) : h'.Ns1 a m := by
  obtain ⟨o, es, ep, ho, hd, r⟩ := n
  obtain ⟨sl, hs⟩ := k o ho fun vs q => by rw [hd] at q; cases q
  exact ⟨_, es, ep, hs, hd, r⟩
theorem inst_slots {h h' : Heap} {e C : Addr} {m : Str → Option Value} {oe oe' : Obj} (I : h.Inst e C m) (he : h.get? e = some oe) (he' : h'.get? e = some oe') (hc : oe'.cls = oe.cls) (hdi : oe'.dict = oe.dict) (hnc : ∀ c, oe'.data ≠ .cls c)
    (k : ∀ b o, b ≠ e → h.get? b = some o → (∀ vs, o.data ≠ .fields vs) → ∃ sl, h'.get? b = some { o with slots := sl }) : h'.Inst e C m := by
  obtain ⟨o, ho, hcl, hn, hd⟩ := I
  rw [he] at ho; cases ho
  refine ⟨oe', he', hc.trans hcl, hnc, ?_⟩
  rcases hd with ⟨a, b⟩ | ⟨dx, a, b, c⟩
  · exact .inl ⟨hdi.trans a, b⟩
  · exact .inr ⟨dx, hdi.trans a, b, ns1_slots c fun o ho hf => k dx o b ho hf⟩

/-- e is in flight, or held, its first entry a traceback that says fl -/
noncomputable def TrA (h base old : Heap) (e : Addr) (msg : Str) (fl : Value) : Prop :=
  ∃ mA t oe vs T oT ts dx, oe.dict = some dx ∧ old.get? dx = none ∧ h.Inst e 44 mA ∧ mA (Str.ofString "why") = some (.str msg t) ∧ h.get? e = some oe ∧ oe.data = .fields vs ∧ vs[1]? = some (.ref T) ∧ base.get? T = none ∧ T ≠ e ∧ h.get? T = some oT ∧ oT.data = .fields ts ∧ ts[3]? = some fl
noncomputable def Fly (base old : Heap) (l : List Env) (e : Addr) (msg : Str) (fl : Value) (h : Heap) : Prop := base.StaysIn h ∧ base.get? e = none ∧ h.FunFrames base l ∧ TrA h base old e msg fl

section
variable {M : Model} {A : Around} {E : Value → Shared → Prop} {s : Shared}
theorem entryA {base old : Heap} {dx : Addr} {env : Env} {outer : List Env} {L e : Addr} {oe : Obj} {vs : Array Value} {head : Value} {hadNext : Bool} {Q : Unit → Shared → Prop} {mA : Str → Option Value} {msg : Str} {tk : Tok}
    (hfr : A.frames = some (env :: outer)) (hl : s.heap.FunFrames base (env :: outer)) (hf : env.frame = some L)
    (he : s.heap.get? e = some oe) (hkb : base.StaysIn s.heap) (hen : base.get? e = none) (hd : oe.data = .fields vs) (hsz : 1 < vs.size) (hdc : oe.dict = some dx) (hdn : old.get? dx = none) (I : s.heap.Inst e 44 mA) (hw : mA (Str.ofString "why") = some (.str msg tk))
    (h : ∀ h', Fly base old (env :: outer) e msg (rawInt L) h' → s.heap.UpToSlots h' → Q () { s with heap := h' }) :
    wpAny M A (do let a ← frameOf env; let pl ← entryPlaceOf L hadNext; let b ← EntryCells.newEntry head a .none (rawInt L) .none pl; setField (.ref e) 1 b) Q E s := by
  have hene : e ∉ (env :: outer).filterMap (·.frame) := fun hm => by
    obtain ⟨_, o, ho, hnf⟩ := hl.mem hm
    rw [he] at ho; injection ho with ho; subst ho; exact hnf vs hd
  refine wpAny_bind (wpAny_frameOf_fun hfr hl hf fun h₁ hs₁ => ?_)
  refine wpAny_bind (wpAny_entryPlaceOf fun pl hpl => ?_)
  unfold EntryCells.newEntry newFields
  refine wpAny_bind (wpAny_newObj_type ?_ (hpl.sizeOk5 _ _ _ _ _))
  have he₁ : h₁.get? e = some oe := (hs₁.2.1 e hene).trans he
  have kb₁ : base.StaysIn h₁ := fun b o hbo => (hs₁.2.1 b fun hm => by rw [(hl.mem hm).1] at hbo; cases hbo).trans (hkb b o hbo)
  have he₂ := Heap.get?_push_of_some (h := h₁) { cls := .type "traceback", dict := none, data := .fields ([head, .ref L, .none, rawInt L, .none] ++ (if pl.isEmpty then List.replicate 6 Value.none else pl)).toArray } he₁
  refine wpAny_setField he₂ hd hsz (h _ ?_ ?_)
  all_goals
    have hTe : h₁.objs.size ≠ e := Nat.ne_of_gt (Heap.lt_size he₁)
    have hd₃ := Obj.data_mapFields hd (·.setIfInBounds 1 (Value.ref h₁.objs.size))
    have he₃ := Heap.get?_update_self (Obj.mapFields (·.setIfInBounds 1 (Value.ref h₁.objs.size))) he₂ (Obj.isFreed_of_fields hd₃)
    have hT₃ := (Heap.get?_update_other (h₁.push { cls := .type "traceback", dict := none, data := .fields ([head, .ref L, .none, rawInt L, .none] ++ (if pl.isEmpty then List.replicate 6 Value.none else pl)).toArray })
      (Obj.mapFields (·.setIfInBounds 1 (Value.ref h₁.objs.size))) (Ne.symm hTe)).trans (Heap.get?_push_size h₁ rfl)
    have keep : ∀ b o, b ≠ e → h₁.get? b = some o →
        ((h₁.push { cls := .type "traceback", dict := none, data := .fields ([head, .ref L, .none, rawInt L, .none] ++ (if pl.isEmpty then List.replicate 6 Value.none else pl)).toArray }).update e (Obj.mapFields (·.setIfInBounds 1 (Value.ref h₁.objs.size)))).get? b = some o :=
      fun b o hbe hb => by
        rw [Heap.get?_update_other _ _ (Ne.symm hbe)]
        exact Heap.get?_push_of_some _ hb
    have noRecord : ∀ b o, s.heap.get? b = some o → (∀ vs, o.data ≠ .fields vs) → b ≠ e := fun b o hb hnf q => by
      rw [q, he] at hb; injection hb with hb; subst hb; exact hnf vs hd
    have up : s.heap.UpToSlots ((h₁.push { cls := .type "traceback", dict := none, data := .fields ([head, .ref L, .none, rawInt L, .none] ++ (if pl.isEmpty then List.replicate 6 Value.none else pl)).toArray }).update e (Obj.mapFields (·.setIfInBounds 1 (Value.ref h₁.objs.size)))) := fun b o hb hnf => by
      obtain ⟨sl, hs⟩ := hs₁.2.2 b o hb
      exact ⟨sl, keep b _ (noRecord b o hb hnf) hs⟩
  · refine ⟨fun b o hbo => keep b o (fun q => by rw [q, hen] at hbo; cases hbo) (kb₁ b o hbo), hen, hl.of_keeps fun b o hb hnf => ?_, ?_⟩
    · obtain ⟨sl, hs⟩ := up b o hb hnf
      exact ⟨_, hs, rfl⟩
    · exact ⟨mA, tk, _, _, h₁.objs.size, _, _, dx, (by obtain ⟨_, _, dt, _⟩ := oe; cases dt <;> exact hdc), hdn, inst_slots I he he₃ (Obj.cls_mapFields _ _) (by obtain ⟨_, _, dt, _⟩ := oe; cases dt <;> rfl) (fun c hc => by rw [hd₃] at hc; cases hc) (fun b o hne hb hnf => up b o hb hnf), hw, he₃, hd₃, by simp [hsz], kb₁.fresh, hTe, hT₃, rfl,
        by first | (simp; done) | (rcases hpl with rfl | ⟨_, _, _, _, _, _, _, rfl⟩ <;> simp)⟩
  · exact up

/-- the first note -/
theorem note1 {base old : Heap} {env : Env} {outer : List Env} {L e : Addr} {msg : Str} {Q : Unit → Shared → Prop}
    (hfr : A.frames = some (env :: outer)) (hl : s.heap.FunFrames base (env :: outer)) (hf : env.frame = some L) (hkb : base.StaysIn s.heap) (hen : base.get? e = none) (Ca : Carries old s.heap e msg)
    (h : ∀ h', Fly base old (env :: outer) e msg (rawInt L) h' → s.heap.UpToSlots h' → Q () { s with heap := h' }) : wpAny M A (noteFrame (.ref e) env) Q E s := by
  obtain ⟨mA, t, oe, t1, dx, I, hw, he, hd, hdc, hdn⟩ := Ca
  unfold noteFrame
  simp only [hf]
  refine wpAny_bind (wpAny_field he hd (x := .none) rfl ?_)
  rw [if_neg (by decide)]
  exact entryA hfr hl hf he hkb hen hd (by simp) hdc hdn I hw h
/-- a further note -/
theorem note2 {base old : Heap} {env : Env} {outer : List Env} {L e : Addr} {msg : Str} {Q : Unit → Shared → Prop}
    (hfr : A.frames = some (env :: outer)) (hf : env.frame = some L) (F : Fly base old (env :: outer) e msg .none s.heap)
    (h : ∀ h', Fly base old (env :: outer) e msg (rawInt L) h' → s.heap.UpToSlots h' → Q () { s with heap := h' }) : wpAny M A (noteFrame (.ref e) env) Q E s := by
  obtain ⟨hkb, hen, hl, mA, t, oe, vs, T, oT, ts, dx, hdc, hdn, I, hw, he, hd, h1, hnT, hTe, hT, hdT, h3⟩ := F
  unfold noteFrame
  simp only [hf]
  refine wpAny_bind (wpAny_field he hd h1 ?_)
  rw [if_pos (show (Value.ref T != Value.none) = true from by simp)]
  refine wpAny_bind (wpAny_field hT hdT h3 ?_)
  rw [if_neg (show ¬ ((Value.none == rawInt L) = true) from by simp [rawInt])]
  refine wpAny_bind (wpAny_setField hT hdT (Array.getElem?_eq_some_iff.mp h3).1 ?_)
  have other : ∀ b, b ≠ T → (s.heap.update T (Obj.mapFields (·.setIfInBounds 3 Value.none))).get? b = s.heap.get? b := fun b hb => Heap.get?_update_other _ _ (Ne.symm hb)
  have noRecord : ∀ b o, s.heap.get? b = some o → (∀ vs, o.data ≠ .fields vs) → b ≠ T := fun b o hb hnf q => by
    rw [q, hT] at hb; injection hb with hb; subst hb; exact hnf ts hdT
  refine entryA hfr (hl.of_keeps fun b o hb hnf => ⟨o, (other b (noRecord b o hb hnf)).trans hb, rfl⟩) hf ((other e (Ne.symm hTe)).trans he)
    (fun b o hbo => (other b fun q => by rw [q, hnT] at hbo; cases hbo).trans (hkb b o hbo)) hen hd (Array.getElem?_eq_some_iff.mp h1).1 hdc hdn
    (inst_slots I he ((other e (Ne.symm hTe)).trans he) rfl rfl (fun c hc => by rw [hd] at hc; cases hc) fun b o hne hb hnf => ⟨o.slots, (other b (noRecord b o hb hnf)).trans hb⟩) hw
    fun h' x1 x2 => h h' x1 fun b o hb hnf => x2 b o ((other b (noRecord b o hb hnf)).trans hb) hnf
theorem flight0 {base old : Heap} {l : List Env} {e : Addr} {msg : Str} {fl : Value} {Q : Unit → Shared → Prop} (F : Fly base old l e msg fl s.heap)
    (h : ∀ h', Fly base old l e msg .none h' → s.heap.UpToSlots h' → Q () { s with heap := h' }) : wpAny M A (setFlight (.ref e) none) Q E s := by
  obtain ⟨hkb, hen, hl, mA, t, oe, vs, T, oT, ts, dx, hdc, hdn, I, hw, he, hd, h1, hnT, hTe, hT, hdT, h3⟩ := F
  have hsz3 : 3 < ts.size := (Array.getElem?_eq_some_iff.mp h3).1
  have other : ∀ b, b ≠ T → (s.heap.update T (Obj.mapFields (·.setIfInBounds 3 ((none : Option Addr).elim Value.none fun f => rawInt f)))).get? b = s.heap.get? b :=
    fun b hb => Heap.get?_update_other _ _ (Ne.symm hb)
  have noRecord : ∀ b o, s.heap.get? b = some o → (∀ vs, o.data ≠ .fields vs) → b ≠ T := fun b o hb hnf q => by
    rw [q, hT] at hb; injection hb with hb; subst hb; exact hnf ts hdT
  unfold setFlight
  refine wpAny_bind (wpAny_field he hd h1 ?_)
  rw [if_pos (show (Value.ref T != Value.none) = true from by simp)]
  refine wpAny_setField hT hdT hsz3 (h _ ⟨fun b o hbo => (other b fun q => by rw [q, hnT] at hbo; cases hbo).trans (hkb b o hbo), hen,
    hl.of_keeps fun b o hb hnf => ⟨o, (other b (noRecord b o hb hnf)).trans hb, rfl⟩, ?_⟩ fun b o hb hnf => ⟨o.slots, (other b (noRecord b o hb hnf)).trans hb⟩)
  exact ⟨mA, t, oe, vs, T, _, _, dx, hdc, hdn, inst_slots I he ((other e (Ne.symm hTe)).trans he) rfl rfl (fun c hc => by rw [hd] at hc; cases hc) (fun b o hne hb hnf => ⟨o.slots, (other b (noRecord b o hb hnf)).trans hb⟩), hw, (other e (Ne.symm hTe)).trans he, hd, h1, hnT, hTe,
    Heap.get?_update_self _ hT (Obj.isFreed_of_fields (Obj.data_mapFields hdT _)), Obj.data_mapFields hdT _, by simp [hsz3]⟩
theorem Fly.tail {base old h : Heap} {env : Env} {outer : List Env} {e : Addr} {msg : Str} {fl : Value} (F : Fly base old (env :: outer) e msg fl h) : Fly base old outer e msg fl h :=
  let ⟨a, b, ⟨_, _, c⟩, d⟩ := F; ⟨a, b, c, d⟩
/-- the frame where it was raised is left -/
theorem leaving1 {base old : Heap} {env : Env} {outer : List Env} {L e : Addr} {msg : Str} {Q : Unit → Shared → Prop}
    (hfr : A.frames = some (env :: outer)) (hl : s.heap.FunFrames base (env :: outer)) (hf : env.frame = some L) (hkb : base.StaysIn s.heap) (hen : base.get? e = none) (Ca : Carries old s.heap e msg)
    (h : ∀ h', Fly base old outer e msg .none h' → s.heap.UpToSlots h' → Q () { s with heap := h' }) : wpAny M A (leaving env (.ref e)) Q E s := by
  unfold leaving
  exact wpAny_bind (note1 hfr hl hf hkb hen Ca fun h1 F1 u1 => flight0 F1 fun h2 F2 u2 => h h2 F2.tail (u1.trans u2))
end
end Mine
end

section
open PySem PyProof.Rows PySem.W
namespace Mine
set_option autoImplicit false
set_option linter.unusedVariables false
set_option maxRecDepth 100000

/-! masks: small tables, looked through by the kernel -/
noncomputable def allN (n : Nat) (p : Nat → Bool) : Bool := @Nat.rec (fun _ => Bool) true (fun k ih => @Bool.rec (fun _ => Bool) false ih (p k)) n
theorem andR {a b : Bool} (h : @Bool.rec (fun _ => Bool) false b a = true) : a = true ∧ b = true := by
  cases a
  · cases h
  · exact ⟨rfl, h⟩
theorem allN_of : ∀ {n : Nat} {p : Nat → Bool}, allN n p = true → ∀ i, i < n → p i = true
  | n + 1, p, h, i, hi => by
    have h : p n = true ∧ allN n p = true := andR h
    rcases Nat.lt_or_ge i n with h' | h'
    · exact allN_of h.2 i h'
    · have : i = n := by (first | exact Nat.eq_of_le_of_lt_succ h' hi | lia)
      subst this; exact h.1
/-- the low zeros of held -/
noncomputable def tzF (held bits : Nat) : Nat → Nat → Nat
  | 0, i => i
  | f + 1, i => if Nat.ble (i + 1) bits && Nat.beq (Nat.land (Nat.div held (Nat.pow 2 i)) 1) 0 then tzF held bits f (i + 1) else i
noncomputable def tz (bits held : Nat) : Nat := tzF held bits bits 0
noncomputable def topN (bits : Nat) : Nat := Nat.sub (Nat.pow 2 bits) 1
noncomputable def tailN (bits held : Nat) : Nat := Nat.sub (Nat.pow 2 (tz bits held)) 1
noncomputable def freeN (bits held : Nat) : Nat := Nat.sub (Nat.sub (topN bits) held) (tailN bits held)
noncomputable def nextN (top free c : Nat) : Nat := Nat.land (Nat.add (Nat.add c (Nat.sub top free)) 1) free
noncomputable def imp (a b : Bool) : Bool := @Bool.rec (fun _ => Bool) true b a
theorem imp_of {a b : Bool} (h : imp a b = true) (ha : a = true) : b = true := by subst ha; exact h
/-- one state of the walk: its span, up to the next -/
noncomputable def chkC (top held tail free c : Nat) : Bool :=
  imp (Nat.beq (Nat.land c free) c) (
    Nat.ble (Nat.add c tail) top &&
    (if Nat.beq c free then allN (Nat.add top 1) fun m => imp (Nat.ble c m) (Bool.beq' (Nat.beq (Nat.land m held) 0) (Nat.ble m (Nat.add c tail)))
     else (fun n => Nat.beq (Nat.land n free) n && Nat.ble (Nat.add (Nat.add c tail) 2) n && Nat.ble n free && allN n fun m => imp (Nat.ble c m) (Bool.beq' (Nat.beq (Nat.land m held) 0) (Nat.ble m (Nat.add c tail)))) (nextN top free c)))
where Bool.beq' (a b : Bool) : Bool := @Bool.rec (fun _ => Bool) (@Bool.rec (fun _ => Bool) true false b) b a
noncomputable def chkH (bits held : Nat) : Bool :=
  (fun top tail free => Nat.ble (Nat.add held tail) top && Nat.ble (tz bits held) bits && allN (Nat.add top 1) (fun m => imp (Nat.beq (Nat.land m held) 0) (Nat.ble (Nat.add m held) top)) && allN (Nat.add top 1) (chkC top held tail free)) (topN bits) (tailN bits held) (freeN bits held)
noncomputable def chkB (bits : Nat) : Bool := allN (Nat.pow 2 bits) (chkH bits)
noncomputable def chkW (held : Nat) : Bool := allN 64 fun want => imp (Nat.beq (Nat.land want held) want) (allN 64 fun n => chkC.Bool.beq' (Nat.beq (Nat.land n held) want) (@Bool.rec (fun _ => Bool) false (Nat.beq (Nat.land (Nat.sub n want) held) 0) (Nat.ble want n)))
theorem chkAll : allN 7 chkB = true := by decide +kernel
theorem chkWAll : allN 64 chkW = true := by decide +kernel
theorem beq'_of {a b : Bool} (h : chkC.Bool.beq' a b = true) : a = true ↔ b = true := by
  cases a <;> cases b <;> first | exact Iff.rfl | cases h
theorem land_eq (a b : Nat) : Nat.land a b = a &&& b := rfl
structure MK (top held tail free c : Nat) : Prop where
  fit : c + tail ≤ top
  last : c = free → ∀ m, m ≤ top → c ≤ m → (m &&& held = 0 ↔ m ≤ c + tail)
  sub : c ≠ free → nextN top free c &&& free = nextN top free c
  far : c ≠ free → c + tail + 2 ≤ nextN top free c
  le : c ≠ free → nextN top free c ≤ free
  gap : c ≠ free → ∀ m, m < nextN top free c → c ≤ m → (m &&& held = 0 ↔ m ≤ c + tail)
theorem mk_of {bits held : Nat} (hb : bits < 7) (hh : held < 2 ^ bits) : held + tailN bits held ≤ topN bits ∧ tz bits held ≤ bits ∧ (∀ m, m ≤ topN bits → m &&& held = 0 → m + held ≤ topN bits) ∧
    ∀ c, c ≤ topN bits → c &&& freeN bits held = c → MK (topN bits) held (tailN bits held) (freeN bits held) c := by
  have h := allN_of (allN_of chkAll bits hb) held hh
  unfold chkH at h
  simp only [Bool.and_eq_true] at h
  obtain ⟨⟨⟨h1, h2⟩, h3⟩, h4⟩ := h
  refine ⟨Nat.le_of_ble_eq_true h1, Nat.le_of_ble_eq_true h2, fun m hm he => ?_, fun c hc he => ?_⟩
  · have := imp_of (allN_of h3 m (Nat.lt_succ_of_le hm)) (by rw [land_eq, he]; rfl)
    exact Nat.le_of_ble_eq_true this
  · have h5 := allN_of h4 c (Nat.lt_succ_of_le hc)
    unfold chkC at h5
    have h6 := imp_of h5 (by rw [land_eq, he]; exact Nat.beq_refl c)
    rw [Bool.and_eq_true] at h6
    obtain ⟨h7, h8⟩ := h6
    refine ⟨Nat.le_of_ble_eq_true h7, fun hf m hm hcm => ?_, fun hf => ?_, fun hf => ?_, fun hf => ?_, fun hf m hm hcm => ?_⟩
    · rw [if_pos (by rw [hf]; exact Nat.beq_refl _)] at h8
      have := beq'_of (imp_of (allN_of h8 m (Nat.lt_succ_of_le hm)) (Nat.ble_eq_true_of_le hcm))
      rw [Nat.beq_eq, Nat.ble_eq] at this
      exact this
    all_goals
      rw [if_neg (by rw [Nat.beq_eq]; exact hf)] at h8
      simp only [Bool.and_eq_true] at h8
      obtain ⟨⟨⟨g1, g2⟩, g3⟩, g4⟩ := h8
    · rw [Nat.beq_eq] at g1; exact g1
    · exact Nat.le_of_ble_eq_true g2
    · exact Nat.le_of_ble_eq_true g3
    · have := beq'_of (imp_of (allN_of g4 m hm) (Nat.ble_eq_true_of_le hcm))
      rw [Nat.beq_eq, Nat.ble_eq] at this
      exact this
theorem want_of {held want n : Nat} (hh : held < 64) (hw : want < 64) (hn : n < 64) (hs : want &&& held = want) : n &&& held = want ↔ want ≤ n ∧ (n - want) &&& held = 0 := by
  have h := allN_of (imp_of (allN_of (allN_of chkWAll held hh) want hw) (by rw [land_eq, hs]; exact Nat.beq_refl _)) n hn
  have h := beq'_of h
  rw [Nat.beq_eq] at h
  refine Iff.trans h ?_
  by_cases hl : want ≤ n
  · rw [Nat.ble_eq_true_of_le hl, Nat.beq_eq]
    exact ⟨fun a => ⟨hl, a⟩, fun a => a.2⟩
  · have hb : Nat.ble want n = false := by rw [Bool.eq_false_iff, Ne, Nat.ble_eq]; exact hl
    rw [hb]
    exact ⟨fun a => (nomatch a), fun a => absurd a.1 hl⟩

/-- the spans yet to come -/
noncomputable def restS (want top tail free : Nat) : Nat → Nat → Spans
  | 0, _ => []
  | f + 1, c => (((want + c : Nat) : Int), ((want + c + tail : Nat) : Int)) :: if c = free then [] else restS want top tail free f (nextN top free c)
theorem rest_ok {bits held want : Nat} (hb : bits < 7) (hh : held < 2 ^ bits) : ∀ (f c : Nat), c ≤ topN bits → c &&& freeN bits held = c → freeN bits held + 1 ≤ f + c →
    Tidy (restS want (topN bits) (tailN bits held) (freeN bits held) f c) ∧ (∀ p ∈ restS want (topN bits) (tailN bits held) (freeN bits held) f c, ((want + c : Nat) : Int) ≤ p.1) ∧
    ∀ n, In (restS want (topN bits) (tailN bits held) (freeN bits held) f c) n ↔ ∃ m : Nat, n = ((want + m : Nat) : Int) ∧ c ≤ m ∧ m ≤ topN bits ∧ m &&& held = 0 := by
  intro f
  induction f with
  | zero =>
    intro c hc hs hf
    have : c ≤ freeN bits held := by rw [← hs]; exact Nat.and_le_right
    grind
  | succ f ih =>
    intro c hc hs hf
    obtain ⟨-, -, -, hk⟩ := mk_of hb hh
    have K := hk c hc hs
    unfold restS
    by_cases he : c = freeN bits held
    · rw [if_pos he]
      refine ⟨⟨List.pairwise_singleton _ _, fun p hp => ?_⟩, fun p hp => ?_, fun n => ?_⟩
      · rw [List.mem_singleton.mp hp]; dsimp only; (first | exact Int.le.intro (tailN bits held) rfl | lia)
      · rw [List.mem_singleton.mp hp]; exact Int.le_refl _
      · rw [In.one]
        dsimp only
        constructor
        · rintro ⟨h1, h2⟩
          refine ⟨(n - want).toNat, by lia, by lia, ?_, ?_⟩
          · have := K.fit; lia
          · exact (K.last he _ (by have := K.fit; lia) (by lia)).mpr (by lia)
        · rintro ⟨m, rfl, h1, h2, h3⟩
          have := (K.last he m h2 h1).mp h3
          grind
    · rw [if_neg he]
      have hfar := K.far he
      have hfr : freeN bits held ≤ topN bits := Nat.le_trans (Nat.sub_le _ _) (Nat.sub_le _ _)
      obtain ⟨t, lo, eq⟩ := ih (nextN (topN bits) (freeN bits held) c) (Nat.le_trans (K.le he) hfr) (K.sub he) (by lia)
      refine ⟨⟨List.pairwise_cons.mpr ⟨fun q hq => ?_, t.1⟩, fun p hp => ?_⟩, fun p hp => ?_, fun n => ?_⟩
      · have := lo q hq
        dsimp only
        lia
      · rcases List.mem_cons.mp hp with rfl | hp
        · dsimp only; (first | exact Int.le.intro (tailN bits held) rfl | lia)
        · exact t.2 p hp
      · rcases List.mem_cons.mp hp with rfl | hp
        · exact Int.le_refl _
        · have := lo p hp; lia
      · rw [show ∀ (p : Int × Int) (l : Spans), In (p :: l) n ↔ In [p] n ∨ In l n from fun p l => by rw [show p :: l = [p] ++ l from rfl, In.app], In.one, eq]
        dsimp only
        constructor
        · rintro (⟨h1, h2⟩ | ⟨m, rfl, h1, h2, h3⟩)
          · refine ⟨(n - want).toNat, by lia, by lia, ?_, ?_⟩
            · have := K.fit; lia
            · exact (K.gap he _ (by lia) (by lia)).mpr (by lia)
          · exact ⟨m, rfl, by lia, h2, h3⟩
        · rintro ⟨m, rfl, h1, h2, h3⟩
          by_cases hm : m < nextN (topN bits) (freeN bits held) c
          · have := (K.gap he m hm h1).mp h3
            exact .inl (by lia)
          · exact .inr ⟨m, rfl, by (first | exact Nat.le_of_not_lt hm | lia), h2, h3⟩
theorem and_top {bits n : Nat} (hn : n < 2 ^ bits) : n &&& topN bits = n := by
  unfold topN
  show n &&& (2 ^ bits - 1) = n
  rw [Nat.and_two_pow_sub_one_eq_mod, Nat.mod_eq_of_lt hn]
theorem and_held {bits n mask : Nat} (hn : n < 2 ^ bits) : n &&& (mask &&& topN bits) = n &&& mask := by
  rw [Nat.and_comm mask, ← Nat.and_assoc, and_top hn]
theorem bitAnd_nat (m n : Nat) : Builtin.bitAnd (m : Int) (n : Int) = ((m &&& n : Nat) : Int) := by
  unfold Builtin.bitAnd
  have h1 : decide ((0 : Int) ≤ (m : Int)) = true := decide_eq_true (by (first | exact Int.natCast_nonneg m | lia))
  have h2 : decide ((0 : Int) ≤ (n : Int)) = true := decide_eq_true (by (first | exact Int.natCast_nonneg n | lia))
  rw [h1, h2]
  rfl
noncomputable def dueT (bits mask want : Nat) : List Bool := tab (fun n => Builtin.bitAnd n (mask : Int) == (want : Int)) (2 ^ bits)
/-- all the spans of a mask -/
noncomputable def dueL (bits mask want : Nat) : Spans :=
  if want &&& (mask &&& topN bits) = want then restS want (topN bits) (tailN bits (mask &&& topN bits)) (freeN bits (mask &&& topN bits)) (freeN bits (mask &&& topN bits) + 1) 0 else []
theorem top_lt (bits : Nat) : topN bits + 1 = 2 ^ bits := by
  unfold topN
  show 2 ^ bits - 1 + 1 = _
  have := Nat.two_pow_pos bits
  (first | exact Nat.sub_add_cancel this | lia)
theorem due_ok {bits mask want : Nat} (hb : bits < 7) : runs (dueT bits mask want) = dueL bits mask want := by
  have htop := top_lt bits
  have hheld : mask &&& topN bits < 2 ^ bits := by
    have : mask &&& topN bits ≤ topN bits := Nat.and_le_right
    lia
  have h64 : 2 ^ bits ≤ 64 := by
    have : 2 ^ bits ≤ 2 ^ 6 := Nat.pow_le_pow_right (by (first | exact Nat.zero_lt_two | lia)) (by (first | exact Nat.le_of_lt_succ hb | lia))
    omega
  unfold dueT dueL
  by_cases hs : want &&& (mask &&& topN bits) = want
  · rw [if_pos hs]
    obtain ⟨-, -, hB, -⟩ := mk_of hb hheld
    obtain ⟨t, lo, eq⟩ := rest_ok (want := want) hb hheld (freeN bits (mask &&& topN bits) + 1) 0 (Nat.zero_le _) (Nat.zero_and _) (Nat.le_refl _)
    have hwl : want ≤ mask &&& topN bits := by
      have : want &&& (mask &&& topN bits) ≤ mask &&& topN bits := Nat.and_le_right
      (first | exact le_of_eq_of_le (id (Eq.symm hs)) this | lia)
    have hI : ∀ n, In (restS want (topN bits) (tailN bits (mask &&& topN bits)) (freeN bits (mask &&& topN bits)) (freeN bits (mask &&& topN bits) + 1) 0) n ↔ (decide (0 ≤ n) && decide (n < ((2 ^ bits : Nat) : Int)) && (Builtin.bitAnd n (mask : Int) == (want : Int))) = true := by
      intro n
      rw [eq]
      simp only [Bool.and_eq_true, decide_eq_true_eq, beq_iff_eq]
      constructor
      · rintro ⟨m, rfl, -, h2, h3⟩
        have h4 := hB m h2 h3
        have hlt : want + m < 2 ^ bits := by lia
        refine ⟨⟨by (first | exact Int.natCast_nonneg (want + m) | lia), by (first | exact Int.ofNat_lt.mpr hlt | lia)⟩, ?_⟩
        rw [bitAnd_nat, ← and_held hlt]
        have := (want_of (n := want + m) (show mask &&& topN bits < 64 by (first | exact Nat.lt_of_lt_of_le hheld h64 | lia)) (show want < 64 by grind) (by (first | exact Nat.lt_of_lt_of_le hlt h64 | lia)) hs).mpr ⟨by (first | exact Nat.le_add_right want m | lia), by rw [show want + m - want = m by (first | exact Nat.add_sub_self_left want m | lia)]; exact h3⟩
        rw [this]
      · rintro ⟨⟨h1, h2⟩, h3⟩
        obtain ⟨k, rfl⟩ : ∃ k : Nat, n = k := ⟨n.toNat, by (first | exact Int.eq_natCast_toNat.mpr h1 | lia)⟩
        have hk : k < 2 ^ bits := by (first | exact Int.ofNat_lt.mp h2 | lia)
        rw [bitAnd_nat, ← and_held hk] at h3
        have h3' : k &&& (mask &&& topN bits) = want := by (first | exact Eq.symm ((fun {m n} => Int.ofNat_inj.mp) (id (Eq.symm h3))) | lia)
        obtain ⟨h4, h5⟩ := (want_of (show mask &&& topN bits < 64 by (first | exact Nat.lt_of_lt_of_le hheld h64 | lia)) (show want < 64 by grind) (by (first | exact Nat.lt_of_lt_of_le hk h64 | lia)) hs).mp h3'
        exact ⟨k - want, by grind, Nat.zero_le _, by grind, h5⟩
    rw [tab_eq (g := fun n => decide (0 ≤ n) && decide (n < ((2 ^ bits : Nat) : Int)) && (Builtin.bitAnd n (mask : Int) == (want : Int))) fun n hn => ?_]
    · refine runs_of t (.of t fun n hn => ?_) hI
      have := (hI n).mp hn
      simp only [Bool.and_eq_true, decide_eq_true_eq] at this
      exact this.1
    · have h1 : decide ((0 : Int) ≤ (n : Int)) = true := decide_eq_true (by (first | exact Int.natCast_nonneg n | lia))
      have h2 : decide ((n : Int) < ((2 ^ bits : Nat) : Int)) = true := decide_eq_true (by (first | exact Int.ofNat_lt.mpr hn | lia))
      rw [h1, h2, Bool.true_and, Bool.true_and]
  · rw [if_neg hs]
    rw [tab_eq (g := fun _ => false) fun n hn => ?_]
    · exact runs_of Tidy.nil (by intro p hp; cases hp) fun n => ⟨fun h => absurd h In.nil, fun h => by cases h⟩
    · rw [Bool.eq_false_iff]
      intro h
      rw [beq_iff_eq, bitAnd_nat, ← and_held hn] at h
      have h' : n &&& (mask &&& topN bits) = want := by (first | exact Eq.symm ((fun {m n} => Int.ofNat_inj.mp) (id (Eq.symm h))) | lia)
      exact hs (by rw [← h', Nat.and_assoc, Nat.and_self])
end Mine
end

section
open PySem PyProof.Rows PySem.W
namespace Mine
set_option autoImplicit false
set_option linter.unusedVariables false
set_option maxRecDepth 100000

noncomputable def pMask : Str × Nat := (Str.ofString "mask_spans", 10)
noncomputable def maskPre : List Stmt := (fdAt 10).2.1.take 10
noncomputable def maskEnd : List Stmt := (fdAt 10).2.1.drop 10
theorem maskBody : (fdAt 10).2.1 = maskPre ++ maskEnd := (List.take_append_drop 10 _).symm

theorem tzF_step {held bits i : Nat} (hi : i < bits) (hz : (held / 2 ^ i) &&& 1 = 0) : tzF held bits (bits - i) i = tzF held bits (bits - (i + 1)) (i + 1) := by
  obtain ⟨k, hk⟩ : ∃ k, bits - i = k + 1 := ⟨bits - i - 1, by grind⟩
  rw [hk, show bits - (i + 1) = k by grind]
  show (if Nat.ble (i + 1) bits && Nat.beq (Nat.land (Nat.div held (Nat.pow 2 i)) 1) 0 then _ else _) = _
  rw [if_pos]
  rw [Bool.and_eq_true]
  exact ⟨Nat.ble_eq_true_of_le hi, by rw [Nat.beq_eq]; exact hz⟩
theorem tzF_stop {held bits i : Nat} (hz : i < bits → (held / 2 ^ i) &&& 1 ≠ 0) : tzF held bits (bits - i) i = i := by
  cases h : bits - i with
  | zero => rfl
  | succ k =>
    show (if Nat.ble (i + 1) bits && Nat.beq (Nat.land (Nat.div held (Nat.pow 2 i)) 1) 0 then _ else _) = _
    rw [if_neg]
    rw [Bool.and_eq_true, Nat.beq_eq]
    exact fun h' => hz (by (first | exact Nat.lt_of_sub_eq_succ h | lia)) h'.2
theorem fdiv_pow (a i : Nat) : (a : Int).fdiv (2 ^ ((i : Int)).toNat) = ((a / 2 ^ i : Nat) : Int) := by
  rw [Int.toNat_natCast, Int.fdiv_eq_ediv_of_nonneg _ (by exact_mod_cast Nat.zero_le (2 ^ i))]
  push_cast
  rfl
theorem restS_len (want top tail free f c : Nat) : 1 ≤ (restS want top tail free (f + 1) c).length := by unfold restS; simp

/-- the body up to the raise -/
theorem mask_pre {mg mb : Str → Option Value} (mask want bits most : Nat) (hbits : bits < 7) (hmask : mask < 1000) (hwant : want < 1000) (hmost : most ≤ 100)
    {w : World} {A : Around} {X₀ : Addr → Prop} {pm doc : Value} {c L a : Addr} {h₀ h1 : Heap} (rm : Rm 0 (fx w A pMask pm doc c L a h₀ X₀).A) (G : Gl mg mb h₀)
    (S : St (fx w A pMask pm doc c L a h₀ X₀) (bindD [Str.ofString "mask", Str.ofString "want", Str.ofString "bits", Str.ofString "most"] [.int mask, .int want, .int bits, .int most] fun _ => none) none h1) :
    Exs (fx w A pMask pm doc c L a h₀ X₀) h1 maskPre fun fl h' =>
      (fl = .next ∧ most < (dueL bits mask want).length ∧ ∃ g ρ own, St ((fx w A pMask pm doc c L a h₀ X₀).more g) ρ own h' ∧ ρ (Str.ofString "most") = some (.int most)) ∨
      (∃ v, fl = .ret v ∧ (dueL bits mask want).length ≤ most ∧ R X₀ h' v (.lst (enc (dueL bits mask want)))) := by
  have htop := top_lt bits
  have hheld : mask &&& topN bits < 2 ^ bits := by
    have : mask &&& topN bits ≤ topN bits := Nat.and_le_right
    lia
  have h64 : 2 ^ bits ≤ 64 := by
    have : 2 ^ bits ≤ 2 ^ 6 := Nat.pow_le_pow_right (by (first | exact Nat.zero_lt_two | lia)) (by (first | exact Nat.le_of_lt_succ hbits | lia))
    omega
  obtain ⟨m1, m2, -, mk⟩ := mk_of hbits hheld
  refine Exs.set (d := .int (topN bits)) S (Ev.eqI (Ev.sub (Ev.shl Ev.int (S.nm rfl) (by (first | exact Int.natCast_nonneg bits | lia)) (by lia) (by decide)) Ev.int) ?_) fun h2 S => ?_
  · rw [Int.toNat_natCast, Int.one_mul]
    have : ((2 ^ bits : Nat) : Int) = (2 : Int) ^ bits := by push_cast; rfl
    lia
  refine Exs.set (d := .int (mask &&& topN bits : Nat)) S (Ev.eqI (Ev.band (S.nm rfl) (S.nm rfl)) (bitAnd_nat _ _)) fun h2 S => ?_
  refine Exs.ifRet (orelse := []) (t := decide (want &&& (mask &&& topN bits) ≠ want)) (Te.eqB (Te.cmp (Ev.band (S.nm rfl) (S.nm rfl)) (S.nm rfl) Co.ne) ?_) (fun ht h3 e3 => ?_) (fun ht h3 e3 => ?_)
  · rw [bitAnd_nat, Bool.eq_iff_iff, bne_iff_ne, decide_eq_true_eq]
    lia
  · have hd : dueL bits mask want = [] := by unfold dueL; rw [if_neg (by simpa using ht)]
    have S := S.ext e3
    refine Exs.ret (Ev.list (ds := []) S.bd Sp.nil) fun v h' e r => ⟨(fun x => nomatch x), .inr ⟨v, rfl, ?_, ?_⟩⟩
    · rw [hd]; exact Nat.zero_le _
    · rw [hd]; exact retX r
  have hs : want &&& (mask &&& topN bits) = want := by simpa using ht
  have hd : dueL bits mask want = restS want (topN bits) (tailN bits (mask &&& topN bits)) (freeN bits (mask &&& topN bits)) (freeN bits (mask &&& topN bits) + 1) 0 := by unfold dueL; rw [if_pos hs]
  have S := S.ext e3
  generalize hH : mask &&& topN bits = held at *
  refine Exs.set (d := .int 0) S Ev.int fun h4 S => ?_
  refine Exs.while (fun k ρ own => ∃ i : Nat, own = none ∧ ρ (Str.ofString "want") = some (.int want) ∧ ρ (Str.ofString "bits") = some (.int bits) ∧ ρ (Str.ofString "most") = some (.int most) ∧ ρ (Str.ofString "top") = some (.int (topN bits)) ∧ ρ (Str.ofString "held") = some (.int held) ∧
      ρ (Str.ofString "below") = some (.int i) ∧ ρ (Str.ofString "found") = none ∧ i ≤ bits ∧ tzF held bits (bits - i) i = tz bits held ∧ k = bits - i) bits ⟨0, rfl, rfl, rfl, rfl, rfl, rfl, rfl, rfl, Nat.zero_le _, rfl, rfl⟩ S ?_
  rintro k ρ own h5 ⟨i, rfl, r1, r2, r3, r4, r5, r6, r7, q1, q2, rfl⟩ S
  refine ⟨decide (i < bits) && decide ((held / 2 ^ i) &&& 1 = 0), Te.and (Te.eqB (Te.cmp (S.nm r6) (S.nm r2) Co.lt) (by rw [Bool.eq_iff_iff, decide_eq_true_eq, decide_eq_true_eq]; (first | exact Int.ofNat_lt | lia))) (fun _ => Te.eqB (Te.cmp (Ev.band (Ev.shr (S.nm r5) (S.nm r6) (by (first | exact Int.natCast_nonneg i | lia))) Ev.int) Ev.int Co.eq) ?_), fun hb h6 S => ?_, fun hb h6 S => ?_⟩
  · rw [fdiv_pow, show (1 : Int) = ((1 : Nat) : Int) from rfl, bitAnd_nat, Bool.eq_iff_iff, beq_iff_eq, decide_eq_true_eq]
    (first | exact Int.ofNat_eq_zero | lia)
  · simp only [Bool.and_eq_true, decide_eq_true_eq] at hb
    refine Exs.aug S r6 Ev.int fun h7 S => Exs.nil ⟨_, _, ⟨bits - (i + 1), by grind, i + 1, rfl, by exact r1, by exact r2, by exact r3, by exact r4, by exact r5, by rfl, by exact r7, by lia, ?_, rfl⟩, S⟩
    rw [← q2]; exact (tzF_step hb.1 hb.2).symm
  have hi : i = tz bits held := by
    rw [← q2]
    refine (tzF_stop fun hlt hz => ?_).symm
    simp [hlt, hz] at hb
  subst hi
  refine Exs.set (d := .int (tailN bits held)) S (Ev.eqI (Ev.sub (Ev.shl Ev.int (S.nm r6) (by (first | exact Int.natCast_nonneg (tz bits held) | lia)) (by lia) (by decide)) Ev.int) ?_) fun h7 S => ?_
  · rw [Int.toNat_natCast, Int.one_mul]
    unfold tailN
    show (2 : Int) ^ tz bits held - 1 = ((2 ^ tz bits held - 1 : Nat) : Int)
    have h1 : ((2 ^ tz bits held : Nat) : Int) = (2 : Int) ^ tz bits held := by push_cast; rfl
    have h2 := Nat.two_pow_pos (tz bits held)
    lia
  have hfree : freeN bits held = topN bits - held - tailN bits held := rfl
  refine Exs.set (d := .int (freeN bits held)) S (Ev.eqI (Ev.sub (Ev.sub (S.nm r4) (S.nm r5)) (S.nm rfl)) (by rw [hfree]; grind)) fun h8 S => ?_
  refine Exs.born S rfl rfl r7 fun gg h9 S => ?_
  refine Exs.set (d := .int (0 : Nat)) S Ev.int fun h10 S => ?_
  have hfr : freeN bits held ≤ topN bits := by grind
  refine Exs.while (fun k ρ own => ∃ (f c : Nat) (F : Spans), own = some (Str.ofString "found", enc F) ∧ ρ (Str.ofString "want") = some (.int want) ∧ ρ (Str.ofString "most") = some (.int most) ∧ ρ (Str.ofString "top") = some (.int (topN bits)) ∧ ρ (Str.ofString "tail") = some (.int (tailN bits held)) ∧
      ρ (Str.ofString "free") = some (.int (freeN bits held)) ∧ ρ (Str.ofString "chosen") = some (.int c) ∧ F ++ restS want (topN bits) (tailN bits held) (freeN bits held) (f + 1) c = dueL bits mask want ∧ c ≤ topN bits ∧ c &&& freeN bits held = c ∧ freeN bits held + 1 ≤ f + 1 + c ∧ F.length ≤ most ∧ k = f + 1)
    (freeN bits held + 1) ⟨freeN bits held, 0, [], rfl, by exact r1, by exact r3, by exact r4, by rfl, by rfl, by rfl, by rw [hd]; rfl, Nat.zero_le _, Nat.zero_and _, Nat.le_refl _, Nat.zero_le _, rfl⟩ S ?_
  rintro k ρ own h11 ⟨f, cc, F, rfl, r1, r2, r3, r4, r5, r6, p1, p2, p3, p4, p5, rfl⟩ S
  have G1 := G.ext S.keep
  have eF := enc_length F
  have K := mk cc p2 p3
  refine ⟨decide (F.length < most), Te.eqB (Te.cmp (Ev.lenOwn S (G1.built (c := ((fx w A pMask pm doc c L a h₀ X₀).more gg).cx) (Str.ofString "len") (by simp [bltns]) rfl rfl rfl rfl (by rfl)) rfl (by lia) rfl) (S.nm r2) Co.lt) (by rw [Bool.eq_iff_iff, decide_eq_true_eq, decide_eq_true_eq]; lia), fun hb h12 S => ?_, fun hb h12 S => ?_⟩
  · simp only [decide_eq_true_eq] at hb
    refine Exs.app (d := .tup [.int (want + cc : Nat), .int (want + cc + tailN bits held : Nat)]) S (fun h13 e13 => ?_) (by lia) fun h13 S => ?_
    · have S := S.ext e13
      exact Ev.tuple S.bd (Sp.cons (Ev.eqI (Ev.add (S.nm r1) (S.nm r6)) (by push_cast; rfl)) (Sp.cons (Ev.eqI (Ev.add (Ev.add (S.nm r1) (S.nm r6)) (S.nm r4)) (by push_cast; rfl)) Sp.nil))
    have eA : enc F ++ [.tup [.int ((want + cc : Nat) : Int), .int ((want + cc + tailN bits held : Nat) : Int)]] = enc (F ++ [(((want + cc : Nat) : Int), ((want + cc + tailN bits held : Nat) : Int))]) := enc_app F (((want + cc : Nat) : Int), ((want + cc + tailN bits held : Nat) : Int))
    rw [eA] at S
    refine Exs.ifRet (orelse := []) (t := decide (cc = freeN bits held)) (Te.eqB (Te.cmp (S.nm r6) (S.nm r5) Co.eq) (by rw [Bool.eq_iff_iff, beq_iff_eq, decide_eq_true_eq]; (first | exact Int.ofNat_inj | lia))) (fun ht h14 e14 => ?_) (fun ht h14 e14 => ?_)
    · have hcf : cc = freeN bits held := by simpa using ht
      have S := S.ext e14
      unfold restS at p1
      rw [if_pos hcf] at p1
      rw [p1] at S
      refine Exs.retOwn S fun v r => ⟨(fun x => nomatch x), (fun x => nomatch x), .inr ⟨v, rfl, ?_, r⟩⟩
      rw [← p1, List.length_append, List.length_singleton]; assumption
    · have hcf : cc ≠ freeN bits held := by simpa using ht
      have S := S.ext e14
      have k1 := K.far hcf
      have k2 := K.le hcf
      obtain ⟨f', rfl⟩ : ∃ f', f = f' + 1 := ⟨f - 1, by lia⟩
      refine Exs.set (d := .int (nextN (topN bits) (freeN bits held) cc)) S (Ev.eqI (Ev.band (Ev.add (Ev.add (S.nm r6) (Ev.sub (S.nm r3) (S.nm r5))) Ev.int) (S.nm r5)) ?_) fun h15 S => Exs.nil ⟨_, _, ⟨f' + 1, by (first | exact Nat.lt_add_one (f' + 1) | lia), f', nextN (topN bits) (freeN bits held) cc, _, rfl, by exact r1, by exact r2, by exact r3, by exact r4, by exact r5, by rfl, ?_, by (first | exact Nat.le_trans k2 hfr | lia), K.sub hcf, by lia, by rw [List.length_append, List.length_singleton]; assumption, rfl⟩, S⟩
      · rw [show ((cc : Int) + ((topN bits : Int) - (freeN bits held : Int)) + 1) = ((cc + (topN bits - freeN bits held) + 1 : Nat) : Int) by lia, bitAnd_nat]
        rfl
      · rw [restS, if_neg hcf] at p1
        rw [← p1, List.append_assoc]; rfl
  · simp only [decide_eq_false_iff_not] at hb
    refine Exs.nil (.inl ⟨rfl, ?_, gg, ρ, _, S, r2⟩)
    rw [← p1, List.length_append]
    have := restS_len want (topN bits) (tailN bits held) (freeN bits held) f cc
    lia
end Mine
end

section
open PySem PyProof.Rows
open PySem.W (Looks Frag findIn)
namespace Mine
set_option autoImplicit false
set_option linter.unusedVariables false
set_option maxRecDepth 100000

theorem execs_append (a b : List Stmt) (env : Env) : execs (a ++ b) env = (do
    match ← execs a env with
    | .next => execs b env
    | f => pure f) := by
  induction a with
  | nil => rw [List.nil_append, show execs [] env = pure .next from rfl, pure_bind]
  | cons s r ih =>
    rw [List.cons_append, execs_cons, execs_cons, ih, bind_assoc]
    congr 1
    funext f
    cases f <;> simp

section
variable {f : Fx} {h : Heap} {pre rest : List Stmt} {Φ Ψ : Flow → Heap → Prop}
theorem execs_split (a : Exs f h pre Ψ) {s : Shared} {Q : Flow → Shared → Prop} {E : Value → Shared → Prop} (hs : s.heap = h)
    (hn : ∀ h' tk, Kp f.Y h h' → Ψ .next h' → wpAny (model f.prog f.w) f.A (execs rest f.env) Q E { s with heap := h', toks := tk })
    (ho : ∀ fl h' tk, fl ≠ .next → Kp f.Y h h' → Ψ fl h' → Q fl { s with heap := h', toks := tk }) : wpAny (model f.prog f.w) f.A (execs (pre ++ rest) f.env) Q E s := by
  rw [execs_append]
  refine wpAny_bind (a s _ _ hs fun fl h' tk k p => ?_)
  cases fl with
  | next => exact hn h' tk k p
  | brk => exact wpAny_pure (ho _ h' tk (fun x => nomatch x) k p)
  | cont => exact wpAny_pure (ho _ h' tk (fun x => nomatch x) k p)
  | ret v => exact wpAny_pure (ho _ h' tk (fun x => nomatch x) k p)
theorem Exs.split (a : Exs f h pre Ψ) (hn : ∀ h', Ψ .next h' → Exs f h' rest Φ) (ho : ∀ fl h', fl ≠ .next → Ψ fl h' → Φ fl h') : Exs f h (pre ++ rest) Φ := fun s Q E hs q =>
  execs_split a hs (fun h' tk k p => hn h' p _ _ _ rfl fun fl h2 t2 k2 p2 => q fl h2 t2 (k.trans k2) p2) fun fl h' tk n k p => q fl h' tk k (ho fl h' n p)
end

/-- a call of a def of the text, its body as it runs -/
theorem callGen {w : World} {A : Around} {E : Value → Shared → Prop} {Q : Value → Shared → Prop} {s : Shared} {X₀ : Addr → Prop} {a : Addr} {p : Str × Nat} {vs : List Value} {ds : List D} {mg mb : Str → Option Value}
    (F : FnP s.heap a p) (G : Gl mg mb s.heap) (hroom : A.depth < recursionLimit) (hX : Bd X₀ s.heap) (r : RS X₀ s.heap vs ds) (ps : List Str)
    (hbind : ∀ vs : List Value, vs.length = ds.length → ∀ pm doc c, bindArgs (Calls.docDef p.1 (fdAt p.2).1 (fdAt p.2).2.1 (fdAt p.2).2.2 pm (.ref c) doc) ⟨vs, []⟩ = pure (ps.zip vs))
    (hkind : ∀ (L : Nat), ∀ x ∈ ps, (fdAt p.2).2.2.names.lookup x = some .local ∨ ((fdAt p.2).2.2.names.lookup x = some .cell ∧ ((cellsFrom (L + 1) (fdAt p.2).2.2.names []).lookup x).isSome = true))
    (hbody : ∀ pm doc c h1 t1, Ext s.heap h1 → St (fx w A p pm doc c s.heap.objs.size a s.heap X₀) (bindD ps ds fun _ => none) none h1 →
      wpAny (model PW w) (fx w A p pm doc c s.heap.objs.size a s.heap X₀).A (execs (fdAt p.2).2.1 (fx w A p pm doc c s.heap.objs.size a s.heap X₀).env) (fun fl s' => Q (match fl with | .ret v => v | _ => .none) s')
        (fun e s' => wpAny (model PW w) (fx w A p pm doc c s.heap.objs.size a s.heap X₀).A (leaving (fx w A p pm doc c s.heap.objs.size a s.heap X₀).env e) (fun _ s'' => E e s'') (fun e' s'' => E e' s'') s') { s with heap := h1, toks := t1 })
    (hco : (fdAt p.2).2.2.isCoroutine = false := by rfl) (hgen : (fdAt p.2).2.2.isGenerator = false := by rfl) (hk : (fdAt p.2).2.2.kind = .function := by rfl) :
    wpAny (model PW w) A (call (.ref a) vs) Q E s := by
  have hlen := r.length
  obtain ⟨o, pm, doc, c, ho, hd, hcd⟩ := F
  refine wpAny_call (codeAny_call_cells hroom ho hd G.nolimit hcd rfl (hbind vs hlen pm doc c) rfl (fun x hx => hkind _ x.1 (List.of_mem_zip hx).1) (fun s1 hin => ?_) hco hgen hk)
  obtain ⟨h1, t1, e1, k1⟩ := hin.done
  subst e1
  have hY0 : ∀ b, (b = s.heap.objs.size ∨ ∃ n, (dEnv p.1 (fdAt p.2).1 (fdAt p.2).2.1 (fdAt p.2).2.2 pm doc c s.heap.objs.size a).cells.lookup n = some b) → s.heap.get? b = none := by
    rintro b (rfl | ⟨n, hb⟩)
    · exact Heap.get?_none_of_le (Nat.le_refl _)
    · exact Heap.get?_none_of_le (Nat.le_of_lt (hin.above n b (mem_of_lookup hb)))
  have S1 : St (fx w A p pm doc c s.heap.objs.size a s.heap X₀) (bindD ps ds fun _ => none) none h1 := by
    refine ⟨_, _, hin.toInCall.ns, k1, hin.cell, hin.apart, fun n a h => Nat.ne_of_gt (hin.above n a (mem_of_lookup h)), .inl rfl, hY0, ?_, fun b hb hx => ?_, ?_, trivial⟩
    · rintro b (hb | rfl | ⟨n, hb⟩)
      · obtain ⟨o, ho⟩ := hX b hb; exact ⟨o, k1 _ _ ho⟩
      · exact ns_get hin.toInCall.ns
      · obtain ⟨o, ho, _⟩ := hin.cell n b hb; exact ⟨o, ho⟩
    · obtain ⟨o, ho⟩ := hX b hx
      rw [hY0 b hb] at ho; cases ho
    · refine vw_binds _ _ ps vs ds _ _ _ (r.mono fun b o hb ho => ⟨?_, k1 b o ho⟩) (fun x hx => hkind _ x.1 (List.of_mem_zip hx).1) (fun x d hx => by cases hx)
      rintro (hc | hc)
      · exact hb hc
      · rw [hY0 b hc] at ho; cases ho
  exact hbody pm doc c h1 t1 k1 S1

theorem below_push {A : Around} {base h₀ h1 : Heap} {outer : List Env} {env : Env} {L : Addr} (B : Below A base outer h₀) (hk : env.scope.kind ≠ .module) (hf : env.frame = some L) (hL : h₀.get? L = none) (hns : ∃ m, h1.Ns L m) (k : Ext h₀ h1) :
    Below (A.deeper env) base (env :: outer) h1 := by
  have hbL : base.get? L = none := by
    cases hq : base.get? L with
    | none => rfl
    | some o => rw [B.stays _ _ hq] at hL; cases hL
  obtain ⟨m, o, es, ep, ho, hd, _⟩ := hns
  exact ⟨Around.frames_deeper B.stack, fun b o ho => k _ _ (B.stays _ _ ho), hk, ⟨L, o, hf, hbL, ho, fun vs q => by rw [hd] at q; cases q⟩, B.frames.of_keeps fun b o ho _ => ⟨o, k _ _ ho, rfl⟩⟩
theorem below_weak {A : Around} {base h h' : Heap} {outer : List Env} (B : Below A base outer h) (hb : base.StaysIn h') (u : h.UpToSlots h') : Below A base outer h' :=
  ⟨B.stack, hb, B.frames.of_keeps fun b o ho hd => let ⟨sl, e⟩ := u b o ho hd; ⟨_, e, rfl⟩⟩

section
variable {f : Fx} {mg mb : Str → Option Value}
/-- a call by name, in the open -/
theorem call_expr {p : Str × Nat} {np pos : Pos} {e : Expr} {es : List Expr} {ds : List D} {s : Shared} {Q : Value → Shared → Prop} {E : Value → Shared → Prop} (hp : p ∈ fnames) (G : Gl mg mb s.heap) (hs : Sp f.cx s.heap (e :: es) ds)
    (hc : ∀ a vs h1 tk, Ext s.heap h1 → FnP h1 a p → RS f.X h1 vs ds → wpAny (model f.prog f.w) f.A (call (.ref a) vs) Q E { s with heap := h1, toks := tk })
    (hk : f.env.scope.kind = .function := by rfl) (hx : f.env.kindOf p.1 = some .globalImplicit := by rfl) (hg : f.env.globals = mainGlobals := by rfl) (hd : (p.1 == ("__debug__" : Str)) = false := by rfl)
    (he : starEach (e :: es) f.env = (false, eval e f.env) :: starEach es f.env := by rfl) : wpAny (model f.prog f.w) f.A (eval (.Call (.Name p.1 np) (e :: es) [] pos) f.env) Q E s := by
  obtain ⟨a, ha, Fa⟩ := G.fn p hp
  obtain ⟨o, pm, doc, c, ho, hdt, _⟩ := id Fa
  exact Call_ ((Lv.glob (c := f.cx) (by rw [show f.cx.env.globals = mainGlobals from hg]; exact G.g) ha hk hx hd : Lv f.cx s.heap p.1 (.ref a)) s _ _ _ (Ext.refl _) (callWith_def hdt (hs _ s _ _ (Ext.refl _) fun vs h1 k1 e1 r1 => ⟨e1 _ _ ho, hc a vs h1 k1 e1 (Fa.ext' e1) r1⟩) he))
end

noncomputable def maskPs : List Str := [Str.ofString "mask", Str.ofString "want", Str.ofString "bits", Str.ofString "most"]
theorem maskBind : ∀ vs : List Value, vs.length = 4 → ∀ pm doc c, bindArgs (Calls.docDef pMask.1 (fdAt pMask.2).1 (fdAt pMask.2).2.1 (fdAt pMask.2).2.2 pm (.ref c) doc) ⟨vs, []⟩ = pure (maskPs.zip vs) := by
  intro vs hv pm doc c
  obtain ⟨v1, v2, v3, v4, rfl⟩ := len4 hv
  rfl
theorem maskKind : ∀ (L : Nat), ∀ x ∈ maskPs, (fdAt pMask.2).2.2.names.lookup x = some .local ∨ ((fdAt pMask.2).2.2.names.lookup x = some .cell ∧ ((cellsFrom (L + 1) (fdAt pMask.2).2.2.names []).lookup x).isSome = true) := by
  intro L x hx
  simp only [maskPs, List.mem_cons, List.not_mem_nil, or_false] at hx
  rcases hx with rfl | rfl | rfl | rfl <;> exact .inl rfl
theorem mask_ok {mg mb : Str → Option Value} (mask want bits most : Nat) (hbits : bits < 7) (hmask : mask < 1000) (hwant : want < 1000) (hmost : most ≤ 100) (hl : (dueL bits mask want).length ≤ most) :
    FnOk mg mb pMask 1 [.int mask, .int want, .int bits, .int most] (.lst (enc (dueL bits mask want))) := by
  refine FnOk.of maskPs maskBind maskKind ?_
  intro w A X₀ pm doc c L a h₀ h1 rm G S
  rw [show (fdAt pMask.2).2.1 = maskPre ++ maskEnd from maskBody]
  refine Exs.split (mask_pre mask want bits most hbits hmask hwant hmost rm G S) (fun h' hx => ?_) fun fl h' hn hx => ?_
  · rcases hx with ⟨_, hlt, _⟩ | ⟨v, hv, _⟩
    · lia
    · cases hv
  · rcases hx with ⟨hv, _⟩ | ⟨v, hv, _, r⟩
    · exact absurd hv hn
    · exact ⟨v, hv, r⟩

noncomputable def msgS (most : Nat) : Str := (Str.ofString "a mask of more than " ++ Str.ofString (toString (most : Int))) ++ Str.ofString " spans"
theorem numLen_all : allN 101 (fun m => Nat.ble (Str.ofString (toString (m : Int))).length 10) = true := by decide +kernel
theorem numLen {m : Nat} (h : m ≤ 100) : (Str.ofString (toString (m : Int))).length ≤ 10 := Nat.le_of_ble_eq_true (allN_of numLen_all m (by (first | exact Nat.lt_succ_of_le h | lia)))
theorem strLen_append (a b : Str) : (a ++ b).length = a.length + b.length := by
  show (a.cps ++ b.cps).size = a.cps.size + b.cps.size
  exact Array.size_append
theorem Ev.msg {f : Fx} {ρ : Str → Option D} {own : Own} {h : Heap} {mg mb : Str → Option Value} {most : Nat} {p1 p2 p3 p4 p5 p6 p7 : Pos} {k1 k2 : Nat} (S : St f ρ own h) (G : Gl mg mb h) (hm : ρ (Str.ofString "most") = some (.int most)) (hmost : most ≤ 100)
    (hk : f.env.scope.kind = .function := by rfl) (hx : f.env.kindOf (Str.ofString "str") = some .globalImplicit := by rfl) (hg : f.env.globals = mainGlobals := by rfl) (hb : f.env.builtins = builtinsNs := by rfl)
    (he : starEach (Expr.Name (Str.ofString "most") p4 :: []) f.env = (false, eval (Expr.Name (Str.ofString "most") p4) f.env) :: starEach [] f.env := by rfl) (hp : ∀ p, (backTo p (starEach [] f.env)).any (·.1) = false := by intro _; rfl) :
    Ev f.cx h (.BinOp (.BinOp (.Constant (.str (Str.ofString "a mask of more than ")) k1 p1) .Add (.Call (.Name (Str.ofString "str") p2) [.Name (Str.ofString "most") p4] [] p3) p5) .Add (.Constant (.str (Str.ofString " spans")) k2 p6) p7) (.str (msgS most)) := by
  have hl := numLen hmost
  have hlog : ((most : Int)).natAbs.log2 < 1920 := by
    rw [Int.natAbs_natCast]
    exact Nat.lt_of_le_of_lt (Nat.log2_le_self _) (by lia)
  have l1 : (Str.ofString "a mask of more than ").length = 20 := by decide +kernel
  have l2 : (Str.ofString " spans").length = 6 := by decide +kernel
  refine Ev.catS (Ev.catS Ev.str (Ev.callT (c := f.cx) (G.built (c := f.cx) (Str.ofString "str") (v := .type "str") (by simp [bltns]) hk hx hg hb (by rfl)) (Sp.cons (S.nm hm hk) Sp.nil he) (Cl.str hlog) he hp) (by rw [l1, sizeLine_eq]; lia)) Ev.str ?_
  rw [strLen_append, l1, l2, sizeLine_eq]
  lia

theorem mask_raises {mg mb : Str → Option Value} {K : Frag} (mask want bits most : Nat) (hbits : bits < 7) (hmask : mask < 1000) (hwant : want < 1000) (hmost : most ≤ 100) (hl : most < (dueL bits mask want).length)
    {w : World} {A : Around} {E : Value → Shared → Prop} {Q : Value → Shared → Prop} {s : Shared} {X₀ : Addr → Prop} {a : Addr} {vs : List Value} {base : Heap} {outer : List Env}
    (Z : Bz mg mb K base) (B : Below A base outer s.heap) (rm : Rm 2 A) (F : FnP s.heap a pMask) (hX : Bd X₀ s.heap) (r : RS X₀ s.heap vs [.int mask, .int want, .int bits, .int most])
    (hE : ∀ e h' tk, Fly base s.heap outer e (msgS most) .none h' → s.heap.UpToSlots h' → E (.ref e) { s with heap := h', toks := tk }) : wpAny (model PW w) A (call (.ref a) vs) Q E s := by
  have G0 := Z.G.ext B.stays
  refine callGen F G0 (by have := rm.dp; (first | exact Nat.lt_of_add_right_lt this | lia)) hX r maskPs maskBind maskKind fun pm doc c h1 t1 e1 S => ?_
  have rm1 : Rm 1 (fx w A pMask pm doc c s.heap.objs.size a s.heap X₀).A := rm.deeper
  have body : (fdAt pMask.2).2.1 = maskPre ++ maskEnd := maskBody
  rw [body]
  refine execs_split (mask_pre mask want bits most hbits hmask hwant hmost (rm1.le (by decide)) G0 S) rfl (fun h2 tk2 kp hx => ?_) fun fl h2 tk2 hn kp hx => ?_
  · rcases hx with ⟨_, hlt, gg, ρ, own, S2, hm⟩ | ⟨v, hv, _⟩
    · have ext2 : Ext s.heap h2 := S2.keep
      have G2 := G0.ext ext2
      have hb2 : Ext base h2 := fun b o ho => ext2 _ _ (B.stays _ _ ho)
      refine wpAny_execs_cons ?_
      refine raise_left (c := ((fx w A pMask pm doc c s.heap.objs.size a s.heap X₀).more gg).cx) (s := { s with heap := h2, toks := tk2 }) Z hb2 rfl rm1.hh (by have := rm1.dp; exact this) (Ev.msg S2 G2 hm hmost) (fun e h3 tk3 e3 hen Ca => ?_) rfl rfl rfl rfl rfl
      have ext3 : Ext s.heap h3 := ext2.trans e3
      have hbe : base.get? e = none := by
        cases hq : base.get? e with
        | none => rfl
        | some o => have := hb2 _ _ hq; rw [show h2.get? e = none from hen] at this; cases this
      obtain ⟨m2, cm2, Sm2⟩ := S2
      have B3 := below_push (env := (fx w A pMask pm doc c s.heap.objs.size a s.heap X₀).env) (L := s.heap.objs.size) B (by intro x; cases x) rfl (Heap.get?_none_of_le (Nat.le_refl _)) ⟨m2, Sm2.ns.keeps e3⟩ ext3
      have Ca' : Carries s.heap h3 e (msgS most) := by
        obtain ⟨mA, t, oe, t1, dx, I, hw, he, hd, hdc, hdn⟩ := Ca
        refine ⟨mA, t, oe, t1, dx, I, hw, he, hd, hdc, ?_⟩
        cases hq : s.heap.get? dx with
        | none => rfl
        | some o => have := ext2 _ _ hq; rw [show h2.get? dx = none from hdn] at this; cases this
      refine leaving1 (s := { s with heap := h3, toks := tk3 }) B3.stack B3.frames rfl B3.stays hbe Ca' fun h4 F4 u4 => ?_
      exact hE e h4 tk3 F4 ((Heap.UpToSlots.of_keeps ext3).trans u4)
    · cases hv
  · rcases hx with ⟨hv, _⟩ | ⟨v, hv, hle, _⟩
    · exact absurd hv hn
    · lia
end Mine
end

section
open PySem PyProof.Rows
open PySem.W (Looks Frag findIn)
namespace Mine
set_option autoImplicit false
set_option linter.unusedVariables false
set_option maxRecDepth 100000

noncomputable def BdN (X : Addr → Prop) (h : Heap) : Prop := ∀ b, X b → ∃ o, h.get? b = some o ∧ ∀ vs, o.data ≠ .fields vs
theorem BdN.bd {X : Addr → Prop} {h : Heap} (b : BdN X h) : Bd X h := fun a x => let ⟨o, ho, _⟩ := b a x; ⟨o, ho⟩
theorem BdN.up {X : Addr → Prop} {h h' : Heap} (b : BdN X h) (u : h.UpToSlots h') : BdN X h' := fun a x => let ⟨o, ho, hd⟩ := b a x; let ⟨sl, e⟩ := u a o ho hd; ⟨_, e, hd⟩

/-- a contract that lets the frames' records be touched -/
noncomputable def FnW (mg mb : Str → Option Value) (K : Frag) (p : Str × Nat) (k : Nat) (ds : List D) (d : D) : Prop :=
  ∀ (w : World) (A : Around) (X₀ : Addr → Prop) (a : Addr) (vs : List Value) (s : Shared) (Q : Value → Shared → Prop) (E : Value → Shared → Prop) (base : Heap) (outer : List Env),
    Rm k A → Bz mg mb K base → Below A base outer s.heap → FnP s.heap a p → BdN X₀ s.heap → RS X₀ s.heap vs ds →
    (∀ v h' tk, base.StaysIn h' → s.heap.UpToSlots h' → R X₀ h' v d → Q v { s with heap := h', toks := tk }) → wpAny (model PW w) A (call (.ref a) vs) Q E s
theorem FnOk.toW {mg mb : Str → Option Value} {K : Frag} {p : Str × Nat} {k : Nat} {ds : List D} {d : D} (F : FnOk mg mb p k ds d) : FnW mg mb K p k ds d :=
  fun w A X₀ a vs s Q E base outer rm Z B Fa hX r q => F w A X₀ a vs s Q E rm (Z.G.ext B.stays) Fa hX.bd r fun v h' tk e rv => q v h' tk (fun b o ho => e _ _ (B.stays _ _ ho)) (Heap.UpToSlots.of_keeps e) rv

noncomputable def pMasked : Str × Nat := (Str.ofString "_law_masked", 16)
theorem maskedBind : ∀ vs : List Value, vs.length = 4 → ∀ pm doc c, bindArgs (Calls.docDef pMasked.1 (fdAt pMasked.2).1 (fdAt pMasked.2).2.1 (fdAt pMasked.2).2.2 pm (.ref c) doc) ⟨vs, []⟩ = pure (maskPs.zip vs) := by
  intro vs hv pm doc c
  obtain ⟨v1, v2, v3, v4, rfl⟩ := len4 hv
  rfl
theorem maskedKind : ∀ (L : Nat), ∀ x ∈ maskPs, (fdAt pMasked.2).2.2.names.lookup x = some .local ∨ ((fdAt pMasked.2).2.2.names.lookup x = some .cell ∧ ((cellsFrom (L + 1) (fdAt pMasked.2).2.2.names []).lookup x).isSome = true) := by
  intro L x hx
  simp only [maskPs, List.mem_cons, List.not_mem_nil, or_false] at hx
  rcases hx with rfl | rfl | rfl | rfl <;> exact .inl rfl
theorem Exs.tryOk {f : Fx} {h : Heap} {Φ : Flow → Heap → Prop} {body orelse l : List Stmt} {h₀ : ExceptHandler} {hs : List ExceptHandler} {pos : Pos} (b : Exs f h body Φ) (hr : ∀ fl h', Φ fl h' → fl ≠ .next) : Exs f h (.Try body (h₀ :: hs) orelse [] pos :: l) Φ := fun s Q E e q => by
  refine wpAny_execs_cons (wpAny_Try_except (b s _ _ e fun fl h' tk k p => ?_))
  have n := hr fl h' p
  cases fl with
  | next => exact absurd rfl n
  | brk => exact q _ h' tk k p
  | cont => exact q _ h' tk k p
  | ret v => exact q _ h' tk k p
theorem masked_ok {mg mb : Str → Option Value} (mask want bits most : Nat) (hbits : bits < 7) (hmask : mask < 1000) (hwant : want < 1000) (hmost : most ≤ 100) (hl : (dueL bits mask want).length ≤ most) :
    FnOk mg mb pMasked 2 [.int mask, .int want, .int bits, .int most] (.tup [.lst (enc (dueL bits mask want)), .str (Str.ofString "")]) := by
  refine FnOk.of maskPs maskedBind maskedKind ?_
  intro w A X₀ pm doc c L a h₀ h1 rm G S
  refine Exs.tryOk (Exs.ret (Ev.tuple (ds := [.lst (enc (dueL bits mask want)), .str (Str.ofString "")]) S.bd (Sp.cons (Ev.callFn (p := pMask) (by simp [fnames, pMask]) (mask_ok mask want bits most hbits hmask hwant hmost hl) rm (G.ext S.keep) S.bd (Sp.cons (S.nm rfl) (Sp.cons (S.nm rfl) (Sp.cons (S.nm rfl) (Sp.cons (S.nm rfl) Sp.nil))))) (Sp.cons Ev.str Sp.nil)))
      fun v h' e r => ⟨v, rfl, retX r⟩) ?_
  rintro fl h' ⟨v, rfl, -⟩ x
  cases x

theorem inst_but {h h' : Heap} {e C L dx : Addr} {m : Str → Option Value} {oe : Obj} (I : h.Inst e C m) (he : h.get? e = some oe) (hdc : oe.dict = some dx) (hL : L ≠ e) (hLd : L ≠ dx) (k : ∀ b o, b ≠ L → h.get? b = some o → h'.get? b = some o) : h'.Inst e C m := by
  obtain ⟨o, ho, hcl, hn, hd⟩ := I
  rw [he] at ho; cases ho
  refine ⟨oe, k _ _ (Ne.symm hL) he, hcl, hn, ?_⟩
  rcases hd with ⟨a, b⟩ | ⟨dx', a, b, c⟩
  · rw [hdc] at a; cases a
  · rw [hdc] at a; cases a
    exact .inr ⟨dx, hdc, b, c.at fun o ho => k _ _ (Ne.symm hLd) ho⟩

theorem masked_W {mg mb : Str → Option Value} {K : Frag} (mask want bits most : Nat) (hbits : bits < 7) (hmask : mask < 1000) (hwant : want < 1000) (hmost : most ≤ 100) (hl : most < (dueL bits mask want).length) :
    FnW mg mb K pMasked 4 [.int mask, .int want, .int bits, .int most] (.tup [.lst [], .str (msgS most)]) := by
  intro w A X₀ a vs s Q E base outer rm Z B F hX r q
  refine callGen F (Z.G.ext B.stays) (by have := rm.dp; (first | exact Nat.lt_of_add_right_lt this | lia)) hX.bd r maskPs maskedBind maskedKind fun pm doc c h1 t1 e1 S => ?_
  have rm1 : Rm 3 (fx w A pMasked pm doc c s.heap.objs.size a s.heap X₀).A := rm.deeper
  have hLn : s.heap.get? s.heap.objs.size = none := Heap.get?_none_of_le (Nat.le_refl _)
  obtain ⟨m1, cm1, Sm1⟩ := id S
  have hb1 : Ext base h1 := fun b o ho => e1 _ _ (B.stays _ _ ho)
  have hLs : h1.get? s.heap.objs.size ≠ none := by
    obtain ⟨o, ho⟩ := ns_get Sm1.ns
    intro hx
    rw [show h1.get? s.heap.objs.size = some o from ho] at hx; cases hx
  refine wpAny_execs_cons (wpAny_Try_except (wpAny_execs_cons (wpAny_Return_some (wpAny_Tuple_spliced (args_cons (call_expr (f := fx w A pMasked pm doc c s.heap.objs.size a s.heap X₀) (p := pMask) (by simp [fnames, pMask]) (Z.G.ext hb1)
    (Sp.cons (S.nm rfl) (Sp.cons (S.nm rfl) (Sp.cons (S.nm rfl) (Sp.cons (S.nm rfl) Sp.nil)))) fun am vsm h2 tk2 e2 Fm r2 => ?_) rfl)))))
  have hb2 : Ext base h2 := hb1.trans e2
  have ext2 : Ext s.heap h2 := Ext.trans (fun b o ho => e1 _ _ ho) e2
  have B2 := below_push (env := (fx w A pMasked pm doc c s.heap.objs.size a s.heap X₀).env) (L := s.heap.objs.size) B (by intro x; cases x) rfl hLn ⟨m1, Sm1.ns.keeps e2⟩ ext2
  refine mask_raises mask want bits most hbits hmask hwant hmost hl (s := { s with heap := h2, toks := tk2 }) Z B2 (rm1.le (by decide)) Fm (S.bd.ext e2) r2 fun e h3 tk3 F3 u3 => ?_
  refine note2 (s := { s with heap := h3, toks := tk3 }) (Around.frames_deeper B.stack) rfl F3 fun h4 F4 u4 => ?_
  refine flight0 (s := { s with heap := h4, toks := tk3 }) F4 fun h5 F5 u5 => ?_
  have u25 : h2.UpToSlots h5 := (u3.trans u4).trans u5
  obtain ⟨hb5, hen, -, mA, tw, oe, vsE, T, oT, ts, dx, hdc, hdn, I5, hw, he5, -⟩ := id F5
  obtain ⟨nm, q', N, bs, sn, sub, ab, col, dd, k0, k1', k2, k3, k5, hc44⟩ := Z.F.c44
  have hC := Z.X _ _ hc44
  have hcl : oe.cls = .ref 44 := by
    obtain ⟨o, ho, hcl, _⟩ := id I5
    rw [he5] at ho; cases ho; exact hcl
  refine wpAny_handleBy_cons (codeAny_handlers_test ?_) (by intro q; cases q)
  refine (Lv.glob (c := ⟨PW, w, (fx w A pMasked pm doc c s.heap.objs.size a s.heap X₀).A.mark (some (.ref e)), (fx w A pMasked pm doc c s.heap.objs.size a s.heap X₀).env, fun _ => False⟩) (n := Str.ofString "LeftOut") (v := .ref 44) (mg := mg) (h := base) Z.G.g Z.L rfl rfl (by rfl)) { s with heap := h5, toks := tk3 } _ _ _ hb5 ?_
  refine wpAny_excMatches_sub_self (hb5 _ _ hC) he5 hcl (by decide) (codeAny_handlers_suite_as ?_)
  refine flight0 (s := { s with heap := h5, toks := tk3 }) F5 fun h6 F6 u6 => ?_
  have u26 : h2.UpToSlots h6 := u25.trans u6
  have ns6 := u26.ns (Sm1.ns.keeps e2)
  obtain ⟨hb6, -, -, mA6, tw6, oe6, vsE6, T6, oT6, ts6, dx6, hdc6, hdn6, I6, hw6, he6, hd6, -⟩ := id F6
  refine wpAny_storeName_local (s := { s with heap := h6, toks := tk3 }) rfl ns6 (fun h7 hn7 hs7 => ?_) rfl
  obtain ⟨Lo, hLo⟩ : ∃ Lo, Lo = s.heap.objs.size := ⟨_, rfl⟩
  have hn7 : h7.Ns Lo (fun x => if x = Str.ofString "fault" then some (.ref e) else _) := hLo ▸ hn7
  have hs7 : Heap.SameBut Lo h6 h7 := hLo ▸ hs7
  have hL : Lo ≠ e := by
    rintro rfl
    obtain ⟨o, es, ep, ho, hd, _⟩ := ns6
    have ho' : h6.get? Lo = some o := hLo ▸ ho
    rw [he6] at ho'; cases ho'
    rw [hd6] at hd; cases hd
  have hLd : Lo ≠ dx6 := by
    rintro rfl
    obtain ⟨o, ho⟩ := ns_get (Sm1.ns.keeps e2)
    have ho' : h2.get? Lo = some o := hLo ▸ ho
    rw [show h2.get? Lo = none from hdn6] at ho'; cases ho'
  have kk7 : ∀ b o, b ≠ Lo → h6.get? b = some o → h7.get? b = some o := fun b o hb ho => hs7.extBut b o hb ho
  have I7 := inst_but I6 he6 hdc6 hL hLd kk7
  have he7 := kk7 _ _ (Ne.symm hL) he6
  have hbL : base.get? Lo = none := by
    cases hq : base.get? Lo with
    | none => rfl
    | some o => have := B.stays _ _ hq; rw [hLo, hLn] at this; cases this
  have hb7 : Ext base h7 := fun b o ho => kk7 _ _ (by rintro rfl; rw [hbL] at ho; cases ho) (hb6 _ _ ho)
  have u07 : s.heap.UpToSlots h7 := fun b o ho hd => by
    obtain ⟨sl, e6⟩ := u26 b o (ext2 _ _ ho) hd
    exact ⟨sl, kk7 _ _ (by rintro rfl; rw [hLo, hLn] at ho; cases ho) e6⟩
  refine wpAny_execs_cons (wpAny_Return_some (wpAny_Tuple_spliced (args_cons (wpAny_List_spliced (args_nil ⟨by rw [sizeLine_eq]; decide, ?_⟩)) rfl)))
  refine args_cons (Attribute_name (wpAny_Name (wpAny_loadName_local (m := fun x => if x = Str.ofString "fault" then some (.ref e) else _) rfl rfl ((show h7.Ns (fx w A pMasked pm doc c s.heap.objs.size a s.heap X₀).env.locals _ from hLo ▸ hn7).keeps fun b o ho => Heap.get?_push_of_some _ ho) rfl ?_) rfl)) rfl
  have kk8 : ∀ b o, h7.get? b = some o → (h7.push { cls := .type "list", data := .seq ([] : List Value).toArray }).get? b = some o := fun b o ho => Heap.get?_push_of_some _ ho
  have X8 : K.In (h7.push { cls := .type "list", data := .seq ([] : List Value).toArray }) := fun a o hl => kk8 _ _ (hb7 _ _ (Z.X a o hl))
  have I8 := inst_but I7 he7 hdc6 hL hLd (fun b o _ ho => kk8 b o ho)
  refine load2 (by decide) (kk8 _ _ (hb7 _ _ hC)) (PySem.W.looks_findIn X8 Z.F.why) (PySem.W.looks_findIn X8 Z.F.ga) (PySem.W.looks_findIn X8 Z.F.gt) I8 hw6 rfl (args_nil ⟨by rw [sizeLine_eq]; simp, ?_⟩)
  have kk9 : ∀ b o, h7.get? b = some o → ((h7.push { cls := .type "list", data := .seq ([] : List Value).toArray }).push { cls := .type "tuple", data := .seq [.ref h7.objs.size, .str (msgS most) tw6].toArray }).get? b = some o := fun b o ho => Heap.get?_push_of_some _ (kk8 b o ho)
  have ns9 : ((h7.push { cls := .type "list", data := .seq ([] : List Value).toArray }).push { cls := .type "tuple", data := .seq [.ref h7.objs.size, .str (msgS most) tw6].toArray }).Ns (fx w A pMasked pm doc c s.heap.objs.size a s.heap X₀).env.locals _ := (show h7.Ns (fx w A pMasked pm doc c s.heap.objs.size a s.heap X₀).env.locals _ from hLo ▸ hn7).keeps kk9
  refine wpAny_nameGoes rfl ns9 rfl fun h10 m10 hn10 hs10 => ?_
  have hs10 : Heap.SameBut Lo _ h10 := hLo ▸ hs10
  have hL7 : Lo < h7.objs.size := hn7.lt
  have kk10 : ∀ b o, b ≠ Lo → ((h7.push { cls := .type "list", data := .seq ([] : List Value).toArray }).push { cls := .type "tuple", data := .seq [.ref h7.objs.size, .str (msgS most) tw6].toArray }).get? b = some o → h10.get? b = some o := fun b o hb ho => hs10.extBut b o hb ho
  have bn : BdN X₀ h7 := hX.up u07
  have sz1 : (h7.push { cls := .type "list", data := .seq ([] : List Value).toArray }).objs.size = h7.objs.size + 1 := size_push' _ _
  have gl := kk10 h7.objs.size _ (Nat.ne_of_gt hL7) (Heap.get?_push_of_some _ (Heap.get?_push_size h7 rfl))
  have gt := kk10 (h7.objs.size + 1) _ (Nat.ne_of_gt (Nat.lt_succ_of_lt hL7)) (by have := Heap.get?_push_size (h7.push { cls := .type "list", data := .seq ([] : List Value).toArray }) (o := { cls := .type "tuple", data := .seq [.ref h7.objs.size, .str (msgS most) tw6].toArray }) rfl; rw [sz1] at this; exact this)
  have fr : ∀ n, h7.objs.size ≤ n → ¬ X₀ n := fun n hn hx => by
    obtain ⟨o, ho, _⟩ := bn n hx
    exact absurd (Heap.lt_size ho) (Nat.not_lt_of_le hn)
  have res : R X₀ h10 (.ref (h7.objs.size + 1)) (.tup [.lst [], .str (msgS most)]) := .tup (fr _ (Nat.le_succ _)) ⟨_, gt, rfl, _, rfl⟩ (.cons (.lst (fr _ (Nat.le_refl _)) ⟨_, gl, rfl, _, rfl⟩ .nil) (.cons (.str _ _) .nil))
  have fin := fun tk => q (.ref (h7.objs.size + 1)) h10 tk (fun b o ho => kk10 _ _ (by rintro rfl; rw [hbL] at ho; cases ho) (kk9 _ _ (hb7 _ _ ho))) (fun b o ho hd => by
    obtain ⟨sl, e7⟩ := u07 b o ho hd
    exact ⟨sl, kk10 _ _ (by rintro rfl; rw [hLo, hLn] at ho; cases ho) (kk9 _ _ e7)⟩) res
  rw [sz1]
  exact fin _
end Mine
end

section
open PySem PyProof.Rows
open PySem.W (Looks Frag findIn)
namespace Mine
set_option autoImplicit false
set_option linter.unusedVariables false
set_option maxRecDepth 100000

theorem enc_lay : ∀ l : Spans, PyData.canLayAll0 (toPs (enc l)) = true ∧ PyData.depthAll (toPs (enc l)) ≤ 1
  | [] => ⟨rfl, Nat.zero_le _⟩
  | p :: l => by
    obtain ⟨h1, h2⟩ := enc_lay l
    refine ⟨?_, ?_⟩
    · show (PyData.canLay0 (toP (.tup [.int p.1, .int p.2])) && PyData.canLayAll0 (toPs (enc l))) = true
      rw [h1]; rfl
    · show max (PyData.depth (toP (.tup [.int p.1, .int p.2]))) (PyData.depthAll (toPs (enc l))) ≤ 1
      have : PyData.depth (toP (.tup [.int p.1, .int p.2])) = 1 := rfl
      lia
theorem bools_lay : ∀ l : List Bool, PyData.canLayAll0 (toPs (l.map D.bool)) = true ∧ PyData.depthAll (toPs (l.map D.bool)) = 0
  | [] => ⟨rfl, rfl⟩
  | b :: l => by
    obtain ⟨h1, h2⟩ := bools_lay l
    refine ⟨?_, ?_⟩
    · show (PyData.canLay0 (.bool b) && PyData.canLayAll0 (toPs (l.map D.bool))) = true
      rw [h1]; rfl
    · show max (PyData.depth (.bool b)) (PyData.depthAll (toPs (l.map D.bool))) = 0
      rw [h2]; rfl
theorem lay_enc (l : Spans) : (toP (.lst (enc l))).canLay0 = true ∧ (toP (.lst (enc l))).depth ≤ 64 := by
  obtain ⟨h1, h2⟩ := enc_lay l
  refine ⟨h1, ?_⟩
  show PyData.depthAll (toPs (enc l)) + 1 ≤ 64
  lia
theorem lay_bools (l : List Bool) : (toP (.lst (l.map D.bool))).canLay0 = true ∧ (toP (.lst (l.map D.bool))).depth ≤ 64 := by
  obtain ⟨h1, h2⟩ := bools_lay l
  refine ⟨h1, ?_⟩
  show PyData.depthAll (toPs (l.map D.bool)) + 1 ≤ 64
  lia
theorem lay_pair (l : Spans) {x : Str} (hx : PyData.strOk x = true) : (toP (.tup [.lst (enc l), .str x])).canLay0 = true ∧ (toP (.tup [.lst (enc l), .str x])).depth ≤ 64 := by
  obtain ⟨h1, h2⟩ := lay_enc l
  obtain ⟨h3, h4⟩ := enc_lay l
  refine ⟨?_, ?_⟩
  · show ((toP (.lst (enc l))).canLay0 && (PyData.strOk x && true)) = true
    rw [h1, hx]; rfl
  · show max (PyData.depthAll (toPs (enc l)) + 1) (max 0 0) + 1 ≤ 64
    grind
theorem strOk_app {a b : Str} (ha : PyData.strOk a = true) (hb : PyData.strOk b = true) : PyData.strOk (a ++ b) = true := by
  show (a.cps ++ b.cps).all _ = true
  rw [Array.all_append, Bool.and_eq_true]
  exact ⟨ha, hb⟩
theorem numOk_all : allN 101 (fun m => PyData.strOk (Str.ofString (toString (m : Int)))) = true := by decide +kernel
theorem msgOk {m : Nat} (h : m ≤ 100) : PyData.strOk (msgS m) = true :=
  strOk_app (strOk_app (by decide +kernel) (allN_of numOk_all m (Nat.lt_succ_of_le h))) (by decide +kernel)
theorem emptyOk : PyData.strOk (Str.ofString "") = true := by decide +kernel

mutual
theorem R.up {X : Addr → Prop} {h h' : Heap} (u : h.UpToSlots h') : ∀ {v : Value} {d : D}, R X h v d → R X h' v d
  | _, _, .none => .none
  | _, _, .bool b => .bool b
  | _, _, .int i t => .int i t
  | _, _, .str x t => .str x t
  | _, _, .tup hx ⟨o, ho, hc, n, hd⟩ r => let ⟨sl, e⟩ := u _ o ho (fun vs q => by rw [hd] at q; cases q); .tup hx ⟨_, e, hc, n, hd⟩ (RS.up u r)
  | _, _, .lst hx ⟨o, ho, hc, n, hd⟩ r => let ⟨sl, e⟩ := u _ o ho (fun vs q => by rw [hd] at q; cases q); .lst hx ⟨_, e, hc, n, hd⟩ (RS.up u r)
theorem RS.up {X : Addr → Prop} {h h' : Heap} (u : h.UpToSlots h') : ∀ {vs : List Value} {ds : List D}, RS X h vs ds → RS X h' vs ds
  | _, _, .nil => .nil
  | _, _, .cons a r => .cons (R.up u a) (RS.up u r)
end

noncomputable def Fx.weak (f : Fx) : Fx := { f with h₀ := noHeap }
theorem cell_up {h h' : Heap} {a : Addr} {v : Option Value} (c : h.IsCell a v) (u : h.UpToSlots h') : h'.IsCell a v := by
  obtain ⟨o, ho, hd⟩ := c
  obtain ⟨sl, e⟩ := u a o ho fun vs q => by rw [hd] at q; cases q
  exact ⟨_, e, hd⟩
/-- the frame after a weak step -/
theorem St.weak {f : Fx} {ρ : Str → Option D} {h h' : Heap} (S : St f ρ none h) (u : h.UpToSlots h') (b : BdN f.X h) : St f.weak ρ none h' := by
  obtain ⟨m, cm, S⟩ := S
  refine ⟨m, cm, u.ns S.ns, (fun b o e => by rw [show f.weak.h₀ = noHeap from rfl, empty_get] at e; cases e), fun n a hc => cell_up (S.cell n a hc) u, S.apart, S.Lc, S.YL, fun b _ => empty_get b, (b.up u).bd, S.dj, fun x d hx => ?_, trivial⟩
  rcases S.vw x d hx with ⟨k, v, hv, r⟩ | ⟨k, a, v, ha, hv, r⟩
  · exact .inl ⟨k, v, hv, r.up u⟩
  · exact .inr ⟨k, a, v, ha, hv, r.up u⟩
/-- the frame of a def, no list of its own: what it may turn has no fields -/
theorem St.bdN {w : World} {A : Around} {p : Str × Nat} {pm doc : Value} {c L a : Addr} {h₀ h : Heap} {X₀ : Addr → Prop} {ρ : Str → Option D} {own : Own} (S : St (fx w A p pm doc c L a h₀ X₀) ρ own h) (b : BdN X₀ h) : BdN (fx w A p pm doc c L a h₀ X₀).X h := by
  obtain ⟨m, cm, S⟩ := S
  rintro x (hx | rfl | ⟨n, hx⟩)
  · exact b x hx
  · obtain ⟨o, es, ep, ho, hd, _⟩ := S.ns
    exact ⟨o, ho, fun vs q => by rw [hd] at q; cases q⟩
  · obtain ⟨o, ho, hd⟩ := S.cell n x hx
    exact ⟨o, ho, fun vs q => by rw [hd] at q; cases q⟩
end Mine
end

section
open PySem PyProof.Rows
open PySem.W (Looks Frag findIn)
namespace Mine
set_option autoImplicit false
set_option linter.unusedVariables false
set_option maxRecDepth 100000

theorem runs_len (bs : List Bool) : (runs bs).length ≤ bs.length := by
  unfold runs lowsN
  rw [List.length_zipWith]
  have h := List.length_filter_le (fun i => edge bs (i + 1) && !edge bs i) (List.range bs.length)
  rw [List.length_range] at h
  exact Nat.le_trans (Nat.min_le_left _ _) h
theorem pow_le {B : Nat} (h : B < 7) : 2 ^ B ≤ 64 := by
  have : 2 ^ B ≤ 2 ^ 6 := Nat.pow_le_pow_right (by (first | exact Nat.zero_lt_two | lia)) (by (first | exact Nat.le_of_lt_succ h | lia))
  omega
theorem dueT_len (B M W : Nat) : (dueT B M W).length = 2 ^ B := by unfold dueT tab; simp
theorem dueL_len {B M W : Nat} (h : B < 7) : (dueL B M W).length ≤ 64 := by
  rw [← due_ok h]
  have := runs_len (dueT B M W)
  rw [dueT_len] at this
  have := pow_le h
  lia

noncomputable def pMaskLaw : Str × Nat := (Str.ofString "_law_mask", 17)
noncomputable def mlPs : List Str := [Str.ofString "script", Str.ofString "first", Str.ofString "mask", Str.ofString "want", Str.ofString "bits"]
theorem mlBind : ∀ vs : List Value, vs.length = 5 → ∀ pm doc c, bindArgs (Calls.docDef pMaskLaw.1 (fdAt pMaskLaw.2).1 (fdAt pMaskLaw.2).2.1 (fdAt pMaskLaw.2).2.2 pm (.ref c) doc) ⟨vs, []⟩ = pure (mlPs.zip vs) := by
  intro vs hv pm doc c
  obtain ⟨v1, v2, v3, v4, v5, rfl⟩ := len5 hv
  rfl
theorem mlKind : ∀ (L : Nat), ∀ x ∈ mlPs, (fdAt pMaskLaw.2).2.2.names.lookup x = some .local ∨ ((fdAt pMaskLaw.2).2.2.names.lookup x = some .cell ∧ ((cellsFrom (L + 1) (fdAt pMaskLaw.2).2.2.names []).lookup x).isSome = true) := by
  intro L x hx
  simp only [mlPs, List.mem_cons, List.not_mem_nil, or_false] at hx
  rcases hx with rfl | rfl | rfl | rfl | rfl
  · exact .inl rfl
  · exact .inl rfl
  · exact .inr ⟨rfl, rfl⟩
  · exact .inr ⟨rfl, rfl⟩
  · exact .inl rfl
noncomputable def mlPre : List Stmt := (fdAt 17).2.1.take 8
noncomputable def mlEnd : List Stmt := (fdAt 17).2.1.drop 8
theorem mlBody : (fdAt 17).2.1 = mlPre ++ mlEnd := (List.take_append_drop 8 _).symm
/-- what stands before the last line -/
noncomputable def MlAt (f : Fx) (h : Heap) : Prop := ∃ (ρ : Str → Option D) (B M W most : Nat) (due : Spans) (why : Str), St f ρ none h ∧ ρ (Str.ofString "mask") = some (.int M) ∧ ρ (Str.ofString "want") = some (.int W) ∧ ρ (Str.ofString "bits") = some (.int B) ∧ ρ (Str.ofString "most") = some (.int most) ∧
  ρ (Str.ofString "due") = some (.lst (enc due)) ∧ ρ (Str.ofString "why") = some (.str why) ∧ B < 7 ∧ M < 1000 ∧ W < 1000 ∧ most ≤ 100 ∧
  (((dueL B M W).length ≤ most ∧ due = dueL B M W ∧ why = Str.ofString "") ∨ (most < (dueL B M W).length ∧ due = [] ∧ why = msgS most))
theorem fmod_nat {x : Int} {k : Nat} (hk : 0 < k) : ∃ B : Nat, x.fmod k = B ∧ B < k := by
  have h1 := Int.fmod_nonneg_of_pos x (b := (k : Int)) (by (first | exact Int.natCast_pos.mpr hk | lia))
  have h2 := Int.fmod_lt_of_pos x (b := (k : Int)) (by (first | exact Int.natCast_pos.mpr hk | lia))
  exact ⟨(x.fmod k).toNat, by (first | exact Int.eq_natCast_toNat.mpr h1 | lia), by (first | exact (Int.toNat_lt h1).mpr h2 | lia)⟩

theorem ml_pre {mg mb : Str → Option Value} (ns : List Int) (first : Nat) (mask want bits : Int) (hl : ns.length ≤ 1000) (hf : first ≤ 100)
    {w : World} {A : Around} {X₀ : Addr → Prop} {pm doc : Value} {c L a : Addr} {h₀ h1 : Heap} (rm : Rm 4 (fx w A pMaskLaw pm doc c L a h₀ X₀).A) (G : Gl mg mb h₀)
    (S : St (fx w A pMaskLaw pm doc c L a h₀ X₀) (bindD mlPs [encI ns, .int first, .int mask, .int want, .int bits] fun _ => none) none h1) :
    Exs (fx w A pMaskLaw pm doc c L a h₀ X₀) h1 mlPre fun fl h' => fl = .next ∧ MlAt (fx w A pMaskLaw pm doc c L a h₀ X₀) h' := by
  obtain ⟨B, hB, hB7⟩ := fmod_nat (x := dig ns first + bits) (k := 7) (by (first | exact Nat.zero_lt_succ 6 | lia))
  obtain ⟨M, hM, hM7⟩ := fmod_nat (x := dig ns (first + 1) + mask) (k := 128) (by (first | exact Nat.zero_lt_succ 127 | lia))
  obtain ⟨W0, hW, hW7⟩ := fmod_nat (x := dig ns (first + 2) + want) (k := 128) (by (first | exact Nat.zero_lt_succ 127 | lia))
  have call : ∀ {ρ : Str → Option D} {h : Heap} {np pos sp : Pos} {e : Expr} (k : Nat), St (fx w A pMaskLaw pm doc c L a h₀ X₀) ρ none h → ρ (Str.ofString "script") = some (encI ns) → k ≤ 1000 → Ev (fx w A pMaskLaw pm doc c L a h₀ X₀).cx h e (.int k) →
      starEach (Expr.Name (Str.ofString "script") sp :: [e]) (fx w A pMaskLaw pm doc c L a h₀ X₀).env = (false, eval (Expr.Name (Str.ofString "script") sp) (fx w A pMaskLaw pm doc c L a h₀ X₀).env) :: starEach [e] (fx w A pMaskLaw pm doc c L a h₀ X₀).env →
      starEach [e] (fx w A pMaskLaw pm doc c L a h₀ X₀).env = (false, eval e (fx w A pMaskLaw pm doc c L a h₀ X₀).env) :: starEach [] (fx w A pMaskLaw pm doc c L a h₀ X₀).env →
      Ev (fx w A pMaskLaw pm doc c L a h₀ X₀).cx h (.Call (.Name (Str.ofString "_law_digit") np) [.Name (Str.ofString "script") sp, e] [] pos) (.int (dig ns k)) :=
    fun k S r hk he h1 h2 => Ev.callFn (p := pDigit) (by simp [fnames, pDigit]) (digit_ok ns k hl hk) (rm.le (by decide)) (G.ext S.keep) S.bd (Sp.cons (S.nm r) (Sp.cons he Sp.nil h2) h1) rfl rfl rfl rfl rfl h1
  refine Exs.set (d := .int B) S (Ev.eqI (Ev.mod (Ev.add (call first S rfl (by lia) (S.nm rfl) rfl rfl) (S.nm rfl)) Ev.int (by decide)) hB) fun h2 S => ?_
  refine Exs.setC (d := .int M) (a := L + 1) S (Ev.eqI (Ev.mod (Ev.add (call (first + 1) S rfl (by lia) (Ev.eqI (Ev.add (S.nm rfl) Ev.int) (by push_cast; rfl)) rfl rfl) (S.nm rfl)) Ev.int (by decide)) hM) (fun h2 S => ?_) rfl (.inr ⟨Str.ofString "mask", rfl⟩)
  refine Exs.setC (d := .int W0) (a := L + 2) S (Ev.eqI (Ev.mod (Ev.add (call (first + 2) S rfl (by lia) (Ev.eqI (Ev.add (S.nm rfl) Ev.int) (by push_cast; rfl)) rfl rfl) (S.nm rfl)) Ev.int (by decide)) hW) (fun h2 S => ?_) rfl (.inr ⟨Str.ofString "want", rfl⟩)
  refine Exs.if (t := (dig ns (first + 3)).fmod 4 != 1) (fun ρ own => own = none ∧ ∃ W : Nat, W < 128 ∧ ρ (Str.ofString "script") = some (encI ns) ∧ ρ (Str.ofString "first") = some (.int first) ∧ ρ (Str.ofString "mask") = some (.int M) ∧ ρ (Str.ofString "want") = some (.int W) ∧ ρ (Str.ofString "bits") = some (.int B))
    (Te.cmp (Ev.mod (call (first + 3) S rfl (by lia) (Ev.eqI (Ev.add (S.nm rfl) Ev.int) (by push_cast; rfl)) rfl rfl) Ev.int (by decide)) Ev.int Co.ne) (fun ht h3 e3 => ?_) (fun ht h3 e3 => ?_) ?_
  · have S := S.ext e3
    have hle : W0 &&& M ≤ W0 := Nat.and_le_left
    exact Exs.setC (d := .int (W0 &&& M : Nat)) (a := L + 2) S (Ev.eqI (Ev.band (S.nm rfl) (S.nm rfl)) (bitAnd_nat _ _)) (fun h4 S => Exs.nil ⟨rfl, stay S ⟨rfl, W0 &&& M, by (first | exact Nat.lt_of_le_of_lt hle hW7 | lia), rfl, rfl, rfl, rfl, rfl⟩⟩) rfl (.inr ⟨Str.ofString "want", rfl⟩)
  · have S := S.ext e3
    exact Exs.nil ⟨rfl, stay S ⟨rfl, W0, hW7, rfl, rfl, rfl, rfl, rfl⟩⟩
  rintro ρ own h3 ⟨rfl, W, hW128, r1, r2, r3, r4, r5⟩ S
  have G1 := G.ext S.keep
  have h64 := pow_le hB7
  have hmade : made (fun _ => true) (fun i => .bool (Builtin.bitAnd (i : Int) (M : Int) == (W : Int))) (2 ^ B) = (dueT B M W).map D.bool := by
    rw [made_all]; unfold dueT tab; rw [List.map_map]; rfl
  refine Exs.set (d := .lst (enc (dueL B M W))) S ?_ fun h4 S => ?_
  · rw [← due_ok hB7]
    refine Ev.callFn (p := pRuns) (by simp [fnames, pRuns]) (runs_ok (dueT B M W) (by rw [dueT_len]; lia)) (rm.le (by decide)) G1 S.bd (Sp.cons ?_ Sp.nil)
    rw [← hmade]
    refine Ev.comp (n := 2 ^ B) (dat := fun i => .int i) (cl := [(Str.ofString "want", L + 2), (Str.ofString "mask", L + 1)]) S rfl (by intro p hp; simp only [List.mem_cons, List.not_mem_nil, or_false] at hp; rcases hp with rfl | rfl <;> rfl) (by simp; decide)
      (Src.range S.bd rm.hh (G1.built (c := (fx w A pMaskLaw pm doc c L a h₀ X₀).cx) (Str.ofString "range") (by simp [bltns]) rfl rfl rfl rfl (by rfl)) (Ev.eqI (Ev.pow Ev.int (S.nm (n := Str.ofString "bits") r5) (by (first | exact Int.natCast_nonneg B | lia)) (by grind) (by decide)) (by rw [Int.toNat_natCast]; push_cast; rfl)) (by lia)) (by lia) [Str.ofString "mask", Str.ofString "want"]
      (by intro C x hx; simp only [List.mem_cons, List.not_mem_nil, or_false] at hx; rcases hx with rfl | rfl <;> exact ⟨rfl, rfl, rfl⟩) (fun i ρ => upd ρ (Str.ofString "n") (.int i)) (fun ρ => ρ (Str.ofString "mask") = some (.int M) ∧ ρ (Str.ofString "want") = some (.int W)) (by simp [capt, r3, r4]) (fun i ρ _ h => h) (.inl ⟨_, _, rfl⟩)
      (fun _ => true) (fun i => .bool (Builtin.bitAnd (i : Int) (M : Int) == (W : Int))) ?_ ?_
    · intro C D' h9 i ρ hi hv
      exact Tg.name rfl rfl (by simp)
    · intro C D' h9 i ρ h3 hi hv he hb S
      exact ⟨Ts.nil, fun _ => Ev.cmp (Ev.band (S.nm rfl) (S.nm hv.1)) (S.nm hv.2) Co.eq⟩
  have hdl := dueL_len (M := M) (W := W) hB7
  have G2 := G.ext S.keep
  obtain ⟨lay1, lay2⟩ := lay_pair (dueL B M W) emptyOk
  refine Exs.ifRet (orelse := []) (t := false) (Te.cmp (Ev.callFn (p := pMasked) (by simp [fnames, pMasked]) (masked_ok M W B 64 hB7 (by grind) (by lia) (by (first | exact Nat.le_of_ble_eq_true rfl | lia)) hdl) (rm.le (by decide)) G2 S.bd (Sp.cons (S.nm r3) (Sp.cons (S.nm r4) (Sp.cons (S.nm r5) (Sp.cons Ev.int Sp.nil)))))
    (Ev.tuple (ds := [.lst (enc (dueL B M W)), .str (Str.ofString "")]) S.bd (Sp.cons (S.nm rfl) (Sp.cons Ev.str Sp.nil))) (Co.noDiff lay1 lay2 (by have := rm.un; show (fx w A pMaskLaw pm doc c L a h₀ X₀).A.units + 64 < cLine; lia))) (fun h => nomatch h) (fun _ h5 e5 => ?_)
  have S := S.ext e5
  have G3 := G.ext S.keep
  have eL := enc_length (dueL B M W)
  obtain ⟨r, hr, hr3⟩ := fmod_nat (x := dig ns (first + 4)) (k := 3) (by (first | exact Nat.zero_lt_succ 2 | lia))
  obtain ⟨most, hmost⟩ : ∃ most : Nat, max (0 : Int) (((dueL B M W).length : Int) - 1 + r) = most := ⟨(max (0 : Int) (((dueL B M W).length : Int) - 1 + r)).toNat, by lia⟩
  refine Exs.set (d := .int most) S (Ev.eqI (Ev.callB (G3.built (c := (fx w A pMaskLaw pm doc c L a h₀ X₀).cx) (Str.ofString "max") (by simp [bltns]) rfl rfl rfl rfl (by rfl)) (Sp.cons Ev.int (Sp.cons (Ev.add (Ev.sub (Ev.lenOf G3 (S.nm rfl) eL (by lia)) Ev.int) (Ev.mod (call (first + 4) S r1 (by lia) (Ev.eqI (Ev.add (S.nm r2) Ev.int) (by push_cast; rfl)) rfl rfl) Ev.int (by decide))) Sp.nil)) (Cl.maxI rm.hh)) (by rw [← hmost, ← hr]; rfl)) fun h6 S => ?_
  have G4 := G.ext S.keep
  refine Exs.if (t := decide (most < (dueL B M W).length)) (fun ρ own => own = none ∧ ∃ (due : Spans) (why : Str), ρ (Str.ofString "mask") = some (.int M) ∧ ρ (Str.ofString "want") = some (.int W) ∧ ρ (Str.ofString "bits") = some (.int B) ∧ ρ (Str.ofString "most") = some (.int most) ∧ ρ (Str.ofString "due") = some (.lst (enc due)) ∧ ρ (Str.ofString "why") = some (.str why) ∧
      (((dueL B M W).length ≤ most ∧ due = dueL B M W ∧ why = Str.ofString "") ∨ (most < (dueL B M W).length ∧ due = [] ∧ why = msgS most)))
    (Te.eqB (Te.cmp (Ev.lenOf G4 (S.nm rfl) eL (by lia)) (S.nm rfl) Co.gt) (by rw [Bool.eq_iff_iff, decide_eq_true_eq, decide_eq_true_eq]; (first | exact Int.ofNat_lt | lia))) (fun ht h7 e7 => ?_) (fun ht h7 e7 => ?_) ?_
  · have S := S.ext e7
    refine Exs.set (d := .lst []) S (Ev.list (ds := []) S.bd Sp.nil) fun h8 S => ?_
    refine Exs.set (d := .str (msgS most)) S (Ev.msg S (G.ext S.keep) rfl (by lia)) fun h9 S => ?_
    exact Exs.nil ⟨rfl, stay S ⟨rfl, [], msgS most, by exact r3, by exact r4, by exact r5, rfl, rfl, rfl, .inr ⟨by simpa using ht, rfl, rfl⟩⟩⟩
  · have S := S.ext e7
    refine Exs.set (d := .str (Str.ofString "")) S Ev.str fun h8 S => ?_
    exact Exs.nil ⟨rfl, stay S ⟨rfl, dueL B M W, Str.ofString "", by exact r3, by exact r4, by exact r5, rfl, rfl, rfl, .inl ⟨by simpa using ht, rfl, rfl⟩⟩⟩
  · rintro ρ own h7 ⟨rfl, due, why, q1, q2, q3, q4, q5, q6, q7⟩ S
    exact Exs.nil ⟨rfl, ρ, B, M, W, most, due, why, S, q1, q2, q3, q4, q5, q6, hB7, by grind, by lia, by grind, q7⟩
end Mine
end

section
open PySem PyProof.Rows
open PySem.W (Looks Frag findIn)
namespace Mine
set_option autoImplicit false
set_option linter.unusedVariables false
set_option maxRecDepth 100000

theorem FnW.le {mg mb : Str → Option Value} {K : Frag} {p : Str × Nat} {k k' : Nat} {ds : List D} {d : D} (F : FnW mg mb K p k ds d) (h : k ≤ k') : FnW mg mb K p k' ds d :=
  fun w A X₀ a vs s Q E base outer rm => F w A X₀ a vs s Q E base outer (rm.le h)

theorem ml_W {mg mb : Str → Option Value} {K : Frag} (ns : List Int) (first : Nat) (mask want bits : Int) (hl : ns.length ≤ 1000) (hf : first ≤ 100) :
    FnW mg mb K pMaskLaw 6 [encI ns, .int first, .int mask, .int want, .int bits] (.bool true) := by
  intro w A X₀ a vs s Q E base outer rm Z B F hX r q
  refine callGen F (Z.G.ext B.stays) (by have := rm.dp; (first | exact Nat.lt_of_add_right_lt this | lia)) hX.bd r mlPs mlBind mlKind fun pm doc c h1 t1 e1 S => ?_
  have rm1 : Rm 5 (fx w A pMaskLaw pm doc c s.heap.objs.size a s.heap X₀).A := rm.deeper
  have hLn : s.heap.get? s.heap.objs.size = none := Heap.get?_none_of_le (Nat.le_refl _)
  have body : (fdAt pMaskLaw.2).2.1 = mlPre ++ mlEnd := mlBody
  rw [body]
  refine execs_split (ml_pre ns first mask want bits hl hf (rm1.le (by decide)) (Z.G.ext B.stays) S) rfl (fun h2 tk2 kp hx => ?_) fun fl h2 tk2 hn kp hx => absurd hx.1 hn
  obtain ⟨-, ρ, b, M, W, most, due, why, S2, q1, q2, q3, q4, q5, q6, hb7, hM, hW, hm100, alt⟩ := hx
  have ext2 : Ext s.heap h2 := S2.keep
  have hb2 : Ext base h2 := fun b o ho => ext2 _ _ (B.stays _ _ ho)
  have FW : FnW mg mb K pMasked 4 [.int M, .int W, .int b, .int most] (.tup [.lst (enc due), .str why]) := by
    rcases alt with ⟨h1, rfl, rfl⟩ | ⟨h1, rfl, rfl⟩
    · exact (masked_ok M W b most hb7 hM hW hm100 h1).toW.le (by (first | exact Nat.le_of_ble_eq_true rfl | lia))
    · exact masked_W M W b most hb7 hM hW hm100 h1
  have hok : PyData.strOk why = true := by
    rcases alt with ⟨_, _, rfl⟩ | ⟨_, _, rfl⟩
    · exact emptyOk
    · exact msgOk hm100
  obtain ⟨lay1, lay2⟩ := lay_pair due hok
  refine wpAny_execs_cons (wpAny_Return_some (wpAny_Compare1 (call_expr (f := fx w A pMaskLaw pm doc c s.heap.objs.size a s.heap X₀) (p := pMasked) (by simp [fnames, pMasked]) (Z.G.ext hb2)
    (Sp.cons (S2.nm q1) (Sp.cons (S2.nm q2) (Sp.cons (S2.nm q3) (Sp.cons (S2.nm q4) Sp.nil)))) fun am vsm h3 tk3 e3 Fm r3 => ?_) (by with_unfolding_all rfl)))
  have ext3 : Ext s.heap h3 := ext2.trans e3
  obtain ⟨m2, cm2, Sm2⟩ := id S2
  have B3 := below_push (env := (fx w A pMaskLaw pm doc c s.heap.objs.size a s.heap X₀).env) (L := s.heap.objs.size) B (by intro x; cases x) rfl hLn ⟨m2, Sm2.ns.keeps e3⟩ ext3
  have S3 := S2.ext e3
  have bn3 := S3.bdN (hX.up (Heap.UpToSlots.of_keeps ext3))
  refine FW w _ _ am vsm { s with heap := h3, toks := tk3 } _ _ base _ (rm1.le (by decide)) Z B3 Fm bn3 r3 fun v h4 tk4 hb4 u4 rv => ?_
  have S4 := S3.weak u4 bn3
  refine (Ev.tuple (ds := [.lst (enc due), .str why]) S4.bd (Sp.cons (S4.nm q5) (Sp.cons (S4.nm q6) Sp.nil)) : Ev (fx w A pMaskLaw pm doc c s.heap.objs.size a s.heap X₀).weak.cx h4 _ _) { s with heap := h4, toks := tk4 } _ _ (Ext.refl _) fun u h5 tk5 e5 ru => ?_
  refine (Co.same (c := (fx w A pMaskLaw pm doc c s.heap.objs.size a s.heap X₀).weak.cx) (h := h5) lay1 lay2 (by have := rm1.un; show (fx w A pMaskLaw pm doc c s.heap.objs.size a s.heap X₀).A.units + 64 < cLine; lia)) v u { s with heap := h5, toks := tk5 } _ _ (Ext.refl _) (rv.ext e5) ru fun h6 tk6 e6 => ?_
  exact q (.bool true) h6 tk6 (fun b o ho => e6 _ _ (e5 _ _ (hb4 _ _ ho))) (((Heap.UpToSlots.of_keeps ext3).trans u4).trans (Heap.UpToSlots.of_keeps fun b o ho => e6 _ _ (e5 _ _ ho))) (.bool true)
end Mine
end

section
open PySem PyProof.Rows
open PySem.W (Looks Frag findIn)
namespace Mine
set_option autoImplicit false
set_option linter.unusedVariables false
set_option maxRecDepth 100000

theorem star_Name (n : Str) (p : Pos) (r : List Expr) (env : Env) : starEach (.Name n p :: r) env = (false, eval (.Name n p) env) :: starEach r env := rfl
theorem star_Const (k : Const) (n : Nat) (p : Pos) (r : List Expr) (env : Env) : starEach (.Constant k n p :: r) env = (false, eval (.Constant k n p) env) :: starEach r env := rfl
theorem star_List (es : List Expr) (p : Pos) (r : List Expr) (env : Env) : starEach (.List es p :: r) env = (false, eval (.List es p) env) :: starEach r env := rfl
theorem star_Tuple (es : List Expr) (k : Nat) (p : Pos) (r : List Expr) (env : Env) : starEach (.Tuple es k p :: r) env = (false, eval (.Tuple es k p) env) :: starEach r env := rfl
theorem Ev.eqD {c : Cx} {h : Heap} {e : Expr} {x y : D} (r : Ev c h e x) (k : x = y) : Ev c h e y := k ▸ r
theorem drawn_dr (ns : List Int) (first : Nat) (starts : Spans) : Dr (drawn ns first starts) := by
  intro p hp
  unfold drawn at hp
  obtain ⟨k, _, rfl⟩ := List.mem_map.mp hp
  unfold drawOne
  dsimp only
  have h1 := Int.fmod_nonneg_of_pos (dig ns (first + 2 * k + 1) + (starts.getD k (0, 0)).1) (b := 64) (by decide)
  have h2 := Int.fmod_lt_of_pos (dig ns (first + 2 * k + 1) + (starts.getD k (0, 0)).1) (b := 64) (by decide)
  have h3 := Int.fmod_nonneg_of_pos (dig ns (first + 2 * k + 2) + (starts.getD k (0, 0)).2) (b := 24) (by decide)
  omega
theorem drawn_len (ns : List Int) (first : Nat) (starts : Spans) : (drawn ns first starts).length ≤ starts.length := by
  unfold drawn drawnN
  rw [List.length_map, List.length_range]
  (first | exact Nat.sub_le (List.length starts) ((dig ns first).fmod (↑(List.length starts) + 1)).toNat | lia)
theorem around (f : Int → Bool) (N : Nat) : (List.range (N + 2)).map (fun (i : Nat) => f (-1 + (i : Int))) = [f (-1)] ++ tab f N ++ [f N] := by
  rw [List.range_succ, List.map_append, List.range_succ_eq_map, List.map_cons, List.map_map]
  unfold tab
  have e1 : (List.range N).map ((fun (i : Nat) => f (-1 + (i : Int))) ∘ Nat.succ) = (List.range N).map fun (n : Nat) => f (n : Int) := by
    refine List.map_congr_left fun n _ => ?_
    show f (-1 + ((n + 1 : Nat) : Int)) = f n
    congr 1; lia
  rw [e1]
  have e2 : (-1 + ((N + 1 : Nat) : Int)) = (N : Int) := by lia
  simp only [List.map_cons, List.map_nil, List.cons_append, List.nil_append]
  rw [e2]
  rfl
noncomputable def st1 : Spans := [(36, 9), (5, 4), (10, 10), (8, 0)]
noncomputable def st2 : Spans := [(63, 0), (0, 3), (15, 23)]
noncomputable def pLaw : Str × Nat := (Str.ofString "law", 18)
noncomputable def lwPs : List Str := [Str.ofString "script"]
theorem lwBind : ∀ vs : List Value, vs.length = 1 → ∀ pm doc c, bindArgs (Calls.docDef pLaw.1 (fdAt pLaw.2).1 (fdAt pLaw.2).2.1 (fdAt pLaw.2).2.2 pm (.ref c) doc) ⟨vs, []⟩ = pure (lwPs.zip vs) := by
  intro vs hv pm doc c
  obtain ⟨v1, rfl⟩ := len1 hv
  rfl
theorem lwKind : ∀ (L : Nat), ∀ x ∈ lwPs, (fdAt pLaw.2).2.2.names.lookup x = some .local ∨ ((fdAt pLaw.2).2.2.names.lookup x = some .cell ∧ ((cellsFrom (L + 1) (fdAt pLaw.2).2.2.names []).lookup x).isSome = true) := by
  intro L x hx
  rw [List.mem_singleton.mp hx]
  exact .inl rfl
noncomputable def lwPre : List Stmt := (fdAt 18).2.1.take 14
noncomputable def lwEnd : List Stmt := (fdAt 18).2.1.drop 14
theorem lwBody : (fdAt 18).2.1 = lwPre ++ lwEnd := (List.take_append_drop 14 _).symm

set_option maxHeartbeats 4000000 in
theorem lw_pre {mg mb : Str → Option Value} (ns : List Int) (hl : ns.length ≤ 1000)
    {w : World} {A : Around} {X₀ : Addr → Prop} {pm doc : Value} {c L a : Addr} {h₀ h1 : Heap} (rm : Rm 4 (fx w A pLaw pm doc c L a h₀ X₀).A) (G : Gl mg mb h₀)
    (S : St (fx w A pLaw pm doc c L a h₀ X₀) (bindD lwPs [encI ns] fun _ => none) none h1) :
    Exs (fx w A pLaw pm doc c L a h₀ X₀) h1 lwPre fun fl h' => fl = .next ∧ ∃ ρ, St (fx w A pLaw pm doc c L a h₀ X₀) ρ none h' ∧ ρ (Str.ofString "script") = some (encI ns) := by
  have hun : (fx w A pLaw pm doc c L a h₀ X₀).cx.A.units + 64 < cLine := by have := rm.un; show (fx w A pLaw pm doc c L a h₀ X₀).A.units + 64 < cLine; lia
  obtain ⟨o, ho⟩ : ∃ o, o = drawn ns 0 st1 := ⟨_, rfl⟩
  obtain ⟨t, ht⟩ : ∃ t, t = drawn ns 9 st2 := ⟨_, rfl⟩
  have do_ : Dr o := ho ▸ drawn_dr ns 0 st1
  have dt_ : Dr t := ht ▸ drawn_dr ns 9 st2
  have lo : o.length ≤ 4 := by rw [ho]; exact drawn_len ns 0 st1
  have lt : t.length ≤ 3 := by rw [ht]; exact drawn_len ns 9 st2
  obtain ⟨tO, rO, wO, iO⟩ := tidyS_runs do_
  obtain ⟨tT, rT, wT, iT⟩ := tidyS_runs dt_
  have lO := tidyS_len o
  have lT := tidyS_len t
  refine @Exs.set _ _ _ _ _ _ _ _ _ _ (.lst (enc o)) S (@Ev.eqD _ _ _ (.lst (enc (drawn ns 0 st1))) _ (@Ev.callFn _ _ _ _ pDrawn _ _ _ _ _ [encI ns, .int (0 : Nat), .lst (enc st1)] _ (by simp [fnames, pDrawn]) (drawn_ok ns 0 st1 hl (by (first | exact Nat.zero_le 100 | lia)) (by decide)) (rm.le (by decide)) (G.ext S.keep) S.bd
    (@Sp.cons _ _ _ _ _ _ (S.nm rfl) (@Sp.cons _ _ _ _ _ _ Ev.int (@Sp.cons _ _ _ _ _ _ (@Ev.list _ _ _ _ (enc st1) S.bd (@Sp.cons _ _ _ _ _ _ (@Ev.tuple _ _ _ _ [.int 36, .int 9] _ S.bd (@Sp.cons _ _ _ _ _ _ Ev.int (@Sp.cons _ _ _ _ _ _ Ev.int Sp.nil (star_Const _ _ _ _ _)) (star_Const _ _ _ _ _)) (by decide)) (@Sp.cons _ _ _ _ _ _ (@Ev.tuple _ _ _ _ [.int 5, .int 4] _ S.bd (@Sp.cons _ _ _ _ _ _ Ev.int (@Sp.cons _ _ _ _ _ _ Ev.int Sp.nil (star_Const _ _ _ _ _)) (star_Const _ _ _ _ _)) (by decide)) (@Sp.cons _ _ _ _ _ _ (@Ev.tuple _ _ _ _ [.int 10, .int 10] _ S.bd (@Sp.cons _ _ _ _ _ _ Ev.int (@Sp.cons _ _ _ _ _ _ Ev.int Sp.nil (star_Const _ _ _ _ _)) (star_Const _ _ _ _ _)) (by decide)) (@Sp.cons _ _ _ _ _ _ (@Ev.tuple _ _ _ _ [.int 8, .int 0] _ S.bd (@Sp.cons _ _ _ _ _ _ Ev.int (@Sp.cons _ _ _ _ _ _ Ev.int Sp.nil (star_Const _ _ _ _ _)) (star_Const _ _ _ _ _)) (by decide)) Sp.nil (star_Tuple _ _ _ _ _)) (star_Tuple _ _ _ _ _)) (star_Tuple _ _ _ _ _)) (star_Tuple _ _ _ _ _)) (by decide)) Sp.nil (star_List _ _ _ _)) (star_Const _ _ _ _ _)) (star_Name _ _ _ _)) rfl rfl rfl rfl rfl (star_Name _ _ _ _)) (by rw [← ho])) (fun h2 S => ?_) rfl rfl (by intro p hp; cases hp) rfl
  refine @Exs.set _ _ _ _ _ _ _ _ _ _ (.lst (enc t)) S (@Ev.eqD _ _ _ (.lst (enc (drawn ns 9 st2))) _ (@Ev.callFn _ _ _ _ pDrawn _ _ _ _ _ [encI ns, .int (9 : Nat), .lst (enc st2)] _ (by simp [fnames, pDrawn]) (drawn_ok ns 9 st2 hl (by (first | exact Nat.le_of_ble_eq_true rfl | lia)) (by decide)) (rm.le (by decide)) (G.ext S.keep) S.bd
    (@Sp.cons _ _ _ _ _ _ (S.nm rfl) (@Sp.cons _ _ _ _ _ _ Ev.int (@Sp.cons _ _ _ _ _ _ (@Ev.list _ _ _ _ (enc st2) S.bd (@Sp.cons _ _ _ _ _ _ (@Ev.tuple _ _ _ _ [.int 63, .int 0] _ S.bd (@Sp.cons _ _ _ _ _ _ Ev.int (@Sp.cons _ _ _ _ _ _ Ev.int Sp.nil (star_Const _ _ _ _ _)) (star_Const _ _ _ _ _)) (by decide)) (@Sp.cons _ _ _ _ _ _ (@Ev.tuple _ _ _ _ [.int 0, .int 3] _ S.bd (@Sp.cons _ _ _ _ _ _ Ev.int (@Sp.cons _ _ _ _ _ _ Ev.int Sp.nil (star_Const _ _ _ _ _)) (star_Const _ _ _ _ _)) (by decide)) (@Sp.cons _ _ _ _ _ _ (@Ev.tuple _ _ _ _ [.int 15, .int 23] _ S.bd (@Sp.cons _ _ _ _ _ _ Ev.int (@Sp.cons _ _ _ _ _ _ Ev.int Sp.nil (star_Const _ _ _ _ _)) (star_Const _ _ _ _ _)) (by decide)) Sp.nil (star_Tuple _ _ _ _ _)) (star_Tuple _ _ _ _ _)) (star_Tuple _ _ _ _ _)) (by decide)) Sp.nil (star_List _ _ _ _)) (star_Const _ _ _ _ _)) (star_Name _ _ _ _)) rfl rfl rfl rfl rfl (star_Name _ _ _ _)) (by rw [← ht])) (fun h2 S => ?_) rfl rfl (by intro p hp; cases hp) rfl
  refine Exs.setC (d := .lst ((truths o).map D.bool)) (a := L + 1) S (Ev.callFn (p := pTruths) (by simp [fnames, pTruths]) (truths_ok o (by lia)) (rm.le (by decide)) (G.ext S.keep) S.bd (Sp.cons (S.nm rfl) Sp.nil)) (fun h2 S => ?_) rfl (.inr ⟨Str.ofString "ones", rfl⟩)
  refine Exs.setC (d := .lst ((truths t).map D.bool)) (a := L + 2) S (Ev.callFn (p := pTruths) (by simp [fnames, pTruths]) (truths_ok t (by lia)) (rm.le (by decide)) (G.ext S.keep) S.bd (Sp.cons (S.nm rfl) Sp.nil)) (fun h2 S => ?_) rfl (.inr ⟨Str.ofString "twos", rfl⟩)
  refine Exs.setC (d := .lst (enc (tidyS o))) (a := L + 3) S (Ev.eqD (Ev.callFn (p := pTidy) (by simp [fnames, pTidy]) (tidyR_ok o (by lia) do_) (rm.le (by decide)) (G.ext S.keep) S.bd (Sp.cons (S.nm rfl) Sp.nil)) (by rw [rO])) (fun h2 S => ?_) rfl (.inr ⟨Str.ofString "a", rfl⟩)
  refine Exs.set (d := .lst (enc (tidyS t))) S (Ev.eqD (Ev.callFn (p := pTidy) (by simp [fnames, pTidy]) (tidyR_ok t (by lia) dt_) (rm.le (by decide)) (G.ext S.keep) S.bd (Sp.cons (S.nm rfl) Sp.nil)) (by rw [rT])) fun h2 S => ?_
  have trO : runs (truths o) = tidyS o := rO
  have trT : runs (truths t) = tidyS t := rT
  have l64 : ∀ l : Spans, (truths l).length = 64 := fun l => by unfold truths; simp
  -- a, b against the tables
  refine Exs.ifRet (orelse := []) (t := false) (Te.or (t1 := false) (t2 := false)
    (Te.cmp (S.nm rfl) (Ev.eqD (Ev.callFn (p := pRuns) (by simp [fnames, pRuns]) (runs_ok (truths o) (by rw [l64]; lia)) (rm.le (by decide)) (G.ext S.keep) S.bd (Sp.cons (S.nm rfl) Sp.nil)) (by rw [trO])) (Co.noDiff (lay_enc _).1 (lay_enc _).2 hun))
    (fun _ => Te.cmp (S.nm rfl) (Ev.eqD (Ev.callFn (p := pRuns) (by simp [fnames, pRuns]) (runs_ok (truths t) (by rw [l64]; lia)) (rm.le (by decide)) (G.ext S.keep) S.bd (Sp.cons (S.nm rfl) Sp.nil)) (by rw [trT])) (Co.noDiff (lay_enc _).1 (lay_enc _).2 hun))) (fun h => nomatch h) (fun _ h5 e5 => ?_)
  have S := S.ext e5
  have tget : ∀ (l : Spans) (i : Nat), i < 64 → ((truths l).map D.bool)[((i : Int)).toNat]? = some (.bool (inSp l i)) := fun l i hi => by
    rw [Int.toNat_natCast, List.getElem?_map]
    unfold truths
    rw [List.getElem?_map, List.getElem?_range hi]; rfl
  have tlen : ∀ l : Spans, ((truths l).map D.bool).length = 64 := fun l => by rw [List.length_map]; exact l64 l
  have itO : ∀ {scope : Scope} {cl : List (Str × Addr)} {C D' : Addr} {h9 h2 : Heap} {ρ : Str → Option D} {np sp pos : Pos} (S : St (cf (fx w A pLaw pm doc c L a h₀ X₀) scope cl C D' h9) ρ none h2) (hk : (cf (fx w A pLaw pm doc c L a h₀ X₀) scope cl C D' h9).env.scope.kind = .function) (i : Nat), i < 64 →
      ρ (Str.ofString "ones") = some (.lst ((truths o).map D.bool)) → ρ (Str.ofString "n") = some (.int i) → Ev (cf (fx w A pLaw pm doc c L a h₀ X₀) scope cl C D' h9).cx h2 (.Subscript (.Name (Str.ofString "ones") np) (.Name (Str.ofString "n") sp) pos) (.bool (inSp o i)) :=
    fun S hk i hi r rn => Ev.item (S.nm r hk) (S.nm rn hk) (by (first | exact Int.natCast_nonneg i | lia)) (by lia) (tget o i hi)
  have itT : ∀ {scope : Scope} {cl : List (Str × Addr)} {C D' : Addr} {h9 h2 : Heap} {ρ : Str → Option D} {np sp pos : Pos} (S : St (cf (fx w A pLaw pm doc c L a h₀ X₀) scope cl C D' h9) ρ none h2) (hk : (cf (fx w A pLaw pm doc c L a h₀ X₀) scope cl C D' h9).env.scope.kind = .function) (i : Nat), i < 64 →
      ρ (Str.ofString "twos") = some (.lst ((truths t).map D.bool)) → ρ (Str.ofString "n") = some (.int i) → Ev (cf (fx w A pLaw pm doc c L a h₀ X₀) scope cl C D' h9).cx h2 (.Subscript (.Name (Str.ofString "twos") np) (.Name (Str.ofString "n") sp) pos) (.bool (inSp t i)) :=
    fun S hk i hi r rn => Ev.item (S.nm r hk) (S.nm rn hk) (by (first | exact Int.natCast_nonneg i | lia)) (by lia) (tget t i hi)
  have mk : ∀ (f : Int → Bool) (N : Nat), made (fun _ => true) (fun i => .bool (f (i : Int))) N = (tab f N).map D.bool := fun f N => by
    rw [made_all]; unfold tab; rw [List.map_map]; rfl
  have tabLen : ∀ (f : Int → Bool) (N : Nat), (tab f N).length = N := fun f N => by unfold tab; simp
  have lay : ∀ {h : Heap} (l : Spans), Co (fx w A pLaw pm doc c L a h₀ X₀).cx h .NotEq (.lst (enc l)) (.lst (enc l)) false := fun l => Co.noDiff (lay_enc l).1 (lay_enc l).2 hun
  have Gx := G.ext S.keep
  have rng := Gx.built (c := (fx w A pLaw pm doc c L a h₀ X₀).cx) (Str.ofString "range") (v := .type "range") (by simp [bltns]) rfl rfl rfl rfl (by rfl)
  -- meet
  refine Exs.ifRet (orelse := []) (t := false) (Te.cmp (Ev.callFn (p := pMeet) (by simp [fnames, pMeet]) (meet_ok (tidyS o) (tidyS t) tO tT wO (by lia) (by lia)) (rm.le (by decide)) Gx S.bd (Sp.cons (S.nm rfl) (Sp.cons (S.nm rfl) Sp.nil)))
    (Ev.callFn (p := pRuns) (by simp [fnames, pRuns]) (runs_ok (tab (fun n => inSp (tidyS o) n && inSp (tidyS t) n) 64) (by rw [tabLen]; lia)) (rm.le (by decide)) Gx S.bd (Sp.cons ?_ Sp.nil)) (lay _)) (fun h => nomatch h) (fun _ h6 e6 => ?_)
  · rw [← mk]
    refine Ev.comp (n := 64) (dat := fun i => .int i) (cl := [(Str.ofString "twos", L + 2), (Str.ofString "ones", L + 1)]) S rfl (by intro p hp; simp only [List.mem_cons, List.not_mem_nil, or_false] at hp; rcases hp with rfl | rfl <;> rfl) (by simp; decide)
      (Src.range S.bd rm.hh rng Ev.int (by (first | exact Nat.lt_of_sub_eq_succ rfl | lia))) (by lia) [Str.ofString "ones", Str.ofString "twos"]
      (by intro C x hx; simp only [List.mem_cons, List.not_mem_nil, or_false] at hx; rcases hx with rfl | rfl <;> exact ⟨rfl, rfl, rfl⟩) (fun i ρ => upd ρ (Str.ofString "n") (.int i)) (fun ρ => ρ (Str.ofString "ones") = some (.lst ((truths o).map D.bool)) ∧ ρ (Str.ofString "twos") = some (.lst ((truths t).map D.bool))) ⟨rfl, rfl⟩ (fun i ρ _ h => h) (.inl ⟨_, _, rfl⟩)
      (fun _ => true) (fun i => .bool (inSp (tidyS o) i && inSp (tidyS t) i)) ?_ ?_
    · intro C D' h9 i ρ hi hv
      exact Tg.name rfl rfl (by simp)
    · intro C D' h9 i ρ h3 hi hv he hb S
      refine ⟨Ts.nil, fun _ => ?_⟩
      rw [iO, iT]
      exact Ev.and (itO S rfl i hi hv.1 rfl) fun _ => itT S rfl i hi hv.2 rfl
  have S := S.ext e6
  have Gx := G.ext S.keep
  have rng := Gx.built (c := (fx w A pLaw pm doc c L a h₀ X₀).cx) (Str.ofString "range") (v := .type "range") (by simp [bltns]) rfl rfl rfl rfl (by rfl)
  -- join
  refine Exs.ifRet (orelse := []) (t := false) (Te.cmp (Ev.callFn (p := pJoin) (by simp [fnames, pJoin]) (join_ok (tidyS o) (tidyS t) (by lia) (by lia) (tO.dr wO) (tT.dr wT)) (rm.le (by decide)) Gx S.bd (Sp.cons (S.nm rfl) (Sp.cons (S.nm rfl) Sp.nil)))
    (Ev.callFn (p := pRuns) (by simp [fnames, pRuns]) (runs_ok (tab (fun n => inSp (tidyS o) n || inSp (tidyS t) n) 64) (by rw [tabLen]; lia)) (rm.le (by decide)) Gx S.bd (Sp.cons ?_ Sp.nil)) (lay _)) (fun h => nomatch h) (fun _ h7 e7 => ?_)
  · rw [← mk]
    refine Ev.comp (n := 64) (dat := fun i => .int i) (cl := [(Str.ofString "twos", L + 2), (Str.ofString "ones", L + 1)]) S rfl (by intro p hp; simp only [List.mem_cons, List.not_mem_nil, or_false] at hp; rcases hp with rfl | rfl <;> rfl) (by simp; decide)
      (Src.range S.bd rm.hh rng Ev.int (by (first | exact Nat.lt_of_sub_eq_succ rfl | lia))) (by lia) [Str.ofString "ones", Str.ofString "twos"]
      (by intro C x hx; simp only [List.mem_cons, List.not_mem_nil, or_false] at hx; rcases hx with rfl | rfl <;> exact ⟨rfl, rfl, rfl⟩) (fun i ρ => upd ρ (Str.ofString "n") (.int i)) (fun ρ => ρ (Str.ofString "ones") = some (.lst ((truths o).map D.bool)) ∧ ρ (Str.ofString "twos") = some (.lst ((truths t).map D.bool))) ⟨rfl, rfl⟩ (fun i ρ _ h => h) (.inl ⟨_, _, rfl⟩)
      (fun _ => true) (fun i => .bool (inSp (tidyS o) i || inSp (tidyS t) i)) ?_ ?_
    · intro C D' h9 i ρ hi hv
      exact Tg.name rfl rfl (by simp)
    · intro C D' h9 i ρ h3 hi hv he hb S
      refine ⟨Ts.nil, fun _ => ?_⟩
      rw [iO, iT]
      exact Ev.or (itO S rfl i hi hv.1 rfl) fun _ => itT S rfl i hi hv.2 rfl
  have S := S.ext e7
  have Gx := G.ext S.keep
  have rng := Gx.built (c := (fx w A pLaw pm doc c L a h₀ X₀).cx) (Str.ofString "range") (v := .type "range") (by simp [bltns]) rfl rfl rfl rfl (by rfl)
  -- minus
  refine Exs.ifRet (orelse := []) (t := false) (Te.cmp (Ev.callFn (p := pMinus) (by simp [fnames, pMinus]) (minus_ok (tidyS o) (tidyS t) 64 tO tT wO (by lia) (by lia)) (rm.le (by decide)) Gx S.bd (Sp.cons (S.nm rfl) (Sp.cons (S.nm rfl) Sp.nil)))
    (Ev.callFn (p := pRuns) (by simp [fnames, pRuns]) (runs_ok (tab (fun n => inSp (tidyS o) n && !inSp (tidyS t) n) 64) (by rw [tabLen]; lia)) (rm.le (by decide)) Gx S.bd (Sp.cons ?_ Sp.nil)) (lay _)) (fun h => nomatch h) (fun _ h8 e8 => ?_)
  · rw [← mk]
    refine Ev.comp (n := 64) (dat := fun i => .int i) (cl := [(Str.ofString "twos", L + 2), (Str.ofString "ones", L + 1)]) S rfl (by intro p hp; simp only [List.mem_cons, List.not_mem_nil, or_false] at hp; rcases hp with rfl | rfl <;> rfl) (by simp; decide)
      (Src.range S.bd rm.hh rng Ev.int (by (first | exact Nat.lt_of_sub_eq_succ rfl | lia))) (by lia) [Str.ofString "ones", Str.ofString "twos"]
      (by intro C x hx; simp only [List.mem_cons, List.not_mem_nil, or_false] at hx; rcases hx with rfl | rfl <;> exact ⟨rfl, rfl, rfl⟩) (fun i ρ => upd ρ (Str.ofString "n") (.int i)) (fun ρ => ρ (Str.ofString "ones") = some (.lst ((truths o).map D.bool)) ∧ ρ (Str.ofString "twos") = some (.lst ((truths t).map D.bool))) ⟨rfl, rfl⟩ (fun i ρ _ h => h) (.inl ⟨_, _, rfl⟩)
      (fun _ => true) (fun i => .bool (inSp (tidyS o) i && !inSp (tidyS t) i)) ?_ ?_
    · intro C D' h9 i ρ hi hv
      exact Tg.name rfl rfl (by simp)
    · intro C D' h9 i ρ h3 hi hv he hb S
      refine ⟨Ts.nil, fun _ => ?_⟩
      rw [iO, iT]
      exact Ev.and (itO S rfl i hi hv.1 rfl) fun _ => Ev.not (itT S rfl i hi hv.2 rfl) Tr.bool
  have S := S.ext e8
  have Gx := G.ext S.keep
  have rng := Gx.built (c := (fx w A pLaw pm doc c L a h₀ X₀).cx) (Str.ofString "range") (v := .type "range") (by simp [bltns]) rfl rfl rfl rfl (by rfl)
  -- minus, the other way about
  refine Exs.ifRet (orelse := []) (t := false) (Te.cmp (Ev.callFn (p := pMinus) (by simp [fnames, pMinus]) (minus_ok (tidyS t) (tidyS o) 64 tT tO wT (by lia) (by lia)) (rm.le (by decide)) Gx S.bd (Sp.cons (S.nm rfl) (Sp.cons (S.nm rfl) Sp.nil)))
    (Ev.callFn (p := pRuns) (by simp [fnames, pRuns]) (runs_ok (tab (fun n => inSp (tidyS t) n && !inSp (tidyS o) n) 64) (by rw [tabLen]; lia)) (rm.le (by decide)) Gx S.bd (Sp.cons ?_ Sp.nil)) (lay _)) (fun h => nomatch h) (fun _ h9 e9 => ?_)
  · rw [← mk]
    refine Ev.comp (n := 64) (dat := fun i => .int i) (cl := [(Str.ofString "twos", L + 2), (Str.ofString "ones", L + 1)]) S rfl (by intro p hp; simp only [List.mem_cons, List.not_mem_nil, or_false] at hp; rcases hp with rfl | rfl <;> rfl) (by simp; decide)
      (Src.range S.bd rm.hh rng Ev.int (by (first | exact Nat.lt_of_sub_eq_succ rfl | lia))) (by lia) [Str.ofString "ones", Str.ofString "twos"]
      (by intro C x hx; simp only [List.mem_cons, List.not_mem_nil, or_false] at hx; rcases hx with rfl | rfl <;> exact ⟨rfl, rfl, rfl⟩) (fun i ρ => upd ρ (Str.ofString "n") (.int i)) (fun ρ => ρ (Str.ofString "ones") = some (.lst ((truths o).map D.bool)) ∧ ρ (Str.ofString "twos") = some (.lst ((truths t).map D.bool))) ⟨rfl, rfl⟩ (fun i ρ _ h => h) (.inl ⟨_, _, rfl⟩)
      (fun _ => true) (fun i => .bool (inSp (tidyS t) i && !inSp (tidyS o) i)) ?_ ?_
    · intro C D' h9 i ρ hi hv
      exact Tg.name rfl rfl (by simp)
    · intro C D' h9 i ρ h3 hi hv he hb S
      refine ⟨Ts.nil, fun _ => ?_⟩
      rw [iO, iT]
      exact Ev.and (itT S rfl i hi hv.2 rfl) fun _ => Ev.not (itO S rfl i hi hv.1 rfl) Tr.bool
  have S := S.ext e9
  have Gx := G.ext S.keep
  have rng := Gx.built (c := (fx w A pLaw pm doc c L a h₀ X₀).cx) (Str.ofString "range") (v := .type "range") (by simp [bltns]) rfl rfl rfl rfl (by rfl)
  -- top, flip
  obtain ⟨top, htop, htop64⟩ := fmod_nat (x := dig ns 16 + 63) (k := 64) (by (first | exact Nat.zero_lt_succ 63 | lia))
  refine Exs.set (d := .int top) S (Ev.eqI (Ev.mod (Ev.add (Ev.callFn (p := pDigit) (by simp [fnames, pDigit]) (digit_ok ns 16 hl (by (first | exact Nat.star_eq_digitChar.mp rfl | lia))) (rm.le (by decide)) Gx S.bd (Sp.cons (S.nm rfl) (Sp.cons Ev.int Sp.nil))) Ev.int) Ev.int (by decide)) htop) fun h10 S => ?_
  have Gx := G.ext S.keep
  have rng := Gx.built (c := (fx w A pLaw pm doc c L a h₀ X₀).cx) (Str.ofString "range") (v := .type "range") (by simp [bltns]) rfl rfl rfl rfl (by rfl)
  refine Exs.ifRet (orelse := []) (t := false) (Te.cmp (Ev.callFn (p := pFlip) (by simp [fnames, pFlip]) (flip_ok (tidyS o) top (by lia) tO) (rm.le (by decide)) Gx S.bd (Sp.cons (S.nm rfl) (Sp.cons (S.nm rfl) Sp.nil)))
    (Ev.callFn (p := pRuns) (by simp [fnames, pRuns]) (runs_ok (tab (fun n => !inSp (tidyS o) n) (top + 1)) (by rw [tabLen]; grind)) (rm.le (by decide)) Gx S.bd (Sp.cons ?_ Sp.nil)) (lay _)) (fun h => nomatch h) (fun _ h11 e11 => ?_)
  · rw [← mk]
    refine Ev.comp (n := top + 1) (dat := fun i => .int i) (cl := [(Str.ofString "ones", L + 1)]) S rfl (by intro p hp; rw [List.mem_singleton.mp hp]; rfl) (by simp)
      (Src.range S.bd rm.hh rng (Ev.eqI (Ev.add (S.nm (n := Str.ofString "top") rfl) Ev.int) (by push_cast; rfl)) (by grind)) (by grind) [Str.ofString "ones"]
      (by intro C x hx; rw [List.mem_singleton.mp hx]; exact ⟨rfl, rfl, rfl⟩) (fun i ρ => upd ρ (Str.ofString "n") (.int i)) (fun ρ => ρ (Str.ofString "ones") = some (.lst ((truths o).map D.bool))) rfl (fun i ρ _ h => h) (.inl ⟨_, _, rfl⟩)
      (fun _ => true) (fun i => .bool (!inSp (tidyS o) i)) ?_ ?_
    · intro C D' h9 i ρ hi hv
      exact Tg.name rfl rfl (by simp)
    · intro C D' h9 i ρ h3 hi hv he hb S
      refine ⟨Ts.nil, fun _ => ?_⟩
      rw [iO]
      exact Ev.not (itO S rfl i (by (first | exact Nat.lt_of_lt_of_le hi htop64 | lia)) hv rfl) Tr.bool
  have S := S.ext e11
  have Gx := G.ext S.keep
  have rng := Gx.built (c := (fx w A pLaw pm doc c L a h₀ X₀).cx) (Str.ofString "range") (v := .type "range") (by simp [bltns]) rfl rfl rfl rfl (by rfl)
  -- in_spans
  have hfalse : ∀ n : Int, (n < 0 ∨ 64 ≤ n) → inSp (tidyS o) n = false := fun n hn => by
    rw [Bool.eq_false_iff]
    intro h
    obtain ⟨p, hp, x1, x2⟩ := (inSp_iff _ _).mp h
    have := wO p hp
    lia
  have eAll : made (fun _ => true) (fun i => .bool (inSp (tidyS o) (-1 + (i : Int)))) 66 = [D.bool false] ++ (truths o).map D.bool ++ [D.bool false] := by
    have e1 := around (inSp (tidyS o)) 64
    have e2 : tab (inSp (tidyS o)) 64 = truths o := by unfold truths; exact tab_eq fun n _ => iO n
    rw [e2, hfalse (-1) (by lia), hfalse (64 : Nat) (by lia)] at e1
    have e3 := congrArg (List.map D.bool) e1
    rw [List.map_map] at e3
    rw [made_all]
    have eB : ([false] ++ truths o ++ [false]).map D.bool = [D.bool false] ++ (truths o).map D.bool ++ [D.bool false] := by simp
    exact e3.trans eB
  obtain ⟨lb1, lb2⟩ := lay_bools ([false] ++ truths o ++ [false])
  have eB : ([false] ++ truths o ++ [false]).map D.bool = [D.bool false] ++ (truths o).map D.bool ++ [D.bool false] := by simp
  rw [eB] at lb1 lb2
  refine Exs.ifRet (orelse := []) (t := false) (Te.cmp (d1 := .lst ([D.bool false] ++ (truths o).map D.bool ++ [D.bool false])) (d2 := .lst ([D.bool false] ++ (truths o).map D.bool ++ [D.bool false])) (eAll ▸ ?_)
    (Ev.cat S.bd (Ev.cat S.bd (Ev.list (ds := [D.bool false]) S.bd (Sp.cons Ev.bool Sp.nil)) (S.nm rfl) (by rw [tlen]; simp)) (Ev.list (ds := [D.bool false]) S.bd (Sp.cons Ev.bool Sp.nil)) (by rw [List.length_append, tlen]; simp)) (Co.noDiff lb1 lb2 hun)) (fun h => nomatch h) (fun _ h12 e12 => ?_)
  · refine Ev.comp (n := 66) (dat := fun i => .int (-1 + (i : Int))) (cl := [(Str.ofString "a", L + 3)]) S rfl (by intro p hp; rw [List.mem_singleton.mp hp]; rfl) (by simp)
      (Src.range2 S.bd rm.hh rng (Ev.neg Ev.int) Ev.int (by (first | exact Int.sub_eq_iff_eq_add'.mpr rfl | lia)) (by decide) (by decide) (by decide)) (by lia) [Str.ofString "a"]
      (by intro C x hx; rw [List.mem_singleton.mp hx]; exact ⟨rfl, rfl, rfl⟩) (fun i ρ => upd ρ (Str.ofString "n") (.int (-1 + (i : Int)))) (fun ρ => ρ (Str.ofString "a") = some (.lst (enc (tidyS o)))) rfl (fun i ρ _ h => h) (.inl ⟨_, _, rfl⟩)
      (fun _ => true) (fun i => .bool (inSp (tidyS o) (-1 + (i : Int)))) ?_ ?_
    · intro C D' h9 i ρ hi hv
      exact Tg.name rfl rfl (by simp)
    · intro C D' h9 i ρ h3 hi hv he hb S
      exact ⟨Ts.nil, fun _ => Ev.callFn (p := pIn) (by simp [fnames, pIn]) (in_spans_ok (tidyS o) (-1 + (i : Int)) (by lia) tO) (rm.le (by decide)) (Gx.ext he) S.bd (Sp.cons (S.nm hv) (Sp.cons (S.nm rfl) Sp.nil))⟩
  have S := S.ext e12
  exact Exs.nil ⟨rfl, _, S, rfl⟩
end Mine
end

section
open PySem PyProof.Rows
open PySem.W (Looks Frag findIn)
namespace Mine
set_option autoImplicit false
set_option linter.unusedVariables false
set_option maxRecDepth 100000

theorem law_W {mg mb : Str → Option Value} {K : Frag} (ns : List Int) (hl : ns.length ≤ 1000) : FnW mg mb K pLaw 7 [encI ns] (.bool true) := by
  intro w A X₀ a vs s Q E base outer rm Z B F hX r q
  refine callGen F (Z.G.ext B.stays) (by have := rm.dp; (first | exact Nat.lt_of_add_right_lt this | lia)) hX.bd r lwPs lwBind lwKind fun pm doc c h1 t1 e1 S => ?_
  have rm1 : Rm 6 (fx w A pLaw pm doc c s.heap.objs.size a s.heap X₀).A := rm.deeper
  have hLn : s.heap.get? s.heap.objs.size = none := Heap.get?_none_of_le (Nat.le_refl _)
  have body : (fdAt pLaw.2).2.1 = lwPre ++ lwEnd := lwBody
  rw [body]
  refine execs_split (lw_pre ns hl (rm1.le (by decide)) (Z.G.ext B.stays) S) rfl (fun h2 tk2 kp hx => ?_) fun fl h2 tk2 hn kp hx => absurd hx.1 hn
  obtain ⟨-, ρ, S2, q1⟩ := hx
  have ext2 : Ext s.heap h2 := S2.keep
  have hb2 : Ext base h2 := fun b o ho => ext2 _ _ (B.stays _ _ ho)
  refine wpAny_execs_cons (wpAny_Return_some (wpAny_And2 (call_expr (f := fx w A pLaw pm doc c s.heap.objs.size a s.heap X₀) (p := pMaskLaw) (by simp [fnames, pMaskLaw]) (Z.G.ext hb2)
    (Sp.cons (S2.nm q1) (Sp.cons Ev.int (Sp.cons Ev.int (Sp.cons Ev.int (Sp.cons Ev.int Sp.nil))))) fun am vsm h3 tk3 e3 Fm r3 => ?_)))
  have ext3 : Ext s.heap h3 := ext2.trans e3
  obtain ⟨m2, cm2, Sm2⟩ := id S2
  have B3 := below_push (env := (fx w A pLaw pm doc c s.heap.objs.size a s.heap X₀).env) (L := s.heap.objs.size) B (by intro x; cases x) rfl hLn ⟨m2, Sm2.ns.keeps e3⟩ ext3
  have S3 := S2.ext e3
  have bn3 := S3.bdN (hX.up (Heap.UpToSlots.of_keeps ext3))
  refine ml_W ns 17 44 36 6 hl (by (first | exact Nat.le_of_ble_eq_true rfl | lia)) w _ _ am vsm { s with heap := h3, toks := tk3 } _ _ base _ rm1 Z B3 Fm bn3 r3 fun v h4 tk4 hb4 u4 rv => ?_
  cases rv
  refine wpAny_truthy_bool ?_
  have S4 := S3.weak u4 bn3
  refine call_expr (f := (fx w A pLaw pm doc c s.heap.objs.size a s.heap X₀).weak) (s := { s with heap := h4, toks := tk4 }) (p := pMaskLaw) (by simp [fnames, pMaskLaw]) (Z.G.ext hb4)
    (Sp.cons (S4.nm q1) (Sp.cons Ev.int (Sp.cons Ev.int (Sp.cons Ev.int (Sp.cons Ev.int Sp.nil))))) fun am5 vsm5 h5 tk5 e5 Fm5 r5 => ?_
  have u5 : Heap.UpToSlots h3 h5 := u4.trans (Heap.UpToSlots.of_keeps e5)
  have hb5 : base.StaysIn h5 := fun b o ho => e5 _ _ (hb4 _ _ ho)
  have B5 := below_weak B3 hb5 u5
  refine ml_W ns 22 21 20 6 hl (by (first | exact Nat.le_of_ble_eq_true rfl | lia)) w _ _ am5 vsm5 { s with heap := h5, toks := tk5 } _ _ base _ rm1 Z B5 Fm5 (bn3.up u5) r5 fun v6 h6 tk6 hb6 u6 rv6 => ?_
  cases rv6
  exact q (.bool true) h6 tk6 hb6 (((Heap.UpToSlots.of_keeps ext3).trans u5).trans u6) (.bool true)
end Mine
end

section
open PySem PySem.W PyProof.Rows
set_option maxRecDepth 100000 in
set_option maxHeartbeats 8000000 in
open_top Mine.hd for PySem.Challenge.rw_pf0329_01
end

section
open PySem PySem.W PyProof.Rows
namespace Mine
set_option autoImplicit false
set_option linter.unusedVariables false
set_option maxRecDepth 100000

theorem kf_hd (P : Params) : KF (hd.heap_39 P) where
  c44 := ⟨_, _, _, _, _, _, _, _, _, _, _, _, _, _, rfl⟩
  f28 := rfl
  code := fun h X => ⟨27, _, _, _, rfl, X 27 _ rfl, rfl, rfl⟩
  init := by rfl
  sa := by rfl
  ga := by rfl
  gt := by rfl
  why := by rfl
  at_ := by rfl
theorem rm_caller : Rm 7 callerA := ⟨rfl, by decide +kernel, by decide +kernel⟩
theorem bi_hd (P : Params) : ∀ p ∈ bltns, nsIn (hd.heap_39 P) mainGlobals p.1 = some none ∧ bootBuiltins p.1 = some p.2 ∧ p.1 ≠ "__name__" := by
  intro p hp
  simp only [bltns, List.mem_cons, List.not_mem_nil, or_false] at hp
  rcases hp with rfl | rfl | rfl | rfl | rfl | rfl | rfl | rfl | rfl | rfl <;> exact ⟨by rfl, by first | rfl | kernel_rfl, by decide⟩
theorem recs_hd : (recsOf hd.view_39).map (fun d => (d.name, d.params, d.body, d.scope)) = fnames.map fun p => (p.1, (fdAt p.2).1, (fdAt p.2).2.1, (fdAt p.2).2.2) := rfl
theorem fn_hd : ∀ p ∈ fnames, ∃ d ∈ recsOf hd.view_39, (d.name, d.params, d.body, d.scope) = (p.1, (fdAt p.2).1, (fdAt p.2).2.1, (fdAt p.2).2.2) := by
  intro p hp
  have h : (p.1, (fdAt p.2).1, (fdAt p.2).2.1, (fdAt p.2).2.2) ∈ fnames.map fun p => (p.1, (fdAt p.2).1, (fdAt p.2).2.1, (fdAt p.2).2.2) := List.mem_map.mpr ⟨p, hp, rfl⟩
  rw [← recs_hd] at h
  exact List.mem_map.mp h
theorem gl_hd {P : Params} {h : Heap} {mg mb : Str → Option Value} {loose : List Str} {mean : ExcName → Option Value} (X : (hd.heap_39 P).In h) (T : Top hd.view_39 loose mean mg mb h) : Gl mg mb h where
  g := T.g
  b := T.b
  nolimit := T.nolimit
  bi := fun p hp => by
    obtain ⟨h1, h2, h3⟩ := bi_hd P p hp
    exact ⟨ns_none_of X T.g h1, by rw [T.builtins p.1 h3]; exact h2⟩
  fn := fun p hp => by
    obtain ⟨d, hd', he⟩ := fn_hd p hp
    obtain ⟨a, o, pm, code, doc, h1, h2, h3, h4⟩ := T.fn _ hd'
    obtain ⟨e1, e2, e3, e4⟩ : d.name = p.1 ∧ d.params = (fdAt p.2).1 ∧ d.body = (fdAt p.2).2.1 ∧ d.scope = (fdAt p.2).2.2 := by
      injection he with e1 he
      injection he with e2 he
      injection he with e3 e4
      exact ⟨e1, e2, e3, e4⟩
    rw [e1, e2, e3, e4] at h3
    rw [e1] at h1 h4
    obtain ⟨cc, oc, vs, t, rfl, h5⟩ := id h4
    exact ⟨a, h1, o, pm, doc, cc, h2, h3, h4⟩
theorem bz_hd {P : Params} {h : Heap} {mg mb : Str → Option Value} {loose : List Str} {mean : ExcName → Option Value} (X : (hd.heap_39 P).In h) (T : Top hd.view_39 loose mean mg mb h) : Bz mg mb (hd.heap_39 P) h where
  G := gl_hd X T
  X := X
  F := kf_hd P
  L := mg_of X T.g (by rfl)
theorem ints_rs {h : Heap} : ∀ {vs : List Value} {ns : List Int}, IntsAre vs ns → RS (fun _ => False) h vs (ns.map D.int)
  | _, _, .nil => .nil
  | _, _, .cons n t r => .cons (.int n t) (ints_rs r)
end Mine
end

section
open PySem PySem.W PyProof.Rows Mine
set_option maxRecDepth 100000 in
set_option maxHeartbeats 8000000 in
theorem PySem.Challenge.cw_pf0329_01_holds : PySem.Challenge.rw_pf0329_01.Holds := by
  refine hd ?_
  k_fill
  intro w s₀ s₁ mg mb G Y fa o pm cd doc dV kV ho hdd hcd hD hmg hg args vals as hpre hlay hrd hwl hlo
  have KX := kIn_of Y
  refine Ground.open G ?_
  intro T B D TE TW
  wrow_args hpre hlay hrd hwl hlo
  rename_i ns hs hlay0 hLa hrr hl2 as4 as3 l vs as0 hIL ra w1 r0 hI hr2 hc1 hc2
  obtain ⟨a', ha', Fa⟩ := (gl_hd KX T).fn pLaw (by simp [fnames, pLaw])
  have hmg' : mg (Str.ofString "law") = some (.ref fa) := hmg
  have hla : mg (Str.ofString "law") = some (.ref a') := ha'
  rw [hmg'] at hla
  cases hla
  show wpAny (model PW w) callerA (call (.ref fa) [.ref l]) _ _ s₁
  refine law_W (mg := mg) (mb := mb) (K := hd.heap_39 w.params) ns (by omega) w callerA (fun _ => False) fa [.ref l] s₁ _ _ s₁.heap [] rm_caller (bz_hd KX T) (below_caller s₁.heap) Fa (fun b hb => hb.elim) (.cons (.lst (fun x => x) hIL (ints_rs hI)) .nil) fun v h' tk hst _ rv => ?_
  cases rv
  exact GoodW.toG ⟨.inl ⟨_, .bool true, [], rfl, fun _ => rfl, .bool true, postW_of (by rfl) (X := _) (by rfl) (by decide +kernel), unshared_nil⟩, hst, rfl, hg⟩
end

