import PyProof.Rows.All
import Wide.All
import OpenK.AllK
import Wide.FinOn
import PyProof.EnumMake
import PyProof.EnumStmt
import PySem.Challenge.RW_tg0003_01
set_option Elab.async false
set_option maxRecDepth 100000
set_option linter.unusedVariables false

-- Hd
section
set_option maxHeartbeats 8000000
open PySem PySem.W PyProof.Rows
namespace Mine
open_top hd for PySem.Challenge.rw_tg0003_01
end Mine
end

-- Fw1
section
namespace Mine
open PySem PySem.Calls PySem.Spec PyProof.Rows

/-- a datum: what a value stands for -/
inductive D where
  | none
  | bool (b : Bool)
  | int (i : Int)
  | lst (l : List D)
  | tup (l : List D)
  | raw (v : Value)

def lobj (vs : List Value) (n : Nat) : Obj := { cls := .type "list", data := .seq vs.toArray n }
def tobj (vs : List Value) (n : Nat) : Obj := { cls := .type "tuple", data := .seq vs.toArray n }

mutual
inductive Has (hid : List Addr) (h : Heap) : Value → D → Prop
  | none : Has hid h Value.none D.none
  | bool (b : Bool) : Has hid h (Value.bool b) (D.bool b)
  | int (i : Int) (t : Tok) : Has hid h (Value.int i t) (D.int i)
  | raw (v : Value) : Has hid h v (D.raw v)
  | lst {a : Addr} {vs : List Value} {n : Nat} {ds : List D} : a ∉ hid → h.get? a = some (lobj vs n) → HasAll hid h vs ds → Has hid h (Value.ref a) (D.lst ds)
  | tup {a : Addr} {vs : List Value} {n : Nat} {ds : List D} : a ∉ hid → h.get? a = some (tobj vs n) → HasAll hid h vs ds → Has hid h (Value.ref a) (D.tup ds)
inductive HasAll (hid : List Addr) (h : Heap) : List Value → List D → Prop
  | nil : HasAll hid h [] []
  | cons {v : Value} {vs : List Value} {d : D} {ds : List D} : Has hid h v d → HasAll hid h vs ds → HasAll hid h (v :: vs) (d :: ds)
end

abbrev Kept (h h' : Heap) : Prop := ∀ b o, h.get? b = some o → h'.get? b = some o
abbrev KeptBut (hid : List Addr) (h h' : Heap) : Prop := ∀ b o, b ∉ hid → h.get? b = some o → h'.get? b = some o

mutual
theorem Has.mono {hid hid' : List Addr} {h h' : Heap} (k : KeptBut hid h h') (s : ∀ a o, a ∉ hid → h.get? a = some o → a ∉ hid') : ∀ {v : Value} {d : D}, Has hid h v d → Has hid' h' v d
  | _, _, .none => .none
  | _, _, .bool b => .bool b
  | _, _, .int i t => .int i t
  | _, _, .raw v => .raw v
  | _, _, .lst n e r => .lst (s _ _ n e) (k _ _ n e) (HasAll.mono k s r)
  | _, _, .tup n e r => .tup (s _ _ n e) (k _ _ n e) (HasAll.mono k s r)
theorem HasAll.mono {hid hid' : List Addr} {h h' : Heap} (k : KeptBut hid h h') (s : ∀ a o, a ∉ hid → h.get? a = some o → a ∉ hid') : ∀ {vs : List Value} {ds : List D}, HasAll hid h vs ds → HasAll hid' h' vs ds
  | _, _, .nil => .nil
  | _, _, .cons x r => .cons (Has.mono k s x) (HasAll.mono k s r)
end
section
variable {hid hid' : List Addr} {h h' : Heap} {v : Value} {d : D} {vs ws : List Value} {ds es : List D}
theorem Has.keep (k : Kept h h') (x : Has hid h v d) : Has hid h' v d := x.mono (fun b o _ e => k b o e) (fun _ _ n _ => n)
theorem HasAll.keep (k : Kept h h') (x : HasAll hid h vs ds) : HasAll hid h' vs ds := x.mono (fun b o _ e => k b o e) (fun _ _ n _ => n)
theorem Has.keepBut (k : KeptBut hid h h') (x : Has hid h v d) : Has hid h' v d := x.mono k (fun _ _ n _ => n)
theorem HasAll.keepBut (k : KeptBut hid h h') (x : HasAll hid h vs ds) : HasAll hid h' vs ds := x.mono k (fun _ _ n _ => n)
theorem Has.weak (s : ∀ a ∈ hid', a ∈ hid) (x : Has hid h v d) : Has hid' h v d := x.mono (fun _ _ _ e => e) (fun _ _ n _ m => n (s _ m))
theorem HasAll.weak (s : ∀ a ∈ hid', a ∈ hid) (x : HasAll hid h vs ds) : HasAll hid' h vs ds := x.mono (fun _ _ _ e => e) (fun _ _ n _ m => n (s _ m))
/-- more may be hidden, if it did not stand yet -/
theorem Has.fresh (s : ∀ a ∈ hid', a ∈ hid ∨ h.get? a = Option.none) (x : Has hid h v d) : Has hid' h v d := x.mono (fun _ _ _ e => e) (fun a o n e m => (s a m).elim n fun q => by rw [q] at e; cases e)
theorem HasAll.fresh (s : ∀ a ∈ hid', a ∈ hid ∨ h.get? a = Option.none) (x : HasAll hid h vs ds) : HasAll hid' h vs ds := x.mono (fun _ _ _ e => e) (fun a o n e m => (s a m).elim n fun q => by rw [q] at e; cases e)
theorem HasAll.length (x : HasAll hid h vs ds) : vs.length = ds.length := by
  induction vs generalizing ds with
  | nil => cases x; rfl
  | cons v vs ih => cases x with | cons _ r => simp [ih r]
theorem HasAll.append (x : HasAll hid h vs ds) (y : HasAll hid h ws es) : HasAll hid h (vs ++ ws) (ds ++ es) := by
  induction vs generalizing ds with
  | nil => cases x; exact y
  | cons v vs ih => cases x with | cons a r => exact .cons a (ih r)
theorem HasAll.get (x : HasAll hid h vs ds) {k : Nat} {d : D} (e : ds[k]? = some d) : ∃ v, vs[k]? = some v ∧ Has hid h v d := by
  induction vs generalizing ds k with
  | nil => cases x; simp at e
  | cons v vs ih => cases x with
    | cons a r => cases k with
      | zero => simp at e; subst e; exact ⟨v, rfl, a⟩
      | succ k => simpa using ih r (by simpa using e)
theorem HasAll.getV (x : HasAll hid h vs ds) {k : Nat} {v : Value} (e : vs[k]? = some v) : ∃ d, ds[k]? = some d ∧ Has hid h v d := by
  induction vs generalizing ds k with
  | nil => simp at e
  | cons v vs ih => cases x with
    | cons a r => cases k with
      | zero => simp at e; subst e; exact ⟨_, rfl, a⟩
      | succ k => simpa using ih r (by simpa using e)
theorem HasAll.drop (x : HasAll hid h vs ds) (k : Nat) : HasAll hid h (vs.drop k) (ds.drop k) := by
  induction vs generalizing ds k with
  | nil => cases x; simpa using .nil
  | cons v vs ih => cases x with
    | cons a r => cases k with
      | zero => exact .cons a r
      | succ k => simpa using ih r k
theorem HasAll.take (x : HasAll hid h vs ds) (k : Nat) : HasAll hid h (vs.take k) (ds.take k) := by
  induction vs generalizing ds k with
  | nil => cases x; simpa using .nil
  | cons v vs ih => cases x with
    | cons a r => cases k with
      | zero => exact .nil
      | succ k => simpa using HasAll.cons a (ih r k)
theorem lobj_isList {a : Addr} {n : Nat} (e : h.get? a = some (lobj vs n)) : h.IsList a vs.toArray := ⟨_, e, rfl, n, rfl⟩
theorem tobj_isTuple {a : Addr} {n : Nat} (e : h.get? a = some (tobj vs n)) : h.IsTuple a vs.toArray := ⟨_, e, rfl, n, rfl⟩
end

/-- every object of a hidden address stands -/
def Live (hid : List Addr) (h : Heap) : Prop := ∀ b ∈ hid, ∃ o, h.get? b = some o
theorem Live.keep {hid : List Addr} {h h' : Heap} (l : Live hid h) (k : Kept h h') : Live hid h' := fun b m => let ⟨o, e⟩ := l b m; ⟨o, k b o e⟩
theorem Live.fresh {hid : List Addr} {h : Heap} (l : Live hid h) {a : Addr} (e : h.get? a = Option.none) : a ∉ hid := fun m => by
  obtain ⟨o, q⟩ := l a m; rw [q] at e; cases e
theorem Live.size {hid : List Addr} {h : Heap} (l : Live hid h) : h.objs.size ∉ hid := fun m => by
  obtain ⟨o, q⟩ := l _ m; exact Nat.lt_irrefl _ (Heap.lt_size q)
theorem get_size (h : Heap) : h.get? h.objs.size = Option.none := by
  cases e : h.get? h.objs.size with
  | none => rfl
  | some o => exact absurd (Heap.lt_size e) (Nat.lt_irrefl _)
theorem get_ge {h : Heap} {a : Addr} (l : h.objs.size ≤ a) : h.get? a = Option.none := by
  cases e : h.get? a with
  | none => rfl
  | some o => exact absurd (Heap.lt_size e) (Nat.not_lt.mpr l)

/-- only objects and tokens have come -/
structure Ks (s s' : Shared) : Prop where
  same : s' = { s with heap := s'.heap, toks := s'.toks }
  kept : Kept s.heap s'.heap
theorem Ks.refl (s : Shared) : Ks s s := ⟨rfl, fun _ _ e => e⟩
theorem Ks.trans {s s₁ s₂ : Shared} (a : Ks s s₁) (b : Ks s₁ s₂) : Ks s s₂ := by
  refine ⟨?_, fun x o e => b.kept x o (a.kept x o e)⟩
  have h2 := b.same
  rw [a.same] at h2
  exact h2
theorem Ks.toks {s : Shared} (t : Nat) : Ks s { s with toks := t } := ⟨rfl, fun _ _ e => e⟩
theorem Ks.push {s : Shared} (o : Obj) : Ks s { s with heap := s.heap.push o } := ⟨rfl, fun _ _ e => Heap.get?_push_of_some _ e⟩
theorem Ks.mk' {s : Shared} {h : Heap} {t : Nat} (k : Kept s.heap h) : Ks s { s with heap := h, toks := t } := ⟨rfl, k⟩
theorem Ks.heap {s : Shared} {h : Heap} (k : Kept s.heap h) : Ks s { s with heap := h } := ⟨rfl, k⟩
theorem Ks.keeps {s s' : Shared} (a : Ks s s') : PySem.Keeps s s' := ⟨_, _, a.same, a.kept⟩
theorem Ks.of {s s' : Shared} (a : PySem.Keeps s s') : Ks s s' := by
  obtain ⟨h, t, rfl, k⟩ := a; exact ⟨rfl, k⟩
end Mine
end

-- Fw2
section
namespace Mine
open PySem PySem.Calls PySem.Spec PyProof.Rows

/-- no starred argument -/
def plain : Expr → Bool
  | .Starred .. => false
  | _ => true
theorem starEach_plain {e : Expr} {es : List Expr} {env : Env} (h : plain e = true) : starEach (e :: es) env = (false, eval e env) :: starEach es env := by
  cases e <;> first | rfl | cases h

section
variable (prog : Program) (w : World) (A : Around) (env : Env) (hid : List Addr) (h : Heap)
/-- the expression comes to the datum, and every object stays -/
def Ev (e : Expr) (d : D) : Prop :=
  ∀ (s : Shared) (Q : Value → Shared → Prop) (E : Value → Shared → Prop), Kept h s.heap → (∀ v s', Ks s s' → Has hid s'.heap v d → Q v s') → wpAny (model prog w) A (eval e env) Q E s
def EvL (es : List Expr) (ds : List D) : Prop :=
  ∀ (pos : Pos) (s : Shared) (Q : List Value → Shared → Prop) (E : Value → Shared → Prop), Kept h s.heap → (∀ vs s', Ks s s' → HasAll hid s'.heap vs ds → Q vs s') → wpAny (model prog w) A (spliced (backTo pos (starEach es env))) Q E s
/-- the test comes out so -/
def Tr (e : Expr) (b : Bool) : Prop :=
  ∀ (s : Shared) (Q : Bool → Shared → Prop) (E : Value → Shared → Prop), Kept h s.heap → (∀ s', Ks s s' → Q b s') → wpAny (model prog w) A (isTrue e env (eval e env)) Q E s
def Op2 (f : Value → Value → Sem Value) (a b d : D) : Prop :=
  ∀ (s : Shared) (u v : Value) (Q : Value → Shared → Prop) (E : Value → Shared → Prop), Kept h s.heap → Has hid s.heap u a → Has hid s.heap v b → (∀ r s', Ks s s' → Has hid s'.heap r d → Q r s') → wpAny (model prog w) A (f u v) Q E s
/-- a call of the value -/
def Ct (f : Value) (ds : List D) (d : D) : Prop :=
  ∀ (s : Shared) (vs : List Value) (Q : Value → Shared → Prop) (E : Value → Shared → Prop), Kept h s.heap → HasAll hid s.heap vs ds → (∀ r s', Ks s s' → Has hid s'.heap r d → Q r s') → wpAny (model prog w) A (call f vs) Q E s
/-- the name is seen as that value -/
def Sees (x : Str) (f : Value) : Prop :=
  ∀ (s : Shared) (pos : Pos) (Q : Value → Shared → Prop) (E : Value → Shared → Prop), Kept h s.heap → Q f s → wpAny (model prog w) A (eval (.Name x pos) env) Q E s
end

section
variable {prog : Program} {w : World} {A : Around} {env : Env} {hid : List Addr} {h h' : Heap} {e l r : Expr} {es : List Expr} {d a b : D} {ds : List D} {pos : Pos}
theorem Ev.mono (k : Kept h h') (x : Ev prog w A env hid h e d) : Ev prog w A env hid h' e d := fun s Q E k' hQ => x s Q E (fun b o q => k' b o (k b o q)) hQ
theorem EvL.mono (k : Kept h h') (x : EvL prog w A env hid h es ds) : EvL prog w A env hid h' es ds := fun p s Q E k' hQ => x p s Q E (fun b o q => k' b o (k b o q)) hQ
theorem Tr.mono {b : Bool} (k : Kept h h') (x : Tr prog w A env h e b) : Tr prog w A env h' e b := fun s Q E k' hQ => x s Q E (fun b o q => k' b o (k b o q)) hQ

theorem Ev.int {i : Int} {k} : Ev prog w A env hid h (.Constant (.int i) k pos) (.int i) := fun s Q E _ hQ =>
  wpAny_Constant_int (hQ _ _ (Ks.toks _) (.int _ _))
theorem Ev.noneC {k} : Ev prog w A env hid h (.Constant .none k pos) .none := fun s Q E _ hQ =>
  wpAny_Constant_none (hQ _ _ (Ks.refl _) .none)
theorem Ev.sees {x : Str} {v : Value} (hs : Sees prog w A env h x v) (hv : Has hid h v d) : Ev prog w A env hid h (.Name x pos) d := fun s Q E k hQ =>
  hs s pos Q E k (hQ _ _ (Ks.refl _) (hv.keep k))

theorem EvL.nil : EvL prog w A env hid h [] [] := fun p s Q E _ hQ => args_nil (hQ _ _ (Ks.refl _) .nil)
theorem EvL.cons (x : Ev prog w A env hid h e d) (y : EvL prog w A env hid h es ds) (he : plain e = true := by rfl) : EvL prog w A env hid h (e :: es) (d :: ds) :=
  fun p s Q E k hQ => args_cons (x s _ E k fun v s₁ k₁ hv => y p s₁ _ E (fun b o q => k₁.kept b o (k b o q)) fun vs s₂ k₂ hvs => hQ _ _ (k₁.trans k₂) (.cons (hv.keep k₂.kept) hvs)) (starEach_plain he)

theorem has_newList {s : Shared} {vs : List Value} (lv : Live hid s.heap) (hvs : HasAll hid s.heap vs ds) : Has hid (s.heap.push (lobj vs 0)) (.ref s.heap.objs.size) (.lst ds) :=
  .lst lv.size (Heap.get?_push_size _ rfl) (hvs.keep fun _ _ q => Heap.get?_push_of_some _ q)
theorem has_newTuple {s : Shared} {vs : List Value} (lv : Live hid s.heap) (hvs : HasAll hid s.heap vs ds) : Has hid (s.heap.push (tobj vs 0)) (.ref s.heap.objs.size) (.tup ds) :=
  .tup lv.size (Heap.get?_push_size _ rfl) (hvs.keep fun _ _ q => Heap.get?_push_of_some _ q)

theorem Ev.list (lv : Live hid h) (x : EvL prog w A env hid h es ds) (hz : Nat.ble ds.length 1000 = true := by rfl) : Ev prog w A env hid h (.List es pos) (.lst ds) := fun s Q E k hQ =>
  wpAny_List_spliced (x pos s _ E k fun vs s₁ k₁ hvs => ⟨by rw [hvs.length]; exact Nat.le_trans (Nat.le_of_ble_eq_true hz) (by decide), hQ _ _ (k₁.trans (Ks.push _)) (has_newList ((lv.keep k).keep k₁.kept) hvs)⟩)
theorem Ev.tuple {k₀} (lv : Live hid h) (x : EvL prog w A env hid h es ds) (hz : Nat.ble ds.length 1000 = true := by rfl) : Ev prog w A env hid h (.Tuple es k₀ pos) (.tup ds) := fun s Q E k hQ =>
  wpAny_Tuple_spliced (x pos s _ E k fun vs s₁ k₁ hvs => ⟨by rw [hvs.length]; exact Nat.le_trans (Nat.le_of_ble_eq_true hz) (by decide), hQ _ _ (k₁.trans (Ks.push _)) (has_newTuple ((lv.keep k).keep k₁.kept) hvs)⟩)

theorem Ev.bin {op : Operator} (x : Ev prog w A env hid h l a) (y : Ev prog w A env hid h r b) (o : Op2 prog w A hid h (binaryOp op) a b d) : Ev prog w A env hid h (.BinOp l op r pos) d := fun s Q E k hQ =>
  wpAny_BinOp (x s _ E k fun u s₁ k₁ hu => y s₁ _ E (fun b o q => k₁.kept b o (k b o q)) fun v s₂ k₂ hv =>
    o s₂ u v _ E (fun b o q => k₂.kept b o (k₁.kept b o (k b o q))) (hu.keep k₂.kept) hv fun z s₃ k₃ hz => hQ _ _ ((k₁.trans k₂).trans k₃) hz)
theorem Ev.cmp {op : CmpOp} (x : Ev prog w A env hid h l a) (y : Ev prog w A env hid h r b) (o : Op2 prog w A hid h (compareOp op) a b d) (hm : behindInMarks op r = false := by with_unfolding_all rfl) :
    Ev prog w A env hid h (.Compare l [op] [r] pos) d := fun s Q E k hQ =>
  wpAny_Compare1 (x s _ E k fun u s₁ k₁ hu => y s₁ _ E (fun b o q => k₁.kept b o (k b o q)) fun v s₂ k₂ hv =>
    o s₂ u v _ E (fun b o q => k₂.kept b o (k₁.kept b o (k b o q))) (hu.keep k₂.kept) hv fun z s₃ k₃ hz => hQ _ _ ((k₁.trans k₂).trans k₃) hz) hm
theorem Ev.un {op : UnaryOp} {i j : Int} (x : Ev prog w A env hid h l (.int i)) (o : ∀ (s : Shared) (t : Tok) (Q : Value → Shared → Prop) (E : Value → Shared → Prop), (∀ t tk, Q (.int j t) { s with toks := tk }) → wpAny (model prog w) A (unaryOp op (.int i t)) Q E s) :
    Ev prog w A env hid h (.UnaryOp op l pos) (.int j) := fun s Q E k hQ =>
  wpAny_UnaryOp (x s _ E k fun u s₁ k₁ hu => by
    cases hu with
    | int _ t => exact o s₁ t _ E fun t' tk => hQ _ _ (k₁.trans (Ks.toks tk)) (.int _ _))
theorem Ev.neg {i : Int} (x : Ev prog w A env hid h l (.int i)) : Ev prog w A env hid h (.UnaryOp .USub l pos) (.int (-i)) := Ev.un x fun s t Q E hQ => PyProof.Rows.neg_int (hQ _ _)

-- ints
section
variable {i j : Int}
theorem op_of (f : Value → Value → Sem Value) (d : D) (o : ∀ (s : Shared) (t u : Tok) (Q : Value → Shared → Prop) (E : Value → Shared → Prop), (∀ v s', Ks s s' → Has hid s'.heap v d → Q v s') → wpAny (model prog w) A (f (.int i t) (.int j u)) Q E s) :
    Op2 prog w A hid h f (.int i) (.int j) d := fun s u v Q E k hu hv hQ => by
  cases hu with
  | int _ t => cases hv with
    | int _ t' => exact o s t t' Q E hQ
theorem Op2.add : Op2 prog w A hid h (binaryOp .Add) (.int i) (.int j) (.int (i + j)) := op_of _ _ fun s t u Q E hQ => PyProof.Rows.add_int (hQ _ _ (Ks.toks _) (.int _ _))
theorem Op2.sub : Op2 prog w A hid h (binaryOp .Sub) (.int i) (.int j) (.int (i - j)) := op_of _ _ fun s t u Q E hQ => PyProof.Rows.sub_int (hQ _ _ (Ks.toks _) (.int _ _))
theorem Op2.mul (hm : IntMulOk i j) : Op2 prog w A hid h (binaryOp .Mult) (.int i) (.int j) (.int (i * j)) := op_of _ _ fun s t u Q E hQ => PyProof.Rows.mul_int (hQ _ _ (Ks.toks _) (.int _ _)) hm
theorem Op2.fdiv (hj : j ≠ 0) (hp : Builtin.divisionGoesByPylong i j = false) : Op2 prog w A hid h (binaryOp .FloorDiv) (.int i) (.int j) (.int (i.fdiv j)) := op_of _ _ fun s t u Q E hQ => PyProof.Rows.floordiv_int hj (hQ _ _ (Ks.toks _) (.int _ _)) (.inl hp)
theorem Op2.mod (hj : j ≠ 0) : Op2 prog w A hid h (binaryOp .Mod) (.int i) (.int j) (.int (i.fmod j)) := op_of _ _ fun s t u Q E hQ => PyProof.Rows.mod_int' hj (hQ _ _ (Ks.toks _) (.int _ _))
theorem Op2.eqI : Op2 prog w A hid h (compareOp .Eq) (.int i) (.int j) (.bool (i == j)) := op_of _ _ fun s t u Q E hQ => PyProof.Rows.eq_int (hQ _ _ (Ks.refl _) (.bool _))
theorem Op2.neI : Op2 prog w A hid h (compareOp .NotEq) (.int i) (.int j) (.bool (i != j)) := op_of _ _ fun s t u Q E hQ => PyProof.Rows.ne_int (hQ _ _ (Ks.refl _) (.bool _))
theorem Op2.ltI : Op2 prog w A hid h (compareOp .Lt) (.int i) (.int j) (.bool (decide (i < j))) := op_of _ _ fun s t u Q E hQ => PyProof.Rows.lt_int (hQ _ _ (Ks.refl _) (.bool _))
theorem Op2.gtI : Op2 prog w A hid h (compareOp .Gt) (.int i) (.int j) (.bool (decide (j < i))) := op_of _ _ fun s t u Q E hQ => PyProof.Rows.gt_int (hQ _ _ (Ks.refl _) (.bool _))
theorem Op2.leI : Op2 prog w A hid h (compareOp .LtE) (.int i) (.int j) (.bool (decide (i ≤ j))) := op_of _ _ fun s t u Q E hQ => P.le_int (hQ _ _ (Ks.refl _) (.bool _))
end

-- calls
theorem Ev.call {x : Str} {np : Pos} {f : Value} (hs : Sees prog w A env h x f) (xs : EvL prog w A env hid h (e :: es) ds)
    (cw : ∀ (s₁ : Shared) (Q : Value → Shared → Prop) (E : Value → Shared → Prop), Kept h s₁.heap → wpAny (model prog w) A (spliced (backTo pos (starEach (e :: es) env))) (fun vs s₂ => Kept h s₂.heap ∧ wpAny (model prog w) A (call f vs) Q E s₂) E s₁ → wpAny (model prog w) A (callWith pos f [] (backTo pos (starEach (e :: es) env)) []) Q E s₁)
    (ct : Ct prog w A hid h f ds d) : Ev prog w A env hid h (.Call (.Name x np) (e :: es) [] pos) d := fun s Q E k hQ =>
  Call_ (hs s np _ E k (cw s _ E k (xs pos s _ E k fun vs s₁ k₁ hvs => ⟨fun b o q => k₁.kept b o (k b o q), ct s₁ vs _ E (fun b o q => k₁.kept b o (k b o q)) hvs fun r s₂ k₂ hr => hQ _ _ (k₁.trans k₂) hr⟩)))
theorem Ev.callB {x : Str} {np : Pos} {id : String} (hs : Sees prog w A env h x (.builtin id)) (xs : EvL prog w A env hid h (e :: es) ds) (ct : Ct prog w A hid h (.builtin id) ds d)
    (he : plain e = true := by rfl) (hp : (backTo pos (starEach es env)).any (·.1) = false := by rfl) : Ev prog w A env hid h (.Call (.Name x np) (e :: es) [] pos) d :=
  Ev.call hs xs (fun s₁ Q E _ hq => callWith_builtin1 (wpAny_mono hq (fun _ _ q => q.2) fun _ _ q => q) (starEach_plain he) hp) ct
theorem Ev.callT {x : Str} {np : Pos} {T : String} (hs : Sees prog w A env h x (.type T)) (xs : EvL prog w A env hid h (e :: es) ds) (ct : Ct prog w A hid h (.type T) ds d)
    (he : plain e = true := by rfl) (hp : (backTo pos (starEach es env)).any (·.1) = false := by rfl) : Ev prog w A env hid h (.Call (.Name x np) (e :: es) [] pos) d :=
  Ev.call hs xs (fun s₁ Q E _ hq => callWith_type1 (wpAny_mono hq (fun _ _ q => q.2) fun _ _ q => q) (starEach_plain he) hp) ct
theorem Ev.callF {x : Str} {np : Pos} {f : Addr} {o : Obj} {fd : FuncData} (hs : Sees prog w A env h x (.ref f)) (ho : h.get? f = some o) (hd : o.data = .func fd) (xs : EvL prog w A env hid h (e :: es) ds) (ct : Ct prog w A hid h (.ref f) ds d)
    (he : plain e = true := by rfl) : Ev prog w A env hid h (.Call (.Name x np) (e :: es) [] pos) d :=
  Ev.call hs xs (fun s₁ Q E _ hq => callWith_def hd (wpAny_mono hq (fun _ _ q => ⟨q.1 _ _ ho, q.2⟩) fun _ _ q => q) (starEach_plain he)) ct

theorem ct_len (hz : ds.length < 2 ^ 62) : Ct prog w A hid h (.builtin "len") [.lst ds] (.int ds.length) := fun s vs Q E k hv hQ => by
  cases hv with
  | cons x r => cases r; cases x with
    | lst n e r =>
      have hl := r.length
      refine PyProof.Rows.len_list (lobj_isList e) (by simp; omega) ?_
      have e2 : ((‹List Value›.toArray.size : Nat) : Int) = (ds.length : Int) := by rw [List.size_toArray, hl]
      rw [e2]
      exact hQ _ _ (Ks.toks _) (.int _ _)
end
end Mine
end

-- Fw3
section
namespace Mine
open PySem PySem.Calls PySem.Spec PyProof.Rows

def upd (ρ : Str → Option D) (x : Str) (d : D) : Str → Option D := fun y => if y = x then some d else ρ y

/-- a frame: its names' data; oc: its own cells -/
structure Fm (hid : List Addr) (h : Heap) (env : Env) (oc : List (Str × Addr)) (ρ : Str → Option D) : Prop where
  kind : env.scope.kind = .function
  lhid : env.locals ∈ hid
  cell : ∀ p ∈ oc, env.kindOf p.1 = some .cell ∧ env.cells.lookup p.1 = some p.2 ∧ p.2 ∈ hid ∧ (∃ v, h.IsCell p.2 v) ∧ ∀ y, y ≠ p.1 → env.cells.lookup y ≠ some p.2
  loc : ∃ m, h.Ns env.locals m ∧ ∀ x d, env.kindOf x = some .local → ρ x = some d → ∃ v, m x = some v ∧ Has hid h v d
  cel : ∀ x d, (env.kindOf x = some .cell ∨ env.kindOf x = some .free) → ρ x = some d → ∃ c v, env.cells.lookup x = some c ∧ h.IsCell c (some v) ∧ Has hid h v d

section
variable {prog : Program} {w : World} {M : Model} {A : Around} {env : Env} {hid hid' : List Addr} {h h' : Heap} {oc : List (Str × Addr)} {ρ : Str → Option D}
theorem Fm.mono (F : Fm hid h env oc ρ) (s : ∀ a ∈ hid, a ∈ hid') (k : ∀ a o, a ∉ hid → h.get? a = some o → a ∉ hid') (kl : Kept h h') : Fm hid' h' env oc ρ where
  kind := F.kind
  lhid := s _ F.lhid
  cell := fun p hp => let ⟨a, b, c, ⟨v, d⟩, e⟩ := F.cell p hp; ⟨a, b, s _ c, ⟨v, d.keeps kl⟩, e⟩
  loc := let ⟨m, hn, hm⟩ := F.loc; ⟨m, hn.keeps kl, fun x d hx hd => let ⟨v, e, hv⟩ := hm x d hx hd; ⟨v, e, hv.mono (fun b o _ q => kl b o q) k⟩⟩
  cel := fun x d hx hd => let ⟨c, v, e, hc, hv⟩ := F.cel x d hx hd; ⟨c, v, e, hc.keeps kl, hv.mono (fun b o _ q => kl b o q) k⟩
theorem Fm.keep (F : Fm hid h env oc ρ) (k : Kept h h') : Fm hid h' env oc ρ := F.mono (fun _ m => m) (fun _ _ n _ => n) k
/-- something hidden that is no namespace and no cell may turn -/
theorem Fm.but {a : Addr} {o : Obj} (F : Fm hid h env oc ρ) (ha : a ∈ hid) (ho : h.get? a = some o) (hd : ∀ es ep, o.data ≠ .dict es ep) (hc : ∀ v, o.data ≠ .cell v) (k : ∀ b o, b ≠ a → h.get? b = some o → h'.get? b = some o) : Fm hid h' env oc ρ := by
  have kb : KeptBut hid h h' := fun b o' hb e => k b o' (fun q => hb (q ▸ ha)) e
  have cc : ∀ c v, h.IsCell c v → h'.IsCell c v := fun c v ⟨o', e, q⟩ => ⟨o', k c o' (fun z => by subst z; rw [ho] at e; cases e; exact hc _ q) e, q⟩
  refine ⟨F.kind, F.lhid, fun p hp => ?_, ?_, fun x d hx hd' => ?_⟩
  · obtain ⟨a1, b1, c1, ⟨v, d1⟩, e1⟩ := F.cell p hp
    exact ⟨a1, b1, c1, ⟨v, cc _ _ d1⟩, e1⟩
  · obtain ⟨m, ⟨o', es, ep, e, q, r⟩, hm⟩ := F.loc
    refine ⟨m, ⟨o', es, ep, k _ _ (fun z => ?_) e, q, r⟩, fun x d hx hd' => ?_⟩
    · rw [z, ho] at e; cases e; exact hd _ _ q
    · obtain ⟨v, e', hv⟩ := hm x d hx hd'
      exact ⟨v, e', hv.keepBut kb⟩
  · obtain ⟨c, v, e, hv, hh⟩ := F.cel x d hx hd'
    exact ⟨c, v, e, cc _ _ hv, hh.keepBut kb⟩

theorem Fm.ev (F : Fm hid h env oc ρ) {x : Str} {pos : Pos} {d : D} (e : ρ x = some d) (k : env.kindOf x = some .local ∨ env.kindOf x = some .cell ∨ env.kindOf x = some .free) (hb : (x == ("__debug__" : Str)) = false := by decide)
    (hn : (x == ("__classdict__" : Str)) = false := by decide) : Ev prog w A env hid h (.Name x pos) d := fun s Q E kk hQ => by
  have F' := F.keep kk
  refine wpAny_Name ?_ hb
  rcases k with k | k | k
  · obtain ⟨m, hm, hr⟩ := F'.loc
    obtain ⟨v, ev, hv⟩ := hr x d k e
    exact wpAny_loadName_local F.kind k hm ev (hQ _ _ (Ks.refl _) hv)
  · obtain ⟨c, v, ec, hc, hv⟩ := F'.cel x d (.inl k) e
    exact wpAny_loadName_cell F.kind k ec hc (hQ _ _ (Ks.refl _) hv)
  · obtain ⟨c, v, ec, hc, hv⟩ := F'.cel x d (.inr k) e
    exact wpAny_loadName_free F.kind k ec hc (hQ _ _ (Ks.refl _) hv) hn

theorem lookup_upd_ne {x y : Str} {d : D} (hn : y ≠ x) : upd ρ x d y = ρ y := if_neg hn
theorem lookup_upd_eq {x : Str} {d : D} : upd ρ x d x = some d := if_pos rfl

/-- the place where a name is stored -/
def Place (env : Env) (oc : List (Str × Addr)) (x : Str) (b : Addr) : Prop := (env.kindOf x = some .local ∧ b = env.locals) ∨ (x, b) ∈ oc

theorem Fm.store (F : Fm hid h env oc ρ) {s : Shared} {x : Str} {b : Addr} {v : Value} {d : D} {Q : Unit → Shared → Prop} {E : Value → Shared → Prop} (es : s.heap = h) (p : Place env oc x b) (hv : Has hid h v d)
    (k : ∀ h' tk, Fm hid h' env oc (upd ρ x d) → Heap.SameBut b h h' → (∃ o, h.get? b = some o ∧ ((∃ es ep, o.data = .dict es ep) ∨ ∃ v, o.data = .cell v)) → Q () { s with heap := h', toks := tk }) : wpAny M A (storeName env x v) Q E s := by
  subst es
  rcases p with ⟨hk, rfl⟩ | hp
  · obtain ⟨m, hm, hr⟩ := F.loc
    refine wpAny_storeName_local hk hm (fun h' hn hs => ?_) (by rw [F.kind]; rfl)
    have kb : KeptBut hid s.heap h' := fun b o hb e => (hs.2 b (fun q => hb (q ▸ F.lhid))).trans e
    have hcell : ∀ c v, s.heap.IsCell c v → h'.IsCell c v := fun c v hc => hc.sameBut hs (fun q => by
      obtain ⟨o, e, hd⟩ := hc
      obtain ⟨o', _, _, e', hd', _⟩ := hm
      rw [q, e'] at e; cases e; rw [hd'] at hd; cases hd)
    refine k h' _ ⟨F.kind, F.lhid, fun p hp => ?_, ⟨_, hn, fun y d' hy hd => ?_⟩, fun y d' hy hd => ?_⟩ hs ?_
    · obtain ⟨a1, b1, c1, ⟨v, d1⟩, e1⟩ := F.cell p hp
      exact ⟨a1, b1, c1, ⟨v, hcell _ _ d1⟩, e1⟩
    · by_cases q : y = x
      · subst q
        rw [lookup_upd_eq] at hd; cases hd
        exact ⟨v, if_pos rfl, hv.keepBut kb⟩
      · rw [lookup_upd_ne q] at hd
        obtain ⟨u, e, hu⟩ := hr y d' hy hd
        exact ⟨u, by rw [if_neg q]; exact e, hu.keepBut kb⟩
    · have q : y ≠ x := fun z => by subst z; rw [hk] at hy; rcases hy with hy | hy <;> cases hy
      rw [lookup_upd_ne q] at hd
      obtain ⟨c, u, e, hc, hu⟩ := F.cel y d' hy hd
      exact ⟨c, u, e, hcell _ _ hc, hu.keepBut kb⟩
    · obtain ⟨o, es, ep, e, hd, _⟩ := hm
      exact ⟨o, e, .inl ⟨es, ep, hd⟩⟩
  · obtain ⟨hk, hl, hh, ⟨v0, hc⟩, hu⟩ := F.cell _ hp
    refine wpAny_storeName_cell F.kind hk hl hc fun h' hc' hs => ?_
    have kb : KeptBut hid s.heap h' := fun b' o hb e => (hs.2 b' (fun q => hb (q ▸ hh))).trans e
    refine k h' s.toks ⟨F.kind, F.lhid, fun p hp' => ?_, ?_, fun y d' hy hd => ?_⟩ hs ?_
    · obtain ⟨a1, b1, c1, ⟨v1, d1⟩, e1⟩ := F.cell p hp'
      refine ⟨a1, b1, c1, ?_, e1⟩
      by_cases q : p.2 = b
      · rw [q]; exact ⟨_, hc'⟩
      · exact ⟨v1, d1.sameBut hs q⟩
    · obtain ⟨m, hm, hr⟩ := F.loc
      refine ⟨m, hm.sameBut hs (fun q => ?_), fun y d' hy hd => ?_⟩
      · obtain ⟨o, e, hd⟩ := hc
        obtain ⟨o', _, _, e', hd', _⟩ := hm
        rw [q] at e'; rw [e'] at e; cases e; rw [hd'] at hd; cases hd
      · have q : y ≠ x := fun z => by subst z; rw [hk] at hy; cases hy
        rw [lookup_upd_ne q] at hd
        obtain ⟨u, e, hu⟩ := hr y d' hy hd
        exact ⟨u, e, hu.keepBut kb⟩
    · by_cases q : y = x
      · subst q
        rw [lookup_upd_eq] at hd; cases hd
        exact ⟨b, v, hl, hc', hv.keepBut kb⟩
      · rw [lookup_upd_ne q] at hd
        obtain ⟨c, u, e, hc2, hu2⟩ := F.cel y d' hy hd
        refine ⟨c, u, e, hc2.sameBut hs (fun z => ?_), hu2.keepBut kb⟩
        subst z
        exact hu y q e
    · obtain ⟨o, e, hd⟩ := hc
      exact ⟨o, e, .inr ⟨_, hd⟩⟩
end

/-- what a call owns and may turn -/
inductive Ob where
  | lst (ds : List D)
  | dct (prog : Program) (w : World) (ys : List (List Int × Addr × Value))
def Ob.ok (hid : List Addr) (h : Heap) (a : Addr) : Ob → Prop
  | .lst ds => ∃ vs n, h.get? a = some (lobj vs n) ∧ HasAll hid h vs ds
  | .dct prog w ys => h.DictOfH (tupleKind (intKind prog w)) a ys ∧ ∀ y ∈ ys, y.2.1 ∉ hid

/-- the state within a call: hb stays -/
structure Stt (hid : List Addr) (hb : Addr → Option Obj) (σ s : Shared) (env : Env) (oc : List (Str × Addr)) (ow : List (Addr × Ob)) (ρ : Str → Option D) : Prop where
  same : s = { σ with heap := s.heap, toks := s.toks }
  kept : ∀ b o, hb b = some o → s.heap.get? b = some o
  off : ∀ b, (b = env.locals ∨ ∃ p ∈ oc, p.2 = b) → hb b = none
  live : Live hid s.heap
  fm : Fm hid s.heap env oc ρ
  own : ∀ p ∈ ow, p.1 ∈ hid ∧ hb p.1 = none ∧ p.2.ok hid s.heap p.1
  ownl : ∀ p ∈ ow, p.1 ≠ env.locals

section
variable {prog : Program} {w : World} {M : Model} {A : Around} {env : Env} {hid hid' : List Addr} {hb : Addr → Option Obj} {σ s s' : Shared} {oc : List (Str × Addr)} {ow : List (Addr × Ob)} {ρ : Str → Option D}
theorem Ob.ok.keepBut {h h' : Heap} {a : Addr} {o : Ob} (x : o.ok hid h a) (ka : ∀ o, h.get? a = some o → h'.get? a = some o) (k : KeptBut hid h h') : o.ok hid h' a := by
  cases o with
  | lst ds => obtain ⟨vs, n, e, r⟩ := x; exact ⟨vs, n, ka _ e, r.keepBut k⟩
  | dct prog w ys =>
    obtain ⟨⟨o, es, ep, e1, e2, e3, e4, e5, e6⟩, hn⟩ := x
    refine ⟨⟨o, es, ep, ka _ e1, e2, e3, e4, fun y hy => ?_, e6⟩, hn⟩
    obtain ⟨o', items, n, ho, q1, q2, q3⟩ := e5 y hy
    exact ⟨o', items, n, k _ _ (hn y hy) ho, q1, q2, q3⟩
theorem Stt.keep (S : Stt hid hb σ s env oc ow ρ) (k : Ks s s') : Stt hid hb σ s' env oc ow ρ where
  same := by have := k.same; rw [S.same] at this; exact this
  kept := fun b o e => k.kept b o (S.kept b o e)
  off := S.off
  live := S.live.keep k.kept
  fm := S.fm.keep k.kept
  own := fun p hp => let ⟨a, b, c⟩ := S.own p hp; ⟨a, b, c.keepBut (fun o e => k.kept _ o e) (fun b o _ e => k.kept b o e)⟩
  ownl := S.ownl
theorem Stt.store (S : Stt hid hb σ s env oc ow ρ) {x : Str} {b : Addr} {v : Value} {d : D} {Q : Unit → Shared → Prop} {E : Value → Shared → Prop} (p : Place env oc x b) (hv : Has hid s.heap v d)
    (k : ∀ s', Stt hid hb σ s' env oc ow (upd ρ x d) → KeptBut hid s.heap s'.heap → Q () s') : wpAny M A (storeName env x v) Q E s := by
  have hbm : b ∈ hid := by
    rcases p with ⟨_, rfl⟩ | p
    · exact S.fm.lhid
    · exact (S.fm.cell _ p).2.2.1
  refine S.fm.store rfl p hv fun h' tk F hs ⟨ob, hob, hkind⟩ => k _ ⟨?_, fun c o e => (hs.2 c fun q => ?_).trans (S.kept c o e), S.off, fun c hc => ?_, F, fun q hq => ?_, S.ownl⟩ (fun c o hc e => (hs.2 c fun z => hc (z ▸ hbm)).trans e)
  · rw [S.same]
  · have : hb b = none := S.off b (by
      rcases p with ⟨_, rfl⟩ | p
      · exact .inl rfl
      · exact .inr ⟨_, p, rfl⟩)
    rw [q, this] at e; cases e
  · obtain ⟨o, e⟩ := S.live c hc
    by_cases q : c = b
    · subst q
      rcases p with ⟨_, rfl⟩ | p
      · obtain ⟨m, ⟨o', _, _, e', _⟩, _⟩ := F.loc; exact ⟨o', e'⟩
      · obtain ⟨_, _, _, ⟨_, o', e', _⟩, _⟩ := F.cell _ p; exact ⟨o', e'⟩
    · exact ⟨o, (hs.2 c q).trans e⟩
  · obtain ⟨a1, b1, c1⟩ := S.own q hq
    refine ⟨a1, b1, c1.keepBut (fun o e => (hs.2 _ fun z => ?_).trans e) fun c o hc e => (hs.2 c fun z => hc (z ▸ hbm)).trans e⟩
    cases hq2 : q.2 with
    | lst ds =>
      rw [hq2] at c1
      obtain ⟨vs, n, e1, _⟩ := c1
      rw [z, hob] at e1
      cases e1
      rcases hkind with ⟨_, _, hk⟩ | ⟨_, hk⟩ <;> cases hk
    | dct prog w ys =>
      rw [hq2] at c1
      obtain ⟨⟨o1, es, ep, e1, e2, e3, _⟩, _⟩ := c1
      rcases p with ⟨_, rfl⟩ | p
      · exact S.ownl q hq z
      · obtain ⟨_, _, _, ⟨_, o', e', hd'⟩, _⟩ := S.fm.cell _ p
        simp only at e'
        rw [z] at e1
        rw [e1] at e'; cases e'; rw [e3] at hd'; cases hd'
end
end Mine
end

-- Fw4
section
namespace Mine
open PySem PySem.Calls PySem.Spec PyProof.Rows

section
variable {prog : Program} {w : World} {A : Around} {env : Env} {hid hid' : List Addr} {hb hb' : Addr → Option Obj} {σ s s' : Shared} {oc : List (Str × Addr)} {ow : List (Addr × Ob)} {ρ : Str → Option D}
  {E : Value → Shared → Prop}
theorem Ob.ok.mono {h h' : Heap} {a : Addr} {o : Ob} (x : o.ok hid h a) (ka : ∀ o, h.get? a = some o → h'.get? a = some o) (k : KeptBut hid h h') (q : ∀ a o, a ∉ hid → h.get? a = some o → a ∉ hid') : o.ok hid' h' a := by
  cases o with
  | lst ds => obtain ⟨vs, n, e, r⟩ := x; exact ⟨vs, n, ka _ e, r.mono k q⟩
  | dct prog w ys =>
    obtain ⟨⟨o, es, ep, e1, e2, e3, e4, e5, e6⟩, hn⟩ := x
    refine ⟨⟨o, es, ep, ka _ e1, e2, e3, e4, fun y hy => ?_, e6⟩, fun y hy => ?_⟩
    · obtain ⟨o', items, n, ho, q1, q2, q3⟩ := e5 y hy
      exact ⟨o', items, n, k _ _ (hn y hy) ho, q1, q2, q3⟩
    · obtain ⟨o', items, n, ho, _⟩ := e5 y hy
      exact q _ _ (hn y hy) ho

/-- one more address is hidden: it did not stand -/
theorem Stt.hide {I : Addr} {o : Obj} {h' : Heap} (S : Stt hid hb σ s env oc ow ρ) (hI : s.heap.get? I = none) (ho : h'.get? I = some o) (k : Kept s.heap h') : Stt (I :: hid) hb σ { s with heap := h' } env oc ow ρ where
  same := by rw [S.same]
  kept := fun b o e => k b o (S.kept b o e)
  off := S.off
  live := fun b hb => by
    rcases List.mem_cons.mp hb with rfl | hb
    · exact ⟨o, ho⟩
    · obtain ⟨o', e⟩ := S.live b hb; exact ⟨o', k _ _ e⟩
  fm := S.fm.mono (fun _ m => .tail _ m) (fun a o' n e m => by
    rcases List.mem_cons.mp m with rfl | m
    · rw [hI] at e; cases e
    · exact n m) k
  own := fun p hp => by
    obtain ⟨a, b, c⟩ := S.own p hp
    exact ⟨.tail _ a, b, c.mono (fun o e => k _ o e) (fun b o _ e => k b o e) (fun a o' n e m => by
      rcases List.mem_cons.mp m with rfl | m
      · rw [hI] at e; cases e
      · exact n m)⟩
  ownl := S.ownl
/-- an iterator, hidden, turns -/
theorem Stt.but {I : Addr} {o : Obj} {h' : Heap} {tk : Nat} (S : Stt hid hb σ s env oc ow ρ) (hI : I ∈ hid) (ho : s.heap.get? I = some o) (hd : ∀ es ep, o.data ≠ .dict es ep) (hc : ∀ v, o.data ≠ .cell v) (hl : ∀ vs n, o.data ≠ .seq vs n) (hn : hb I = none) (hI' : ∃ o, h'.get? I = some o)
    (k : ∀ b o, b ≠ I → s.heap.get? b = some o → h'.get? b = some o) : Stt hid hb σ { s with heap := h', toks := tk } env oc ow ρ where
  same := by rw [S.same]
  kept := fun b o e => k b o (fun q => by rw [q, hn] at e; cases e) (S.kept b o e)
  off := S.off
  live := fun b hb => by
    by_cases q : b = I
    · subst q; exact hI'
    · obtain ⟨o', e⟩ := S.live b hb; exact ⟨o', k _ _ q e⟩
  fm := S.fm.but hI ho hd hc k
  own := fun p hp => by
    obtain ⟨a, b, c⟩ := S.own p hp
    refine ⟨a, b, c.keepBut (fun o' e => k _ o' (fun q => ?_) e) (fun b o' hb e => k b o' (fun q => hb (q ▸ hI)) e)⟩
    obtain ⟨p1, p2⟩ := p
    cases p2 with
    | lst ds =>
      obtain ⟨vs, n, e1, _⟩ := c
      simp only at q e1
      rw [q, ho] at e1; cases e1
      exact hl _ _ rfl
    | dct prog w ys =>
      obtain ⟨⟨o1, es, ep, e1, _, e3, _⟩, _⟩ := c
      simp only at q
      rw [q, ho] at e1; cases e1
      exact hd _ _ e3
  ownl := S.ownl
theorem Stt.unhide {I : Addr} (S : Stt (I :: hid) hb σ s env oc ow ρ) (hL : env.locals ∈ hid) (hoc : ∀ p ∈ oc, p.2 ∈ hid) (how : ∀ p ∈ ow, p.1 ∈ hid) : Stt hid hb σ s env oc ow ρ where
  same := S.same
  kept := S.kept
  off := S.off
  live := fun b hb => S.live b (.tail _ hb)
  fm := ⟨S.fm.kind, hL, fun p hp => let ⟨a, b, c, d, e⟩ := S.fm.cell p hp; ⟨a, b, hoc p hp, d, e⟩, let ⟨m, hn, hm⟩ := S.fm.loc; ⟨m, hn, fun x d hx hd => let ⟨v, e, hv⟩ := hm x d hx hd; ⟨v, e, hv.weak fun _ m => .tail _ m⟩⟩,
    fun x d hx hd => let ⟨c, v, e, hc, hv⟩ := S.fm.cel x d hx hd; ⟨c, v, e, hc, hv.weak fun _ m => .tail _ m⟩⟩
  own := fun p hp => by
    obtain ⟨a, b, c⟩ := S.own p hp
    exact ⟨how p hp, b, c.mono (fun _ e => e) (fun _ _ _ e => e) (fun _ _ n _ m => n (.tail _ m))⟩
  ownl := S.ownl

/-- an iterator, hidden, goes -/
theorem Stt.drop {I : Addr} {o : Obj} {h' : Heap} {tk : Nat} (S : Stt (I :: hid) hb σ s env oc ow ρ) (hIn : I ∉ hid) (ho : s.heap.get? I = some o) (hd : ∀ es ep, o.data ≠ .dict es ep) (hc : ∀ v, o.data ≠ .cell v) (hl : ∀ vs n, o.data ≠ .seq vs n) (hn : hb I = none)
    (k : ∀ b o, b ≠ I → s.heap.get? b = some o → h'.get? b = some o) (how : ∀ p ∈ ow, p.1 ∈ hid) : Stt hid hb σ { s with heap := h', toks := tk } env oc ow ρ := by
  have kb : KeptBut (I :: hid) s.heap h' := fun b o' hb e => k b o' (fun q => hb (q ▸ .head _)) e
  have hL : env.locals ∈ hid := by
    rcases List.mem_cons.mp S.fm.lhid with q | q
    · obtain ⟨m, ⟨o', es, ep, e', hd', _⟩, _⟩ := S.fm.loc
      rw [q, ho] at e'; cases e'; exact absurd hd' (hd _ _)
    · exact q
  have hC : ∀ p ∈ oc, p.2 ∈ hid := fun p hp => by
    obtain ⟨_, _, c1, ⟨v', o', e', hd'⟩, _⟩ := S.fm.cell p hp
    rcases List.mem_cons.mp c1 with q | q
    · rw [q, ho] at e'; cases e'; exact absurd hd' (hc _)
    · exact q
  have F := S.fm.but (h' := h') (.head _) ho hd hc k
  refine ⟨by rw [S.same], fun b o e => k b o (fun q => by rw [q, hn] at e; cases e) (S.kept b o e), S.off, fun b hb => ?_, ?_, fun p hp => ?_, S.ownl⟩
  · obtain ⟨o', e⟩ := S.live b (.tail _ hb)
    exact ⟨o', k _ _ (fun q => hIn (q ▸ hb)) e⟩
  · exact ⟨F.kind, hL, fun p hp => let ⟨a, b, c, d, e⟩ := F.cell p hp; ⟨a, b, hC p hp, d, e⟩, let ⟨m, hn, hm⟩ := F.loc; ⟨m, hn, fun x d hx hd => let ⟨v, e, hv⟩ := hm x d hx hd; ⟨v, e, hv.weak fun _ m => .tail _ m⟩⟩,
      fun x d hx hd => let ⟨c, v, e, hc, hv⟩ := F.cel x d hx hd; ⟨c, v, e, hc, hv.weak fun _ m => .tail _ m⟩⟩
  · obtain ⟨a, b, c⟩ := S.own p hp
    refine ⟨how p hp, b, c.mono (fun o' e => k _ o' (fun q => hIn (q ▸ how p hp)) e) kb (fun _ _ n _ m => n (.tail _ m))⟩

open Classical in
/-- all that stands, but what the call owns -/
noncomputable def baseOf (s : Shared) (env : Env) (oc : List (Str × Addr)) (ow : List (Addr × Ob)) : Addr → Option Obj :=
  fun b => if b = env.locals ∨ (∃ p ∈ oc, p.2 = b) ∨ (∃ p ∈ ow, p.1 = b) then none else s.heap.get? b
theorem Stt.rebase (S : Stt hid hb σ s env oc ow ρ) : Stt hid (baseOf s env oc ow) σ s env oc ow ρ where
  same := S.same
  kept := fun b o e => by unfold baseOf at e; split at e; cases e; exact e
  off := fun b q => by unfold baseOf; rw [if_pos]; exact q.elim .inl fun q => .inr (.inl q)
  live := S.live
  fm := S.fm
  own := fun p hp => let ⟨a, b, c⟩ := S.own p hp; ⟨a, by unfold baseOf; rw [if_pos (.inr (.inr ⟨p, hp, rfl⟩))], c⟩
  ownl := S.ownl
theorem Stt.base_of (S : Stt hid hb σ s env oc ow ρ) {b : Addr} {o : Obj} (e : hb b = some o) : baseOf s env oc ow b = some o := by
  unfold baseOf
  rw [if_neg]
  · exact S.kept b o e
  · rintro (q | q | ⟨p, hp, q⟩)
    · rw [S.off b (.inl q)] at e; cases e
    · rw [S.off b (.inr q)] at e; cases e
    · have := (S.own p hp).2.1; rw [q, e] at this; cases this
theorem Stt.base_hid (S : Stt hid hb σ s env oc ow ρ) {b : Addr} {o : Obj} (hn : b ∉ hid) (e : s.heap.get? b = some o) : baseOf s env oc ow b = some o := by
  unfold baseOf
  rw [if_neg, e]
  rintro (q | ⟨p, hp, q⟩ | ⟨p, hp, q⟩)
  · exact hn (q ▸ S.fm.lhid)
  · exact hn (q ▸ (S.fm.cell p hp).2.2.1)
  · exact hn (q ▸ (S.own p hp).1)
theorem Stt.debase {ow₂ : List (Addr × Ob)} {ρ₂ : Str → Option D} {s₂ : Shared} (S : Stt hid hb σ s env oc ow ρ) (S₂ : Stt hid (baseOf s env oc ow) σ s₂ env oc ow₂ ρ₂) : Stt hid hb σ s₂ env oc ow₂ ρ₂ where
  same := S₂.same
  kept := fun b o e => S₂.kept b o (S.base_of e)
  off := S.off
  live := S₂.live
  fm := S₂.fm
  own := fun p hp => by
    obtain ⟨a, b, c⟩ := S₂.own p hp
    refine ⟨a, ?_, c⟩
    cases q : hb p.1 with
    | none => rfl
    | some o => rw [S.base_of q] at b; cases b
  ownl := S₂.ownl

-- statements
theorem st_expr_name {x : Str} {px pos : Pos} {e : Expr} {d : D} {b : Addr} {Q : Flow → Shared → Prop} (S : Stt hid hb σ s env oc ow ρ) (he : Ev prog w A env hid s.heap e d) (p : Place env oc x b)
    (k : ∀ s', Stt hid hb σ s' env oc ow (upd ρ x d) → Q .next s') (hs : swapsWith e (some (.Name x px)) pos.line env = pure false := by rfl) : wpAny (model prog w) A (exec (.Assign [.Name x px] e pos) env) Q E s :=
  wpAny_Assign_Name (he s _ E (fun _ _ q => q) fun v s₁ k₁ hv => (S.keep k₁).store p hv fun s' S' _ => k s' S') hs
theorem st_if {test : Expr} {body orelse : List Stmt} {pos : Pos} {b : Bool} {Q : Flow → Shared → Prop} (S : Stt hid hb σ s env oc ow ρ) (ht : Tr prog w A env s.heap test b)
    (k : ∀ s', Stt hid hb σ s' env oc ow ρ → wpAny (model prog w) A (execs (if b then body else orelse) env) Q E s') : wpAny (model prog w) A (exec (.If test body orelse pos) env) Q E s :=
  wpAny_If (ht s _ E (fun _ _ q => q) fun s₁ k₁ => by have := k s₁ (S.keep k₁); cases b <;> exact this)
theorem st_return {e : Expr} {pos : Pos} {d : D} {Q : Flow → Shared → Prop} (S : Stt hid hb σ s env oc ow ρ) (he : Ev prog w A env hid s.heap e d)
    (k : ∀ v s', Stt hid hb σ s' env oc ow ρ → Has hid s'.heap v d → Q (.ret v) s') : wpAny (model prog w) A (exec (.Return (some e) pos) env) Q E s :=
  wpAny_Return_some (he s _ E (fun _ _ q => q) fun v s₁ k₁ hv => k v s₁ (S.keep k₁) hv)
theorem st_cons {st : Stmt} {rest : List Stmt} {Q : Flow → Shared → Prop} (h : wpAny (model prog w) A (exec st env) (fun f s' => match f with | .next => wpAny (model prog w) A (execs rest env) Q E s' | f => Q f s') E s) :
    wpAny (model prog w) A (execs (st :: rest) env) Q E s := wpAny_execs_cons h

-- a loop
/-- what a loop draws: the I-th step of n -/
structure Src (prog : Program) (w : World) (A : Around) (hid : List Addr) (s₁ : Shared) (I : Addr) (target : Expr) (n : Nat) (ds : Nat → D) (St : Nat → Heap → Prop) : Prop where
  item : ∀ i (s : Shared) (Q : Option Value → Shared → Prop) (E : Value → Shared → Prop), i < n → St i s.heap → KeptBut hid s₁.heap s.heap →
    (∀ v h' tk, Has hid s₁.heap v (ds i) → St (i + 1) h' → (∀ b o, b ≠ I → s.heap.get? b = some o → h'.get? b = some o) → Q (some v) { s with heap := h', toks := tk }) → wpAny (model prog w) A (pyNext (.ref I)) Q E s
  done : ∀ (s : Shared) (Q : Option Value → Shared → Prop) (E : Value → Shared → Prop), St n s.heap → KeptBut hid s₁.heap s.heap →
    (∀ h' tk, (∀ b o, b ≠ I → s.heap.get? b = some o → h'.get? b = some o) → Q none { s with heap := h', toks := tk }) → wpAny (model prog w) A (pyNext (.ref I)) Q E s
  obj : ∀ i h, St i h → ∃ o, h.get? I = some o ∧ (∀ es ep, o.data ≠ .dict es ep) ∧ (∀ v, o.data ≠ .cell v) ∧ (∀ vs n, o.data ≠ .seq vs n)
  frame : ∀ i h h', St i h → (∀ o, h.get? I = some o → h'.get? I = some o) → KeptBut hid s₁.heap h' → St i h'
  self : ∀ i (s : Shared) (Q : Value → Shared → Prop) (E : Value → Shared → Prop), St i s.heap → Q (.ref I) s → wpAny (model prog w) A (pyIter (.ref I)) Q E s
  lets : ∀ i (s : Shared) (v : Value) (Q : Unit → Shared → Prop) (E : Value → Shared → Prop), St i s.heap → Q () s → wpAny (model prog w) A (letOwnedTupleGo target (.ref I) v) Q E s

/-- storing into a target -/
def Aim (prog : Program) (w : World) (A : Around) (env : Env) (oc : List (Str × Addr)) (target : Expr) (d : D) (bind : (Str → Option D) → (Str → Option D)) : Prop :=
  ∀ (hid : List Addr) (hb : Addr → Option Obj) (σ s : Shared) (ow : List (Addr × Ob)) (ρ : Str → Option D) (v : Value) (Q : Unit → Shared → Prop) (E : Value → Shared → Prop),
    Stt hid hb σ s env oc ow ρ → Has hid s.heap v d → (∀ s', Stt hid hb σ s' env oc ow (bind ρ) → KeptBut hid s.heap s'.heap → Q () s') → wpAny (model prog w) A (assign target env v) Q E s

theorem Aim.name {x : Str} {px : Pos} {d : D} {b : Addr} (p : Place env oc x b) : Aim prog w A env oc (.Name x px) d (fun ρ => upd ρ x d) := fun hid hb σ s ow ρ v Q E S hv k =>
  wpAny_assign_Name (S.store p hv k)
theorem Aim.pair {x y : Str} {px py tp : Pos} {kk} {a c : D} {b b' : Addr} (hh : A.handled = none) (p : Place env oc x b) (p' : Place env oc y b') :
    Aim prog w A env oc (.Tuple [.Name x px, .Name y py] kk tp) (.tup [a, c]) (fun ρ => upd (upd ρ x a) y c) := fun hid hb σ s ow ρ v Q E S hv k => by
  cases hv with
  | tup hn e hs =>
    cases hs with
    | cons h1 hs => cases hs with
      | cons h2 hs => cases hs with
        | nil =>
          refine wpAny_assign_Tuple hh (tobj_isTuple e) rfl rfl fun h' kh => ?_
          have ks : Ks s { s with heap := h' } := Ks.heap fun b o e => kh b o (Nat.ne_of_lt (Heap.lt_size e)) e
          refine wpAny_assignInOrder_more (wpAny_assign_Name ((S.keep ks).store p (h1.keep ks.kept) fun s₁ S₁ k₁ => ?_))
          refine wpAny_assignInOrder_more (wpAny_assign_Name (S₁.store p' ((h2.keep ks.kept).keepBut k₁) fun s₂ S₂ k₂ => ?_))
          exact wpAny_assignInOrder_none (k _ S₂ fun b o hb e => k₂ b o hb (k₁ b o hb (ks.kept b o e)))

/-- what a loop's source comes to -/
def EvIt (prog : Program) (w : World) (A : Around) (env : Env) (hid : List Addr) (h : Heap) (iter target : Expr) (n : Nat) (ds : Nat → D) : Prop :=
  ∀ (s : Shared) (Q : Value → Shared → Prop) (E : Value → Shared → Prop), Kept h s.heap →
    (∀ s' I o St, Ks s s' → s.heap.get? I = none → s'.heap.get? I = some o → Src prog w A (I :: hid) s' I target n ds St → St 0 s'.heap → Q (.ref I) s') →
    wpAny (model prog w) A (eval iter env) (fun x s₁ => wpAny (model prog w) A (pyIter x) Q E s₁) E s

/-- a loop over a source that is laid -/
theorem st_for {target iter : Expr} {body : List Stmt} {pos : Pos} {n : Nat} {ds : Nat → D} {Q : Flow → Shared → Prop}
    (S : Stt hid hb σ s env oc ow ρ) (it : EvIt prog w A env hid s.heap iter target n ds)
    (Inv : Nat → (Str → Option D) → List (Addr × Ob) → Prop) (adr : ∀ i ρ' ow', Inv i ρ' ow' → ow'.map (·.1) = ow.map (·.1)) (i0 : Inv 0 ρ ow) (Rt : D → Prop) (bind : Nat → (Str → Option D) → (Str → Option D)) (aim : ∀ i, i < n → Aim prog w A env oc target (ds i) (bind i))
    (turn : ∀ i I (hb' : Addr → Option Obj) (s' : Shared) (ρ' : Str → Option D) (ow' : List (Addr × Ob)) (E : Value → Shared → Prop), i < n → Inv i ρ' ow' → (∀ b o, hb b = some o → hb' b = some o) → Stt (I :: hid) hb' σ s' env oc ow' (bind i ρ') →
      wpAny (model prog w) A (execs body env) (fun f s₂ => ∃ ρ₂ ow₂, Stt (I :: hid) hb' σ s₂ env oc ow₂ ρ₂ ∧ match f with | .next | .cont => Inv (i + 1) ρ₂ ow₂ | .brk => False | .ret v => ow₂.map (·.1) = ow.map (·.1) ∧ ∃ d, Has (I :: hid) s₂.heap v d ∧ Rt d) E s')
    (done : ∀ s' ρ' ow', Inv n ρ' ow' → Stt hid hb σ s' env oc ow' ρ' → Q .next s')
    (ret : ∀ v d s' ρ' ow', Rt d → Has hid s'.heap v d → Stt hid hb σ s' env oc ow' ρ' → Q (.ret v) s')
    (hs : ∀ x, foldedSetIterable iter env x = pure x := by intro _; rfl) :
    wpAny (model prog w) A (exec (.For target iter body [] pos) env) Q E s := by
  refine wpAny_For (it s _ E (fun _ _ e => e) fun s₁ I oI St k₁ hI hoI R h0 => ?_) hs
  have S₁ : Stt (I :: hid) hb σ s₁ env oc ow ρ := by
    have := S.hide (h' := s₁.heap) hI hoI k₁.kept
    have e : ({ s with heap := s₁.heap } : Shared) = { s₁ with toks := s.toks } := by rw [k₁.same]
    rw [e] at this
    exact this.keep (s' := s₁) ⟨rfl, fun _ _ e => e⟩
  have hIb : hb I = none := by
    cases q : hb I with
    | none => rfl
    | some o => rw [S.kept I o q] at hI; cases hI
  have back : ∀ {s' ρ' ow'}, ow'.map (·.1) = ow.map (·.1) → Stt (I :: hid) hb σ s' env oc ow' ρ' → Stt hid hb σ s' env oc ow' ρ' := fun {s' ρ' ow'} ha S' => S'.unhide S.fm.lhid (fun p hp => (S.fm.cell p hp).2.2.1) fun p hp => by
    have : p.1 ∈ ow.map (·.1) := ha ▸ List.mem_map_of_mem hp
    obtain ⟨q, hq, e⟩ := List.mem_map.mp this
    exact e ▸ (S.own q hq).1
  refine codeAny_forLoop_any (fun k s' => ∃ i ρ' ow', i ≤ n ∧ k = n + 1 - i ∧ Stt (I :: hid) hb σ s' env oc ow' ρ' ∧ Inv i ρ' ow' ∧ St i s'.heap ∧ KeptBut (I :: hid) s₁.heap s'.heap) ?_ (n + 1)
    ⟨0, ρ, ow, Nat.zero_le _, rfl, S₁, i0, h0, fun _ _ _ e => e⟩
  rintro k s' ⟨i, ρ', ow', hi, rfl, S', hInv, hSt, hK⟩
  obtain ⟨oN, heN, hN1, hN2, hN3⟩ := R.obj i _ hSt
  by_cases hlt : i < n
  · refine R.item i s' _ _ hlt hSt hK fun v h₂ tk₂ hv hSt₂ hk₂ => ?_
    obtain ⟨oN', heN', _⟩ := R.obj (i + 1) _ hSt₂
    have S₂ : Stt (I :: hid) hb σ { s' with heap := h₂, toks := tk₂ } env oc ow' ρ' := S'.but (.head _) heN hN1 hN2 hN3 hIb ⟨_, heN'⟩ hk₂
    have kb₂ : KeptBut (I :: hid) s'.heap h₂ := fun b o hb e => hk₂ b o (fun q => hb (q ▸ .head _)) e
    refine R.lets (i + 1) { s' with heap := h₂, toks := tk₂ } v _ _ hSt₂ ?_
    refine aim i hlt (I :: hid) _ σ _ ow' ρ' v _ _ S₂.rebase ((hv.keepBut hK).keepBut kb₂) fun s₃ S₃ k₃ => ?_
    refine wpAny_mono (turn i I _ s₃ ρ' ow' _ hlt hInv (fun b o e => S₂.base_of e) S₃) (fun f s₄ hf => ?_) fun _ _ e => e
    obtain ⟨ρ₂, ow₂, S₄, hm⟩ := hf
    have S₅ := S₂.debase S₄
    have hIbase : baseOf { s' with heap := h₂, toks := tk₂ } env oc ow' I = some oN' := by
      obtain ⟨oN2, heN2, hN1', hN2', hN3'⟩ := R.obj (i + 1) _ hSt₂
      rw [heN'] at heN2; cases heN2
      unfold baseOf
      rw [if_neg]
      · exact heN'
      · rintro (q | ⟨p, hp, q⟩ | ⟨p, hp, q⟩)
        · obtain ⟨m, ⟨o', es, ep, e', hd', _⟩, _⟩ := S₂.fm.loc
          rw [← q, heN'] at e'; cases e'; exact hN1' _ _ hd'
        · obtain ⟨_, _, _, ⟨v', o', e', hd'⟩, _⟩ := S₂.fm.cell p hp
          rw [q, heN'] at e'; cases e'; exact hN2' _ hd'
        · obtain ⟨_, _, c⟩ := S₂.own p hp
          obtain ⟨p1, p2⟩ := p
          cases p2 with
          | lst l =>
            obtain ⟨vs, m, e', _⟩ := c
            simp only at q e'
            rw [q, heN'] at e'; cases e'; exact hN3' _ _ rfl
          | dct prog' w' ys =>
            obtain ⟨⟨o1, es, ep, e1, _, e3, _⟩, _⟩ := c
            simp only at q
            rw [q, heN'] at e1; cases e1; exact hN1' _ _ e3
    have kb₄ : KeptBut (I :: hid) h₂ s₄.heap := fun b o hb e => S₄.kept b o (S₂.base_hid hb e)
    have hSt₄ : St (i + 1) s₄.heap := R.frame _ _ _ hSt₂ (fun o e => by rw [heN'] at e; cases e; exact S₄.kept I _ hIbase) (fun b o hb e => kb₄ b o hb (kb₂ b o hb (hK b o hb e)))
    have nxt : Inv (i + 1) ρ₂ ow₂ → ∃ m, m < n + 1 - i ∧ ∃ i ρ' ow', i ≤ n ∧ m = n + 1 - i ∧ Stt (I :: hid) hb σ s₄ env oc ow' ρ' ∧ Inv i ρ' ow' ∧ St i s₄.heap ∧ KeptBut (I :: hid) s₁.heap s₄.heap := fun hm =>
      ⟨n + 1 - (i + 1), by omega, i + 1, ρ₂, ow₂, hlt, rfl, S₅, hm, hSt₄, fun b o hb e => kb₄ b o hb (kb₂ b o hb (hK b o hb e))⟩
    cases f with
    | next => exact nxt hm
    | cont => exact nxt hm
    | brk => exact hm.elim
    | ret v =>
      obtain ⟨ha, d, hd, hr⟩ := hm
      exact ret v d s₄ ρ₂ ow₂ hr (hd.weak fun _ m => .tail _ m) (back ha S₅)
  · have hin : i = n := by omega
    subst hin
    refine R.done s' _ _ hSt hK fun h₂ tk₂ hk₂ => ?_
    refine wpAny_execs_nil (done _ ρ' ow' hInv (S'.drop (S.live.fresh hI) heN hN1 hN2 hN3 hIb hk₂ fun p hp => ?_))
    have : p.1 ∈ ow.map (·.1) := adr _ _ _ hInv ▸ List.mem_map_of_mem hp
    obtain ⟨q, hq, e⟩ := List.mem_map.mp this
    exact e ▸ (S.own q hq).1
end
end Mine
end

-- Fw5
section
namespace Mine
open PySem PySem.Calls PySem.Spec PyProof.Rows

section
variable {prog : Program} {w : World} {A : Around} {env : Env} {hid hid' : List Addr} {h h' : Heap} {e iter target : Expr} {s : Shared}

/-- the target takes no owned tuple -/
def Easy (target : Expr) : Prop := (∃ x p, target = .Name x p) ∨ ∃ es k p, target = .Tuple es k p

theorem easy_lets (ht : Easy target) {I : Addr} {o : Obj} {vs : Array Value} {n : String} {v : Value} {Q : Unit → Shared → Prop} {E : Value → Shared → Prop} (ho : s.heap.get? I = some o) (hc : o.cls = .type n) (hd : o.data = .fields vs)
    (hn : (["enumerate", "zip", "dict_itemiterator", "dict_reverseitemiterator", "odict_iterator", "itertools.zip_longest", "itertools.pairwise"] : List String).contains n = false) (hQ : Q () s) : wpAny (model prog w) A (letOwnedTupleGo target (.ref I) v) Q E s := by
  rcases ht with ⟨x, p, rfl⟩ | ⟨es, k, p, rfl⟩
  · exact wpAny_pure hQ
  · unfold letOwnedTupleGo
    cases v with
    | ref T =>
      refine wpAny_bind (wpAny_load ho ?_)
      rw [hc, hd]
      show wpAny _ A (if (["enumerate", "zip", "dict_itemiterator", "dict_reverseitemiterator", "odict_iterator", "itertools.zip_longest", "itertools.pairwise"].contains n && vs[0]? == some (rawInt T)) = true then _ else _) Q E s
      rw [if_neg (by rw [hn, Bool.false_and]; exact Bool.false_ne_true)]
      exact wpAny_pure hQ
    | _ => exact wpAny_pure hQ

theorem fields_obj {o : Obj} {vs : Array Value} (hd : o.data = .fields vs) : (∀ es ep, o.data ≠ .dict es ep) ∧ (∀ v, o.data ≠ .cell v) ∧ ∀ vs n, o.data ≠ .seq vs n := by
  rw [hd]
  exact ⟨fun _ _ q => (nomatch q), fun _ q => (nomatch q), fun _ _ q => (nomatch q)⟩

theorem EvIt.list {l : List D} (hh : A.handled = none) (ht : Easy target) (lv : Live hid h) (he : Ev prog w A env hid h iter (.lst l)) : EvIt prog w A env hid h iter target l.length (fun i => l.getD i .none) := fun s Q E k hQ => by
  refine he s _ E k fun v s₁ k₁ hv => ?_
  cases hv with
  | @lst a vs n ds hn e hs =>
    refine wpAny_pyIter_list (lobj_isList e) ?_
    have lv₁ : Live hid s₁.heap := (lv.keep k).keep k₁.kept
    have haI : a ≠ s₁.heap.objs.size := Nat.ne_of_lt (Heap.lt_size e)
    have hI : s.heap.get? s₁.heap.objs.size = none := by
      cases q : s.heap.get? s₁.heap.objs.size with
      | none => rfl
      | some o => exact absurd (Heap.lt_size (k₁.kept _ _ q)) (Nat.lt_irrefl _)
    have ks : Ks s { s₁ with heap := s₁.heap.push { cls := .type "list_iterator", data := .fields #[.ref a, .int 0 0] } } := k₁.trans (Ks.push _)
    have hItems : HasAll (s₁.heap.objs.size :: hid) (s₁.heap.push { cls := .type "list_iterator", data := .fields #[.ref a, .int 0 0] }) vs l :=
      hs.mono (fun b o _ q => Heap.get?_push_of_some _ q) (fun b o hb q m => by
        rcases List.mem_cons.mp m with rfl | m
        · exact Nat.lt_irrefl _ (Heap.lt_size q)
        · exact hb m)
    refine hQ _ s₁.heap.objs.size _ (fun i h => h.IsListIter s₁.heap.objs.size a i ∧ h.IsList a vs.toArray) ks hI (Heap.get?_push_size _ rfl) ⟨?_, ?_, ?_, ?_, ?_, ?_⟩ ⟨⟨_, Heap.get?_push_size _ rfl, rfl, rfl⟩, (lobj_isList e).push _⟩
    · intro i s' Q E hi st hK k
      have hi' : i < vs.length := by rw [hs.length]; exact hi
      refine wpAny_pyNext_list_item st.1 st.2 (x := vs[i]) (by simp [hi']) fun h₂ hit hsb => ?_
      obtain ⟨d, ed, hd⟩ := hItems.getV (k := i) (v := vs[i]) (by simp [hi'])
      have eg : l.getD i .none = d := by rw [List.getD_eq_getElem?_getD, ed]; rfl
      exact k _ h₂ s'.toks (eg ▸ hd) ⟨hit, st.2.extBut hsb.extBut haI⟩ fun b o hb q => hsb.extBut b o hb q
    · intro s' Q E st hK k
      exact wpAny_pyNext_list_end hh st.1 st.2 (by simp [hs.length]) fun h₂ he₂ => k h₂ s'.toks fun b o hb q => he₂ b o hb q
    · rintro i h₂ ⟨⟨o, ho, hc, hd⟩, _⟩
      exact ⟨o, ho, fields_obj hd⟩
    · rintro i h₂ h₃ ⟨h1, h2⟩ hI₂ hK
      refine ⟨h1.at hI₂, ?_⟩
      have q := hK a _ (fun m => by
        rcases List.mem_cons.mp m with q | m
        · exact haI q
        · exact hn m) (Heap.get?_push_of_some _ e)
      exact lobj_isList q
    · rintro i s' Q E ⟨h1, _⟩ hQ
      exact wpAny_pyIter_listiter h1 hQ
    · rintro i s' v Q E ⟨⟨o, ho, hc, hd⟩, _⟩ hQ
      exact easy_lets ht ho hc hd (by decide) hQ

theorem range_src {a : Int} {n : Nat} {I : Addr} (hh : A.handled = none) (ht : Easy target) {s₁ : Shared} {ds : Nat → D} (hds : ∀ i, i < n → ds i = .int (a + (i : Int))) :
    Src prog w A (I :: hid) s₁ I target n ds (fun i h => IsRangeIter h I (a + (i : Nat) * 1) ((n : Int) - (i : Nat)) 1) where
  item := fun i s' Q E hi st hK k => by
    refine wpAny_pyNext_range_item st (by omega) fun h₂ hit hsb => ?_
    have e1 : a + (i : Int) * 1 + 1 = a + ((i + 1 : Nat) : Int) * 1 := by omega
    have e2 : (n : Int) - (i : Int) - 1 = (n : Int) - ((i + 1 : Nat) : Int) := by omega
    rw [e1, e2] at hit
    refine k _ h₂ _ ?_ hit fun b o hb q => hsb.extBut b o hb q
    rw [hds i hi, show a + (i : Int) * 1 = a + (i : Int) by omega]
    exact .int _ _
  done := fun s' Q E st hK k => wpAny_pyNext_range_end hh st (by omega) fun h₂ he₂ => k h₂ s'.toks fun b o hb q => he₂ b o hb q
  obj := fun i h st => ⟨_, st, fields_obj rfl⟩
  frame := fun i h h' st hI hK => hI _ st
  self := fun i s Q E st hQ => wpAny_pyIter_rangeiter st hQ
  lets := fun i s v Q E st hQ => easy_lets ht st rfl rfl (by decide) hQ

theorem range_it {a b : Int} {r : Addr} {t u v : Tok} {s₂ : Shared} {Q : Value → Shared → Prop} {E : Value → Shared → Prop} (hh : A.handled = none) (ht : Easy target) (k : Ks s s₂) (hr : IsRange s₂.heap r a b 1 t u v) (ha : -(2 ^ 62) ≤ a) (ha' : a < 2 ^ 62) (hb : -(2 ^ 62) ≤ b) (hb' : b < 2 ^ 62)
    (hQ : ∀ s' I o St, Ks s s' → s.heap.get? I = none → s'.heap.get? I = some o → Src prog w A (I :: hid) s' I target (b - a).toNat (fun i => .int (a + (i : Int))) St → St 0 s'.heap → Q (.ref I) s') : wpAny (model prog w) A (pyIter (.ref r)) Q E s₂ := by
  refine wpAny_pyIter_range hr (small_one ha ha' hb hb') ?_
  refine hQ _ s₂.heap.objs.size _ _ (k.trans (Ks.push _)) ?_ (Heap.get?_push_size _ rfl) (range_src hh ht fun _ _ => rfl) ?_
  · cases q : s.heap.get? s₂.heap.objs.size with
    | none => rfl
    | some o => exact absurd (Heap.lt_size (k.kept _ _ q)) (Nat.lt_irrefl _)
  · have := Heap.get?_push_size s₂.heap (o := { cls := .type "range_iterator", data := .fields #[rawInt a, rawInt (Builtin.Range.rangeSize a b 1), rawInt 1] }) rfl
    rw [rangeSize_nat] at this
    show IsRangeIter _ _ _ _ _
    simpa [rangeSize_nat] using this

theorem EvIt.range1 {x : Str} {np pos : Pos} {b : Int} (hh : A.handled = none) (ht : Easy target) (hs : Sees prog w A env h x (.type "range")) (he : Ev prog w A env hid h e (.int b)) (hb : -(2 ^ 62) ≤ b) (hb' : b < 2 ^ 62)
    (hq : starEach [e] env = (false, eval e env) :: starEach [] env := by rfl) : EvIt prog w A env hid h (.Call (.Name x np) [e] [] pos) target (b - 0).toNat (fun i => .int (0 + (i : Int))) := fun s Q E k hQ => by
  refine Call_ (hs s np _ E k (callWith_type1 (args_cons (he s _ E k fun v s₁ k₁ hv => args_nil ?_) hq) hq rfl))
  cases hv with
  | int _ t =>
    exact call_range_1 (range_it hh ht (k₁.trans ⟨rfl, fun _ _ e => Heap.get?_push_of_some _ e⟩) (IsRange.new _ _ _ _ _ _ _) (by decide) (by decide) hb hb' hQ)
theorem EvIt.range2 {x : Str} {np pos : Pos} {e' : Expr} {a b : Int} (hh : A.handled = none) (ht : Easy target) (hs : Sees prog w A env h x (.type "range")) (he : Ev prog w A env hid h e (.int a)) (he' : Ev prog w A env hid h e' (.int b)) (ha : -(2 ^ 62) ≤ a) (ha' : a < 2 ^ 62) (hb : -(2 ^ 62) ≤ b) (hb' : b < 2 ^ 62)
    (hq : starEach [e, e'] env = (false, eval e env) :: starEach [e'] env := by rfl) (hq' : starEach [e'] env = (false, eval e' env) :: starEach [] env := by rfl) (hp : (backTo pos (starEach [e'] env)).any (·.1) = false := by rfl) :
    EvIt prog w A env hid h (.Call (.Name x np) [e, e'] [] pos) target (b - a).toNat (fun i => .int (a + (i : Int))) := fun s Q E k hQ => by
  refine Call_ (hs s np _ E k (callWith_type1 (args_cons (he s _ E k fun v s₁ k₁ hv => args_cons (he' s₁ _ E (fun b o q => k₁.kept b o (k b o q)) fun v' s₂ k₂ hv' => args_nil ?_) hq') hq) hq hp))
  cases hv with
  | int _ t => cases hv' with
    | int _ t' => exact call_range_2 (range_it hh ht ((k₁.trans k₂).trans ⟨rfl, fun _ _ e => Heap.get?_push_of_some _ e⟩) (IsRange.new _ _ _ _ _ _ _) ha ha' hb hb' hQ)
end
end Mine
end

-- Fw6
section
namespace Mine
open PySem PySem.Calls PySem.Spec PyProof.Rows

def bindD : List (Str × D) → (Str → Option D) → Str → Option D
  | [], ρ => ρ
  | (n, d) :: r, ρ => bindD r (upd ρ n d)

section
variable {hid : List Addr} {h : Heap}
theorem bind_has {kindOf : Str → Option NameKind} : ∀ (binds : List (Str × Value)) (bds : List (Str × D)) (m cm : Str → Option Value) (ρ : Str → Option D),
    binds.map (·.1) = bds.map (·.1) → HasAll hid h (binds.map (·.2)) (bds.map (·.2)) →
    (∀ x d, kindOf x = some .local → ρ x = some d → ∃ v, m x = some v ∧ Has hid h v d) → (∀ x d, kindOf x ≠ some .local → ρ x = some d → ∃ v, cm x = some v ∧ Has hid h v d) →
    (∀ x d, kindOf x = some .local → bindD bds ρ x = some d → ∃ v, bindL kindOf binds m x = some v ∧ Has hid h v d) ∧ (∀ x d, kindOf x ≠ some .local → bindD bds ρ x = some d → ∃ v, bindC kindOf binds cm x = some v ∧ Has hid h v d)
  | [], bds, m, cm, ρ, hn, hv, h1, h2 => by
    cases bds with
    | nil => exact ⟨h1, h2⟩
    | cons _ _ => cases hn
  | (n, v) :: r, bds, m, cm, ρ, hn, hv, h1, h2 => by
    cases bds with
    | nil => cases hn
    | cons b bds =>
      obtain ⟨n', d⟩ := b
      simp only [List.map_cons, List.cons.injEq] at hn hv
      obtain ⟨e, hn⟩ := hn
      subst e
      cases hv with
      | cons hv hr =>
        refine bind_has r bds _ _ _ hn hr (fun x d' hk hx => ?_) (fun x d' hk hx => ?_)
        · by_cases q : x = n
          · subst q
            rw [show upd ρ x d x = some d from if_pos rfl] at hx; cases hx
            rw [if_pos hk]
            exact ⟨v, if_pos rfl, hv⟩
          · rw [show upd ρ n d x = ρ x from if_neg q] at hx
            obtain ⟨u, e, hu⟩ := h1 x d' hk hx
            refine ⟨u, ?_, hu⟩
            split
            · exact (if_neg q).trans e
            · exact e
        · by_cases q : x = n
          · subst q
            rw [show upd ρ x d x = some d from if_pos rfl] at hx; cases hx
            rw [if_neg hk]
            exact ⟨v, if_pos rfl, hv⟩
          · rw [show upd ρ n d x = ρ x from if_neg q] at hx
            obtain ⟨u, e, hu⟩ := h2 x d' hk hx
            refine ⟨u, ?_, hu⟩
            split
            · exact e
            · exact (if_neg q).trans e
end

theorem cellsFrom_cell : ∀ (names : List (Str × NameKind)) (n : Nat) (acc : List (Str × Addr)) (p : Str × Addr), p ∈ cellsFrom n names acc → p ∈ acc ∨ (p.1, NameKind.cell) ∈ names
  | [], _, _, _, h => .inl h
  | (x, k) :: r, n, acc, p, h => by
    unfold cellsFrom at h
    split at h
    · rename_i hk
      have hk' : k = .cell := by simpa using hk
      rcases cellsFrom_cell r _ _ p h with q | q
      · rcases List.mem_cons.mp q with q | q
        · subst q; subst hk'; exact .inr (.head _)
        · exact .inl q
      · exact .inr (.tail _ q)
    · rcases cellsFrom_cell r _ _ p h with q | q
      · exact .inl q
      · exact .inr (.tail _ q)
theorem lookup_nodup {α : Type} : ∀ {l : List (Str × α)} {x : Str} {a : α}, (l.map (·.1)).Nodup → (x, a) ∈ l → l.lookup x = some a
  | (y, b) :: r, x, a, hn, hm => by
    rw [List.map_cons, List.nodup_cons] at hn
    rcases List.mem_cons.mp hm with e | hm
    · cases e; simp
    · have : (x == y) = false := by
        rw [beq_eq_false_iff_ne]
        intro q
        have hx : x ∈ r.map (·.1) := List.mem_map_of_mem (f := fun x : Str × α => x.1) hm
        exact hn.1 (q ▸ hx)
      rw [List.lookup_cons, this]
      exact lookup_nodup hn.2 hm
theorem cellsFrom_nodup : ∀ (names : List (Str × NameKind)) (n : Nat) (acc : List (Str × Addr)), (names.map (·.1)).Nodup → (acc.map (·.1)).Nodup → (∀ x ∈ acc.map (·.1), x ∉ names.map (·.1)) → ((cellsFrom n names acc).map (·.1)).Nodup
  | [], _, _, _, h, _ => h
  | (x, k) :: r, n, acc, hn, ha, hd => by
    rw [List.map_cons, List.nodup_cons] at hn
    unfold cellsFrom
    split
    · refine cellsFrom_nodup r _ _ hn.2 ?_ ?_
      · rw [List.map_cons, List.nodup_cons]
        exact ⟨fun m => hd x m (.head _), ha⟩
      · intro y hy
        rw [List.map_cons] at hy
        rcases List.mem_cons.mp hy with q | q
        · subst q; exact hn.1
        · exact fun m => hd y q (.tail _ m)
    · exact cellsFrom_nodup r _ _ hn.2 ha fun y hy m => hd y hy (.tail _ m)
theorem cellsFrom_isSome {x : Str} : ∀ (names : List (Str × NameKind)) (n : Nat) (acc : List (Str × Addr)), (x, NameKind.cell) ∈ names ∨ (acc.lookup x).isSome = true → ((cellsFrom n names acc).lookup x).isSome = true
  | [], _, _, h => h.elim (fun q => nomatch q) id
  | (y, k) :: r, n, acc, h => by
    unfold cellsFrom
    by_cases hk : (k == NameKind.cell) = true
    · rw [if_pos hk]
      refine cellsFrom_isSome r _ _ ?_
      by_cases q : (x == y) = true
      · exact .inr (by rw [List.lookup_cons, q]; rfl)
      · refine h.imp (fun m => ?_) fun m => ?_
        · rcases List.mem_cons.mp m with e | m
          · cases e; simp at q
          · exact m
        · rw [List.lookup_cons]; simpa only [q] using m
    · rw [if_neg hk]
      refine cellsFrom_isSome r _ _ (h.imp (fun m => ?_) id)
      rcases List.mem_cons.mp m with e | m
      · cases e; simp at hk
      · exact m

/-- the frame of a call -/
def envN (d : DefRec) (f L : Addr) (c : Value) : Env := newEnv d.scope L mainGlobals (cellsFrom (L + 1) d.scope.names []) (d.name ++ ".<locals>.") (some f) c none builtinsNs
def ocN (d : DefRec) (L : Addr) : List (Str × Addr) := cellsFrom (L + 1) d.scope.names []
def hidN (d : DefRec) (L : Addr) (hid : List Addr) : List Addr := L :: ((ocN d L).map (·.2) ++ hid)

section
variable {prog : Program} {w : World} {A : Around} {hid : List Addr} {s : Shared} {E : Value → Shared → Prop}
theorem enterO {p : Program} {loose : List Str} {mean : ExcName → Option Value} {mg mb : Str → Option Value} {d : DefRec} {f : Addr} {vs : List Value} {binds : List (Str × Value)} {bds : List (Str × D)} {Q : Value → Shared → Prop} {hb : Addr → Option Obj} {ow : List (Addr × Ob)}
    (hbk : ∀ b o, hb b = some o → s.heap.get? b = some o) (how : ∀ p ∈ ow, p.1 ∈ hid ∧ hb p.1 = none ∧ p.2.ok hid s.heap p.1)
    (T : Top p loose mean mg mb s.heap) (hd : d ∈ recsOf p) (hf : mg d.name = some (.ref f)) (hroom : A.depth < recursionLimit) (lv : Live hid s.heap)
    (hbind : ∀ pm code doc, bindArgs (docDef d.name d.params d.body d.scope pm code doc) ⟨vs, []⟩ = pure binds) (hn : binds.map (·.1) = bds.map (·.1)) (hv : HasAll hid s.heap (binds.map (·.2)) (bds.map (·.2)))
    {ns : List Str} (hns : bds.map (·.1) = ns) (hk : ∀ x ∈ ns, (x, NameKind.local) ∈ d.scope.names ∨ (x, NameKind.cell) ∈ d.scope.names) (hnd : (d.scope.names.map (·.1)).Nodup)
    (hfun : d.scope.kind = .function) (hco : d.scope.isCoroutine = false) (hgen : d.scope.isGenerator = false)
    (body : ∀ (L : Addr) (c : Value) (s₁ : Shared) (E : Value → Shared → Prop), s.heap.get? L = none → Kept s.heap s₁.heap → Stt (hidN d L hid) hb s s₁ (envN d f L c) (ocN d L) ow (bindD bds fun _ => none) →
      wpAny (model prog w) (A.deeper (envN d f L c)) (execs d.body (envN d f L c)) (fun fl s' => Q (match fl with | .ret v => v | _ => .none) s') E s₁) : wpAny (model prog w) A (call (.ref f) vs) Q E s := by
  replace hk : ∀ x ∈ binds.map (·.1), (x, NameKind.local) ∈ d.scope.names ∨ (x, NameKind.cell) ∈ d.scope.names := by rw [hn, hns]; exact hk
  obtain ⟨a, o, pm, code, doc, h1, h2, h3, h4⟩ := T.fn d hd
  rw [hf] at h1
  cases h1
  refine wpAny_call (codeAny_call_function hroom h2 h3 hco hgen rfl h4 ?_)
  rw [hbind]
  refine wpAny_pure (wpAny_newFunctionEnv_cells hfun (fun x hx => ?_) fun env he s' x => ?_)
  · rcases hk x.1 (List.mem_map_of_mem hx) with q | q
    · exact .inl (lookup_nodup hnd q)
    · exact .inr ⟨lookup_nodup hnd q, cellsFrom_isSome _ _ _ (.inl q)⟩
  subst he
  refine ⟨T.nolimit.keeps x.toInCall.keep, codeAny_func ?_⟩
  have kk := x.toInCall.keep
  have hs : Ks s s' := by
    obtain ⟨h', tk, rfl⟩ := x.toInCall.same
    exact ⟨rfl, kk⟩
  have hnc := cellsFrom_nodup d.scope.names (s.heap.objs.size + 1) [] hnd .nil (fun _ q => nomatch q)
  have hcl : ∀ p ∈ ocN d s.heap.objs.size, p.2 ≥ s.heap.objs.size := fun p hp => Nat.le_of_lt (x.above p.1 p.2 hp)
  have hL : (newEnv d.scope s.heap.objs.size mainGlobals (cellsFrom (s.heap.objs.size + 1) d.scope.names []) (d.name ++ ".<locals>.") (some f) code none builtinsNs).locals = s.heap.objs.size := rfl
  have hidf : ∀ a ∈ hidN d s.heap.objs.size hid, a ∈ hid ∨ s.heap.get? a = none := fun a ha => by
    rcases List.mem_cons.mp ha with rfl | ha
    · exact .inr (get_size _)
    · rcases List.mem_append.mp ha with ha | ha
      · obtain ⟨p, hp, rfl⟩ := List.mem_map.mp ha
        exact .inr (get_ge (hcl p hp))
      · exact .inl ha
  obtain ⟨b1, b2⟩ := bind_has (kindOf := fun y => d.scope.names.lookup y) binds bds (fun _ => none) (fun _ => none) (fun _ => none) hn ((hv.fresh hidf).keep kk) (fun _ _ _ q => nomatch q) (fun _ _ _ q => nomatch q)
  have cellOk : ∀ p ∈ ocN d s.heap.objs.size, d.scope.names.lookup p.1 = some .cell ∧ (ocN d s.heap.objs.size).lookup p.1 = some p.2 ∧ s'.heap.IsCell p.2 (bindC (fun y => d.scope.names.lookup y) binds (fun _ => none) p.1) := fun p hp => by
    have hl : (ocN d s.heap.objs.size).lookup p.1 = some p.2 := lookup_nodup hnc hp
    refine ⟨?_, hl, x.cell p.1 p.2 hl⟩
    rcases cellsFrom_cell _ _ _ p hp with q | q
    · cases q
    · exact lookup_nodup hnd q
  have hbn : ∀ b, s.heap.get? b = none → hb b = none := fun b e => by
    cases q : hb b with
    | none => rfl
    | some o => rw [hbk b o q] at e; cases e
  have S : Stt (hidN d s.heap.objs.size hid) hb s s' (envN d f s.heap.objs.size code) (ocN d s.heap.objs.size) ow (bindD bds fun _ => none) := by
    refine ⟨hs.same, fun b o e => kk b o (hbk b o e), fun b hb => ?_, fun b hb => ?_, ⟨hfun, .head _, fun p hp => ?_, ⟨_, x.toInCall.ns, b1⟩, fun y dy hy hρ => ?_⟩, fun p hp => ?_, fun p hp q => ?_⟩
    · rcases hb with rfl | ⟨p, hp, rfl⟩
      · exact hbn _ (get_size _)
      · exact hbn _ (get_ge (hcl p hp))
    · rcases List.mem_cons.mp hb with rfl | hb
      · obtain ⟨o', _, _, e', _⟩ := x.toInCall.ns
        exact ⟨o', e'⟩
      · rcases List.mem_append.mp hb with hb | hb
        · obtain ⟨p, hp, rfl⟩ := List.mem_map.mp hb
          obtain ⟨_, _, ⟨o', e', _⟩⟩ := cellOk p hp
          exact ⟨o', e'⟩
        · obtain ⟨o', e'⟩ := lv b hb
          exact ⟨o', kk _ _ e'⟩
    · obtain ⟨c1, c2, c3⟩ := cellOk p hp
      refine ⟨c1, c2, .tail _ (List.mem_append.mpr (.inl (List.mem_map_of_mem hp))), ⟨_, c3⟩, fun y hy hl => hy (name_of_addr x.apart (mem_of_lookup hl) hp)⟩
    · have hnl : d.scope.names.lookup y ≠ some .local := fun q => by
        have hy' : d.scope.names.lookup y = some .cell ∨ d.scope.names.lookup y = some .free := hy
        rw [q] at hy'; rcases hy' with hy' | hy' <;> cases hy'
      obtain ⟨v, e, hv⟩ := b2 y dy hnl hρ
      have hy' : d.scope.names.lookup y = some .cell ∨ d.scope.names.lookup y = some .free := hy
      have hcell : (y, NameKind.cell) ∈ d.scope.names := by
        rcases hy' with q | q
        · exact mem_of_lookup q
        · exfalso
          have hmem : y ∈ binds.map (·.1) := by
            apply Classical.byContradiction
            intro hnm
            have : ∀ (bs : List (Str × Value)) (cm : Str → Option Value), y ∉ bs.map (·.1) → cm y = none → bindC (fun y => d.scope.names.lookup y) bs cm y = none := by
              intro bs
              induction bs with
              | nil => intro cm _ hc; exact hc
              | cons b bs ih =>
                intro cm hb hc
                refine ih _ (fun m => hb (.tail _ m)) ?_
                split
                · exact hc
                · exact (if_neg (fun z : y = b.1 => hb (z ▸ .head _))).trans hc
            rw [this binds _ hnm rfl] at e
            cases e
          rcases hk y hmem with z | z
          · rw [lookup_nodup hnd z] at q; cases q
          · rw [lookup_nodup hnd z] at q; cases q
      obtain ⟨c, hc⟩ := Option.isSome_iff_exists.mp (cellsFrom_isSome d.scope.names (s.heap.objs.size + 1) [] (.inl hcell))
      exact ⟨c, v, hc, e ▸ x.cell y c hc, hv⟩
    · obtain ⟨a, b, c⟩ := how p hp
      refine ⟨.tail _ (List.mem_append.mpr (.inr a)), b, c.mono (fun o e => kk _ o e) (fun b o _ e => kk b o e) (fun a o na e m => ?_)⟩
      exact (hidf a m).elim na fun q => by rw [q] at e; cases e
    · obtain ⟨o', e'⟩ := lv _ (how p hp).1
      have q' : p.1 = s.heap.objs.size := q
      rw [q', get_size] at e'; cases e'
  exact body _ code s' _ (get_size _) kk S

theorem enter {p : Program} {loose : List Str} {mean : ExcName → Option Value} {mg mb : Str → Option Value} {d : DefRec} {f : Addr} {vs : List Value} {binds : List (Str × Value)} {bds : List (Str × D)} {dd : D} {Q : Value → Shared → Prop}
    (T : Top p loose mean mg mb s.heap) (hd : d ∈ recsOf p) (hf : mg d.name = some (.ref f)) (hroom : A.depth < recursionLimit) (lv : Live hid s.heap)
    (hbind : ∀ pm code doc, bindArgs (docDef d.name d.params d.body d.scope pm code doc) ⟨vs, []⟩ = pure binds) (hn : binds.map (·.1) = bds.map (·.1)) (hv : HasAll hid s.heap (binds.map (·.2)) (bds.map (·.2)))
    {ns : List Str} (hns : bds.map (·.1) = ns) (hk : ∀ x ∈ ns, (x, NameKind.local) ∈ d.scope.names ∨ (x, NameKind.cell) ∈ d.scope.names) (hnd : (d.scope.names.map (·.1)).Nodup)
    (hfun : d.scope.kind = .function) (hco : d.scope.isCoroutine = false) (hgen : d.scope.isGenerator = false)
    (body : ∀ (L : Addr) (c : Value) (s₁ : Shared) (E : Value → Shared → Prop), Kept s.heap s₁.heap → Stt (hidN d L hid) s.heap.get? s s₁ (envN d f L c) (ocN d L) [] (bindD bds fun _ => none) →
      wpAny (model prog w) (A.deeper (envN d f L c)) (execs d.body (envN d f L c)) (fun fl s' => ∃ v hid' ow ρ, fl = .ret v ∧ Stt hid' s.heap.get? s s' (envN d f L c) (ocN d L) ow ρ ∧ Has hid s'.heap v dd) E s₁)
    (k : ∀ v s', Ks s s' → Has hid s'.heap v dd → Q v s') : wpAny (model prog w) A (call (.ref f) vs) Q E s :=
  enterO (ow := []) (hb := s.heap.get?) (fun _ _ e => e) (fun _ q => nomatch q) T hd hf hroom lv hbind hn hv hns hk hnd hfun hco hgen fun L c s₁ E _ hk S =>
    wpAny_mono (body L c s₁ E hk S) (fun fl s₂ hf => by
      obtain ⟨v, hid', ow, ρ, rfl, S₂, hv₂⟩ := hf
      exact k v s₂ ⟨S₂.same, S₂.kept⟩ hv₂) fun _ _ q => q
end
end Mine
end

-- Fw7
section
namespace Mine
open PySem PySem.Calls PySem.Spec PyProof.Rows

section
variable {prog : Program} {w : World} {A : Around} {env : Env} {hid hid' : List Addr} {hb : Addr → Option Obj} {σ s s' : Shared} {oc : List (Str × Addr)} {ow : List (Addr × Ob)} {ρ ρ' : Str → Option D} {E : Value → Shared → Prop} {h h' : Heap}

theorem Fm.weaken (F : Fm hid h env oc ρ) (hw : ∀ x d, ρ' x = some d → ρ x = some d) : Fm hid h env oc ρ' where
  kind := F.kind
  lhid := F.lhid
  cell := F.cell
  loc := let ⟨m, hn, hm⟩ := F.loc; ⟨m, hn, fun x d hx hd => hm x d hx (hw x d hd)⟩
  cel := fun x d hx hd => F.cel x d hx (hw x d hd)
theorem Stt.weaken (S : Stt hid hb σ s env oc ow ρ) (hw : ∀ x d, ρ' x = some d → ρ x = some d) : Stt hid hb σ s env oc ow ρ' := ⟨S.same, S.kept, S.off, S.live, S.fm.weaken hw, S.own, S.ownl⟩

/-- an owned list turns -/
theorem Stt.turnList {a : Addr} {es es' : List D} {tk : Nat} {h' : Heap} (S : Stt hid hb σ s env oc ((a, .lst es) :: ow) ρ) (hne : ∀ p ∈ ow, p.1 ≠ a) (hs : Heap.SameBut a s.heap h') {vs : List Value} {n : Nat} (ho : h'.get? a = some (lobj vs n)) (hv : HasAll hid s.heap vs es') :
    Stt hid hb σ { s with heap := h', toks := tk } env oc ((a, .lst es') :: ow) ρ ∧ KeptBut hid s.heap h' := by
  obtain ⟨ha, hba, vs₀, n₀, ho₀, _⟩ := S.own _ (.head _)
  have k : ∀ b o, b ≠ a → s.heap.get? b = some o → h'.get? b = some o := fun b o hb e => (hs.2 b hb).trans e
  have kb : KeptBut hid s.heap h' := fun b o hb e => k b o (fun q => hb (q ▸ ha)) e
  refine ⟨⟨by rw [S.same], fun b o e => k b o (fun q => by rw [q, hba] at e; cases e) (S.kept b o e), S.off, fun b hb => ?_, S.fm.but ha ho₀ (fun _ _ q => nomatch q) (fun _ q => nomatch q) k, fun p hp => ?_, fun p hp => ?_⟩, kb⟩
  · by_cases q : b = a
    · subst q; exact ⟨_, ho⟩
    · obtain ⟨o', e⟩ := S.live b hb; exact ⟨o', k _ _ q e⟩
  · rcases List.mem_cons.mp hp with rfl | hp
    · exact ⟨ha, hba, vs, n, ho, hv.keepBut kb⟩
    · obtain ⟨x, y, z⟩ := S.own p (.tail _ hp)
      exact ⟨x, y, z.keepBut (fun o e => k _ _ (hne p hp) e) kb⟩
  · rcases List.mem_cons.mp hp with rfl | hp
    · show a ≠ env.locals
      exact S.ownl (a, .lst es) (.head _)
    · exact S.ownl p (.tail _ hp)
theorem Stt.append {a : Addr} {es : List D} {v : Value} {d : D} {Q : Value → Shared → Prop} (S : Stt hid hb σ s env oc ((a, .lst es) :: ow) ρ) (hne : ∀ p ∈ ow, p.1 ≠ a) (hv : Has hid s.heap v d) (hz : es.length ≤ sizeLine)
    (k : ∀ s', Stt hid hb σ s' env oc ((a, .lst (es ++ [d])) :: ow) ρ → KeptBut hid s.heap s'.heap → Q .none s') : wpAny (model prog w) A (call (.builtin "list.append") [.ref a, v]) Q E s := by
  obtain ⟨ha, hba, vs₀, n₀, ho₀, hv₀⟩ := S.own _ (.head _)
  refine wpAny_list_append_plain (hsz := by rw [List.size_toArray, hv₀.length]; exact hz) ⟨n₀, ho₀⟩ fun h' hl hs => ?_
  obtain ⟨n', ho'⟩ := hl
  have e : h'.get? a = some (lobj (vs₀ ++ [v]) n') := by rw [ho']; simp [lobj]
  obtain ⟨S', kb⟩ := S.turnList (tk := s.toks) hne hs e (hv₀.append (.cons hv .nil))
  exact k _ S' kb

/-- the comprehension's loop, for any target -/
theorem compLoop_any {elt target iter : Expr} {ifs : List Expr} {scope : Scope} {pos : Pos} {it acc : Value} {env : Env} {R : Result → Shared → Prop} (I : Nat → Shared → Prop)
    (turn : ∀ n s, I n s → wpAny (model prog w) A (pyNext it) (fun r s₁ => match r with
      | none => R (.ok .next) s₁
      | some v => wpAny (model prog w) A (letOwnedTupleGo target it v) (fun _ s₁' => wpAny (model prog w) A (assign target env v) (fun _ s₂ =>
          wpAny (model prog w) A (forIn ifs true fun c r => if r = true then do let ok ← isTrue c env (eval c env); pure (ForInStep.yield ok) else pure (ForInStep.yield r)) (fun ok s₃ =>
            if ok = true then wpAny (model prog w) A (eval elt env) (fun x s₄ =>
              wpAny (model prog w) A (call (.builtin "list.append") [acc, x]) (fun _ s₅ => ∃ m, m < n ∧ I m s₅) (notedBy (model prog w) A env fun e s' => R (.error e) s') s₄) (notedBy (model prog w) A env fun e s' => R (.error e) s') s₃
            else ∃ m, m < n ∧ I m s₃) (notedBy (model prog w) A env fun e s' => R (.error e) s') s₂) (notedBy (model prog w) A env fun e s' => R (.error e) s') s₁') (notedBy (model prog w) A env fun e s' => R (.error e) s') s₁) (notedBy (model prog w) A env fun e s' => R (.error e) s') s)
    (n : Nat) (h : I n s) : codeAny (model prog w) A (.compLoop (.ListComp elt [⟨target, iter, ifs, 0⟩] scope pos) 0 it acc env) R s := by
  refine codeAny_loop rfl I (fun n s hI => ?_) n h
  show wpAny _ A ((compTurn (.ListComp elt [⟨target, iter, ifs, 0⟩] scope pos) 0 it acc env).onRaise (fun x => do noteFrame x env; theTreesLotGoes x)) _ _ s
  refine wpAny_noted ?_
  rw [compTurn_list]
  refine wpAny_bind (wpAny_standAt (wpAny_bind (wpAny_mono (turn n s hI) (fun r s₁ h₁ => ?_) fun _ _ h' => h')))
  cases r with
  | none => exact wpAny_pure h₁
  | some v =>
    refine wpAny_bind (wpAny_mono h₁ (fun _ s₁' h₁' => ?_) fun _ _ h' => h')
    refine wpAny_bind (wpAny_mono h₁' (fun _ s₂ h₂ => wpAny_bind (wpAny_mono h₂ (fun ok s₃ h₃ => ?_) fun _ _ h' => h')) fun _ _ h' => h')
    cases ok with
    | false => exact wpAny_pure ⟨rfl, h₃⟩
    | true =>
      exact wpAny_bind (wpAny_bind (wpAny_mono h₃ (fun x s₄ h₄ => wpAny_bind (wpAny_mono h₄ (fun _ s₅ h₅ => wpAny_pure (wpAny_pure ⟨rfl, h₅⟩)) fun _ _ h' => h')) fun _ _ h' => h'))

theorem cellsFrom_acc : ∀ (names : List (Str × NameKind)) (n : Nat) (acc cl : List (Str × Addr)), cellsFrom n names (acc ++ cl) = cellsFrom n names acc ++ cl
  | [], _, _, _ => rfl
  | (x, k) :: r, n, acc, cl => by
    unfold cellsFrom
    split
    · exact cellsFrom_acc r (n + 1) ((x, n) :: acc) cl
    · exact cellsFrom_acc r n acc cl

/-- a comprehension's block -/
def cenvN (scope : Scope) (env : Env) (cl : List (Str × Addr)) (C : Addr) : Env :=
  { scope := relabel scope env, locals := C, globals := env.globals, cells := cellsFrom (C + 1) scope.names [] ++ cl, qual := env.qual, func := none, code := env.code, frame := env.frame, builtins := env.builtins }
def cocN (scope : Scope) (C : Addr) : List (Str × Addr) := cellsFrom (C + 1) scope.names []

theorem newCompEnv {scope : Scope} {env : Env} {cl : List (Str × Addr)} {Q : Env → Shared → Prop} {M : Model}
    (hQ : ∀ h', Kept s.heap h' → h'.Ns s.heap.objs.size (fun _ => none) → (∀ n c, (n, c) ∈ cocN scope s.heap.objs.size → h'.IsCell c none ∧ s.heap.objs.size + 1 ≤ c) → (cocN scope s.heap.objs.size).Pairwise (fun x y => x.2 ≠ y.2) →
      Q { scope := scope, locals := s.heap.objs.size, globals := env.globals, cells := cocN scope s.heap.objs.size ++ cl, qual := env.qual, func := none, code := env.code, frame := env.frame, builtins := env.builtins } { s with heap := h' }) :
    wpAny M A (newFunctionEnv scope env.globals cl [] env.qual none .none (some env)) Q E s := by
  simp only [newFunctionEnv, Option.isSome_some, if_true]
  refine wpAny_bind (wpAny_alloc ?_)
  refine wpAny_bind (wpAny_layCells _ (fun name kind cells => by cases hkc : kind == NameKind.cell <;> simp [hkc]) _ _ _ _ ?_)
  have ok := cellsFrom_ok scope.names (s.heap.push { cls := .type "dict", data := .dict #[] }) (s.heap.objs.size + 1) [] ⟨fun _ _ hm => (nomatch hm), List.Pairwise.nil⟩ (by rw [Heap.size_push]; exact Nat.le_refl _)
  rw [Heap.size_push] at ok
  rw [show ({ s with heap := s.heap.push { cls := .type "dict", data := .dict #[] } } : Shared).heap.objs.size = s.heap.objs.size + 1 from Heap.size_push ..]
  have ec : cellsFrom (s.heap.objs.size + 1) scope.names cl = cocN scope s.heap.objs.size ++ cl := cellsFrom_acc scope.names _ [] cl
  rw [ec]
  simp only [List.forIn_nil]
  refine wpAny_bind (wpAny_pure (wpAny_pure ?_))
  exact hQ _ (fun b o e => pushCells_keeps _ _ b o (Heap.get?_push_of_some _ e)) ((Heap.Ns.new s.heap (.type "dict")).keeps (pushCells_keeps _ _)) (fun n c hm => ok.empty n c hm) ok.apart
end
end Mine
end

-- Fw8
section
namespace Mine
open PySem PySem.Calls PySem.Spec PyProof.Rows

/-- the tests of a comprehension -/
def Ts (prog : Program) (w : World) (A : Around) (env : Env) (h : Heap) (ifs : List Expr) (b : Bool) : Prop :=
  ∀ (s : Shared) (Q : Bool → Shared → Prop) (E : Value → Shared → Prop), Kept h s.heap → (∀ s', Ks s s' → Q b s') →
    wpAny (model prog w) A (forIn ifs true fun c r => if r = true then do let ok ← isTrue c env (eval c env); pure (ForInStep.yield ok) else pure (ForInStep.yield r)) Q E s

section
variable {prog : Program} {w : World} {A : Around} {env : Env} {hid hid' : List Addr} {s s₂ : Shared} {E : Value → Shared → Prop} {h : Heap}
theorem Ts.nil : Ts prog w A env h [] true := fun s Q E k hQ => wpAny_tests_nil (hQ _ (Ks.refl _))
theorem Ts.one {c : Expr} {b : Bool} (t : Tr prog w A env h c b) : Ts prog w A env h [c] b := fun s Q E k hQ => wpAny_tests_one (t s Q E k hQ)

/-- what a comprehension asks of its source, its tests, its element -/
structure Cp (prog : Program) (w : World) (A : Around) (env : Env) (hid : List Addr) (h : Heap) (elt target : Expr) (ifs : List Expr) (scope : Scope) (cl : List (Str × Addr)) (n : Nat) (ds : Nat → D) (p : Nat → Bool) (f : Nat → D)
    (ρc : Str → Option D) (bind : Nat → (Str → Option D) → (Str → Option D)) : Prop where
  few : n ≤ sizeLine
  kind : scope.kind = .function
  nodup : (scope.names.map (·.1)).Nodup
  free : ∀ x d, ρc x = some d → (x, NameKind.free) ∈ scope.names ∧ ∃ c v, cl.lookup x = some c ∧ h.IsCell c (some v) ∧ Has hid h v d
  old : ∀ x c, cl.lookup x = some c → ∃ o, h.get? c = some o
  back : ∀ i x d, ρc x = some d → bind i ρc x = some d
  aim : ∀ C i, i < n → Aim prog w A (cenvN scope env cl C) (cocN scope C) target (ds i) (bind i)
  test : ∀ i, i < n → ∀ C hid' h', (∀ a ∈ hid, a ∈ hid') → Live hid' h' → Kept h h' → Fm hid' h' (cenvN scope env cl C) (cocN scope C) (bind i ρc) → Ts prog w A (cenvN scope env cl C) h' ifs (p i)
  elt : ∀ i, i < n → p i = true → ∀ C hid' h', (∀ a ∈ hid, a ∈ hid') → Live hid' h' → Kept h h' → Fm hid' h' (cenvN scope env cl C) (cocN scope C) (bind i ρc) → Ev prog w A (cenvN scope env cl C) hid' h' elt (f i)

theorem mem_cells {scope : Scope} {C : Addr} {x : Str} {c : Addr} (hm : (x, c) ∈ cocN scope C) : (x, NameKind.cell) ∈ scope.names := by
  rcases cellsFrom_cell _ _ _ _ hm with q | q
  · cases q
  · exact q
theorem lookup_append {α : Type} : ∀ {l r : List (Str × α)} {x : Str}, (l ++ r).lookup x = (match l.lookup x with | some a => some a | none => r.lookup x)
  | [], _, _ => rfl
  | (y, b) :: l, r, x => by
    rw [List.cons_append, List.lookup_cons, List.lookup_cons]
    cases (x == y) with
    | true => rfl
    | false => exact lookup_append

theorem lookup_relabel {env : Env} {names : List (Str × NameKind)} {x : Str} {k : NameKind} (h : names.lookup x = some k) :
    (names.map fun (n, k) => if (k == NameKind.free && env.scope.kind == .function && env.kindOf n == some .cell) then (n, NameKind.cell) else (n, k)).lookup x = some (if (k == NameKind.free && env.scope.kind == .function && env.kindOf x == some .cell) then NameKind.cell else k) := by
  induction names with
  | nil => cases h
  | cons a r ih =>
    obtain ⟨n, k'⟩ := a
    rw [List.lookup_cons] at h
    rw [List.map_cons]
    cases hx : x == n with
    | true =>
      rw [hx] at h
      cases h
      have e : x = n := by simpa using hx
      subst e
      show List.lookup x ((if (k == NameKind.free && env.scope.kind == .function && env.kindOf x == some .cell) = true then (x, NameKind.cell) else (x, k)) :: _) = _
      by_cases c : (k == NameKind.free && env.scope.kind == .function && env.kindOf x == some .cell) = true
      · rw [if_pos c, if_pos c]; simp
      · rw [if_neg c, if_neg c]; simp
    | false =>
      rw [hx] at h
      have ih' := ih h
      show List.lookup x ((if (k' == NameKind.free && env.scope.kind == .function && env.kindOf n == some .cell) = true then (n, NameKind.cell) else (n, k')) :: _) = _
      by_cases c : (k' == NameKind.free && env.scope.kind == .function && env.kindOf n == some .cell) = true
      · rw [if_pos c, List.lookup_cons, hx]; exact ih'
      · rw [if_neg c, List.lookup_cons, hx]; exact ih'

theorem comp_block {elt target iter : Expr} {ifs : List Expr} {scope : Scope} {cl : List (Str × Addr)} {pos : Pos} {n : Nat} {ds : Nat → D} {p : Nat → Bool} {f : Nat → D} {ρc : Str → Option D} {bind : Nat → (Str → Option D) → (Str → Option D)}
    {I : Addr} {oI : Obj} {St : Nat → Heap → Prop} {RR : Value → Addr → Result → Shared → Prop}
    (lv : Live hid s.heap) (ks : Ks s s₂) (hI : s.heap.get? I = none) (hoI : s₂.heap.get? I = some oI) (R : Src prog w A (I :: hid) s₂ I target n ds St) (h0 : St 0 s₂.heap)
    (P : Cp prog w A env hid s.heap elt target ifs scope cl n ds p f ρc bind)
    (hRR : ∀ D C s', Ks s s' → s.heap.get? C = none → (∃ m, s'.heap.Ns C m) → D ≠ C → Has (C :: hid) s'.heap (.ref D) (.lst (((List.range n).filter p).map f)) → RR (.ref D) C (.ok .next) s') :
    wpAny (model prog w) A (newList []) (fun acc s₃ => wpAny (model prog w) A (newFunctionEnv scope env.globals cl [] env.qual none .none (some env)) (fun cenv s₄ =>
      codeAny (model prog w) A (.compStart (.ListComp elt [⟨target, iter, ifs, 0⟩] scope pos) 0 (.ref I) acc { cenv with scope := relabel scope env }) (RR acc cenv.locals) s₄) E s₃) E s₂ := by
  refine wpAny_newObj_type (newCompEnv fun h₁ hk₁ hns hcl hap => ?_)
  dsimp only at hk₁ hns hcl hap ⊢
  generalize hH : s₂.heap.push { cls := .type "list", data := .seq ([] : List Value).toArray } = H at hk₁ hns hcl hap ⊢
  have hHs : H.objs.size = s₂.heap.objs.size + 1 := by rw [← hH, Heap.size_push]
  have hD₁ : h₁.get? s₂.heap.objs.size = some (lobj [] 0) := hk₁ _ _ (hH ▸ Heap.get?_push_size _ rfl)
  have up : Kept s₂.heap h₁ := fun b o e => hk₁ _ _ (hH ▸ Heap.get?_push_of_some _ e)
  have upS : Kept s.heap h₁ := fun b o e => up b o (ks.kept b o e)
  have noneS : ∀ a, s₂.heap.objs.size ≤ a → s.heap.get? a = none := fun a ha => by
    cases q : s.heap.get? a with
    | none => rfl
    | some o => exact absurd (Heap.lt_size (ks.kept _ _ q)) (Nat.not_lt.mpr ha)
  have hDC : s₂.heap.objs.size ≠ H.objs.size := by omega
  generalize hC : H.objs.size = C at hns hcl hap hDC hHs ⊢
  have hCn : s.heap.get? C = none := noneS C (by omega)
  have hcn : ∀ q ∈ cocN scope C, s.heap.get? q.2 = none := fun q hq => noneS _ (by have := (hcl q.1 q.2 hq).2; omega)
  -- what is hidden within
  let hidC : List Addr := C :: ((cocN scope C).map (·.2) ++ (s₂.heap.objs.size :: I :: hid))
  have hsub : ∀ a ∈ hid, a ∈ hidC := fun a ha => .tail _ (List.mem_append.mpr (.inr (.tail _ (.tail _ ha))))
  have hfresh : ∀ a ∈ hidC, a ∈ hid ∨ s.heap.get? a = none := fun a ha => by
    rcases List.mem_cons.mp ha with rfl | ha
    · exact .inr hCn
    · rcases List.mem_append.mp ha with ha | ha
      · obtain ⟨q, hq, rfl⟩ := List.mem_map.mp ha
        exact .inr (hcn q hq)
      · rcases List.mem_cons.mp ha with rfl | ha
        · exact .inr (noneS _ (Nat.le_refl _))
        · rcases List.mem_cons.mp ha with rfl | ha
          · exact .inr hI
          · exact .inl ha
  have hfresh₂ : ∀ a ∈ hidC, a ∈ I :: hid ∨ s₂.heap.get? a = none := fun a ha => by
    rcases List.mem_cons.mp ha with rfl | ha
    · exact .inr (get_ge (by omega))
    · rcases List.mem_append.mp ha with ha | ha
      · obtain ⟨q, hq, rfl⟩ := List.mem_map.mp ha
        exact .inr (get_ge (by have := (hcl q.1 q.2 hq).2; omega))
      · rcases List.mem_cons.mp ha with rfl | ha
        · exact .inr (get_size _)
        · exact .inl ha
  have hnc : ((cocN scope C).map (·.1)).Nodup := cellsFrom_nodup scope.names _ [] P.nodup .nil (fun _ q => nomatch q)
  have hFm : Fm hidC h₁ (cenvN scope env cl C) (cocN scope C) ρc := by
    refine ⟨P.kind, .head _, fun q hq => ?_, ⟨_, hns, fun x d hx hd => ?_⟩, fun x d hx hd => ?_⟩
    · have hm := mem_cells (x := q.1) (c := q.2) hq
      refine ⟨?_, ?_, .tail _ (List.mem_append.mpr (.inl (List.mem_map_of_mem hq))), ⟨none, (hcl q.1 q.2 hq).1⟩, fun y hy hl => ?_⟩
      · exact (lookup_relabel (lookup_nodup P.nodup hm)).trans rfl
      · show (cocN scope C ++ cl).lookup q.1 = _
        rw [lookup_append, lookup_nodup hnc hq]
      · have hl' : (cocN scope C ++ cl).lookup y = some q.2 := hl
        rw [lookup_append] at hl'
        cases e : (cocN scope C).lookup y with
        | some c =>
          rw [e] at hl'
          cases hl'
          exact hy (name_of_addr hap (mem_of_lookup e) hq)
        | none =>
          rw [e] at hl'
          obtain ⟨o, ho⟩ := P.old y q.2 hl'
          rw [hcn q hq] at ho; cases ho
    · exfalso
      have h1 := lookup_nodup P.nodup (P.free x d hd).1
      have h2 := (lookup_relabel (env := env) h1).symm.trans hx
      split at h2 <;> cases h2
    · obtain ⟨hm, c, v, hc, hcell, hv⟩ := P.free x d hd
      refine ⟨c, v, ?_, hcell.keeps upS, (hv.fresh hfresh).keep upS⟩
      show (cocN scope C ++ cl).lookup x = _
      rw [lookup_append]
      cases e : (cocN scope C).lookup x with
      | some c' =>
        have h1 := lookup_nodup P.nodup (mem_cells (mem_of_lookup e))
        rw [lookup_nodup P.nodup hm] at h1; cases h1
      | none => exact hc
  have hlive : Live hidC h₁ := fun a ha => by
    rcases List.mem_cons.mp ha with rfl | ha
    · obtain ⟨o, _, _, e, _⟩ := hns; exact ⟨o, e⟩
    · rcases List.mem_append.mp ha with ha | ha
      · obtain ⟨q, hq, rfl⟩ := List.mem_map.mp ha
        obtain ⟨o, e, _⟩ := (hcl q.1 q.2 hq).1; exact ⟨o, e⟩
      · rcases List.mem_cons.mp ha with rfl | ha
        · exact ⟨_, hD₁⟩
        · rcases List.mem_cons.mp ha with rfl | ha
          · exact ⟨_, up _ _ hoI⟩
          · obtain ⟨o, e⟩ := lv a ha; exact ⟨o, upS _ _ e⟩
  have hDh : s₂.heap.objs.size ∈ hidC := .tail _ (List.mem_append.mpr (.inr (.head _)))
  have hIh : I ∈ hidC := .tail _ (List.mem_append.mpr (.inr (.tail _ (.head _))))
  have S₀ : Stt hidC s.heap.get? s { s₂ with heap := h₁ } (cenvN scope env cl C) (cocN scope C) [(s₂.heap.objs.size, .lst [])] ρc := by
    refine ⟨by rw [ks.same], upS, fun b hb => ?_, hlive, hFm, fun q hq => ?_, fun q hq => by cases List.mem_singleton.mp hq; exact hDC⟩
    · rcases hb with rfl | ⟨q, hq, rfl⟩
      · exact hCn
      · exact hcn q hq
    · cases List.mem_singleton.mp hq
      exact ⟨hDh, noneS _ (Nat.le_refl _), [], 0, hD₁, .nil⟩
  have hIC : ∀ {h : Heap} {o : Obj}, h.get? I = some o → True := fun _ => trivial
  have loop : codeAny (model prog w) A (.compLoop (.ListComp elt [⟨target, iter, ifs, 0⟩] scope pos) 0 (.ref I) (.ref s₂.heap.objs.size) (cenvN scope env cl C)) (RR (.ref s₂.heap.objs.size) C) { s₂ with heap := h₁ } := by
    refine compLoop_any (fun k s' => ∃ i, i ≤ n ∧ k = n + 1 - i ∧ Stt hidC s.heap.get? s s' (cenvN scope env cl C) (cocN scope C) [(s₂.heap.objs.size, .lst (((List.range i).filter p).map f))] ρc ∧ St i s'.heap ∧ KeptBut (I :: hid) s₂.heap s'.heap) ?_ (n + 1)
      ⟨0, Nat.zero_le _, rfl, S₀, R.frame _ _ _ h0 (fun o e => up _ _ e) (fun b o _ e => up b o e), fun b o _ e => up b o e⟩
    rintro k s' ⟨i, hi, rfl, S', hSt, hK⟩
    obtain ⟨oN, heN, hN1, hN2, hN3⟩ := R.obj i _ hSt
    by_cases hlt : i < n
    · refine R.item i s' _ _ hlt hSt hK fun v h₂ tk₂ hv hSt₂ hk₂ => ?_
      obtain ⟨oN', heN', hM1, hM2, hM3⟩ := R.obj (i + 1) _ hSt₂
      have S₂ : Stt hidC s.heap.get? s { s' with heap := h₂, toks := tk₂ } (cenvN scope env cl C) (cocN scope C) [(s₂.heap.objs.size, .lst (((List.range i).filter p).map f))] ρc := S'.but hIh heN hN1 hN2 hN3 hI ⟨_, heN'⟩ hk₂
      have kb₂ : KeptBut (I :: hid) s'.heap h₂ := fun b o hb e => hk₂ b o (fun q => hb (q ▸ .head _)) e
      have hK₂ : KeptBut (I :: hid) s₂.heap h₂ := fun b o hb e => kb₂ b o hb (hK b o hb e)
      have hv₂ : Has hidC h₂ v (ds i) := hv.mono hK₂ (fun a o hna e hm => (hfresh₂ a hm).elim hna fun q => by rw [q] at e; cases e)
      have hIbase : baseOf { s' with heap := h₂, toks := tk₂ } (cenvN scope env cl C) (cocN scope C) [(s₂.heap.objs.size, .lst (((List.range i).filter p).map f))] I = some oN' := by
        unfold baseOf
        rw [if_neg]
        · exact heN'
        · rintro (q | ⟨q', hq, q⟩ | ⟨q', hq, q⟩)
          · obtain ⟨m, ⟨o', es, ep, e', hd', _⟩, _⟩ := S₂.fm.loc
            rw [← q, heN'] at e'; cases e'; exact hM1 _ _ hd'
          · obtain ⟨_, _, _, ⟨v', o', e', hd'⟩, _⟩ := S₂.fm.cell q' hq
            rw [q, heN'] at e'; cases e'; exact hM2 _ hd'
          · cases List.mem_singleton.mp hq
            obtain ⟨_, _, vs, m, e', _⟩ := S₂.own _ (.head _)
            simp only at q e'
            rw [q, heN'] at e'; cases e'; exact hM3 _ _ rfl
      have base₂ : ∀ b o, b ∉ I :: hid → s₂.heap.get? b = some o → baseOf { s' with heap := h₂, toks := tk₂ } (cenvN scope env cl C) (cocN scope C) [(s₂.heap.objs.size, .lst (((List.range i).filter p).map f))] b = some o := fun b o hb e =>
        S₂.base_hid (fun hm => (hfresh₂ b hm).elim hb fun q => by rw [q] at e; cases e) (hK₂ b o hb e)
      refine R.lets (i + 1) { s' with heap := h₂, toks := tk₂ } v _ _ hSt₂ ?_
      refine P.aim C i hlt hidC _ s _ _ ρc v _ _ S₂.rebase hv₂ fun s₃ S₃ k₃ => ?_
      refine P.test i hlt C hidC s₃.heap hsub S₃.live (fun b o e => S₃.kept b o (S₂.base_of e)) S₃.fm s₃ _ _ (fun _ _ e => e) fun s₄ k₄ => ?_
      have S₄ := S₃.keep k₄
      cases hp : p i with
      | false =>
        simp only [Bool.false_eq_true, if_false]
        refine ⟨n + 1 - (i + 1), by omega, i + 1, hlt, rfl, ?_, ?_, fun b o hb e => S₄.kept b o (base₂ b o hb e)⟩
        · have e : ((List.range (i + 1)).filter p).map f = ((List.range i).filter p).map f := by
            rw [List.range_succ, List.filter_append]; simp [hp]
          rw [e]
          exact (S₂.debase S₄).weaken (P.back i)
        · exact R.frame _ _ _ hSt₂ (fun o e => by rw [heN'] at e; cases e; exact S₄.kept I _ hIbase) fun b o hb e => S₄.kept b o (base₂ b o hb e)
      | true =>
        simp only [if_true]
        refine P.elt i hlt hp C hidC s₄.heap hsub S₄.live (fun b o e => S₄.kept b o (S₂.base_of e)) S₄.fm s₄ _ _ (fun _ _ e => e) fun x s₅ k₅ hx => ?_
        have S₅ := S₄.keep k₅
        refine S₅.append (fun _ q => nomatch q) hx ?_ fun s₆ S₆ _ => ?_
        · rw [List.length_map]
          refine Nat.le_trans (List.length_filter_le _ _) ?_
          rw [List.length_range]
          exact Nat.le_trans (Nat.le_of_lt hlt) P.few
        · refine ⟨n + 1 - (i + 1), by omega, i + 1, hlt, rfl, ?_, ?_, fun b o hb e => S₆.kept b o (base₂ b o hb e)⟩
          · have e : ((List.range (i + 1)).filter p).map f = ((List.range i).filter p).map f ++ [f i] := by
              rw [List.range_succ, List.filter_append]; simp [hp]
            rw [e]
            exact (S₂.debase S₆).weaken (P.back i)
          · exact R.frame _ _ _ hSt₂ (fun o e => by rw [heN'] at e; cases e; exact S₆.kept I _ hIbase) fun b o hb e => S₆.kept b o (base₂ b o hb e)
    · have hin : i = n := by omega
      subst hin
      refine R.done s' _ _ hSt hK fun h₂ tk₂ hk₂ => ?_
      obtain ⟨m, hm, _⟩ := S'.fm.loc
      have hIC : C ≠ I := fun q => by
        obtain ⟨o', es, ep, e', hd', _⟩ := hm
        have e'' : s'.heap.get? C = some o' := e'
        rw [q, heN] at e''; cases e''; exact hN1 _ _ hd'
      obtain ⟨_, _, vs, c, eD, hvs⟩ := S'.own _ (.head _)
      have hDI : s₂.heap.objs.size ≠ I := fun q => by
        simp only at eD
        rw [q, heN] at eD; cases eD; exact hN3 _ _ rfl
      refine hRR _ C { s' with heap := h₂, toks := tk₂ } ⟨by rw [S'.same], fun b o e => hk₂ b o (fun q => by rw [q, hI] at e; cases e) (S'.kept b o e)⟩ hCn ⟨m, hm.at' fun o e => hk₂ _ o hIC e⟩ hDC ?_
      refine .lst (n := c) (vs := vs) (fun hmm => ?_) (hk₂ _ _ hDI eD) (hvs.mono (fun b o hb e => hk₂ b o (fun q => hb (q ▸ hIh)) e) (fun a o hna e hm => hna ?_))
      · rcases List.mem_cons.mp hmm with q | q
        · exact hDC q
        · obtain ⟨o, e⟩ := lv _ q
          rw [noneS _ (Nat.le_refl _)] at e; cases e
      · rcases List.mem_cons.mp hm with rfl | hm
        · exact .head _
        · exact hsub a hm
  exact codeAny_compStart_list loop (R.self 0 _ _ _ (R.frame _ _ _ h0 (fun o e => up _ _ e) (fun b o _ e => up b o e)) loop)
end
end Mine
end

-- Fw9
section
namespace Mine
open PySem PySem.Calls PySem.Spec PyProof.Rows

section
variable {prog : Program} {w : World} {A : Around} {env : Env} {hid hid' : List Addr} {s s₂ : Shared} {E : Value → Shared → Prop} {h h' : Heap}
  {elt target iter : Expr} {ifs : List Expr} {scope : Scope} {cl : List (Str × Addr)} {pos : Pos} {n : Nat} {ds : Nat → D} {p : Nat → Bool} {f : Nat → D} {ρc : Str → Option D} {bind : Nat → (Str → Option D) → (Str → Option D)}
mutual
theorem Has.monoS {hid hid' : List Addr} {h h' : Heap} (k : ∀ b vs n, b ∉ hid → (h.get? b = some (lobj vs n) → h'.get? b = some (lobj vs n) ∧ b ∉ hid') ∧ (h.get? b = some (tobj vs n) → h'.get? b = some (tobj vs n) ∧ b ∉ hid')) : ∀ {v : Value} {d : D}, Has hid h v d → Has hid' h' v d
  | _, _, .none => .none
  | _, _, .bool b => .bool b
  | _, _, .int i t => .int i t
  | _, _, .raw v => .raw v
  | _, _, .lst n e r => .lst ((k _ _ _ n).1 e).2 ((k _ _ _ n).1 e).1 (HasAll.monoS k r)
  | _, _, .tup n e r => .tup ((k _ _ _ n).2 e).2 ((k _ _ _ n).2 e).1 (HasAll.monoS k r)
theorem HasAll.monoS {hid hid' : List Addr} {h h' : Heap} (k : ∀ b vs n, b ∉ hid → (h.get? b = some (lobj vs n) → h'.get? b = some (lobj vs n) ∧ b ∉ hid') ∧ (h.get? b = some (tobj vs n) → h'.get? b = some (tobj vs n) ∧ b ∉ hid')) : ∀ {vs : List Value} {ds : List D}, HasAll hid h vs ds → HasAll hid' h' vs ds
  | _, _, .nil => .nil
  | _, _, .cons x r => .cons (Has.monoS k x) (HasAll.monoS k r)
end

/-- a namespace that is no name's goes -/
theorem Stt.away {hb : Addr → Option Obj} {σ : Shared} {oc : List (Str × Addr)} {ow : List (Addr × Ob)} {ρ : Str → Option D} {C : Addr} {o : Obj} {es : Array DictEntry} {ep : Nat} {h' : Heap} (S : Stt hid hb σ s env oc ow ρ) (ho : s.heap.get? C = some o) (hd : o.data = .dict es ep) (hL : env.locals ≠ C) (hn : hb C = none) (hC : C ∉ hid)
    (k : ∀ b o, b ≠ C → s.heap.get? b = some o → h'.get? b = some o) : Stt hid hb σ { s with heap := h' } env oc ow ρ := by
  have hv : ∀ {v d}, Has hid s.heap v d → Has hid h' v d := fun x => x.monoS fun b vs n hb => ⟨fun e => ⟨k _ _ (fun q => by rw [q, ho] at e; cases e; cases hd) e, hb⟩, fun e => ⟨k _ _ (fun q => by rw [q, ho] at e; cases e; cases hd) e, hb⟩⟩
  have hvs : ∀ {vs ds}, HasAll hid s.heap vs ds → HasAll hid h' vs ds := fun x => x.monoS fun b vs n hb => ⟨fun e => ⟨k _ _ (fun q => by rw [q, ho] at e; cases e; cases hd) e, hb⟩, fun e => ⟨k _ _ (fun q => by rw [q, ho] at e; cases e; cases hd) e, hb⟩⟩
  have hcl : ∀ c v, s.heap.IsCell c v → h'.IsCell c v := fun c v ⟨o', e, q⟩ => ⟨o', k c o' (fun z => by rw [z, ho] at e; cases e; rw [hd] at q; cases q) e, q⟩
  refine ⟨by rw [S.same], fun b o e => k b o (fun q => by rw [q, hn] at e; cases e) (S.kept b o e), S.off, fun b hb => ?_, ⟨S.fm.kind, S.fm.lhid, fun p hp => ?_, ?_, fun x d hx hdd => ?_⟩, fun p hp => ?_, S.ownl⟩
  · obtain ⟨o', e⟩ := S.live b hb
    exact ⟨o', k _ _ (fun q => hC (q ▸ hb)) e⟩
  · obtain ⟨a1, b1, c1, ⟨v, d1⟩, e1⟩ := S.fm.cell p hp
    exact ⟨a1, b1, c1, ⟨v, hcl _ _ d1⟩, e1⟩
  · obtain ⟨m, hm, hr⟩ := S.fm.loc
    exact ⟨m, hm.at' fun o e => k _ o hL e, fun x d hx hdd => let ⟨v, e, q⟩ := hr x d hx hdd; ⟨v, e, hv q⟩⟩
  · obtain ⟨c, v, e, hc, hh⟩ := S.fm.cel x d hx hdd
    exact ⟨c, v, e, hcl _ _ hc, hv hh⟩
  · obtain ⟨a, b, c⟩ := S.own p hp
    refine ⟨a, b, ?_⟩
    obtain ⟨p1, p2⟩ := p
    cases p2 with
    | dct prog' w' ys =>
      obtain ⟨⟨o1, es1, ep1, e1, e2, e3, e4, e5, e6⟩, hn1⟩ := c
      refine ⟨⟨o1, es1, ep1, k _ _ (fun q => hC (q ▸ a)) e1, e2, e3, e4, fun y hy => ?_, e6⟩, hn1⟩
      obtain ⟨o', items, n, ho', q1, q2, q3⟩ := e5 y hy
      refine ⟨o', items, n, k _ _ (fun q => ?_) ho', q1, q2, q3⟩
      rw [q, ho] at ho'; cases ho'; rw [hd] at q2; cases q2
    | lst l =>
      obtain ⟨vs, n, e, r⟩ := c
      exact ⟨vs, n, k _ _ (fun q => by simp only at q e; rw [q, ho] at e; cases e; cases hd) e, hvs r⟩

theorem EvIt.mono (k : Kept h h') (x : EvIt prog w A env hid h iter target n ds) : EvIt prog w A env hid h' iter target n ds := fun s Q E k' hQ => x s Q E (fun b o q => k' b o (k b o q)) hQ
theorem Cp.mono (P : Cp prog w A env hid h elt target ifs scope cl n ds p f ρc bind) (k : Kept h h') : Cp prog w A env hid h' elt target ifs scope cl n ds p f ρc bind where
  few := P.few
  kind := P.kind
  nodup := P.nodup
  free := fun x d hx => let ⟨a, c, v, b, e, g⟩ := P.free x d hx; ⟨a, c, v, b, e.keeps k, g.keep k⟩
  old := fun x c hx => let ⟨o, e⟩ := P.old x c hx; ⟨o, k _ _ e⟩
  back := P.back
  aim := P.aim
  test := fun i hi C hid' h'' a b c d => P.test i hi C hid' h'' a b (fun x o q => c x o (k x o q)) d
  elt := fun i hi hp C hid' h'' a b c d => P.elt i hi hp C hid' h'' a b (fun x o q => c x o (k x o q)) d

theorem Ev.comp (lv : Live hid h) (it : EvIt prog w A env hid h iter target n ds) (hclos : closureFor scope env = pure cl) (P : Cp prog w A env hid h elt target ifs scope cl n ds p f ρc bind)
    (hs : ∀ x, foldedSetIterable iter env x = pure x := by intro _; rfl) : Ev prog w A env hid h (.ListComp elt [⟨target, iter, ifs, 0⟩] scope pos) (.lst (((List.range n).filter p).map f)) := fun s Q E k hQ => by
  rw [eval_ListComp]
  refine wpAny_comprehension_free (use := none) rfl hs hclos P.kind (fun x hx hl => ?_) (it.mono k s _ E (fun _ _ e => e) fun s₂ I oI St ks hI hoI R h0 => ?_)
  · obtain ⟨a, b⟩ := x; cases hl; exact lookup_nodup P.nodup hx
  · refine comp_block (RR := fun acc C => compPost (model prog w) A E none Q acc C) (lv.keep k) ks hI hoI R h0 (P.mono k) fun D C s' ks' hC ⟨m, hm⟩ hDC hD => ?_
    refine ⟨m, hm, fun h'' hs'' => hQ _ _ ⟨by rw [ks'.same], fun b o e => (hs''.2 b (fun q => by rw [q, hC] at e; cases e)).trans (ks'.kept b o e)⟩ ?_⟩
    exact (hD.keepBut (h' := h'') fun b o hb e => (hs''.2 b (fun q => hb (q ▸ .head _))).trans e).weak fun _ m => .tail _ m

theorem st_comp {hb : Addr → Option Obj} {σ : Shared} {oc : List (Str × Addr)} {ow : List (Addr × Ob)} {ρ : Str → Option D} {y : Str} {py spos : Pos} {Q : Flow → Shared → Prop}
    (S : Stt hid hb σ s env oc ow ρ) (hsw : swapsWith (.ListComp elt [⟨target, iter, ifs, 0⟩] scope pos) (some (.Name y py)) spos.line env = pure true)
    (hy : env.kindOf y = some .local) (it : EvIt prog w A env hid s.heap iter target n ds) (hclos : closureFor scope env = pure cl) (P : Cp prog w A env hid s.heap elt target ifs scope cl n ds p f ρc bind)
    (k : ∀ s', Stt hid hb σ s' env oc ow (upd ρ y (.lst (((List.range n).filter p).map f))) → Q .next s') (hs : ∀ x, foldedSetIterable iter env x = pure x := by intro _; rfl) :
    wpAny (model prog w) A (exec (.Assign [.Name y py] (.ListComp elt [⟨target, iter, ifs, 0⟩] scope pos) spos) env) Q E s := by
  rw [exec_Assign_Name_used _ _ _ _ hsw]
  refine wpAny_bind (wpAny_standAt (wpAny_bind ?_))
  show wpAny _ A (do let _ ← comprehension (.ListComp elt [⟨target, iter, ifs, 0⟩] scope pos) scope env _ (newList []) false (eval iter env) (some (assign (.Name y py) env))) _ _ s
  refine wpAny_bind (wpAny_mono (wpAny_comprehension_free (use := some (assign (.Name y py) env)) (Q := fun _ s' => Q .next s') rfl hs hclos P.kind (fun x hx hl => ?_)
    (it s _ E (fun _ _ e => e) fun s₂ I oI St ks hI hoI R h0 => ?_)) (fun _ s' hq => wpAny_pure (wpAny_pure hq)) fun _ _ e => e)
  · obtain ⟨a, b⟩ := x; cases hl; exact lookup_nodup P.nodup hx
  · refine comp_block (RR := fun acc C => compPost (model prog w) A E (some (assign (.Name y py) env)) (fun _ s' => Q .next s') acc C) S.live ks hI hoI R h0 P fun D C s' ks' hC ⟨m, hm⟩ hDC hD => ?_
    show wpAny _ A (assign (.Name y py) env (.ref D)) _ _ _
    have S' := S.keep ks'
    have hLC : env.locals ≠ C := by
      rintro rfl
      obtain ⟨m', ⟨o, _, _, ho, _⟩, _⟩ := S.fm.loc
      rw [hC] at ho; cases ho
    have hCb : hb C = none := by
      cases q : hb C with
      | none => rfl
      | some o => rw [S.kept C o q] at hC; cases hC
    obtain ⟨oC, es, ep, hoC, hdC, hrC⟩ := hm
    have hbase : baseOf s' env oc ow C = some oC := by
      unfold baseOf
      rw [if_neg]
      · exact hoC
      · rintro (q | ⟨q', hq, q⟩ | ⟨q', hq, q⟩)
        · exact hLC q.symm
        · obtain ⟨_, _, _, ⟨v', o', e', hd'⟩, _⟩ := S'.fm.cell q' hq
          rw [q, hoC] at e'; cases e'; rw [hdC] at hd'; cases hd'
        · obtain ⟨_, _, c⟩ := S'.own q' hq
          obtain ⟨p1, p2⟩ := q'
          cases p2 with
          | lst l =>
            obtain ⟨vs, n, e', _⟩ := c
            simp only at q e'
            rw [q, hoC] at e'; cases e'; cases hdC
          | dct prog' w' ys =>
            have h1 := (S'.own _ hq).1
            simp only at q
            exact S.live.fresh hC (q ▸ h1)
    refine Aim.name (.inl ⟨hy, rfl⟩) hid _ σ s' ow ρ (.ref D) _ _ S'.rebase (hD.weak fun _ m => .tail _ m) fun s₃ S₃ k₃ => ?_
    have eC := S₃.kept C _ hbase
    refine ⟨m, ⟨oC, es, ep, eC, hdC, hrC⟩, fun h'' hs'' => ?_⟩
    exact k _ ((S'.debase S₃).away eC hdC hLC hCb (S.live.fresh hC) fun b o hb e => (hs''.2 b hb).trans e)
end
end Mine
end

-- Fw10
section
namespace Mine
open PySem PySem.Calls PySem.Spec PyProof.Rows

/-- the room that a call has -/
structure AOk (A : Around) (n : Nat) : Prop where
  handled : A.handled = none
  depth : A.depth + n < recursionLimit
  units : A.units + 4 * n + 8 < cLine
theorem AOk.deeper {A : Around} {n : Nat} (a : AOk A (n + 1)) (env : Env) : AOk (A.deeper env) n := ⟨a.handled, by have := a.depth; show A.depth + 1 + n < _; omega, by have := a.units; show A.units + 3 + 4 * n + 8 < _; omega⟩
theorem AOk.le {A : Around} {n m : Nat} (a : AOk A n) (h : m ≤ n) : AOk A m := ⟨a.handled, by have := a.depth; omega, by have := a.units; omega⟩
theorem AOk.room {A : Around} {n : Nat} (a : AOk A (n + 1)) : A.depth < recursionLimit := by have := a.depth; omega

mutual
def toPy : D → PyData
  | .none => .none
  | .bool b => .bool b
  | .int i => .int i
  | .lst l => .list (toPyL l)
  | .tup l => .tuple (toPyL l)
  | .raw _ => .none
def toPyL : List D → List PyData
  | [] => []
  | d :: l => toPy d :: toPyL l
end
mutual
def flat : D → Bool
  | .none | .bool _ | .int _ => true
  | .lst l => flatL l
  | .tup l => flatL l
  | .raw _ => false
def flatL : List D → Bool
  | [] => true
  | d :: l => flat d && flatL l
end
mutual
theorem canLay_toPy : ∀ d : D, PyData.canLay0 (toPy d) = true
  | .none => rfl
  | .bool _ => rfl
  | .int _ => rfl
  | .raw _ => rfl
  | .lst l => by show PyData.canLay0 (.list (toPyL l)) = true; simpa [PyData.canLay0] using canLay_toPyL l
  | .tup l => by show PyData.canLay0 (.tuple (toPyL l)) = true; simpa [PyData.canLay0] using canLay_toPyL l
theorem canLay_toPyL : ∀ l : List D, PyData.canLayAll0 (toPyL l) = true
  | [] => rfl
  | d :: l => by show PyData.canLayAll0 (toPy d :: toPyL l) = true; simp [PyData.canLayAll0, canLay_toPy d, canLay_toPyL l]
end
mutual
theorem Has.reads {hid : List Addr} {h : Heap} : ∀ {v : Value} {d : D}, flat d = true → Has hid h v d → ∃ as, Reads h v (toPy d) as
  | _, _, _, .none => ⟨_, .none⟩
  | _, _, _, .bool b => ⟨_, .bool b⟩
  | _, _, _, .int i t => ⟨_, .int i t⟩
  | _, .raw _, hf, .raw _ => by cases hf
  | _, _, hf, .lst n e r => let ⟨as, x⟩ := HasAll.reads (by simpa [flat] using hf) r; ⟨_, .list e rfl rfl (by simpa using x)⟩
  | _, _, hf, .tup n e r => let ⟨as, x⟩ := HasAll.reads (by simpa [flat] using hf) r; ⟨_, .tuple e rfl rfl (by simpa using x)⟩
theorem HasAll.reads {hid : List Addr} {h : Heap} : ∀ {vs : List Value} {ds : List D}, flatL ds = true → HasAll hid h vs ds → ∃ as, ReadsAll h vs (toPyL ds) as
  | _, _, _, .nil => ⟨_, .nil⟩
  | _, _, hf, .cons x r => by
    simp only [flatL, Bool.and_eq_true] at hf
    obtain ⟨as, x'⟩ := Has.reads hf.1 x
    obtain ⟨bs, r'⟩ := HasAll.reads hf.2 r
    exact ⟨_, .cons x' r'⟩
end

section
variable {prog : Program} {w : World} {A : Around} {env : Env} {hid hid' : List Addr} {s s' : Shared} {E : Value → Shared → Prop} {h h' : Heap} {e l r x y z : Expr} {d a b c : D} {ds es : List D} {pos : Pos}

-- tests
theorem Tr.cmp {op : CmpOp} {t : Bool} (x : Ev prog w A env hid h l a) (y : Ev prog w A env hid h r b) (o : Op2 prog w A hid h (compareOp op) a b (.bool t)) (hm : behindInMarks op r = false := by with_unfolding_all rfl) :
    Tr prog w A env h (.Compare l [op] [r] pos) t := fun s Q E k hQ =>
  wpAny_isTrue_Compare1 (x s _ E k fun u s₁ k₁ hu => y s₁ _ E (fun b o q => k₁.kept b o (k b o q)) fun v s₂ k₂ hv =>
    o s₂ u v _ E (fun b o q => k₂.kept b o (k₁.kept b o (k b o q))) (hu.keep k₂.kept) hv fun z s₃ k₃ hz => by
      cases hz
      exact wpAny_truthy_bool (hQ _ ((k₁.trans k₂).trans k₃))) hm
theorem Tr.and {p q : Bool} (tx : Tr prog w A env h x p) (ty : p = true → Tr prog w A env h y q) : Tr prog w A env h (.BoolOp .And [x, y] pos) (p && q) := fun s Q E k hQ =>
  wpAny_isTrue_BoolOp (wpAny_allTrue_And_cons (tx s _ E k fun s₁ k₁ => by
    cases p with
    | false => exact hQ _ k₁
    | true => exact wpAny_allTrue_And_cons (ty rfl s₁ _ E (fun b o q => k₁.kept b o (k b o q)) fun s₂ k₂ => by
        cases q with
        | false => exact hQ _ (k₁.trans k₂)
        | true => exact wpAny_allTrue_And_nil (hQ _ (k₁.trans k₂)))))
theorem Tr.or {p q : Bool} (tx : Tr prog w A env h x p) (ty : p = false → Tr prog w A env h y q) : Tr prog w A env h (.BoolOp .Or [x, y] pos) (p || q) := fun s Q E k hQ =>
  wpAny_isTrue_BoolOp (wpAny_allTrue_Or_cons (tx s _ E k fun s₁ k₁ => by
    cases p with
    | true => exact hQ _ k₁
    | false => exact wpAny_allTrue_Or_cons (ty rfl s₁ _ E (fun b o q => k₁.kept b o (k b o q)) fun s₂ k₂ => by
        cases q with
        | true => exact hQ _ (k₁.trans k₂)
        | false => exact wpAny_allTrue_Or_nil (hQ _ (k₁.trans k₂)))))
theorem Tr.chain {op op' : CmpOp} {p q : Bool} (ex : Ev prog w A env hid h x a) (ey : Ev prog w A env hid h y b) (ez : Ev prog w A env hid h z c) (o : Op2 prog w A hid h (compareOp op) a b (.bool p)) (o' : Op2 prog w A hid h (compareOp op') b c (.bool q))
    (hm : lastMarks [op, op'] [y, z] = false := by with_unfolding_all rfl) : Tr prog w A env h (.Compare x [op, op'] [y, z] pos) (p && q) := fun s Q E k hQ =>
  isTrue_chain (ex s _ E k fun u s₁ k₁ hu => test_link (ey s₁ _ E (fun b o q => k₁.kept b o (k b o q)) fun v s₂ k₂ hv =>
    o s₂ u v _ E (fun b o q => k₂.kept b o (k₁.kept b o (k b o q))) (hu.keep k₂.kept) hv fun zz s₃ k₃ hz => by
      cases hz
      refine wpAny_truthy_bool ?_
      have k13 := (k₁.trans k₂).trans k₃
      cases p with
      | false => exact hQ _ k13
      | true => exact test_last (ez s₃ _ E (fun b o q => k13.kept b o (k b o q)) fun v' s₄ k₄ hv' => o' s₄ v v' _ E (fun b o q => k₄.kept b o (k13.kept b o (k b o q))) ((hv.keep k₃.kept).keep k₄.kept) hv' fun zz' s₅ k₅ hz' => by
          cases hz'
          exact wpAny_truthy_bool (hQ _ ((k13.trans k₄).trans k₅))))) hm
theorem Ev.ifexp {p : Bool} (t : Tr prog w A env h x p) (ey : p = true → Ev prog w A env hid h y d) (ez : p = false → Ev prog w A env hid h z d) : Ev prog w A env hid h (.IfExp x y z pos) d := fun s Q E k hQ =>
  wpAny_IfExp (t s _ E k fun s₁ k₁ => by
    cases p with
    | true => exact ey rfl s₁ Q E (fun b o q => k₁.kept b o (k b o q)) fun v s₂ k₂ hv => hQ _ _ (k₁.trans k₂) hv
    | false => exact ez rfl s₁ Q E (fun b o q => k₁.kept b o (k b o q)) fun v s₂ k₂ hv => hQ _ _ (k₁.trans k₂) hv)

-- items
theorem Ev.item {i : Int} (ex : Ev prog w A env hid h x (.lst ds)) (ey : Ev prog w A env hid h y (.int i)) (h0 : 0 ≤ i) (h1 : i < 2 ^ 63) (e : ds[i.toNat]? = some d)
    (hs : ∀ o v, subscripted y false o v = operate [o, v] (getItem o v) := by intro _ _; rfl) : Ev prog w A env hid h (.Subscript x y pos) d := fun s Q E k hQ =>
  Subscript_ (ex s _ E k fun o s₁ k₁ ho => ey s₁ _ E (fun b o q => k₁.kept b o (k b o q)) fun v s₂ k₂ hv => by
    cases hv with
    | int _ t => cases ho with
      | lst n e' r =>
        obtain ⟨u, eu, hu⟩ := r.get e
        have e2 := k₂.kept _ _ e'
        exact PyProof.Rows.tail_any (lobj_isList e2).typeIs slot_list_getitem.lookup (wpAny_getItem_list (lobj_isList e2) h0 h1 (by simpa using eu) (hQ _ _ (k₁.trans k₂) (hu.keep k₂.kept))) (hs _ _))
theorem Ev.itemT {i : Int} (ex : Ev prog w A env hid h x (.tup ds)) (ey : Ev prog w A env hid h y (.int i)) (h0 : 0 ≤ i) (h1 : i < 2 ^ 63) (e : ds[i.toNat]? = some d)
    (hs : ∀ o v, subscripted y false o v = operate [o, v] (getItem o v) := by intro _ _; rfl) : Ev prog w A env hid h (.Subscript x y pos) d := fun s Q E k hQ =>
  Subscript_ (ex s _ E k fun o s₁ k₁ ho => ey s₁ _ E (fun b o q => k₁.kept b o (k b o q)) fun v s₂ k₂ hv => by
    cases hv with
    | int _ t => cases ho with
      | @tup a' vs' n' ds' n e' r =>
        obtain ⟨u, eu, hu⟩ := r.get e
        have e2 := k₂.kept _ _ e'
        have hl : i.toNat < vs'.length := (List.getElem?_eq_some_iff.mp eu).1
        have ht : IsTup s₂.heap a' vs'.toArray := ⟨_, e2, rfl, _, rfl⟩
        exact PyProof.Rows.tail_any (tobj_isTuple e2).typeIs slot_tuple_getitem.lookup (getItem_tuple ht (by omega) h1 (by rw [List.size_toArray]; exact seqIndex_of h0 (by omega)) (by simpa using eu) (hQ _ _ (k₁.trans k₂) (hu.keep k₂.kept))) (hs _ _))

theorem Ev.sliceFrom {i : Int} {p : Pos} (lv : Live hid h) (ex : Ev prog w A env hid h x (.lst ds)) (ey : Ev prog w A env hid h y (.int i)) (h0 : 0 ≤ i) (hz : ds.length ≤ sizeLine) (ht : ∀ o r, letTemporaryGo x o r = pure () := by intro _ _; rfl) :
    Ev prog w A env hid h (.Subscript x (.Slice (some y) none none p) pos) (.lst (ds.drop i.toNat)) := fun s Q E k hQ =>
  wpAny_Subscript_list_slice (ex s _ E k fun o s₁ k₁ ho => wpAny_evalPart_some (ey s₁ _ E (fun b o q => k₁.kept b o (k b o q)) fun v s₂ k₂ hv => wpAny_evalPart_none (by
    cases hv with
    | int _ t => cases ho with
      | @lst a' vs' n' ds' n e' r =>
        have e2 := k₂.kept _ _ e'
        refine ⟨a', vs'.toArray, some i, none, rfl, lobj_isList e2, by rw [List.size_toArray, r.length]; exact hz, .int _ _, .none, ?_⟩
        have k12 := k₁.trans k₂
        have ks : Ks s { s₂ with heap := (s₂.heap.push { cls := .type "slice", data := .fields #[.int i t, .none, .none] }).push { cls := .type "list", data := .seq (slicePick vs'.toArray (some i) none none) } } := k12.trans ⟨rfl, fun b o q => Heap.get?_push_of_some _ (Heap.get?_push_of_some _ q)⟩
        refine hQ _ _ ks ?_
        have ei : ((i.toNat : Nat) : Int) = i := by omega
        have es : slicePick vs'.toArray (some i) none none = (vs'.drop i.toNat).toArray := by
          have := slicePick_from' vs'.toArray i.toNat
          rw [ei] at this
          simpa using this
        rw [es]
        have hsz : (s₂.heap.push { cls := .type "slice", data := .fields #[.int i t, .none, .none] }).objs.size = s₂.heap.objs.size + 1 := Heap.size_push ..
        refine .lst (vs := vs'.drop i.toNat) (n := 0) ?_ ?_ (((r.drop _).keep k₂.kept).keep fun b o q => Heap.get?_push_of_some _ (Heap.get?_push_of_some _ q))
        · intro m
          obtain ⟨o, q⟩ := ((lv.keep k).keep k12.kept) _ m
          exact absurd (Heap.lt_size q) (Nat.not_lt.mpr (Nat.le_succ _))
        · have := Heap.get?_push_size (s₂.heap.push { cls := .type "slice", data := .fields #[.int i t, .none, .none] }) (o := lobj (vs'.drop i.toNat) 0) rfl
          rw [hsz] at this
          exact this))) ht

theorem Ev.sliceTo {i : Int} {p : Pos} {m : Nat} (lv : Live hid h) (ex : Ev prog w A env hid h x (.lst ds)) (ey : Ev prog w A env hid h y (.int i)) (hm : ∀ its : Array Value, its.size = ds.length → slicePick its none (some i) none = (its.toList.take m).toArray) (hz : ds.length ≤ sizeLine) (ht : ∀ o r, letTemporaryGo x o r = pure () := by intro _ _; rfl) :
    Ev prog w A env hid h (.Subscript x (.Slice none (some y) none p) pos) (.lst (ds.take m)) := fun s Q E k hQ =>
  wpAny_Subscript_list_slice (ex s _ E k fun o s₁ k₁ ho => wpAny_evalPart_none (wpAny_evalPart_some (ey s₁ _ E (fun b o q => k₁.kept b o (k b o q)) fun v s₂ k₂ hv => (by
    cases hv with
    | int _ t => cases ho with
      | @lst a' vs' n' ds' n e' r =>
        have e2 := k₂.kept _ _ e'
        refine ⟨a', vs'.toArray, none, some i, rfl, lobj_isList e2, by rw [List.size_toArray, r.length]; exact hz, .none, .int _ _, ?_⟩
        have k12 := k₁.trans k₂
        have ks : Ks s { s₂ with heap := (s₂.heap.push { cls := .type "slice", data := .fields #[.none, .int i t, .none] }).push { cls := .type "list", data := .seq (slicePick vs'.toArray none (some i) none) } } := k12.trans ⟨rfl, fun b o q => Heap.get?_push_of_some _ (Heap.get?_push_of_some _ q)⟩
        refine hQ _ _ ks ?_
        have es : slicePick vs'.toArray none (some i) none = (vs'.take m).toArray := by
          have := hm vs'.toArray (by rw [List.size_toArray, r.length])
          simpa using this
        rw [es]
        have hsz : (s₂.heap.push { cls := .type "slice", data := .fields #[.none, .int i t, .none] }).objs.size = s₂.heap.objs.size + 1 := Heap.size_push ..
        refine .lst (vs := vs'.take m) (n := 0) ?_ ?_ (((r.take _).keep k₂.kept).keep fun b o q => Heap.get?_push_of_some _ (Heap.get?_push_of_some _ q))
        · intro m
          obtain ⟨o, q⟩ := ((lv.keep k).keep k12.kept) _ m
          exact absurd (Heap.lt_size q) (Nat.not_lt.mpr (Nat.le_succ _))
        · have := Heap.get?_push_size (s₂.heap.push { cls := .type "slice", data := .fields #[.none, .int i t, .none] }) (o := lobj (vs'.take m) 0) rfl
          rw [hsz] at this
          exact this)))) ht

-- lists
theorem Op2.concat (lv : Live hid h) (hz : ds.length + es.length ≤ sizeLine) : Op2 prog w A hid h (binaryOp .Add) (.lst ds) (.lst es) (.lst (ds ++ es)) := fun s u v Q E k hu hv hQ => by
  cases hu with
  | @lst a vs n _ hn e r => cases hv with
    | @lst a' ws n' _ hn' e' r' =>
      have e2 : vs.toArray ++ ws.toArray = (vs ++ ws).toArray := by simp
      refine concat_meets ⟨_, e, rfl⟩ ⟨_, e', rfl⟩ noFill_list_add seq_list_add PySem.F.slot_list_add PySem.F.entry_list_add (PySem.F.args_list_add_2 _ _) (list_addW a a' vs.toArray ws.toArray n n' none none #[] #[] (by simpa [r.length, r'.length] using hz)) ⟨e, e', ?_⟩
      rw [e2]
      exact hQ _ _ (Ks.push _) (has_newList (lv.keep k) (r.append r'))
theorem Op2.eq (ha : flat a = true) (hb : flat b = true) (hu : A.units + min (toPy a).depth (toPy b).depth < cLine) : Op2 prog w A hid h (compareOp .Eq) a b (.bool (PyData.eqv (toPy a) (toPy b))) := fun s u v Q E k ra rb hQ => by
  obtain ⟨as, ra'⟩ := ra.reads ha
  obtain ⟨bs, rb'⟩ := rb.reads hb
  exact SeqAt.compareEq_reads ra' rb' (canLay_toPy a) (canLay_toPy b) hu (hQ _ _ (Ks.refl _) (.bool _))
theorem Op2.ne (ha : flat a = true) (hb : flat b = true) (hu : A.units + min (toPy a).depth (toPy b).depth < cLine) : Op2 prog w A hid h (compareOp .NotEq) a b (.bool (!PyData.eqv (toPy a) (toPy b))) := fun s u v Q E k ra rb hQ => by
  obtain ⟨as, ra'⟩ := ra.reads ha
  obtain ⟨bs, rb'⟩ := rb.reads hb
  exact SeqAt.compareNe_reads ra' rb' (canLay_toPy a) (canLay_toPy b) hu (hQ _ _ (Ks.refl _) (.bool _))

/-- a place: two ints -/
def dp (p : Int × Int) : D := .tup [.int p.1, .int p.2]
theorem Op2.inPlaces {q : Int × Int} {ps : List (Int × Int)} (hu : A.units + 2 < cLine) : Op2 prog w A hid h (compareOp .In) (dp q) (.lst (ps.map dp)) (.bool (ps.any fun p => decide (p = q))) := fun s u v Q E k hq hl hQ => by
  cases hl with
  | @lst a vs n _ hn e r =>
    have key : ∀ {v : Value} {p : Int × Int}, Has hid s.heap v (dp p) → ∃ b, v = .ref b ∧ IsTupleKey (intKind prog w) s.heap [p.1, p.2] b := fun {v p} hv => by
      cases hv with
      | tup hn e r => cases r with
        | cons h1 r => cases r with
          | cons h2 r => cases r with
            | nil => cases h1 with
              | int _ t1 => cases h2 with
                | int _ t2 => exact ⟨_, rfl, _, _, _, e, rfl, rfl, .cons (intKind_is ..) (.cons (intKind_is ..) .nil)⟩
    obtain ⟨b, rfl, hb⟩ := key hq
    let e' : Value → Bool := fun y => @decide (∃ c, y = .ref c ∧ IsTupleKey (intKind prog w) s.heap [q.1, q.2] c) (Classical.propDecidable _)
    have he : ∀ (vs : List Value) (ps : List (Int × Int)), HasAll hid s.heap vs (ps.map dp) → (∀ y ∈ vs, SeqAt.EqAt A.in1 s y (.ref b) (e' y)) ∧ vs.any e' = ps.any fun p => decide (p = q) := by
      intro vs
      induction vs with
      | nil => intro ps hp; cases ps with
        | nil => exact ⟨fun _ h => (nomatch h), rfl⟩
        | cons _ _ => cases hp
      | cons v vs ih => intro ps hp; cases ps with
        | nil => cases hp
        | cons p ps => cases hp with
          | cons h1 hr =>
            obtain ⟨i1, i2⟩ := ih ps hr
            obtain ⟨c, rfl, hc⟩ := key h1
            have ev : e' (.ref c) = decide (p = q) := by
              by_cases hpq : p = q
              · subst hpq
                rw [decide_eq_true rfl]
                exact @decide_eq_true _ (Classical.propDecidable _) ⟨c, rfl, hc⟩
              · rw [decide_eq_false hpq]
                refine @decide_eq_false _ (Classical.propDecidable _) ?_
                rintro ⟨c', hcc, hk⟩
                cases hcc
                have h12 := IsTupleKey.inj hc hk
                simp only [List.cons.injEq, and_true] at h12
                exact hpq (Prod.ext h12.1 h12.2)
            refine ⟨fun y hy => ?_, by rw [List.any_cons, List.any_cons, i2, ev]⟩
            rcases List.mem_cons.mp hy with rfl | hy
            · intro prog' w' E' Q' hQ'
              have hc' : IsTupleKey (intKind prog' w') s.heap [p.1, p.2] c := by
                obtain ⟨o, items, n, ho, h1, h2, h3⟩ := hc
                refine ⟨o, items, n, ho, h1, h2, ?_⟩
                generalize items.toList = l at h3
                cases h3 with
                | cons a r => cases r with
                  | cons b r => cases r with
                    | nil => exact .cons a (.cons b .nil)
              have hb' : IsTupleKey (intKind prog' w') s.heap [q.1, q.2] b := by
                obtain ⟨o, items, n, ho, h1, h2, h3⟩ := hb
                refine ⟨o, items, n, ho, h1, h2, ?_⟩
                generalize items.toList = l at h3
                cases h3 with
                | cons a r => cases r with
                  | cons b r => cases r with
                    | nil => exact .cons a (.cons b .nil)
              refine wpAny_eqBool_tuple (by show A.units + 1 < _; omega) hc' hb' ?_
              have : decide ([p.1, p.2] = [q.1, q.2]) = decide (p = q) := by
                obtain ⟨p1, p2⟩ := p
                obtain ⟨q1, q2⟩ := q
                simp
              rw [this, ← ev]
              exact hQ'
            · exact i1 y hy
    obtain ⟨h1, h2⟩ := he vs ps r
    refine SeqAt.in_listAt e' (lobj_isList e) (fun y hy => h1 y (by simpa using hy)) ?_
    have : vs.toArray.any e' = ps.any fun p => decide (p = q) := by rw [← h2]; simp
    rw [this]
    exact hQ _ _ (Ks.refl _) (.bool _)

-- calls of built-ins
theorem ct_abs {i : Int} : Ct prog w A hid h (.builtin "abs") [.int i] (.int (if i < 0 then -i else i)) := fun s vs Q E k hv hQ => by
  cases hv with
  | cons x r => cases r; cases x with
    | int _ t => exact call_abs_int fun u tk => hQ _ _ (Ks.toks tk) (.int _ _)
theorem ct_int {i : Int} : Ct prog w A hid h (.type "int") [.int i] (.int i) := fun s vs Q E k hv hQ => by
  cases hv with
  | cons x r => cases r; cases x with
    | int _ t => exact call_int_int (hQ _ _ (Ks.refl _) (.int _ _))
theorem ct_list (lv : Live hid h) (hz : ds.length ≤ sizeLine) : Ct prog w A hid h (.type "list") [.lst ds] (.lst ds) := fun s vs Q E k hv hQ => by
  cases hv with
  | cons x r => cases r; cases x with
    | @lst a us n _ hn e r =>
      refine call_list_seq a (T := "list") (.inl rfl) e rfl rfl (fun h' c' hk hg => ?_) (by rw [List.size_toArray, r.length]; exact hz)
      exact hQ _ _ (Ks.heap hk) (.lst (lv.keep k).size hg (r.keep hk))
theorem sum_pre (l : List Int) : ∀ n, n ≤ l.length → preSum (fun i => l.getD i 0) n = (l.take n).sum
  | 0, _ => by simp [preSum]
  | n + 1, h => by
    have ih := sum_pre l n (by omega)
    simp only [preSum, ih]
    rw [List.take_add_one, List.sum_append]
    have : l[n]? = some (l.getD n 0) := by rw [List.getD_eq_getElem?_getD, List.getElem?_eq_getElem (by omega)]; rfl
    rw [this]; simp
theorem ct_sum {l : List Int} (hh : A.handled = none) : Ct prog w A hid h (.builtin "sum") [.lst (l.map .int)] (.int l.sum) := fun s vs Q E k hv hQ => by
  cases hv with
  | cons x r => cases r; cases x with
    | @lst a us n _ hn e r =>
      refine call_sum_walkG (wpAny_pyIter_list (lobj_isList e) ?_)
      have haI : a ≠ s.heap.objs.size := Nat.ne_of_lt (Heap.lt_size e)
      have hlen : us.length = l.length := by rw [r.length, List.length_map]
      refine ⟨s.heap.objs.size, [s.heap.objs.size, a], [s.heap.objs.size], us.toArray.size, _, _, (fun i => l.getD i 0), rfl, Walks.list (A := A.in1) hh _ a haI us.toArray, ⟨⟨_, Heap.get?_push_size _ rfl, rfl, rfl⟩, (lobj_isList e).push _⟩, ?_, ?_, ?_⟩
      · intro b hb
        show b < (s.heap.push _).objs.size
        rw [Heap.size_push]
        rcases List.mem_cons.mp hb with rfl | hb
        · exact Nat.lt_succ_self _
        · rcases List.mem_cons.mp hb with rfl | hb
          · exact Nat.lt_succ_of_lt (Heap.lt_size e)
          · cases hb
      · intro i v hi
        obtain ⟨d, hd, hv⟩ := r.getV (k := i) (v := v) (by simpa using hi)
        rw [List.getElem?_map] at hd
        cases hl : l[i]? with
        | none => rw [hl] at hd; cases hd
        | some j =>
          rw [hl] at hd
          cases hd
          cases hv with
          | int _ t => exact ⟨t, by show Value.int j t = Value.int (l.getD i 0) t; rw [List.getD_eq_getElem?_getD, hl]; rfl⟩
      · intro h' tk t' hk
        have : preSum (fun i => l.getD i 0) us.toArray.size = l.sum := by
          rw [List.size_toArray, hlen, sum_pre l _ (Nat.le_refl _), List.take_length]
        rw [this]
        refine hQ _ _ ⟨rfl, fun b o q => hk b o (fun m => ?_) (Heap.get?_push_of_some _ q)⟩ (.int _ _)
        rw [List.mem_singleton.mp m] at q
        exact absurd (Heap.lt_size q) (Nat.lt_irrefl _)
end
end Mine
end

-- Fw11
section
namespace Mine
open PySem PySem.Calls PySem.Spec PyProof.Rows

section
variable {prog : Program} {w : World} {A : Around} {env : Env} {hid hid' : List Addr} {hb : Addr → Option Obj} {σ s s' : Shared} {oc : List (Str × Addr)} {ow : List (Addr × Ob)} {ρ ρ' : Str → Option D} {E : Value → Shared → Prop} {h h' : Heap}
  {e l r x y z : Expr} {d a b c : D} {ds es : List D} {pos : Pos}

theorem Sees.global {p : Program} {loose : List Str} {mean : ExcName → Option Value} {mg mb : Str → Option Value} {x : Str} {v : Value} (T : Top p loose mean mg mb h) (hv : mg x = some v) (hg : env.globals = mainGlobals) (hk : env.scope.kind = .function)
    (hx : env.kindOf x = some .globalImplicit) (hd : (x == ("__debug__" : Str)) = false := by decide) : Sees prog w A env h x v := fun s pos Q E k hQ =>
  Name_function_global hk hx (loadGlobal_global (by rw [hg]; exact T.g.keeps k) hv hQ) hd
theorem Sees.builtin {p : Program} {loose : List Str} {mean : ExcName → Option Value} {mg mb : Str → Option Value} {x : Str} {v : Value} (T : Top p loose mean mg mb h) (hn : mg x = none) (hv : mb x = some v) (hg : env.globals = mainGlobals) (hb : env.builtins = builtinsNs) (hk : env.scope.kind = .function)
    (hx : env.kindOf x = some .globalImplicit) (hd : (x == ("__debug__" : Str)) = false := by decide) : Sees prog w A env h x v := fun s pos Q E k hQ =>
  Name_function_global hk hx (loadGlobal_builtin (by rw [hg]; exact T.g.keeps k) hn (by rw [hb]; exact T.b.keeps k) hv hQ) hd

/-- a new list of one's own -/
theorem st_ownList {x : Str} {px lp : Pos} {es : List Expr} {ds : List D} {b : Addr} {Q : Flow → Shared → Prop} (S : Stt hid hb σ s env oc ow ρ) (xs : EvL prog w A env hid s.heap es ds) (p : Place env oc x b) (hz : Nat.ble ds.length 1000 = true)
    (k : ∀ a s', a ∉ hid → Stt (a :: hid) hb σ s' env oc ((a, .lst ds) :: ow) (upd ρ x (.raw (.ref a))) → Q .next s') (hs : swapsWith (.List es lp) (some (.Name x px)) pos.line env = pure false := by rfl) :
    wpAny (model prog w) A (exec (.Assign [.Name x px] (.List es lp) pos) env) Q E s := by
  refine wpAny_Assign_Name (wpAny_List_spliced (xs lp s _ E (fun _ _ q => q) fun vs s₁ k₁ hvs => ⟨by rw [hvs.length]; exact Nat.le_trans (Nat.le_of_ble_eq_true hz) (by decide), ?_⟩)) hs
  have S₁ := S.keep k₁
  have ha : s₁.heap.objs.size ∉ hid := S₁.live.size
  have S₂ := S₁.hide (I := s₁.heap.objs.size) (o := lobj vs 0) (h' := s₁.heap.push (lobj vs 0)) (get_size _) (Heap.get?_push_size _ rfl) (fun _ _ q => Heap.get?_push_of_some _ q)
  have hba : hb s₁.heap.objs.size = none := by
    cases q : hb s₁.heap.objs.size with
    | none => rfl
    | some o => exact absurd (Heap.lt_size (S₁.kept _ o q)) (Nat.lt_irrefl _)
  have S₃ : Stt (s₁.heap.objs.size :: hid) hb σ { s₁ with heap := s₁.heap.push (lobj vs 0) } env oc ((s₁.heap.objs.size, .lst ds) :: ow) ρ := by
    refine ⟨S₂.same, S₂.kept, S₂.off, S₂.live, S₂.fm, fun q hq => ?_, fun q hq => ?_⟩
    rcases List.mem_cons.mp hq with rfl | hq
    · refine ⟨.head _, hba, vs, 0, Heap.get?_push_size _ rfl, hvs.mono (fun b o _ e => Heap.get?_push_of_some _ e) (fun b o nb e m => ?_)⟩
      rcases List.mem_cons.mp m with rfl | m
      · exact absurd (Heap.lt_size e) (Nat.lt_irrefl _)
      · exact nb m
    · exact S₂.own q hq
    · rcases List.mem_cons.mp hq with rfl | hq
      · intro z
        exact ha (by rw [show s₁.heap.objs.size = env.locals from z]; exact S₁.fm.lhid)
      · exact S₂.ownl q hq
  exact S₃.store p (.raw _) fun s' S' _ => k _ s' ha S'

theorem Stt.own_ne {a : Addr} {ds : List D} (S : Stt (a :: hid) hb σ s env oc ((a, .lst ds) :: ow) ρ) (hn : a ∉ hid) (hw : ∀ p ∈ ow, p.1 ∈ hid) : ∀ p ∈ ow, p.1 ≠ a := fun p hp q => hn (q ▸ hw p hp)

/-- the owned list is handed on -/
theorem Stt.free {a : Addr} {ds : List D} (S : Stt (a :: hid) hb σ s env oc ((a, .lst ds) :: ow) ρ) (hn : a ∉ hid) : Has hid s.heap (.ref a) (.lst ds) := by
  obtain ⟨_, _, vs, n, e, r⟩ := S.own _ (.head _)
  exact .lst hn e (r.weak fun _ m => .tail _ m)

/-- an item of an owned list -/
theorem Ev.itemOwn {i : Int} {A₀ : Addr} {vs : List Value} {n : Nat} (ex : Ev prog w A env hid h x (.raw (.ref A₀))) (eo : h.get? A₀ = some (lobj vs n)) (hv : HasAll hid h vs ds) (ey : Ev prog w A env hid h y (.int i)) (h0 : 0 ≤ i) (h1 : i < 2 ^ 63) (e : ds[i.toNat]? = some d)
    (hs : ∀ o v, subscripted y false o v = operate [o, v] (getItem o v) := by intro _ _; rfl) : Ev prog w A env hid h (.Subscript x y pos) d := fun s Q E k hQ =>
  Subscript_ (ex s _ E k fun o s₁ k₁ ho => ey s₁ _ E (fun b o q => k₁.kept b o (k b o q)) fun v s₂ k₂ hv' => by
    cases hv' with
    | int _ t => cases ho with
      | raw _ =>
        obtain ⟨u, eu, hu⟩ := hv.get e
        have k12 := k₁.trans k₂
        have e2 := k12.kept _ _ (k _ _ eo)
        exact PyProof.Rows.tail_any (lobj_isList e2).typeIs slot_list_getitem.lookup (wpAny_getItem_list (lobj_isList e2) h0 h1 (by simpa using eu) (hQ _ _ k12 ((hu.keep k).keep k12.kept))) (hs _ _))

theorem st_append {x : Str} {xp ap : Pos} {A₀ : Addr} {Q : Flow → Shared → Prop} (S : Stt hid hb σ s env oc ((A₀, .lst es) :: ow) ρ) (hne : ∀ p ∈ ow, p.1 ≠ A₀) (ex : Ev prog w A env hid s.heap (.Name x xp) (.raw (.ref A₀))) (ey : Ev prog w A env hid s.heap y d) (hz : es.length ≤ sizeLine)
    (k : ∀ s', Stt hid hb σ s' env oc ((A₀, .lst (es ++ [d])) :: ow) ρ → Q .next s')
    (hfew : ((backTo pos (starEach [y] env)).all (fun x => !x.1) && (backToKw pos (keywordEach [] env)).all (fun x => x.1.isSome)
      && decide (([y] : List Expr).length + ([] : List Keyword).length + (if ([] : List Keyword).isEmpty then 0 else 1) < 30)) = true := by rfl)
    (hline : (ap.endLine == pos.line) = true := by rfl)
    (htrees : backTo pos (starEach [y] env) = [(false, eval y env)] := by rfl) {epos : Pos}
    (hi : interactive env = false := by rfl) (hs : swapsWith (.Call (.Attribute (.Name x xp) "append" ap) [y] [] pos) none epos.line env = pure false := by rfl) :
    wpAny (model prog w) A (exec (.Expr (.Call (.Attribute (.Name x xp) "append" ap) [y] [] pos) epos) env) Q E s := by
  refine wpAny_Expr (wpAny_Call_append rfl hfew hline htrees ?_) hi hs
  refine ex s _ E (fun _ _ q => q) fun v s₁ k₁ hv => ?_
  cases hv with
  | raw _ =>
    have S₁ := S.keep k₁
    obtain ⟨_, _, vs, n, e, _⟩ := S₁.own _ (.head _)
    refine ⟨A₀, vs.toArray, rfl, ⟨_, n, e, rfl, rfl, rfl⟩, ?_⟩
    refine ey s₁ _ E k₁.kept fun v s₂ k₂ hv => ?_
    exact (S₁.keep k₂).append hne hv hz fun s' S' _ => k s' S'

-- stores of tuples
theorem unpackN {t : Addr} {items : List Value} {n : Nat} {Q : List Value → Shared → Prop} {m : Nat} (hh : A.handled = none) (ht : s.heap.get? t = some (tobj items m)) (hn : n = items.length)
    (hQ : ∀ h', Kept s.heap h' → Q items { s with heap := h' }) : wpAny (model prog w) A (unpackItems (.ref t) n none) Q E s := by
  subst hn
  have := wpAny_unpackItems_tuple (prog := prog) (w := w) (A := A) (E := E) (s := s) (t := t) (items := items.toArray) (Q := Q) hh (tobj_isTuple ht) (fun h' kh => hQ h' fun b o e => kh b o (Nat.ne_of_lt (Heap.lt_size e)) e)
  simpa using this
theorem st_tuple2 {x y : Str} {px py tp : Pos} {kk} {b₁ b₂ : Addr} {Q : Flow → Shared → Prop} (hh : A.handled = none) (S : Stt hid hb σ s env oc ow ρ) (he : Ev prog w A env hid s.heap e (.tup [a, c])) (p : Place env oc x b₁) (p' : Place env oc y b₂)
    (k : ∀ s', Stt hid hb σ s' env oc ow (upd (upd ρ x a) y c) → Q .next s')
    (hs : swapsWithSole [.Tuple [.Name x px, .Name y py] kk tp] e pos.line env = pure false := by rfl) (hw : swappedStores [.Tuple [.Name x px, .Name y py] kk tp] e env = pure none := by rfl) :
    wpAny (model prog w) A (exec (.Assign [.Tuple [.Name x px, .Name y py] kk tp] e pos) env) Q E s :=
  Assign_Tuple (he s _ E (fun _ _ q => q) fun v s₁ k₁ hv => Aim.pair hh p p' hid hb σ s₁ ow ρ v _ E (S.keep k₁) hv fun s' S' _ => k s' S') hs hw
/-- the stores go backwards -/
theorem st_tuple2s {x y : Str} {px py tp : Pos} {kk} {b₁ b₂ : Addr} {Q : Flow → Shared → Prop} (hh : A.handled = none) (S : Stt hid hb σ s env oc ow ρ) (he : Ev prog w A env hid s.heap e (.tup [a, c])) (p : Place env oc x b₁) (p' : Place env oc y b₂)
    (k : ∀ s', Stt hid hb σ s' env oc ow (upd (upd ρ y c) x a) → Q .next s')
    (hs : swapsWithSole [.Tuple [.Name x px, .Name y py] kk tp] e pos.line env = pure false := by rfl) (hw : swappedStores [.Tuple [.Name x px, .Name y py] kk tp] e env = pure (some [x, y]) := by rfl) :
    wpAny (model prog w) A (exec (.Assign [.Tuple [.Name x px, .Name y py] kk tp] e pos) env) Q E s :=
  Assign_Tuple_swapped (he s _ E (fun _ _ q => q) fun v s₁ k₁ hv => by
    cases hv with
    | tup hn e hs => cases hs with
      | cons h1 hs => cases hs with
        | cons h2 hs => cases hs with
          | nil =>
            refine unpackN hh e rfl fun h' kh => ?_
            have ks : Ks s₁ { s₁ with heap := h' } := Ks.heap kh
            show wpAny _ A (assignInOrder [fun v => bindName env y v, fun v => bindName env x v] [_, _]) _ _ _
            refine wpAny_assignInOrder_more (wpAny_bindName (((S.keep k₁).keep ks).store p' (h2.keep ks.kept) fun s₂ S₂ k₂ => ?_))
            refine wpAny_assignInOrder_more (wpAny_bindName (S₂.store p ((h1.keep ks.kept).keepBut k₂) fun s₃ S₃ k₃ => ?_))
            exact wpAny_assignInOrder_none (k _ S₃)) hs hw
end
end Mine
end

-- Fw12
section
namespace Mine
open PySem PySem.Calls PySem.Spec PyProof.Rows

def pick (cl : List (Str × Addr)) (ρ : Str → Option D) : Str → Option D := fun x => if (cl.map (·.1)).contains x = true then ρ x else none

/-- what a block takes from outside -/
structure ClOk (env : Env) (ρ : Str → Option D) (scope : Scope) (cl : List (Str × Addr)) : Prop where
  ok : ∀ p ∈ cl, (p.1, NameKind.free) ∈ scope.names ∧ env.cells.lookup p.1 = some p.2 ∧ (env.kindOf p.1 = some .cell ∨ env.kindOf p.1 = some .free) ∧ ∃ d, ρ p.1 = some d
  nodup : (cl.map (·.1)).Nodup
theorem ClOk.nil {env : Env} {ρ : Str → Option D} {scope : Scope} : ClOk env ρ scope [] := ⟨fun _ q => (nomatch q), List.nodup_nil⟩
theorem ClOk.cons {env : Env} {ρ : Str → Option D} {scope : Scope} {cl : List (Str × Addr)} {x : Str} {c : Addr} {d : D} (hf : (x, NameKind.free) ∈ scope.names) (hc : env.cells.lookup x = some c) (hk : env.kindOf x = some .cell ∨ env.kindOf x = some .free) (hd : ρ x = some d) (K : ClOk env ρ scope cl) (hn' : (cl.map (·.1)).contains x = false := by rfl) : ClOk env ρ scope ((x, c) :: cl) :=
  have hn : x ∉ cl.map (·.1) := by simpa using hn'
  ⟨fun p hp => by
    rcases List.mem_cons.mp hp with rfl | hp
    · exact ⟨hf, hc, hk, d, hd⟩
    · exact K.ok p hp, List.nodup_cons.mpr ⟨hn, K.nodup⟩⟩

section
variable {prog : Program} {w : World} {A : Around} {env : Env} {hid hid' : List Addr} {h h' : Heap} {oc : List (Str × Addr)} {ρ : Str → Option D}
  {elt target iter : Expr} {ifs : List Expr} {scope : Scope} {cl : List (Str × Addr)} {pos : Pos} {n : Nat} {ds : Nat → D} {p : Nat → Bool} {f : Nat → D} {bind : Nat → (Str → Option D) → (Str → Option D)}
theorem pick_some {x : Str} {d : D} (e : pick cl ρ x = some d) : x ∈ cl.map (·.1) ∧ ρ x = some d := by
  unfold pick at e
  split at e
  · rename_i hc; exact ⟨by simpa using hc, e⟩
  · cases e
theorem ClOk.cp (K : ClOk env ρ scope cl) (F : Fm hid h env oc ρ) (few : n ≤ sizeLine) (kind : scope.kind = .function) (nodup : (scope.names.map (·.1)).Nodup) (back : ∀ i x, x ∈ cl.map (·.1) → ∀ ρ, bind i ρ x = ρ x)
    (aim : ∀ C i, i < n → Aim prog w A (cenvN scope env cl C) (cocN scope C) target (ds i) (bind i))
    (test : ∀ i, i < n → ∀ C hid' h', (∀ a ∈ hid, a ∈ hid') → Live hid' h' → Kept h h' → Fm hid' h' (cenvN scope env cl C) (cocN scope C) (bind i (pick cl ρ)) → Ts prog w A (cenvN scope env cl C) h' ifs (p i))
    (elt' : ∀ i, i < n → p i = true → ∀ C hid' h', (∀ a ∈ hid, a ∈ hid') → Live hid' h' → Kept h h' → Fm hid' h' (cenvN scope env cl C) (cocN scope C) (bind i (pick cl ρ)) → Ev prog w A (cenvN scope env cl C) hid' h' elt (f i)) :
    Cp prog w A env hid h elt target ifs scope cl n ds p f (pick cl ρ) bind where
  few := few
  kind := kind
  nodup := nodup
  free := fun x d e => by
    obtain ⟨hm, e'⟩ := pick_some e
    obtain ⟨q, hq, rfl⟩ := List.mem_map.mp hm
    obtain ⟨a1, a2, a3, _⟩ := K.ok q hq
    obtain ⟨c, v, h1, h2, h3⟩ := F.cel q.1 d a3 e'
    rw [a2] at h1; cases h1
    exact ⟨a1, q.2, v, lookup_nodup K.nodup hq, h2, h3⟩
  old := fun x c e => by
    obtain ⟨_, a2, a3, d, a4⟩ := K.ok (x, c) (mem_of_lookup e)
    obtain ⟨c', v, h1, ⟨o, h2, _⟩, h3⟩ := F.cel x d a3 a4
    rw [a2] at h1; cases h1
    exact ⟨o, h2⟩
  back := fun i x d e => by rw [back i x (pick_some e).1]; exact e
  aim := aim
  test := test
  elt := elt'
/-- with a name for its target -/
theorem ClOk.cpN (K : ClOk env ρ scope cl) (F : Fm hid h env oc ρ) {v : Str} {vp : Pos} (few : n ≤ sizeLine) (kind : scope.kind = .function) (nodup : (scope.names.map (·.1)).Nodup) (hv' : (cl.map (·.1)).contains v = false)
    (pl : ∀ C, ∃ b, Place (cenvN scope env cl C) (cocN scope C) v b)
    (test : ∀ i, i < n → ∀ C hid' h', (∀ a ∈ hid, a ∈ hid') → Live hid' h' → Kept h h' → Fm hid' h' (cenvN scope env cl C) (cocN scope C) (upd (pick cl ρ) v (ds i)) → Ts prog w A (cenvN scope env cl C) h' ifs (p i))
    (elt' : ∀ i, i < n → p i = true → ∀ C hid' h', (∀ a ∈ hid, a ∈ hid') → Live hid' h' → Kept h h' → Fm hid' h' (cenvN scope env cl C) (cocN scope C) (upd (pick cl ρ) v (ds i)) → Ev prog w A (cenvN scope env cl C) hid' h' elt (f i)) :
    Cp prog w A env hid h elt (.Name v vp) ifs scope cl n ds p f (pick cl ρ) (fun i ρ => upd ρ v (ds i)) :=
  have hv : v ∉ cl.map (·.1) := by simpa using hv'
  K.cp F few kind nodup (fun i x hx ρ => if_neg fun q : x = v => hv (q ▸ hx)) (fun C i _ => let ⟨b, hb⟩ := pl C; Aim.name hb) test elt'
end

-- lists of lists of ints
def rD (r : List Int) : D := .lst (r.map .int)
def gD (g : List (List Int)) : D := .lst (g.map rD)
theorem getD_map {α β : Type} (f : α → β) (l : List α) (i : Nat) (x : β) (y : α) (h : i < l.length) : (l.map f).getD i x = f (l.getD i y) := by
  rw [List.getD_eq_getElem?_getD, List.getElem?_map, List.getD_eq_getElem?_getD, List.getElem?_eq_getElem h]; rfl
theorem map_range_getD {α β : Type} (f : α → β) (l : List α) (y : α) : (List.range l.length).map (fun i => f (l.getD i y)) = l.map f := by
  apply List.ext_getElem
  · simp
  · intro i h1 h2
    simp at h1
    simp [List.getD_eq_getElem?_getD, h1]
theorem Src.congr {prog : Program} {w : World} {A : Around} {hid : List Addr} {s₁ : Shared} {I : Addr} {target : Expr} {n : Nat} {ds ds' : Nat → D} {St : Nat → Heap → Prop} (R : Src prog w A hid s₁ I target n ds St) (e : ∀ i, i < n → ds i = ds' i) : Src prog w A hid s₁ I target n ds' St :=
  ⟨fun i s Q E hi st hK k => R.item i s Q E hi st hK (e i hi ▸ k), R.done, R.obj, R.frame, R.self, R.lets⟩
theorem EvIt.congr {prog : Program} {w : World} {A : Around} {env : Env} {hid : List Addr} {h : Heap} {iter target : Expr} {n m : Nat} {ds ds' : Nat → D} (x : EvIt prog w A env hid h iter target m ds) (hm : m = n) (e : ∀ i, i < n → ds i = ds' i) : EvIt prog w A env hid h iter target n ds' := by
  subst hm
  exact fun s Q E k hQ => x s Q E k fun s' I o St a b c R d => hQ s' I o St a b c (R.congr e) d
theorem EvIt.rows {prog : Program} {w : World} {A : Around} {env : Env} {hid : List Addr} {h : Heap} {iter target : Expr} {g : List (List Int)} (hh : A.handled = none) (ht : Easy target) (lv : Live hid h) (he : Ev prog w A env hid h iter (gD g)) : EvIt prog w A env hid h iter target g.length (fun i => rD (g.getD i [])) :=
  (EvIt.list hh ht lv he).congr (by simp) fun i hi => getD_map rD g i .none [] hi
theorem EvIt.ints {prog : Program} {w : World} {A : Around} {env : Env} {hid : List Addr} {h : Heap} {iter target : Expr} {r : List Int} (hh : A.handled = none) (ht : Easy target) (lv : Live hid h) (he : Ev prog w A env hid h iter (rD r)) : EvIt prog w A env hid h iter target r.length (fun i => .int (r.getD i 0)) :=
  (EvIt.list hh ht lv he).congr (by simp) fun i hi => getD_map D.int r i .none 0 hi
theorem filter_true {α : Type} (l : List α) : l.filter (fun _ => true) = l := by simp
theorem rD_get {r : List Int} {i : Nat} (h : i < r.length) : (r.map D.int)[i]? = some (.int (r.getD i 0)) := by
  rw [List.getElem?_map, List.getD_eq_getElem?_getD, List.getElem?_eq_getElem h]; rfl
theorem gD_get {g : List (List Int)} {i : Nat} (h : i < g.length) : (g.map rD)[i]? = some (rD (g.getD i [])) := by
  rw [List.getElem?_map, List.getD_eq_getElem?_getD, List.getElem?_eq_getElem h]; rfl
end Mine
end

-- Fw13
section
namespace Mine
open PySem PySem.Calls PySem.Spec PyProof.Rows

section
variable {prog : Program} {w : World} {A : Around} {env : Env} {hid hid' : List Addr} {hb : Addr → Option Obj} {σ s s' s₂ : Shared} {oc : List (Str × Addr)} {ow : List (Addr × Ob)} {ρ ρ' : Str → Option D} {E : Value → Shared → Prop} {h h' : Heap}

/-- no namespace, no cell, no list -/
def Dull (h : Heap) (a : Addr) : Prop := ∃ o, h.get? a = some o ∧ (∀ es ep, o.data ≠ .dict es ep) ∧ (∀ v, o.data ≠ .cell v) ∧ (∀ vs n, o.data ≠ .seq vs n)
theorem Fm.butS {W : Addr → Prop} (F : Fm hid h env oc ρ) (hW : ∀ a, W a → a ∈ hid ∧ Dull h a) (k : ∀ b o, ¬ W b → h.get? b = some o → h'.get? b = some o) : Fm hid h' env oc ρ := by
  have kb : KeptBut hid h h' := fun b o' hb e => k b o' (fun q => hb (hW b q).1) e
  have cc : ∀ c v, h.IsCell c v → h'.IsCell c v := fun c v ⟨o', e, q⟩ => ⟨o', k c o' (fun z => by
    obtain ⟨_, o, ho, _, hc, _⟩ := hW c z
    rw [ho] at e; cases e; exact hc _ q) e, q⟩
  refine ⟨F.kind, F.lhid, fun p hp => ?_, ?_, fun x d hx hd' => ?_⟩
  · obtain ⟨a1, b1, c1, ⟨v, d1⟩, e1⟩ := F.cell p hp
    exact ⟨a1, b1, c1, ⟨v, cc _ _ d1⟩, e1⟩
  · obtain ⟨m, ⟨o', es, ep, e, q, r⟩, hm⟩ := F.loc
    refine ⟨m, ⟨o', es, ep, k _ _ (fun z => ?_) e, q, r⟩, fun x d hx hd' => ?_⟩
    · obtain ⟨_, o, ho, hd, _⟩ := hW _ z
      rw [ho] at e; cases e; exact hd _ _ q
    · obtain ⟨v, e', hv⟩ := hm x d hx hd'
      exact ⟨v, e', hv.keepBut kb⟩
  · obtain ⟨c, v, e, hv, hh⟩ := F.cel x d hx hd'
    exact ⟨c, v, e, cc _ _ hv, hh.keepBut kb⟩
theorem Stt.butS {W : Addr → Prop} {tk : Nat} (S : Stt hid hb σ s env oc ow ρ) (hW : ∀ a, W a → a ∈ hid ∧ Dull s.heap a ∧ hb a = none ∧ ∃ o, h'.get? a = some o)
    (k : ∀ b o, ¬ W b → s.heap.get? b = some o → h'.get? b = some o) : Stt hid hb σ { s with heap := h', toks := tk } env oc ow ρ where
  same := by rw [S.same]
  kept := fun b o e => k b o (fun q => by rw [(hW b q).2.2.1] at e; cases e) (S.kept b o e)
  off := S.off
  live := fun b hb => by
    by_cases q : W b
    · exact (hW b q).2.2.2
    · obtain ⟨o', e⟩ := S.live b hb; exact ⟨o', k _ _ q e⟩
  fm := S.fm.butS (fun a q => ⟨(hW a q).1, (hW a q).2.1⟩) k
  own := fun p hp => by
    obtain ⟨a, b, c⟩ := S.own p hp
    refine ⟨a, b, c.keepBut (fun o' e => k _ o' (fun q => ?_) e) (fun b o' hb e => k b o' (fun q => hb (hW b q).1) e)⟩
    obtain ⟨_, ⟨o, ho, _, _, hl⟩, _⟩ := hW _ q
    obtain ⟨p1, p2⟩ := p
    cases p2 with
    | lst ds =>
      obtain ⟨vs, n, e1, _⟩ := c
      simp only at ho e1
      rw [ho] at e1; cases e1
      exact hl _ _ rfl
    | dct prog' w' ys =>
      obtain ⟨⟨o1, es, ep, e1, _, e3, _⟩, _⟩ := c
      obtain ⟨_, ⟨o, ho, hd, _, _⟩, _⟩ := hW _ q
      simp only at ho
      rw [ho] at e1; cases e1
      exact hd _ _ e3
  ownl := S.ownl

/-- what a loop draws, with an iterator within -/
structure SrcE (prog : Program) (w : World) (A : Around) (hid : List Addr) (s₁ : Shared) (I J : Addr) (target : Expr) (n : Nat) (ds : Nat → D) (St : Nat → Heap → Prop) : Prop where
  item : ∀ i (s : Shared) (Q : Option Value → Shared → Prop) (E : Value → Shared → Prop), i < n → St i s.heap → KeptBut (I :: J :: hid) s₁.heap s.heap →
    (∀ v h₁ tk, (∀ (Q' : Unit → Shared → Prop) (E' : Value → Shared → Prop), (∀ h', St (i + 1) h' → (∀ b o, ¬ (b = I ∨ b = J) → s.heap.get? b = some o → h'.get? b = some o) → (∀ hid', Live hid' s.heap → (∀ a ∈ hid', a ∈ I :: J :: hid ∨ s₁.heap.get? a = none) → Has hid' h' v (ds i)) → Q' () { s with heap := h', toks := tk }) →
      wpAny (model prog w) A (letOwnedTupleGo target (.ref I) v) Q' E' { s with heap := h₁, toks := tk }) → Q (some v) { s with heap := h₁, toks := tk }) → wpAny (model prog w) A (pyNext (.ref I)) Q E s
  done : ∀ (s : Shared) (Q : Option Value → Shared → Prop) (E : Value → Shared → Prop), St n s.heap → KeptBut (I :: J :: hid) s₁.heap s.heap →
    (∀ h' tk, (∀ b o, ¬ (b = I ∨ b = J) → s.heap.get? b = some o → h'.get? b = some o) → Q none { s with heap := h', toks := tk }) → wpAny (model prog w) A (pyNext (.ref I)) Q E s
  obj : ∀ i h, St i h → ∀ a, a = I ∨ a = J → Dull h a
  frame : ∀ i h h', St i h → (∀ a, a = I ∨ a = J → ∀ o, h.get? a = some o → h'.get? a = some o) → KeptBut (I :: J :: hid) s₁.heap h' → St i h'
  self : ∀ i (s : Shared) (Q : Value → Shared → Prop) (E : Value → Shared → Prop), St i s.heap → Q (.ref I) s → wpAny (model prog w) A (pyIter (.ref I)) Q E s

theorem comp_blockE {elt target iter : Expr} {ifs : List Expr} {scope : Scope} {cl : List (Str × Addr)} {pos : Pos} {n : Nat} {ds : Nat → D} {p : Nat → Bool} {f : Nat → D} {ρc : Str → Option D} {bind : Nat → (Str → Option D) → (Str → Option D)}
    {I J : Addr} {oI oJ : Obj} {St : Nat → Heap → Prop} {RR : Value → Addr → Result → Shared → Prop}
    (lv : Live hid s.heap) (ks : Ks s s₂) (hI : s.heap.get? I = none) (hoI : s₂.heap.get? I = some oI) (hJ : s.heap.get? J = none) (hoJ : s₂.heap.get? J = some oJ) (R : SrcE prog w A hid s₂ I J target n ds St) (h0 : St 0 s₂.heap)
    (P : Cp prog w A env hid s.heap elt target ifs scope cl n ds p f ρc bind)
    (hRR : ∀ D C s', Ks s s' → s.heap.get? C = none → (∃ m, s'.heap.Ns C m) → D ≠ C → Has (C :: hid) s'.heap (.ref D) (.lst (((List.range n).filter p).map f)) → RR (.ref D) C (.ok .next) s') :
    wpAny (model prog w) A (newList []) (fun acc s₃ => wpAny (model prog w) A (newFunctionEnv scope env.globals cl [] env.qual none .none (some env)) (fun cenv s₄ =>
      codeAny (model prog w) A (.compStart (.ListComp elt [⟨target, iter, ifs, 0⟩] scope pos) 0 (.ref I) acc { cenv with scope := relabel scope env }) (RR acc cenv.locals) s₄) E s₃) E s₂ := by
  refine wpAny_newObj_type (newCompEnv fun h₁ hk₁ hns hcl hap => ?_)
  dsimp only at hk₁ hns hcl hap ⊢
  generalize hH : s₂.heap.push { cls := .type "list", data := .seq ([] : List Value).toArray } = H at hk₁ hns hcl hap ⊢
  have hHs : H.objs.size = s₂.heap.objs.size + 1 := by rw [← hH, Heap.size_push]
  have hD₁ : h₁.get? s₂.heap.objs.size = some (lobj [] 0) := hk₁ _ _ (hH ▸ Heap.get?_push_size _ rfl)
  have up : Kept s₂.heap h₁ := fun b o e => hk₁ _ _ (hH ▸ Heap.get?_push_of_some _ e)
  have upS : Kept s.heap h₁ := fun b o e => up b o (ks.kept b o e)
  have noneS : ∀ a, s₂.heap.objs.size ≤ a → s.heap.get? a = none := fun a ha => by
    cases q : s.heap.get? a with
    | none => rfl
    | some o => exact absurd (Heap.lt_size (ks.kept _ _ q)) (Nat.not_lt.mpr ha)
  have hDC : s₂.heap.objs.size ≠ H.objs.size := by omega
  generalize hC : H.objs.size = C at hns hcl hap hDC hHs ⊢
  have hCn : s.heap.get? C = none := noneS C (by omega)
  have hcn : ∀ q ∈ cocN scope C, s.heap.get? q.2 = none := fun q hq => noneS _ (by have := (hcl q.1 q.2 hq).2; omega)
  -- what is hidden within
  let hidC : List Addr := C :: ((cocN scope C).map (·.2) ++ (s₂.heap.objs.size :: I :: J :: hid))
  have hsub : ∀ a ∈ hid, a ∈ hidC := fun a ha => .tail _ (List.mem_append.mpr (.inr (.tail _ (.tail _ (.tail _ ha)))))
  have hfresh : ∀ a ∈ hidC, a ∈ hid ∨ s.heap.get? a = none := fun a ha => by
    rcases List.mem_cons.mp ha with rfl | ha
    · exact .inr hCn
    · rcases List.mem_append.mp ha with ha | ha
      · obtain ⟨q, hq, rfl⟩ := List.mem_map.mp ha
        exact .inr (hcn q hq)
      · rcases List.mem_cons.mp ha with rfl | ha
        · exact .inr (noneS _ (Nat.le_refl _))
        · rcases List.mem_cons.mp ha with rfl | ha
          · exact .inr hI
          · rcases List.mem_cons.mp ha with rfl | ha
            · exact .inr hJ
            · exact .inl ha
  have hfresh₂ : ∀ a ∈ hidC, a ∈ I :: J :: hid ∨ s₂.heap.get? a = none := fun a ha => by
    rcases List.mem_cons.mp ha with rfl | ha
    · exact .inr (get_ge (by omega))
    · rcases List.mem_append.mp ha with ha | ha
      · obtain ⟨q, hq, rfl⟩ := List.mem_map.mp ha
        exact .inr (get_ge (by have := (hcl q.1 q.2 hq).2; omega))
      · rcases List.mem_cons.mp ha with rfl | ha
        · exact .inr (get_size _)
        · exact .inl ha
  have hnc : ((cocN scope C).map (·.1)).Nodup := cellsFrom_nodup scope.names _ [] P.nodup .nil (fun _ q => nomatch q)
  have hFm : Fm hidC h₁ (cenvN scope env cl C) (cocN scope C) ρc := by
    refine ⟨P.kind, .head _, fun q hq => ?_, ⟨_, hns, fun x d hx hd => ?_⟩, fun x d hx hd => ?_⟩
    · have hm := mem_cells (x := q.1) (c := q.2) hq
      refine ⟨?_, ?_, .tail _ (List.mem_append.mpr (.inl (List.mem_map_of_mem hq))), ⟨none, (hcl q.1 q.2 hq).1⟩, fun y hy hl => ?_⟩
      · exact (lookup_relabel (lookup_nodup P.nodup hm)).trans rfl
      · show (cocN scope C ++ cl).lookup q.1 = _
        rw [lookup_append, lookup_nodup hnc hq]
      · have hl' : (cocN scope C ++ cl).lookup y = some q.2 := hl
        rw [lookup_append] at hl'
        cases e : (cocN scope C).lookup y with
        | some c =>
          rw [e] at hl'
          cases hl'
          exact hy (name_of_addr hap (mem_of_lookup e) hq)
        | none =>
          rw [e] at hl'
          obtain ⟨o, ho⟩ := P.old y q.2 hl'
          rw [hcn q hq] at ho; cases ho
    · exfalso
      have h1 := lookup_nodup P.nodup (P.free x d hd).1
      have h2 := (lookup_relabel (env := env) h1).symm.trans hx
      split at h2 <;> cases h2
    · obtain ⟨hm, c, v, hc, hcell, hv⟩ := P.free x d hd
      refine ⟨c, v, ?_, hcell.keeps upS, (hv.fresh hfresh).keep upS⟩
      show (cocN scope C ++ cl).lookup x = _
      rw [lookup_append]
      cases e : (cocN scope C).lookup x with
      | some c' =>
        have h1 := lookup_nodup P.nodup (mem_cells (mem_of_lookup e))
        rw [lookup_nodup P.nodup hm] at h1; cases h1
      | none => exact hc
  have hlive : Live hidC h₁ := fun a ha => by
    rcases List.mem_cons.mp ha with rfl | ha
    · obtain ⟨o, _, _, e, _⟩ := hns; exact ⟨o, e⟩
    · rcases List.mem_append.mp ha with ha | ha
      · obtain ⟨q, hq, rfl⟩ := List.mem_map.mp ha
        obtain ⟨o, e, _⟩ := (hcl q.1 q.2 hq).1; exact ⟨o, e⟩
      · rcases List.mem_cons.mp ha with rfl | ha
        · exact ⟨_, hD₁⟩
        · rcases List.mem_cons.mp ha with rfl | ha
          · exact ⟨_, up _ _ hoI⟩
          · rcases List.mem_cons.mp ha with rfl | ha
            · exact ⟨_, up _ _ hoJ⟩
            · obtain ⟨o, e⟩ := lv a ha; exact ⟨o, upS _ _ e⟩
  have hDh : s₂.heap.objs.size ∈ hidC := .tail _ (List.mem_append.mpr (.inr (.head _)))
  have hIh : ∀ a, a = I ∨ a = J → a ∈ hidC := fun a q => q.elim (fun q => q ▸ .tail _ (List.mem_append.mpr (.inr (.tail _ (.head _))))) fun q => q ▸ .tail _ (List.mem_append.mpr (.inr (.tail _ (.tail _ (.head _)))))
  have hIJ : ∀ a, a = I ∨ a = J → s.heap.get? a = none := fun a q => q.elim (fun q => q ▸ hI) fun q => q ▸ hJ
  have S₀ : Stt hidC s.heap.get? s { s₂ with heap := h₁ } (cenvN scope env cl C) (cocN scope C) [(s₂.heap.objs.size, .lst [])] ρc := by
    refine ⟨by rw [ks.same], upS, fun b hb => ?_, hlive, hFm, fun q hq => ?_, fun q hq => by cases List.mem_singleton.mp hq; exact hDC⟩
    · rcases hb with rfl | ⟨q, hq, rfl⟩
      · exact hCn
      · exact hcn q hq
    · cases List.mem_singleton.mp hq
      exact ⟨hDh, noneS _ (Nat.le_refl _), [], 0, hD₁, .nil⟩
  have loop : codeAny (model prog w) A (.compLoop (.ListComp elt [⟨target, iter, ifs, 0⟩] scope pos) 0 (.ref I) (.ref s₂.heap.objs.size) (cenvN scope env cl C)) (RR (.ref s₂.heap.objs.size) C) { s₂ with heap := h₁ } := by
    refine compLoop_any (fun k s' => ∃ i, i ≤ n ∧ k = n + 1 - i ∧ Stt hidC s.heap.get? s s' (cenvN scope env cl C) (cocN scope C) [(s₂.heap.objs.size, .lst (((List.range i).filter p).map f))] ρc ∧ St i s'.heap ∧ KeptBut (I :: J :: hid) s₂.heap s'.heap) ?_ (n + 1)
      ⟨0, Nat.zero_le _, rfl, S₀, R.frame _ _ _ h0 (fun _ _ o e => up _ _ e) (fun b o _ e => up b o e), fun b o _ e => up b o e⟩
    rintro k s' ⟨i, hi, rfl, S', hSt, hK⟩
    have hN := R.obj i _ hSt
    by_cases hlt : i < n
    · refine R.item i s' _ _ hlt hSt hK fun v h₁' tk₂ hlet => hlet _ _ fun h₂ hSt₂ hk₂ hv => ?_
      have hM := R.obj (i + 1) _ hSt₂
      have S₂ : Stt hidC s.heap.get? s { s' with heap := h₂, toks := tk₂ } (cenvN scope env cl C) (cocN scope C) [(s₂.heap.objs.size, .lst (((List.range i).filter p).map f))] ρc := S'.butS (W := fun a => a = I ∨ a = J) (fun a q => ⟨hIh a q, hN a q, hIJ a q, let ⟨o, e, _⟩ := hM a q; ⟨o, e⟩⟩) hk₂
      have kb₂ : KeptBut (I :: J :: hid) s'.heap h₂ := fun b o hb e => hk₂ b o (fun q => hb (q.elim (fun q => q ▸ .head _) fun q => q ▸ .tail _ (.head _))) e
      have hK₂ : KeptBut (I :: J :: hid) s₂.heap h₂ := fun b o hb e => kb₂ b o hb (hK b o hb e)
      have hv₂ : Has hidC h₂ v (ds i) := hv hidC S'.live hfresh₂
      have hIbase : ∀ a, a = I ∨ a = J → ∀ o, h₂.get? a = some o → baseOf { s' with heap := h₂, toks := tk₂ } (cenvN scope env cl C) (cocN scope C) [(s₂.heap.objs.size, .lst (((List.range i).filter p).map f))] a = some o := fun a ha o ho => by
        obtain ⟨oN', heN', hM1, hM2, hM3⟩ := hM a ha
        unfold baseOf
        rw [if_neg]
        · exact ho
        · rintro (q | ⟨q', hq, q⟩ | ⟨q', hq, q⟩)
          · obtain ⟨m, ⟨o', es, ep, e', hd', _⟩, _⟩ := S₂.fm.loc
            rw [← q, heN'] at e'; cases e'; exact hM1 _ _ hd'
          · obtain ⟨_, _, _, ⟨v', o', e', hd'⟩, _⟩ := S₂.fm.cell q' hq
            rw [q, heN'] at e'; cases e'; exact hM2 _ hd'
          · cases List.mem_singleton.mp hq
            obtain ⟨_, _, vs, m, e', _⟩ := S₂.own _ (.head _)
            simp only at q e'
            rw [q, heN'] at e'; cases e'; exact hM3 _ _ rfl
      have base₂ : ∀ b o, b ∉ I :: J :: hid → s₂.heap.get? b = some o → baseOf { s' with heap := h₂, toks := tk₂ } (cenvN scope env cl C) (cocN scope C) [(s₂.heap.objs.size, .lst (((List.range i).filter p).map f))] b = some o := fun b o hb e =>
        S₂.base_hid (fun hm => (hfresh₂ b hm).elim hb fun q => by rw [q] at e; cases e) (hK₂ b o hb e)
      refine P.aim C i hlt hidC _ s _ _ ρc v _ _ S₂.rebase hv₂ fun s₃ S₃ k₃ => ?_
      refine P.test i hlt C hidC s₃.heap hsub S₃.live (fun b o e => S₃.kept b o (S₂.base_of e)) S₃.fm s₃ _ _ (fun _ _ e => e) fun s₄ k₄ => ?_
      have S₄ := S₃.keep k₄
      cases hp : p i with
      | false =>
        simp only [Bool.false_eq_true, if_false]
        refine ⟨n + 1 - (i + 1), by omega, i + 1, hlt, rfl, ?_, ?_, fun b o hb e => S₄.kept b o (base₂ b o hb e)⟩
        · have e : ((List.range (i + 1)).filter p).map f = ((List.range i).filter p).map f := by
            rw [List.range_succ, List.filter_append]; simp [hp]
          rw [e]
          exact (S₂.debase S₄).weaken (P.back i)
        · exact R.frame _ _ _ hSt₂ (fun a ha o e => S₄.kept a _ (hIbase a ha o e)) fun b o hb e => S₄.kept b o (base₂ b o hb e)
      | true =>
        simp only [if_true]
        refine P.elt i hlt hp C hidC s₄.heap hsub S₄.live (fun b o e => S₄.kept b o (S₂.base_of e)) S₄.fm s₄ _ _ (fun _ _ e => e) fun x s₅ k₅ hx => ?_
        have S₅ := S₄.keep k₅
        refine S₅.append (fun _ q => nomatch q) hx ?_ fun s₆ S₆ _ => ?_
        · rw [List.length_map]
          refine Nat.le_trans (List.length_filter_le _ _) ?_
          rw [List.length_range]
          exact Nat.le_trans (Nat.le_of_lt hlt) P.few
        · refine ⟨n + 1 - (i + 1), by omega, i + 1, hlt, rfl, ?_, ?_, fun b o hb e => S₆.kept b o (base₂ b o hb e)⟩
          · have e : ((List.range (i + 1)).filter p).map f = ((List.range i).filter p).map f ++ [f i] := by
              rw [List.range_succ, List.filter_append]; simp [hp]
            rw [e]
            exact (S₂.debase S₆).weaken (P.back i)
          · exact R.frame _ _ _ hSt₂ (fun a ha o e => S₆.kept a _ (hIbase a ha o e)) fun b o hb e => S₆.kept b o (base₂ b o hb e)
    · have hin : i = n := by omega
      subst hin
      refine R.done s' _ _ hSt hK fun h₂ tk₂ hk₂ => ?_
      obtain ⟨m, hm, _⟩ := S'.fm.loc
      have hIC : ¬ (C = I ∨ C = J) := fun q => by
        obtain ⟨oN, heN, hN1, _⟩ := hN C q
        obtain ⟨o', es, ep, e', hd', _⟩ := hm
        have e'' : s'.heap.get? C = some o' := e'
        rw [heN] at e''; cases e''; exact hN1 _ _ hd'
      obtain ⟨_, _, vs, c, eD, hvs⟩ := S'.own _ (.head _)
      have hDI : ¬ (s₂.heap.objs.size = I ∨ s₂.heap.objs.size = J) := fun q => by
        obtain ⟨oN, heN, _, _, hN3⟩ := hN _ q
        simp only at eD
        rw [heN] at eD; cases eD; exact hN3 _ _ rfl
      refine hRR _ C { s' with heap := h₂, toks := tk₂ } ⟨by rw [S'.same], fun b o e => hk₂ b o (fun q => by rw [hIJ b q] at e; cases e) (S'.kept b o e)⟩ hCn ⟨m, hm.at' fun o e => hk₂ _ o hIC e⟩ hDC ?_
      refine .lst (n := c) (vs := vs) (fun hmm => ?_) (hk₂ _ _ hDI eD) (hvs.mono (fun b o hb e => hk₂ b o (fun q => hb (hIh b q)) e) (fun a o hna e hm => hna ?_))
      · rcases List.mem_cons.mp hmm with q | q
        · exact hDC q
        · obtain ⟨o, e⟩ := lv _ q
          rw [noneS _ (Nat.le_refl _)] at e; cases e
      · rcases List.mem_cons.mp hm with rfl | hm
        · exact .head _
        · exact hsub a hm
  exact codeAny_compStart_list loop (R.self 0 _ _ _ (R.frame _ _ _ h0 (fun _ _ o e => up _ _ e) (fun b o _ e => up b o e)) loop)

def EvE (prog : Program) (w : World) (A : Around) (env : Env) (hid : List Addr) (h : Heap) (iter target : Expr) (n : Nat) (ds : Nat → D) : Prop :=
  ∀ (s : Shared) (Q : Value → Shared → Prop) (E : Value → Shared → Prop), Kept h s.heap →
    (∀ s' I J oI oJ St, Ks s s' → s.heap.get? I = none → s'.heap.get? I = some oI → s.heap.get? J = none → s'.heap.get? J = some oJ → SrcE prog w A hid s' I J target n ds St → St 0 s'.heap → Q (.ref I) s') →
    wpAny (model prog w) A (eval iter env) (fun x s₁ => wpAny (model prog w) A (pyIter x) Q E s₁) E s
section
variable {elt target iter : Expr} {ifs : List Expr} {scope : Scope} {cl : List (Str × Addr)} {pos : Pos} {n : Nat} {ds : Nat → D} {p : Nat → Bool} {f : Nat → D} {ρc : Str → Option D} {bind : Nat → (Str → Option D) → (Str → Option D)}
theorem Ev.compE (lv : Live hid h) (it : EvE prog w A env hid h iter target n ds) (hclos : closureFor scope env = pure cl) (P : Cp prog w A env hid h elt target ifs scope cl n ds p f ρc bind)
    (hs : ∀ x, foldedSetIterable iter env x = pure x := by intro _; rfl) : Ev prog w A env hid h (.ListComp elt [⟨target, iter, ifs, 0⟩] scope pos) (.lst (((List.range n).filter p).map f)) := fun s Q E k hQ => by
  rw [eval_ListComp]
  refine wpAny_comprehension_free (use := none) rfl hs hclos P.kind (fun x hx hl => ?_) (it s _ E k fun s₂ I J oI oJ St ks hI hoI hJ hoJ R h0 => ?_)
  · obtain ⟨a, b⟩ := x; cases hl; exact lookup_nodup P.nodup hx
  · refine comp_blockE (RR := fun acc C => compPost (model prog w) A E none Q acc C) (lv.keep k) ks hI hoI hJ hoJ R h0 (P.mono k) fun D C s' ks' hC ⟨m, hm⟩ hDC hD => ?_
    refine ⟨m, hm, fun h'' hs'' => hQ _ _ ⟨by rw [ks'.same], fun b o e => (hs''.2 b (fun q => by rw [q, hC] at e; cases e)).trans (ks'.kept b o e)⟩ ?_⟩
    exact (hD.keepBut (h' := h'') fun b o hb e => (hs''.2 b (fun q => hb (q ▸ .head _))).trans e).weak fun _ m => .tail _ m


theorem EvE.enumerate {x : Str} {np pos : Pos} {e : Expr} {l : List D} {es : List Expr} {kk} {tp : Pos} (hh : A.handled = none) (lv : Live hid h) (hs : Sees prog w A env h x (.type "enumerate")) (he : Ev prog w A env hid h e (.lst l))
    (hq : starEach [e] env = (false, eval e env) :: starEach [] env := by rfl) : EvE prog w A env hid h (.Call (.Name x np) [e] [] pos) (.Tuple es kk tp) l.length (fun i => .tup [.int i, l.getD i .none]) := fun s Q E k hQ => by
  refine Call_ (hs s np _ E k (callWith_type1 (args_cons (he s _ E k fun v s₁ k₁ hv => args_nil ?_) hq) hq rfl))
  cases hv with
  | @lst a vs n ds hn e hs =>
    refine call_enumerate_list (lobj_isList e) fun h₁ hE hit hz hk => ?_
    have hE0 := hE
    have hit0 := hit
    generalize hJ' : s₁.heap.objs.size = J at *
    have haJ : a ≠ J := hJ' ▸ Nat.ne_of_lt (Heap.lt_size e)
    have haI : a ≠ J + 1 := Nat.ne_of_lt (Nat.lt_succ_of_lt (hJ' ▸ Heap.lt_size e))
    have hIJ : J + 1 ≠ J := Nat.succ_ne_self J
    have hl₁ : h₁.get? a = some (lobj vs n) := hk _ _ e
    have nS : ∀ b, J ≤ b → s.heap.get? b = none := fun b hb => by
      cases q : s.heap.get? b with
      | none => rfl
      | some o => exact absurd (Heap.lt_size (k₁.kept _ _ q)) (Nat.not_lt.mpr (hJ'.symm ▸ hb))
    refine wpAny_pyIter_enum hE ?_
    obtain ⟨oJ, hoJ, hcJ, hdJ⟩ := id hit
    refine hQ { s₁ with heap := h₁ } (J + 1) J _ _ (fun i h => (∃ old, IsEnum h (J + 1) J i old) ∧ h.IsListIter J a i ∧ h.get? a = some (lobj vs n)) (k₁.trans (Ks.heap hk)) (nS _ (Nat.le_succ _)) hE (nS _ (Nat.le_refl _)) hoJ ⟨?_, ?_, ?_, ?_, ?_⟩ ⟨⟨_, hE⟩, hit, hl₁⟩
    · rintro i s' Q E hi ⟨⟨old, h1⟩, h2, h3⟩ hK kq
      have hi' : i < vs.length := by rw [hs.length]; exact hi
      refine wpAny_pyNext_enum_item h1 h2 (lobj_isList h3) (x := vs[i]) (by simp [hi']) hIJ fun h₂ ho₂ hit₂ htup hz₂ hk₂ => ?_
      obtain ⟨d, ed, hd⟩ := hs.getV (k := i) (v := vs[i]) (by simp [hi'])
      have eg : l.getD i .none = d := by rw [List.getD_eq_getElem?_getD, ed]; rfl
      refine kq _ h₂ _ fun Q' E' hQ' => wpAny_letOwnedTupleGo_enum ho₂ fun h₃ hE₃ hs₃ => ?_
      have hs₃' : Heap.SameBut (J + 1) h₂ h₃ := hs₃
      have up : ∀ b o, ¬ (b = J + 1 ∨ b = J) → s'.heap.get? b = some o → h₃.get? b = some o := fun b o hb q =>
        (hs₃'.2 b (fun q => hb (.inl q))).trans (hk₂ b o (fun q => hb (.inl q)) (fun q => hb (.inr q)) q)
      have hit₃ : h₃.IsListIter J a (i + 1) := hit₂.extBut hs₃'.extBut (Ne.symm hIJ)
      have hT : h₃.get? s'.heap.objs.size = some (tobj [.int i s'.toks, vs[i]] 0) := (hs₃'.2 _ (Nat.ne_of_gt (Heap.lt_size h1))).trans htup
      refine hQ' h₃ ⟨⟨_, by have := hE₃; simpa using this⟩, hit₃, up _ _ (fun q => q.elim haI haJ) h3⟩ up fun hid' lv' hf => ?_
      refine .tup (lv'.size) hT (.cons (.int _ _) (.cons ?_ .nil))
      rw [eg]
      refine hd.mono (hid' := hid') (fun b o hb q => ?_) (fun b o hb q hm => ?_)
      · have hb' : b < J := hJ' ▸ Heap.lt_size q
        have b1 : b ≠ J := Nat.ne_of_lt hb'
        have b2 : b ≠ J + 1 := Nat.ne_of_lt (Nat.lt_succ_of_lt hb')
        refine up b o (fun z => z.elim b2 b1) (hK b o (fun m => ?_) (hk _ _ q))
        rcases List.mem_cons.mp m with m | m
        · exact b2 m
        · rcases List.mem_cons.mp m with m | m
          · exact b1 m
          · exact hb m
      · have hb' : b < J := hJ' ▸ Heap.lt_size q
        rcases hf b hm with m | m
        · rcases List.mem_cons.mp m with m | m
          · exact Nat.ne_of_lt (Nat.lt_succ_of_lt hb') m
          · rcases List.mem_cons.mp m with m | m
            · exact Nat.ne_of_lt hb' m
            · exact hb m
        · have := hk _ _ q
          have m' : h₁.get? b = none := m
          rw [m'] at this; cases this
    · rintro s' Q E ⟨⟨old, h1⟩, h2, h3⟩ hK kq
      exact wpAny_pyNext_enum_end hh h1 h2 (lobj_isList h3) (by simp [hs.length]) fun h₂ he₂ => kq h₂ s'.toks fun b o hb q => he₂ b o (fun q => hb (.inr q)) q
    · rintro i h₂ ⟨⟨old, h1⟩, ⟨o, ho, hc, hd⟩, _⟩ b hb
      rcases hb with rfl | rfl
      · exact ⟨_, h1, fields_obj rfl⟩
      · exact ⟨o, ho, fields_obj hd⟩
    · rintro i h₂ h₃ ⟨⟨old, h1⟩, h2, h3⟩ hI₂ hK
      refine ⟨⟨old, hI₂ _ (.inl rfl) _ h1⟩, h2.at (hI₂ _ (.inr rfl)), hK a _ (fun m => ?_) hl₁⟩
      rcases List.mem_cons.mp m with q | m
      · exact haI q
      · rcases List.mem_cons.mp m with q | m
        · exact haJ q
        · exact hn m
    · rintro i s' Q E ⟨⟨old, h1⟩, _⟩ hQ
      exact wpAny_pyIter_enum h1 hQ
end
end
end Mine
end

-- Fw14
section
namespace Mine
open PySem PySem.Calls PySem.Spec PyProof.Rows

section
variable {prog : Program} {w : World} {A : Around} {env : Env} {hid hid' : List Addr} {hb : Addr → Option Obj} {σ s s' s₁ : Shared} {oc : List (Str × Addr)} {ow : List (Addr × Ob)} {ρ ρ' : Str → Option D} {E : Value → Shared → Prop} {h h' : Heap}
theorem SrcE.congr {I J : Addr} {target : Expr} {n : Nat} {ds ds' : Nat → D} {St : Nat → Heap → Prop} (R : SrcE prog w A hid s₁ I J target n ds St) (e : ∀ i, i < n → ds i = ds' i) : SrcE prog w A hid s₁ I J target n ds' St :=
  ⟨fun i s Q E hi st hK k => R.item i s Q E hi st hK fun v h₁ tk hl => k v h₁ tk fun Q' E' hQ' => hl Q' E' fun h' a b c => hQ' h' a b fun hid' x y => e i hi ▸ c hid' x y, R.done, R.obj, R.frame, R.self⟩
theorem EvE.congr {iter target : Expr} {n m : Nat} {ds ds' : Nat → D} (x : EvE prog w A env hid h iter target m ds) (hm : m = n) (e : ∀ i, i < n → ds i = ds' i) : EvE prog w A env hid h iter target n ds' := by
  subst hm
  exact fun s Q E k hQ => x s Q E k fun s' I J oI oJ St a b c d e' R f => hQ s' I J oI oJ St a b c d e' (R.congr e) f
theorem EvE.rows {x : Str} {np pos : Pos} {e : Expr} {g : List (List Int)} {es : List Expr} {kk} {tp : Pos} (hh : A.handled = none) (lv : Live hid h) (hs : Sees prog w A env h x (.type "enumerate")) (he : Ev prog w A env hid h e (gD g))
    (hq : starEach [e] env = (false, eval e env) :: starEach [] env := by rfl) : EvE prog w A env hid h (.Call (.Name x np) [e] [] pos) (.Tuple es kk tp) g.length (fun i => .tup [.int i, rD (g.getD i [])]) :=
  (EvE.enumerate hh lv hs he hq).congr (by simp) fun i hi => by rw [getD_map rD g i .none [] hi]
theorem EvE.ints {x : Str} {np pos : Pos} {e : Expr} {r : List Int} {es : List Expr} {kk} {tp : Pos} (hh : A.handled = none) (lv : Live hid h) (hs : Sees prog w A env h x (.type "enumerate")) (he : Ev prog w A env hid h e (rD r))
    (hq : starEach [e] env = (false, eval e env) :: starEach [] env := by rfl) : EvE prog w A env hid h (.Call (.Name x np) [e] [] pos) (.Tuple es kk tp) r.length (fun i => .tup [.int i, .int (r.getD i 0)]) :=
  (EvE.enumerate hh lv hs he hq).congr (by simp) fun i hi => by rw [getD_map D.int r i .none 0 hi]

/-- a tuple for a source -/
theorem EvIt.tup {iter target : Expr} {l : List D} (hh : A.handled = none) (ht : Easy target) (lv : Live hid h) (he : Ev prog w A env hid h iter (.tup l)) : EvIt prog w A env hid h iter target l.length (fun i => l.getD i .none) := fun s Q E k hQ => by
  refine he s _ E k fun v s₁ k₁ hv => ?_
  cases hv with
  | @tup a vs n ds hn e hs =>
    refine wpAny_pyIter_tuple (tobj_isTuple e) ?_
    have lv₁ : Live hid s₁.heap := (lv.keep k).keep k₁.kept
    have haI : a ≠ s₁.heap.objs.size := Nat.ne_of_lt (Heap.lt_size e)
    have hI : s.heap.get? s₁.heap.objs.size = none := by
      cases q : s.heap.get? s₁.heap.objs.size with
      | none => rfl
      | some o => exact absurd (Heap.lt_size (k₁.kept _ _ q)) (Nat.lt_irrefl _)
    have ks : Ks s { s₁ with heap := s₁.heap.push { cls := .type "tuple_iterator", data := .fields #[.ref a, .int 0 0] } } := k₁.trans (Ks.push _)
    have hItems : HasAll (s₁.heap.objs.size :: hid) (s₁.heap.push { cls := .type "tuple_iterator", data := .fields #[.ref a, .int 0 0] }) vs l :=
      hs.mono (fun b o _ q => Heap.get?_push_of_some _ q) (fun b o hb q m => by
        rcases List.mem_cons.mp m with rfl | m
        · exact Nat.lt_irrefl _ (Heap.lt_size q)
        · exact hb m)
    refine hQ _ s₁.heap.objs.size _ (fun i h => h.IsTupleIter s₁.heap.objs.size a i ∧ h.IsTuple a vs.toArray) ks hI (Heap.get?_push_size _ rfl) ⟨?_, ?_, ?_, ?_, ?_, ?_⟩ ⟨⟨_, Heap.get?_push_size _ rfl, rfl, rfl⟩, (tobj_isTuple e).push _⟩
    · intro i s' Q E hi st hK k
      have hi' : i < vs.length := by rw [hs.length]; exact hi
      refine wpAny_pyNext_tuple_item st.1 st.2 (x := vs[i]) (by simp [hi']) fun h₂ hit hsb => ?_
      obtain ⟨d, ed, hd⟩ := hItems.getV (k := i) (v := vs[i]) (by simp [hi'])
      have eg : l.getD i .none = d := by rw [List.getD_eq_getElem?_getD, ed]; rfl
      exact k _ h₂ s'.toks (eg ▸ hd) ⟨hit, st.2.extBut hsb.extBut haI⟩ fun b o hb q => hsb.extBut b o hb q
    · intro s' Q E st hK k
      exact wpAny_pyNext_tuple_end hh st.1 st.2 (by simp [hs.length]) fun h₂ he₂ => k h₂ s'.toks fun b o hb q => he₂ b o hb q
    · rintro i h₂ ⟨⟨o, ho, hc, hd⟩, _⟩
      exact ⟨o, ho, fields_obj hd⟩
    · rintro i h₂ h₃ ⟨h1, h2⟩ hI₂ hK
      refine ⟨h1.at hI₂, ?_⟩
      have q := hK a _ (fun m => by
        rcases List.mem_cons.mp m with q | m
        · exact haI q
        · exact hn m) (Heap.get?_push_of_some _ e)
      exact tobj_isTuple q
    · rintro i s' Q E ⟨h1, _⟩ hQ
      exact wpAny_pyIter_tupleiter h1 hQ
    · rintro i s' v Q E ⟨⟨o, ho, hc, hd⟩, _⟩ hQ
      exact easy_lets ht ho hc hd (by decide) hQ
end
end Mine
end

-- Fw15
section
namespace Mine
open PySem PySem.Calls PySem.Spec PyProof.Rows

theorem HasAll.set {hid : List Addr} {h : Heap} {vs : List Value} {ds : List D} {v : Value} {d : D} (x : HasAll hid h vs ds) (y : Has hid h v d) (k : Nat) : HasAll hid h (vs.set k v) (ds.set k d) := by
  induction vs generalizing ds k with
  | nil => cases x; simpa using HasAll.nil
  | cons u vs ih => cases x with
    | cons a r => cases k with
      | zero => exact .cons y r
      | succ k => exact .cons a (ih r k)

section
variable {prog : Program} {w : World} {A : Around} {env : Env} {hid hid' : List Addr} {hb : Addr → Option Obj} {σ s s' : Shared} {oc : List (Str × Addr)} {ow : List (Addr × Ob)} {ρ ρ' : Str → Option D} {E : Value → Shared → Prop} {h h' : Heap}
  {e l r x y z : Expr} {d a b c : D} {ds es : List D} {pos : Pos}

theorem setItem_lobj {l : Addr} {items : List Value} {n : Nat} {k : Int} {t : Tok} {v : Value} {Q : Unit → Shared → Prop} (hl : s.heap.get? l = some (lobj items n))
    (h0 : 0 ≤ k) (hfit : k < 2 ^ 63) (hn : k < items.length)
    (hQ : ∀ h' n', h'.get? l = some (lobj (items.set k.toNat v) n') → Heap.SameBut l s.heap h' → Q () { s with heap := h' }) :
    wpAny (model prog w) A (setItem (.ref l) (.int k t) v) Q E s := by
  have hL : s.heap.IsList l items.toArray := lobj_isList hl
  unfold setItem
  try with_reducible refine wpAny_holding ?_
  first | refine wpAny_bind (wpAny_pure ?_) | skip
  refine wpAny_bind (wpAny_sequenceKey hL.typeIs (by decide) ?_)
  refine wpAny_bind (wpAny_callSpecial?_slot (name := Str.ofString "__setitem__") hL.typeIs slot_list_setitem
    (wpAny_call_entry slot_list_setitem hL.typeIs entry_list_setitem ?_ (args_list_setitem _ _ _)))
  show wpAny _ _ (Builtin.List.listSubscript? (.int k t) >>= _) _ _ s
  refine wpAny_bind (wpAny_listSubscript_int (fitsIndex_of h0 hfit) ?_)
  clear hfit
  obtain ⟨j, rfl⟩ := Int.eq_ofNat_of_zero_le h0
  have hj : j < items.toArray.size := by simp; omega
  have hx' : items.toArray[j]? = some items.toArray[j] := Array.getElem?_eq_getElem hj
  show wpAny _ _ ((seqItemAt l j >>= fun r => pure (r.map (j, ·))) >>= _) _ _ s
  refine wpAny_bind (wpAny_bind (wpAny_seqItemAt hl rfl (wpAny_pure ?_)))
  rw [hx']
  show wpAny _ _ (setSeqItemAt l j v >>= _) _ _ s
  have hfin : (s.heap.update l (Obj.mapSeq (·.setIfInBounds j v))).get? l = some (lobj (items.set j v) n) := by
    have e : Obj.mapSeq (·.setIfInBounds j v) (lobj items n) = lobj (items.set j v) n := by simp [Obj.mapSeq, lobj]
    have := Heap.get?_update_self (Obj.mapSeq (·.setIfInBounds j v)) hl (by rw [e]; exact Obj.isFreed_of_seq (o := lobj (items.set j v) n) rfl)
    rw [e] at this
    exact this
  refine wpAny_bind (wpAny_setSeqItemAt hl rfl ?_)
  exact wpAny_pure ⟨.none, rfl, wpAny_pure (hQ _ _ hfin (Heap.SameBut.update ..))⟩

/-- a place of an owned list is stored -/
theorem Stt.setItem {a : Addr} {es : List D} {v : Value} {d : D} {k : Int} {t : Tok} {Q : Unit → Shared → Prop} (S : Stt hid hb σ s env oc ((a, .lst es) :: ow) ρ) (hne : ∀ p ∈ ow, p.1 ≠ a) (hv : Has hid s.heap v d) (h0 : 0 ≤ k) (h1 : k < 2 ^ 63) (hn : k < es.length)
    (kk : ∀ s', Stt hid hb σ s' env oc ((a, .lst (es.set k.toNat d)) :: ow) ρ → KeptBut hid s.heap s'.heap → Q () s') : wpAny (model prog w) A (setItem (.ref a) (.int k t) v) Q E s := by
  obtain ⟨ha, hba, vs₀, n₀, ho₀, hv₀⟩ := S.own _ (.head _)
  refine setItem_lobj ho₀ h0 h1 (by rw [hv₀.length]; exact hn) fun h' n' hl hs => ?_
  obtain ⟨S', kb⟩ := S.turnList (tk := s.toks) hne hs hl (hv₀.set hv k.toNat)
  exact kk _ S' kb
theorem st_setItem {o i : Expr} {pos' : Pos} {A₀ : Addr} {k : Int} {Q : Flow → Shared → Prop} (S : Stt hid hb σ s env oc ((A₀, .lst es) :: ow) ρ) (hne : ∀ p ∈ ow, p.1 ≠ A₀) (ev : Ev prog w A env hid s.heap e d) (eo : Ev prog w A env hid s.heap o (.raw (.ref A₀))) (ei : Ev prog w A env hid s.heap i (.int k))
    (h0 : 0 ≤ k) (h1 : k < 2 ^ 63) (hn : k < es.length) (kk : ∀ s', Stt hid hb σ s' env oc ((A₀, .lst (es.set k.toNat d)) :: ow) ρ → Q .next s')
    (hs : swapsWith e (some (.Subscript o i pos')) pos.line env = pure false := by rfl) :
    wpAny (model prog w) A (exec (.Assign [.Subscript o i pos'] e pos) env) Q E s :=
  wpAny_Assign_Subscript (ev s _ E (fun _ _ q => q) fun v s₁ k₁ hv => eo s₁ _ E k₁.kept fun u s₂ k₂ hu => ei s₂ _ E (fun b o q => k₂.kept b o (k₁.kept b o q)) fun x s₃ k₃ hx => by
    cases hu with
    | raw _ => cases hx with
      | int _ t => exact (S.keep ((k₁.trans k₂).trans k₃)).setItem hne ((hv.keep k₂.kept).keep k₃.kept) h0 h1 hn fun s' S' _ => kk s' S') hs
end
end Mine
end

-- Fw16
section
namespace Mine
open PySem PySem.Calls PySem.Spec PyProof.Rows

section
variable {prog : Program} {w : World} {A : Around} {env : Env} {hid hid' : List Addr} {s s' : Shared} {E : Value → Shared → Prop} {h h' : Heap} {e l r x y z : Expr} {d a b c : D} {ds es : List D} {pos : Pos}

theorem IsTupleKey.keep' {knd : KeyKind prog w Int} {ks : List Int} {b : Addr} (k : Kept h h') (x : IsTupleKey knd h ks b) : IsTupleKey knd h' ks b := by
  obtain ⟨o, items, n, ho, h1, h2, h3⟩ := x
  exact ⟨o, items, n, k _ _ ho, h1, h2, h3⟩
theorem DictOfH.keep' {dd : Addr} {xs : List (List Int × Addr × Value)} (k : Kept h h') (x : h.DictOfH (tupleKind (intKind prog w)) dd xs) : h'.DictOfH (tupleKind (intKind prog w)) dd xs := by
  obtain ⟨o, es, ep, h1, h2, h3, h4, h5, h6⟩ := x
  exact ⟨o, es, ep, k _ _ h1, h2, h3, h4, fun y hy => IsTupleKey.keep' k (h5 y hy), h6⟩
theorem key3 {v : Value} {i j m : Int} (hv : Has hid h v (.tup [.int i, .int j, .int m])) : ∃ b, v = .ref b ∧ IsTupleKey (intKind prog w) h [i, j, m] b := by
  cases hv with
  | tup hn e r => cases r with
    | cons h1 r => cases r with
      | cons h2 r => cases r with
        | cons h3 r => cases r with
          | nil => cases h1 with
            | int _ t1 => cases h2 with
              | int _ t2 => cases h3 with
                | int _ t3 => exact ⟨_, rfl, _, _, _, e, rfl, rfl, .cons (intKind_is ..) (.cons (intKind_is ..) (.cons (intKind_is ..) .nil))⟩

theorem Ev.dictItem {dd : Addr} {xs : List (List Int × Addr × Value)} {i j m u : Int} {adr : Addr} {tk : Tok} (hu : A.units + 1 < cLine) (hD : h.DictOfH (tupleKind (intKind prog w)) dd xs) (ex : Ev prog w A env hid h x (.raw (.ref dd))) (ey : Ev prog w A env hid h y (.tup [.int i, .int j, .int m]))
    (e : atKey xs [i, j, m] = some (adr, .int u tk)) (hs : ∀ o v, subscripted y false o v = operate [o, v] (getItem o v) := by intro _ _; rfl) : Ev prog w A env hid h (.Subscript x y pos) (.int u) := fun s Q E k hQ =>
  Subscript_ (ex s _ E k fun o s₁ k₁ ho => ey s₁ _ E (fun b o q => k₁.kept b o (k b o q)) fun v s₂ k₂ hv => by
    cases ho with
    | raw _ =>
      obtain ⟨b, rfl, hk⟩ := key3 (prog := prog) (w := w) hv
      have hD₂ := DictOfH.keep' (fun b o q => k₂.kept b o (k₁.kept b o (k b o q))) hD
      exact PyProof.Rows.tail_any hD₂.typeIs slot_dict_getitem.lookup (wpAny_getItem_heap (knd := tupleKind (intKind prog w)) (tupleKind_room_in1 hu) hk hD₂ e (hQ _ _ ((k₁.trans k₂).trans (Ks.toks _)) (.int _ _))) (hs _ _))
end
end Mine
end

-- Fw17
section
namespace Mine
open PySem PySem.Calls PySem.Spec PyProof.Rows

section
variable {prog : Program} {w : World} {A : Around} {env : Env} {hid hid' : List Addr} {hb : Addr → Option Obj} {σ s s' : Shared} {oc : List (Str × Addr)} {ow ow' : List (Addr × Ob)} {ρ ρ' : Str → Option D} {E : Value → Shared → Prop} {h h' : Heap}
  {e l r x y z : Expr} {d a b c : D} {ds es : List D} {pos : Pos}

theorem Stt.perm (S : Stt hid hb σ s env oc ow ρ) (hp : ∀ p ∈ ow', p ∈ ow) : Stt hid hb σ s env oc ow' ρ := ⟨S.same, S.kept, S.off, S.live, S.fm, fun p m => S.own p (hp p m), fun p m => S.ownl p (hp p m)⟩

theorem hasAll_raw {α : Type} {f : α → Value} : ∀ {L : List α} {vs : List Value}, HasAll hid h vs (L.map fun i => D.raw (f i)) → vs = L.map f
  | [], _, .nil => rfl
  | i :: L, _, .cons x r => by
    cases x with
    | raw _ => rw [hasAll_raw r]; rfl
theorem hasAll_of {α : Type} {f : α → Value} {g : α → D} : ∀ {L : List α}, (∀ i ∈ L, Has hid h (f i) (g i)) → HasAll hid h (L.map f) (L.map g)
  | [], _ => .nil
  | i :: L, H => .cons (H i (.head _)) (hasAll_of fun j m => H j (.tail _ m))

abbrev Mat := Nat → Nat → Int
def rowL (n : Nat) (g : Mat) (i : Nat) : List D := (List.range n).map fun j => .int (g i j)
def gM (n : Nat) (g : Mat) : D := .lst ((List.range n).map fun i => .lst (rowL n g i))
def ownG (P : Addr) (rs : Nat → Addr) (n : Nat) (g : Mat) : List (Addr × Ob) := (P, .lst ((List.range n).map fun i => D.raw (.ref (rs i)))) :: (List.range n).map fun i => (rs i, .lst (rowL n g i))
def upd2 (g : Mat) (i j : Nat) (x : Int) : Mat := fun a b => if a = i ∧ b = j then x else g a b

theorem mem_row {P : Addr} {rs : Nat → Addr} {n : Nat} {g : Mat} {i : Nat} (hi : i < n) : (rs i, Ob.lst (rowL n g i)) ∈ ownG P rs n g := .tail _ (List.mem_map_of_mem (f := fun i => (rs i, Ob.lst (rowL n g i))) (List.mem_range.mpr hi))
theorem rowL_get {n : Nat} {g : Mat} {i j : Nat} (hj : j < n) : (rowL n g i)[j]? = some (.int (g i j)) := by
  unfold rowL; rw [List.getElem?_map, List.getElem?_range hj]; rfl
theorem own_P {P : Addr} {rs : Nat → Addr} {n : Nat} {g : Mat} (S : Stt hid hb σ s env oc (ownG P rs n g) ρ) : ∃ c, s.heap.get? P = some (lobj ((List.range n).map fun i => .ref (rs i)) c) := by
  obtain ⟨_, _, vs, c, e, r⟩ := S.own _ (.head _)
  rw [hasAll_raw r] at e
  exact ⟨c, e⟩
theorem own_row {P : Addr} {rs : Nat → Addr} {n : Nat} {g : Mat} (S : Stt hid hb σ s env oc (ownG P rs n g) ρ) {i : Nat} (hi : i < n) : ∃ us c, s.heap.get? (rs i) = some (lobj us c) ∧ HasAll hid s.heap us (rowL n g i) := by
  obtain ⟨_, _, us, c, e, r⟩ := S.own _ (mem_row hi)
  exact ⟨us, c, e, r⟩
theorem own_has {P : Addr} {rs : Nat → Addr} {n : Nat} {g : Mat} (S : Stt hid hb σ s env oc (ownG P rs n g) ρ) : Has [] s.heap (.ref P) (gM n g) := by
  obtain ⟨c, e⟩ := own_P S
  refine .lst (fun q => nomatch q) e (hasAll_of fun i hi => ?_)
  obtain ⟨us, c', e', r⟩ := own_row S (List.mem_range.mp hi)
  exact .lst (fun q => nomatch q) e' (r.weak fun _ q => nomatch q)

/-- the reads of what is owned -/
theorem Ct.bare {f : Value} {P : Addr} {d0 : D} {i : Int} (hP : Has [] h (.ref P) d0) (hd : d = .none ∨ ∃ j, d = .int j) (c : Ct prog w A [] h f [d0, .int i] d) : Ct prog w A hid h f [.raw (.ref P), .int i] d := fun s vs Q E k hv hQ => by
  cases hv with
  | cons h1 hv => cases h1 with
    | raw _ => cases hv with
      | cons h2 hv => cases hv with
        | nil => cases h2 with
          | int _ t =>
            refine c s _ Q E k (.cons (hP.keep k) (.cons (.int _ _) .nil)) fun r s' ks hr => hQ r s' ks ?_
            rcases hd with rfl | ⟨j, rfl⟩
            · cases hr; exact .none
            · cases hr; exact .int _ _
theorem Ct.bare1 {f : Value} {P : Addr} {d0 : D} (hP : Has [] h (.ref P) d0) (hd : d = .none ∨ ∃ j, d = .int j) (c : Ct prog w A [] h f [d0] d) : Ct prog w A hid h f [.raw (.ref P)] d := fun s vs Q E k hv hQ => by
  cases hv with
  | cons h1 hv => cases h1 with
    | raw _ => cases hv with
      | nil =>
            refine c s _ Q E k (.cons (hP.keep k) .nil) fun r s' ks hr => hQ r s' ks ?_
            rcases hd with rfl | ⟨j, rfl⟩
            · cases hr; exact .none
            · cases hr; exact .int _ _

theorem Ev.cellOwn {P : Addr} {rs : Nat → Addr} {n : Nat} {g : Mat} (S : Stt hid hb σ s env oc (ownG P rs n g) ρ) {i j : Int} {p p' : Pos} (hn : n < 1000) (hi0 : 0 ≤ i) (hi : i < n) (hj0 : 0 ≤ j) (hj : j < n) (ex : Ev prog w A env hid s.heap x (.raw (.ref P))) (ey : Ev prog w A env hid s.heap y (.int i)) (ez : Ev prog w A env hid s.heap z (.int j))
    (hs : ∀ o v, subscripted y false o v = operate [o, v] (getItem o v) := by intro _ _; rfl) (hs' : ∀ o v, subscripted z false o v = operate [o, v] (getItem o v) := by intro _ _; rfl) : Ev prog w A env hid s.heap (.Subscript (.Subscript x y p) z p') (.int (g i.toNat j.toNat)) := by
  obtain ⟨_, _, vs, c, e, r⟩ := S.own _ (.head _)
  obtain ⟨us, c', e', r'⟩ := own_row S (i := i.toNat) (by omega)
  refine Ev.itemOwn (Ev.itemOwn (d := .raw (.ref (rs i.toNat))) ex e r ey hi0 (by omega) ?_ hs) e' r' ez hj0 (by omega) (rowL_get (by omega)) hs'
  rw [List.getElem?_map, List.getElem?_range (by omega)]; rfl

theorem Ev.cellN {P : Addr} {rs : Nat → Addr} {n : Nat} {g : Mat} (S : Stt hid hb σ s env oc (ownG P rs n g) ρ) {i j : Nat} {v : Int} {p p' : Pos} (hn : n < 1000) (hi : i < n) (hj : j < n) (hval : g i j = v) (ex : Ev prog w A env hid s.heap x (.raw (.ref P))) (ey : Ev prog w A env hid s.heap y (.int i)) (ez : Ev prog w A env hid s.heap z (.int j))
    (hs : ∀ o v, subscripted y false o v = operate [o, v] (getItem o v) := by intro _ _; rfl) (hs' : ∀ o v, subscripted z false o v = operate [o, v] (getItem o v) := by intro _ _; rfl) : Ev prog w A env hid s.heap (.Subscript (.Subscript x y p) z p') (.int v) :=
  hval ▸ Ev.cellOwn S hn (by omega) (by omega) (by omega) (by omega) ex ey ez hs hs'

theorem st_setCell {P : Addr} {rs : Nat → Addr} {n : Nat} {g : Mat} {i j : Int} {v : Int} {p p' : Pos} {Q : Flow → Shared → Prop} (S : Stt hid hb σ s env oc (ownG P rs n g) ρ) (inj : ∀ i j, i < n → j < n → rs i = rs j → i = j) (hne : ∀ i, i < n → rs i ≠ P) (hn : n < 1000) (hi0 : 0 ≤ i) (hi : i < n) (hj0 : 0 ≤ j) (hj : j < n)
    (ev : Ev prog w A env hid s.heap e (.int v)) (ex : Ev prog w A env hid s.heap x (.raw (.ref P))) (ey : Ev prog w A env hid s.heap y (.int i)) (ez : Ev prog w A env hid s.heap z (.int j))
    (k : ∀ s', Stt hid hb σ s' env oc (ownG P rs n (upd2 g i.toNat j.toNat v)) ρ → Q .next s')
    (hs : swapsWith e (some (.Subscript (.Subscript x y p) z p')) pos.line env = pure false := by rfl) (hs' : ∀ o v, subscripted y false o v = operate [o, v] (getItem o v) := by intro _ _; rfl) :
    wpAny (model prog w) A (exec (.Assign [.Subscript (.Subscript x y p) z p'] e pos) env) Q E s := by
  obtain ⟨_, _, vs, c, e, r⟩ := S.own _ (.head _)
  have hi' : i.toNat < n := by omega
  let rest : List (Addr × Ob) := (P, .lst ((List.range n).map fun i => D.raw (.ref (rs i)))) :: ((List.range n).filter (fun m => decide (m ≠ i.toNat))).map fun i => (rs i, .lst (rowL n g i))
  have S₁ : Stt hid hb σ s env oc ((rs i.toNat, .lst (rowL n g i.toNat)) :: rest) ρ := S.perm fun q hq => by
    rcases List.mem_cons.mp hq with rfl | hq
    · exact mem_row hi'
    · rcases List.mem_cons.mp hq with rfl | hq
      · exact .head _
      · obtain ⟨m, hm, rfl⟩ := List.mem_map.mp hq
        exact mem_row (List.mem_range.mp (List.mem_filter.mp hm).1)
  refine st_setItem S₁ (fun q hq => ?_) ev (Ev.itemOwn (d := .raw (.ref (rs i.toNat))) ex e r ey hi0 (by omega) ?_ hs') ez hj0 (by omega) ?_ (fun s' S' => k s' (S'.perm fun q hq => ?_)) hs
  · rcases List.mem_cons.mp hq with rfl | hq
    · exact (hne _ hi').symm
    · obtain ⟨m, hm, rfl⟩ := List.mem_map.mp hq
      obtain ⟨h1, h2⟩ := List.mem_filter.mp hm
      intro z
      exact (of_decide_eq_true h2) (inj _ _ (List.mem_range.mp h1) hi' z)
  · rw [List.getElem?_map, List.getElem?_range (by omega)]; rfl
  · unfold rowL; rw [List.length_map, List.length_range]; exact hj
  · rcases List.mem_cons.mp hq with rfl | hq
    · exact .tail _ (.head _)
    · obtain ⟨m, hm, rfl⟩ := List.mem_map.mp hq
      by_cases q : m = i.toNat
      · subst q
        have e : rowL n (upd2 g i.toNat j.toNat v) i.toNat = (rowL n g i.toNat).set j.toNat (.int v) := by
          apply List.ext_getElem?
          intro t
          rw [List.getElem?_set]
          by_cases ht : t < n
          · rw [rowL_get ht]
            by_cases hjt : j.toNat = t
            · rw [if_pos hjt, if_pos (by unfold rowL; simp; omega)]
              simp [upd2, hjt]
            · rw [if_neg hjt, rowL_get ht]
              simp [upd2, Ne.symm hjt]
          · have h1 : (rowL n (upd2 g i.toNat j.toNat v) i.toNat)[t]? = none := by unfold rowL; simp; omega
            have h2 : (rowL n g i.toNat)[t]? = none := by unfold rowL; simp; omega
            rw [h1, if_neg (by omega), h2]
        rw [e]
        exact .head _
      · have e : rowL n (upd2 g i.toNat j.toNat v) m = rowL n g m := by
          unfold rowL
          refine List.map_congr_left fun t _ => ?_
          simp [upd2, q]
        rw [e]
        exact .tail _ (.tail _ (List.mem_map_of_mem (f := fun i => (rs i, Ob.lst (rowL n g i))) (List.mem_filter.mpr ⟨hm, decide_eq_true q⟩)))
theorem st_setCellN {P : Addr} {rs : Nat → Addr} {n : Nat} {g g' : Mat} {i j : Nat} {v : Int} {p p' : Pos} {Q : Flow → Shared → Prop} (S : Stt hid hb σ s env oc (ownG P rs n g) ρ) (inj : ∀ i j, i < n → j < n → rs i = rs j → i = j) (hne : ∀ i, i < n → rs i ≠ P) (hn : n < 1000) (hi : i < n) (hj : j < n)
    (hg : g' = upd2 g i j v) (ev : Ev prog w A env hid s.heap e (.int v)) (ex : Ev prog w A env hid s.heap x (.raw (.ref P))) (ey : Ev prog w A env hid s.heap y (.int i)) (ez : Ev prog w A env hid s.heap z (.int j))
    (k : ∀ s', Stt hid hb σ s' env oc (ownG P rs n g') ρ → Q .next s')
    (hs : swapsWith e (some (.Subscript (.Subscript x y p) z p')) pos.line env = pure false := by rfl) (hs' : ∀ o v, subscripted y false o v = operate [o, v] (getItem o v) := by intro _ _; rfl) :
    wpAny (model prog w) A (exec (.Assign [.Subscript (.Subscript x y p) z p'] e pos) env) Q E s :=
  st_setCell S inj hne hn (by omega) (by omega) (by omega) (by omega) ev ex ey ez (fun s' S' => k s' (hg ▸ S')) hs hs'
end
end Mine
end

-- Fw18
section
namespace Mine
open PySem PySem.Calls PySem.Spec PyProof.Rows

section
variable {prog : Program} {w : World} {A : Around} {env : Env} {hid hid' : List Addr} {s s₂ : Shared} {E : Value → Shared → Prop} {h : Heap}
theorem comp_blockJ {elt target iter : Expr} {scope : Scope} {cl : List (Str × Addr)} {pos : Pos} {n : Nat} {ds : Nat → D} {ro : Nat → List D} {ρc : Str → Option D} {bind : Nat → (Str → Option D) → (Str → Option D)}
    {I : Addr} {oI : Obj} {St : Nat → Heap → Prop} {RR : Value → Addr → Result → Shared → Prop}
    (lv : Live hid s.heap) (ks : Ks s s₂) (hI : s.heap.get? I = none) (hoI : s₂.heap.get? I = some oI) (R : Src prog w A (I :: hid) s₂ I target n ds St) (h0 : St 0 s₂.heap)
    (few : n ≤ sizeLine) (kind : scope.kind = .function) (nodup : (scope.names.map (·.1)).Nodup) (free : ∀ x d, ρc x = some d → (x, NameKind.free) ∈ scope.names ∧ ∃ c v, cl.lookup x = some c ∧ s.heap.IsCell c (some v) ∧ Has hid s.heap v d)
    (old : ∀ x c, cl.lookup x = some c → ∃ o, s.heap.get? c = some o) (back : ∀ i x d, ρc x = some d → bind i ρc x = some d) (aim : ∀ C i, i < n → Aim prog w A (cenvN scope env cl C) (cocN scope C) target (ds i) (bind i))
    (eltJ : ∀ i, i < n → ∀ C hid' h', (∀ a ∈ hid, a ∈ hid') → Live hid' h' → Kept s.heap h' → Fm hid' h' (cenvN scope env cl C) (cocN scope C) (bind i ρc) → ∀ (s₁ : Shared) (Q : Value → Shared → Prop) (E : Value → Shared → Prop), Kept h' s₁.heap →
      (∀ r us c s', Ks s₁ s' → s₁.heap.get? r = none → r ∉ hid' → s'.heap.get? r = some (lobj us c) → HasAll hid' s'.heap us (ro i) → Q (.ref r) s') → wpAny (model prog w) A (eval elt (cenvN scope env cl C)) Q E s₁)
    (hRR : ∀ D C vs c s', Ks s s' → s.heap.get? C = none → (∃ m, s'.heap.Ns C m) → D ≠ C → s.heap.get? D = none → s'.heap.get? D = some (lobj vs c) → vs.Nodup → vs.length = n →
      (∀ m v, vs[m]? = some v → ∃ r us c, v = .ref r ∧ r ≠ D ∧ r ≠ C ∧ r ∉ hid ∧ s.heap.get? r = none ∧ s'.heap.get? r = some (lobj us c) ∧ HasAll (C :: hid) s'.heap us (ro m)) → RR (.ref D) C (.ok .next) s') :
    wpAny (model prog w) A (newList []) (fun acc s₃ => wpAny (model prog w) A (newFunctionEnv scope env.globals cl [] env.qual none .none (some env)) (fun cenv s₄ =>
      codeAny (model prog w) A (.compStart (.ListComp elt [⟨target, iter, [], 0⟩] scope pos) 0 (.ref I) acc { cenv with scope := relabel scope env }) (RR acc cenv.locals) s₄) E s₃) E s₂ := by
  refine wpAny_newObj_type (newCompEnv fun h₁ hk₁ hns hcl hap => ?_)
  dsimp only at hk₁ hns hcl hap ⊢
  generalize hH : s₂.heap.push { cls := .type "list", data := .seq ([] : List Value).toArray } = H at hk₁ hns hcl hap ⊢
  have hHs : H.objs.size = s₂.heap.objs.size + 1 := by rw [← hH, Heap.size_push]
  have hD₁ : h₁.get? s₂.heap.objs.size = some (lobj [] 0) := hk₁ _ _ (hH ▸ Heap.get?_push_size _ rfl)
  have up : Kept s₂.heap h₁ := fun b o e => hk₁ _ _ (hH ▸ Heap.get?_push_of_some _ e)
  have upS : Kept s.heap h₁ := fun b o e => up b o (ks.kept b o e)
  have noneS : ∀ a, s₂.heap.objs.size ≤ a → s.heap.get? a = none := fun a ha => by
    cases q : s.heap.get? a with
    | none => rfl
    | some o => exact absurd (Heap.lt_size (ks.kept _ _ q)) (Nat.not_lt.mpr ha)
  have hDC : s₂.heap.objs.size ≠ H.objs.size := by omega
  generalize hC : H.objs.size = C at hns hcl hap hDC hHs ⊢
  have hCn : s.heap.get? C = none := noneS C (by omega)
  have hcn : ∀ q ∈ cocN scope C, s.heap.get? q.2 = none := fun q hq => noneS _ (by have := (hcl q.1 q.2 hq).2; omega)
  -- what is hidden within
  let hidC : List Addr := C :: ((cocN scope C).map (·.2) ++ (s₂.heap.objs.size :: I :: hid))
  have hsub : ∀ a ∈ hid, a ∈ hidC := fun a ha => .tail _ (List.mem_append.mpr (.inr (.tail _ (.tail _ ha))))
  have hfresh : ∀ a ∈ hidC, a ∈ hid ∨ s.heap.get? a = none := fun a ha => by
    rcases List.mem_cons.mp ha with rfl | ha
    · exact .inr hCn
    · rcases List.mem_append.mp ha with ha | ha
      · obtain ⟨q, hq, rfl⟩ := List.mem_map.mp ha
        exact .inr (hcn q hq)
      · rcases List.mem_cons.mp ha with rfl | ha
        · exact .inr (noneS _ (Nat.le_refl _))
        · rcases List.mem_cons.mp ha with rfl | ha
          · exact .inr hI
          · exact .inl ha
  have hfresh₂ : ∀ a ∈ hidC, a ∈ I :: hid ∨ s₂.heap.get? a = none := fun a ha => by
    rcases List.mem_cons.mp ha with rfl | ha
    · exact .inr (get_ge (by omega))
    · rcases List.mem_append.mp ha with ha | ha
      · obtain ⟨q, hq, rfl⟩ := List.mem_map.mp ha
        exact .inr (get_ge (by have := (hcl q.1 q.2 hq).2; omega))
      · rcases List.mem_cons.mp ha with rfl | ha
        · exact .inr (get_size _)
        · exact .inl ha
  have hnc : ((cocN scope C).map (·.1)).Nodup := cellsFrom_nodup scope.names _ [] nodup .nil (fun _ q => nomatch q)
  have hFm : Fm hidC h₁ (cenvN scope env cl C) (cocN scope C) ρc := by
    refine ⟨kind, .head _, fun q hq => ?_, ⟨_, hns, fun x d hx hd => ?_⟩, fun x d hx hd => ?_⟩
    · have hm := mem_cells (x := q.1) (c := q.2) hq
      refine ⟨?_, ?_, .tail _ (List.mem_append.mpr (.inl (List.mem_map_of_mem hq))), ⟨none, (hcl q.1 q.2 hq).1⟩, fun y hy hl => ?_⟩
      · exact (lookup_relabel (lookup_nodup nodup hm)).trans rfl
      · show (cocN scope C ++ cl).lookup q.1 = _
        rw [lookup_append, lookup_nodup hnc hq]
      · have hl' : (cocN scope C ++ cl).lookup y = some q.2 := hl
        rw [lookup_append] at hl'
        cases e : (cocN scope C).lookup y with
        | some c =>
          rw [e] at hl'
          cases hl'
          exact hy (name_of_addr hap (mem_of_lookup e) hq)
        | none =>
          rw [e] at hl'
          obtain ⟨o, ho⟩ := old y q.2 hl'
          rw [hcn q hq] at ho; cases ho
    · exfalso
      have h1 := lookup_nodup nodup (free x d hd).1
      have h2 := (lookup_relabel (env := env) h1).symm.trans hx
      split at h2 <;> cases h2
    · obtain ⟨hm, c, v, hc, hcell, hv⟩ := free x d hd
      refine ⟨c, v, ?_, hcell.keeps upS, (hv.fresh hfresh).keep upS⟩
      show (cocN scope C ++ cl).lookup x = _
      rw [lookup_append]
      cases e : (cocN scope C).lookup x with
      | some c' =>
        have h1 := lookup_nodup nodup (mem_cells (mem_of_lookup e))
        rw [lookup_nodup nodup hm] at h1; cases h1
      | none => exact hc
  have hlive : Live hidC h₁ := fun a ha => by
    rcases List.mem_cons.mp ha with rfl | ha
    · obtain ⟨o, _, _, e, _⟩ := hns; exact ⟨o, e⟩
    · rcases List.mem_append.mp ha with ha | ha
      · obtain ⟨q, hq, rfl⟩ := List.mem_map.mp ha
        obtain ⟨o, e, _⟩ := (hcl q.1 q.2 hq).1; exact ⟨o, e⟩
      · rcases List.mem_cons.mp ha with rfl | ha
        · exact ⟨_, hD₁⟩
        · rcases List.mem_cons.mp ha with rfl | ha
          · exact ⟨_, up _ _ hoI⟩
          · obtain ⟨o, e⟩ := lv a ha; exact ⟨o, upS _ _ e⟩
  have hDh : s₂.heap.objs.size ∈ hidC := .tail _ (List.mem_append.mpr (.inr (.head _)))
  have hIh : I ∈ hidC := .tail _ (List.mem_append.mpr (.inr (.tail _ (.head _))))
  have S₀ : Stt hidC s.heap.get? s { s₂ with heap := h₁ } (cenvN scope env cl C) (cocN scope C) [(s₂.heap.objs.size, .lst [])] ρc := by
    refine ⟨by rw [ks.same], upS, fun b hb => ?_, hlive, hFm, fun q hq => ?_, fun q hq => by cases List.mem_singleton.mp hq; exact hDC⟩
    · rcases hb with rfl | ⟨q, hq, rfl⟩
      · exact hCn
      · exact hcn q hq
    · cases List.mem_singleton.mp hq
      exact ⟨hDh, noneS _ (Nat.le_refl _), [], 0, hD₁, .nil⟩
  have hIC : ∀ {h : Heap} {o : Obj}, h.get? I = some o → True := fun _ => trivial
  let Jv : Nat → List Value → Heap → Prop := fun i vs h => vs.Nodup ∧ vs.length = i ∧ ∀ m v, vs[m]? = some v → ∃ r us c, v = .ref r ∧ r ∉ hidC ∧ s.heap.get? r = none ∧ h.get? r = some (lobj us c) ∧ HasAll hidC h us (ro m)
  have jkeep : ∀ {i vs h h'}, KeptBut hidC h h' → Jv i vs h → Jv i vs h' := fun {i vs h h'} k ⟨a, b, c⟩ => ⟨a, b, fun m v e => let ⟨r, us, c', e1, e2, e3, e4, e5⟩ := c m v e; ⟨r, us, c', e1, e2, e3, k _ _ e2 e4, e5.keepBut k⟩⟩
  have loop : codeAny (model prog w) A (.compLoop (.ListComp elt [⟨target, iter, [], 0⟩] scope pos) 0 (.ref I) (.ref s₂.heap.objs.size) (cenvN scope env cl C)) (RR (.ref s₂.heap.objs.size) C) { s₂ with heap := h₁ } := by
    refine compLoop_any (fun k s' => ∃ i vs, i ≤ n ∧ k = n + 1 - i ∧ Jv i vs s'.heap ∧ Stt hidC s.heap.get? s s' (cenvN scope env cl C) (cocN scope C) [(s₂.heap.objs.size, .lst (vs.map D.raw))] ρc ∧ St i s'.heap ∧ KeptBut (I :: hid) s₂.heap s'.heap) ?_ (n + 1)
      ⟨0, [], Nat.zero_le _, rfl, ⟨.nil, rfl, fun _ _ q => nomatch q⟩, S₀, R.frame _ _ _ h0 (fun o e => up _ _ e) (fun b o _ e => up b o e), fun b o _ e => up b o e⟩
    rintro k s' ⟨i, vs, hi, rfl, hJ, S', hSt, hK⟩
    obtain ⟨oN, heN, hN1, hN2, hN3⟩ := R.obj i _ hSt
    by_cases hlt : i < n
    · refine R.item i s' _ _ hlt hSt hK fun v h₂ tk₂ hv hSt₂ hk₂ => ?_
      obtain ⟨oN', heN', hM1, hM2, hM3⟩ := R.obj (i + 1) _ hSt₂
      have S₂ : Stt hidC s.heap.get? s { s' with heap := h₂, toks := tk₂ } (cenvN scope env cl C) (cocN scope C) [(s₂.heap.objs.size, .lst (vs.map D.raw))] ρc := S'.but hIh heN hN1 hN2 hN3 hI ⟨_, heN'⟩ hk₂
      have kb₂ : KeptBut (I :: hid) s'.heap h₂ := fun b o hb e => hk₂ b o (fun q => hb (q ▸ .head _)) e
      have hK₂ : KeptBut (I :: hid) s₂.heap h₂ := fun b o hb e => kb₂ b o hb (hK b o hb e)
      have hv₂ : Has hidC h₂ v (ds i) := hv.mono hK₂ (fun a o hna e hm => (hfresh₂ a hm).elim hna fun q => by rw [q] at e; cases e)
      have hIbase : baseOf { s' with heap := h₂, toks := tk₂ } (cenvN scope env cl C) (cocN scope C) [(s₂.heap.objs.size, .lst (vs.map D.raw))] I = some oN' := by
        unfold baseOf
        rw [if_neg]
        · exact heN'
        · rintro (q | ⟨q', hq, q⟩ | ⟨q', hq, q⟩)
          · obtain ⟨m, ⟨o', es, ep, e', hd', _⟩, _⟩ := S₂.fm.loc
            rw [← q, heN'] at e'; cases e'; exact hM1 _ _ hd'
          · obtain ⟨_, _, _, ⟨v', o', e', hd'⟩, _⟩ := S₂.fm.cell q' hq
            rw [q, heN'] at e'; cases e'; exact hM2 _ hd'
          · cases List.mem_singleton.mp hq
            obtain ⟨_, _, vs', m, e', _⟩ := S₂.own _ (.head _)
            simp only at q e'
            rw [q, heN'] at e'; cases e'; exact hM3 _ _ rfl
      have base₂ : ∀ b o, b ∉ I :: hid → s₂.heap.get? b = some o → baseOf { s' with heap := h₂, toks := tk₂ } (cenvN scope env cl C) (cocN scope C) [(s₂.heap.objs.size, .lst (vs.map D.raw))] b = some o := fun b o hb e =>
        S₂.base_hid (fun hm => (hfresh₂ b hm).elim hb fun q => by rw [q] at e; cases e) (hK₂ b o hb e)
      refine R.lets (i + 1) { s' with heap := h₂, toks := tk₂ } v _ _ hSt₂ ?_
      refine aim C i hlt hidC _ s _ _ ρc v _ _ S₂.rebase hv₂ fun s₃ S₃ k₃ => ?_
      refine wpAny_tests_nil ?_
      simp only [if_true]
      have kC₂ : KeptBut hidC s'.heap h₂ := fun b o hb e => hk₂ b o (fun q => hb (q ▸ hIh)) e
      have kC₃ : KeptBut hidC h₂ s₃.heap := fun b o hb e => S₃.kept b o (S₂.base_hid hb e)
      refine eltJ i hlt C hidC s₃.heap hsub S₃.live (fun b o e => S₃.kept b o (S₂.base_of e)) S₃.fm s₃ _ _ (fun _ _ e => e) fun r us c s₅ k₅ hr0 hrC hr hus => ?_
      have S₅ := S₃.keep k₅
      have hJ₅ : Jv i vs s₅.heap := jkeep (fun b o _ e => k₅.kept b o e) (jkeep kC₃ (jkeep kC₂ hJ))
      have hJ₃ : Jv i vs s₃.heap := jkeep kC₃ (jkeep kC₂ hJ)
      have hJ₆ : Jv (i + 1) (vs ++ [.ref r]) s₅.heap := by
        obtain ⟨a, b, c'⟩ := hJ₅
        refine ⟨?_, by simp [b], fun m v e => ?_⟩
        · rw [List.nodup_append]
          refine ⟨a, by simp, fun x hx y hy => ?_⟩
          cases List.mem_singleton.mp hy
          obtain ⟨m, hm⟩ := List.getElem?_of_mem hx
          obtain ⟨r', us', c1, e1, _, _, e4, _⟩ := hJ₃.2.2 m x hm
          intro q
          rw [q] at e1; cases e1
          rw [hr0] at e4; cases e4
        · by_cases hm : m < vs.length
          · rw [List.getElem?_append_left hm] at e
            exact c' m v e
          · rw [List.getElem?_append_right (by omega)] at e
            have : m = i := by
              rcases Nat.eq_or_lt_of_not_lt hm with q | q
              · omega
              · rw [List.getElem?_eq_none (by simp; omega)] at e; cases e
            subst this
            rw [b, Nat.sub_self] at e
            cases e
            refine ⟨r, us, c, rfl, hrC, ?_, hr, hus⟩
            cases q : s.heap.get? r with
            | none => rfl
            | some o =>
              have := S₃.kept r o (S₂.base_of q)
              rw [hr0] at this; cases this
      refine S₅.append (fun _ q => nomatch q) (.raw _) ?_ fun s₆ S₆ k₆ => ?_
      · rw [List.length_map, hJ.2.1]
        exact Nat.le_trans (Nat.le_of_lt hlt) few
      · refine ⟨n + 1 - (i + 1), by omega, i + 1, vs ++ [.ref r], hlt, rfl, jkeep k₆ hJ₆, ?_, ?_, fun b o hb e => S₆.kept b o (base₂ b o hb e)⟩
        · have e : (vs ++ [Value.ref r]).map D.raw = vs.map D.raw ++ [D.raw (.ref r)] := by simp
          rw [e]
          exact (S₂.debase S₆).weaken (back i)
        · exact R.frame _ _ _ hSt₂ (fun o e => by rw [heN'] at e; cases e; exact S₆.kept I _ hIbase) fun b o hb e => S₆.kept b o (base₂ b o hb e)
    · have hin : i = n := by omega
      subst hin
      refine R.done s' _ _ hSt hK fun h₂ tk₂ hk₂ => ?_
      obtain ⟨m, hm, _⟩ := S'.fm.loc
      have hIC : C ≠ I := fun q => by
        obtain ⟨o', es, ep, e', hd', _⟩ := hm
        have e'' : s'.heap.get? C = some o' := e'
        rw [q, heN] at e''; cases e''; exact hN1 _ _ hd'
      obtain ⟨_, _, vs', c, eD, hvs⟩ := S'.own _ (.head _)
      have hvs' : vs' = vs := by have := hasAll_raw (f := id) (by simpa using hvs); simpa using this
      subst hvs'
      have hDI : s₂.heap.objs.size ≠ I := fun q => by
        simp only at eD
        rw [q, heN] at eD; cases eD; exact hN3 _ _ rfl
      have hJe := jkeep (h' := h₂) (fun b o hb e => hk₂ b o (fun q => hb (q ▸ hIh)) e) hJ
      refine hRR _ C vs' c { s' with heap := h₂, toks := tk₂ } ⟨by rw [S'.same], fun b o e => hk₂ b o (fun q => by rw [q, hI] at e; cases e) (S'.kept b o e)⟩ hCn ⟨m, hm.at' fun o e => hk₂ _ o hIC e⟩ hDC (noneS _ (Nat.le_refl _)) (hk₂ _ _ hDI eD) hJe.1 hJe.2.1 fun m' v e => ?_
      obtain ⟨r, us, c', e1, e2, e3, e4, e5⟩ := hJe.2.2 m' v e
      exact ⟨r, us, c', e1, fun q => e2 (q ▸ hDh), fun q => e2 (q ▸ .head _), fun q => e2 (hsub _ q), e3, e4, e5.weak fun a m => (List.mem_cons.mp m).elim (fun q => q ▸ .head _) (hsub a)⟩
  exact codeAny_compStart_list loop (R.self 0 _ _ _ (R.frame _ _ _ h0 (fun o e => up _ _ e) (fun b o _ e => up b o e)) loop)

/-- the rows of a new list, each new -/
def EvRows (prog : Program) (w : World) (A : Around) (env : Env) (hid : List Addr) (h : Heap) (e : Expr) (n : Nat) (ro : Nat → List D) : Prop :=
  ∀ (s : Shared) (Q : Value → Shared → Prop) (E : Value → Shared → Prop), Kept h s.heap →
    (∀ (P : Addr) (rs : Nat → Addr) (s' : Shared), Ks s s' → s.heap.get? P = none → (∃ c, s'.heap.get? P = some (lobj ((List.range n).map fun i => .ref (rs i)) c)) → (∀ i j, i < n → j < n → rs i = rs j → i = j) →
      (∀ i, i < n → rs i ≠ P ∧ s.heap.get? (rs i) = none ∧ ∃ us c, s'.heap.get? (rs i) = some (lobj us c) ∧ HasAll hid s'.heap us (ro i)) → Q (.ref P) s') → wpAny (model prog w) A (eval e env) Q E s

theorem EvRows.comp {v : Str} {vp : Pos} {elt iter : Expr} {scope : Scope} {pos : Pos} {n : Nat} {ds : Nat → D} {ro : Nat → List D} (lv : Live hid h) (it : EvIt prog w A env hid h iter (.Name v vp) n ds) (hclos : closureFor scope env = pure [])
    (few : n ≤ sizeLine) (kind : scope.kind = .function) (nodup : (scope.names.map (·.1)).Nodup) (pl : ∀ C, ∃ b, Place (cenvN scope env [] C) (cocN scope C) v b)
    (eltJ : ∀ i, i < n → ∀ C hid' h', (∀ a ∈ hid, a ∈ hid') → Live hid' h' → Kept h h' → Fm hid' h' (cenvN scope env [] C) (cocN scope C) (upd (fun _ => none) v (ds i)) → ∀ (s₁ : Shared) (Q : Value → Shared → Prop) (E : Value → Shared → Prop), Kept h' s₁.heap →
      (∀ r us c s', Ks s₁ s' → s₁.heap.get? r = none → r ∉ hid' → s'.heap.get? r = some (lobj us c) → HasAll hid' s'.heap us (ro i) → Q (.ref r) s') → wpAny (model prog w) A (eval elt (cenvN scope env [] C)) Q E s₁)
    (hs : ∀ x, foldedSetIterable iter env x = pure x := by intro _; rfl) : EvRows prog w A env hid h (.ListComp elt [⟨.Name v vp, iter, [], 0⟩] scope pos) n ro := fun s Q E k hQ => by
  rw [eval_ListComp]
  refine wpAny_comprehension_free (use := none) rfl hs hclos kind (fun x hx hl => ?_) (it.mono k s _ E (fun _ _ e => e) fun s₂ I oI St ks hI hoI R h0 => ?_)
  · obtain ⟨a, b⟩ := x; cases hl; exact lookup_nodup nodup hx
  · refine comp_blockJ (RR := fun acc C => compPost (model prog w) A E none Q acc C) (ro := ro) (ρc := fun _ => none) (bind := fun i ρ => upd ρ v (ds i)) (lv.keep k) ks hI hoI R h0 few kind nodup (fun _ _ q => nomatch q) (fun _ _ q => nomatch q) (fun _ _ _ q => nomatch q) (fun C i _ => let ⟨b, hb⟩ := pl C; Aim.name hb)
      (fun i hi C hid' h' a b c d => eltJ i hi C hid' h' a b (fun x o q => c x o (k x o q)) d) fun D C vs c s' ks' hC ⟨m, hm⟩ hDC hD0 hD hnd hlen hrows => ?_
    refine ⟨m, hm, fun h'' hs'' => ?_⟩
    have up : ∀ b o, b ≠ C → s'.heap.get? b = some o → h''.get? b = some o := fun b o hb e => (hs''.2 b hb).trans e
    let rs : Nat → Addr := fun i => match vs[i]? with | some (.ref r) => r | _ => 0
    have hrs : ∀ i, i < n → vs[i]? = some (.ref (rs i)) := fun i hi => by
      have e : vs[i]? = some (vs[i]'(by omega)) := List.getElem?_eq_getElem (by omega)
      obtain ⟨r, us, c', e1, _⟩ := hrows i _ e
      rw [e1] at e
      have : rs i = r := by show (match vs[i]? with | some (.ref r) => r | _ => 0) = r; rw [e]
      rw [this]; exact e
    have hvs : vs = (List.range n).map fun i => .ref (rs i) := by
      apply List.ext_getElem?
      intro t
      by_cases ht : t < n
      · rw [hrs t ht, List.getElem?_map, List.getElem?_range ht]; rfl
      · rw [List.getElem?_eq_none (by omega), List.getElem?_eq_none (by simp; omega)]
    refine hQ D rs _ ⟨by rw [ks'.same], fun b o e => up b o (fun q => by rw [q, hC] at e; cases e) (ks'.kept b o e)⟩ hD0 ⟨c, hvs ▸ up _ _ hDC hD⟩ (fun i j hi hj q => ?_) fun i hi => ?_
    · have hi' : i < vs.length := by omega
      have hj' : j < vs.length := by omega
      refine (List.getElem_inj hnd (h₀ := hi') (h₁ := hj')).mp ?_
      have e1 := hrs i hi
      have e2 := hrs j hj
      rw [List.getElem?_eq_getElem hi'] at e1
      rw [List.getElem?_eq_getElem hj'] at e2
      rw [Option.some.inj e1, Option.some.inj e2, q]
    · obtain ⟨r, us, c', e1, e2, e3, e4, e5, e6, e7⟩ := hrows i _ (hrs i hi)
      cases e1
      refine ⟨e2, e5, us, c', up _ _ e3 e6, ?_⟩
      exact (e7.keepBut (h' := h'') fun b o hb e => up b o (fun q => hb (q ▸ .head _)) e).weak fun _ m => .tail _ m
end
end Mine
end

-- Fw19
section
namespace Mine
open PySem PySem.Calls PySem.Spec PyProof.Rows

section
variable {prog : Program} {w : World} {A : Around} {env : Env} {hid hid' : List Addr} {hb : Addr → Option Obj} {σ s s' : Shared} {oc : List (Str × Addr)} {ow ow' : List (Addr × Ob)} {ρ ρ' : Str → Option D} {E : Value → Shared → Prop} {h h' : Heap}
  {e l r x y z : Expr} {d a b c : D} {ds es : List D} {pos : Pos}

theorem Fm.butL {W : Addr → Prop} (F : Fm hid h env oc ρ) (hW : ∀ a, W a → a ∈ hid ∧ ∃ o, h.get? a = some o ∧ (∀ es ep, o.data ≠ .dict es ep) ∧ (∀ v, o.data ≠ .cell v)) (k : ∀ b o, ¬ W b → h.get? b = some o → h'.get? b = some o) : Fm hid h' env oc ρ := by
  have kb : KeptBut hid h h' := fun b o' hb e => k b o' (fun q => hb (hW b q).1) e
  have cc : ∀ c v, h.IsCell c v → h'.IsCell c v := fun c v ⟨o', e, q⟩ => ⟨o', k c o' (fun z => by
    obtain ⟨_, o, ho, _, hc⟩ := hW c z
    rw [ho] at e; cases e; exact hc _ q) e, q⟩
  refine ⟨F.kind, F.lhid, fun p hp => ?_, ?_, fun x d hx hd' => ?_⟩
  · obtain ⟨a1, b1, c1, ⟨v, d1⟩, e1⟩ := F.cell p hp
    exact ⟨a1, b1, c1, ⟨v, cc _ _ d1⟩, e1⟩
  · obtain ⟨m, ⟨o', es, ep, e, q, r⟩, hm⟩ := F.loc
    refine ⟨m, ⟨o', es, ep, k _ _ (fun z => ?_) e, q, r⟩, fun x d hx hd' => ?_⟩
    · obtain ⟨_, o, ho, hd, _⟩ := hW _ z
      rw [ho] at e; cases e; exact hd _ _ q
    · obtain ⟨v, e', hv⟩ := hm x d hx hd'
      exact ⟨v, e', hv.keepBut kb⟩
  · obtain ⟨c, v, e, hv, hh⟩ := F.cel x d hx hd'
    exact ⟨c, v, e, cc _ _ hv, hh.keepBut kb⟩

/-- a call has turned what it was lent -/
theorem Stt.after {W : Addr → Prop} (S : Stt hid hb σ s env oc ow ρ) (hs : s' = { s with heap := s'.heap, toks := s'.toks }) (hW : ∀ a, W a → ∃ p ∈ ow, p.1 = a) (k : ∀ b o, ¬ W b → s.heap.get? b = some o → s'.heap.get? b = some o)
    (hsub : ∀ p ∈ ow, W p.1 → ∃ q ∈ ow', q.1 = p.1) (how' : ∀ p ∈ ow', p.1 ≠ env.locals) (hnd : ∀ p ∈ ow, W p.1 → ∃ l, p.2 = .lst l) (ho : ∀ p ∈ ow', p.1 ∈ hid ∧ hb p.1 = none ∧ p.2.ok hid s'.heap p.1) : Stt hid hb σ s' env oc ow' ρ := by
  have hlst : ∀ p ∈ ow, W p.1 → ∃ vs n, s.heap.get? p.1 = some (lobj vs n) := fun p hp hwp => by
    obtain ⟨_, _, c⟩ := S.own p hp
    obtain ⟨p1, p2⟩ := p
    cases p2 with
    | lst l => obtain ⟨vs, n, e, _⟩ := c; exact ⟨vs, n, e⟩
    | dct prog' w' ys => obtain ⟨l, e⟩ := hnd _ hp hwp; cases e
  refine ⟨?_, fun b o e => k b o (fun q => ?_) (S.kept b o e), S.off, fun b hb => ?_, S.fm.butL (W := W) (fun a q => ?_) k, ho, fun p hp => ?_⟩
  · have := S.same
    rw [this] at hs
    exact hs
  · obtain ⟨p, hp, rfl⟩ := hW b q
    rw [(S.own p hp).2.1] at e; cases e
  · by_cases q : W b
    · obtain ⟨p, hp, rfl⟩ := hW b q
      obtain ⟨q', hq', e⟩ := hsub p hp q
      obtain ⟨_, _, c⟩ := ho q' hq'
      obtain ⟨q1, q2⟩ := q'
      cases q2 with
      | lst l => obtain ⟨vs, n, e', _⟩ := c; exact ⟨_, e ▸ e'⟩
      | dct prog' w' ys => obtain ⟨⟨o1, es, ep, e1, _⟩, _⟩ := c; exact ⟨_, e ▸ e1⟩
    · obtain ⟨o, e⟩ := S.live b hb
      exact ⟨o, k b o q e⟩
  · obtain ⟨p, hp, rfl⟩ := hW a q
    obtain ⟨vs, n, e⟩ := hlst p hp q
    exact ⟨(S.own p hp).1, _, e, ⟨fun _ _ q => (nomatch q), fun _ q => (nomatch q)⟩⟩
  · exact how' p hp

theorem wpAny_assign_Sub {M : Model} {o i : Expr} {p : Pos} {v : Value} {Q : Unit → Shared → Prop} (h : wpAny M A (eval o env) (fun ov s₂ => wpAny M A (eval i env) (fun iv s₃ => wpAny M A (setItem ov iv v) Q E s₃) E s₂) E s) : wpAny M A (assign (.Subscript o i p) env v) Q E s := fun Γ p hΓ => by
  simp only [assign_Subscript, Sem.wp_bind', Sem.wp_holding, Sem.wp_cmd_standAt, Sem.wp_release, Sem.wp_pure']
  exact Sem.wp_mono M Γ _ (fun ov p₂ s₂ h₂ => Sem.wp_mono M Γ _ (fun iv _ s₃ h₃ => h₃ Γ _ hΓ) (fun _ _ _ h' => h') _ _ (h₂ Γ p₂ hΓ)) (fun _ _ _ h' => h') _ _ (h Γ _ hΓ)

/-- a call that stands alone -/
theorem st_callX {x : Str} {np pos epos : Pos} {f : Addr} {o : Obj} {fd : FuncData} {Q : Flow → Shared → Prop} (S : Stt hid hb σ s env oc ow ρ) (hs : Sees prog w A env s.heap x (.ref f)) (ho : s.heap.get? f = some o) (hd : o.data = .func fd) {es : List Expr} (xs : EvL prog w A env hid s.heap (e :: es) ds)
    (k : ∀ vs s', Stt hid hb σ s' env oc ow ρ → HasAll hid s'.heap vs ds → wpAny (model prog w) A (call (.ref f) vs) (fun v s₂ => (match v with | .ref _ => False | _ => Q .next s₂)) E s')
    (he : plain e = true := by rfl) (hi : interactive env = false := by rfl) (hs' : swapsWith (.Call (.Name x np) (e :: es) [] pos) none epos.line env = pure false := by rfl) :
    wpAny (model prog w) A (exec (.Expr (.Call (.Name x np) (e :: es) [] pos) epos) env) Q E s :=
  wpAny_Expr (Call_ (hs s np _ E (fun _ _ q => q) (callWith_def hd (xs pos s _ E (fun _ _ q => q) fun vs s₁ k₁ hvs => ⟨k₁.kept _ _ ho, k vs s₁ (S.keep k₁) hvs⟩) (starEach_plain he)))) hi hs'

/-- the rows of an owned list change places -/
theorem st_swap {x1 x2 x3 x4 n1 n2 n3 n4 : Expr} {P : Addr} {rs : Nat → Addr} {n : Nat} {g : Mat} {i j : Nat} {p1 p2 p3 p4 tp tp' : Pos} {kk kk'} {Q : Flow → Shared → Prop} (hh : A.handled = none) (S : Stt hid hb σ s env oc (ownG P rs n g) ρ) (hne : ∀ i, i < n → rs i ≠ P) (hn : n < 1000) (hi : i < n) (hj : j < n)
    (f1 : ∀ {s' ow'}, Stt hid hb σ s' env oc ow' ρ → Ev prog w A env hid s'.heap x1 (.raw (.ref P))) (f2 : ∀ {s' ow'}, Stt hid hb σ s' env oc ow' ρ → Ev prog w A env hid s'.heap x2 (.raw (.ref P))) (f3 : Ev prog w A env hid s.heap x3 (.raw (.ref P))) (f4 : Ev prog w A env hid s.heap x4 (.raw (.ref P)))
    (e1 : ∀ {s' ow'}, Stt hid hb σ s' env oc ow' ρ → Ev prog w A env hid s'.heap n1 (.int i)) (e2 : ∀ {s' ow'}, Stt hid hb σ s' env oc ow' ρ → Ev prog w A env hid s'.heap n2 (.int j)) (e3 : Ev prog w A env hid s.heap n3 (.int j)) (e4 : Ev prog w A env hid s.heap n4 (.int i))
    (k : ∀ s', Stt hid hb σ s' env oc (ownG P (fun m => rs (if m = i then j else if m = j then i else m)) n (fun a b => g (if a = i then j else if a = j then i else a) b)) ρ → Q .next s')
    (h1 : ∀ o v, subscripted n3 false o v = operate [o, v] (getItem o v) := by intro _ _; rfl) (h2 : ∀ o v, subscripted n4 false o v = operate [o, v] (getItem o v) := by intro _ _; rfl)
    (hs : swapsWithSole [.Tuple [.Subscript x1 n1 p1, .Subscript x2 n2 p2] kk tp] (.Tuple [.Subscript x3 n3 p3, .Subscript x4 n4 p4] kk' tp') pos.line env = pure false := by rfl) (hw : swappedStores [.Tuple [.Subscript x1 n1 p1, .Subscript x2 n2 p2] kk tp] (.Tuple [.Subscript x3 n3 p3, .Subscript x4 n4 p4] kk' tp') env = pure none := by rfl) :
    wpAny (model prog w) A (exec (.Assign [.Tuple [.Subscript x1 n1 p1, .Subscript x2 n2 p2] kk tp] (.Tuple [.Subscript x3 n3 p3, .Subscript x4 n4 p4] kk' tp') pos) env) Q E s := by
  obtain ⟨_, _, vs, c, e, r⟩ := S.own _ (.head _)
  have gi : ∀ {m : Nat}, m < n → ((List.range n).map fun i => D.raw (.ref (rs i)))[(m : Int).toNat]? = some (.raw (.ref (rs m))) := fun {m} hm => by
    rw [show (m : Int).toNat = m by omega, List.getElem?_map, List.getElem?_range hm]; rfl
  refine Assign_Tuple ((Ev.tuple S.live (EvL.cons (Ev.itemOwn (d := .raw (.ref (rs j))) f3 e r e3 (by omega) (by omega) (gi hj) h1) (EvL.cons (Ev.itemOwn (d := .raw (.ref (rs i))) f4 e r e4 (by omega) (by omega) (gi hi) h2) EvL.nil))) s _ E (fun _ _ q => q) fun v s₁ k₁ hv => ?_) hs hw
  cases hv with
  | tup hn' e' hs' => cases hs' with
    | cons q1 hs' => cases hs' with
      | cons q2 hs' => cases hs' with
        | nil => cases q1 with
          | raw _ => cases q2 with
            | raw _ =>
              refine wpAny_assign_Tuple hh (tobj_isTuple e') rfl rfl fun h' kh => ?_
              have ks : Ks s₁ { s₁ with heap := h' } := Ks.heap fun b o e => kh b o (Nat.ne_of_lt (Heap.lt_size e)) e
              have S₁ := (S.keep k₁).keep ks
              have hrest : ∀ p ∈ (List.range n).map (fun i => (rs i, Ob.lst (rowL n g i))), p.1 ≠ P := fun p hp => by
                obtain ⟨m, hm, rfl⟩ := List.mem_map.mp hp
                exact hne m (List.mem_range.mp hm)
              have stepF : ∀ {s₂ : Shared} {L : List D} {x nx : Expr} {m : Nat} {u : Addr} {p : Pos} {Q' : Unit → Shared → Prop}, Stt hid hb σ s₂ env oc ((P, .lst L) :: (List.range n).map fun i => (rs i, Ob.lst (rowL n g i))) ρ → m < L.length → m < 1000 → Ev prog w A env hid s₂.heap x (.raw (.ref P)) → Ev prog w A env hid s₂.heap nx (.int m) →
                  (∀ s₃, Stt hid hb σ s₃ env oc ((P, .lst (L.set m (.raw (.ref u)))) :: (List.range n).map fun i => (rs i, Ob.lst (rowL n g i))) ρ → Q' () s₃) → wpAny (model prog w) A (assign (.Subscript x nx p) env (.ref u)) Q' E s₂ := fun {s₂ L x nx m u p Q'} S₂ hm hm' ex en kk =>
                wpAny_assign_Sub (ex s₂ _ E (fun _ _ q => q) fun o s₃ k₃ ho => en s₃ _ E k₃.kept fun iv s₄ k₄ hiv => by
                  cases ho with
                  | raw _ => cases hiv with
                    | int _ t => exact ((S₂.keep k₃).keep k₄).setItem hrest (.raw _) (by omega) (by omega) (by omega) fun s' S' _ => kk s' (by rw [show (m : Int).toNat = m by omega] at S'; exact S'))
              refine wpAny_assignInOrder_more (stepF S₁ (by simpa using hi) (by omega) (f1 S₁) (e1 S₁) fun s₂ S₂ => ?_)
              refine wpAny_assignInOrder_more (stepF S₂ (by simpa using hj) (by omega) (f2 S₂) (e2 S₂) fun s₃ S₃ => ?_)
              refine wpAny_assignInOrder_none (k _ (S₃.perm fun q hq => ?_))
              rcases List.mem_cons.mp hq with rfl | hq
              · have : (List.range n).map (fun m => D.raw (.ref (rs (if m = i then j else if m = j then i else m)))) = (((List.range n).map fun i => D.raw (.ref (rs i))).set i (.raw (.ref (rs j)))).set j (.raw (.ref (rs i))) := by
                  apply List.ext_getElem?
                  intro t
                  by_cases ht : t < n
                  · rw [List.getElem?_map, List.getElem?_range ht, List.getElem?_set, List.getElem?_set, List.getElem?_map, List.getElem?_range ht]
                    simp only [List.length_set, List.length_map, List.length_range, Option.map_some]
                    by_cases hji : j = t
                    · subst hji
                      by_cases hij : j = i
                      · subst hij; simp [ht]
                      · simp [hij, ht]
                    · by_cases hit : i = t
                      · subst hit; simp [ht, hji]
                      · simp [ht, hji, hit, Ne.symm hji, Ne.symm hit]
                  · rw [List.getElem?_eq_none (by simp; omega), List.getElem?_eq_none (by simp; omega)]
                rw [this]
                exact .head _
              · obtain ⟨m, hm, rfl⟩ := List.mem_map.mp hq
                refine .tail _ ?_
                have hm' := List.mem_range.mp hm
                have hlt : (if m = i then j else if m = j then i else m) < n := by
                  by_cases c1 : m = i
                  · rw [if_pos c1]; exact hj
                  · rw [if_neg c1]
                    by_cases c2 : m = j
                    · rw [if_pos c2]; exact hi
                    · rw [if_neg c2]; exact hm'
                exact List.mem_map.mpr ⟨if m = i then j else if m = j then i else m, List.mem_range.mpr hlt, rfl⟩
end
end Mine
end

-- Fw20
section
namespace Mine
open PySem PySem.Calls PySem.Spec PyProof.Rows

section
variable {prog : Program} {w : World} {A : Around} {env : Env} {hid hid' : List Addr} {hb hb' : Addr → Option Obj} {σ s s' : Shared} {oc : List (Str × Addr)} {ow : List (Addr × Ob)} {ρ : Str → Option D}
  {E : Value → Shared → Prop}
/-- a loop over a source that is laid -/
theorem st_forM {target iter : Expr} {body : List Stmt} {pos : Pos} {n : Nat} {ds : Nat → D} {Q : Flow → Shared → Prop}
    (S : Stt hid hb σ s env oc ow ρ) (it : EvIt prog w A env hid s.heap iter target n ds)
    (Inv : Nat → (Str → Option D) → List (Addr × Ob) → Prop) (adr : ∀ i ρ' ow', Inv i ρ' ow' → ∀ a ∈ ow'.map (·.1), a ∈ ow.map (·.1)) (i0 : Inv 0 ρ ow) (Rt : D → Prop) (bind : Nat → (Str → Option D) → (Str → Option D)) (aim : ∀ i, i < n → Aim prog w A env oc target (ds i) (bind i))
    (turn : ∀ i I (hb' : Addr → Option Obj) (s' : Shared) (ρ' : Str → Option D) (ow' : List (Addr × Ob)) (E : Value → Shared → Prop), i < n → Inv i ρ' ow' → (∀ b o, hb b = some o → hb' b = some o) → Stt (I :: hid) hb' σ s' env oc ow' (bind i ρ') →
      wpAny (model prog w) A (execs body env) (fun f s₂ => ∃ ρ₂ ow₂, Stt (I :: hid) hb' σ s₂ env oc ow₂ ρ₂ ∧ match f with | .next | .cont => Inv (i + 1) ρ₂ ow₂ | .brk => False | .ret v => (∀ a ∈ ow₂.map (·.1), a ∈ ow.map (·.1)) ∧ ∃ d, Has (I :: hid) s₂.heap v d ∧ Rt d) E s')
    (done : ∀ s' ρ' ow', Inv n ρ' ow' → Stt hid hb σ s' env oc ow' ρ' → Q .next s')
    (ret : ∀ v d s' ρ' ow', Rt d → Has hid s'.heap v d → Stt hid hb σ s' env oc ow' ρ' → Q (.ret v) s')
    (hs : ∀ x, foldedSetIterable iter env x = pure x := by intro _; rfl) :
    wpAny (model prog w) A (exec (.For target iter body [] pos) env) Q E s := by
  refine wpAny_For (it s _ E (fun _ _ e => e) fun s₁ I oI St k₁ hI hoI R h0 => ?_) hs
  have S₁ : Stt (I :: hid) hb σ s₁ env oc ow ρ := by
    have := S.hide (h' := s₁.heap) hI hoI k₁.kept
    have e : ({ s with heap := s₁.heap } : Shared) = { s₁ with toks := s.toks } := by rw [k₁.same]
    rw [e] at this
    exact this.keep (s' := s₁) ⟨rfl, fun _ _ e => e⟩
  have hIb : hb I = none := by
    cases q : hb I with
    | none => rfl
    | some o => rw [S.kept I o q] at hI; cases hI
  have back : ∀ {s' ρ'} {ow' : List (Addr × Ob)}, (∀ a ∈ ow'.map (·.1), a ∈ ow.map (·.1)) → Stt (I :: hid) hb σ s' env oc ow' ρ' → Stt hid hb σ s' env oc ow' ρ' := fun {s' ρ' ow'} ha S' => S'.unhide S.fm.lhid (fun p hp => (S.fm.cell p hp).2.2.1) fun p hp => by
    have : p.1 ∈ ow.map (·.1) := ha _ (List.mem_map_of_mem (f := fun p : Addr × Ob => p.1) hp)
    obtain ⟨q, hq, e⟩ := List.mem_map.mp this
    exact e ▸ (S.own q hq).1
  refine codeAny_forLoop_any (fun k s' => ∃ i ρ' ow', i ≤ n ∧ k = n + 1 - i ∧ Stt (I :: hid) hb σ s' env oc ow' ρ' ∧ Inv i ρ' ow' ∧ St i s'.heap ∧ KeptBut (I :: hid) s₁.heap s'.heap) ?_ (n + 1)
    ⟨0, ρ, ow, Nat.zero_le _, rfl, S₁, i0, h0, fun _ _ _ e => e⟩
  rintro k s' ⟨i, ρ', ow', hi, rfl, S', hInv, hSt, hK⟩
  obtain ⟨oN, heN, hN1, hN2, hN3⟩ := R.obj i _ hSt
  by_cases hlt : i < n
  · refine R.item i s' _ _ hlt hSt hK fun v h₂ tk₂ hv hSt₂ hk₂ => ?_
    obtain ⟨oN', heN', _⟩ := R.obj (i + 1) _ hSt₂
    have S₂ : Stt (I :: hid) hb σ { s' with heap := h₂, toks := tk₂ } env oc ow' ρ' := S'.but (.head _) heN hN1 hN2 hN3 hIb ⟨_, heN'⟩ hk₂
    have kb₂ : KeptBut (I :: hid) s'.heap h₂ := fun b o hb e => hk₂ b o (fun q => hb (q ▸ .head _)) e
    refine R.lets (i + 1) { s' with heap := h₂, toks := tk₂ } v _ _ hSt₂ ?_
    refine aim i hlt (I :: hid) _ σ _ ow' ρ' v _ _ S₂.rebase ((hv.keepBut hK).keepBut kb₂) fun s₃ S₃ k₃ => ?_
    refine wpAny_mono (turn i I _ s₃ ρ' ow' _ hlt hInv (fun b o e => S₂.base_of e) S₃) (fun f s₄ hf => ?_) fun _ _ e => e
    obtain ⟨ρ₂, ow₂, S₄, hm⟩ := hf
    have S₅ := S₂.debase S₄
    have hIbase : baseOf { s' with heap := h₂, toks := tk₂ } env oc ow' I = some oN' := by
      obtain ⟨oN2, heN2, hN1', hN2', hN3'⟩ := R.obj (i + 1) _ hSt₂
      rw [heN'] at heN2; cases heN2
      unfold baseOf
      rw [if_neg]
      · exact heN'
      · rintro (q | ⟨p, hp, q⟩ | ⟨p, hp, q⟩)
        · obtain ⟨m, ⟨o', es, ep, e', hd', _⟩, _⟩ := S₂.fm.loc
          rw [← q, heN'] at e'; cases e'; exact hN1' _ _ hd'
        · obtain ⟨_, _, _, ⟨v', o', e', hd'⟩, _⟩ := S₂.fm.cell p hp
          rw [q, heN'] at e'; cases e'; exact hN2' _ hd'
        · obtain ⟨_, _, c⟩ := S₂.own p hp
          obtain ⟨p1, p2⟩ := p
          cases p2 with
          | lst l =>
            obtain ⟨vs, m, e', _⟩ := c
            simp only at q e'
            rw [q, heN'] at e'; cases e'; exact hN3' _ _ rfl
          | dct prog' w' ys =>
            obtain ⟨⟨o1, es, ep, e1, _, e3, _⟩, _⟩ := c
            simp only at q
            rw [q, heN'] at e1; cases e1; exact hN1' _ _ e3
    have kb₄ : KeptBut (I :: hid) h₂ s₄.heap := fun b o hb e => S₄.kept b o (S₂.base_hid hb e)
    have hSt₄ : St (i + 1) s₄.heap := R.frame _ _ _ hSt₂ (fun o e => by rw [heN'] at e; cases e; exact S₄.kept I _ hIbase) (fun b o hb e => kb₄ b o hb (kb₂ b o hb (hK b o hb e)))
    have nxt : Inv (i + 1) ρ₂ ow₂ → ∃ m, m < n + 1 - i ∧ ∃ i ρ' ow', i ≤ n ∧ m = n + 1 - i ∧ Stt (I :: hid) hb σ s₄ env oc ow' ρ' ∧ Inv i ρ' ow' ∧ St i s₄.heap ∧ KeptBut (I :: hid) s₁.heap s₄.heap := fun hm =>
      ⟨n + 1 - (i + 1), by omega, i + 1, ρ₂, ow₂, hlt, rfl, S₅, hm, hSt₄, fun b o hb e => kb₄ b o hb (kb₂ b o hb (hK b o hb e))⟩
    cases f with
    | next => exact nxt hm
    | cont => exact nxt hm
    | brk => exact hm.elim
    | ret v =>
      obtain ⟨ha, d, hd, hr⟩ := hm
      exact ret v d s₄ ρ₂ ow₂ hr (hd.weak fun _ m => .tail _ m) (back ha S₅)
  · have hin : i = n := by omega
    subst hin
    refine R.done s' _ _ hSt hK fun h₂ tk₂ hk₂ => ?_
    refine wpAny_execs_nil (done _ ρ' ow' hInv (S'.drop (S.live.fresh hI) heN hN1 hN2 hN3 hIb hk₂ fun p hp => ?_))
    have : p.1 ∈ ow.map (·.1) := adr _ _ _ hInv _ (List.mem_map_of_mem (f := fun p : Addr × Ob => p.1) hp)
    obtain ⟨q, hq, e⟩ := List.mem_map.mp this
    exact e ▸ (S.own q hq).1

theorem st_ifJ {test : Expr} {body : List Stmt} {pos : Pos} {b : Bool} {Q : Flow → Shared → Prop} (S : Stt hid hb σ s env oc ow ρ) (ht : Tr prog w A env s.heap test b) (J : Shared → Prop)
    (kt : b = true → ∀ s', Stt hid hb σ s' env oc ow ρ → wpAny (model prog w) A (execs body env) (fun f s₂ => f = .next ∧ J s₂) E s') (kf : b = false → ∀ s', Stt hid hb σ s' env oc ow ρ → J s') (k : ∀ s', J s' → Q .next s') : wpAny (model prog w) A (exec (.If test body [] pos) env) Q E s :=
  st_if S ht fun s' S' => by
    cases b with
    | true =>
      rw [if_pos rfl]
      exact wpAny_mono (kt rfl s' S') (fun f s₂ q => by obtain ⟨rfl, j⟩ := q; exact k s₂ j) fun _ _ q => q
    | false =>
      rw [if_neg Bool.false_ne_true]
      exact wpAny_execs_nil (k s' (kf rfl s' S'))

theorem Stt.hideL {L : List Addr} (S : Stt hid hb σ s env oc ow ρ) (hL : ∀ a ∈ L, s.heap.get? a = none) (ho : ∀ a ∈ L, ∃ o, s'.heap.get? a = some o) (k : Ks s s') : Stt (L ++ hid) hb σ s' env oc ow ρ := by
  have nn : ∀ a o, a ∉ hid → s.heap.get? a = some o → a ∉ L ++ hid := fun a o n e m => by
    rcases List.mem_append.mp m with m | m
    · rw [hL a m] at e; cases e
    · exact n m
  refine ⟨?_, fun b o e => k.kept b o (S.kept b o e), S.off, fun b hb => ?_, S.fm.mono (fun _ m => List.mem_append.mpr (.inr m)) nn k.kept, fun p hp => ?_, S.ownl⟩
  · have := k.same; rw [S.same] at this; exact this
  · rcases List.mem_append.mp hb with m | m
    · exact ho b m
    · obtain ⟨o, e⟩ := S.live b m; exact ⟨o, k.kept _ _ e⟩
  · obtain ⟨a, b, c⟩ := S.own p hp
    exact ⟨List.mem_append.mpr (.inr a), b, c.mono (fun o e => k.kept _ o e) (fun b o _ e => k.kept b o e) nn⟩

theorem hasAll_ints {α : Type} {f : α → Int} {h h' : Heap} : ∀ {L : List α} {us : List Value}, HasAll hid h us (L.map fun i => D.int (f i)) → HasAll hid' h' us (L.map fun i => D.int (f i))
  | [], _, .nil => .nil
  | i :: L, _, .cons x r => by
    cases x with
    | int _ t => exact .cons (.int _ _) (hasAll_ints r)

/-- three names, the first for a new list of new rows -/
theorem st_own3 {x y z : Str} {px py pz tp tp' pos : Pos} {kk kk'} {e e2 e3 : Expr} {n : Nat} {g : Mat} {i1 i2 : Int} {Q : Flow → Shared → Prop} (hh : A.handled = none) (S : Stt hid hb σ s env oc [] ρ) (he : EvRows prog w A env hid s.heap e n (fun i => rowL n g i))
    (he2 : ∀ hid h, Ev prog w A env hid h e2 (.int i1)) (he3 : ∀ hid h, Ev prog w A env hid h e3 (.int i2)) (hx : env.kindOf x = some .local) (hy : env.kindOf y = some .local) (hz : env.kindOf z = some .local)
    (k : ∀ P rs s', (∀ i j, i < n → j < n → rs i = rs j → i = j) → (∀ i, i < n → rs i ≠ P) → (∀ a ∈ P :: (List.range n).map rs, a ∉ hid) → Stt ((P :: (List.range n).map rs) ++ hid) hb σ s' env oc (ownG P rs n g) (upd (upd (upd ρ z (.int i2)) y (.int i1)) x (.raw (.ref P))) → Q .next s')
    (hp1 : plain e = true := by rfl) (hp2 : plain e2 = true := by rfl) (hp3 : plain e3 = true := by rfl)
    (hs : swapsWithSole [.Tuple [.Name x px, .Name y py, .Name z pz] kk tp] (.Tuple [e, e2, e3] kk' tp') pos.line env = pure false := by rfl) (hw : swappedStores [.Tuple [.Name x px, .Name y py, .Name z pz] kk tp] (.Tuple [e, e2, e3] kk' tp') env = pure (some [x, y, z]) := by rfl) :
    wpAny (model prog w) A (exec (.Assign [.Tuple [.Name x px, .Name y py, .Name z pz] kk tp] (.Tuple [e, e2, e3] kk' tp') pos) env) Q E s := by
  refine Assign_Tuple_swapped (wpAny_Tuple_spliced (args_cons (he s _ E (fun _ _ q => q) fun P rs s₁ k₁ hP0 hP inj hrs => args_cons (he2 ((P :: (List.range n).map rs) ++ hid) s₁.heap s₁ _ E (fun _ _ q => q) fun v2 s₂ k₂ hv2 => args_cons (he3 ((P :: (List.range n).map rs) ++ hid) s₂.heap s₂ _ E (fun _ _ q => q) fun v3 s₃ k₃ hv3 => args_nil ⟨by show (3 : Nat) ≤ _; decide, ?_⟩) (starEach_plain hp3)) (starEach_plain hp2)) (starEach_plain hp1))) hs hw
  have hL : ∀ a ∈ P :: (List.range n).map rs, s.heap.get? a = none := fun a m => by
    rcases List.mem_cons.mp m with rfl | m
    · exact hP0
    · obtain ⟨i, hi, rfl⟩ := List.mem_map.mp m
      exact (hrs i (List.mem_range.mp hi)).2.1
  have hO : ∀ a ∈ P :: (List.range n).map rs, ∃ o, s₁.heap.get? a = some o := fun a m => by
    rcases List.mem_cons.mp m with rfl | m
    · obtain ⟨c, e⟩ := hP; exact ⟨_, e⟩
    · obtain ⟨i, hi, rfl⟩ := List.mem_map.mp m
      obtain ⟨_, _, us, c, e, _⟩ := hrs i (List.mem_range.mp hi)
      exact ⟨_, e⟩
  have S₁ := S.hideL hL hO k₁
  have hbn : ∀ a ∈ P :: (List.range n).map rs, hb a = none := fun a m => by
    cases q : hb a with
    | none => rfl
    | some o => have := S.kept a o q; rw [hL a m] at this; cases this
  have S₂ : Stt ((P :: (List.range n).map rs) ++ hid) hb σ s₁ env oc (ownG P rs n g) ρ := by
    have hnl : ∀ a ∈ P :: (List.range n).map rs, a ≠ env.locals := fun a m q => by
      have := hL a m
      obtain ⟨o, e⟩ := S.live _ S.fm.lhid
      rw [q, e] at this; cases this
    refine ⟨S₁.same, S₁.kept, S₁.off, S₁.live, S₁.fm, fun p hp => ?_, fun p hp => ?_⟩
    rotate_left
    · rcases List.mem_cons.mp hp with rfl | hp
      · exact hnl _ (.head _)
      · obtain ⟨i, hi, rfl⟩ := List.mem_map.mp hp
        exact hnl _ (.tail _ (List.mem_map_of_mem (f := rs) hi))
    rcases List.mem_cons.mp hp with rfl | hp
    · obtain ⟨c, e⟩ := hP
      exact ⟨.head _, hbn _ (.head _), _, c, e, hasAll_of fun i _ => .raw _⟩
    · obtain ⟨i, hi, rfl⟩ := List.mem_map.mp hp
      obtain ⟨_, _, us, c, e, r⟩ := hrs i (List.mem_range.mp hi)
      have hm : rs i ∈ P :: (List.range n).map rs := .tail _ (List.mem_map_of_mem (f := rs) hi)
      exact ⟨List.mem_append.mpr (.inl hm), hbn _ hm, us, c, e, hasAll_ints r⟩
  have S₃ := ((S₂.keep k₂).keep k₃).keep (Ks.push { cls := .type "tuple", data := .seq [Value.ref P, v2, v3].toArray })
  have hh2 := (hv2.keep k₃.kept).keep (Ks.push (s := s₃) { cls := .type "tuple", data := .seq [Value.ref P, v2, v3].toArray }).kept
  have hh3 := hv3.keep (Ks.push (s := s₃) { cls := .type "tuple", data := .seq [Value.ref P, v2, v3].toArray }).kept
  refine unpackN hh (Heap.get?_push_size s₃.heap (o := tobj [Value.ref P, v2, v3] 0) rfl) rfl fun h' kh => ?_
  have S₄ := S₃.keep (Ks.heap kh)
  have hk2 := hh2.keep kh
  have hk3 := hh3.keep kh
  show wpAny _ A (assignInOrder [fun v => bindName env z v, fun v => bindName env y v, fun v => bindName env x v] [_, _, _]) _ _ _
  refine wpAny_assignInOrder_more (wpAny_bindName (S₄.store (.inl ⟨hz, rfl⟩) hk3 fun s₅ S₅ k₅ => ?_))
  refine wpAny_assignInOrder_more (wpAny_bindName (S₅.store (.inl ⟨hy, rfl⟩) (hk2.keepBut k₅) fun s₆ S₆ k₆ => ?_))
  refine wpAny_assignInOrder_more (wpAny_bindName (S₆.store (.inl ⟨hx, rfl⟩) (.raw (.ref P)) fun s₇ S₇ k₇ => ?_))
  refine wpAny_assignInOrder_none (k P rs _ inj (fun i hi => (hrs i hi).1) (fun a m q => ?_) S₇)
  obtain ⟨o, e⟩ := S.live a q
  rw [hL a m] at e; cases e
theorem ev_newList {x : Str} {np pos : Pos} {e : Expr} {ds : List D} {h : Heap} (lv : Live hid h) (hs : Sees prog w A env h x (.type "list")) (he : Ev prog w A env hid h e (.lst ds)) (hz : ds.length ≤ sizeLine) (s : Shared) (Q : Value → Shared → Prop) (E : Value → Shared → Prop) (k : Kept h s.heap)
    (hQ : ∀ r us c s', Ks s s' → s.heap.get? r = none → r ∉ hid → s'.heap.get? r = some (lobj us c) → HasAll hid s'.heap us ds → Q (.ref r) s') (hp : plain e = true := by rfl) : wpAny (model prog w) A (eval (.Call (.Name x np) [e] [] pos) env) Q E s := by
  refine Call_ (hs s np _ E k (callWith_type1 (args_cons (he s _ E k fun v s₄ k₄ hv => args_nil ?_) (starEach_plain hp)) (starEach_plain hp) rfl))
  cases hv with
  | @lst a us m _ hn' e r =>
    refine call_list_seq a (T := "list") (.inl rfl) e rfl rfl (fun h'' c' hk' hg' => ?_) (by rw [List.size_toArray, r.length]; exact hz)
    have hsz : s.heap.get? s₄.heap.objs.size = none := by
      cases q : s.heap.get? s₄.heap.objs.size with
      | none => rfl
      | some o => exact absurd (Heap.lt_size (k₄.kept _ _ q)) (Nat.lt_irrefl _)
    exact hQ _ us c' _ (k₄.trans (Ks.heap hk')) hsz (Live.fresh (lv.keep fun b o q => k₄.kept b o (k b o q)) (get_size _)) hg' (r.keep hk')
end
end Mine
end

-- Pr0
section
namespace Mine
open PySem PySem.W PySem.Calls PySem.Spec PyProof.Rows

def recOf : Stmt → DefRec
  | .FunctionDef name args body _ _ _ scope _ _ pos => ⟨name, args, body, scope, pos⟩
  | _ => ⟨"", ⟨[], [], none, [], [], none, []⟩, [], ⟨.function, [], false, false, []⟩, ⟨0, 0, 0, 0⟩⟩
def dr (i : Nat) : DefRec := recOf ((PySem.Challenge.pw_tg0003_01.main.body)[i]?.getD (.Pass ⟨0, 0, 0, 0⟩))

abbrev Tp (mean : ExcName → Option Value) (mg mb : Str → Option Value) (h : Heap) : Prop := Top Mine.hd.view_39 (looseW Mine.hd.view_39 []) mean mg mb h


theorem mem_of_at {α : Type} {l : List α} {i : Nat} {a : α} (h : l[i]? = some a) : a ∈ l := List.mem_of_getElem? h
set_option maxHeartbeats 4000000 in
theorem rec_in : recsOf Mine.hd.view_39 = [dr 3, dr 4, dr 5, dr 6, dr 8, dr 9, dr 11, dr 13, dr 14, dr 15, dr 16, dr 17] := by
  kernel_rfl
end Mine
end

-- Pr1
section
namespace Mine
open PySem PySem.W PySem.Calls PySem.Spec PyProof.Rows

theorem noneNames (x : Str) (hx : (!startupNames.contains x && !(looseW Mine.hd.view_39 []).contains x && !((recsOf Mine.hd.view_39).map (·.name)).contains x && !((litsOf Mine.hd.view_39).map (·.1)).contains x && !((clssOf Mine.hd.view_39 (looseW Mine.hd.view_39 [])).map (·.name)).contains x) = true)
    {mean : ExcName → Option Value} {mg mb : Str → Option Value} {h : Heap} (T : Tp mean mg mb h) : mg x = none := by
  simp only [Bool.and_eq_true, Bool.not_eq_true', List.contains_eq_mem, decide_eq_false_iff_not] at hx
  exact T.free x hx.1.1.1.1 hx.1.1.1.2 hx.1.1.2 hx.1.2 hx.2
section
variable {mean : ExcName → Option Value} {mg mb : Str → Option Value} {h : Heap}
theorem mg_range (T : Tp mean mg mb h) : mg (Str.ofString "range") = none := noneNames _ (by decide +kernel) T
theorem mg_len (T : Tp mean mg mb h) : mg (Str.ofString "len") = none := noneNames _ (by decide +kernel) T
theorem mg_abs (T : Tp mean mg mb h) : mg (Str.ofString "abs") = none := noneNames _ (by decide +kernel) T
theorem mg_sum (T : Tp mean mg mb h) : mg (Str.ofString "sum") = none := noneNames _ (by decide +kernel) T
theorem mg_int (T : Tp mean mg mb h) : mg (Str.ofString "int") = none := noneNames _ (by decide +kernel) T
theorem mg_list (T : Tp mean mg mb h) : mg (Str.ofString "list") = none := noneNames _ (by decide +kernel) T
theorem mg_enumerate (T : Tp mean mg mb h) : mg (Str.ofString "enumerate") = none := noneNames _ (by decide +kernel) T
theorem mb_range (T : Tp mean mg mb h) : mb (Str.ofString "range") = some (.type "range") := (T.builtins _ (by decide +kernel)).trans (by decide +kernel)
theorem mb_len (T : Tp mean mg mb h) : mb (Str.ofString "len") = some (.builtin "len") := (T.builtins _ (by decide +kernel)).trans (by decide +kernel)
theorem mb_abs (T : Tp mean mg mb h) : mb (Str.ofString "abs") = some (.builtin "abs") := (T.builtins _ (by decide +kernel)).trans (by decide +kernel)
theorem mb_sum (T : Tp mean mg mb h) : mb (Str.ofString "sum") = some (.builtin "sum") := (T.builtins _ (by decide +kernel)).trans (by decide +kernel)
theorem mb_int (T : Tp mean mg mb h) : mb (Str.ofString "int") = some (.type "int") := (T.builtins _ (by decide +kernel)).trans (by decide +kernel)
theorem mb_list (T : Tp mean mg mb h) : mb (Str.ofString "list") = some (.type "list") := (T.builtins _ (by decide +kernel)).trans (by decide +kernel)
theorem mb_enumerate (T : Tp mean mg mb h) : mb (Str.ofString "enumerate") = some (.type "enumerate") := (T.builtins _ (by decide +kernel)).trans (by decide +kernel)
end
end Mine
end

-- Pr2
section
namespace Mine
open PySem PySem.W PySem.Calls PySem.Spec PyProof.Rows

theorem in3 : dr 3 ∈ recsOf Mine.hd.view_39 := by rw [rec_in]; exact .head _
theorem in4 : dr 4 ∈ recsOf Mine.hd.view_39 := by rw [rec_in]; exact .tail _ (.head _)
theorem in5 : dr 5 ∈ recsOf Mine.hd.view_39 := by rw [rec_in]; exact .tail _ (.tail _ (.head _))
theorem in6 : dr 6 ∈ recsOf Mine.hd.view_39 := by rw [rec_in]; exact .tail _ (.tail _ (.tail _ (.head _)))
theorem in8 : dr 8 ∈ recsOf Mine.hd.view_39 := by rw [rec_in]; exact .tail _ (.tail _ (.tail _ (.tail _ (.head _))))
theorem in9 : dr 9 ∈ recsOf Mine.hd.view_39 := by rw [rec_in]; exact .tail _ (.tail _ (.tail _ (.tail _ (.tail _ (.head _)))))
theorem in11 : dr 11 ∈ recsOf Mine.hd.view_39 := by rw [rec_in]; exact .tail _ (.tail _ (.tail _ (.tail _ (.tail _ (.tail _ (.head _))))))
theorem in13 : dr 13 ∈ recsOf Mine.hd.view_39 := by rw [rec_in]; exact .tail _ (.tail _ (.tail _ (.tail _ (.tail _ (.tail _ (.tail _ (.head _)))))))
theorem in14 : dr 14 ∈ recsOf Mine.hd.view_39 := by rw [rec_in]; exact .tail _ (.tail _ (.tail _ (.tail _ (.tail _ (.tail _ (.tail _ (.tail _ (.head _))))))))
theorem in15 : dr 15 ∈ recsOf Mine.hd.view_39 := by rw [rec_in]; exact .tail _ (.tail _ (.tail _ (.tail _ (.tail _ (.tail _ (.tail _ (.tail _ (.tail _ (.head _)))))))))
theorem in16 : dr 16 ∈ recsOf Mine.hd.view_39 := by rw [rec_in]; exact .tail _ (.tail _ (.tail _ (.tail _ (.tail _ (.tail _ (.tail _ (.tail _ (.tail _ (.tail _ (.head _))))))))))

def binStep (n : Int) (l : List Int) (k : Nat) : List Int := l ++ [(l.getD k 0 * (n - k)).fdiv (k + 1)]
def binList (n : Int) (k : Nat) : List Int := (List.range k).foldl (binStep n) [1]
theorem binList_succ (n : Int) (k : Nat) : binList n (k + 1) = binStep n (binList n k) k := by simp [binList, List.range_succ]
theorem binList_len (n : Int) : ∀ k, (binList n k).length = k + 1
  | 0 => rfl
  | k + 1 => by rw [binList_succ, binStep, List.length_append, binList_len n k]; rfl

theorem mulOk_right {a b : Int} (h : b.natAbs < 2 ^ 60) : IntMulOk a b := IntMulOk.of_right (by
  unfold Builtin.Int.intBits
  split
  · decide
  · rename_i hb
    have hb' : b.natAbs ≠ 0 := by
      intro q
      exact hb (by simpa using q)
    have := (Nat.log2_lt hb').mpr h
    omega)

section
variable {prog : Program} {w : World} {A : Around} {hid : List Addr} {h : Heap} {mean : ExcName → Option Value} {mg mb : Str → Option Value}
set_option maxHeartbeats 4000000 in
theorem ct_binomial (T : Tp mean mg mb h) {f : Addr} (hf : mg (dr 11).name = some (.ref f)) {n : Int} (h2 : 0 ≤ n) (h6 : n ≤ 100) (ok : AOk A 2) (lv : Live hid h) : Ct prog w A hid h (.ref f) [.int n] (.lst ((binList n n.toNat).map .int)) := fun s vs Q E k hv hQ => by
  cases hv with
  | cons hx hr => cases hr; cases hx with
    | int _ t =>
      refine enter (d := dr 11) (T.keeps k) in11 hf ok.room (lv.keep k) (binds := [(Str.ofString "n", .int n t)]) (bds := [(Str.ofString "n", .int n)]) (ns := [Str.ofString "n"]) (fun pm code doc => rfl) rfl (.cons (.int _ _) .nil) rfl (by decide +kernel) (by decide +kernel) (by decide +kernel) (by decide +kernel) (by decide +kernel) (fun L c s₁ E hk S => ?_) hQ
      have T₁ : Tp mean mg mb s₁.heap := (T.keeps k).keeps hk
      have ok₁ := ok.deeper (envN (dr 11) f L c)
      refine st_cons (st_ownList S (EvL.cons Ev.int EvL.nil) (.inl ⟨rfl, rfl⟩) rfl fun a s₂ ha S₂ => ?_)
      have T₂ : Tp mean mg mb s₂.heap := (T.keeps k).keeps S₂.kept
      refine st_cons (st_for S₂ (EvIt.range1 ok₁.handled (.inl ⟨_, _, rfl⟩) (Sees.builtin T₂ (mg_range T₂) (mb_range T₂) rfl rfl rfl rfl) (S₂.fm.ev rfl (.inl rfl)) (by omega) (by omega))
        (fun i ρ ow => ow = [(a, .lst ((binList n i).map .int))] ∧ ρ (Str.ofString "n") = some (.int n) ∧ ρ (Str.ofString "found") = some (.raw (.ref a)))
        (fun i ρ' ow' hi => by rw [hi.1]; rfl) ⟨rfl, rfl, rfl⟩ (fun _ => False) (fun i ρ => upd ρ (Str.ofString "k") (.int (0 + (i : Int)))) (fun i hi => Aim.name (.inl ⟨rfl, rfl⟩)) ?turn ?done ?ret)
      case turn =>
        rintro i I hb' s' ρ' ow' E' hi ⟨rfl, hρn, hρf⟩ hbb S'
        have hn' : (upd ρ' (Str.ofString "k") (.int (0 + (i : Int)))) (Str.ofString "n") = some (.int n) := hρn
        have hf' : (upd ρ' (Str.ofString "k") (.int (0 + (i : Int)))) (Str.ofString "found") = some (.raw (.ref a)) := hρf
        obtain ⟨_, _, vs, m, eo, hvs⟩ := S'.own _ (.head _)
        have hlt : i < (binList n i).length := by rw [binList_len]; omega
        refine st_cons (st_append S' (fun _ q => nomatch q) (S'.fm.ev hf' (.inl rfl))
          (Ev.bin (Ev.bin (Ev.itemOwn (S'.fm.ev hf' (.inl rfl)) eo hvs (S'.fm.ev rfl (.inl rfl)) (by omega) (by omega) (d := .int ((binList n i).getD i 0)) ?_) (Ev.bin (S'.fm.ev hn' (.inl rfl)) (S'.fm.ev rfl (.inl rfl)) Op2.sub) (Op2.mul ?_)) (Ev.bin (S'.fm.ev rfl (.inl rfl)) Ev.int Op2.add) (Op2.fdiv ?_ ?_)) ?_ fun s₃ S₃ => ?_)
        · have e : (0 + (i : Int)).toNat = i := by omega
          rw [e, List.getElem?_map, List.getElem?_eq_getElem hlt, List.getD_eq_getElem?_getD, List.getElem?_eq_getElem hlt]; rfl
        · exact mulOk_right (by omega)
        · omega
        · exact PyProof.noPylong_small (by omega)
        · rw [List.length_map, binList_len]; have := sizeLine_eq; omega
        · refine wpAny_execs_nil ⟨_, _, S₃, ?_, hn', hf'⟩
          have e : (0 + (i : Int)) = i := by omega
          rw [binList_succ, binStep, List.map_append, e]; rfl
      case done =>
        rintro s' ρ' ow' ⟨rfl, hρn, hρf⟩ S'
        refine st_cons (st_return S' (S'.fm.ev hρf (.inl rfl)) fun v s₃ S₃ hv => ?_)
        cases hv with
        | raw _ =>
          refine ⟨_, _, _, _, rfl, S₃, ?_⟩
          have := S₃.free ha
          have e : (n - 0).toNat = n.toNat := by omega
          rw [e] at this
          exact this.weak fun _ m => .tail _ (List.mem_append.mpr (.inr m))
      case ret => exact fun _ _ _ _ _ q => q.elim
end
end Mine
end

-- Pr3
section
namespace Mine
open PySem PySem.W PySem.Calls PySem.Spec PyProof.Rows

def hpk (i j : Nat) (p : Int × Int) (k : Nat) : Int × Int := (p.1 * ((i : Int) + j + k + 2), p.2 * ((i : Int) + j + k + 1))
def hpj (c i : Nat) (p : Int × Int) (j : Nat) : Int × Int := (List.range c).foldl (hpk i j) p
def hpi (b c : Nat) (p : Int × Int) (i : Nat) : Int × Int := (List.range b).foldl (hpj c i) p
def hpa (a b c : Nat) : Int × Int := (List.range a).foldl (hpi b c) (1, 1)
theorem foldl_range_succ {α : Type} (f : α → Nat → α) (x : α) (n : Nat) : (List.range (n + 1)).foldl f x = f ((List.range n).foldl f x) n := by simp [List.range_succ]

section
variable {prog : Program} {w : World} {A : Around} {hid : List Addr} {h : Heap} {mean : ExcName → Option Value} {mg mb : Str → Option Value}
set_option maxHeartbeats 8000000 in
theorem ct_heaps (T : Tp mean mg mb h) {f : Addr} (hf : mg (dr 16).name = some (.ref f)) {a b c : Nat} (ha : a ≤ 1000) (hb : b ≤ 1000) (hc : c ≤ 1000) (h0 : (hpa a b c).2 ≠ 0) (hl : (hpa a b c).2.natAbs.log2 < 9000) (ok : AOk A 2) (lv : Live hid h) :
    Ct prog w A hid h (.ref f) [.int a, .int b, .int c] (.int ((hpa a b c).1.fdiv (hpa a b c).2)) := fun s vs Q E k hv hQ => by
  cases hv with
  | cons hx hr => cases hr with
    | cons hy hr => cases hr with
      | cons hz hr => cases hr; cases hx with
        | int _ t => cases hy with
          | int _ t' => cases hz with
            | int _ t'' =>
      refine enter (d := dr 16) (T.keeps k) in16 hf ok.room (lv.keep k) (binds := [(Str.ofString "a", .int a t), (Str.ofString "b", .int b t'), (Str.ofString "c", .int c t'')]) (bds := [(Str.ofString "a", .int a), (Str.ofString "b", .int b), (Str.ofString "c", .int c)]) (ns := [Str.ofString "a", Str.ofString "b", Str.ofString "c"])
        (fun pm code doc => rfl) rfl (.cons (.int _ _) (.cons (.int _ _) (.cons (.int _ _) .nil))) rfl (by decide +kernel) (by decide +kernel) (by decide +kernel) (by decide +kernel) (by decide +kernel) (fun L cd s₁ E hk S => ?_) hQ
      have ok₁ := ok.deeper (envN (dr 16) f L cd)
      have topOf : ∀ {hh : Heap}, (∀ b o, s.heap.get? b = some o → hh.get? b = some o) → Tp mean mg mb hh := fun kk => (T.keeps k).keeps kk
      refine st_cons (st_tuple2 ok₁.handled S (Ev.tuple S.live (EvL.cons Ev.int (EvL.cons Ev.int EvL.nil))) (.inl ⟨rfl, rfl⟩) (.inl ⟨rfl, rfl⟩) fun s₂ S₂ => ?_)
      have T₂ := topOf S₂.kept
      let Iv : (Int × Int) → (Str → Option D) → List (Addr × Ob) → Prop := fun p ρ ow => ow = [] ∧ ρ (Str.ofString "a") = some (.int a) ∧ ρ (Str.ofString "b") = some (.int b) ∧ ρ (Str.ofString "c") = some (.int c) ∧ ρ (Str.ofString "top") = some (.int p.1) ∧ ρ (Str.ofString "bottom") = some (.int p.2)
      refine st_cons (st_for S₂ (EvIt.range1 ok₁.handled (.inl ⟨_, _, rfl⟩) (Sees.builtin T₂ (mg_range T₂) (mb_range T₂) rfl rfl rfl rfl) (S₂.fm.ev rfl (.inl rfl)) (by omega) (by omega))
        (fun i => Iv ((List.range i).foldl (hpi b c) (1, 1))) (fun i ρ' ow' hi => by rw [hi.1]) ⟨rfl, rfl, rfl, rfl, rfl, rfl⟩ (fun _ => False) (fun i ρ => upd ρ (Str.ofString "i") (.int (0 + (i : Int)))) (fun i hi => Aim.name (.inl ⟨rfl, rfl⟩)) ?turn ?done ?ret)
      case ret => exact fun _ _ _ _ _ q => q.elim
      case done =>
        rintro s' ρ' ow' ⟨rfl, h1, h2, h3, h4, h5⟩ S'
        have e : ((a : Int) - 0).toNat = a := by omega
        rw [e] at h4 h5
        refine st_cons (st_return S' (Ev.bin (S'.fm.ev h4 (.inl rfl)) (S'.fm.ev h5 (.inl rfl)) (Op2.fdiv h0 (PyProof.noPylong_of_log2 hl))) fun v s₃ S₃ hv => ?_)
        exact ⟨_, _, _, _, rfl, S₃, hv.weak fun _ m => .tail _ (List.mem_append.mpr (.inr m))⟩
      case turn =>
        rintro i I hb' s' ρ' ow' E' hi ⟨rfl, h1, h2, h3, h4, h5⟩ hbb S'
        have T' := topOf (fun x o e => S'.kept x o (hbb x o e))
        refine st_cons (st_for S' (EvIt.range1 ok₁.handled (.inl ⟨_, _, rfl⟩) (Sees.builtin T' (mg_range T') (mb_range T') rfl rfl rfl rfl) (S'.fm.ev (d := .int b) h2 (.inl rfl)) (by omega) (by omega))
          (fun j ρ ow => ρ (Str.ofString "i") = some (.int (0 + (i : Int))) ∧ Iv ((List.range j).foldl (hpj c i) ((List.range i).foldl (hpi b c) (1, 1))) ρ ow) (fun i ρ' ow' hi => by rw [hi.2.1]) ⟨rfl, rfl, h1, h2, h3, h4, h5⟩ (fun _ => False) (fun i ρ => upd ρ (Str.ofString "j") (.int (0 + (i : Int)))) (fun i hi => Aim.name (.inl ⟨rfl, rfl⟩)) ?turn ?done ?ret)
        case ret => exact fun _ _ _ _ _ q => q.elim
        case done =>
          rintro s' ρ' ow' ⟨_, rfl, h1, h2, h3, h4, h5⟩ S'
          have e : ((b : Int) - 0).toNat = b := by omega
          rw [e] at h4 h5
          refine wpAny_execs_nil ⟨_, _, S', rfl, h1, h2, h3, ?_, ?_⟩
          · rw [foldl_range_succ]; exact h4
          · rw [foldl_range_succ]; exact h5
        case turn =>
          rintro j J hb2 s2 ρ2 ow2 E2 hj ⟨hi2, rfl, h1, h2, h3, h4, h5⟩ hbb2 S2
          have T2 := topOf (fun x o e => S2.kept x o (hbb2 x o (hbb x o e)))
          refine st_cons (st_for S2 (EvIt.range1 ok₁.handled (.inl ⟨_, _, rfl⟩) (Sees.builtin T2 (mg_range T2) (mb_range T2) rfl rfl rfl rfl) (S2.fm.ev (d := .int c) h3 (.inl rfl)) (by omega) (by omega))
            (fun k ρ ow => ρ (Str.ofString "i") = some (.int (0 + (i : Int))) ∧ ρ (Str.ofString "j") = some (.int (0 + (j : Int))) ∧ Iv ((List.range k).foldl (hpk i j) ((List.range j).foldl (hpj c i) ((List.range i).foldl (hpi b c) (1, 1)))) ρ ow) (fun i ρ' ow' hi => by rw [hi.2.2.1]) ⟨hi2, rfl, rfl, h1, h2, h3, h4, h5⟩ (fun _ => False) (fun i ρ => upd ρ (Str.ofString "k") (.int (0 + (i : Int)))) (fun i hi => Aim.name (.inl ⟨rfl, rfl⟩)) ?turn ?done ?ret)
          case ret => exact fun _ _ _ _ _ q => q.elim
          case done =>
            rintro s' ρ' ow' ⟨hi3, _, rfl, h1, h2, h3, h4, h5⟩ S'
            have e : ((c : Int) - 0).toNat = c := by omega
            rw [e] at h4 h5
            refine wpAny_execs_nil ⟨_, _, S', hi3, rfl, h1, h2, h3, ?_, ?_⟩
            · rw [foldl_range_succ]; exact h4
            · rw [foldl_range_succ]; exact h5
          case turn =>
            rintro k K hb3 s3 ρ3 ow3 E3 hk ⟨hi3, hj3, rfl, h1, h2, h3, h4, h5⟩ hbb3 S3
            generalize hp : (List.range k).foldl (hpk i j) ((List.range j).foldl (hpj c i) ((List.range i).foldl (hpi b c) (1, 1))) = p at h4 h5
            have ei : ∀ {d}, ρ3 (Str.ofString "i") = some d → upd ρ3 (Str.ofString "k") (.int (0 + (k : Int))) (Str.ofString "i") = some d := fun e => e
            refine st_cons (st_tuple2s ok₁.handled S3 (Ev.tuple S3.live (EvL.cons (Ev.bin (S3.fm.ev (d := .int p.1) h4 (.inl rfl)) (Ev.bin (Ev.bin (Ev.bin (S3.fm.ev (d := .int (0 + (i : Int))) hi3 (.inl rfl)) (S3.fm.ev (d := .int (0 + (j : Int))) hj3 (.inl rfl)) Op2.add) (S3.fm.ev (d := .int (0 + (k : Int))) rfl (.inl rfl)) Op2.add) Ev.int Op2.add) (Op2.mul (mulOk_right (by omega)))) (EvL.cons (Ev.bin (S3.fm.ev (d := .int p.2) h5 (.inl rfl)) (Ev.bin (Ev.bin (Ev.bin (S3.fm.ev (d := .int (0 + (i : Int))) hi3 (.inl rfl)) (S3.fm.ev (d := .int (0 + (j : Int))) hj3 (.inl rfl)) Op2.add) (S3.fm.ev (d := .int (0 + (k : Int))) rfl (.inl rfl)) Op2.add) Ev.int Op2.add) (Op2.mul (mulOk_right (by omega)))) EvL.nil))) (.inl ⟨rfl, rfl⟩) (.inl ⟨rfl, rfl⟩) fun s4 S4 => ?_)
            refine wpAny_execs_nil ⟨_, _, S4, hi3, hj3, rfl, h1, h2, h3, ?_, ?_⟩
            · rw [foldl_range_succ, hp]
              show some (D.int (p.1 * (0 + (i : Int) + (0 + (j : Int)) + (0 + (k : Int)) + 2))) = some (D.int (p.1 * ((i : Int) + j + k + 2)))
              rw [show 0 + (i : Int) + (0 + (j : Int)) + (0 + (k : Int)) + 2 = (i : Int) + j + k + 2 by omega]
            · rw [foldl_range_succ, hp]
              show some (D.int (p.2 * (0 + (i : Int) + (0 + (j : Int)) + (0 + (k : Int)) + 1))) = some (D.int (p.2 * ((i : Int) + j + k + 1)))
              rw [show 0 + (i : Int) + (0 + (j : Int)) + (0 + (k : Int)) + 1 = (i : Int) + j + k + 1 by omega]
end
end Mine
end

-- Pr4
section
namespace Mine
open PySem PySem.W PySem.Calls PySem.Spec PyProof.Rows

section
variable {prog : Program} {w : World} {A : Around} {hid : List Addr} {h : Heap} {mean : ExcName → Option Value} {mg mb : Str → Option Value}
set_option maxHeartbeats 4000000 in
theorem ct_shape (T : Tp mean mg mb h) {f : Addr} (hf : mg (dr 8).name = some (.ref f)) {r : List Int} {g : List (List Int)} (h1 : g.length < 1000) (h2 : r.length < 1000) (ok : AOk A 2) (lv : Live hid h) :
    Ct prog w A hid h (.ref f) [gD (r :: g)] (.tup [.int (r :: g).length, .int r.length]) := fun s vs Q E k hv hQ => by
  cases hv with
  | cons hx hr => cases hr
                  rename_i v
                  refine enter (d := dr 8) (T.keeps k) in8 hf ok.room (lv.keep k) (binds := [(Str.ofString "a", v)]) (bds := [(Str.ofString "a", gD (r :: g))]) (ns := [Str.ofString "a"]) (fun pm code doc => rfl) rfl (.cons hx .nil) rfl (by decide +kernel) (by decide +kernel) (by decide +kernel) (by decide +kernel) (by decide +kernel) (fun L c s₁ E hk S => ?_) hQ
                  have T₁ : Tp mean mg mb s₁.heap := (T.keeps k).keeps hk
                  have hl : Sees prog w (A.deeper (envN (dr 8) f L c)) (envN (dr 8) f L c) s₁.heap (Str.ofString "len") (.builtin "len") := Sees.builtin T₁ (mg_len T₁) (mb_len T₁) rfl rfl rfl rfl
                  have ha : (bindD [(Str.ofString "a", gD (r :: g))] fun _ => none) (Str.ofString "a") = some (.lst (rD r :: g.map rD)) := rfl
                  have e1 : ((rD r :: g.map rD).length : Int) = ((r :: g).length : Nat) := by simp
                  have e2 : ((r.map D.int).length : Int) = (r.length : Nat) := by simp
                  refine st_cons (st_return S (d := .tup [.int (r :: g).length, .int r.length]) (Ev.tuple S.live (EvL.cons (Ev.callB hl (EvL.cons (S.fm.ev ha (.inl rfl)) EvL.nil) (e1 ▸ ct_len (by simp; omega))) (EvL.cons
                    (Ev.ifexp (Tr.cmp (t := true) (Ev.callB hl (EvL.cons (S.fm.ev ha (.inl rfl)) EvL.nil) (ct_len (by simp; omega))) Ev.int ?_) (fun _ => Ev.callB hl (EvL.cons (Ev.item (S.fm.ev ha (.inl rfl)) Ev.int (by decide) (by decide) (show (rD r :: g.map rD)[(0 : Int).toNat]? = some (.lst (r.map .int)) from rfl)) EvL.nil) (e2 ▸ ct_len (by simp; omega))) (fun q => by cases q)) EvL.nil))) fun v s₃ S₃ hv => ?_)
                  · have := Op2.gtI (prog := prog) (w := w) (A := A.deeper (envN (dr 8) f L c)) (hid := hidN (dr 8) L hid) (h := s₁.heap) (i := ((rD r :: g.map rD).length : Int)) (j := 0)
                    rw [decide_eq_true (by simp only [List.length_cons]; omega)] at this
                    exact this
                  · exact ⟨_, _, _, _, rfl, S₃, hv.weak fun _ m => .tail _ (List.mem_append.mpr (.inr m))⟩

def trn (g : List (List Int)) (m : Nat) : List (List Int) := (List.range m).map fun c => g.map fun r => r.getD c 0
theorem trn_eq (g : List (List Int)) (m : Nat) : gD (trn g m) = .lst (((List.range m).filter fun _ => true).map fun c => .lst (((List.range g.length).filter fun _ => true).map fun i => .int ((g.getD i []).getD c 0))) := by
  unfold gD trn
  rw [filter_true, filter_true]
  congr 1
  rw [List.map_map]
  refine List.map_congr_left fun c _ => ?_
  show rD _ = _
  rw [map_range_getD (fun r : List Int => D.int (r.getD c 0)) g []]
  simp [rD]
set_option maxHeartbeats 8000000 in
theorem ct_transposed (T : Tp mean mg mb h) {f fs : Addr} (hf : mg (dr 9).name = some (.ref f)) (hs : mg (dr 8).name = some (.ref fs)) {r : List Int} {g : List (List Int)} (h1 : g.length < 1000) (h2 : r.length < 1000) (h3 : ∀ q ∈ r :: g, q.length = r.length) (ok : AOk A 3) (lv : Live hid h) :
    Ct prog w A hid h (.ref f) [gD (r :: g)] (gD (trn (r :: g) r.length)) := fun s vs Q E k hv hQ => by
  cases hv with
  | cons hx hr => cases hr
                  rename_i v
                  refine enter (d := dr 9) (T.keeps k) in9 hf ok.room (lv.keep k) (binds := [(Str.ofString "a", v)]) (bds := [(Str.ofString "a", gD (r :: g))]) (ns := [Str.ofString "a"]) (fun pm code doc => rfl) rfl (.cons hx .nil) rfl (by decide +kernel) (by decide +kernel) (by decide +kernel) (by decide +kernel) (by decide +kernel) (fun L c s₁ E hk S => ?_) hQ
                  have T₁ : Tp mean mg mb s₁.heap := (T.keeps k).keeps hk
                  have ok₁ := ok.deeper (envN (dr 9) f L c)
                  have ha : (bindD [(Str.ofString "a", gD (r :: g))] fun _ => none) (Str.ofString "a") = some (gD (r :: g)) := rfl
                  obtain ⟨fs', os, _, _, _, hfs, hso, hsd, _⟩ := T₁.fn (dr 8) in8
                  rw [hs] at hfs; cases hfs
                  refine st_cons (st_return S (d := gD (trn (r :: g) r.length)) (trn_eq .. ▸ Ev.comp S.live (EvIt.range1 (b := r.length) ok₁.handled (.inl ⟨_, _, rfl⟩) (Sees.builtin T₁ (mg_range T₁) (mb_range T₁) rfl rfl rfl rfl)
                    (Ev.itemT (Ev.callF (Sees.global T₁ hs rfl rfl rfl) hso hsd (EvL.cons (S.fm.ev ha (.inr (.inl rfl))) EvL.nil) (ct_shape T₁ hs h1 h2 ok₁ S.live)) Ev.int (by decide) (by decide) rfl) (by omega) (by omega)) (cl := [(Str.ofString "a", L + 1)]) rfl
                    (ClOk.cpN (ClOk.cons (by decide +kernel) rfl (.inl rfl) ha .nil) S.fm (by have := sizeLine_eq; omega) rfl (by decide +kernel) rfl (fun C => ⟨C + 1, .inr (.head _)⟩) (fun i hi C hid' h' _ lv' k' F' => Ts.nil) fun i hi _ C hid' h' hsub lv' k' F' => ?_)) fun v s₃ S₃ hv => ?_)
                  · have hi' : i < r.length := by omega
                    have hc : upd (pick [(Str.ofString "a", L + 1)] (bindD [(Str.ofString "a", gD (r :: g))] fun _ => none)) (Str.ofString "column") (.int (0 + (i : Int))) (Str.ofString "column") = some (.int (0 + (i : Int))) := rfl
                    have ha' : upd (pick [(Str.ofString "a", L + 1)] (bindD [(Str.ofString "a", gD (r :: g))] fun _ => none)) (Str.ofString "column") (.int (0 + (i : Int))) (Str.ofString "a") = some (gD (r :: g)) := rfl
                    refine Ev.comp lv' (EvIt.rows ok₁.handled (.inl ⟨_, _, rfl⟩) lv' (F'.ev ha' (.inr (.inl rfl)))) (cl := [(Str.ofString "column", C + 1)]) rfl
                      (ClOk.cpN (ClOk.cons (by decide +kernel) rfl (.inl rfl) hc .nil) F' (by have := sizeLine_eq; simp only [List.length_cons]; omega) rfl (by decide +kernel) rfl (fun C => ⟨_, .inl ⟨rfl, rfl⟩⟩) (fun i hi C hid' h' _ lv' k' F' => Ts.nil) fun j hj _ C2 hid2 h2' hsub lv2 k2 F2 => ?_)
                    have hr2 : upd (pick [(Str.ofString "column", C + 1)] (upd (pick [(Str.ofString "a", L + 1)] (bindD [(Str.ofString "a", gD (r :: g))] fun _ => none)) (Str.ofString "column") (.int (0 + (i : Int))))) (Str.ofString "row") (rD ((r :: g).getD j [])) (Str.ofString "row") = some (.lst (((r :: g).getD j []).map .int)) := rfl
                    have hc2 : upd (pick [(Str.ofString "column", C + 1)] (upd (pick [(Str.ofString "a", L + 1)] (bindD [(Str.ofString "a", gD (r :: g))] fun _ => none)) (Str.ofString "column") (.int (0 + (i : Int))))) (Str.ofString "row") (rD ((r :: g).getD j [])) (Str.ofString "column") = some (.int (0 + (i : Int))) := rfl
                    refine Ev.item (F2.ev hr2 (.inl rfl)) (F2.ev hc2 (.inr (.inl rfl))) (by omega) (by omega) ?_
                    have e0 : (0 + (i : Int)).toNat = i := by omega
                    rw [e0]
                    refine rD_get ?_
                    have := h3 ((r :: g).getD j []) (by rw [List.getD_eq_getElem?_getD, List.getElem?_eq_getElem hj]; exact List.getElem_mem hj)
                    omega
                  · exact ⟨_, _, _, _, rfl, S₃, hv.weak fun _ m => .tail _ (List.mem_append.mpr (.inr m))⟩
end
end Mine
end

-- Pr5
section
namespace Mine
open PySem PySem.W PySem.Calls PySem.Spec PyProof.Rows

def mnrow (r : List Int) (c : Int) : List Int := ((List.range r.length).filter fun j : Nat => ((j : Int) != c)).map fun j => r.getD j 0
def mnr (g : List (List Int)) (r c : Int) : List (List Int) := ((List.range g.length).filter fun i : Nat => ((i : Int) != r)).map fun i => mnrow (g.getD i []) c
section
variable {prog : Program} {w : World} {A : Around} {hid : List Addr} {h : Heap} {mean : ExcName → Option Value} {mg mb : Str → Option Value}
theorem mnr_eq (g : List (List Int)) (r c : Int) : gD (mnr g r c) = .lst (((List.range g.length).filter fun i : Nat => ((i : Int) != r)).map fun i => .lst (((List.range (g.getD i []).length).filter fun j : Nat => ((j : Int) != c)).map fun j => .int ((g.getD i []).getD j 0))) := by
  unfold gD mnr
  rw [List.map_map]
  congr 1
  refine List.map_congr_left fun i _ => ?_
  show rD _ = _
  unfold rD mnrow
  rw [List.map_map]
  rfl
set_option maxHeartbeats 8000000 in
theorem ct_minor (T : Tp mean mg mb h) {f : Addr} (hf : mg (dr 6).name = some (.ref f)) {g : List (List Int)} {r c : Int} (h1 : g.length < 1000) (h3 : ∀ q ∈ g, q.length < 1000) (ok : AOk A 3) (lv : Live hid h) :
    Ct prog w A hid h (.ref f) [gD g, .int r, .int c] (gD (mnr g r c)) := fun s vs Q E k hv hQ => by
  cases hv with
  | cons hx hr => cases hr with
    | cons hy hr => cases hr with
      | cons hz hr =>
        cases hr
        rename_i v v2 v3
        refine enter (d := dr 6) (T.keeps k) in6 hf ok.room (lv.keep k) (binds := [(Str.ofString "a", v), (Str.ofString "row", v2), (Str.ofString "column", v3)]) (bds := [(Str.ofString "a", gD g), (Str.ofString "row", .int r), (Str.ofString "column", .int c)]) (ns := [Str.ofString "a", Str.ofString "row", Str.ofString "column"]) (fun pm code doc => rfl) rfl (.cons hx (.cons hy (.cons hz .nil))) rfl (by decide +kernel) (by decide +kernel) (by decide +kernel) (by decide +kernel) (by decide +kernel) (fun L cc s₁ E hk S => ?_) hQ
        have T₁ : Tp mean mg mb s₁.heap := (T.keeps k).keeps hk
        have ok₁ := ok.deeper (envN (dr 6) f L cc)
        have ha : (bindD [(Str.ofString "a", gD g), (Str.ofString "row", .int r), (Str.ofString "column", .int c)] fun _ => none) (Str.ofString "a") = some (gD g) := rfl
        have hr : (bindD [(Str.ofString "a", gD g), (Str.ofString "row", .int r), (Str.ofString "column", .int c)] fun _ => none) (Str.ofString "row") = some (.int r) := rfl
        have hc : (bindD [(Str.ofString "a", gD g), (Str.ofString "row", .int r), (Str.ofString "column", .int c)] fun _ => none) (Str.ofString "column") = some (.int c) := rfl
        generalize hρ : (bindD [(Str.ofString "a", gD g), (Str.ofString "row", .int r), (Str.ofString "column", .int c)] fun _ => none) = ρ at S ha hr hc
        let cl : List (Str × Addr) := [(Str.ofString "row", L + 1), (Str.ofString "column", L + 2)]
        have pr : pick cl ρ (Str.ofString "row") = some (.int r) := hr
        have pc : pick cl ρ (Str.ofString "column") = some (.int c) := hc
        refine st_cons (st_return S (d := gD (mnr g r c)) ?ev fun v s₃ S₃ hv => ?ret)
        case ev =>
         rw [mnr_eq]
         refine (Ev.compE S.live (EvE.rows ok₁.handled S.live (Sees.builtin T₁ (mg_enumerate T₁) (mb_enumerate T₁) rfl rfl rfl rfl) (S.fm.ev ha (.inl rfl))) (cl := cl) rfl
          (ClOk.cp (ClOk.cons (by decide +kernel) rfl (.inl rfl) hr (ClOk.cons (by decide +kernel) rfl (.inl rfl) hc .nil)) S.fm (bind := fun i ρ => upd (upd ρ (Str.ofString "spot") (.int i)) (Str.ofString "line") (rD (g.getD i []))) (by have := sizeLine_eq; omega) rfl (by decide +kernel) (fun i x hx ρ => ?hb) (fun C i _ => Aim.pair ok₁.handled (.inl ⟨rfl, rfl⟩) (.inl ⟨rfl, rfl⟩)) (fun i hi C hid' h' hsub lv' k' F' => Ts.one (Tr.cmp (F'.ev (d := .int i) rfl (.inl rfl)) (F'.ev (d := .int r) pr (.inr (.inl rfl))) Op2.neI)) fun i hi _ C hid' h' hsub lv' k' F' => ?elt))
         case hb =>
           rcases List.mem_cons.mp hx with rfl | hx
           · rfl
           · rcases List.mem_cons.mp hx with rfl | hx
             · rfl
             · cases hx
         case elt =>
           have T₂ : Tp mean mg mb h' := T₁.keeps k'
           have pc2 : (upd (upd (pick cl ρ) (Str.ofString "spot") (.int i)) (Str.ofString "line") (rD (g.getD i []))) (Str.ofString "column") = some (.int c) := hc
           refine Ev.compE lv' (EvE.ints ok₁.handled lv' (Sees.builtin T₂ (mg_enumerate T₂) (mb_enumerate T₂) rfl rfl rfl rfl) (F'.ev (d := rD (g.getD i [])) rfl (.inl rfl))) (cl := [(Str.ofString "column", L + 2)]) rfl
             (ClOk.cp (ClOk.cons (by decide +kernel) rfl (.inl rfl) (d := .int c) pc2 .nil) F' (bind := fun j ρ => upd (upd ρ (Str.ofString "at") (.int j)) (Str.ofString "one") (.int ((g.getD i []).getD j 0))) ?few rfl (by decide +kernel) (fun i x hx ρ => ?hb) (fun C i _ => Aim.pair ok₁.handled (.inl ⟨rfl, rfl⟩) (.inl ⟨rfl, rfl⟩)) (fun i hi C hid' h' hsub lv' k' F' => Ts.one (Tr.cmp (F'.ev (d := .int i) rfl (.inl rfl)) (F'.ev (d := .int c) pc2 (.inr (.inl rfl))) Op2.neI)) fun j hj _ C hid2 h2 hsub lv2 k2 F2 => F2.ev rfl (.inl rfl))
           case few =>
             have hi' : i < g.length := hi
             have := h3 (g.getD i []) (by rw [List.getD_eq_getElem?_getD, List.getElem?_eq_getElem hi']; exact List.getElem_mem hi')
             have := sizeLine_eq
             omega
           case hb =>
             rcases List.mem_cons.mp hx with rfl | hx
             · rfl
             · cases hx
        case ret => exact ⟨_, _, _, _, rfl, S₃, hv.weak fun _ m => .tail _ (List.mem_append.mpr (.inr m))⟩
end
end Mine
end

-- Pr6
section
namespace Mine
open PySem PySem.W PySem.Calls PySem.Spec PyProof.Rows

def drw (l : List Int) (k : Nat) (m : Int) : Int := if k < l.length then (if l.getD k 0 < 0 then -l.getD k 0 else l.getD k 0).fmod m else (7 * (k : Int) + (k : Int).fdiv 2 + 5).fmod m
theorem drw_range (l : List Int) (k : Nat) {m : Int} (hm : 0 < m) : 0 ≤ drw l k m ∧ drw l k m < m := by
  unfold drw
  split
  · exact ⟨Int.fmod_nonneg_of_pos _ hm, Int.fmod_lt_of_pos _ hm⟩
  · exact ⟨Int.fmod_nonneg_of_pos _ hm, Int.fmod_lt_of_pos _ hm⟩
section
variable {prog : Program} {w : World} {A : Around} {hid : List Addr} {mean : ExcName → Option Value} {mg mb : Str → Option Value} {s : Shared} {E : Value → Shared → Prop}
set_option maxHeartbeats 8000000 in
theorem call_draw {h₀ : Heap} (T : Tp mean mg mb h₀) (k0 : Kept h₀ s.heap) {f : Addr} (hf : mg (dr 13).name = some (.ref f)) {P : Addr} (nP : h₀.get? P = none) {l : List Int} {k : Nat} {m : Int} {v : Value} {Q : Value → Shared → Prop} (hl : l.length < 1000) (hk : k < 1000) (hm : 0 < m) (ok : AOk A 2) (lv : Live hid s.heap)
    (hP : P ∈ hid) (hO : (Ob.lst [rD l, .int k]).ok hid s.heap P) (hv : Has hid s.heap v (.int m))
    (hQ : ∀ r s', s' = { s with heap := s'.heap, toks := s'.toks } → (∀ b o, b ≠ P → s.heap.get? b = some o → s'.heap.get? b = some o) → (Ob.lst [rD l, .int ((k : Int) + 1)]).ok hid s'.heap P → Has hid s'.heap r (.int (drw l k m)) → Q r s') :
    wpAny (model prog w) A (call (.ref f) [.ref P, v]) Q E s := by
  refine enterO (d := dr 13) (hb := fun b => if b = P then none else s.heap.get? b) (ow := [(P, .lst [rD l, .int k])]) (fun b o e => ?_) (fun p hp => ?_) (T.keeps k0) in13 hf ok.room lv (binds := [(Str.ofString "pool", .ref P), (Str.ofString "many", v)]) (bds := [(Str.ofString "pool", .raw (.ref P)), (Str.ofString "many", .int m)]) (ns := [Str.ofString "pool", Str.ofString "many"]) (fun pm code doc => rfl) rfl (.cons (.raw _) (.cons hv .nil)) rfl (by decide +kernel) (by decide +kernel) (by decide +kernel) (by decide +kernel) (by decide +kernel) (fun L c s₁ E hL hk' S => ?_)
  · split at e
    · cases e
    · exact e
  · cases List.mem_singleton.mp hp
    exact ⟨hP, if_pos rfl, hO⟩
  have k00 : ∀ b o, h₀.get? b = some o → (if b = P then none else s.heap.get? b) = some o := fun b o e => (if_neg fun q => by rw [q, nP] at e; cases e).trans (k0 b o e)
  have ok₁ := ok.deeper (envN (dr 13) f L c)
  have e1 : (bindD [(Str.ofString "pool", D.raw (.ref P)), (Str.ofString "many", .int m)] fun _ => none) (Str.ofString "pool") = some (.raw (.ref P)) := rfl
  have e2 : (bindD [(Str.ofString "pool", D.raw (.ref P)), (Str.ofString "many", .int m)] fun _ => none) (Str.ofString "many") = some (.int m) := rfl
  generalize (bindD [(Str.ofString "pool", D.raw (.ref P)), (Str.ofString "many", .int m)] fun _ => none) = ρ at S e1 e2
  have ret : ∀ {v' : Value} {s' ρ'}, Stt (hidN (dr 13) L hid) (fun b => if b = P then none else s.heap.get? b) s s' (envN (dr 13) f L c) (ocN (dr 13) L) [(P, .lst [rD l, .int ((k : Int) + 1)])] ρ' → Has (hidN (dr 13) L hid) s'.heap v' (.int (drw l k m)) → Q v' s' := fun {v' s' ρ'} S' hv' => by
    have hw : ∀ a ∈ hid, a ∈ hidN (dr 13) L hid := fun a m => .tail _ (List.mem_append.mpr (.inr m))
    obtain ⟨_, _, vs, n, eo, r⟩ := S'.own _ (.head _)
    exact hQ v' s' S'.same (fun b o hb e => S'.kept b o ((if_neg hb).trans e)) ⟨vs, n, eo, r.weak hw⟩ (hv'.weak hw)
  obtain ⟨_, _, vs, n, eo, r⟩ := S.own _ (.head _)
  refine st_cons (st_expr_name S (Ev.itemOwn (S.fm.ev e1 (.inl rfl)) eo r Ev.int (by decide) (by decide) (d := .int k) rfl) (.inl ⟨rfl, rfl⟩) fun s₂ S₂ => ?_)
  have f1 : (upd ρ (Str.ofString "spot") (.int k)) (Str.ofString "pool") = some (.raw (.ref P)) := e1
  have f2 : (upd ρ (Str.ofString "spot") (.int k)) (Str.ofString "many") = some (.int m) := e2
  have f3 : (upd ρ (Str.ofString "spot") (.int k)) (Str.ofString "spot") = some (.int k) := rfl
  refine st_cons (st_setItem S₂ (fun _ q => nomatch q) (Ev.bin (S₂.fm.ev f3 (.inl rfl)) Ev.int Op2.add) (S₂.fm.ev f1 (.inl rfl)) Ev.int (by decide) (by decide) (show (1 : Int) < 2 by decide) fun s₃ S₃ => ?_)
  have T₃ : Tp mean mg mb s₃.heap := T.keeps fun b o e => S₃.kept b o (k00 b o e)
  have S₃' : Stt (hidN (dr 13) L hid) (fun b => if b = P then none else s.heap.get? b) s s₃ (envN (dr 13) f L c) (ocN (dr 13) L) [(P, .lst [rD l, .int ((k : Int) + 1)])] (upd ρ (Str.ofString "spot") (.int k)) := S₃
  obtain ⟨_, _, vs3, n3, eo3, r3⟩ := S₃'.own _ (.head _)
  have hlen : (rD l) = .lst (l.map .int) := rfl
  have elen : ((l.map D.int).length : Int) = (l.length : Nat) := by simp
  refine st_cons (st_if S₃' (Tr.cmp (t := decide (k < l.length)) (S₃'.fm.ev f3 (.inl rfl)) (Ev.callB (Sees.builtin T₃ (mg_len T₃) (mb_len T₃) rfl rfl rfl rfl) (EvL.cons (Ev.itemOwn (S₃'.fm.ev f1 (.inl rfl)) eo3 r3 Ev.int (by decide) (by decide) (d := .lst (l.map .int)) rfl) EvL.nil) (elen ▸ ct_len (by simp; omega))) ?cmp) fun s₄ S₄ => ?_)
  case cmp =>
    have := Op2.ltI (prog := prog) (w := w) (A := A.deeper (envN (dr 13) f L c)) (hid := hidN (dr 13) L hid) (h := s₃.heap) (i := (k : Int)) (j := (l.length : Int))
    have e : decide ((k : Int) < (l.length : Int)) = decide (k < l.length) := by simp
    rw [e] at this
    exact this
  obtain ⟨_, _, vs4, n4, eo4, r4⟩ := S₄.own _ (.head _)
  by_cases hc : k < l.length
  · rw [decide_eq_true hc, if_pos rfl]
    have T₄ : Tp mean mg mb s₄.heap := T.keeps fun b o e => S₄.kept b o (k00 b o e)
    refine st_cons (st_return S₄ (Ev.bin (Ev.callB (Sees.builtin T₄ (mg_abs T₄) (mb_abs T₄) rfl rfl rfl rfl) (EvL.cons (Ev.item (Ev.itemOwn (S₄.fm.ev f1 (.inl rfl)) eo4 r4 Ev.int (by decide) (by decide) (d := .lst (l.map .int)) rfl) (S₄.fm.ev f3 (.inl rfl)) (by omega) (by omega) (rD_get (i := (k : Int).toNat) (by omega))) EvL.nil) ct_abs) (S₄.fm.ev f2 (.inl rfl)) (Op2.mod (by omega))) fun v s₅ S₅ hv => ?_)
    refine ret S₅ ?_
    unfold drw
    rw [if_pos hc]
    exact hv
  · rw [decide_eq_false hc, if_neg Bool.false_ne_true]
    refine wpAny_execs_nil ?_
    refine st_cons (st_return S₄ (Ev.bin (Ev.bin (Ev.bin (Ev.bin Ev.int (S₄.fm.ev f3 (.inl rfl)) (Op2.mul (mulOk_right (by omega)))) (Ev.bin (S₄.fm.ev f3 (.inl rfl)) Ev.int (Op2.fdiv (by decide) (PyProof.noPylong_small (by decide)))) Op2.add) Ev.int Op2.add) (S₄.fm.ev f2 (.inl rfl)) (Op2.mod (by omega))) fun v s₅ S₅ hv => ?_)
    refine ret S₅ ?_
    unfold drw
    rw [if_neg hc]
    exact hv
end
end Mine
end

-- Fw21
section
namespace Mine
open PySem PySem.W PySem.Calls PySem.Spec PyProof.Rows

section
variable {prog : Program} {w : World} {A : Around} {hid : List Addr} {s : Shared} {E : Value → Shared → Prop}
theorem enterC {p : Program} {loose : List Str} {mean : ExcName → Option Value} {mg mb : Str → Option Value} {d : DefRec} {f : Addr} {vs : List Value} {binds : List (Str × Value)} {bds : List (Str × D)} {R : Result → Shared → Prop} {hb : Addr → Option Obj} {ow : List (Addr × Ob)}
    (hbk : ∀ b o, hb b = some o → s.heap.get? b = some o) (how : ∀ p ∈ ow, p.1 ∈ hid ∧ hb p.1 = none ∧ p.2.ok hid s.heap p.1)
    (T : Top p loose mean mg mb s.heap) (hd : d ∈ recsOf p) (hf : mg d.name = some (.ref f)) (hroom : A.depth < recursionLimit) (lv : Live hid s.heap)
    (hbind : ∀ pm code doc, bindArgs (docDef d.name d.params d.body d.scope pm code doc) ⟨vs, []⟩ = pure binds) (hn : binds.map (·.1) = bds.map (·.1)) (hv : HasAll hid s.heap (binds.map (·.2)) (bds.map (·.2)))
    {ns : List Str} (hns : bds.map (·.1) = ns) (hk : ∀ x ∈ ns, (x, NameKind.local) ∈ d.scope.names ∨ (x, NameKind.cell) ∈ d.scope.names) (hnd : (d.scope.names.map (·.1)).Nodup)
    (hfun : d.scope.kind = .function) (hco : d.scope.isCoroutine = false) (hgen : d.scope.isGenerator = false)
    (body : ∀ (L : Addr) (c : Value) (s₁ : Shared) (E : Value → Shared → Prop), s.heap.get? L = none → Kept s.heap s₁.heap → Stt (hidN d L hid) hb s s₁ (envN d f L c) (ocN d L) ow (bindD bds fun _ => none) →
      wpAny (model prog w) (A.deeper (envN d f L c)) (execs d.body (envN d f L c)) (fun fl s' => R (.ok (.ret (match fl with | .ret v => v | _ => .none))) s') E s₁) : codeAny (model prog w) A (.call (.ref f) ⟨vs, []⟩) R s := by
  replace hk : ∀ x ∈ binds.map (·.1), (x, NameKind.local) ∈ d.scope.names ∨ (x, NameKind.cell) ∈ d.scope.names := by rw [hn, hns]; exact hk
  obtain ⟨a, o, pm, code, doc, h1, h2, h3, h4⟩ := T.fn d hd
  rw [hf] at h1
  cases h1
  refine codeAny_call_function hroom h2 h3 hco hgen rfl h4 ?_
  rw [hbind]
  refine wpAny_pure (wpAny_newFunctionEnv_cells hfun (fun x hx => ?_) fun env he s' x => ?_)
  · rcases hk x.1 (List.mem_map_of_mem hx) with q | q
    · exact .inl (lookup_nodup hnd q)
    · exact .inr ⟨lookup_nodup hnd q, cellsFrom_isSome _ _ _ (.inl q)⟩
  subst he
  refine ⟨T.nolimit.keeps x.toInCall.keep, codeAny_func ?_⟩
  have kk := x.toInCall.keep
  have hs : Ks s s' := by
    obtain ⟨h', tk, rfl⟩ := x.toInCall.same
    exact ⟨rfl, kk⟩
  have hnc := cellsFrom_nodup d.scope.names (s.heap.objs.size + 1) [] hnd .nil (fun _ q => nomatch q)
  have hcl : ∀ p ∈ ocN d s.heap.objs.size, p.2 ≥ s.heap.objs.size := fun p hp => Nat.le_of_lt (x.above p.1 p.2 hp)
  have hL : (newEnv d.scope s.heap.objs.size mainGlobals (cellsFrom (s.heap.objs.size + 1) d.scope.names []) (d.name ++ ".<locals>.") (some f) code none builtinsNs).locals = s.heap.objs.size := rfl
  have hidf : ∀ a ∈ hidN d s.heap.objs.size hid, a ∈ hid ∨ s.heap.get? a = none := fun a ha => by
    rcases List.mem_cons.mp ha with rfl | ha
    · exact .inr (get_size _)
    · rcases List.mem_append.mp ha with ha | ha
      · obtain ⟨p, hp, rfl⟩ := List.mem_map.mp ha
        exact .inr (get_ge (hcl p hp))
      · exact .inl ha
  obtain ⟨b1, b2⟩ := bind_has (kindOf := fun y => d.scope.names.lookup y) binds bds (fun _ => none) (fun _ => none) (fun _ => none) hn ((hv.fresh hidf).keep kk) (fun _ _ _ q => nomatch q) (fun _ _ _ q => nomatch q)
  have cellOk : ∀ p ∈ ocN d s.heap.objs.size, d.scope.names.lookup p.1 = some .cell ∧ (ocN d s.heap.objs.size).lookup p.1 = some p.2 ∧ s'.heap.IsCell p.2 (bindC (fun y => d.scope.names.lookup y) binds (fun _ => none) p.1) := fun p hp => by
    have hl : (ocN d s.heap.objs.size).lookup p.1 = some p.2 := lookup_nodup hnc hp
    refine ⟨?_, hl, x.cell p.1 p.2 hl⟩
    rcases cellsFrom_cell _ _ _ p hp with q | q
    · cases q
    · exact lookup_nodup hnd q
  have hbn : ∀ b, s.heap.get? b = none → hb b = none := fun b e => by
    cases q : hb b with
    | none => rfl
    | some o => rw [hbk b o q] at e; cases e
  have S : Stt (hidN d s.heap.objs.size hid) hb s s' (envN d f s.heap.objs.size code) (ocN d s.heap.objs.size) ow (bindD bds fun _ => none) := by
    refine ⟨hs.same, fun b o e => kk b o (hbk b o e), fun b hb => ?_, fun b hb => ?_, ⟨hfun, .head _, fun p hp => ?_, ⟨_, x.toInCall.ns, b1⟩, fun y dy hy hρ => ?_⟩, fun p hp => ?_, fun p hp q => ?_⟩
    · rcases hb with rfl | ⟨p, hp, rfl⟩
      · exact hbn _ (get_size _)
      · exact hbn _ (get_ge (hcl p hp))
    · rcases List.mem_cons.mp hb with rfl | hb
      · obtain ⟨o', _, _, e', _⟩ := x.toInCall.ns
        exact ⟨o', e'⟩
      · rcases List.mem_append.mp hb with hb | hb
        · obtain ⟨p, hp, rfl⟩ := List.mem_map.mp hb
          obtain ⟨_, _, ⟨o', e', _⟩⟩ := cellOk p hp
          exact ⟨o', e'⟩
        · obtain ⟨o', e'⟩ := lv b hb
          exact ⟨o', kk _ _ e'⟩
    · obtain ⟨c1, c2, c3⟩ := cellOk p hp
      refine ⟨c1, c2, .tail _ (List.mem_append.mpr (.inl (List.mem_map_of_mem hp))), ⟨_, c3⟩, fun y hy hl => hy (name_of_addr x.apart (mem_of_lookup hl) hp)⟩
    · have hnl : d.scope.names.lookup y ≠ some .local := fun q => by
        have hy' : d.scope.names.lookup y = some .cell ∨ d.scope.names.lookup y = some .free := hy
        rw [q] at hy'; rcases hy' with hy' | hy' <;> cases hy'
      obtain ⟨v, e, hv⟩ := b2 y dy hnl hρ
      have hy' : d.scope.names.lookup y = some .cell ∨ d.scope.names.lookup y = some .free := hy
      have hcell : (y, NameKind.cell) ∈ d.scope.names := by
        rcases hy' with q | q
        · exact mem_of_lookup q
        · exfalso
          have hmem : y ∈ binds.map (·.1) := by
            apply Classical.byContradiction
            intro hnm
            have : ∀ (bs : List (Str × Value)) (cm : Str → Option Value), y ∉ bs.map (·.1) → cm y = none → bindC (fun y => d.scope.names.lookup y) bs cm y = none := by
              intro bs
              induction bs with
              | nil => intro cm _ hc; exact hc
              | cons b bs ih =>
                intro cm hb hc
                refine ih _ (fun m => hb (.tail _ m)) ?_
                split
                · exact hc
                · exact (if_neg (fun z : y = b.1 => hb (z ▸ .head _))).trans hc
            rw [this binds _ hnm rfl] at e
            cases e
          rcases hk y hmem with z | z
          · rw [lookup_nodup hnd z] at q; cases q
          · rw [lookup_nodup hnd z] at q; cases q
      obtain ⟨c, hc⟩ := Option.isSome_iff_exists.mp (cellsFrom_isSome d.scope.names (s.heap.objs.size + 1) [] (.inl hcell))
      exact ⟨c, v, hc, e ▸ x.cell y c hc, hv⟩
    · obtain ⟨a, b, c⟩ := how p hp
      refine ⟨.tail _ (List.mem_append.mpr (.inr a)), b, c.mono (fun o e => kk _ o e) (fun b o _ e => kk b o e) (fun a o na e m => ?_)⟩
      exact (hidf a m).elim na fun q => by rw [q] at e; cases e
    · obtain ⟨o', e'⟩ := lv _ (how p hp).1
      have q' : p.1 = s.heap.objs.size := q
      rw [q', get_size] at e'; cases e'
  exact body _ code s' _ (get_size _) kk S

end

theorem atKey_new {K : Type} [DecidableEq K] (xs : List (K × Addr × Value)) (k : K) (a : Addr) (v : Value) : ∃ a', atKey (storedH xs k a v) k = some (a', v) := by
  unfold storedH
  split
  · rename_i h
    have : ∀ xs : List (K × Addr × Value), (atKey xs k).isSome = true → ∃ a', atKey (xs.map (putAt k v)) k = some (a', v) := by
      intro xs
      induction xs with
      | nil => intro h; simp [atKey] at h
      | cons x xs ih =>
        intro h
        by_cases hx : x.1 = k
        · exact ⟨x.2.1, by simp [atKey, putAt, hx]⟩
        · have e1 : atKey (x :: xs) k = atKey xs k := by simp [atKey, hx]
          have e2 : atKey ((x :: xs).map (putAt k v)) k = atKey (xs.map (putAt k v)) k := by simp [atKey, putAt, hx]
          rw [e1] at h
          rw [e2]
          exact ih h
    exact this xs h
  · rename_i h
    have h' : xs.find? (fun x => decide (x.1 = k)) = none := by
      cases q : xs.find? (fun x => decide (x.1 = k)) with
      | none => rfl
      | some y => simp [atKey, q] at h
    exact ⟨a, by simp [atKey, List.find?_append, h']⟩
theorem atKey_old {K : Type} [DecidableEq K] (xs : List (K × Addr × Value)) (k k' : K) (a : Addr) (v : Value) (hne : k' ≠ k) : atKey (storedH xs k a v) k' = atKey xs k' := by
  unfold storedH
  split
  · induction xs with
    | nil => rfl
    | cons x xs ih =>
      by_cases hx : x.1 = k'
      · have : x.1 ≠ k := fun q => hne (hx ▸ q)
        simp [atKey, putAt, hx, hne]
      · have e1 : atKey (x :: xs) k' = atKey xs k' := by simp [atKey, hx]
        have hp : (putAt k v x).1 = x.1 := by unfold putAt; split <;> rfl
        have e2 : atKey ((x :: xs).map (putAt k v)) k' = atKey (xs.map (putAt k v)) k' := by simp [atKey, hp, hx]
        rw [e1, e2]
        have ih' : atKey (xs.map (putAt k v)) k' = atKey xs k' := by
          clear ih e1 e2
          rename_i h
          clear h
          induction xs with
          | nil => rfl
          | cons y ys ih =>
            have hp : (putAt k v y).1 = y.1 := by unfold putAt; split <;> rfl
            by_cases hy : y.1 = k'
            · have hyk : y.1 ≠ k := fun q => hne (hy ▸ q)
              simp [atKey, putAt, hy, hne]
            · have e1 : atKey (y :: ys) k' = atKey ys k' := by simp [atKey, hy]
              have e2 : atKey ((y :: ys).map (putAt k v)) k' = atKey (ys.map (putAt k v)) k' := by simp [atKey, hp, hy]
              rw [e1, e2, ih]
        exact ih'
  · simp [atKey, List.find?_append, Ne.symm hne]
theorem len_storedH {K : Type} [DecidableEq K] (xs : List (K × Addr × Value)) (k : K) (a : Addr) (v : Value) : (storedH xs k a v).length ≤ xs.length + 1 := by
  unfold storedH
  split <;> simp
end Mine
end

-- Fw22
section
namespace Mine
open PySem PySem.W PySem.Calls PySem.Spec PyProof.Rows

theorem addr_storedH {xs : List (List Int × Addr × Value)} {k : List Int} {a : Addr} {v : Value} {y : List Int × Addr × Value} (h : y ∈ storedH xs k a v) : (∃ z ∈ xs, z.2.1 = y.2.1) ∨ y.2.1 = a := by
  unfold storedH at h
  split at h
  · obtain ⟨z, hz, rfl⟩ := List.mem_map.mp h
    refine .inl ⟨z, hz, ?_⟩
    unfold putAt
    split <;> rfl
  · rcases List.mem_append.mp h with h | h
    · exact .inl ⟨y, h, rfl⟩
    · cases List.mem_singleton.mp h
      exact .inr rfl

section
variable {prog : Program} {w : World} {A : Around} {env : Env} {hid hid' : List Addr} {hb : Addr → Option Obj} {σ s s' : Shared} {oc : List (Str × Addr)} {ow rest : List (Addr × Ob)} {ρ ρ' : Str → Option D} {E : Value → Shared → Prop} {h h' : Heap}
  {e l r x y z : Expr} {d a b c : D} {ds es : List D} {pos : Pos} {P : Addr} {scr : List Int}

theorem Fm.butD {a : Addr} {o : Obj} (F : Fm hid h env oc ρ) (ha : a ∈ hid) (hl : a ≠ env.locals) (ho : h.get? a = some o) (hc : ∀ v, o.data ≠ .cell v) (k : ∀ b o, b ≠ a → h.get? b = some o → h'.get? b = some o) : Fm hid h' env oc ρ := by
  have kb : KeptBut hid h h' := fun b o' hb e => k b o' (fun q => hb (q ▸ ha)) e
  have cc : ∀ c v, h.IsCell c v → h'.IsCell c v := fun c v ⟨o', e, q⟩ => ⟨o', k c o' (fun z => by subst z; rw [ho] at e; cases e; exact hc _ q) e, q⟩
  refine ⟨F.kind, F.lhid, fun p hp => ?_, ?_, fun x d hx hd' => ?_⟩
  · obtain ⟨a1, b1, c1, ⟨v, d1⟩, e1⟩ := F.cell p hp
    exact ⟨a1, b1, c1, ⟨v, cc _ _ d1⟩, e1⟩
  · obtain ⟨m, ⟨o', es, ep, e, q, r⟩, hm⟩ := F.loc
    refine ⟨m, ⟨o', es, ep, k _ _ (Ne.symm hl) e, q, r⟩, fun x d hx hd' => ?_⟩
    obtain ⟨v, e', hv⟩ := hm x d hx hd'
    exact ⟨v, e', hv.keepBut kb⟩
  · obtain ⟨c, v, e, hv, hh⟩ := F.cel x d hx hd'
    exact ⟨c, v, e, cc _ _ hv, hh.keepBut kb⟩

abbrev pl (scr : List Int) (k : Nat) : Ob := .lst [rD scr, .int k]

/-- an expression that draws -/
def EvD (prog : Program) (w : World) (A : Around) (env : Env) (hid : List Addr) (hb : Addr → Option Obj) (σ : Shared) (oc : List (Str × Addr)) (P : Addr) (scr : List Int) (rest : List (Addr × Ob)) (ρ : Str → Option D) (k : Nat) (e : Expr) (d : D) (k' : Nat) : Prop :=
  ∀ (s : Shared) (Q : Value → Shared → Prop) (E : Value → Shared → Prop), Stt hid hb σ s env oc ((P, pl scr k) :: rest) ρ →
    (∀ v s', Stt hid hb σ s' env oc ((P, pl scr k') :: rest) ρ → KeptBut hid s.heap s'.heap → Has hid s'.heap v d → Q v s') → wpAny (model prog w) A (eval e env) Q E s

theorem EvD.pure {k : Nat} (he : ∀ s, Stt hid hb σ s env oc ((P, pl scr k) :: rest) ρ → Ev prog w A env hid s.heap e d) : EvD prog w A env hid hb σ oc P scr rest ρ k e d k := fun s Q E S hQ =>
  he s S s Q E (fun _ _ q => q) fun v s' ks hv => hQ v s' (S.keep ks) (fun b o _ q => ks.kept b o q) hv
theorem EvD.addR {k k' : Nat} {i j : Int} (hl : ∀ s, Stt hid hb σ s env oc ((P, pl scr k) :: rest) ρ → Ev prog w A env hid s.heap l (.int i)) (hr : EvD prog w A env hid hb σ oc P scr rest ρ k r (.int j) k') : EvD prog w A env hid hb σ oc P scr rest ρ k (.BinOp l .Add r pos) (.int (i + j)) k' := fun s Q E S hQ =>
  wpAny_BinOp (hl s S s _ E (fun _ _ q => q) fun u s₁ k₁ hu => hr s₁ _ E (S.keep k₁) fun v s₂ S₂ kb hv => by
    cases hu with
    | int _ t => cases hv with
      | int _ t' => exact PyProof.Rows.add_int (hQ _ _ (S₂.keep (Ks.toks _)) (fun b o hb e => kb b o hb (k₁.kept b o e)) (.int _ _)))
theorem EvD.ifexp {k k' : Nat} {t : Bool} (ht : ∀ s, Stt hid hb σ s env oc ((P, pl scr k) :: rest) ρ → Tr prog w A env s.heap x t) (hy : t = true → EvD prog w A env hid hb σ oc P scr rest ρ k y d k') (hz : t = false → EvD prog w A env hid hb σ oc P scr rest ρ k z d k') : EvD prog w A env hid hb σ oc P scr rest ρ k (.IfExp x y z pos) d k' := fun s Q E S hQ =>
  wpAny_IfExp (ht s S s _ E (fun _ _ q => q) fun s₁ k₁ => by
    cases t with
    | true => exact hy rfl s₁ Q E (S.keep k₁) fun v s₂ S₂ kb hv => hQ v s₂ S₂ (fun b o hb e => kb b o hb (k₁.kept b o e)) hv
    | false => exact hz rfl s₁ Q E (S.keep k₁) fun v s₂ S₂ kb hv => hQ v s₂ S₂ (fun b o hb e => kb b o hb (k₁.kept b o e)) hv)
theorem EvD.list3 {k k1 k2 k3 : Nat} {e1 e2 e3 : Expr} {i1 i2 i3 : Int} (h1 : EvD prog w A env hid hb σ oc P scr rest ρ k e1 (.int i1) k1) (h2 : EvD prog w A env hid hb σ oc P scr rest ρ k1 e2 (.int i2) k2) (h3 : EvD prog w A env hid hb σ oc P scr rest ρ k2 e3 (.int i3) k3)
    (p1 : plain e1 = true := by rfl) (p2 : plain e2 = true := by rfl) (p3 : plain e3 = true := by rfl) : EvD prog w A env hid hb σ oc P scr rest ρ k (.List [e1, e2, e3] pos) (.lst [.int i1, .int i2, .int i3]) k3 := fun s Q E S hQ =>
  wpAny_List_spliced (args_cons (h1 s _ E S fun v1 s₁ S₁ kb₁ hv1 => args_cons (h2 s₁ _ E S₁ fun v2 s₂ S₂ kb₂ hv2 => args_cons (h3 s₂ _ E S₂ fun v3 s₃ S₃ kb₃ hv3 => args_nil ⟨by show (3 : Nat) ≤ _; decide, by
    cases hv1 with
    | int _ t1 => cases hv2 with
      | int _ t2 =>
        refine hQ _ _ (S₃.keep (Ks.push _)) (fun b o hb e => Heap.get?_push_of_some _ (kb₃ b o hb (kb₂ b o hb (kb₁ b o hb e)))) (has_newList S₃.live (.cons (.int _ _) (.cons (.int _ _) (.cons hv3 .nil))))⟩) (starEach_plain p3)) (starEach_plain p2)) (starEach_plain p1))
theorem EvD.pick {k k' : Nat} {L : List Int} {i : Int} (hx : ∀ s, Stt hid hb σ s env oc ((P, pl scr k) :: rest) ρ → Ev prog w A env hid s.heap x (rD L)) (hy : EvD prog w A env hid hb σ oc P scr rest ρ k y (.int i) k') (h0 : 0 ≤ i) (h1 : i < L.length) (hL : L.length < 1000)
    (hs : ∀ o v, subscripted y false o v = operate [o, v] (getItem o v) := by intro _ _; rfl) : EvD prog w A env hid hb σ oc P scr rest ρ k (.Subscript x y pos) (.int (L.getD i.toNat 0)) k' := fun s Q E S hQ =>
  Subscript_ (hx s S s _ E (fun _ _ q => q) fun o s₁ k₁ ho => hy s₁ _ E (S.keep k₁) fun v s₂ S₂ kb hv => by
    cases hv with
    | int _ t => cases ho with
      | @lst a' vs n ds' hn e r =>
        have e2 := kb _ _ hn e
        have r2 := r.keepBut kb
        obtain ⟨u, eu, hu⟩ := r2.get (rD_get (r := L) (i := i.toNat) (by omega))
        exact PyProof.Rows.tail_any (lobj_isList e2).typeIs slot_list_getitem.lookup (wpAny_getItem_list (lobj_isList e2) h0 (by omega) (by simpa using eu) (hQ _ _ S₂ (fun b o hb e => kb b o hb (k₁.kept b o e)) hu)) (hs _ _))

theorem EvD.draw {h₀ : Heap} {mean : ExcName → Option Value} {mg mb : Str → Option Value} {f : Addr} {x : Str} {np : Pos} {e1 e2 : Expr} {k : Nat} {m : Int} (T : Tp mean mg mb h₀) (hf : mg (dr 13).name = some (.ref f)) (h0b : ∀ b o, h₀.get? b = some o → hb b = some o) (hl : scr.length < 1000) (hk : k < 1000) (hm : 0 < m) (ok : AOk A 2)
    (hs : ∀ h', Kept h₀ h' → Sees prog w A env h' x (.ref f)) (he1 : ∀ s, Stt hid hb σ s env oc ((P, pl scr k) :: rest) ρ → Ev prog w A env hid s.heap e1 (.raw (.ref P))) (he2 : ∀ s, Stt hid hb σ s env oc ((P, pl scr k) :: rest) ρ → Ev prog w A env hid s.heap e2 (.int m))
    (hne : ∀ p ∈ rest, p.1 ≠ P) (p1 : plain e1 = true := by rfl) (p2 : plain e2 = true := by rfl) : EvD prog w A env hid hb σ oc P scr rest ρ k (.Call (.Name x np) [e1, e2] [] pos) (.int (drw scr k m)) (k + 1) := fun s Q E S hQ => by
  have kk : ∀ {s'}, Stt hid hb σ s' env oc ((P, pl scr k) :: rest) ρ → Kept h₀ s'.heap := fun S b o e => S.kept b o (h0b b o e)
  have T' := T.keeps (kk S)
  obtain ⟨f', os, _, _, _, hf', hso, hsd, _⟩ := T'.fn (dr 13) in13
  rw [hf] at hf'; cases hf'
  refine Call_ (hs s.heap (kk S) s np _ E (fun _ _ q => q) (callWith_def hsd ((EvL.cons (he1 s S) (EvL.cons (he2 s S) EvL.nil p2) p1) pos s _ E (fun _ _ q => q) fun vs s₁ k₁ hvs => ⟨k₁.kept _ _ hso, ?_⟩) (starEach_plain p1)))
  have S₁ := S.keep k₁
  cases hvs with
  | cons q1 hvs => cases q1 with
    | raw _ => cases hvs with
      | cons q2 hvs =>
        cases hvs
        obtain ⟨hP, hbP, hO⟩ := S₁.own _ (.head _)
        have nP : h₀.get? P = none := by
          cases q : h₀.get? P with
          | none => rfl
          | some o => rw [h0b P o q] at hbP; cases hbP
        refine call_draw T (kk S₁) hf nP hl hk hm ok S₁.live hP hO q2 fun r s' hsame hkept hok hr => ?_
        refine hQ r s' (S₁.after (W := fun b => b = P) hsame (fun a q => ⟨_, .head _, q.symm⟩) hkept (fun p hp q => ⟨_, .head _, q.symm⟩) (fun p hp => ?nl) (fun p hp q => ?nd) fun p hp => ?own) (fun b o hb' e => hkept b o (fun q => hb' (q ▸ hP)) (k₁.kept b o e)) hr
        case nl =>
          rcases List.mem_cons.mp hp with rfl | hp
          · exact fun z => S₁.ownl _ (.head _) z
          · exact S₁.ownl p (.tail _ hp)
        case nd =>
          rcases List.mem_cons.mp hp with rfl | hp
          · exact ⟨_, rfl⟩
          · exact absurd q (hne p hp)
        case own =>
          rcases List.mem_cons.mp hp with rfl | hp
          · exact ⟨hP, hbP, hok⟩
          · obtain ⟨a1, a2, a3⟩ := S₁.own p (.tail _ hp)
            exact ⟨a1, a2, a3.keepBut (fun o e => hkept _ o (hne p hp) e) fun b o hb' e => hkept b o (fun q => hb' (q ▸ hP)) e⟩

theorem st_nameD {x : Str} {px pos : Pos} {k k' : Nat} {bb : Addr} {Q : Flow → Shared → Prop} (S : Stt hid hb σ s env oc ((P, pl scr k) :: rest) ρ) (he : EvD prog w A env hid hb σ oc P scr rest ρ k e d k') (p : Place env oc x bb)
    (kk : ∀ s', Stt hid hb σ s' env oc ((P, pl scr k') :: rest) (upd ρ x d) → Q .next s') (hs : swapsWith e (some (.Name x px)) pos.line env = pure false := by rfl) : wpAny (model prog w) A (exec (.Assign [.Name x px] e pos) env) Q E s :=
  wpAny_Assign_Name (he s _ E S fun v s₁ S₁ _ hv => S₁.store p hv fun s' S' _ => kk s' S') hs

theorem st_dictSet {o i : Expr} {pos' : Pos} {Dd : Addr} {ys : List (List Int × Addr × Value)} {k k' : Nat} {u i1 i2 i3 : Int} {Q : Flow → Shared → Prop} (S : Stt hid hb σ s env oc [(P, pl scr k), (Dd, .dct prog w ys)] ρ) (hne : P ≠ Dd) (he : EvD prog w A env hid hb σ oc P scr [(Dd, .dct prog w ys)] ρ k e (.int u) k')
    (eo : ∀ s, Stt hid hb σ s env oc [(P, pl scr k'), (Dd, .dct prog w ys)] ρ → Ev prog w A env hid s.heap o (.raw (.ref Dd))) (ei : ∀ s, Stt hid hb σ s env oc [(P, pl scr k'), (Dd, .dct prog w ys)] ρ → Ev prog w A env hid s.heap i (.tup [.int i1, .int i2, .int i3])) (hz : ys.length < 1000) (hu : A.units + 1 < cLine)
    (kk : ∀ s' adr tk, Stt hid hb σ s' env oc [(P, pl scr k'), (Dd, .dct prog w (storedH ys [i1, i2, i3] adr (.int u tk)))] ρ → Q .next s')
    (hs : swapsWith e (some (.Subscript o i pos')) pos.line env = pure false := by rfl) : wpAny (model prog w) A (exec (.Assign [.Subscript o i pos'] e pos) env) Q E s :=
  wpAny_Assign_Subscript (he s _ E S fun v s₁ S₁ _ hv => eo s₁ S₁ s₁ _ E (fun _ _ q => q) fun ov s₂ k₂ ho => ei s₂ (S₁.keep k₂) s₂ _ E (fun _ _ q => q) fun iv s₃ k₃ hi => by
    have S₃ := (S₁.keep k₂).keep k₃
    cases ho with
    | raw _ => cases hv with
      | int _ tv =>
        have hkey := key3 (prog := prog) (w := w) hi
        cases hi with
        | @tup b vs n ds hn e' r =>
          obtain ⟨b', hb', hk⟩ := hkey
          cases hb'
          obtain ⟨hD, hbD, hDO, hDn⟩ := S₃.own _ (.tail _ (.head _))
          have hDl : Dd ≠ env.locals := fun z => S₃.ownl _ (.tail _ (.head _)) z
          have hsz := sizeLine_eq
          refine wpAny_setItem_heap (knd := tupleKind (intKind prog w)) (v := .int u tv) (tupleKind_room_in1 hu) hk hDO (fun h' hD' hs' => ?_) (by omega)
          obtain ⟨oD, esD, epD, eD, _, dD, _⟩ := hDO
          obtain ⟨oD', esD', epD', eD', _⟩ := id hD'
          have kp : ∀ b o, b ≠ Dd → s₃.heap.get? b = some o → h'.get? b = some o := fun b o hb e => (hs'.2 b hb).trans e
          refine kk _ b tv ⟨by rw [S₃.same], fun b o e => kp b o (fun q => by rw [q, hbD] at e; cases e) (S₃.kept b o e), S₃.off, fun b' hb' => ?_, S₃.fm.butD hD hDl eD (fun v q => by rw [dD] at q; cases q) kp, fun p hp => ?_, fun p hp => ?_⟩
          · by_cases q : b' = Dd
            · subst q; exact ⟨_, eD'⟩
            · obtain ⟨o1, e1⟩ := S₃.live b' hb'; exact ⟨o1, kp _ _ q e1⟩
          · rcases List.mem_cons.mp hp with rfl | hp
            · obtain ⟨a1, a2, a3⟩ := S₃.own _ (.head _)
              exact ⟨a1, a2, a3.keepBut (fun o e => kp _ o hne e) fun b o hb e => kp b o (fun q => hb (q ▸ hD)) e⟩
            · cases List.mem_singleton.mp hp
              refine ⟨hD, hbD, hD', fun y hy => ?_⟩
              rcases addr_storedH hy with ⟨z, hz, q⟩ | q
              · rw [← q]; exact hDn z hz
              · rw [q]; exact hn
          · rcases List.mem_cons.mp hp with rfl | hp
            · exact fun z => S₃.ownl _ (.head _) z
            · cases List.mem_singleton.mp hp
              exact hDl) hs
end
end Mine
end

-- Fw23
section
namespace Mine
open PySem PySem.W PySem.Calls PySem.Spec PyProof.Rows

section
variable {prog : Program} {w : World} {A : Around} {env : Env} {hid hid' : List Addr} {hb : Addr → Option Obj} {σ s s' : Shared} {oc : List (Str × Addr)} {ow rest : List (Addr × Ob)} {ρ ρ' : Str → Option D} {E : Value → Shared → Prop} {h h' : Heap}
  {e l r x y z : Expr} {d a b c : D} {ds es : List D} {pos : Pos} {P : Addr} {scr : List Int}

theorem hasAll_intsAre : ∀ {vs : List Value} {is : List Int}, IntsAre vs is → HasAll hid h vs (is.map .int)
  | _, _, .nil => .nil
  | _, _, .cons n t r => .cons (.int _ _) (hasAll_intsAre r)

theorem Ev.sliceRaw {i : Int} {p : Pos} {m : Nat} {a' : Addr} {vs' : List Value} {is : List Int} (lv : Live hid h) (hL : h.IsList a' vs'.toArray) (hI : IntsAre vs' is) (ex : Ev prog w A env hid h x (.raw (.ref a'))) (ey : Ev prog w A env hid h y (.int i)) (hm : ∀ its : Array Value, its.size = is.length → slicePick its none (some i) none = (its.toList.take m).toArray) (hz : is.length ≤ sizeLine) (ht : ∀ o r, letTemporaryGo x o r = pure () := by intro _ _; rfl) :
    Ev prog w A env hid h (.Subscript x (.Slice none (some y) none p) pos) (rD (is.take m)) := fun s Q E k hQ =>
  wpAny_Subscript_list_slice (ex s _ E k fun o s₁ k₁ ho => wpAny_evalPart_none (wpAny_evalPart_some (ey s₁ _ E (fun b o q => k₁.kept b o (k b o q)) fun v s₂ k₂ hv => (by
    cases hv with
    | int _ t => cases ho with
      | raw _ =>
        have r : HasAll hid h vs' (is.map .int) := hasAll_intsAre hI
        have hlen : vs'.length = is.length := by rw [r.length, List.length_map]
        have k12 := k₁.trans k₂
        have e2 : s₂.heap.IsList a' vs'.toArray := let ⟨o, ho, q⟩ := hL; ⟨o, k12.kept _ _ (k _ _ ho), q⟩
        refine ⟨a', vs'.toArray, none, some i, rfl, e2, by rw [List.size_toArray, hlen]; exact hz, .none, .int _ _, ?_⟩
        have ks : Ks s { s₂ with heap := (s₂.heap.push { cls := .type "slice", data := .fields #[.none, .int i t, .none] }).push { cls := .type "list", data := .seq (slicePick vs'.toArray none (some i) none) } } := k12.trans ⟨rfl, fun b o q => Heap.get?_push_of_some _ (Heap.get?_push_of_some _ q)⟩
        refine hQ _ _ ks ?_
        have es : slicePick vs'.toArray none (some i) none = (vs'.take m).toArray := by
          have := hm vs'.toArray (by rw [List.size_toArray, hlen])
          simpa using this
        rw [es]
        have hsz : (s₂.heap.push { cls := .type "slice", data := .fields #[.none, .int i t, .none] }).objs.size = s₂.heap.objs.size + 1 := Heap.size_push ..
        refine .lst (vs := vs'.take m) (n := 0) ?_ ?_ ?_
        · intro m
          obtain ⟨o, q⟩ := ((lv.keep k).keep k12.kept) _ m
          exact absurd (Heap.lt_size q) (Nat.not_lt.mpr (Nat.le_succ _))
        · have := Heap.get?_push_size (s₂.heap.push { cls := .type "slice", data := .fields #[.none, .int i t, .none] }) (o := lobj (vs'.take m) 0) rfl
          rw [hsz] at this
          exact this
        · have r2 := (((r.take m).keep k).keep k12.kept).keep (h' := (s₂.heap.push { cls := .type "slice", data := .fields #[.none, .int i t, .none] }).push (lobj (vs'.take m) 0)) fun b o q => Heap.get?_push_of_some _ (Heap.get?_push_of_some _ q)
          rw [← List.map_take] at r2
          exact r2)))) ht

-- a list unpacked
theorem draw_list {it t : Addr} {items : Array Value} (hne : t ≠ it) : ∀ (n i : Nat) (s : Shared) (Q : List Value → Shared → Prop), s.heap.IsListIter it t i → s.heap.IsList t items → i + n ≤ items.size →
    (∀ h', h'.IsListIter it t (i + n) → Heap.SameBut it s.heap h' → Q ((items.toList.drop i).take n) { s with heap := h' }) → wpAny (model prog w) A (draw (.ref it) n) Q E s
  | 0, i, s, Q, hit, _, _, hQ => by
    show wpAny _ _ (pure []) Q E s
    exact wpAny_pure (by simpa using hQ s.heap hit (Heap.SameBut.refl ..))
  | n + 1, i, s, Q, hit, ht, hle, hQ => by
    have hlt : i < items.size := by omega
    show wpAny _ _ (pyNext (.ref it) >>= _) Q E s
    refine wpAny_bind (wpAny_pyNext_list_item hit ht (x := items[i]) (by simp [hlt]) fun h₁ hit₁ hs₁ => ?_)
    refine wpAny_bind (wpAny_holding (draw_list hne n (i + 1) _ _ hit₁ (ht.extBut hs₁.extBut hne) (by omega) fun h₂ hit₂ hs₂ => wpAny_pure ?_))
    have hd : items.toList.drop i = items[i] :: items.toList.drop (i + 1) := by simp [List.drop_eq_getElem_cons, hlt]
    have := hQ h₂ (by rw [show i + (n + 1) = i + 1 + n by omega]; exact hit₂) (hs₁.trans hs₂)
    rw [hd, List.take_succ_cons] at this
    exact this
theorem unpackItems_list {t : Addr} {items : Array Value} {Q : List Value → Shared → Prop} (hh : A.handled = none) (ht : s.heap.IsList t items)
    (hQ : ∀ h', Heap.ExtBut s.heap.objs.size s.heap h' → Q items.toList { s with heap := h' }) : wpAny (model prog w) A (unpackItems (.ref t) items.size none) Q E s := by
  have hlt : t ≠ s.heap.objs.size := by obtain ⟨o, ho, _⟩ := ht; exact Nat.ne_of_lt (Heap.lt_size ho)
  unfold unpackItems
  refine wpAny_bind ?_
  · unfold notIterableAtAll
    refine wpAny_bind (wpAny_specialOf ht.typeIs slot_list_iter.lookup ?_)
    refine wpAny_pure ?_
    simp only [Bool.false_eq_true, if_false]
    refine wpAny_bind (wpAny_holding (wpAny_pyIter_list ht ?_))
    refine wpAny_bind (wpAny_holding (draw_list hlt items.size 0 _ _ ⟨_, Heap.get?_push_size _ rfl, rfl, rfl⟩ (ht.push _) (by omega) fun h₁ hit₁ hs₁ => ?_))
    have hall : List.take items.size (List.drop 0 items.toList) = items.toList := by
      rw [List.drop_zero]; exact List.take_of_length_le (by simp)
    rw [hall]
    rw [if_neg (by simp)]
    have ht₁ : h₁.IsList t items := (ht.push _).extBut hs₁.extBut hlt
    refine wpAny_bind (wpAny_holding (wpAny_pyNext_list_end hh hit₁ ht₁ (by simp) fun h₂ he₂ => ?_))
    simp only [Option.isSome_none, Bool.false_eq_true, if_false]
    refine wpAny_pure (hQ h₂ fun b o hb e => he₂ b o hb (hs₁.extBut b o hb (Heap.get?_push_of_some _ e)))
theorem assign_TupleL {elts : List Expr} {x1} {pos : Pos} {t : Addr} {items : Array Value} {Q : Unit → Shared → Prop} (hh : A.handled = none) (ht : s.heap.IsList t items)
    (hn : (assignEach elts env).length = items.size) (hstar : (assignEach elts env).findIdx? (·.1) = none)
    (h : ∀ h', Heap.ExtBut s.heap.objs.size s.heap h' → wpAny (model prog w) A (assignInOrder ((assignEach elts env).map (·.2)) items.toList) Q E { s with heap := h' }) :
    wpAny (model prog w) A (assign (.Tuple elts x1 pos) env (.ref t)) Q E s := by
  rw [arm_assign_Tuple]
  refine wpAny_bind (wpAny_standAt ?_)
  unfold unpack
  rw [hn, hstar]
  exact wpAny_bind (wpAny_holding (unpackItems_list hh ht h))
theorem st_unpack3 {x y z : Str} {px py pz tp : Pos} {kk} {i1 i2 i3 : Int} {b1 b2 b3 : Addr} {Q : Flow → Shared → Prop} (hh : A.handled = none) (S : Stt hid hb σ s env oc ow ρ) (he : Ev prog w A env hid s.heap e (.lst [.int i1, .int i2, .int i3])) (p1 : Place env oc x b1) (p2 : Place env oc y b2) (p3 : Place env oc z b3)
    (k : ∀ s', Stt hid hb σ s' env oc ow (upd (upd (upd ρ x (.int i1)) y (.int i2)) z (.int i3)) → Q .next s')
    (hs : swapsWithSole [.Tuple [.Name x px, .Name y py, .Name z pz] kk tp] e pos.line env = pure false := by rfl) (hw : swappedStores [.Tuple [.Name x px, .Name y py, .Name z pz] kk tp] e env = pure none := by rfl) :
    wpAny (model prog w) A (exec (.Assign [.Tuple [.Name x px, .Name y py, .Name z pz] kk tp] e pos) env) Q E s :=
  Assign_Tuple (he s _ E (fun _ _ q => q) fun v s₁ k₁ hv => by
    cases hv with
    | lst hn e hs => cases hs with
      | cons h1 hs => cases hs with
        | cons h2 hs => cases hs with
          | cons h3 hs => cases hs with
            | nil =>
              refine assign_TupleL hh (lobj_isList e) rfl rfl fun h' kh => ?_
              have ks : Ks s₁ { s₁ with heap := h' } := Ks.heap fun b o e => kh b o (Nat.ne_of_lt (Heap.lt_size e)) e
              refine wpAny_assignInOrder_more (wpAny_assign_Name (((S.keep k₁).keep ks).store p1 (h1.keep ks.kept) fun s₂ S₂ k₂ => ?_))
              refine wpAny_assignInOrder_more (wpAny_assign_Name (S₂.store p2 ((h2.keep ks.kept).keepBut k₂) fun s₃ S₃ k₃ => ?_))
              refine wpAny_assignInOrder_more (wpAny_assign_Name (S₃.store p3 (((h3.keep ks.kept).keepBut k₂).keepBut k₃) fun s₄ S₄ k₄ => ?_))
              exact wpAny_assignInOrder_none (k _ S₄)) hs hw

/-- the pool and the dict of worths -/
theorem st_pool {x y : Str} {px py tp lp dp tp' : Pos} {kk kk'} {lc c0 : Expr} {b1 b2 : Addr} {Q : Flow → Shared → Prop} (hh : A.handled = none) (S : Stt hid hb σ s env oc [] ρ) (he : Ev prog w A env hid s.heap lc (rD scr)) (he0 : Ev prog w A env hid s.heap c0 (.int 0)) (p1 : Place env oc x b1) (p2 : Place env oc y b2)
    (k : ∀ P Dd s', P ≠ Dd → P ∉ hid → Dd ∉ hid → Stt (P :: Dd :: hid) hb σ s' env oc [(P, pl scr 0), (Dd, .dct prog w [])] (upd (upd ρ x (.raw (.ref P))) y (.raw (.ref Dd))) → Q .next s') (q1 : plain lc = true := by rfl) (q2 : plain c0 = true := by rfl)
    (hs : swapsWithSole [.Tuple [.Name x px, .Name y py] kk tp] (.Tuple [.List [lc, c0] lp, .Dict [] [] dp] kk' tp') pos.line env = pure false := by rfl) (hw : swappedStores [.Tuple [.Name x px, .Name y py] kk tp] (.Tuple [.List [lc, c0] lp, .Dict [] [] dp] kk' tp') env = pure none := by rfl) :
    wpAny (model prog w) A (exec (.Assign [.Tuple [.Name x px, .Name y py] kk tp] (.Tuple [.List [lc, c0] lp, .Dict [] [] dp] kk' tp') pos) env) Q E s := by
  refine Assign_Tuple (wpAny_Tuple_spliced (args_cons (wpAny_List_spliced ((EvL.cons he (EvL.cons he0 EvL.nil q2) q1) lp s _ E (fun _ _ q => q) fun vs s₁ k₁ hvs => ⟨by rw [hvs.length]; show (2 : Nat) ≤ _; decide, args_cons (wpAny_Dict_empty (args_nil ⟨by show (2 : Nat) ≤ _; decide, ?_⟩)) (starEach_plain rfl)⟩)) (starEach_plain rfl))) hs hw
  dsimp only
  have hl : ([rD scr, D.int 0] : List D).length = vs.length := hvs.length.symm
  generalize hP : s₁.heap.objs.size = P
  have hPs : (s₁.heap.push { cls := .type "list", data := .seq vs.toArray }).objs.size = P + 1 := by rw [Heap.size_push, hP]
  rw [hPs]
  have hfr : ∀ a, P ≤ a → s₁.heap.get? a = none := fun a ha => get_ge (by rw [hP]; exact ha)
  have hfr0 : ∀ a, P ≤ a → s.heap.get? a = none := fun a ha => by
    cases q : s.heap.get? a with
    | none => rfl
    | some o => have := k₁.kept a o q; rw [hfr a ha] at this; cases this
  have g1 : (s₁.heap.push (lobj vs 0)).get? P = some (lobj vs 0) := by have := Heap.get?_push_size s₁.heap (o := lobj vs 0) rfl; rw [hP] at this; exact this
  have gD : ((s₁.heap.push (lobj vs 0)).push { cls := .type "dict", data := .dict #[] }).DictOfH (tupleKind (intKind prog w)) (P + 1) [] := by
    have := Heap.DictOfH.new (knd := tupleKind (intKind prog w)) (s₁.heap.push (lobj vs 0))
    rw [show (s₁.heap.push (lobj vs 0)).objs.size = P + 1 from hPs] at this
    exact this
  have hz3 : (((s₁.heap.push (lobj vs 0)).push { cls := .type "dict", data := .dict #[] })).objs.size = P + 2 := by rw [Heap.size_push]; show (s₁.heap.push (lobj vs 0)).objs.size + 1 = _; rw [show (s₁.heap.push (lobj vs 0)).objs.size = P + 1 from hPs]
  have kA : Ks s { s₁ with heap := ((s₁.heap.push (lobj vs 0)).push { cls := .type "dict", data := .dict #[] }).push { cls := .type "tuple", data := .seq [Value.ref P, Value.ref (P + 1)].toArray } } :=
    k₁.trans ⟨rfl, fun b o q => Heap.get?_push_of_some _ (Heap.get?_push_of_some _ (Heap.get?_push_of_some _ q))⟩
  have up2 : Kept ((s₁.heap.push (lobj vs 0)).push { cls := .type "dict", data := .dict #[] }) (((s₁.heap.push (lobj vs 0)).push { cls := .type "dict", data := .dict #[] }).push { cls := .type "tuple", data := .seq [Value.ref P, Value.ref (P + 1)].toArray }) := fun b o q => Heap.get?_push_of_some _ q
  have gD' := DictOfH.keep' up2 gD
  have g1' := up2 _ _ (Heap.get?_push_of_some _ g1)
  have hidL : ∀ a ∈ [P, P + 1], s.heap.get? a = none := fun a m => by
    rcases List.mem_cons.mp m with rfl | m
    · exact hfr0 _ (Nat.le_refl _)
    · cases List.mem_singleton.mp m; exact hfr0 _ (Nat.le_succ _)
  have S₁ : Stt (P :: (P + 1) :: hid) hb σ _ env oc [] ρ := S.hideL (L := [P, P + 1]) hidL (fun a m => by
    rcases List.mem_cons.mp m with rfl | m
    · exact ⟨_, g1'⟩
    · cases List.mem_singleton.mp m
      obtain ⟨o, _, _, e, _⟩ := gD'
      exact ⟨o, e⟩) kA
  have hbn : ∀ a ∈ [P, P + 1], hb a = none := fun a m => by
    cases q : hb a with
    | none => rfl
    | some o => have := S.kept a o q; rw [hidL a m] at this; cases this
  have hnl : ∀ a ∈ [P, P + 1], a ≠ env.locals := fun a m q => by
    have := hidL a m
    obtain ⟨o, e⟩ := S.live _ S.fm.lhid
    rw [q, e] at this; cases this
  have S₂ : Stt (P :: (P + 1) :: hid) hb σ { s₁ with heap := ((s₁.heap.push (lobj vs 0)).push { cls := .type "dict", data := .dict #[] }).push { cls := .type "tuple", data := .seq [Value.ref P, Value.ref (P + 1)].toArray } } env oc [(P, pl scr 0), (P + 1, .dct prog w [])] ρ := by
    refine ⟨S₁.same, S₁.kept, S₁.off, S₁.live, S₁.fm, fun p hp => ?_, fun p hp => ?_⟩
    · rcases List.mem_cons.mp hp with rfl | hp
      · refine ⟨.head _, hbn _ (.head _), vs, 0, g1', hvs.mono (fun b o _ e => up2 _ _ (Heap.get?_push_of_some _ (Heap.get?_push_of_some _ e))) (fun a o hn e m => ?_)⟩
        rcases List.mem_cons.mp m with rfl | m
        · rw [hfr _ (Nat.le_refl _)] at e; cases e
        · rcases List.mem_cons.mp m with rfl | m
          · rw [hfr _ (Nat.le_succ _)] at e; cases e
          · exact hn m
      · cases List.mem_singleton.mp hp
        exact ⟨.tail _ (.head _), hbn _ (.tail _ (.head _)), gD', fun y hy => nomatch hy⟩
    · rcases List.mem_cons.mp hp with rfl | hp
      · exact hnl _ (.head _)
      · cases List.mem_singleton.mp hp
        exact hnl _ (.tail _ (.head _))
  have hT := Heap.get?_push_size ((s₁.heap.push (lobj vs 0)).push { cls := .type "dict", data := .dict #[] }) (o := tobj [Value.ref P, Value.ref (P + 1)] 0) rfl
  refine wpAny_assign_Tuple hh (tobj_isTuple hT) rfl rfl fun h' kh => ?_
  have ks := Ks.heap (s := { s₁ with heap := ((s₁.heap.push (lobj vs 0)).push { cls := .type "dict", data := .dict #[] }).push { cls := .type "tuple", data := .seq [Value.ref P, Value.ref (P + 1)].toArray } }) (h := h') fun b o e => kh b o (Nat.ne_of_lt (Heap.lt_size e)) e
  have S₃ := S₂.keep ks
  refine wpAny_assignInOrder_more (wpAny_assign_Name (S₃.store p1 (.raw _) fun s₄ S₄ k₄ => ?_))
  refine wpAny_assignInOrder_more (wpAny_assign_Name (S₄.store p2 (.raw _) fun s₅ S₅ k₅ => ?_))
  refine wpAny_assignInOrder_none (k P (P + 1) _ (Nat.ne_of_lt (Nat.lt_succ_self _)) (fun m => ?_) (fun m => ?_) S₅)
  · obtain ⟨o, e⟩ := S.live _ m; rw [hfr0 _ (Nat.le_refl _)] at e; cases e
  · obtain ⟨o, e⟩ := S.live _ m; rw [hfr0 _ (Nat.le_succ _)] at e; cases e
end
end Mine
end

-- Pr7
section
namespace Mine
open PySem PySem.W PySem.Calls PySem.Spec PyProof.Rows

abbrev Path := Int × List (Int × Int)
def pD (p : Path) : D := .tup [.int p.1, .lst (p.2.map dp)]
def ext (W : Int → Int → Int → Int) (c h : Int) (i : Nat) (p : Path) : Path := (p.1 * W c h i, (c, h) :: p.2)
def pths (W : Int → Int → Int → Int) (goal : Int) : Nat → Int → Int → List Path
  | 0, _, _ => []
  | n + 1, c, h => if goal < h then [] else if c = 2 ∧ h = goal then [(1, [(2, goal)])] else
    (List.range 2).flatMap fun i : Nat => if c + (1 - (i : Int)) < 3 then (pths W goal n (c + (1 - (i : Int))) (h + i)).map (ext W c h i) else []
theorem pths_len (W : Int → Int → Int → Int) (goal : Int) : ∀ n c h, (pths W goal n c h).length ≤ 2 ^ n ∧ ∀ p ∈ pths W goal n c h, p.2.length ≤ n
  | 0, _, _ => ⟨Nat.zero_le _, fun _ q => nomatch q⟩
  | n + 1, c, h => by
    unfold pths
    split
    · exact ⟨Nat.zero_le _, fun _ q => nomatch q⟩
    · split
      · exact ⟨Nat.one_le_two_pow, fun p hp => by cases List.mem_singleton.mp hp; simp⟩
      · have h0 := pths_len W goal n (c + (1 - ((0 : Nat) : Int))) (h + (0 : Nat))
        have h1 := pths_len W goal n (c + (1 - ((1 : Nat) : Int))) (h + (1 : Nat))
        rw [show List.range 2 = [0, 1] from rfl]
        simp only [List.flatMap_cons, List.flatMap_nil, List.append_nil]
        refine ⟨?_, fun p hp => ?_⟩
        · rw [List.length_append, Nat.pow_succ]
          have a0 : (if c + (1 - ((0 : Nat) : Int)) < 3 then (pths W goal n (c + (1 - ((0 : Nat) : Int))) (h + (0 : Nat))).map (ext W c h 0) else []).length ≤ 2 ^ n := by
            split
            · rw [List.length_map]; exact h0.1
            · exact Nat.zero_le _
          have a1 : (if c + (1 - ((1 : Nat) : Int)) < 3 then (pths W goal n (c + (1 - ((1 : Nat) : Int))) (h + (1 : Nat))).map (ext W c h 1) else []).length ≤ 2 ^ n := by
            split
            · rw [List.length_map]; exact h1.1
            · exact Nat.zero_le _
          omega
        · rcases List.mem_append.mp hp with hp | hp
          · split at hp
            · obtain ⟨q, hq, rfl⟩ := List.mem_map.mp hp
              have := h0.2 q hq
              show ((c, h) :: q.2).length ≤ _
              simp; omega
            · cases hp
          · split at hp
            · obtain ⟨q, hq, rfl⟩ := List.mem_map.mp hp
              have := h1.2 q hq
              show ((c, h) :: q.2).length ≤ _
              simp; omega
            · cases hp

/-- the worths that a dict holds -/
def WOk (prog : Program) (w : World) (h : Heap) (dd : Addr) (H : Int) (W : Int → Int → Int → Int) : Prop := ∃ xs, h.DictOfH (tupleKind (intKind prog w)) dd xs ∧
  ∀ (c j : Int) (i : Nat), 0 ≤ c → c < 3 → 0 ≤ j → j < H → i < 2 → ∃ adr tk, atKey xs [c, j, (i : Int)] = some (adr, .int (W c j i) tk)
theorem WOk.keep {prog : Program} {w : World} {h h' : Heap} {dd : Addr} {H : Int} {W : Int → Int → Int → Int} (k : Kept h h') (x : WOk prog w h dd H W) : WOk prog w h' dd H W := let ⟨xs, a, b⟩ := x; ⟨xs, DictOfH.keep' k a, b⟩

section
variable {prog : Program} {w : World} {mean : ExcName → Option Value} {mg mb : Str → Option Value}
set_option maxHeartbeats 2000000 in
theorem ct_paths {f dd : Addr} (hf : mg (dr 14).name = some (.ref f)) {H goal : Int} {W : Int → Int → Int → Int} (hW : ∀ c j i, (W c j i).natAbs ≤ 3) (hg : goal < H) (hH : H < 1000) : ∀ (n : Nat) (c j : Int) (A : Around) (hid : List Addr) (h : Heap), Tp mean mg mb h → WOk prog w h dd H W → 0 ≤ c → c ≤ 2 → 0 ≤ j → j ≤ goal + 1 → (2 - c) + (goal + 1 - j) + 1 ≤ n → n ≤ 9 → AOk A (n + 1) → Live hid h →
    Ct prog w A hid h (.ref f) [.int c, .int j, .int goal, .raw (.ref dd)] (.lst ((pths W goal n c j).map pD))
  | 0, c, j, A, hid, h, T, hD, c0, c2, j0, jg, hn, n9, ok, lv => by omega
  | n + 1, c, j, A, hid, h, T, hD, c0, c2, j0, jg, hn, n9, ok, lv => fun s vs Q E k hv hQ => by
    cases hv with
    | cons h1 hv => cases hv with
      | cons h2 hv => cases hv with
        | cons h3 hv => cases hv with
          | cons h4 hv => cases hv; cases h1 with
            | int _ t1 => cases h2 with
              | int _ t2 => cases h3 with
                | int _ t3 => cases h4 with
                  | raw _ =>
    refine enter (d := dr 14) (T.keeps k) in14 hf ok.room (lv.keep k) (binds := [(Str.ofString "column", .int c t1), (Str.ofString "height", .int j t2), (Str.ofString "goal", .int goal t3), (Str.ofString "worths", .ref dd)]) (bds := [(Str.ofString "column", .int c), (Str.ofString "height", .int j), (Str.ofString "goal", .int goal), (Str.ofString "worths", .raw (.ref dd))]) (ns := [Str.ofString "column", Str.ofString "height", Str.ofString "goal", Str.ofString "worths"])
      (fun pm code doc => rfl) rfl (.cons (.int _ _) (.cons (.int _ _) (.cons (.int _ _) (.cons (.raw _) .nil)))) rfl (by decide +kernel) (by decide +kernel) (by decide +kernel) (by decide +kernel) (by decide +kernel) (fun L cd s₁ E hk S => ?_) hQ
    have ok₁ := ok.deeper (envN (dr 14) f L cd)
    have hw : ∀ a ∈ hid, a ∈ hidN (dr 14) L hid := fun a m => .tail _ (List.mem_append.mpr (.inr m))
    have hk0 : ∀ b o, h.get? b = some o → s.heap.get? b = some o := k
    let Vs : (Str → Option D) → Prop := fun ρ => ρ (Str.ofString "column") = some (.int c) ∧ ρ (Str.ofString "height") = some (.int j) ∧ ρ (Str.ofString "goal") = some (.int goal) ∧ ρ (Str.ofString "worths") = some (.raw (.ref dd))
    have V₁ : Vs (bindD [(Str.ofString "column", .int c), (Str.ofString "height", .int j), (Str.ofString "goal", .int goal), (Str.ofString "worths", .raw (.ref dd))] fun _ => none) := ⟨rfl, rfl, rfl, rfl⟩
    generalize (bindD [(Str.ofString "column", D.int c), (Str.ofString "height", .int j), (Str.ofString "goal", .int goal), (Str.ofString "worths", .raw (.ref dd))] fun _ => none) = ρ at S V₁
    obtain ⟨v1, v2, v3, v4⟩ := V₁
    refine st_cons (st_if S (Tr.cmp (S.fm.ev v2 (.inl rfl)) (S.fm.ev v3 (.inl rfl)) Op2.gtI) fun s₂ S₂ => ?_)
    by_cases c1 : goal < j
    · rw [decide_eq_true c1, if_pos rfl]
      refine st_cons (st_return S₂ (Ev.list S₂.live EvL.nil) fun v s₃ S₃ hv => ?_)
      refine ⟨_, _, _, _, rfl, S₃, ?_⟩
      have e : pths W goal (n + 1) c j = [] := by unfold pths; rw [if_pos c1]
      rw [e]
      exact hv.weak hw
    rw [decide_eq_false c1, if_neg Bool.false_ne_true]
    refine wpAny_execs_nil ?_
    refine st_cons (st_if S₂ (Tr.and (Tr.cmp (S₂.fm.ev v1 (.inl rfl)) Ev.int Op2.eqI) (fun _ => Tr.cmp (S₂.fm.ev v2 (.inl rfl)) (S₂.fm.ev v3 (.inl rfl)) Op2.eqI)) fun s₃ S₃ => ?_)
    by_cases c3 : c = 2 ∧ j = goal
    · have e0 : ((c == 2) && (j == goal)) = true := by simp [c3.1, c3.2]
      rw [e0, if_pos rfl]
      refine @st_cons _ _ _ _ _ _ _ _ _ (@st_return _ _ _ _ _ _ _ _ _ _ _ _ _ _ _ _ S₃ (@Ev.list _ _ _ _ _ _ _ _ _ S₃.live (@EvL.cons _ _ _ _ _ _ _ _ _ _ (@Ev.tuple _ _ _ _ _ _ _ _ _ _ S₃.live (@EvL.cons _ _ _ _ _ _ _ _ _ _ Ev.int (@EvL.cons _ _ _ _ _ _ _ _ _ _ (@Ev.list _ _ _ _ _ _ _ _ _ S₃.live (@EvL.cons _ _ _ _ _ _ _ _ _ _ (@Ev.tuple _ _ _ _ _ _ _ _ _ _ S₃.live (@EvL.cons _ _ _ _ _ _ _ _ _ _ Ev.int (@EvL.cons _ _ _ _ _ _ _ _ _ _ (S₃.fm.ev v3 (.inl rfl)) (@EvL.nil _ _ _ _ _ _) (by rfl)) (by rfl)) (by rfl)) (@EvL.nil _ _ _ _ _ _) (by rfl)) (by rfl)) (@EvL.nil _ _ _ _ _ _) (by rfl)) (by rfl)) (by rfl)) (@EvL.nil _ _ _ _ _ _) (by rfl)) (by rfl)) fun v s₃ S₃ hv => ?_)
      refine ⟨_, _, _, _, rfl, S₃, ?_⟩
      have e : pths W goal (n + 1) c j = [(1, [(2, goal)])] := by unfold pths; rw [if_neg c1, if_pos c3]
      rw [e]
      exact hv.weak hw
    have e0 : ((c == 2) && (j == goal)) = false := by
      cases q : ((c == 2) && (j == goal)) with
      | false => rfl
      | true => simp at q; exact absurd q c3
    rw [e0, if_neg Bool.false_ne_true]
    refine wpAny_execs_nil ?_
    refine st_cons (st_ownList S₃ EvL.nil (.inl ⟨rfl, rfl⟩) rfl fun a s₄ ha S₄ => ?_)
    have T₄ : Tp mean mg mb s₄.heap := (T.keeps k).keeps S₄.kept
    let part : Nat → List Path := fun i => if c + (1 - (i : Int)) < 3 then (pths W goal n (c + (1 - (i : Int))) (j + i)).map (ext W c j i) else []
    have hpl : ∀ m, m ≤ 2 → ((List.range m).flatMap part).length ≤ m * 2 ^ n := by
      intro m hm
      induction m with
      | zero => exact Nat.zero_le _
      | succ m ih =>
        rw [List.range_succ, List.flatMap_append, List.length_append]
        have : (part m).length ≤ 2 ^ n := by
          show (if _ then _ else _ : List Path).length ≤ _
          split
          · rw [List.length_map]; exact (pths_len W goal n _ _).1
          · exact Nat.zero_le _
        have := ih (by omega)
        simp only [List.flatMap_cons, List.flatMap_nil, List.append_nil]
        rw [Nat.succ_mul]
        omega
    have h2n : 2 ^ n ≤ 2 ^ 9 := Nat.pow_le_pow_right (by decide) (by omega)
    let Iv : List Path → (Str → Option D) → List (Addr × Ob) → Prop := fun l ρ ow => ow = [(a, .lst (l.map pD))] ∧ Vs ρ ∧ ρ (Str.ofString "found") = some (.raw (.ref a))
    refine @st_cons _ _ _ _ _ _ _ _ _ (@st_for _ _ _ _ _ _ _ _ _ _ _ _ _ _ _ _ _ _ _ S₄ (@EvIt.congr _ _ _ _ _ _ _ _ 2 _ _ (fun i => .tup [.int i, .tup [.int (1 - (i : Int)), .int i]]) (@EvIt.tup _ _ _ _ _ _ _ _ _ ok₁.handled (.inr ⟨_, _, _, rfl⟩) S₄.live (@Ev.tuple _ _ _ _ _ _ _ _ _ _ S₄.live (@EvL.cons _ _ _ _ _ _ _ _ _ _ (@Ev.tuple _ _ _ _ _ _ _ _ _ _ S₄.live (@EvL.cons _ _ _ _ _ _ _ _ _ _ Ev.int (@EvL.cons _ _ _ _ _ _ _ _ _ _ (@Ev.tuple _ _ _ _ _ _ _ _ _ _ S₄.live (@EvL.cons _ _ _ _ _ _ _ _ _ _ Ev.int (@EvL.cons _ _ _ _ _ _ _ _ _ _ Ev.int (@EvL.nil _ _ _ _ _ _) (by rfl)) (by rfl)) (by rfl)) (@EvL.nil _ _ _ _ _ _) (by rfl)) (by rfl)) (by rfl)) (@EvL.cons _ _ _ _ _ _ _ _ _ _ (@Ev.tuple _ _ _ _ _ _ _ _ _ _ S₄.live (@EvL.cons _ _ _ _ _ _ _ _ _ _ Ev.int (@EvL.cons _ _ _ _ _ _ _ _ _ _ (@Ev.tuple _ _ _ _ _ _ _ _ _ _ S₄.live (@EvL.cons _ _ _ _ _ _ _ _ _ _ Ev.int (@EvL.cons _ _ _ _ _ _ _ _ _ _ Ev.int (@EvL.nil _ _ _ _ _ _) (by rfl)) (by rfl)) (by rfl)) (@EvL.nil _ _ _ _ _ _) (by rfl)) (by rfl)) (by rfl)) (@EvL.nil _ _ _ _ _ _) (by rfl)) (by rfl)) (by rfl))) rfl fun i hi => ?src)
      (fun m => Iv ((List.range m).flatMap part)) (fun i ρ' ow' hi => by rw [hi.1]; rfl) ⟨rfl, ⟨v1, v2, v3, v4⟩, rfl⟩ (fun _ => False) (fun i ρ => upd (upd ρ (Str.ofString "at") (.int i)) (Str.ofString "move") (.tup [.int (1 - (i : Int)), .int i])) (fun i hi => Aim.pair ok₁.handled (.inl ⟨rfl, rfl⟩) (.inl ⟨rfl, rfl⟩)) ?turn ?done ?ret (by intros; rfl))
    case src =>
      match i, hi with
      | 0, _ => rfl
      | 1, _ => rfl
    case ret => exact fun _ _ _ _ _ q => q.elim
    case done =>
      rintro s' ρ' ow' ⟨rfl, ⟨w1, w2, w3, w4⟩, wf⟩ S'
      refine st_cons (st_return S' (S'.fm.ev wf (.inl rfl)) fun v s₃ S₃ hv => ?_)
      cases hv with
      | raw _ =>
        refine ⟨_, _, _, _, rfl, S₃, ?_⟩
        have e : pths W goal (n + 1) c j = (List.range 2).flatMap part := by unfold pths; rw [if_neg c1, if_neg c3]
        rw [e]
        exact (S₃.free ha).weak hw
    case turn =>
      rintro i I hb' s' ρ' ow' E' hi ⟨rfl, ⟨w1, w2, w3, w4⟩, wf⟩ hbb S'
      have T' : Tp mean mg mb s'.heap := (T.keeps k).keeps (fun x o e => S'.kept x o (hbb x o e))
      have hD' : WOk prog w s'.heap dd H W := (hD.keep k).keep (fun x o e => S'.kept x o (hbb x o e))
      let ρ₁ : Str → Option D := upd (upd ρ' (Str.ofString "at") (.int i)) (Str.ofString "move") (.tup [.int (1 - (i : Int)), .int i])
      have x1 : ρ₁ (Str.ofString "column") = some (.int c) := w1
      have x2 : ρ₁ (Str.ofString "height") = some (.int j) := w2
      have x3 : ρ₁ (Str.ofString "goal") = some (.int goal) := w3
      have x4 : ρ₁ (Str.ofString "worths") = some (.raw (.ref dd)) := w4
      have x5 : ρ₁ (Str.ofString "found") = some (.raw (.ref a)) := wf
      have x6 : ρ₁ (Str.ofString "at") = some (.int i) := rfl
      have x7 : ρ₁ (Str.ofString "move") = some (.tup [.int (1 - (i : Int)), .int i]) := rfl
      have S₁ : Stt (I :: a :: hidN (dr 14) L hid) hb' s s' (envN (dr 14) f L cd) (ocN (dr 14) L) [(a, .lst (((List.range i).flatMap part).map pD))] ρ₁ := S'
      have step : (List.range (i + 1)).flatMap part = (List.range i).flatMap part ++ part i := by rw [List.range_succ, List.flatMap_append]; simp
      refine st_cons (st_if S₁ (Tr.cmp (Ev.bin (S₁.fm.ev x1 (.inl rfl)) (Ev.itemT (S₁.fm.ev x7 (.inl rfl)) Ev.int (by decide) (by decide) (d := .int (1 - (i : Int))) rfl) Op2.add) Ev.int Op2.ltI) fun s₅ S₅ => ?_)
      by_cases hc : c + (1 - (i : Int)) < 3
      · rw [decide_eq_true hc, if_pos rfl]
        have hp : part i = (pths W goal n (c + (1 - (i : Int))) (j + i)).map (ext W c j i) := if_pos hc
        have T₅ : Tp mean mg mb s₅.heap := (T.keeps k).keeps (fun x o e => S₅.kept x o (hbb x o e))
        have hD₅ : WOk prog w s₅.heap dd H W := (hD.keep k).keep (fun x o e => S₅.kept x o (hbb x o e))
        obtain ⟨f', os, _, _, _, hf', hso, hsd, _⟩ := T₅.fn (dr 14) in14
        rw [hf] at hf'; cases hf'
        have ih := ct_paths hf hW hg hH n (c + (1 - (i : Int))) (j + i) (A.deeper (envN (dr 14) f L cd)) _ _ T₅ hD₅ (by omega) (by omega) (by omega) (by omega) (by omega) (by omega) ok₁ S₅.live
        have hll := (pths_len W goal n (c + (1 - (i : Int))) (j + i))
        generalize hl : pths W goal n (c + (1 - (i : Int))) (j + i) = lot at ih hp hll
        have hpi := hpl i (by omega)
        refine st_cons (st_for S₅ (EvIt.congr (n := lot.length) (ds' := fun m => pD (lot.getD m (0, []))) (EvIt.list ok₁.handled (.inr ⟨_, _, _, rfl⟩) S₅.live
            (Ev.callF (Sees.global T₅ hf rfl rfl rfl) hso hsd (EvL.cons (Ev.bin (S₅.fm.ev x1 (.inl rfl)) (Ev.itemT (S₅.fm.ev x7 (.inl rfl)) Ev.int (by decide) (by decide) (d := .int (1 - (i : Int))) rfl) Op2.add) (EvL.cons (Ev.bin (S₅.fm.ev x2 (.inl rfl)) (Ev.itemT (S₅.fm.ev x7 (.inl rfl)) Ev.int (by decide) (by decide) (d := .int (i : Int)) rfl) Op2.add) (EvL.cons (S₅.fm.ev x3 (.inl rfl)) (EvL.cons (S₅.fm.ev x4 (.inl rfl)) EvL.nil)))) ih)) (List.length_map ..) fun m hm => getD_map pD lot m .none (0, []) hm)
          (fun m ρ ow => Iv ((List.range i).flatMap part ++ (lot.take m).map (ext W c j i)) ρ ow ∧ ρ (Str.ofString "at") = some (.int i)) (fun m ρ' ow' hi => by rw [hi.1.1]; rfl) ⟨⟨by simp, ⟨x1, x2, x3, x4⟩, x5⟩, x6⟩ (fun _ => False)
          (fun m ρ => upd (upd ρ (Str.ofString "worth") (.int (lot.getD m (0, [])).1)) (Str.ofString "places") (.lst ((lot.getD m (0, [])).2.map dp))) (fun m hm => Aim.pair ok₁.handled (.inl ⟨rfl, rfl⟩) (.inl ⟨rfl, rfl⟩)) ?turn ?done ?ret)
        case ret => exact fun _ _ _ _ _ q => q.elim
        case done =>
          rintro s6 ρ6 ow6 ⟨⟨rfl, V6, wf6⟩, _⟩ S6
          refine wpAny_execs_nil (wpAny_execs_nil ⟨_, _, S6, ?_, V6, wf6⟩)
          rw [step, hp, List.take_length]
        case turn =>
          rintro m I2 hb2 s6 ρ6 ow6 E6 hm ⟨⟨rfl, ⟨y1, y2, y3, y4⟩, y5⟩, y6⟩ hbb2 S6
          let ρ₂ : Str → Option D := upd (upd ρ6 (Str.ofString "worth") (.int (lot.getD m (0, [])).1)) (Str.ofString "places") (.lst ((lot.getD m (0, [])).2.map dp))
          have z1 : ρ₂ (Str.ofString "column") = some (.int c) := y1
          have z2 : ρ₂ (Str.ofString "height") = some (.int j) := y2
          have z4 : ρ₂ (Str.ofString "worths") = some (.raw (.ref dd)) := y4
          have z5 : ρ₂ (Str.ofString "found") = some (.raw (.ref a)) := y5
          have z6 : ρ₂ (Str.ofString "at") = some (.int i) := y6
          have z7 : ρ₂ (Str.ofString "worth") = some (.int (lot.getD m (0, [])).1) := rfl
          have z8 : ρ₂ (Str.ofString "places") = some (.lst ((lot.getD m (0, [])).2.map dp)) := rfl
          have hmem : lot.getD m (0, []) ∈ lot := by rw [List.getD_eq_getElem?_getD, List.getElem?_eq_getElem hm]; exact List.getElem_mem hm
          obtain ⟨xs, hDx, hat⟩ := (hD.keep k).keep (fun x o e => S6.kept x o (hbb2 x o (hbb x o e)))
          obtain ⟨adr, tk, hat'⟩ := hat c j i c0 (by omega) j0 (by omega) hi
          refine st_cons (st_append S6 (fun _ q => nomatch q) (S6.fm.ev z5 (.inl rfl))
            (d := pD (ext W c j i (lot.getD m (0, []))))
            (Ev.tuple S6.live (EvL.cons (Ev.bin (S6.fm.ev z7 (.inl rfl)) (Ev.dictItem (by have := ok₁.units; omega) hDx (S6.fm.ev z4 (.inl rfl)) (Ev.tuple S6.live (EvL.cons (S6.fm.ev z1 (.inl rfl)) (EvL.cons (S6.fm.ev z2 (.inl rfl)) (EvL.cons (S6.fm.ev z6 (.inl rfl)) EvL.nil)))) hat') (Op2.mul (mulOk_right (by have := hW c j i; omega))))
              (EvL.cons (Ev.bin (Ev.list S6.live (EvL.cons (Ev.tuple S6.live (EvL.cons (S6.fm.ev z1 (.inl rfl)) (EvL.cons (S6.fm.ev z2 (.inl rfl)) EvL.nil))) EvL.nil)) (S6.fm.ev z8 (.inl rfl)) (Op2.concat S6.live ?sz)) EvL.nil))) ?sz2 fun s7 S7 => ?_)
          case sz =>
            have := hll.2 _ hmem
            have := sizeLine_eq
            rw [List.length_map]
            simp only [List.length_cons, List.length_nil]
            omega
          case sz2 =>
            have := sizeLine_eq
            rw [List.length_map, List.length_append, List.length_map, List.length_take]
            have : 2 ^ n ≤ 512 := h2n
            have : i * 2 ^ n ≤ 1 * 2 ^ n := Nat.mul_le_mul_right _ (by omega)
            have := hll.1
            omega
          refine wpAny_execs_nil ⟨_, _, S7, ⟨?_, ⟨z1, z2, y3, z4⟩, z5⟩, z6⟩
          have e1 : lot.take (m + 1) = lot.take m ++ [lot.getD m (0, [])] := by
            rw [List.take_add_one, List.getD_eq_getElem?_getD, List.getElem?_eq_getElem hm]; rfl
          rw [e1]
          simp
      · rw [decide_eq_false hc, if_neg Bool.false_ne_true]
        have hp : part i = [] := if_neg hc
        refine wpAny_execs_nil (wpAny_execs_nil ⟨_, _, S₅, ?_, ⟨x1, x2, x3, x4⟩, x5⟩)
        rw [step, hp, List.append_nil]
end
end Mine
end

-- Pr8
section
namespace Mine
open PySem PySem.W PySem.Calls PySem.Spec PyProof.Rows

theorem mulOk_left {a b : Int} (h : a.natAbs < 2 ^ 60) : IntMulOk a b := IntMulOk.of_left (by
  unfold Builtin.Int.intBits
  split
  · decide
  · rename_i hb
    have hb' : a.natAbs ≠ 0 := by
      intro q
      exact hb (by simpa using q)
    have := (Nat.log2_lt hb').mpr h
    omega)
theorem flatL_map {α : Type} {f : α → D} (l : List α) (h : ∀ a ∈ l, flat (f a) = true) : flatL (l.map f) = true := by
  induction l with
  | nil => rfl
  | cons a l ih => simp [flatL, h a (.head _), ih fun b m => h b (.tail _ m)]
theorem flat_lst {l : List D} : flat (.lst l) = flatL l := by simp [flat]
theorem eqv_nil (ds : List D) : PyData.eqv (toPy (.lst ds)) (toPy (.lst [])) = ds.isEmpty := by
  cases ds with
  | nil => simp [toPy, toPyL, PyData.eqv, PyData.eqvAll]
  | cons d ds => simp [toPy, toPyL, PyData.eqv, PyData.eqvAll]
theorem depth_nil (x : Nat) : min x (toPy (.lst [])).depth ≤ 1 := by simp [toPy, toPyL, PyData.depth, PyData.depthAll]; omega

section
variable {prog : Program} {w : World} {A : Around} {hid : List Addr} {h : Heap} {ds : List D}
theorem Op2.eqNil (hf : flatL ds = true) (hu : A.units + 1 < cLine) : Op2 prog w A hid h (compareOp .Eq) (.lst ds) (.lst []) (.bool ds.isEmpty) := by
  have := Op2.eq (prog := prog) (w := w) (A := A) (hid := hid) (h := h) (a := .lst ds) (b := .lst []) (flat_lst.trans hf) rfl (by have := depth_nil (toPy (.lst ds)).depth; omega)
  rw [eqv_nil] at this
  exact this
theorem Op2.neNil (hf : flatL ds = true) (hu : A.units + 1 < cLine) : Op2 prog w A hid h (compareOp .NotEq) (.lst ds) (.lst []) (.bool (!ds.isEmpty)) := by
  have := Op2.ne (prog := prog) (w := w) (A := A) (hid := hid) (h := h) (a := .lst ds) (b := .lst []) (flat_lst.trans hf) rfl (by have := depth_nil (toPy (.lst ds)).depth; omega)
  rw [eqv_nil] at this
  exact this
end

theorem flat_dp (p : Int × Int) : flat (dp p) = true := rfl
theorem flat_pD (p : Path) : flat (pD p) = true := by
  have := flatL_map (f := dp) p.2 fun a _ => flat_dp a
  simp [pD, flat, flatL, this]
def lotD (l : List Path) : D := .lst (l.map pD)
theorem flat_lotD (l : List Path) : flat (lotD l) = true := flat_lst.trans (flatL_map l fun a _ => flat_pD a)

def clash (taken ps : List (Int × Int)) : Bool := ps.any fun q => taken.any fun p => decide (p = q)
def apt : List (List Path) → List (Int × Int) → Int
  | [], _ => 1
  | lot :: lots, taken => lot.foldl (fun acc p => if clash taken p.2 = true then acc else acc + p.1 * apt lots (taken ++ p.2)) 0

section
variable {prog : Program} {w : World} {mean : ExcName → Option Value} {mg mb : Str → Option Value}
set_option maxHeartbeats 4000000 in
theorem ct_apart {f : Addr} (hf : mg (dr 15).name = some (.ref f)) : ∀ (lots : List (List Path)) (taken : List (Int × Int)) (A : Around) (hid : List Addr) (h : Heap), Tp mean mg mb h → (∀ lot ∈ lots, ∀ p ∈ lot, p.1.natAbs < 2 ^ 60 ∧ p.2.length ≤ 20) → taken.length + 20 * lots.length ≤ 1000 → AOk A (lots.length + 2) → Live hid h →
    Ct prog w A hid h (.ref f) [.lst (lots.map lotD), .lst (taken.map dp)] (.int (apt lots taken)) := by
  intro lots
  induction lots with
  | nil =>
    intro taken A hid h T hp hz ok lv s vs Q E k hv hQ
    cases hv with
    | cons h1 hv => cases hv with
      | cons h2 hv =>
        cases hv
        rename_i v v2
        refine enter (d := dr 15) (T.keeps k) in15 hf ok.room (lv.keep k) (binds := [(Str.ofString "lots", v), (Str.ofString "taken", v2)]) (bds := [(Str.ofString "lots", .lst []), (Str.ofString "taken", .lst (taken.map dp))]) (ns := [Str.ofString "lots", Str.ofString "taken"]) (fun pm code doc => rfl) rfl (.cons h1 (.cons h2 .nil)) rfl (by decide +kernel) (by decide +kernel) (by decide +kernel) (by decide +kernel) (by decide +kernel) (fun L cd s₁ E hk S => ?_) hQ
        have ok₁ := ok.deeper (envN (dr 15) f L cd)
        have v1 : (bindD [(Str.ofString "lots", D.lst []), (Str.ofString "taken", .lst (taken.map dp))] fun _ => none) (Str.ofString "lots") = some (.lst []) := rfl
        refine st_cons (st_if S (Tr.cmp (S.fm.ev v1 (.inl rfl)) (Ev.list S.live EvL.nil) (Op2.eqNil rfl (by have := ok₁.units; omega))) fun s₂ S₂ => ?_)
        rw [show ([] : List D).isEmpty = true from rfl, if_pos rfl]
        refine st_cons (st_return S₂ Ev.int fun v s₃ S₃ hv => ?_)
        exact ⟨_, _, _, _, rfl, S₃, hv.weak fun a m => .tail _ (List.mem_append.mpr (.inr m))⟩
  | cons lot lots ih =>
    intro taken A hid h T hp hz ok lv s vs Q E k hv hQ
    cases hv with
    | cons h1 hv => cases hv with
      | cons h2 hv =>
        cases hv
        rename_i v v2
        refine enter (d := dr 15) (T.keeps k) in15 hf ok.room (lv.keep k) (binds := [(Str.ofString "lots", v), (Str.ofString "taken", v2)]) (bds := [(Str.ofString "lots", .lst ((lot :: lots).map lotD)), (Str.ofString "taken", .lst (taken.map dp))]) (ns := [Str.ofString "lots", Str.ofString "taken"]) (fun pm code doc => rfl) rfl (.cons h1 (.cons h2 .nil)) rfl (by decide +kernel) (by decide +kernel) (by decide +kernel) (by decide +kernel) (by decide +kernel) (fun L cd s₁ E hk S => ?_) hQ
        have ok₁ := ok.deeper (envN (dr 15) f L cd)
        have hw : ∀ a ∈ hid, a ∈ hidN (dr 15) L hid := fun a m => .tail _ (List.mem_append.mpr (.inr m))
        have v1 : (bindD [(Str.ofString "lots", D.lst ((lot :: lots).map lotD)), (Str.ofString "taken", .lst (taken.map dp))] fun _ => none) (Str.ofString "lots") = some (.lst ((lot :: lots).map lotD)) := rfl
        have v2' : (bindD [(Str.ofString "lots", D.lst ((lot :: lots).map lotD)), (Str.ofString "taken", .lst (taken.map dp))] fun _ => none) (Str.ofString "taken") = some (.lst (taken.map dp)) := rfl
        generalize (bindD [(Str.ofString "lots", D.lst ((lot :: lots).map lotD)), (Str.ofString "taken", .lst (taken.map dp))] fun _ => none) = ρ at S v1 v2'
        refine st_cons (st_if S (Tr.cmp (S.fm.ev v1 (.inl rfl)) (Ev.list S.live EvL.nil) (Op2.eqNil (flatL_map _ fun a _ => flat_lotD a) (by have := ok₁.units; omega))) fun s₂ S₂ => ?_)
        rw [show ((lot :: lots).map lotD).isEmpty = false from rfl, if_neg Bool.false_ne_true]
        refine wpAny_execs_nil ?_
        refine st_cons (st_expr_name S₂ Ev.int (.inl ⟨rfl, rfl⟩) fun s₃ S₃ => ?_)
        let step : Int → Path → Int := fun acc p => if clash taken p.2 = true then acc else acc + p.1 * apt lots (taken ++ p.2)
        let Iv : Int → (Str → Option D) → List (Addr × Ob) → Prop := fun x ρ ow => ow = [] ∧ ρ (Str.ofString "lots") = some (.lst ((lot :: lots).map lotD)) ∧ ρ (Str.ofString "taken") = some (.lst (taken.map dp)) ∧ ρ (Str.ofString "found") = some (.int x)
        have z1 : (upd ρ (Str.ofString "found") (.int 0)) (Str.ofString "lots") = some (.lst ((lot :: lots).map lotD)) := v1
        refine st_cons (st_for S₃ (EvIt.congr (n := lot.length) (ds' := fun m => pD (lot.getD m (0, []))) (EvIt.list ok₁.handled (.inr ⟨_, _, _, rfl⟩) S₃.live (Ev.item (S₃.fm.ev z1 (.inl rfl)) Ev.int (by decide) (by decide) (d := .lst (lot.map pD)) rfl)) (List.length_map ..) fun m hm => getD_map pD lot m .none (0, []) hm)
          (fun i => Iv ((lot.take i).foldl step 0)) (fun i ρ' ow' hi => by rw [hi.1]) ⟨rfl, v1, v2', rfl⟩ (fun _ => False) (fun m ρ => upd (upd ρ (Str.ofString "worth") (.int (lot.getD m (0, [])).1)) (Str.ofString "places") (.lst ((lot.getD m (0, [])).2.map dp))) (fun m hm => Aim.pair ok₁.handled (.inl ⟨rfl, rfl⟩) (.inl ⟨rfl, rfl⟩)) ?turn ?done ?ret)
        case ret => exact fun _ _ _ _ _ q => q.elim
        case done =>
          rintro s' ρ' ow' ⟨rfl, _, _, w3⟩ S'
          rw [List.take_length] at w3
          refine st_cons (st_return S' (S'.fm.ev w3 (.inl rfl)) fun v s₃ S₃ hv => ?_)
          exact ⟨_, _, _, _, rfl, S₃, hv.weak hw⟩
        case turn =>
          rintro i I hb' s' ρ' ow' E' hi ⟨rfl, w1, w2, w3⟩ hbb S'
          generalize hq : lot.getD i (0, []) = q at S'
          have hmem : q ∈ lot := by rw [← hq, List.getD_eq_getElem?_getD, List.getElem?_eq_getElem hi]; exact List.getElem_mem hi
          have hpq := hp lot (.head _) q hmem
          let ρ₁ : Str → Option D := upd (upd ρ' (Str.ofString "worth") (.int q.1)) (Str.ofString "places") (.lst (q.2.map dp))
          have x1 : ρ₁ (Str.ofString "lots") = some (.lst ((lot :: lots).map lotD)) := w1
          have x2 : ρ₁ (Str.ofString "taken") = some (.lst (taken.map dp)) := w2
          have x3 : ρ₁ (Str.ofString "found") = some (.int ((lot.take i).foldl step 0)) := w3
          have x4 : ρ₁ (Str.ofString "worth") = some (.int q.1) := rfl
          have x5 : ρ₁ (Str.ofString "places") = some (.lst (q.2.map dp)) := rfl
          have S₁ : Stt (I :: hidN (dr 15) L hid) hb' s s' (envN (dr 15) f L cd) (ocN (dr 15) L) [] ρ₁ := S'
          have e1 : (lot.take (i + 1)).foldl step 0 = step ((lot.take i).foldl step 0) q := by
            rw [List.take_add_one, List.getElem?_eq_getElem hi, List.foldl_append]
            have : lot[i] = q := by rw [← hq, List.getD_eq_getElem?_getD, List.getElem?_eq_getElem hi]; rfl
            rw [this]; rfl
          have pc : pick [(Str.ofString "taken", L + 1)] ρ₁ (Str.ofString "taken") = some (.lst (taken.map dp)) := x2
          refine st_cons (st_if S₁ (b := !clash taken q.2) (Tr.cmp (Ev.comp S₁.live (EvIt.congr (n := q.2.length) (ds' := fun m => dp (q.2.getD m (0, 0))) (EvIt.list ok₁.handled (.inl ⟨_, _, rfl⟩) S₁.live (S₁.fm.ev x5 (.inl rfl))) (List.length_map ..) fun m hm => getD_map dp q.2 m .none (0, 0) hm) (cl := [(Str.ofString "taken", L + 1)]) rfl
              (p := fun m => taken.any fun p => decide (p = q.2.getD m (0, 0))) (f := fun _ => .int 1)
              (ClOk.cpN (ClOk.cons (by decide +kernel) rfl (.inl rfl) x2 .nil) S₁.fm (by have := sizeLine_eq; omega) rfl (by decide +kernel) rfl (fun C => ⟨_, .inl ⟨rfl, rfl⟩⟩)
                (fun m hm C hid' h' hsub lv' k' F' => Ts.one (Tr.cmp (F'.ev (d := dp (q.2.getD m (0, 0))) rfl (.inl rfl)) (F'.ev pc (.inr (.inl rfl))) (Op2.inPlaces (by have := ok₁.units; omega)))) fun m hm _ C hid' h' hsub lv' k' F' => Ev.int))
            (Ev.list S₁.live EvL.nil) ?cmp) fun s₄ S₄ => ?_)
          case cmp =>
            have := Op2.eqNil (prog := prog) (w := w) (A := A.deeper (envN (dr 15) f L cd)) (hid := I :: hidN (dr 15) L hid) (h := s'.heap) (ds := ((List.range q.2.length).filter fun m => taken.any fun p => decide (p = q.2.getD m (0, 0))).map fun _ => D.int 1) (flatL_map _ fun _ _ => rfl) (by have := ok₁.units; omega)
            have e : (((List.range q.2.length).filter fun m => taken.any fun p => decide (p = q.2.getD m (0, 0))).map fun _ => D.int 1).isEmpty = !clash taken q.2 := by
              have : clash taken q.2 = (List.range q.2.length).any fun m => taken.any fun p => decide (p = q.2.getD m (0, 0)) := by
                unfold clash
                conv => lhs; rw [← List.map_id q.2, ← map_range_getD id q.2 (0, 0)]
                rw [List.any_map]
                rfl
              rw [this]
              generalize List.range q.2.length = l
              induction l with
              | nil => rfl
              | cons m l ih =>
                rw [List.filter_cons, List.any_cons]
                cases (taken.any fun p => decide (p = q.2.getD m (0, 0))) with
                | true => rfl
                | false => simpa using ih
            rw [e] at this
            exact this
          cases hcl : clash taken q.2 with
          | true =>
            rw [Bool.not_true, if_neg Bool.false_ne_true]
            refine wpAny_execs_nil (wpAny_execs_nil ⟨_, _, S₄, rfl, x1, x2, ?_⟩)
            rw [e1]
            show _ = some (D.int (if clash taken q.2 = true then _ else _))
            rw [if_pos hcl]
            exact x3
          | false =>
            rw [Bool.not_false, if_pos rfl]
            have T₄ : Tp mean mg mb s₄.heap := (T.keeps k).keeps (fun x o e => S₄.kept x o (hbb x o e))
            obtain ⟨f', os, _, _, _, hf', hso, hsd, _⟩ := T₄.fn (dr 15) in15
            rw [hf] at hf'; cases hf'
            have ih' := ih (taken ++ q.2) (A.deeper (envN (dr 15) f L cd)) _ _ T₄ (fun lot' hl => hp lot' (.tail _ hl)) (by rw [List.length_append]; simp only [List.length_cons] at hz; omega) (ok₁.le (by simp)) S₄.live
            rw [List.map_append] at ih'
            refine st_cons (st_expr_name S₄ (d := .int ((lot.take i).foldl step 0 + q.1 * apt lots (taken ++ q.2))) (Ev.bin (S₄.fm.ev x3 (.inl rfl)) (Ev.bin (S₄.fm.ev x4 (.inl rfl)) (Ev.callF (Sees.global T₄ hf rfl rfl rfl) hso hsd
                (EvL.cons (Ev.sliceFrom S₄.live (S₄.fm.ev x1 (.inl rfl)) Ev.int (by decide) ?sz) (EvL.cons (Ev.bin (S₄.fm.ev x2 (.inr (.inl rfl))) (S₄.fm.ev x5 (.inl rfl)) (Op2.concat S₄.live ?sz2)) EvL.nil)) ih') (Op2.mul ?mul)) Op2.add) (.inl ⟨rfl, rfl⟩) fun s₅ S₅ => ?_)
            case sz => have := sizeLine_eq; rw [List.length_map]; simp only [List.length_cons] at hz ⊢; omega
            case sz2 => have := sizeLine_eq; rw [List.length_map, List.length_map]; simp only [List.length_cons] at hz; omega
            case mul => exact mulOk_left hpq.1
            refine wpAny_execs_nil (wpAny_execs_nil ⟨_, _, S₅, rfl, x1, x2, ?_⟩)
            rw [e1]
            show _ = some (D.int (if clash taken q.2 = true then _ else _))
            rw [if_neg (by rw [hcl]; exact Bool.false_ne_true)]
            rfl
end
end Mine
end

-- Pr9
section
namespace Mine
open PySem PySem.W PySem.Calls PySem.Spec PyProof.Rows

def pvF (g : Mat) (step : Nat) : Nat → Nat → Option Nat
  | 0, _ => none
  | m + 1, row => if g row step ≠ 0 then some row else pvF g step m (row + 1)
def pvD : Option Nat → D
  | none => .none
  | some r => .int r

section
variable {prog : Program} {w : World} {mean : ExcName → Option Value} {mg mb : Str → Option Value} {A : Around} {hid : List Addr} {h : Heap}
set_option maxHeartbeats 4000000 in
theorem ct_pivot (T : Tp mean mg mb h) {f : Addr} (hf : mg (dr 3).name = some (.ref f)) {n step : Nat} {g : Mat} (hn : n < 1000) (hs : step < n) (ok : AOk A 2) (lv : Live hid h) : Ct prog w A hid h (.ref f) [gM n g, .int step] (pvD (pvF g step (n - step) step)) := fun s vs Q E k hv hQ => by
  cases hv with
  | cons h1 hv => cases hv with
    | cons h2 hv =>
      cases hv
      rename_i v v2
      refine enter (d := dr 3) (T.keeps k) in3 hf ok.room (lv.keep k) (binds := [(Str.ofString "a", v), (Str.ofString "step", v2)]) (bds := [(Str.ofString "a", gM n g), (Str.ofString "step", .int step)]) (ns := [Str.ofString "a", Str.ofString "step"]) (fun pm code doc => rfl) rfl (.cons h1 (.cons h2 .nil)) rfl (by decide +kernel) (by decide +kernel) (by decide +kernel) (by decide +kernel) (by decide +kernel) (fun L cd s₁ E hk S => ?_) hQ
      have ok₁ := ok.deeper (envN (dr 3) f L cd)
      have hw : ∀ a ∈ hid, a ∈ hidN (dr 3) L hid := fun a m => .tail _ (List.mem_append.mpr (.inr m))
      have T₁ : Tp mean mg mb s₁.heap := (T.keeps k).keeps hk
      have v1 : (bindD [(Str.ofString "a", gM n g), (Str.ofString "step", .int step)] fun _ => none) (Str.ofString "a") = some (gM n g) := rfl
      have v2' : (bindD [(Str.ofString "a", gM n g), (Str.ofString "step", .int step)] fun _ => none) (Str.ofString "step") = some (.int step) := rfl
      generalize (bindD [(Str.ofString "a", gM n g), (Str.ofString "step", .int step)] fun _ => none) = ρ at S v1 v2'
      have el : (((List.range n).map fun i => D.lst (rowL n g i)).length : Int) = (n : Nat) := by simp
      refine st_cons (st_for S (EvIt.range2 (a := step) (b := n) ok₁.handled (.inl ⟨_, _, rfl⟩) (Sees.builtin T₁ (mg_range T₁) (mb_range T₁) rfl rfl rfl rfl) (S.fm.ev v2' (.inl rfl)) (Ev.callB (Sees.builtin T₁ (mg_len T₁) (mb_len T₁) rfl rfl rfl rfl) (EvL.cons (S.fm.ev v1 (.inl rfl)) EvL.nil) (el ▸ ct_len (by simp; omega))) (by omega) (by omega) (by omega) (by omega))
        (fun i ρ ow => ow = [] ∧ ρ (Str.ofString "a") = some (gM n g) ∧ ρ (Str.ofString "step") = some (.int step) ∧ pvF g step (n - step) step = pvF g step (n - step - i) (step + i)) (fun i ρ' ow' hi => by rw [hi.1]) ⟨rfl, v1, v2', rfl⟩ (fun d => d = pvD (pvF g step (n - step) step))
        (fun i ρ => upd ρ (Str.ofString "row") (.int ((step : Int) + (i : Int)))) (fun i hi => Aim.name (.inl ⟨rfl, rfl⟩)) ?turn ?done ?ret)
      case ret =>
        rintro v d s' ρ' ow' rfl hv S'
        exact ⟨_, _, _, _, rfl, S', hv.weak hw⟩
      case done =>
        rintro s' ρ' ow' ⟨rfl, w1, w2, w3⟩ S'
        have e : n - step - ((n : Int) - (step : Int)).toNat = 0 := by omega
        rw [e] at w3
        refine st_cons (st_return S' Ev.noneC fun v s₃ S₃ hv => ?_)
        rw [w3]
        exact ⟨_, _, _, _, rfl, S₃, hv.weak hw⟩
      case turn =>
        rintro i I hb' s' ρ' ow' E' hi ⟨rfl, w1, w2, w3⟩ hbb S'
        have x1 : (upd ρ' (Str.ofString "row") (.int ((step : Int) + (i : Int)))) (Str.ofString "a") = some (gM n g) := w1
        have x2 : (upd ρ' (Str.ofString "row") (.int ((step : Int) + (i : Int)))) (Str.ofString "step") = some (.int step) := w2
        have hi' : step + i < n := by omega
        have er : ((step : Int) + (i : Int)).toNat = step + i := by omega
        refine st_cons (st_if S' (Tr.cmp (Ev.item (d := .int (g (step + i) step)) (Ev.item (d := .lst (rowL n g (step + i))) (S'.fm.ev x1 (.inl rfl)) (S'.fm.ev rfl (.inl rfl)) (by omega) (by omega) ?g1) (S'.fm.ev x2 (.inl rfl)) (by omega) (by omega) ?g2) Ev.int Op2.neI) fun s₅ S₅ => ?_)
        case g1 => rw [er, List.getElem?_map, List.getElem?_range hi']; rfl
        case g2 => exact rowL_get (j := (step : Int).toNat) (by omega)
        have ef : n - step - i = (n - step - (i + 1)) + 1 := by omega
        rw [ef] at w3
        by_cases hz : g (step + i) step = 0
        · rw [show (g (step + i) step != 0) = false by simp [hz], if_neg Bool.false_ne_true]
          refine wpAny_execs_nil (wpAny_execs_nil ⟨_, _, S₅, rfl, x1, x2, ?_⟩)
          rw [w3]
          show (if g (step + i) step ≠ 0 then _ else _) = _
          rw [if_neg (by simp [hz])]; rfl
        · rw [show (g (step + i) step != 0) = true by simp [hz], if_pos rfl]
          refine st_cons (st_return S₅ (d := .int ((step : Int) + (i : Int))) (S₅.fm.ev rfl (.inl rfl)) fun v s₃ S₃ hv => ?_)
          refine ⟨_, _, S₃, rfl, _, hv, ?_⟩
          rw [w3]
          show _ = pvD (if g (step + i) step ≠ 0 then _ else _)
          rw [if_pos hz]
          show _ = D.int ((step + i : Nat) : Int)
          congr 1
end
end Mine
end

-- Pr10
section
namespace Mine
open PySem PySem.W PySem.Calls PySem.Spec PyProof.Rows

def bcell (n : Nat) (g : Mat) (step : Nat) (ahead : Int) (i j : Nat) : Int := if j = step then 0 else if step < j ∧ j < n then (g i j * g step step - g i step * g step j).fdiv ahead else g i j
/-- the rows from step + 1 up to R are done -/
def bst (n : Nat) (g : Mat) (step : Nat) (ahead : Int) (R : Nat) : Mat := fun i j => if step < i ∧ i < R then bcell n g step ahead i j else g i j
/-- and in row R the columns from step + 1 up to C -/
def bin (n : Nat) (g : Mat) (step : Nat) (ahead : Int) (R C : Nat) : Mat := fun i j => if i = R ∧ step < j ∧ j < C then (g i j * g step step - g i step * g step j).fdiv ahead else bst n g step ahead R i j

section
variable {prog : Program} {w : World} {mean : ExcName → Option Value} {mg mb : Str → Option Value} {A : Around} {hid : List Addr} {s : Shared} {E : Value → Shared → Prop}
open Classical in
set_option maxHeartbeats 4000000 in
theorem call_bareiss {h₀ : Heap} (T : Tp mean mg mb h₀) (k0 : Kept h₀ s.heap) {f : Addr} (hf : mg (dr 4).name = some (.ref f)) {P : Addr} {rs : Nat → Addr} {n step : Nat} {g : Mat} {ahead : Int} {v v' : Value} {Q : Value → Shared → Prop}
    (hn : n < 1000) (hs : step < n) (inj : ∀ i j, i < n → j < n → rs i = rs j → i = j) (hne : ∀ i, i < n → rs i ≠ P) (nP : ∀ b, (b = P ∨ ∃ i, i < n ∧ b = rs i) → h₀.get? b = none)
    (hB : step + 1 < n → (∀ i j, (g i j).natAbs < 2 ^ 60) ∧ ahead ≠ 0 ∧ ahead.natAbs < 2 ^ 30) (ok : AOk A 2) (lv : Live hid s.heap) (hO : ∀ p ∈ ownG P rs n g, p.1 ∈ hid ∧ p.2.ok hid s.heap p.1) (hv : Has hid s.heap v (.int step)) (hv' : Has hid s.heap v' (.int ahead))
    (hQ : ∀ s', s' = { s with heap := s'.heap, toks := s'.toks } → (∀ b o, ¬ (b = P ∨ ∃ i, i < n ∧ b = rs i) → s.heap.get? b = some o → s'.heap.get? b = some o) → (∀ p ∈ ownG P rs n (bst n g step ahead n), p.2.ok hid s'.heap p.1) → Q .none s') :
    wpAny (model prog w) A (call (.ref f) [.ref P, v, v']) Q E s := by
  refine enterO (d := dr 4) (hb := fun b => if (b = P ∨ ∃ i, i < n ∧ b = rs i) then none else s.heap.get? b) (ow := ownG P rs n g) (fun b o e => ?_) (fun p hp => ?_) (T.keeps k0) in4 hf ok.room lv (binds := [(Str.ofString "a", .ref P), (Str.ofString "step", v), (Str.ofString "ahead", v')]) (bds := [(Str.ofString "a", .raw (.ref P)), (Str.ofString "step", .int step), (Str.ofString "ahead", .int ahead)]) (ns := [Str.ofString "a", Str.ofString "step", Str.ofString "ahead"]) (fun pm code doc => rfl) rfl (.cons (.raw _) (.cons hv (.cons hv' .nil))) rfl (by decide +kernel) (by decide +kernel) (by decide +kernel) (by decide +kernel) (by decide +kernel) (fun L c s₁ E hL hk' S => ?_)
  · split at e
    · cases e
    · exact e
  · obtain ⟨h1, h2⟩ := hO p hp
    refine ⟨h1, if_pos ?_, h2⟩
    rcases List.mem_cons.mp hp with rfl | hp
    · exact .inl rfl
    · obtain ⟨i, hi, rfl⟩ := List.mem_map.mp hp
      exact .inr ⟨i, List.mem_range.mp hi, rfl⟩
  have k00 : ∀ b o, h₀.get? b = some o → (if (b = P ∨ ∃ i, i < n ∧ b = rs i) then none else s.heap.get? b) = some o := fun b o e => (if_neg fun q => by rw [nP b q] at e; cases e).trans (k0 b o e)
  have ok₁ := ok.deeper (envN (dr 4) f L c)
  have hw : ∀ a ∈ hid, a ∈ hidN (dr 4) L hid := fun a m => .tail _ (List.mem_append.mpr (.inr m))
  have e1 : (bindD [(Str.ofString "a", D.raw (.ref P)), (Str.ofString "step", .int step), (Str.ofString "ahead", .int ahead)] fun _ => none) (Str.ofString "a") = some (.raw (.ref P)) := rfl
  have e2 : (bindD [(Str.ofString "a", D.raw (.ref P)), (Str.ofString "step", .int step), (Str.ofString "ahead", .int ahead)] fun _ => none) (Str.ofString "step") = some (.int step) := rfl
  have e3 : (bindD [(Str.ofString "a", D.raw (.ref P)), (Str.ofString "step", .int step), (Str.ofString "ahead", .int ahead)] fun _ => none) (Str.ofString "ahead") = some (.int ahead) := rfl
  generalize (bindD [(Str.ofString "a", D.raw (.ref P)), (Str.ofString "step", .int step), (Str.ofString "ahead", .int ahead)] fun _ => none) = ρ at S e1 e2 e3
  generalize hhb : (fun b => if (b = P ∨ ∃ i, i < n ∧ b = rs i) then none else s.heap.get? b) = hb at S
  have k0b : ∀ b o, h₀.get? b = some o → hb b = some o := fun b o e => by rw [← hhb]; exact k00 b o e
  have lenCt : ∀ {A : Around} {hid' : List Addr} {hb' : Addr → Option Obj} {σ s' : Shared} {env : Env} {oc : List (Str × Addr)} {g' : Mat} {ρ' : Str → Option D}, Stt hid' hb' σ s' env oc (ownG P rs n g') ρ' → Ct prog w A hid' s'.heap (.builtin "len") [.raw (.ref P)] (.int n) := fun {A hid' hb' σ s' env oc g' ρ'} S' =>
    Ct.bare1 (own_has S') (.inr ⟨_, rfl⟩) (by
      have el : (((List.range n).map fun i => D.lst (rowL n g' i)).length : Int) = (n : Nat) := by simp
      exact el ▸ ct_len (by simp; omega))
  have est : (step : Int).toNat = step := by omega
  -- lead
  refine st_cons (st_expr_name S (d := .int (g step step)) (Ev.cellOwn S hn (i := step) (j := step) (by omega) (by omega) (by omega) (by omega) (S.fm.ev e1 (.inl rfl)) (S.fm.ev e2 (.inl rfl)) (S.fm.ev e2 (.inl rfl))) (.inl ⟨rfl, rfl⟩) fun s₂ S₂ => ?_)
  let Vs : (Str → Option D) → Prop := fun ρ => ρ (Str.ofString "a") = some (.raw (.ref P)) ∧ ρ (Str.ofString "step") = some (.int step) ∧ ρ (Str.ofString "ahead") = some (.int ahead) ∧ ρ (Str.ofString "lead") = some (.int (g step step))
  have V₂ : Vs (upd ρ (Str.ofString "lead") (.int (g step step))) := ⟨e1, e2, e3, rfl⟩
  generalize upd ρ (Str.ofString "lead") (.int (g step step)) = ρ₁ at S₂ V₂
  have T₂ : Tp mean mg mb s₂.heap := T.keeps fun b o e => S₂.kept b o (k0b b o e)
  obtain ⟨v1, v2, v3, v4⟩ := V₂
  refine st_cons (st_for S₂ (EvIt.range2 (a := (step : Int) + 1) (b := n) ok₁.handled (.inl ⟨_, _, rfl⟩) (Sees.builtin T₂ (mg_range T₂) (mb_range T₂) rfl rfl rfl rfl) (Ev.bin (S₂.fm.ev v2 (.inl rfl)) Ev.int Op2.add) (Ev.callB (Sees.builtin T₂ (mg_len T₂) (mb_len T₂) rfl rfl rfl rfl) (EvL.cons (S₂.fm.ev v1 (.inl rfl)) EvL.nil) (lenCt S₂)) (by omega) (by omega) (by omega) (by omega))
    (fun i ρ ow => ow = ownG P rs n (bst n g step ahead (step + 1 + i)) ∧ Vs ρ) (fun i ρ' ow' hi => by rw [hi.1]; simp [ownG]) ⟨?i0, v1, v2, v3, v4⟩ (fun _ => False)
    (fun i ρ => upd ρ (Str.ofString "row") (.int ((step : Int) + 1 + (i : Int)))) (fun i hi => Aim.name (.inl ⟨rfl, rfl⟩)) ?turn ?done ?ret)
  case i0 =>
    have : bst n g step ahead (step + 1 + 0) = g := by
      funext i j; unfold bst; rw [if_neg (by omega)]
    rw [this]
  case ret => exact fun _ _ _ _ _ q => q.elim
  case done =>
    rintro s' ρ' ow' ⟨rfl, _⟩ S'
    have e : step + 1 + ((n : Int) - ((step : Int) + 1)).toNat = n := by omega
    rw [e] at S'
    refine wpAny_execs_nil (hQ _ S'.same (fun b o hb' e' => S'.kept b o (by rw [← hhb]; exact (if_neg hb').trans e')) fun p hp => ?_)
    obtain ⟨_, _, c⟩ := S'.own p hp
    obtain ⟨p1, p2⟩ := p
    cases p2 with
    | lst l => obtain ⟨vs, m, e1, r⟩ := c; exact ⟨vs, m, e1, r.weak hw⟩
    | dct prog' w' ys => obtain ⟨c1, c2⟩ := c; exact ⟨c1, fun y hy m => c2 y hy (hw _ m)⟩
  case turn =>
    rintro i I hb' s' ρ' ow' E' hi ⟨rfl, w1, w2, w3, w4⟩ hbb S'
    have hR : step + 1 + i < n := by omega
    obtain ⟨hb1, hb2, hb3⟩ := hB (by omega)
    have x1 : (upd ρ' (Str.ofString "row") (.int ((step : Int) + 1 + (i : Int)))) (Str.ofString "a") = some (.raw (.ref P)) := w1
    have x2 : (upd ρ' (Str.ofString "row") (.int ((step : Int) + 1 + (i : Int)))) (Str.ofString "step") = some (.int step) := w2
    have x3 : (upd ρ' (Str.ofString "row") (.int ((step : Int) + 1 + (i : Int)))) (Str.ofString "ahead") = some (.int ahead) := w3
    have x4 : (upd ρ' (Str.ofString "row") (.int ((step : Int) + 1 + (i : Int)))) (Str.ofString "lead") = some (.int (g step step)) := w4
    have x5 : (upd ρ' (Str.ofString "row") (.int ((step : Int) + 1 + (i : Int)))) (Str.ofString "row") = some (.int ((step : Int) + 1 + (i : Int))) := rfl
    generalize upd ρ' (Str.ofString "row") (.int ((step : Int) + 1 + (i : Int))) = ρ₂ at S' x1 x2 x3 x4 x5
    have er : ((step : Int) + 1 + (i : Int)).toNat = step + 1 + i := by omega
    have eR : ((step : Int) + 1 + (i : Int)) = ((step + 1 + i : Nat) : Int) := by omega
    rw [eR] at x5
    generalize hRR : step + 1 + i = R at hR x5
    refine st_cons (st_expr_name S' (d := .int (g R step)) ?first (.inl ⟨rfl, rfl⟩) fun s₃ S₃ => ?_)
    case first =>
      rw [hRR] at S'
      exact Ev.cellN S' hn hR hs (by unfold bst; rw [if_neg (by omega)]) (S'.fm.ev x1 (.inl rfl)) (S'.fm.ev x5 (.inl rfl)) (S'.fm.ev x2 (.inl rfl))
    rw [hRR] at S₃
    let Ws : (Str → Option D) → Prop := fun ρ => Vs ρ ∧ ρ (Str.ofString "row") = some (.int R) ∧ ρ (Str.ofString "first") = some (.int (g R step))
    have W₃ : Ws (upd ρ₂ (Str.ofString "first") (.int (g R step))) := ⟨⟨x1, x2, x3, x4⟩, x5, rfl⟩
    generalize upd ρ₂ (Str.ofString "first") (.int (g R step)) = ρ₃ at S₃ W₃
    obtain ⟨⟨y1, y2, y3, y4⟩, y5, y6⟩ := W₃
    have T₃ : Tp mean mg mb s₃.heap := T.keeps fun b o e => S₃.kept b o (hbb b o (k0b b o e))
    refine st_cons (st_for S₃ (EvIt.range2 (a := (step : Int) + 1) (b := n) ok₁.handled (.inl ⟨_, _, rfl⟩) (Sees.builtin T₃ (mg_range T₃) (mb_range T₃) rfl rfl rfl rfl) (Ev.bin (S₃.fm.ev y2 (.inl rfl)) Ev.int Op2.add) (Ev.callB (Sees.builtin T₃ (mg_len T₃) (mb_len T₃) rfl rfl rfl rfl) (EvL.cons (S₃.fm.ev y1 (.inl rfl)) EvL.nil) (lenCt S₃)) (by omega) (by omega) (by omega) (by omega))
      (fun m ρ ow => ow = ownG P rs n (bin n g step ahead R (step + 1 + m)) ∧ Ws ρ) (fun i ρ' ow' hi => by rw [hi.1]; simp [ownG]) ⟨?i0, ⟨y1, y2, y3, y4⟩, y5, y6⟩ (fun _ => False)
      (fun i ρ => upd ρ (Str.ofString "column") (.int ((step : Int) + 1 + (i : Int)))) (fun i hi => Aim.name (.inl ⟨rfl, rfl⟩)) ?turn ?done ?ret)
    case i0 =>
      have : bin n g step ahead R (step + 1 + 0) = bst n g step ahead R := by
        funext i j; unfold bin; rw [if_neg (by omega)]
      rw [this]
    case ret => exact fun _ _ _ _ _ q => q.elim
    case done =>
      rintro s6 ρ6 ow6 ⟨rfl, ⟨z1, z2, z3, z4⟩, z5, z6⟩ S6
      have e : step + 1 + ((n : Int) - ((step : Int) + 1)).toNat = n := by omega
      rw [e] at S6
      refine st_cons (st_setCellN (g' := bst n g step ahead (step + 1 + (i + 1))) S6 inj hne hn hR hs ?hg Ev.int (S6.fm.ev z1 (.inl rfl)) (S6.fm.ev z5 (.inl rfl)) (S6.fm.ev z2 (.inl rfl)) fun s7 S7 => ?_)
      case hg =>
        funext a b
        unfold upd2 bin bst bcell
        have e1 : step + 1 + (i + 1) = R + 1 := by omega
        rw [e1]
        by_cases ha : a = R
        · subst ha
          by_cases hb : b = step
          · subst hb
            rw [if_pos (by omega), if_pos rfl, if_pos ⟨rfl, rfl⟩]
          · rw [if_pos (by omega), if_neg hb]
            by_cases hc : step < b ∧ b < n
            · rw [if_pos hc, if_neg (fun q => hb q.2), if_pos ⟨rfl, hc⟩]
            · rw [if_neg hc, if_neg (fun q => hb q.2), if_neg (fun q => hc q.2), if_neg (by omega)]
        · rw [if_neg (by omega : ¬ (a = R ∧ b = step)), if_neg (by omega : ¬ (a = R ∧ step < b ∧ b < n))]
          by_cases hc : step < a ∧ a < R
          · rw [if_pos hc, if_pos (by omega)]
          · rw [if_neg hc, if_neg (by omega)]
      exact wpAny_execs_nil ⟨_, _, S7, rfl, z1, z2, z3, z4⟩
    case turn =>
      rintro m I2 hb2' s6 ρ6 ow6 E6 hm ⟨rfl, ⟨z1, z2, z3, z4⟩, z5, z6⟩ hbb2 S6
      have hC : step + 1 + m < n := by omega
      have u1 : (upd ρ6 (Str.ofString "column") (.int ((step : Int) + 1 + (m : Int)))) (Str.ofString "a") = some (.raw (.ref P)) := z1
      have u2 : (upd ρ6 (Str.ofString "column") (.int ((step : Int) + 1 + (m : Int)))) (Str.ofString "step") = some (.int step) := z2
      have u3 : (upd ρ6 (Str.ofString "column") (.int ((step : Int) + 1 + (m : Int)))) (Str.ofString "ahead") = some (.int ahead) := z3
      have u4 : (upd ρ6 (Str.ofString "column") (.int ((step : Int) + 1 + (m : Int)))) (Str.ofString "lead") = some (.int (g step step)) := z4
      have u5 : (upd ρ6 (Str.ofString "column") (.int ((step : Int) + 1 + (m : Int)))) (Str.ofString "row") = some (.int R) := z5
      have u6 : (upd ρ6 (Str.ofString "column") (.int ((step : Int) + 1 + (m : Int)))) (Str.ofString "first") = some (.int (g R step)) := z6
      have u7 : (upd ρ6 (Str.ofString "column") (.int ((step : Int) + 1 + (m : Int)))) (Str.ofString "column") = some (.int ((step : Int) + 1 + (m : Int))) := rfl
      generalize upd ρ6 (Str.ofString "column") (.int ((step : Int) + 1 + (m : Int))) = ρ7 at S6 u1 u2 u3 u4 u5 u6 u7
      rw [show ((step : Int) + 1 + (m : Int)) = ((step + 1 + m : Nat) : Int) by omega] at u7
      have hC' : step < step + 1 + m := by omega
      have eC : step + 1 + (m + 1) = step + 1 + m + 1 := rfl
      generalize step + 1 + m = C at hC hC' S6 u7 eC
      refine st_cons (st_setCellN (g' := bin n g step ahead R (step + 1 + (m + 1))) (v := (g R C * g step step - g R step * g step C).fdiv ahead) S6 inj hne hn hR hC ?hg
        (Ev.bin (Ev.bin (Ev.bin (Ev.cellN S6 hn hR hC (v := g R C) ?c1 (S6.fm.ev u1 (.inl rfl)) (S6.fm.ev u5 (.inl rfl)) (S6.fm.ev u7 (.inl rfl))) (S6.fm.ev u4 (.inl rfl)) (Op2.mul (mulOk_right (hb1 _ _))))
          (Ev.bin (S6.fm.ev u6 (.inl rfl)) (Ev.cellN S6 hn hs hC (v := g step C) ?c2 (S6.fm.ev u1 (.inl rfl)) (S6.fm.ev u2 (.inl rfl)) (S6.fm.ev u7 (.inl rfl))) (Op2.mul (mulOk_right (hb1 _ _)))) Op2.sub) (S6.fm.ev u3 (.inl rfl)) (Op2.fdiv hb2 (PyProof.noPylong_small hb3)))
        (S6.fm.ev u1 (.inl rfl)) (S6.fm.ev u5 (.inl rfl)) (S6.fm.ev u7 (.inl rfl)) fun s7 S7 => ?_)
      case c1 => unfold bin bst; rw [if_neg (by omega), if_neg (by omega)]
      case c2 => unfold bin bst; rw [if_neg (by omega), if_neg (by omega)]
      case hg =>
        funext a b
        unfold upd2 bin
        rw [eC]
        by_cases hab : a = R ∧ b = C
        · obtain ⟨rfl, rfl⟩ := hab
          rw [if_pos (by omega), if_pos ⟨rfl, rfl⟩]
        · rw [if_neg hab]
          by_cases hc : a = R ∧ step < b ∧ b < C
          · rw [if_pos hc, if_pos (by omega)]
          · rw [if_neg hc, if_neg (by omega)]
      exact wpAny_execs_nil ⟨_, _, S7, rfl, ⟨u1, u2, u3, u4⟩, u5, u6⟩
end
end Mine
end

-- Pr11
section
namespace Mine
open PySem PySem.W PySem.Calls PySem.Spec PyProof.Rows

def swapG (g : Mat) (i j : Nat) : Mat := fun a b => g (if a = i then j else if a = j then i else a) b
def preG (g : Mat) (r i : Nat) : Mat := if r = i then g else swapG g r i
def dstep (n : Nat) (st : Mat × Int × Int) (i : Nat) : Option (Mat × Int × Int) :=
  match pvF st.1 i (n - i) i with
  | none => none
  | some r => some (bst n (preG st.1 r i) i st.2.2 n, (if r = i then st.2.1 else -st.2.1), bst n (preG st.1 r i) i st.2.2 n i i)
def detS (n : Nat) (g : Mat) : Nat → Option (Mat × Int × Int)
  | 0 => some (g, 1, 1)
  | k + 1 => (detS n g k).bind fun st => dstep n st k
def detF (n : Nat) (g : Mat) : Int := match detS n g n with | none => 0 | some st => st.2.1 * st.2.2
theorem detS_none {n : Nat} {g : Mat} {k m : Nat} (h : detS n g k = none) (hm : k ≤ m) : detS n g m = none := by
  induction m with
  | zero => have : k = 0 := by omega
            subst this; exact h
  | succ m ih =>
    by_cases hk : k = m + 1
    · subst hk; exact h
    · show (detS n g m).bind _ = none
      rw [ih (by omega)]; rfl
theorem pvF_some {g : Mat} {step : Nat} : ∀ {m row r : Nat}, pvF g step m row = some r → row ≤ r ∧ r < row + m ∧ g r step ≠ 0
  | 0, _, _, h => by cases h
  | m + 1, row, r, h => by
    unfold pvF at h
    split at h
    · rename_i hz; cases h; exact ⟨Nat.le_refl _, by omega, hz⟩
    · obtain ⟨a, b, c⟩ := pvF_some h; exact ⟨by omega, by omega, c⟩

def bnd : Nat → Nat
  | 0 => 2 ^ 13
  | k + 1 => 2 * bnd k * bnd k + 1
theorem bnd_le (k : Nat) : bnd k ≤ bnd (k + 1) := by
  show bnd k ≤ 2 * bnd k * bnd k + 1
  rcases Nat.eq_zero_or_pos (bnd k) with h | h
  · rw [h]; omega
  · have : bnd k * 1 ≤ bnd k * bnd k := Nat.mul_le_mul_left _ h
    rw [Nat.mul_assoc]; omega
theorem fdiv_bound (x y : Int) : (x.fdiv y).natAbs ≤ x.natAbs + 1 := by
  rw [Int.fdiv_eq_ediv]
  have h := Int.natAbs_ediv_le_natAbs x y
  split
  · omega
  · omega
theorem bst_bound {n : Nat} {g : Mat} {i : Nat} {ahead : Int} {B : Nat} (h : ∀ a b, (g a b).natAbs ≤ B) (hB : B ≤ 2 * B * B + 1) (a b : Nat) : (bst n g i ahead n a b).natAbs ≤ 2 * B * B + 1 := by
  unfold bst bcell
  split
  · split
    · exact Nat.zero_le _
    · split
      · refine Nat.le_trans (fdiv_bound _ _) ?_
        have h1 : (g a b * g i i).natAbs ≤ B * B := by rw [Int.natAbs_mul]; exact Nat.mul_le_mul (h _ _) (h _ _)
        have h2 : (g a i * g i b).natAbs ≤ B * B := by rw [Int.natAbs_mul]; exact Nat.mul_le_mul (h _ _) (h _ _)
        rw [Nat.mul_assoc]
        omega
      · exact Nat.le_trans (h _ _) hB
  · exact Nat.le_trans (h _ _) hB
theorem sig_lt {n r i m : Nat} (hr : r < n) (hi : i < n) (hm : m < n) : (if m = r then i else if m = i then r else m) < n := by
  by_cases c1 : m = r
  · rw [if_pos c1]; exact hi
  · rw [if_neg c1]
    by_cases c2 : m = i
    · rw [if_pos c2]; exact hr
    · rw [if_neg c2]; exact hm
theorem sig_inj {r i a b : Nat} (h : (if a = r then i else if a = i then r else a) = (if b = r then i else if b = i then r else b)) : a = b := by
  by_cases a1 : a = r
  · rw [if_pos a1] at h
    by_cases b1 : b = r
    · omega
    · rw [if_neg b1] at h
      by_cases b2 : b = i
      · rw [if_pos b2] at h; omega
      · rw [if_neg b2] at h; omega
  · rw [if_neg a1] at h
    by_cases a2 : a = i
    · rw [if_pos a2] at h
      by_cases b1 : b = r
      · rw [if_pos b1] at h; omega
      · rw [if_neg b1] at h
        by_cases b2 : b = i
        · omega
        · rw [if_neg b2] at h; omega
    · rw [if_neg a2] at h
      by_cases b1 : b = r
      · rw [if_pos b1] at h; omega
      · rw [if_neg b1] at h
        by_cases b2 : b = i
        · rw [if_pos b2] at h; omega
        · rw [if_neg b2] at h; exact h
structure DOk (k : Nat) (st : Mat × Int × Int) : Prop where
  ent : ∀ a b, (st.1 a b).natAbs ≤ bnd k
  sg : st.2.1.natAbs ≤ 1
  nz : st.2.2 ≠ 0
  ah : st.2.2.natAbs ≤ bnd k
theorem preG_bound {g : Mat} {r i B : Nat} (h : ∀ a b, (g a b).natAbs ≤ B) (a b : Nat) : (preG g r i a b).natAbs ≤ B := by
  unfold preG
  split
  · exact h _ _
  · exact h _ _
theorem preG_piv {g : Mat} {r i : Nat} : preG g r i i i = g r i := by
  unfold preG
  split
  · rename_i q; rw [q]
  · rename_i q
    show g (if i = r then i else if i = i then r else i) i = _
    rw [if_neg (Ne.symm q), if_pos rfl]
theorem DOk.step {n k : Nat} {st st' : Mat × Int × Int} (h : DOk k st) (e : dstep n st k = some st') : DOk (k + 1) st' := by
  unfold dstep at e
  split at e
  · cases e
  · rename_i r hr
    cases e
    obtain ⟨_, _, hz⟩ := pvF_some hr
    have hb : ∀ a b, (bst n (preG st.1 r k) k st.2.2 n a b).natAbs ≤ bnd (k + 1) := bst_bound (preG_bound h.ent) (bnd_le k)
    refine ⟨hb, ?_, ?_, hb _ _⟩
    · show (if r = k then st.2.1 else -st.2.1).natAbs ≤ 1
      have := h.sg
      split <;> omega
    · show bst n (preG st.1 r k) k st.2.2 n k k ≠ 0
      unfold bst
      rw [if_neg (by omega), preG_piv]
      exact hz

section
variable {prog : Program} {w : World} {mean : ExcName → Option Value} {mg mb : Str → Option Value} {A : Around} {hid : List Addr} {h : Heap}
theorem Op2.isN {o : Option Nat} : Op2 prog w A hid h (compareOp .Is) (pvD o) .none (.bool o.isNone) := fun s u v Q E k hu hv hQ => by
  cases hv with
  | none => cases o with
    | none => cases hu; exact wpAny_is_self rfl (hQ _ _ (Ks.refl _) (.bool _))
    | some r => cases hu; exact is_int_none (hQ _ _ (Ks.refl _) (.bool _))

set_option maxHeartbeats 400000 in
theorem ct_det (T : Tp mean mg mb h) {f f3 f4 : Addr} (hf : mg (dr 5).name = some (.ref f)) (hf3 : mg (dr 3).name = some (.ref f3)) (hf4 : mg (dr 4).name = some (.ref f4)) {n : Nat} {g : Mat} (hn : n ≤ 3) (hg : ∀ a b, (g a b).natAbs ≤ bnd 0) (ok : AOk A 3) (lv : Live hid h) :
    Ct prog w A hid h (.ref f) [gM n g] (.int (detF n g)) := fun s vs Q E k hv hQ => by
  cases hv with
  | cons h1 hv =>
      cases hv
      rename_i v
      refine enter (d := dr 5) (T.keeps k) in5 hf ok.room (lv.keep k) (binds := [(Str.ofString "a", v)]) (bds := [(Str.ofString "a", gM n g)]) (ns := [Str.ofString "a"]) (fun pm code doc => rfl) rfl (.cons h1 .nil) rfl (by decide +kernel) (by decide +kernel) (by decide +kernel) (by decide +kernel) (by decide +kernel) (fun L cd s₁ E hk S => ?_) hQ
      have ok₁ := ok.deeper (envN (dr 5) f L cd)
      have hw : ∀ a ∈ hid, a ∈ hidN (dr 5) L hid := fun a m => .tail _ (List.mem_append.mpr (.inr m))
      have T₁ : Tp mean mg mb s₁.heap := (T.keeps k).keeps hk
      have v1 : (bindD [(Str.ofString "a", gM n g)] fun _ => none) (Str.ofString "a") = some (gM n g) := rfl
      generalize (bindD [(Str.ofString "a", gM n g)] fun _ => none) = ρ at S v1
      have el : (((List.range n).map fun i => D.lst (rowL n g i)).length : Int) = (n : Nat) := by simp
      have el2 : ∀ i, ((rowL n g i).length : Int) = (n : Nat) := fun i => by simp [rowL]
      have hz := sizeLine_eq
      have pv : pick [(Str.ofString "a", L + 1)] ρ (Str.ofString "a") = some (gM n g) := v1
      have src : ∀ {l : List D} (e : l = (List.range n).map fun i => D.lst (rowL n g i)) (i : Nat), i < n → l.getD i .none = .lst (rowL n g i) := fun {l} e i hi => by
        rw [e, List.getD_eq_getElem?_getD, List.getElem?_map, List.getElem?_range hi]; rfl
      refine st_cons (st_if (b := false) S (Tr.cmp (Ev.comp S.live (EvIt.congr (n := n) (ds' := fun i => .lst (rowL n g i)) (EvIt.list ok₁.handled (.inl ⟨_, _, rfl⟩) S.live (S.fm.ev v1 (.inr (.inl rfl)))) (by simp) fun i hi => src rfl i hi) (cl := [(Str.ofString "a", L + 1)]) rfl (p := fun _ => false) (f := fun _ => .none)
          (ClOk.cpN (ClOk.cons (by decide +kernel) rfl (.inl rfl) v1 .nil) S.fm (by omega) rfl (by decide +kernel) rfl (fun C => ⟨_, .inl ⟨rfl, rfl⟩⟩)
            (fun i hi C hid' h' hsub lv' k' F' => ?test) fun i hi q C hid' h' hsub lv' k' F' => by cases q)) (Ev.list S.live EvL.nil) ?cmp) fun s₂ S₂ => ?_)
      case test =>
        have T' : Tp mean mg mb h' := T₁.keeps k'
        refine Ts.one (Tr.cmp (a := .int n) (b := .int n) (Ev.callB (Sees.builtin T' (mg_len T') (mb_len T') rfl rfl rfl rfl) (EvL.cons (F'.ev (d := .lst (rowL n g i)) rfl (.inl rfl)) EvL.nil) (el2 i ▸ ct_len (by simp [rowL]; omega))) (Ev.callB (Sees.builtin T' (mg_len T') (mb_len T') rfl rfl rfl rfl) (EvL.cons (F'.ev (d := gM n g) pv (.inr (.inl rfl))) EvL.nil) (el ▸ ct_len (by simp; omega))) ?_)
        have := Op2.neI (prog := prog) (w := w) (A := A.deeper (envN (dr 5) f L cd)) (hid := hid') (h := h') (i := n) (j := n)
        rw [show ((n : Int) != n) = false by simp] at this
        exact this
      case cmp =>
        have := Op2.neNil (prog := prog) (w := w) (A := A.deeper (envN (dr 5) f L cd)) (hid := hidN (dr 5) L hid) (h := s₁.heap) (ds := ((List.range n).filter fun _ => false).map fun _ => D.none) (flatL_map _ fun _ _ => rfl) (by have := ok₁.units; omega)
        rw [show (((List.range n).filter fun _ => false).map fun _ => D.none).isEmpty = true by simp] at this
        exact this
      rw [if_neg Bool.false_ne_true]
      refine wpAny_execs_nil ?_
      have T₂ : Tp mean mg mb s₂.heap := (T.keeps k).keeps S₂.kept
      refine st_cons (st_own3 ok₁.handled S₂ (n := n) (g := g) (EvRows.comp S₂.live (EvIt.congr (n := n) (ds' := fun i => .lst (rowL n g i)) (EvIt.list ok₁.handled (.inl ⟨_, _, rfl⟩) S₂.live (S₂.fm.ev v1 (.inr (.inl rfl)))) (by simp) fun i hi => src rfl i hi) rfl (by omega) rfl (by decide +kernel) (fun C => ⟨_, .inl ⟨rfl, rfl⟩⟩) fun i hi C hid' h' hsub lv' k' F' s₃ Q₃ E₃ k₃ hQ₃ => ?elt)
        (fun _ _ => Ev.int) (fun _ _ => Ev.int) rfl rfl rfl fun P rs s₃ inj hne hfr S₃ => ?_)
      case elt =>
        have T' : Tp mean mg mb h' := T₂.keeps k'
        exact ev_newList lv' (Sees.builtin T' (mg_list T') (mb_list T') rfl rfl rfl rfl) (F'.ev (d := .lst (rowL n g i)) rfl (.inl rfl)) (by simp [rowL]; omega) s₃ Q₃ E₃ k₃ hQ₃
      -- the loop
      have T₃ : Tp mean mg mb s₃.heap := (T.keeps k).keeps S₃.kept
      have x1 : (upd (upd (upd ρ (Str.ofString "ahead") (.int 1)) (Str.ofString "sign") (.int 1)) (Str.ofString "found") (.raw (.ref P))) (Str.ofString "a") = some (gM n g) := v1
      let Vs : Mat × Int × Int → (Str → Option D) → Prop := fun st ρ => ρ (Str.ofString "a") = some (gM n g) ∧ ρ (Str.ofString "found") = some (.raw (.ref P)) ∧ ρ (Str.ofString "sign") = some (.int st.2.1) ∧ ρ (Str.ofString "ahead") = some (.int st.2.2)
      let Rk : (Nat → Addr) → Prop := fun rs' => (∀ i j, i < n → j < n → rs' i = rs' j → i = j) ∧ (∀ i, i < n → rs' i ≠ P) ∧ ∀ i, i < n → ∃ j, j < n ∧ rs' i = rs j
      refine st_cons (st_forM S₃ (EvIt.congr (n := n) (ds' := fun i => .int i) (EvIt.range1 (b := n) ok₁.handled (.inl ⟨_, _, rfl⟩) (Sees.builtin T₃ (mg_range T₃) (mb_range T₃) rfl rfl rfl rfl) (Ev.callB (Sees.builtin T₃ (mg_len T₃) (mb_len T₃) rfl rfl rfl rfl) (EvL.cons (S₃.fm.ev x1 (.inr (.inl rfl))) EvL.nil) (el ▸ ct_len (by simp; omega))) (by omega) (by omega)) (by omega) fun i hi => by rw [Int.zero_add])
        (fun i ρ ow => ∃ st rs', detS n g i = some st ∧ DOk i st ∧ Rk rs' ∧ ow = ownG P rs' n st.1 ∧ Vs st ρ) (fun i ρ' ow' hi a ha => ?adr) ⟨(g, 1, 1), rs, rfl, ⟨hg, show (1 : Int).natAbs ≤ 1 by decide, show (1 : Int) ≠ 0 by decide, show (1 : Int).natAbs ≤ bnd 0 by decide⟩, ⟨inj, hne, fun i hi => ⟨i, hi, rfl⟩⟩, rfl, v1, rfl, rfl, rfl⟩ (fun d => d = .int (detF n g))
        (fun i ρ => upd ρ (Str.ofString "step") (.int i)) (fun i hi => Aim.name (.inl ⟨rfl, rfl⟩)) ?turn ?done ?ret)
      case adr =>
        obtain ⟨st, rs', _, _, ⟨_, _, hr⟩, rfl, _⟩ := hi
        obtain ⟨p, hp, rfl⟩ := List.mem_map.mp ha
        rcases List.mem_cons.mp hp with rfl | hp
        · exact .head _
        · obtain ⟨i, hi, rfl⟩ := List.mem_map.mp hp
          obtain ⟨j, hj, e⟩ := hr i (List.mem_range.mp hi)
          show rs' i ∈ _
          rw [e]
          exact List.mem_map.mpr ⟨_, mem_row (P := P) (rs := rs) (g := g) hj, rfl⟩
      case ret =>
        rintro v d s' ρ' ow' rfl hv S'
        exact ⟨_, _, _, _, rfl, S', by cases hv; exact .int _ _⟩
      case done =>
        rintro s' ρ' ow' ⟨st, rs', e, D, _, rfl, w1, w2, w3, w4⟩ S'
        have e' : detF n g = st.2.1 * st.2.2 := by unfold detF; rw [e]
        refine st_cons (st_return S' (Ev.bin (S'.fm.ev w3 (.inl rfl)) (S'.fm.ev w4 (.inl rfl)) (Op2.mul (mulOk_left (by have := D.sg; omega)))) fun v s₃ S₃ hv => ?_)
        rw [e']
        exact ⟨_, _, _, _, rfl, S₃, by cases hv; exact .int _ _⟩
      case turn =>
        rintro i I hb' s' ρ' ow' E' hi ⟨st, rs', e, Dk, ⟨inj', hne', hr'⟩, rfl, w1, w2, w3, w4⟩ hbb S'
        obtain ⟨gk, sg, ah⟩ := st
        have x1 : (upd ρ' (Str.ofString "step") (.int i)) (Str.ofString "a") = some (gM n g) := w1
        have x2 : (upd ρ' (Str.ofString "step") (.int i)) (Str.ofString "found") = some (.raw (.ref P)) := w2
        have x3 : (upd ρ' (Str.ofString "step") (.int i)) (Str.ofString "sign") = some (.int sg) := w3
        have x4 : (upd ρ' (Str.ofString "step") (.int i)) (Str.ofString "ahead") = some (.int ah) := w4
        have x5 : (upd ρ' (Str.ofString "step") (.int i)) (Str.ofString "step") = some (.int i) := rfl
        generalize upd ρ' (Str.ofString "step") (.int i) = ρ₁ at S' x1 x2 x3 x4 x5
        have topOf : ∀ {hh : Heap}, (∀ b o, hb' b = some o → hh.get? b = some o) → Tp mean mg mb hh := fun kk => (T.keeps k).keeps (fun x o e => kk x o (hbb x o e))
        have T' := topOf S'.kept
        obtain ⟨f3', os3, _, _, _, hf3', hso3, hsd3, _⟩ := T'.fn (dr 3) in3
        rw [hf3] at hf3'; cases hf3'
        have hgk : ∀ a b, (gk a b).natAbs ≤ bnd i := Dk.ent
        generalize hpv : pvF gk i (n - i) i = pv
        -- pivot
        refine st_cons (st_expr_name S' (d := pvD pv) (Ev.callF (Sees.global T' hf3 rfl rfl rfl) hso3 hsd3 (EvL.cons (S'.fm.ev x2 (.inl rfl)) (EvL.cons (S'.fm.ev x5 (.inl rfl)) EvL.nil)) (Ct.bare (own_has S') ?pd (hpv ▸ ct_pivot T' hf3 (by omega) hi ok₁ (fun _ q => nomatch q)))) (.inl ⟨rfl, rfl⟩) fun s₄ S₄ => ?_)
        case pd =>
          cases pv with
          | none => exact .inl rfl
          | some r => exact .inr ⟨_, rfl⟩
        have y1 : (upd ρ₁ (Str.ofString "row") (pvD pv)) (Str.ofString "a") = some (gM n g) := x1
        have y2 : (upd ρ₁ (Str.ofString "row") (pvD pv)) (Str.ofString "found") = some (.raw (.ref P)) := x2
        have y3 : (upd ρ₁ (Str.ofString "row") (pvD pv)) (Str.ofString "sign") = some (.int sg) := x3
        have y4 : (upd ρ₁ (Str.ofString "row") (pvD pv)) (Str.ofString "ahead") = some (.int ah) := x4
        have y5 : (upd ρ₁ (Str.ofString "row") (pvD pv)) (Str.ofString "step") = some (.int i) := x5
        have y6 : (upd ρ₁ (Str.ofString "row") (pvD pv)) (Str.ofString "row") = some (pvD pv) := rfl
        generalize upd ρ₁ (Str.ofString "row") (pvD pv) = ρ₂ at S₄ y1 y2 y3 y4 y5 y6
        refine st_cons (st_if S₄ (Tr.cmp (S₄.fm.ev y6 (.inl rfl)) Ev.noneC Op2.isN) fun s₅ S₅ => ?_)
        have adr' : ∀ {rs₂ : Nat → Addr} {g₂ : Mat}, Rk rs₂ → ∀ a ∈ (ownG P rs₂ n g₂).map (·.1), a ∈ (ownG P rs n g).map (·.1) := fun {rs₂ g₂} hr a ha => by
          obtain ⟨_, _, hr⟩ := hr
          obtain ⟨p, hp, rfl⟩ := List.mem_map.mp ha
          rcases List.mem_cons.mp hp with rfl | hp
          · exact .head _
          · obtain ⟨i, hi, rfl⟩ := List.mem_map.mp hp
            obtain ⟨j, hj, e⟩ := hr i (List.mem_range.mp hi)
            show rs₂ i ∈ _
            rw [e]
            exact List.mem_map.mpr ⟨_, mem_row (P := P) (rs := rs) (g := g) hj, rfl⟩
        cases pv with
        | none =>
          rw [show (none : Option Nat).isNone = true from rfl, if_pos rfl]
          refine st_cons (st_return S₅ Ev.int fun v s₆ S₆ hv => ?_)
          have e2 : detS n g (i + 1) = none := by
            show (detS n g i).bind _ = none
            rw [e]
            show dstep n (gk, sg, ah) i = none
            unfold dstep
            simp only [hpv]
          have e3 : detF n g = 0 := by
            unfold detF
            rw [detS_none e2 (by omega)]
          refine ⟨_, _, S₆, adr' ⟨inj', hne', hr'⟩, _, hv, ?_⟩
          rw [e3]
        | some r =>
          obtain ⟨hr1, hr2, hr3⟩ := pvF_some hpv
          have hrn : r < n := by omega
          rw [show (some r : Option Nat).isNone = false from rfl, if_neg Bool.false_ne_true]
          refine wpAny_execs_nil ?_
          have y6' : ρ₂ (Str.ofString "row") = some (.int r) := y6
          refine st_cons (st_ifJ S₅ (b := (r : Int) != (i : Int)) (Tr.cmp (S₅.fm.ev y6' (.inl rfl)) (S₅.fm.ev y5 (.inl rfl)) Op2.neI)
            (fun s' => ∃ rs₂ ρ₃, Rk rs₂ ∧ Stt (I :: ((P :: (List.range n).map rs) ++ hidN (dr 5) L hid)) hb' s s' (envN (dr 5) f L cd) (ocN (dr 5) L) (ownG P rs₂ n (preG gk r i)) ρ₃ ∧ ρ₃ (Str.ofString "a") = some (gM n g) ∧ ρ₃ (Str.ofString "found") = some (.raw (.ref P)) ∧ ρ₃ (Str.ofString "sign") = some (.int (if r = i then sg else -sg)) ∧ ρ₃ (Str.ofString "ahead") = some (.int ah) ∧ ρ₃ (Str.ofString "step") = some (.int i))
            (fun hb s₆ S₆ => ?kt) (fun hb s₆ S₆ => ?kf) fun s₆ hJ => ?_)
          case kf =>
            have hri : r = i := by have : (r : Int) = i := by simpa using hb
                                   omega
            refine ⟨rs', ρ₂, ⟨inj', hne', hr'⟩, ?_, y1, y2, by rw [if_pos hri]; exact y3, y4, y5⟩
            unfold preG
            rw [if_pos hri]
            exact S₆
          case kt =>
            have hri : r ≠ i := fun q => by subst q; simp at hb
            refine st_cons (st_swap (i := r) (j := i) ok₁.handled S₆ hne' (by omega) hrn hi (fun S => S.fm.ev y2 (.inl rfl)) (fun S => S.fm.ev y2 (.inl rfl)) (S₆.fm.ev y2 (.inl rfl)) (S₆.fm.ev y2 (.inl rfl)) (fun S => S.fm.ev y6' (.inl rfl)) (fun S => S.fm.ev y5 (.inl rfl)) (S₆.fm.ev y5 (.inl rfl)) (S₆.fm.ev y6' (.inl rfl)) fun s₇ S₇ => ?_)
            refine st_cons (st_expr_name S₇ (Ev.neg (S₇.fm.ev y3 (.inl rfl))) (.inl ⟨rfl, rfl⟩) fun s₈ S₈ => ?_)
            refine wpAny_execs_nil ⟨rfl, fun m => rs' (if m = r then i else if m = i then r else m), upd ρ₂ (Str.ofString "sign") (.int (-sg)), ⟨?_, ?_, ?_⟩, ?_, y1, y2, ?_, y4, y5⟩
            · exact fun a b ha hb q => sig_inj (inj' _ _ (sig_lt hrn hi ha) (sig_lt hrn hi hb) q)
            · exact fun a ha => hne' _ (sig_lt hrn hi ha)
            · exact fun a ha => hr' _ (sig_lt hrn hi ha)
            · unfold preG
              rw [if_neg hri]
              exact S₈
            · rw [if_neg hri]; rfl
          -- the step
          obtain ⟨rs₂, ρ₃, ⟨inj₂, hne₂, hr₂⟩, S₇, z1, z2, z3, z4, z5⟩ := hJ
          have T₇ := topOf S₇.kept
          obtain ⟨f4', os4, _, _, _, hf4', hso4, hsd4, _⟩ := T₇.fn (dr 4) in4
          rw [hf4] at hf4'; cases hf4'
          have nPb : ∀ b, (b = P ∨ ∃ i, i < n ∧ b = rs₂ i) → s.heap.get? b = none := fun b hbq => by
            have hbn : hb' b = none := by
              rcases hbq with rfl | ⟨m, hm, rfl⟩
              · exact (S₇.own _ (.head _)).2.1
              · exact (S₇.own _ (mem_row hm)).2.1
            cases q : s.heap.get? b with
            | none => rfl
            | some o => rw [hbb b o q] at hbn; cases hbn
          refine st_cons (st_callX S₇ (Sees.global T₇ hf4 rfl rfl rfl) hso4 hsd4 (EvL.cons (S₇.fm.ev z2 (.inl rfl)) (EvL.cons (S₇.fm.ev z5 (.inl rfl)) (EvL.cons (S₇.fm.ev z4 (.inl rfl)) EvL.nil))) fun vs s₈ S₈ hvs => ?_)
          cases hvs with
          | cons q1 hvs => cases q1 with
            | raw _ => cases hvs with
              | cons q2 hvs => cases hvs with
                | cons q3 hvs =>
                  cases hvs
                  refine call_bareiss (T.keeps k) (fun b o e => S₈.kept b o (hbb b o e)) hf4 (by omega) hi inj₂ hne₂ nPb (fun hlt => ?bd) ok₁ S₈.live (fun p hp => ⟨(S₈.own p hp).1, (S₈.own p hp).2.2⟩) q2 q3 fun s₉ hsame hkept hok => ?_
                  case bd =>
                    have hb1 : bnd i ≤ bnd 1 := by
                      have : i = 0 ∨ i = 1 := by omega
                      rcases this with rfl | rfl
                      · exact bnd_le 0
                      · exact Nat.le_refl _
                    have hb2 : bnd 1 < 2 ^ 30 := by decide
                    have hb3 : (2 : Nat) ^ 30 ≤ 2 ^ 60 := by decide
                    refine ⟨fun a b => ?_, Dk.nz, ?_⟩
                    · have := preG_bound (g := gk) (r := r) (i := i) hgk a b
                      omega
                    · have : ah.natAbs ≤ bnd i := Dk.ah
                      omega
                  have S₉ : Stt (I :: ((P :: (List.range n).map rs) ++ hidN (dr 5) L hid)) hb' s s₉ (envN (dr 5) f L cd) (ocN (dr 5) L) (ownG P rs₂ n (bst n (preG gk r i) i ah n)) ρ₃ :=
                    S₈.after (W := fun b => b = P ∨ ∃ i, i < n ∧ b = rs₂ i) hsame (fun a q => ?W) hkept (fun p hp hq => ?sub) (fun p hp => ?nl) (fun p hp _ => ?nd) fun p hp => ?own
                  case nl =>
                    rcases List.mem_cons.mp hp with rfl | hp
                    · exact fun z => S₈.ownl _ (.head _) z
                    · obtain ⟨m, hm, rfl⟩ := List.mem_map.mp hp
                      exact fun z => S₈.ownl (rs₂ m, Ob.lst (rowL n (preG gk r i) m)) (mem_row (List.mem_range.mp hm)) z
                  case nd =>
                    rcases List.mem_cons.mp hp with rfl | hp
                    · exact ⟨_, rfl⟩
                    · obtain ⟨m, hm, rfl⟩ := List.mem_map.mp hp
                      exact ⟨_, rfl⟩
                  case W =>
                    rcases q with rfl | ⟨m, hm, rfl⟩
                    · exact ⟨_, .head _, rfl⟩
                    · exact ⟨_, mem_row hm, rfl⟩
                  case sub =>
                    rcases hq with q | ⟨m, hm, q⟩
                    · exact ⟨_, .head _, q.symm⟩
                    · exact ⟨_, mem_row hm, q.symm⟩
                  case own =>
                    have hx : p.1 = P ∨ ∃ m, m < n ∧ p.1 = rs₂ m := by
                      rcases List.mem_cons.mp hp with rfl | hp
                      · exact .inl rfl
                      · obtain ⟨m, hm, rfl⟩ := List.mem_map.mp hp
                        exact .inr ⟨m, List.mem_range.mp hm, rfl⟩
                    have hh : p.1 ∈ I :: ((P :: (List.range n).map rs) ++ hidN (dr 5) L hid) ∧ hb' p.1 = none := by
                      rcases hx with q | ⟨m, hm, q⟩
                      · rw [q]; exact ⟨(S₈.own _ (.head _)).1, (S₈.own _ (.head _)).2.1⟩
                      · rw [q]; exact ⟨(S₈.own _ (mem_row hm)).1, (S₈.own _ (mem_row hm)).2.1⟩
                    exact ⟨hh.1, hh.2, hok p hp⟩
                  refine st_cons (st_expr_name S₉ (Ev.cellN S₉ (by omega) hi hi rfl (S₉.fm.ev z2 (.inl rfl)) (S₉.fm.ev z5 (.inl rfl)) (S₉.fm.ev z5 (.inl rfl))) (.inl ⟨rfl, rfl⟩) fun s₁₀ S₁₀ => ?_)
                  have hst : dstep n (gk, sg, ah) i = some (bst n (preG gk r i) i ah n, (if r = i then sg else -sg), bst n (preG gk r i) i ah n i i) := by
                    unfold dstep
                    simp only [hpv]
                  refine wpAny_execs_nil ⟨_, _, S₁₀, _, rs₂, ?_, Dk.step hst, ⟨inj₂, hne₂, hr₂⟩, rfl, z1, z2, z3, rfl⟩
                  show (detS n g i).bind _ = _
                  rw [e]
                  exact hst
end
end Mine
end

-- Mt1
section
namespace Mine

def det2 (g : Mat) : Int := g 0 0 * g 1 1 - g 0 1 * g 1 0
def det3 (g : Mat) : Int := g 0 0 * (g 1 1 * g 2 2 - g 1 2 * g 2 1) - g 0 1 * (g 1 0 * g 2 2 - g 1 2 * g 2 0) + g 0 2 * (g 1 0 * g 2 1 - g 1 1 * g 2 0)

theorem fdiv_one (x : Int) : x.fdiv 1 = x := by simp
theorem pvF1 (g : Mat) (i : Nat) : pvF g i 1 i = if g i i ≠ 0 then some i else none := rfl

theorem detF1 (g : Mat) : detF 1 g = g 0 0 := by
  unfold detF detS detS dstep
  simp only [Option.bind_some, pvF]
  by_cases h : g 0 0 = 0
  · simp [h]
  · simp [h, preG, bst]

theorem last2 (n : Nat) (g : Mat) (i : Nat) (sg ah : Int) (hn : n = i + 1) : (match dstep n (g, sg, ah) i with | none => (0 : Int) | some st => st.2.1 * st.2.2) = sg * g i i := by
  subst hn
  unfold dstep
  simp only [Nat.add_sub_cancel_left, pvF]
  by_cases h : g i i = 0
  · simp [h]
  · simp [h, preG, bst]

theorem detF2 (g : Mat) : detF 2 g = det2 g := by
  have key : detF 2 g = match dstep 2 (g, 1, 1) 0 with | none => 0 | some st => st.2.1 * st.1 1 1 := by
    unfold detF
    show (match (detS 2 g 1).bind fun st => dstep 2 st 1 with | none => (0 : Int) | some st => st.2.1 * st.2.2) = _
    have e : detS 2 g 1 = dstep 2 (g, 1, 1) 0 := rfl
    rw [e]
    cases h : dstep 2 (g, 1, 1) 0 with
    | none => rfl
    | some st => exact last2 2 st.1 1 st.2.1 st.2.2 rfl
  rw [key]
  unfold dstep det2
  simp only [Nat.sub_zero, pvF]
  by_cases h0 : g 0 0 = 0
  · by_cases h1 : g 1 0 = 0
    · simp [h0, h1]
    · simp [h0, h1, preG, swapG, bst, bcell]
  · simp [h0, preG, bst, bcell]
    grind

theorem dstep_some {n : Nat} {g : Mat} {sg ah : Int} {i r : Nat} (hr : pvF g i (n - i) i = some r) : dstep n (g, sg, ah) i = some (bst n (preG g r i) i ah n, (if r = i then sg else -sg), bst n (preG g r i) i ah n i i) := by
  unfold dstep; simp only [hr]
theorem dstep_none {n : Nat} {g : Mat} {sg ah : Int} {i : Nat} (hr : pvF g i (n - i) i = none) : dstep n (g, sg, ah) i = none := by
  unfold dstep; simp only [hr]
theorem rest3 (h : Mat) (sg p D : Int) (hp : p ≠ 0) (hD : h 1 1 * h 2 2 - h 1 2 * h 2 1 = p * D) : (match dstep 3 (h, sg, p) 1 with | none => (0 : Int) | some st => st.2.1 * st.1 2 2) = sg * D := by
  have pv : pvF h 1 (3 - 1) 1 = if h 1 1 ≠ 0 then some 1 else if h 2 1 ≠ 0 then some 2 else none := rfl
  by_cases h0 : h 1 1 = 0
  · by_cases h1 : h 2 1 = 0
    · rw [dstep_none (by rw [pv]; simp [h0, h1])]
      have h2 : p * D = 0 := by rw [← hD, h0, h1]; simp
      have : D = 0 := by
        rcases Int.mul_eq_zero.mp h2 with q | q
        · exact absurd q hp
        · exact q
      simp [this]
    · rw [dstep_some (r := 2) (by rw [pv]; simp [h0, h1])]
      have e : h 1 2 * h 2 1 - h 1 1 * h 2 2 = p * (-D) := by grind
      have : bst 3 (preG h 2 1) 1 p 3 2 2 = -D := by
        simp [bst, bcell, preG, swapG]
        rw [e, Int.mul_fdiv_cancel_left _ hp]
      show (if 2 = 1 then sg else -sg) * bst 3 (preG h 2 1) 1 p 3 2 2 = _
      rw [this]
      show -sg * -D = sg * D
      grind
  · rw [dstep_some (r := 1) (by rw [pv]; simp [h0])]
    have e : h 2 2 * h 1 1 - h 2 1 * h 1 2 = p * D := by grind
    have : bst 3 (preG h 1 1) 1 p 3 2 2 = D := by
      simp [bst, bcell, preG]
      rw [e, Int.mul_fdiv_cancel_left _ hp]
    show (if 1 = 1 then sg else -sg) * bst 3 (preG h 1 1) 1 p 3 2 2 = _
    rw [this]
    simp

theorem detF3 (g : Mat) : detF 3 g = det3 g := by
  have key : detF 3 g = match dstep 3 (g, 1, 1) 0 with | none => 0 | some st => (match dstep 3 st 1 with | none => (0 : Int) | some st => st.2.1 * st.1 2 2) := by
    unfold detF
    show (match (detS 3 g 2).bind fun st => dstep 3 st 2 with | none => (0 : Int) | some st => st.2.1 * st.2.2) = _
    have e : detS 3 g 2 = (dstep 3 (g, 1, 1) 0).bind fun st => dstep 3 st 1 := rfl
    rw [e]
    cases h : dstep 3 (g, 1, 1) 0 with
    | none => rfl
    | some st =>
      show (match (dstep 3 st 1).bind fun st => dstep 3 st 2 with | none => (0 : Int) | some st => st.2.1 * st.2.2) = match dstep 3 st 1 with | none => (0 : Int) | some st => st.2.1 * st.1 2 2
      cases h' : dstep 3 st 1 with
      | none => rfl
      | some st' => exact last2 3 st'.1 2 st'.2.1 st'.2.2 rfl
  rw [key]
  have pv : pvF g 0 (3 - 0) 0 = if g 0 0 ≠ 0 then some 0 else if g 1 0 ≠ 0 then some 1 else if g 2 0 ≠ 0 then some 2 else none := rfl
  have st0 : ∀ r, pvF g 0 (3 - 0) 0 = some r → dstep 3 (g, 1, 1) 0 = some (bst 3 (preG g r 0) 0 1 3, (if r = 0 then 1 else -1), bst 3 (preG g r 0) 0 1 3 0 0) := fun r hr => by
    unfold dstep; simp only [hr]
  have ent : ∀ g' : Mat, (bst 3 g' 0 1 3) 1 1 * (bst 3 g' 0 1 3) 2 2 - (bst 3 g' 0 1 3) 1 2 * (bst 3 g' 0 1 3) 2 1 = (bst 3 g' 0 1 3) 0 0 * det3 g' := fun g' => by
    simp [bst, bcell, det3]
    grind
  by_cases h0 : g 0 0 = 0
  · by_cases h1 : g 1 0 = 0
    · by_cases h2 : g 2 0 = 0
      · have : dstep 3 (g, 1, 1) 0 = none := by unfold dstep; simp only [pv, h0, h1, h2]; simp
        rw [this]
        simp [det3, h0, h1, h2]
      · rw [st0 2 (by rw [pv]; simp [h0, h1, h2])]
        refine (rest3 _ _ _ (det3 (preG g 2 0)) ?_ (ent _)).trans ?_
        · simp [bst, preG, swapG, h2]
        · simp [preG, swapG, det3]
          grind
    · rw [st0 1 (by rw [pv]; simp [h0, h1])]
      refine (rest3 _ _ _ (det3 (preG g 1 0)) ?_ (ent _)).trans ?_
      · simp [bst, preG, swapG, h1]
      · simp [preG, swapG, det3]
        grind
  · rw [st0 0 (by rw [pv]; simp [h0])]
    refine (rest3 _ _ _ (det3 (preG g 0 0)) ?_ (ent _)).trans ?_
    · simp [bst, preG, h0]
    · simp [preG]
end Mine
end

-- Mt2
section
namespace Mine

/-- the lots of the law -/
def lotsF (W : Int → Int → Int → Int) (rise : Int) (i j : Nat) : List Path := pths W ((j : Int) + rise) 7 0 i
def gridF (W : Int → Int → Int → Int) (rise : Int) : Mat := fun i j => ((lotsF W rise i j).map (·.1)).sum
def ownF (W : Int → Int → Int → Int) (rise : Int) (n : Nat) : List (List Path) := (List.range n).map fun i => lotsF W rise i i
def trG (g : Mat) : Mat := fun i j => g j i

/-- a worth's place -/
abbrev Vr := Int × Int × Nat
abbrev SPath := List Vr × List (Int × Int)
abbrev Pol := List (Int × List Vr)
section
variable (W : Int → Int → Int → Int)
def vr (v : Vr) : Int := W v.1 v.2.1 v.2.2
def mono (m : List Vr) : Int := m.foldr (fun v a => a * vr W v) 1
def polV (p : Pol) : Int := p.foldr (fun t a => t.1 * mono W t.2 + a) 0
def pathV (p : SPath) : Path := (mono W p.1, p.2)
def spths (goal : Int) : Nat → Int → Int → List SPath
  | 0, _, _ => []
  | n + 1, c, h => if goal < h then [] else if c = 2 ∧ h = goal then [([], [(2, goal)])] else
    (List.range 2).flatMap fun i : Nat => if c + (1 - (i : Int)) < 3 then (spths goal n (c + (1 - (i : Int))) (h + i)).map (fun p => ((c, h, i) :: p.1, (c, h) :: p.2)) else []
theorem spths_ok (goal : Int) : ∀ n c h, pths W goal n c h = (spths goal n c h).map (pathV W)
  | 0, _, _ => rfl
  | n + 1, c, h => by
    unfold pths spths
    split
    · rfl
    · split
      · rfl
      · rw [List.map_flatMap]
        congr 1
        funext i
        split
        · rw [spths_ok goal n, List.map_map, List.map_map]
          rfl
        · rfl
theorem mono_app (a b : List Vr) : mono W (a ++ b) = mono W a * mono W b := by
  induction a with
  | nil => show mono W b = 1 * mono W b; rw [Int.one_mul]
  | cons x a ih =>
    show mono W (a ++ b) * vr W x = mono W a * vr W x * mono W b
    rw [ih, Int.mul_assoc, Int.mul_assoc, Int.mul_comm (mono W b)]
theorem polV_app (p q : Pol) : polV W (p ++ q) = polV W p + polV W q := by
  induction p with
  | nil => show polV W q = 0 + polV W q; rw [Int.zero_add]
  | cons x p ih =>
    show _ + polV W (p ++ q) = _ + polV W p + polV W q
    rw [ih, Int.add_assoc]
def scale (k : Int) (m : List Vr) (p : Pol) : Pol := p.map fun t => (k * t.1, m ++ t.2)
theorem polV_scale (k : Int) (m : List Vr) (p : Pol) : polV W (scale k m p) = k * mono W m * polV W p := by
  induction p with
  | nil => show (0 : Int) = _ * 0; rw [Int.mul_zero]
  | cons x p ih =>
    show k * x.1 * mono W (m ++ x.2) + polV W (scale k m p) = k * mono W m * (x.1 * mono W x.2 + polV W p)
    rw [ih, mono_app, Int.mul_add]
    congr 1
    rw [Int.mul_assoc, Int.mul_assoc, Int.mul_left_comm x.1]
def mulP (p q : Pol) : Pol := p.flatMap fun t => scale t.1 t.2 q
theorem polV_mul (p q : Pol) : polV W (mulP p q) = polV W p * polV W q := by
  induction p with
  | nil => show (0 : Int) = 0 * _; rw [Int.zero_mul]
  | cons x p ih =>
    show polV W (scale x.1 x.2 q ++ mulP p q) = (x.1 * mono W x.2 + polV W p) * polV W q
    rw [polV_app, polV_scale, ih, Int.add_mul]
def negP (p : Pol) : Pol := scale (-1) [] p
theorem polV_neg (p : Pol) : polV W (negP p) = -polV W p := by
  unfold negP
  rw [polV_scale]
  show -1 * 1 * _ = _
  rw [Int.mul_one, Int.neg_one_mul]

-- sorting
def vkey (v : Vr) : Nat := 8 ^ (v.1.toNat * 16 + v.2.1.toNat * 2 + v.2.2)
def mkey (m : List Vr) : Nat := m.foldl (fun a v => a + vkey v) 0
def insV (v : Vr) : List Vr → List Vr
  | [] => [v]
  | x :: l => if vkey v ≤ vkey x then v :: x :: l else x :: insV v l
theorem mono_insV (v : Vr) (l : List Vr) : mono W (insV v l) = mono W l * vr W v := by
  induction l with
  | nil => rfl
  | cons x l ih =>
    unfold insV
    split
    · rfl
    · show mono W (insV v l) * vr W x = mono W l * vr W x * vr W v
      rw [ih, Int.mul_assoc, Int.mul_assoc, Int.mul_comm (vr W v)]
def sortV (l : List Vr) : List Vr := l.foldr insV []
theorem mono_sortV (l : List Vr) : mono W (sortV l) = mono W l := by
  induction l with
  | nil => rfl
  | cons x l ih =>
    show mono W (insV x (sortV l)) = mono W l * vr W x
    rw [mono_insV, ih]

/-- a sum with keys -/
abbrev KPol := List (Nat × Int × List Vr)
def kV (p : KPol) : Int := p.foldr (fun t a => t.2.1 * mono W t.2.2 + a) 0
def insK (k : Nat) (c : Int) (m : List Vr) : KPol → KPol
  | [] => [(k, c, m)]
  | t :: l => if Nat.beq k t.1 = true then (if m = t.2.2 then (k, c + t.2.1, m) :: l else t :: insK k c m l) else t :: insK k c m l
theorem kV_insK (k : Nat) (c : Int) (m : List Vr) (l : KPol) : kV W (insK k c m l) = c * mono W m + kV W l := by
  induction l with
  | nil => rfl
  | cons t l ih =>
    have e : kV W (t :: insK k c m l) = c * mono W m + kV W (t :: l) := by
      show t.2.1 * mono W t.2.2 + kV W (insK k c m l) = c * mono W m + (t.2.1 * mono W t.2.2 + kV W l)
      rw [ih, Int.add_left_comm]
    unfold insK
    split
    · split
      · rename_i q
        show (c + t.2.1) * mono W m + kV W l = c * mono W m + (t.2.1 * mono W t.2.2 + kV W l)
        rw [← q, Int.add_mul, Int.add_assoc]
      · exact e
    · exact e
def toK (p : Pol) : KPol := p.foldr (fun t a => insK (mkey t.2) t.1 (sortV t.2) a) []
theorem kV_toK (p : Pol) : kV W (toK p) = polV W p := by
  induction p with
  | nil => rfl
  | cons t p ih =>
    show kV W (insK (mkey t.2) t.1 (sortV t.2) (toK p)) = t.1 * mono W t.2 + polV W p
    rw [kV_insK, ih, mono_sortV]
theorem kV_zero (p : KPol) (h : (p.all fun t => decide (t.2.1 = 0)) = true) : kV W p = 0 := by
  induction p with
  | nil => rfl
  | cons t p ih =>
    rw [List.all_cons, Bool.and_eq_true, decide_eq_true_eq] at h
    show t.2.1 * mono W t.2.2 + kV W p = 0
    rw [ih h.2, h.1, Int.zero_mul, Int.zero_add]
def same (p q : Pol) : Bool := (toK (p ++ negP q)).all fun t => decide (t.2.1 = 0)
theorem same_ok {p q : Pol} (h : same p q = true) : polV W p = polV W q := by
  have := kV_zero W _ h
  rw [kV_toK, polV_app, polV_neg] at this
  omega

-- the law's pieces
def gridS (rise : Int) (i j : Nat) : Pol := (spths ((j : Int) + rise) 7 0 i).map fun p => (1, p.1)
theorem grid_ok (rise : Int) (i j : Nat) : gridF W rise i j = polV W (gridS rise i j) := by
  unfold gridF lotsF gridS
  rw [spths_ok]
  generalize spths ((j : Int) + rise) 7 0 i = l
  induction l with
  | nil => rfl
  | cons p l ih =>
    show mono W p.1 + ((l.map (pathV W)).map (·.1)).sum = 1 * mono W p.1 + polV W (l.map fun p => (1, p.1))
    rw [ih, Int.one_mul]
def aptS : List (List SPath) → List (Int × Int) → Pol
  | [], _ => [(1, [])]
  | lot :: lots, taken => lot.flatMap fun p => if clash taken p.2 = true then [] else scale 1 p.1 (aptS lots (taken ++ p.2))
theorem apt_ok : ∀ (lots : List (List SPath)) (taken : List (Int × Int)), apt (lots.map fun l => l.map (pathV W)) taken = polV W (aptS lots taken)
  | [], _ => rfl
  | lot :: lots, taken => by
    have key : ∀ (l : List SPath) (a : Int), (l.map (pathV W)).foldl (fun acc p => if clash taken p.2 = true then acc else acc + p.1 * apt (lots.map fun l => l.map (pathV W)) (taken ++ p.2)) a = a + polV W (l.flatMap fun p => if clash taken p.2 = true then [] else scale 1 p.1 (aptS lots (taken ++ p.2))) := by
      intro l
      induction l with
      | nil => intro a; exact (Int.add_zero a).symm
      | cons p l ih =>
        intro a
        rw [List.flatMap_cons, polV_app, List.map_cons, List.foldl_cons, ih]
        show (if clash taken p.2 = true then a else a + mono W p.1 * apt (lots.map fun l => l.map (pathV W)) (taken ++ p.2)) + _ = _
        rw [← Int.add_assoc]
        congr 1
        split
        · exact (Int.add_zero a).symm
        · rw [apt_ok lots, polV_scale, Int.one_mul]
    exact (key lot 0).trans (Int.zero_add _)
def ownS (rise : Int) (n : Nat) : List (List SPath) := (List.range n).map fun i : Nat => spths ((i : Int) + rise) 7 0 i
theorem own_ok (rise : Int) (n : Nat) : apt (ownF W rise n) [] = polV W (aptS (ownS rise n) []) := by
  rw [← apt_ok]
  unfold ownF ownS lotsF
  rw [List.map_map]
  congr 2
  funext i
  exact spths_ok W _ 7 0 i
def det2S (rise : Int) : Pol := mulP (gridS rise 0 0) (gridS rise 1 1) ++ negP (mulP (gridS rise 0 1) (gridS rise 1 0))
theorem det2_ok (rise : Int) : det2 (gridF W rise) = polV W (det2S rise) := by
  unfold det2 det2S
  rw [polV_app, polV_neg, polV_mul, polV_mul, grid_ok, grid_ok, grid_ok, grid_ok]
  rfl
def minP (rise : Int) (a b c d e f g h : Nat) : Pol := mulP (gridS rise a b) (gridS rise c d) ++ negP (mulP (gridS rise e f) (gridS rise g h))
theorem minP_ok (rise : Int) (a b c d e f g h : Nat) : polV W (minP rise a b c d e f g h) = gridF W rise a b * gridF W rise c d - gridF W rise e f * gridF W rise g h := by
  unfold minP
  rw [polV_app, polV_neg, polV_mul, polV_mul, grid_ok, grid_ok, grid_ok, grid_ok]
  rfl
def det3S (rise : Int) : Pol := mulP (gridS rise 0 0) (minP rise 1 1 2 2 1 2 2 1) ++ negP (mulP (gridS rise 0 1) (minP rise 1 0 2 2 1 2 2 0)) ++ mulP (gridS rise 0 2) (minP rise 1 0 2 1 1 1 2 0)
theorem det3_ok (rise : Int) : det3 (gridF W rise) = polV W (det3S rise) := by
  unfold det3 det3S
  rw [polV_app, polV_app, polV_neg, polV_mul, polV_mul, polV_mul, minP_ok, minP_ok, minP_ok, ← grid_ok, ← grid_ok, ← grid_ok]
  rfl
theorem lgv21 : det2 (gridF W 1) = apt (ownF W 1 2) [] := by
  rw [det2_ok, own_ok]
  exact same_ok W (by decide +kernel)
theorem lgv22 : det2 (gridF W 2) = apt (ownF W 2 2) [] := by
  rw [det2_ok, own_ok]
  exact same_ok W (by decide +kernel)
theorem lgv31 : det3 (gridF W 1) = apt (ownF W 1 3) [] := by
  rw [det3_ok, own_ok]
  exact same_ok W (by decide +kernel)
end
theorem one1 (W : Int → Int → Int → Int) (rise : Int) : gridF W rise 0 0 = apt (ownF W rise 1) [] := by
  unfold gridF ownF
  have : ∀ (l : List Path) (a : Int), List.foldl (fun acc p => if clash [] p.2 = true then acc else acc + p.1 * apt [] ([] ++ p.2)) a l = a + (l.map (·.1)).sum := by
    intro l
    induction l with
    | nil => intro a; simp
    | cons p l ih =>
      intro a
      rw [List.foldl_cons, ih]
      have : clash [] p.2 = false := by unfold clash; simp
      rw [this]
      simp [apt, Int.add_assoc]
  have e : apt ((List.range 1).map fun i => lotsF W rise i i) [] = List.foldl (fun acc p => if clash [] p.2 = true then acc else acc + p.1 * apt [] ([] ++ p.2)) 0 (lotsF W rise 0 0) := rfl
  rw [e, this, Int.zero_add]
theorem det2_tr (g : Mat) : det2 (trG g) = det2 g := by unfold det2 trG; grind
theorem det3_tr (g : Mat) : det3 (trG g) = det3 g := by unfold det3 trG; grind
end Mine
end

-- Mt3
section
namespace Mine

def absS (l : List Path) : Nat := (l.map fun p => p.1.natAbs).sum
theorem absS_append (l m : List Path) : absS (l ++ m) = absS l + absS m := by simp [absS]
theorem absS_ext {W : Int → Int → Int → Int} (hW : ∀ c j i, (W c j i).natAbs ≤ 3) (c h : Int) (i : Nat) (l : List Path) : absS (l.map (ext W c h i)) ≤ 3 * absS l := by
  induction l with
  | nil => exact Nat.zero_le _
  | cons p l ih =>
    have e1 : absS ((p :: l).map (ext W c h i)) = (p.1 * W c h i).natAbs + absS (l.map (ext W c h i)) := by simp [absS, ext]
    have e2 : absS (p :: l) = p.1.natAbs + absS l := by simp [absS]
    have h3 : (p.1 * W c h i).natAbs ≤ p.1.natAbs * 3 := by rw [Int.natAbs_mul]; exact Nat.mul_le_mul_left _ (hW c h i)
    omega
theorem absS_pths {W : Int → Int → Int → Int} (hW : ∀ c j i, (W c j i).natAbs ≤ 3) (goal : Int) : ∀ (n : Nat) (c h : Int), c ≤ 2 → absS (pths W goal n c h) ≤ (if goal < h then 0 else 6 ^ ((2 - c) + (goal - h)).toNat)
  | 0, c, h, _ => Nat.zero_le _
  | n + 1, c, h, hc => by
    unfold pths
    by_cases h1 : goal < h
    · rw [if_pos h1, if_pos h1]; exact Nat.zero_le _
    · rw [if_neg h1, if_neg h1]
      by_cases h2 : c = 2 ∧ h = goal
      · rw [if_pos h2]
        have : ((2 - c) + (goal - h)).toNat = 0 := by omega
        rw [this]
        simp [absS]
      · rw [if_neg h2]
        rw [show List.range 2 = [0, 1] from rfl]
        simp only [List.flatMap_cons, List.flatMap_nil, List.append_nil]
        rw [absS_append]
        obtain ⟨s, hs⟩ : ∃ s, ((2 - c) + (goal - h)).toNat = s + 1 := ⟨((2 - c) + (goal - h)).toNat - 1, by omega⟩
        rw [hs, Nat.pow_succ]
        have a0 : absS (if c + (1 - ((0 : Nat) : Int)) < 3 then (pths W goal n (c + (1 - ((0 : Nat) : Int))) (h + (0 : Nat))).map (ext W c h 0) else []) ≤ 3 * 6 ^ s := by
          by_cases hc3 : c + (1 - ((0 : Nat) : Int)) < 3
          · rw [if_pos hc3]
            have ih := absS_pths hW goal n (c + (1 - ((0 : Nat) : Int))) (h + (0 : Nat)) (by omega)
            rw [if_neg (by omega), show ((2 - (c + (1 - ((0 : Nat) : Int)))) + (goal - (h + (0 : Nat)))).toNat = s by omega] at ih
            exact Nat.le_trans (absS_ext hW _ _ _ _) (Nat.mul_le_mul_left _ ih)
          · rw [if_neg hc3]; exact Nat.zero_le _
        have a1 : absS (if c + (1 - ((1 : Nat) : Int)) < 3 then (pths W goal n (c + (1 - ((1 : Nat) : Int))) (h + (1 : Nat))).map (ext W c h 1) else []) ≤ 3 * 6 ^ s := by
          by_cases hc3 : c + (1 - ((1 : Nat) : Int)) < 3
          · rw [if_pos hc3]
            have ih := absS_pths hW goal n (c + (1 - ((1 : Nat) : Int))) (h + (1 : Nat)) (by omega)
            refine Nat.le_trans (absS_ext hW _ _ _ _) (Nat.mul_le_mul_left _ (Nat.le_trans ih ?_))
            by_cases hg : goal < h + (1 : Nat)
            · rw [if_pos hg]; exact Nat.zero_le _
            · rw [if_neg hg, show ((2 - (c + (1 - ((1 : Nat) : Int)))) + (goal - (h + (1 : Nat)))).toNat = s by omega]
              exact Nat.le_refl _
          · rw [if_neg hc3]; exact Nat.zero_le _
        omega
theorem sum_absS (l : List Path) : (l.map fun p : Path => p.1).sum.natAbs ≤ absS l := by
  induction l with
  | nil => exact Nat.le_refl _
  | cons p l ih =>
    have e2 : absS (p :: l) = p.1.natAbs + absS l := by simp [absS]
    rw [e2, List.map_cons, List.sum_cons]
    have := Int.natAbs_add_le p.1 ((l.map fun p : Path => p.1).sum)
    omega
theorem mem_absS {l : List Path} {p : Path} (h : p ∈ l) : p.1.natAbs ≤ absS l := by
  induction l with
  | nil => cases h
  | cons q l ih =>
    have e2 : absS (q :: l) = q.1.natAbs + absS l := by simp [absS]
    rcases List.mem_cons.mp h with rfl | h
    · omega
    · have := ih h; omega
theorem lots_bound {W : Int → Int → Int → Int} (hW : ∀ c j i, (W c j i).natAbs ≤ 3) {rise : Int} {i j : Nat} (h : (j : Int) + rise ≤ 3) : absS (lotsF W rise i j) ≤ 7776 := by
  unfold lotsF
  refine Nat.le_trans (absS_pths hW _ 7 0 i (by decide)) ?_
  split
  · exact Nat.zero_le _
  · have : (2 - 0 + ((j : Int) + rise - (i : Int))).toNat ≤ 5 := by omega
    exact Nat.le_trans (Nat.pow_le_pow_right (by decide) this) (by decide)

/-- nothing outside -/
def cut (n : Nat) (g : Mat) : Mat := fun i j => if i < n ∧ j < n then g i j else 0
theorem gM_cut (n : Nat) (g : Mat) : gM n (cut n g) = gM n g := by
  unfold gM
  congr 1
  refine List.map_congr_left fun i hi => ?_
  congr 1
  unfold rowL
  refine List.map_congr_left fun j hj => ?_
  unfold cut
  rw [if_pos ⟨List.mem_range.mp hi, List.mem_range.mp hj⟩]
theorem detF_cut {n : Nat} (g : Mat) (h1 : 1 ≤ n) (h3 : n ≤ 3) : detF n (cut n g) = detF n g := by
  have : n = 1 ∨ n = 2 ∨ n = 3 := by omega
  rcases this with rfl | rfl | rfl
  · rw [detF1, detF1]; rfl
  · rw [detF2, detF2]; rfl
  · rw [detF3, detF3]; rfl
theorem cut_bound {n : Nat} {g : Mat} {B : Nat} (h : ∀ i j, i < n → j < n → (g i j).natAbs ≤ B) (i j : Nat) : (cut n g i j).natAbs ≤ B := by
  unfold cut
  split
  · rename_i q; exact h _ _ q.1 q.2
  · exact Nat.zero_le _

-- the boxes
def boxF (b c : Nat) : Mat := fun i j => if 0 ≤ (b : Int) - i + j ∧ (b : Int) - i + j ≤ b + c then (binList ((b : Int) + c) (b + c)).getD ((b : Int) - i + j).toNat 0 else 0
theorem box_all : ∀ a ∈ [1, 2, 3], ∀ b ∈ [1, 2, 3], ∀ c ∈ [1, 2, 3], detF a (boxF b c) = (hpa a b c).1.fdiv (hpa a b c).2 ∧ (hpa a b c).2 ≠ 0 ∧ (hpa a b c).2.natAbs.log2 < 9000 ∧ ∀ i ∈ List.range a, ∀ j ∈ List.range a, (boxF b c i j).natAbs ≤ bnd 0 := by decide +kernel
end Mine
end

-- Mt4
section
namespace Mine
open PySem PySem.W PySem.Calls PySem.Spec PyProof.Rows

section
variable {prog : Program} {w : World} {A : Around} {hid : List Addr} {h : Heap} {mean : ExcName → Option Value} {mg mb : Str → Option Value}
theorem ct_trM (T : Tp mean mg mb h) {f fs : Addr} (hf : mg (dr 9).name = some (.ref f)) (hs : mg (dr 8).name = some (.ref fs)) {m : Nat} {G : Mat} (hm : m = 2 ∨ m = 3) (ok : AOk A 3) (lv : Live hid h) :
    Ct prog w A hid h (.ref f) [gM m G] (gM m (trG G)) := by
  rcases hm with rfl | rfl
  · exact ct_transposed T hf hs (r := [G 0 0, G 0 1]) (g := [[G 1 0, G 1 1]]) (by decide : 1 < 1000) (by decide : 2 < 1000) (fun q hq => by
      rcases List.mem_cons.mp hq with rfl | hq
      · rfl
      · cases List.mem_singleton.mp hq; rfl) ok lv
  · exact ct_transposed T hf hs (r := [G 0 0, G 0 1, G 0 2]) (g := [[G 1 0, G 1 1, G 1 2], [G 2 0, G 2 1, G 2 2]]) (by decide : 2 < 1000) (by decide : 3 < 1000) (fun q hq => by
      rcases List.mem_cons.mp hq with rfl | hq
      · rfl
      · rcases List.mem_cons.mp hq with rfl | hq
        · rfl
        · cases List.mem_singleton.mp hq; rfl) ok lv
theorem ct_mnM (T : Tp mean mg mb h) {f : Addr} (hf : mg (dr 6).name = some (.ref f)) {m : Nat} {G : Mat} (hm : m = 2 ∨ m = 3) (ok : AOk A 3) (lv : Live hid h) :
    Ct prog w A hid h (.ref f) [gM m G, .int ((m : Int) - 1), .int ((m : Int) - 1)] (gM (m - 1) G) := by
  rcases hm with rfl | rfl
  · have := ct_minor (prog := prog) (w := w) (A := A) (hid := hid) T hf (g := [[G 0 0, G 0 1], [G 1 0, G 1 1]]) (r := 1) (c := 1) (by decide : 2 < 1000) (fun q hq => by
      rcases List.mem_cons.mp hq with rfl | hq
      · exact (by decide : 2 < 1000)
      · cases List.mem_singleton.mp hq; exact (by decide : 2 < 1000)) ok lv
    have e : mnr [[G 0 0, G 0 1], [G 1 0, G 1 1]] 1 1 = [[G 0 0]] := by simp [mnr, mnrow, List.range, List.range.loop]
    rw [e] at this
    exact this
  · have := ct_minor (prog := prog) (w := w) (A := A) (hid := hid) T hf (g := [[G 0 0, G 0 1, G 0 2], [G 1 0, G 1 1, G 1 2], [G 2 0, G 2 1, G 2 2]]) (r := 2) (c := 2) (by decide : 3 < 1000) (fun q hq => by
      rcases List.mem_cons.mp hq with rfl | hq
      · exact (by decide : 3 < 1000)
      · rcases List.mem_cons.mp hq with rfl | hq
        · exact (by decide : 3 < 1000)
        · cases List.mem_singleton.mp hq; exact (by decide : 3 < 1000)) ok lv
    have e : mnr [[G 0 0, G 0 1, G 0 2], [G 1 0, G 1 1, G 1 2], [G 2 0, G 2 1, G 2 2]] 2 2 = [[G 0 0, G 0 1], [G 1 0, G 1 1]] := by simp [mnr, mnrow, List.range, List.range.loop]
    rw [e] at this
    exact this
theorem ct_detM (T : Tp mean mg mb h) {f f3 f4 : Addr} (hf : mg (dr 5).name = some (.ref f)) (hf3 : mg (dr 3).name = some (.ref f3)) (hf4 : mg (dr 4).name = some (.ref f4)) {n : Nat} {g : Mat} (h1 : 1 ≤ n) (hn : n ≤ 3) (hg : ∀ i j, i < n → j < n → (g i j).natAbs ≤ bnd 0) (ok : AOk A 3) (lv : Live hid h) :
    Ct prog w A hid h (.ref f) [gM n g] (.int (detF n g)) := by
  have := ct_det (prog := prog) (w := w) (A := A) (hid := hid) T hf hf3 hf4 (n := n) (g := cut n g) hn (cut_bound hg) ok lv
  rw [gM_cut, detF_cut g h1 hn] at this
  exact this
end
theorem grid_bound {W : Int → Int → Int → Int} (hW : ∀ c j i, (W c j i).natAbs ≤ 3) {m r : Nat} (hmr : m + r ≤ 4) (i j : Nat) (hj : j < m) : (gridF W r i j).natAbs ≤ bnd 0 := by
  unfold gridF
  refine Nat.le_trans (sum_absS _) (Nat.le_trans (lots_bound hW (by omega)) (by decide))
theorem own_bound {W : Int → Int → Int → Int} (hW : ∀ c j i, (W c j i).natAbs ≤ 3) {m r n : Nat} (hmr : m + r ≤ 4) (hn : n ≤ m) : ∀ lot ∈ ownF W r n, ∀ p ∈ lot, p.1.natAbs < 2 ^ 60 ∧ p.2.length ≤ 20 := fun lot hl p hp => by
  obtain ⟨i, hi, rfl⟩ := List.mem_map.mp hl
  have hi' := List.mem_range.mp hi
  have h1 := Nat.le_trans (mem_absS hp) (lots_bound hW (by omega))
  have h2 := (pths_len W ((i : Int) + r) 7 0 i).2 p hp
  exact ⟨by omega, by omega⟩
theorem law_dets (W : Int → Int → Int → Int) {m r : Nat} (hmr : (m = 2 ∧ (r = 1 ∨ r = 2)) ∨ (m = 3 ∧ r = 1)) : detF m (gridF W r) = apt (ownF W r m) [] ∧ detF m (trG (gridF W r)) = apt (ownF W r m) [] ∧ detF (m - 1) (gridF W r) = apt (ownF W r (m - 1)) [] := by
  rcases hmr with ⟨rfl, rfl | rfl⟩ | ⟨rfl, rfl⟩
  · exact ⟨(detF2 _).trans (lgv21 W), (detF2 _).trans ((det2_tr _).trans (lgv21 W)), (detF1 _).trans (one1 W _)⟩
  · exact ⟨(detF2 _).trans (lgv22 W), (detF2 _).trans ((det2_tr _).trans (lgv22 W)), (detF1 _).trans (one1 W _)⟩
  · exact ⟨(detF3 _).trans (lgv31 W), (detF3 _).trans ((det3_tr _).trans (lgv31 W)), (detF2 _).trans (lgv21 W)⟩
end Mine
end

-- Pr12
section
namespace Mine
open PySem PySem.W PySem.Calls PySem.Spec PyProof.Rows

def vals (d : Int) : Int := ([1, 2, -1, 3] : List Int).getD d.toNat 0
def cnt (H k3 c j i : Nat) : Nat := if c < 2 then k3 + c * (2 * H) + 2 * j + i else k3 + 4 * H + j + (i - 1)
def WF (scr : List Int) (H k3 : Nat) (c j i : Int) : Int := if c < 2 then vals (drw scr (k3 + c.toNat * (2 * H) + 2 * j.toNat + i.toNat) 4) else if i = 1 then vals (drw scr (k3 + 4 * H + j.toNat) 4) else 1
theorem vals_bound (d : Int) : (vals d).natAbs ≤ 3 := by
  unfold vals
  generalize d.toNat = n
  match n with
  | 0 => decide
  | 1 => decide
  | 2 => decide
  | 3 => decide
  | n + 4 => simp
theorem WF_bound (scr : List Int) (H k3 : Nat) (c j i : Int) : (WF scr H k3 c j i).natAbs ≤ 3 := by
  unfold WF
  split
  · exact vals_bound _
  · split
    · exact vals_bound _
    · decide
structure DInv (scr : List Int) (H k3 : Nat) (ys : List (List Int × Addr × Value)) (c j i : Nat) : Prop where
  len : ys.length ≤ c * (2 * H) + 2 * j + i
  at' : ∀ c' j' i' : Nat, j' < H → i' < 2 → (c' < c ∨ (c' = c ∧ (j' < j ∨ (j' = j ∧ i' < i)))) → ∃ adr tk, atKey ys [(c' : Int), (j' : Int), (i' : Int)] = some (adr, .int (WF scr H k3 c' j' i') tk)
section
variable {scr : List Int} {H k3 : Nat} {ys : List (List Int × Addr × Value)} {c j i : Nat}
theorem DInv.start : DInv scr H k3 [] 0 0 0 := ⟨Nat.zero_le _, fun c' j' i' _ _ h => by omega⟩
theorem DInv.step (D : DInv scr H k3 ys c j i) (adr : Addr) (tk : Tok) : DInv scr H k3 (storedH ys [(c : Int), (j : Int), (i : Int)] adr (.int (WF scr H k3 c j i) tk)) c j (i + 1) := by
  refine ⟨?_, fun c' j' i' hj hi h => ?_⟩
  · have h1 := len_storedH ys [(c : Int), (j : Int), (i : Int)] adr (.int (WF scr H k3 c j i) tk)
    have h2 := D.len
    omega
  · by_cases hq : c' = c ∧ j' = j ∧ i' = i
    · obtain ⟨rfl, rfl, rfl⟩ := hq
      obtain ⟨a', e⟩ := atKey_new ys [(c' : Int), (j' : Int), (i' : Int)] adr (.int (WF scr H k3 c' j' i') tk)
      exact ⟨a', tk, e⟩
    · have hne : ([(c' : Int), (j' : Int), (i' : Int)] : List Int) ≠ [(c : Int), (j : Int), (i : Int)] := fun q => by
        simp only [List.cons.injEq, and_true] at q
        exact hq ⟨by omega, by omega, by omega⟩
      rw [atKey_old _ _ _ _ _ hne]
      exact D.at' c' j' i' hj hi (by omega)
theorem DInv.row (D : DInv scr H k3 ys c j 2) : DInv scr H k3 ys c (j + 1) 0 := ⟨by have := D.len; omega, fun c' j' i' hj hi h => D.at' c' j' i' hj hi (by omega)⟩
theorem DInv.col (D : DInv scr H k3 ys c H 0) : DInv scr H k3 ys (c + 1) 0 0 := ⟨by have := D.len; rw [Nat.add_mul]; omega, fun c' j' i' hj hi h => D.at' c' j' i' hj hi (by omega)⟩
end

theorem mem17 (L : Addr) : (Str.ofString "worths", L + 1) ∈ ocN (dr 17) L ∧ (Str.ofString "many", L + 2) ∈ ocN (dr 17) L ∧ (Str.ofString "rise", L + 3) ∈ ocN (dr 17) L ∧ (Str.ofString "lots", L + 4) ∈ ocN (dr 17) L ∧ (Str.ofString "row", L + 5) ∈ ocN (dr 17) L ∧ (Str.ofString "a", L + 6) ∈ ocN (dr 17) L ∧ (Str.ofString "b", L + 7) ∈ ocN (dr 17) L ∧ (Str.ofString "c", L + 8) ∈ ocN (dr 17) L :=
  ⟨mem_of_at (i := 7) rfl, mem_of_at (i := 6) rfl, mem_of_at (i := 5) rfl, mem_of_at (i := 4) rfl, mem_of_at (i := 3) rfl, mem_of_at (i := 2) rfl, mem_of_at (i := 1) rfl, mem_of_at (i := 0) rfl⟩
theorem in17 : dr 17 ∈ recsOf Mine.hd.view_39 := by rw [rec_in]; exact mem_of_at (i := 11) rfl

section
variable {prog : Program} {w : World} {mean : ExcName → Option Value} {mg mb : Str → Option Value} {s₁ : Shared} {A : Around}
set_option maxHeartbeats 4000000 in
theorem law_walk (T : Tp mean mg mb s₁.heap) {fa a : Addr} (hfa : mg (dr 17).name = some (.ref fa)) {vs : List Value} {is : List Int} (hL : s₁.heap.IsList a vs.toArray) (hI : IntsAre vs is) (hlen : is.length ≤ 63) (ok : AOk A 12) {R : Result → Shared → Prop}
    (hR : ∀ s', s' = { s₁ with heap := s'.heap, toks := s'.toks } → Kept s₁.heap s'.heap → R (.ok (.ret (.bool true))) s') : codeAny (model prog w) A (.call (.ref fa) ⟨[.ref a], []⟩) R s₁ := by
  refine enterC (d := dr 17) (hb := s₁.heap.get?) (ow := []) (hid := []) (fun _ _ e => e) (fun _ q => nomatch q) T in17 hfa ok.room (fun _ q => nomatch q) (binds := [(Str.ofString "script", .ref a)]) (bds := [(Str.ofString "script", .raw (.ref a))]) (ns := [Str.ofString "script"]) (fun pm code doc => rfl) rfl (.cons (.raw _) .nil) rfl (by decide +kernel) (by decide +kernel) (by decide +kernel) (by decide +kernel) (by decide +kernel) (fun L cd s₂ E hLn hk S => ?_)
  have ok₁ := ok.deeper (envN (dr 17) fa L cd)
  have hz := sizeLine_eq
  obtain ⟨mW, mM, mR, mL, mRow, mA, mB, mC⟩ := mem17 L
  have e0 : (bindD [(Str.ofString "script", D.raw (.ref a))] fun _ => none) (Str.ofString "script") = some (.raw (.ref a)) := rfl
  generalize (bindD [(Str.ofString "script", D.raw (.ref a))] fun _ => none) = ρ at S e0
  have T₂ : Tp mean mg mb s₂.heap := T.keeps hk
  have hL₂ : s₂.heap.IsList a vs.toArray := let ⟨o, ho, q⟩ := hL; ⟨o, hk _ _ ho, q⟩
  generalize hscr : is.take 25 = scr
  have hsl : scr.length < 1000 := by rw [← hscr, List.length_take]; omega
  have hpool : ∀ {x : Expr}, x = x := fun {x} => rfl
  refine st_cons (st_pool (scr := scr) ok₁.handled S ?lc Ev.int (.inl ⟨rfl, rfl⟩) (.inr mW) fun P Dd s₃ hPD hPh hDh S₃ => ?_)
  case lc =>
    have e : rD scr = .lst (((List.range scr.length).filter fun _ => true).map fun i => .int (scr.getD i 0)) := by
      rw [filter_true, map_range_getD D.int scr 0]; rfl
    rw [e]
    refine Ev.comp S.live (EvIt.ints ok₁.handled (.inl ⟨_, _, rfl⟩) S.live (hscr ▸ Ev.sliceRaw S.live hL₂ hI (S.fm.ev e0 (.inl rfl)) Ev.int (fun its _ => slicePick_upto' its 25) (by omega))) (cl := []) rfl
      (ClOk.cpN ClOk.nil S.fm (by omega) rfl (by decide +kernel) rfl (fun C => ⟨_, .inl ⟨rfl, rfl⟩⟩) (fun i hi C hid' h' hsub lv' k' F' => Ts.nil) fun i hi _ C hid' h' hsub lv' k' F' => ?_)
    have T' : Tp mean mg mb h' := T₂.keeps k'
    exact Ev.callT (Sees.builtin T' (mg_int T') (mb_int T') rfl rfl rfl rfl) (EvL.cons (F'.ev (d := .int (scr.getD i 0)) rfl (.inl rfl)) EvL.nil) ct_int
  have V3 : (upd (upd ρ (Str.ofString "pool") (.raw (.ref P))) (Str.ofString "worths") (.raw (.ref Dd))) (Str.ofString "pool") = some (.raw (.ref P)) := rfl
  have V3w : (upd (upd ρ (Str.ofString "pool") (.raw (.ref P))) (Str.ofString "worths") (.raw (.ref Dd))) (Str.ofString "worths") = some (.raw (.ref Dd)) := rfl
  generalize (upd (upd ρ (Str.ofString "pool") (.raw (.ref P))) (Str.ofString "worths") (.raw (.ref Dd))) = ρ₃ at S₃ V3 V3w
  obtain ⟨fd, _, _, _, _, hfd, _, _, _⟩ := T.fn (dr 13) in13
  have hneR : ∀ {ys : List (List Int × Addr × Value)}, ∀ p ∈ [(Dd, Ob.dct prog w ys)], p.1 ≠ P := fun {ys} p hp => by cases List.mem_singleton.mp hp; exact Ne.symm hPD
  have okd : AOk (A.deeper (envN (dr 17) fa L cd)) 2 := ok₁.le (by omega)
  -- many
  generalize hM : 2 + drw scr 0 2 = M
  refine st_cons (st_nameD S₃ (hM ▸ EvD.addR (fun s S => Ev.int) (EvD.draw T hfd (fun _ _ e => e) hsl (by omega) (by omega) okd (fun h' k => Sees.global (T.keeps k) hfd rfl rfl rfl) (fun s S => S.fm.ev V3 (.inl rfl)) (fun s S => Ev.int) hneR)) (.inr mM) fun s₄ S₄ => ?_)
  have V4 : (upd ρ₃ (Str.ofString "many") (.int M)) (Str.ofString "pool") = some (.raw (.ref P)) := V3
  have V4w : (upd ρ₃ (Str.ofString "many") (.int M)) (Str.ofString "worths") = some (.raw (.ref Dd)) := V3w
  have V4m : (upd ρ₃ (Str.ofString "many") (.int M)) (Str.ofString "many") = some (.int M) := rfl
  generalize (upd ρ₃ (Str.ofString "many") (.int M)) = ρ₄ at S₄ V4 V4w V4m
  have hM2 := drw_range scr 0 (m := 2) (by decide)
  -- rise
  obtain ⟨k2, Ri, hRi, hcase, hk2⟩ : ∃ (k2 : Nat) (Ri : Int), ((M == 2) = true → Ri = 1 + drw scr 1 2 ∧ k2 = 2) ∧ ((M == 2) = false → Ri = 1 ∧ k2 = 1) ∧ k2 ≤ 2 := by
    cases (M == 2) with
    | true => exact ⟨2, 1 + drw scr 1 2, fun _ => ⟨rfl, rfl⟩, fun q => by (cases q), Nat.le_refl _⟩
    | false => exact ⟨1, 1, fun q => by (cases q), fun _ => ⟨rfl, rfl⟩, by decide⟩
  refine st_cons (st_nameD S₄ (d := .int Ri) (k' := k2) (EvD.ifexp (t := M == 2) (fun s S => Tr.cmp (S.fm.ev V4m (.inr (.inl rfl))) Ev.int Op2.eqI)
      (fun q => by
        obtain ⟨q1, q2⟩ := hRi q
        rw [q1, q2]
        exact EvD.addR (fun s S => Ev.int) (EvD.draw T hfd (fun _ _ e => e) hsl (by omega) (by omega) okd (fun h' k => Sees.global (T.keeps k) hfd rfl rfl rfl) (fun s S => S.fm.ev V4 (.inl rfl)) (fun s S => Ev.int) hneR))
      (fun q => by
        obtain ⟨q1, q2⟩ := hcase q
        rw [q1, q2]
        exact EvD.pure fun s S => Ev.int)) (.inr mR) fun s₅ S₅ => ?_)
  have V5 : (upd ρ₄ (Str.ofString "rise") (.int Ri)) (Str.ofString "pool") = some (.raw (.ref P)) := V4
  have V5w : (upd ρ₄ (Str.ofString "rise") (.int Ri)) (Str.ofString "worths") = some (.raw (.ref Dd)) := V4w
  have V5m : (upd ρ₄ (Str.ofString "rise") (.int Ri)) (Str.ofString "many") = some (.int M) := V4m
  have V5r : (upd ρ₄ (Str.ofString "rise") (.int Ri)) (Str.ofString "rise") = some (.int Ri) := rfl
  generalize (upd ρ₄ (Str.ofString "rise") (.int Ri)) = ρ₅ at S₅ V5 V5w V5m V5r
  have hMR : (M = 2 ∧ (Ri = 1 ∨ Ri = 2)) ∨ (M = 3 ∧ Ri = 1) := by
    have hr := drw_range scr 1 (m := 2) (by decide)
    by_cases q : M = 2
    · obtain ⟨q1, _⟩ := hRi (by simp [q])
      exact .inl ⟨q, by omega⟩
    · obtain ⟨q1, _⟩ := hcase (by simp [q])
      exact .inr ⟨by omega, q1⟩
  clear hRi hcase hM
  -- sides
  refine st_cons (st_nameD S₅ (EvD.list3 (EvD.addR (fun s S => Ev.int) (EvD.draw T hfd (fun _ _ e => e) hsl (by omega) (by omega) okd (fun h' k => Sees.global (T.keeps k) hfd rfl rfl rfl) (fun s S => S.fm.ev V5 (.inl rfl)) (fun s S => Ev.int) hneR)) (EvD.addR (fun s S => Ev.int) (EvD.draw T hfd (fun _ _ e => e) hsl (by omega) (by omega) okd (fun h' k => Sees.global (T.keeps k) hfd rfl rfl rfl) (fun s S => S.fm.ev V5 (.inl rfl)) (fun s S => Ev.int) hneR)) (EvD.addR (fun s S => Ev.int) (EvD.draw T hfd (fun _ _ e => e) hsl (by omega) (by omega) okd (fun h' k => Sees.global (T.keeps k) hfd rfl rfl rfl) (fun s S => S.fm.ev V5 (.inl rfl)) (fun s S => Ev.int) hneR))) (.inl ⟨rfl, rfl⟩) fun s₆ S₆ => ?_)
  have hA : 1 ≤ 1 + drw scr k2 3 ∧ 1 + drw scr k2 3 ≤ 3 := by have := drw_range scr k2 (m := 3) (by decide); omega
  have hB : 1 ≤ 1 + drw scr (k2 + 1) 3 ∧ 1 + drw scr (k2 + 1) 3 ≤ 3 := by have := drw_range scr (k2 + 1) (m := 3) (by decide); omega
  have hC : 1 ≤ 1 + drw scr (k2 + 1 + 1) 3 ∧ 1 + drw scr (k2 + 1 + 1) 3 ≤ 3 := by have := drw_range scr (k2 + 1 + 1) (m := 3) (by decide); omega
  generalize 1 + drw scr k2 3 = sA at *
  generalize 1 + drw scr (k2 + 1) 3 = sB at *
  generalize 1 + drw scr (k2 + 1 + 1) 3 = sC at *
  obtain ⟨m, r, rfl, rfl, hmr⟩ : ∃ m r : Nat, M = m ∧ Ri = r ∧ ((m = 2 ∧ (r = 1 ∨ r = 2)) ∨ (m = 3 ∧ r = 1)) := ⟨M.toNat, Ri.toNat, by omega, by omega, by omega⟩
  clear hMR hM2
  have hk3 : k2 + 1 + 1 + 1 ≤ 5 := by omega
  generalize k2 + 1 + 1 + 1 = k3 at S₆ hk3
  let Vs : (Str → Option D) → Prop := fun ρ => ρ (Str.ofString "pool") = some (.raw (.ref P)) ∧ ρ (Str.ofString "worths") = some (.raw (.ref Dd)) ∧ ρ (Str.ofString "many") = some (.int m) ∧ ρ (Str.ofString "rise") = some (.int r) ∧ ρ (Str.ofString "sides") = some (.lst [.int sA, .int sB, .int sC])
  have V6 : Vs (upd ρ₅ (Str.ofString "sides") (.lst [.int sA, .int sB, .int sC])) := ⟨V5, V5w, V5m, V5r, rfl⟩
  generalize (upd ρ₅ (Str.ofString "sides") (.lst [.int sA, .int sB, .int sC])) = ρ₆ at S₆ V6
  have hHb : m + r ≤ 4 := by omega
  have hcnt : ∀ c j i, c < 3 → j < m + r → i < 2 → cnt (m + r) k3 c j i < 1000 := fun c j i hc hj hi => by
    unfold cnt
    have : c * (2 * (m + r)) ≤ 2 * (2 * (m + r)) := Nat.mul_le_mul_right _ (by omega)
    split <;> omega
  have topOf : ∀ {hh : Heap}, (∀ b o, s₁.heap.get? b = some o → hh.get? b = some o) → Tp mean mg mb hh := fun kk => T.keeps kk
  have T₆ := topOf S₆.kept
  refine st_cons (st_for S₆ (EvIt.congr (n := 3) (ds' := fun i => .int i) (EvIt.range1 (b := 3) ok₁.handled (.inl ⟨_, _, rfl⟩) (Sees.builtin T₆ (mg_range T₆) (mb_range T₆) rfl rfl rfl rfl) Ev.int (by decide) (by decide)) rfl fun i hi => by rw [Int.zero_add])
    (fun c ρ ow => ∃ ys kc, ow = [(P, pl scr kc), (Dd, Ob.dct prog w ys)] ∧ (c < 3 → kc = cnt (m + r) k3 c 0 0) ∧ DInv scr (m + r) k3 ys c 0 0 ∧ Vs ρ) (fun i ρ' ow' hi => by obtain ⟨ys, kc, rfl, _⟩ := hi; rfl) ⟨[], k3, rfl, fun _ => by simp [cnt], DInv.start, V6⟩ (fun _ => False)
    (fun c ρ => upd ρ (Str.ofString "column") (.int c)) (fun i hi => Aim.name (.inl ⟨rfl, rfl⟩)) ?turn ?done ?ret)
  case ret => exact fun _ _ _ _ _ q => q.elim
  case turn =>
    rintro c I hb' s' ρ' ow' E' hc ⟨ys, kc, rfl, hkc, hDI, hV⟩ hbb S'
    have hkc' := hkc hc
    subst hkc'
    clear hkc
    have T' := topOf (fun b o e => S'.kept b o (hbb b o e))
    have hV' : Vs (upd ρ' (Str.ofString "column") (.int c)) := hV
    have hcol : (upd ρ' (Str.ofString "column") (.int c)) (Str.ofString "column") = some (.int c) := rfl
    generalize upd ρ' (Str.ofString "column") (.int c) = ρ₁ at S' hV' hcol
    obtain ⟨w1, w2, w3, w4, w5⟩ := id hV'
    refine st_cons (st_for S' (EvIt.congr (n := m + r) (ds' := fun i => .int i) (EvIt.range1 (b := (m : Int) + r) ok₁.handled (.inl ⟨_, _, rfl⟩) (Sees.builtin T' (mg_range T') (mb_range T') rfl rfl rfl rfl) (Ev.bin (S'.fm.ev w3 (.inr (.inl rfl))) (S'.fm.ev w4 (.inr (.inl rfl))) Op2.add) (by omega) (by omega)) (by omega) fun i hi => by rw [Int.zero_add])
      (fun j ρ ow => ∃ ys, ow = [(P, pl scr (cnt (m + r) k3 c j 0)), (Dd, Ob.dct prog w ys)] ∧ DInv scr (m + r) k3 ys c j 0 ∧ Vs ρ ∧ ρ (Str.ofString "column") = some (.int c)) (fun i ρ' ow' hi => by obtain ⟨ys, rfl, _⟩ := hi; rfl) ⟨ys, rfl, hDI, hV', hcol⟩ (fun _ => False)
      (fun j ρ => upd ρ (Str.ofString "height") (.int j)) (fun i hi => Aim.name (.inl ⟨rfl, rfl⟩)) ?turn2 ?done2 ?ret2)
    case ret2 => exact fun _ _ _ _ _ q => q.elim
    case done2 =>
      rintro s7 ρ7 ow7 ⟨ys, rfl, hDI, hV, _⟩ S7
      refine wpAny_execs_nil ⟨_, _, S7, ys, _, rfl, fun hc3 => ?_, hDI.col, hV⟩
      unfold cnt
      have : c = 0 ∨ c = 1 := by omega
      rcases this with rfl | rfl
      · rw [if_pos (by decide), if_pos (by decide)]; omega
      · rw [if_pos (by decide), if_neg (by decide)]; omega
    case turn2 =>
      rintro j I2 hb2 s7 ρ7 ow7 E7 hj ⟨ys, rfl, hDI, hV, hcol⟩ hbb2 S7
      have hV' : Vs (upd ρ7 (Str.ofString "height") (.int j)) := hV
      have hcol' : (upd ρ7 (Str.ofString "height") (.int j)) (Str.ofString "column") = some (.int c) := hcol
      have hhei : (upd ρ7 (Str.ofString "height") (.int j)) (Str.ofString "height") = some (.int j) := rfl
      generalize upd ρ7 (Str.ofString "height") (.int j) = ρ₈ at S7 hV' hcol' hhei
      refine st_cons (st_for S7 (EvIt.congr (n := 2) (ds' := fun i => .int i) (EvIt.tup ok₁.handled (.inl ⟨_, _, rfl⟩) S7.live (Ev.tuple S7.live (EvL.cons Ev.int (EvL.cons Ev.int EvL.nil)))) rfl fun i hi => ?src)
        (fun i ρ ow => ∃ ys, ow = [(P, pl scr (cnt (m + r) k3 c j i)), (Dd, Ob.dct prog w ys)] ∧ DInv scr (m + r) k3 ys c j i ∧ Vs ρ ∧ ρ (Str.ofString "column") = some (.int c) ∧ ρ (Str.ofString "height") = some (.int j)) (fun i ρ' ow' hi => by obtain ⟨ys, rfl, _⟩ := hi; rfl) ⟨ys, rfl, hDI, hV', hcol', hhei⟩ (fun _ => False)
        (fun i ρ => upd ρ (Str.ofString "at") (.int i)) (fun i hi => Aim.name (.inl ⟨rfl, rfl⟩)) ?turn3 ?done3 ?ret3)
      case src =>
        match i, hi with
        | 0, _ => rfl
        | 1, _ => rfl
      case ret3 => exact fun _ _ _ _ _ q => q.elim
      case done3 =>
        rintro s8 ρ8 ow8 ⟨ys, rfl, hDI, hV, hcol, _⟩ S8
        refine wpAny_execs_nil ⟨_, _, S8, ys, ?_, hDI.row, hV, hcol⟩
        have : cnt (m + r) k3 c j 2 = cnt (m + r) k3 c (j + 1) 0 := by unfold cnt; split <;> omega
        rw [this]
      case turn3 =>
        rintro i I3 hb3 s8 ρ8 ow8 E8 hi ⟨ys, rfl, hDI, hV, hcol, hhei⟩ hbb3 S8
        have hV' : Vs (upd ρ8 (Str.ofString "at") (.int i)) := hV
        have x1 : (upd ρ8 (Str.ofString "at") (.int i)) (Str.ofString "column") = some (.int c) := hcol
        have x2 : (upd ρ8 (Str.ofString "at") (.int i)) (Str.ofString "height") = some (.int j) := hhei
        have x3 : (upd ρ8 (Str.ofString "at") (.int i)) (Str.ofString "at") = some (.int i) := rfl
        generalize upd ρ8 (Str.ofString "at") (.int i) = ρ₉ at S8 hV' x1 x2 x3
        have hb3o : ∀ b o, s₁.heap.get? b = some o → hb3 b = some o := fun b o e => hbb3 b o (hbb2 b o (hbb b o e))
        have y1 : ρ₉ (Str.ofString "pool") = some (.raw (.ref P)) := hV'.1
        have y2 : ρ₉ (Str.ofString "worths") = some (.raw (.ref Dd)) := hV'.2.1
        have hlenY : ys.length < 1000 := by
          have h1 := hDI.len
          have h2 : c * (2 * (m + r)) ≤ 2 * (2 * (m + r)) := Nat.mul_le_mul_right _ (by omega)
          omega
        refine st_cons (st_dictSet (k' := cnt (m + r) k3 c j (i + 1)) (u := WF scr (m + r) k3 c j i) (i1 := c) (i2 := j) (i3 := i) S8 hPD ?ed (fun s S => S.fm.ev y2 (.inr (.inl rfl))) (fun s S => Ev.tuple S.live (EvL.cons (S.fm.ev x1 (.inl rfl)) (EvL.cons (S.fm.ev x2 (.inl rfl)) (EvL.cons (S.fm.ev x3 (.inl rfl)) EvL.nil)))) hlenY (by have := ok₁.units; omega) fun s9 adr tk S9 => ?_)
        case ed =>
          have hcn := hcnt c j i hc hj hi
          have hdr := drw_range scr (cnt (m + r) k3 c j i) (m := 4) (by decide)
          refine EvD.ifexp (t := decide ((c : Int) < 2) || ((i : Int) == 1)) (fun s S => Tr.or (Tr.cmp (S.fm.ev x1 (.inl rfl)) Ev.int Op2.ltI) (fun _ => Tr.cmp (S.fm.ev x3 (.inl rfl)) Ev.int Op2.eqI)) (fun q => ?_) (fun q => ?_)
          · have q' : c < 2 ∨ i = 1 := by
              simp only [Bool.or_eq_true, decide_eq_true_eq, beq_iff_eq] at q
              omega
            have e1 : cnt (m + r) k3 c j (i + 1) = cnt (m + r) k3 c j i + 1 := by
              unfold cnt
              split <;> omega
            have e2 : WF scr (m + r) k3 c j i = vals (drw scr (cnt (m + r) k3 c j i) 4) := by
              unfold WF cnt
              by_cases hc2 : c < 2
              · rw [if_pos (by omega), if_pos hc2]
                simp only [Int.toNat_natCast]
              · rw [if_neg (by omega), if_neg hc2, if_pos (by omega)]
                have hi1 : i = 1 := by omega
                subst hi1
                simp only [Int.toNat_natCast, Nat.sub_self, Nat.add_zero]
            rw [e1, e2]
            refine EvD.pick (L := [1, 2, -1, 3]) (fun s S => ?_) (EvD.draw T hfd (fun b o e => hb3o b o e) hsl hcn (by decide) okd (fun h' k => Sees.global (T.keeps k) hfd rfl rfl rfl) (fun s S => S.fm.ev y1 (.inl rfl)) (fun s S => Ev.int) hneR) hdr.1 (by simpa using hdr.2) (by decide)
            exact Ev.list S.live (EvL.cons Ev.int (EvL.cons Ev.int (EvL.cons (Ev.neg Ev.int) (EvL.cons Ev.int EvL.nil))))
          · have q' : ¬ c < 2 ∧ ¬ i = 1 := by
              simp only [Bool.or_eq_false_iff, decide_eq_false_iff_not, beq_eq_false_iff_ne] at q
              omega
            have e1 : cnt (m + r) k3 c j (i + 1) = cnt (m + r) k3 c j i := by
              unfold cnt
              rw [if_neg q'.1, if_neg q'.1]; omega
            have e2 : WF scr (m + r) k3 c j i = 1 := by
              unfold WF
              rw [if_neg (by omega), if_neg (by omega)]
            rw [e1, e2]
            exact EvD.pure fun s S => Ev.int
        exact wpAny_execs_nil ⟨_, _, S9, _, rfl, hDI.step adr tk, hV', x1, x2⟩
  case done =>
    rintro s7 ρ7 ow7 ⟨ys, kc, rfl, _, hDI, hV⟩ S7
    obtain ⟨v1, v2, v3, v4, v5⟩ := hV
    generalize hW : WF scr (m + r) k3 = W
    have hWb : ∀ c j i, (W c j i).natAbs ≤ 3 := by rw [← hW]; exact WF_bound scr (m + r) k3
    have hWOk : ∀ {h' : Heap}, Kept s7.heap h' → WOk prog w h' Dd ((m + r : Nat) : Int) W := fun {h'} kk => by
      obtain ⟨_, _, hDO, _⟩ := S7.own _ (.tail _ (.head _))
      refine ⟨ys, DictOfH.keep' kk hDO, fun c j i h1 h2 h3 h4 h5 => ?_⟩
      obtain ⟨adr, tk, e⟩ := hDI.at' c.toNat j.toNat i (by omega) h5 (.inl (by omega))
      rw [hW, show ((c.toNat : Nat) : Int) = c by omega, show ((j.toNat : Nat) : Int) = j by omega] at e
      exact ⟨adr, tk, e⟩
    have T7 := topOf S7.kept
    obtain ⟨fp, op, _, _, _, hfp, hop0, hod, _⟩ := T.fn (dr 14) in14
    have lotsEq : (D.lst (((List.range m).filter fun _ => true).map fun i => .lst (((List.range m).filter fun _ => true).map fun j => lotD (lotsF W r i j)))) = .lst ((List.range m).map fun i => .lst ((List.range m).map fun j => lotD (lotsF W r i j))) := by
      simp only [filter_true]
    refine st_cons (st_expr_name S7 (d := .lst ((List.range m).map fun i => .lst ((List.range m).map fun j => lotD (lotsF W r i j)))) ?lots (.inr mL) fun s8 S8 => ?_)
    case lots =>
      rw [← lotsEq]
      refine Ev.comp S7.live (EvIt.congr (n := m) (ds' := fun i => .int i) (EvIt.range1 (b := m) ok₁.handled (.inl ⟨_, _, rfl⟩) (Sees.builtin T7 (mg_range T7) (mb_range T7) rfl rfl rfl rfl) (S7.fm.ev v3 (.inr (.inl rfl))) (by omega) (by omega)) (by omega) fun i hi => by rw [Int.zero_add]) (cl := [(Str.ofString "worths", L + 1), (Str.ofString "rise", L + 3), (Str.ofString "many", L + 2)]) rfl
        (ClOk.cpN (ClOk.cons (by decide +kernel) rfl (.inl rfl) v2 (ClOk.cons (by decide +kernel) rfl (.inl rfl) v4 (ClOk.cons (by decide +kernel) rfl (.inl rfl) v3 .nil))) S7.fm (by omega) rfl (by decide +kernel) rfl (fun C => ⟨C + 1, .inr (.head _)⟩) (fun i hi C hid' h' hsub lv' k' F' => Ts.nil) fun i hi _ C hid' h' hsub lv' k' F' => ?_)
      have T' : Tp mean mg mb h' := T7.keeps k'
      have p1 : pick [(Str.ofString "worths", L + 1), (Str.ofString "rise", L + 3), (Str.ofString "many", L + 2)] ρ7 (Str.ofString "worths") = some (.raw (.ref Dd)) := v2
      have p2 : pick [(Str.ofString "worths", L + 1), (Str.ofString "rise", L + 3), (Str.ofString "many", L + 2)] ρ7 (Str.ofString "rise") = some (.int r) := v4
      have p3 : pick [(Str.ofString "worths", L + 1), (Str.ofString "rise", L + 3), (Str.ofString "many", L + 2)] ρ7 (Str.ofString "many") = some (.int m) := v3
      generalize pick [(Str.ofString "worths", L + 1), (Str.ofString "rise", L + 3), (Str.ofString "many", L + 2)] ρ7 = ρc at F' p1 p2 p3
      have q1 : upd ρc (Str.ofString "one") (.int i) (Str.ofString "worths") = some (.raw (.ref Dd)) := p1
      have q2 : upd ρc (Str.ofString "one") (.int i) (Str.ofString "rise") = some (.int r) := p2
      have q3 : upd ρc (Str.ofString "one") (.int i) (Str.ofString "many") = some (.int m) := p3
      have q4 : upd ρc (Str.ofString "one") (.int i) (Str.ofString "one") = some (.int i) := rfl
      generalize upd ρc (Str.ofString "one") (.int i) = ρd at F' q1 q2 q3 q4
      refine Ev.comp lv' (EvIt.congr (n := m) (ds' := fun i => .int i) (EvIt.range1 (b := m) ok₁.handled (.inl ⟨_, _, rfl⟩) (Sees.builtin T' (mg_range T') (mb_range T') rfl rfl rfl rfl) (F'.ev q3 (.inr (.inl rfl))) (by omega) (by omega)) (by omega) fun i hi => by rw [Int.zero_add]) (cl := [(Str.ofString "worths", L + 1), (Str.ofString "rise", L + 3), (Str.ofString "one", C + 1)]) rfl
        (ClOk.cpN (ClOk.cons (by decide +kernel) rfl (.inl rfl) q1 (ClOk.cons (by decide +kernel) rfl (.inl rfl) q2 (ClOk.cons (by decide +kernel) rfl (.inl rfl) q4 .nil))) F' (by omega) rfl (by decide +kernel) rfl (fun C => ⟨_, .inl ⟨rfl, rfl⟩⟩) (fun i hi C hid' h' hsub lv' k' F' => Ts.nil) fun j hj _ C2 hid2 h2 hsub2 lv2 k2' F2 => ?_)
      have T2 : Tp mean mg mb h2 := T'.keeps k2'
      obtain ⟨fp', op', _, _, _, hfp', hop', hod', _⟩ := T2.fn (dr 14) in14
      rw [hfp] at hfp'; cases hfp'
      have r1 : pick [(Str.ofString "worths", L + 1), (Str.ofString "rise", L + 3), (Str.ofString "one", C + 1)] ρd (Str.ofString "worths") = some (.raw (.ref Dd)) := q1
      have r2 : pick [(Str.ofString "worths", L + 1), (Str.ofString "rise", L + 3), (Str.ofString "one", C + 1)] ρd (Str.ofString "rise") = some (.int r) := q2
      have r3 : pick [(Str.ofString "worths", L + 1), (Str.ofString "rise", L + 3), (Str.ofString "one", C + 1)] ρd (Str.ofString "one") = some (.int i) := q4
      generalize pick [(Str.ofString "worths", L + 1), (Str.ofString "rise", L + 3), (Str.ofString "one", C + 1)] ρd = ρe at F2 r1 r2 r3
      have t1 : upd ρe (Str.ofString "other") (.int j) (Str.ofString "worths") = some (.raw (.ref Dd)) := r1
      have t2 : upd ρe (Str.ofString "other") (.int j) (Str.ofString "rise") = some (.int r) := r2
      have t3 : upd ρe (Str.ofString "other") (.int j) (Str.ofString "one") = some (.int i) := r3
      have t4 : upd ρe (Str.ofString "other") (.int j) (Str.ofString "other") = some (.int j) := rfl
      generalize upd ρe (Str.ofString "other") (.int j) = ρf at F2 t1 t2 t3 t4
      exact Ev.callF (Sees.global T2 hfp rfl rfl rfl) hop' hod' (EvL.cons Ev.int (EvL.cons (F2.ev t3 (.inr (.inl rfl))) (EvL.cons (Ev.bin (F2.ev t4 (.inl rfl)) (F2.ev t2 (.inr (.inl rfl))) Op2.add) (EvL.cons (F2.ev t1 (.inr (.inl rfl))) EvL.nil))))
        (ct_paths hfp hWb (by omega) (by omega) 7 0 i _ _ _ T2 (hWOk fun b o e => k2' b o (k' b o e)) (by decide) (by decide) (by omega) (by omega) (by omega) (by decide) (ok₁.le (by decide)) lv2)
    let lotsD : D := .lst ((List.range m).map fun i => .lst ((List.range m).map fun j => lotD (lotsF W r i j)))
    have a1 : (upd ρ7 (Str.ofString "lots") lotsD) (Str.ofString "lots") = some lotsD := rfl
    have a2 : (upd ρ7 (Str.ofString "lots") lotsD) (Str.ofString "many") = some (.int m) := v3
    have a3 : (upd ρ7 (Str.ofString "lots") lotsD) (Str.ofString "sides") = some (.lst [.int sA, .int sB, .int sC]) := v5
    have S8' : Stt (P :: Dd :: hidN (dr 17) L []) s₁.heap.get? s₁ s8 (envN (dr 17) fa L cd) (ocN (dr 17) L) [(P, pl scr kc), (Dd, Ob.dct prog w ys)] (upd ρ7 (Str.ofString "lots") lotsD) := S8
    clear S8
    generalize upd ρ7 (Str.ofString "lots") lotsD = ρ8 at S8' a1 a2 a3
    have rowAt : ∀ (f : Nat → D) (i : Nat), i < m → ((List.range m).map f).getD i .none = f i := fun f i hi => by
      rw [List.getD_eq_getElem?_getD, List.getElem?_map, List.getElem?_range hi]; rfl
    have rowIt : ∀ (f : Nat → D) (i : Nat), i < m → ((List.range m).map f)[i]? = some (f i) := fun f i hi => by
      rw [List.getElem?_map, List.getElem?_range hi]; rfl
    have T8 := topOf S8'.kept
    -- grid
    refine st_cons (st_comp (n := m) (p := fun _ => true) (f := fun i => .lst (rowL m (gridF W r) i)) S8' rfl rfl (EvIt.congr (n := m) (ds' := fun i => .lst ((List.range m).map fun j => lotD (lotsF W r i j))) (EvIt.list ok₁.handled (.inl ⟨_, _, rfl⟩) S8'.live (S8'.fm.ev a1 (.inr (.inl rfl)))) (by simp) fun i hi => rowAt _ i hi) (cl := []) rfl
      (ClOk.cpN ClOk.nil S8'.fm (by omega) rfl (by decide +kernel) rfl (fun C => ⟨_, .inl ⟨rfl, rfl⟩⟩) (fun i hi C hid' h' hsub lv' k' F' => Ts.nil) fun i hi _ C hid' h' hsub lv' k' F' => ?grid) fun s9 S9 => ?_)
    case grid =>
      have T' : Tp mean mg mb h' := T8.keeps k'
      have e : (D.lst (rowL m (gridF W r) i)) = .lst (((List.range m).filter fun _ => true).map fun j => .int (gridF W r i j)) := by rw [filter_true]; rfl
      rw [e]
      refine Ev.comp lv' (EvIt.congr (n := m) (ds' := fun j => lotD (lotsF W r i j)) (EvIt.list ok₁.handled (.inl ⟨_, _, rfl⟩) lv' (F'.ev (d := .lst ((List.range m).map fun j => lotD (lotsF W r i j))) rfl (.inl rfl))) (by simp) fun j hj => rowAt _ j hj) (cl := []) rfl
        (ClOk.cpN ClOk.nil F' (by omega) rfl (by decide +kernel) rfl (fun C => ⟨_, .inl ⟨rfl, rfl⟩⟩) (fun i hi C hid' h' hsub lv' k' F' => Ts.nil) fun j hj _ C2 hid2 h2 hsub2 lv2 k2' F2 => ?_)
      have T2 : Tp mean mg mb h2 := T'.keeps k2'
      have hll := (pths_len W ((j : Int) + r) 7 0 i).1
      have hll' : (lotsF W r i j).length ≤ 128 := hll
      refine Ev.callB (Sees.builtin T2 (mg_sum T2) (mb_sum T2) rfl rfl rfl rfl) (EvL.cons (d := .lst (((lotsF W r i j).map (·.1)).map .int)) ?_ EvL.nil) (ct_sum ok₁.handled)
      have hF : upd (pick [] (upd (pick [] ρ8) (Str.ofString "row") (.lst ((List.range m).map fun j => lotD (lotsF W r i j))))) (Str.ofString "lot") (lotD (lotsF W r i j)) (Str.ofString "lot") = some (.lst ((lotsF W r i j).map pD)) := rfl
      have e2 : D.lst (((lotsF W r i j).map (·.1)).map .int) = .lst (((List.range (lotsF W r i j).length).filter fun _ => true).map fun k => .int ((lotsF W r i j).getD k (0, [])).1) := by
        rw [filter_true, map_range_getD (fun p : Path => D.int p.1) (lotsF W r i j) (0, []), List.map_map]; rfl
      rw [e2]
      exact Ev.comp lv2 (EvIt.congr (n := (lotsF W r i j).length) (ds' := fun k => pD ((lotsF W r i j).getD k (0, []))) (EvIt.list ok₁.handled (.inr ⟨_, _, _, rfl⟩) lv2 (F2.ev hF (.inl rfl))) (List.length_map ..) fun k hk => getD_map pD _ k .none (0, []) hk) (cl := []) rfl
        (ClOk.cp ClOk.nil F2 (bind := fun k ρ => upd (upd ρ (Str.ofString "worth") (.int ((lotsF W r i j).getD k (0, [])).1)) (Str.ofString "places") (.lst (((lotsF W r i j).getD k (0, [])).2.map dp))) (by omega) rfl (by decide +kernel) (fun i x hx => by cases hx) (fun C k hk => Aim.pair ok₁.handled (.inl ⟨rfl, rfl⟩) (.inl ⟨rfl, rfl⟩)) (fun i hi C hid' h' hsub lv' k' F' => Ts.nil) fun k hk _ C3 hid3 h3 _ lv3 k3' F3 => F3.ev rfl (.inl rfl))
    rw [filter_true] at S9
    have gEq : gM m (gridF W r) = .lst ((List.range m).map fun i => .lst (rowL m (gridF W r) i)) := rfl
    rw [← gEq] at S9
    have b1 : (upd ρ8 (Str.ofString "grid") (gM m (gridF W r))) (Str.ofString "lots") = some lotsD := a1
    have b2 : (upd ρ8 (Str.ofString "grid") (gM m (gridF W r))) (Str.ofString "many") = some (.int m) := a2
    have b3 : (upd ρ8 (Str.ofString "grid") (gM m (gridF W r))) (Str.ofString "sides") = some (.lst [.int sA, .int sB, .int sC]) := a3
    have b4 : (upd ρ8 (Str.ofString "grid") (gM m (gridF W r))) (Str.ofString "grid") = some (gM m (gridF W r)) := rfl
    generalize upd ρ8 (Str.ofString "grid") (gM m (gridF W r)) = ρ9 at S9 b1 b2 b3 b4
    have T9 := topOf S9.kept
    have c1 : pick [(Str.ofString "lots", L + 4)] ρ9 (Str.ofString "lots") = some lotsD := b1
    -- own
    refine st_cons (st_comp (n := m) (p := fun _ => true) (f := fun i => lotD (lotsF W r i i)) S9 rfl rfl (EvIt.congr (n := m) (ds' := fun i => .int i) (EvIt.range1 (b := m) ok₁.handled (.inl ⟨_, _, rfl⟩) (Sees.builtin T9 (mg_range T9) (mb_range T9) rfl rfl rfl rfl) (S9.fm.ev b2 (.inr (.inl rfl))) (by omega) (by omega)) (by omega) fun i hi => by rw [Int.zero_add]) (cl := [(Str.ofString "lots", L + 4)]) rfl
      (ClOk.cpN (ClOk.cons (by decide +kernel) rfl (.inl rfl) b1 .nil) S9.fm (by omega) rfl (by decide +kernel) rfl (fun C => ⟨_, .inl ⟨rfl, rfl⟩⟩) (fun i hi C hid' h' hsub lv' k' F' => Ts.nil) fun i hi _ C hid' h' hsub lv' k' F' => ?own) fun s10 S10 => ?_)
    case own =>
      exact Ev.item (i := i) (Ev.item (i := i) (d := .lst ((List.range m).map fun j => lotD (lotsF W r i j))) (F'.ev c1 (.inr (.inl rfl))) (F'.ev (d := .int i) rfl (.inl rfl)) (by omega) (by omega) (rowIt _ i hi)) (F'.ev (d := .int i) rfl (.inl rfl)) (by omega) (by omega) (rowIt (fun j => lotD (lotsF W r i j)) i hi)
    rw [filter_true] at S10
    have oEq : (D.lst ((List.range m).map fun i => lotD (lotsF W r i i))) = .lst ((ownF W r m).map lotD) := by unfold ownF; rw [List.map_map]; rfl
    rw [oEq] at S10
    have d2 : (upd ρ9 (Str.ofString "own") (.lst ((ownF W r m).map lotD))) (Str.ofString "many") = some (.int m) := b2
    have d3 : (upd ρ9 (Str.ofString "own") (.lst ((ownF W r m).map lotD))) (Str.ofString "sides") = some (.lst [.int sA, .int sB, .int sC]) := b3
    have d4 : (upd ρ9 (Str.ofString "own") (.lst ((ownF W r m).map lotD))) (Str.ofString "grid") = some (gM m (gridF W r)) := b4
    have d5 : (upd ρ9 (Str.ofString "own") (.lst ((ownF W r m).map lotD))) (Str.ofString "own") = some (.lst ((ownF W r m).map lotD)) := rfl
    generalize upd ρ9 (Str.ofString "own") (.lst ((ownF W r m).map lotD)) = ρ10 at S10 d2 d3 d4 d5
    have T10 := topOf S10.kept
    obtain ⟨hd1, hd2, hd3⟩ := law_dets W hmr
    obtain ⟨f5, o5, _, _, _, hf5, ho5, hdt5, _⟩ := T.fn (dr 5) in5
    obtain ⟨f3, _, _, _, _, hf3, _, _, _⟩ := T.fn (dr 3) in3
    obtain ⟨f4, _, _, _, _, hf4, _, _, _⟩ := T.fn (dr 4) in4
    obtain ⟨f15, o15, _, _, _, hf15, ho15, hdt15, _⟩ := T.fn (dr 15) in15
    obtain ⟨f9, o9, _, _, _, hf9, ho9, hdt9, _⟩ := T.fn (dr 9) in9
    obtain ⟨f8, _, _, _, _, hf8, _, _, _⟩ := T.fn (dr 8) in8
    obtain ⟨f6, o6, _, _, _, hf6, ho6, hdt6, _⟩ := T.fn (dr 6) in6
    have hm23 : m = 2 ∨ m = 3 := by omega
    have neVV : ∀ {hid' : List Addr} {h' : Heap} (V : Int), Op2 prog w (A.deeper (envN (dr 17) fa L cd)) hid' h' (compareOp .NotEq) (.int V) (.int V) (.bool false) := fun {hid' h'} V => by
      have := Op2.neI (prog := prog) (w := w) (A := A.deeper (envN (dr 17) fa L cd)) (hid := hid') (h := h') (i := V) (j := V)
      rw [show (V != V) = false by simp] at this
      exact this
    refine st_cons (st_if (b := false || false) S10 (Tr.or
        (Tr.cmp (Ev.callF (Sees.global T10 hf5 rfl rfl rfl) (S10.kept _ _ ho5) hdt5 (EvL.cons (S10.fm.ev d4 (.inl rfl)) EvL.nil) (hd1 ▸ ct_detM T10 hf5 hf3 hf4 (by omega) (by omega) (fun i j hi hj => grid_bound hWb (by omega) i j hj) (ok₁.le (by decide)) S10.live))
          (Ev.callF (Sees.global T10 hf15 rfl rfl rfl) (S10.kept _ _ ho15) hdt15 (EvL.cons (S10.fm.ev d5 (.inl rfl)) (EvL.cons (Ev.list S10.live EvL.nil) EvL.nil)) (ct_apart hf15 (ownF W r m) [] _ _ _ T10 (own_bound hWb (by omega) (Nat.le_refl _)) (by simp [ownF]; omega) (ok₁.le (by simp [ownF]; omega)) S10.live)) (neVV _))
        (fun _ => Tr.cmp (Ev.callF (Sees.global T10 hf5 rfl rfl rfl) (S10.kept _ _ ho5) hdt5 (EvL.cons (Ev.callF (Sees.global T10 hf9 rfl rfl rfl) (S10.kept _ _ ho9) hdt9 (EvL.cons (S10.fm.ev d4 (.inl rfl)) EvL.nil) (ct_trM T10 hf9 hf8 hm23 (ok₁.le (by decide)) S10.live)) EvL.nil) (hd2 ▸ ct_detM T10 hf5 hf3 hf4 (by omega) (by omega) (fun i j hi hj => grid_bound hWb (by omega) j i hi) (ok₁.le (by decide)) S10.live))
          (Ev.callF (Sees.global T10 hf15 rfl rfl rfl) (S10.kept _ _ ho15) hdt15 (EvL.cons (S10.fm.ev d5 (.inl rfl)) (EvL.cons (Ev.list S10.live EvL.nil) EvL.nil)) (ct_apart hf15 (ownF W r m) [] _ _ _ T10 (own_bound hWb (by omega) (Nat.le_refl _)) (by simp [ownF]; omega) (ok₁.le (by simp [ownF]; omega)) S10.live)) (neVV _))) fun s11 S11 => ?_)
    rw [Bool.or_false, if_neg Bool.false_ne_true]
    refine wpAny_execs_nil ?_
    have T11 := topOf S11.kept
    have ownTake : (((ownF W r m).map lotD).take (m - 1)) = (ownF W r (m - 1)).map lotD := by
      unfold ownF
      rw [List.map_map, List.map_map, ← List.map_take]
      congr 1
      rw [List.take_range]
      congr 1
      omega
    refine st_cons (st_if (b := false) S11 (Tr.cmp (Ev.callF (Sees.global T11 hf5 rfl rfl rfl) (S11.kept _ _ ho5) hdt5 (EvL.cons (Ev.callF (Sees.global T11 hf6 rfl rfl rfl) (S11.kept _ _ ho6) hdt6 (EvL.cons (S11.fm.ev d4 (.inl rfl)) (EvL.cons (Ev.bin (S11.fm.ev d2 (.inr (.inl rfl))) Ev.int Op2.sub) (EvL.cons (Ev.bin (S11.fm.ev d2 (.inr (.inl rfl))) Ev.int Op2.sub) EvL.nil))) (ct_mnM T11 hf6 hm23 (ok₁.le (by decide)) S11.live)) EvL.nil) (hd3 ▸ ct_detM T11 hf5 hf3 hf4 (by omega) (by omega) (fun i j hi hj => grid_bound hWb (by omega) i j (by omega)) (ok₁.le (by decide)) S11.live))
        (Ev.callF (Sees.global T11 hf15 rfl rfl rfl) (S11.kept _ _ ho15) hdt15 (EvL.cons (d := .lst ((ownF W r (m - 1)).map lotD)) (ownTake ▸ Ev.sliceTo S11.live (S11.fm.ev d5 (.inl rfl)) (Ev.neg Ev.int) (fun its hits => ?slice) (by simp [ownF]; omega)) (EvL.cons (Ev.list S11.live EvL.nil) EvL.nil)) (ct_apart hf15 (ownF W r (m - 1)) [] _ _ _ T11 (own_bound hWb (by omega) (by omega)) (by simp [ownF]; omega) (ok₁.le (by simp [ownF]; omega)) S11.live)) (neVV _)) fun s12 S12 => ?_)
    case slice =>
      have hsz : its.size = m := by simpa [ownF] using hits
      have := slicePick_butLast its 1 (by decide)
      rw [hsz] at this
      exact this
    rw [if_neg Bool.false_ne_true]
    refine wpAny_execs_nil ?_
    have T12 := topOf S12.kept
    obtain ⟨na, nb, nc, rfl, rfl, rfl⟩ : ∃ na nb nc : Nat, sA = na ∧ sB = nb ∧ sC = nc := ⟨sA.toNat, sB.toNat, sC.toNat, by omega, by omega, by omega⟩
    refine st_cons (st_unpack3 ok₁.handled S12 (S12.fm.ev d3 (.inl rfl)) (.inr mA) (.inr mB) (.inr mC) fun s13 S13 => ?_)
    have g1 : (upd (upd (upd ρ10 (Str.ofString "a") (.int na)) (Str.ofString "b") (.int nb)) (Str.ofString "c") (.int nc)) (Str.ofString "a") = some (.int na) := rfl
    have g2 : (upd (upd (upd ρ10 (Str.ofString "a") (.int na)) (Str.ofString "b") (.int nb)) (Str.ofString "c") (.int nc)) (Str.ofString "b") = some (.int nb) := rfl
    have g3 : (upd (upd (upd ρ10 (Str.ofString "a") (.int na)) (Str.ofString "b") (.int nb)) (Str.ofString "c") (.int nc)) (Str.ofString "c") = some (.int nc) := rfl
    generalize (upd (upd (upd ρ10 (Str.ofString "a") (.int na)) (Str.ofString "b") (.int nb)) (Str.ofString "c") (.int nc)) = ρ13 at S13 g1 g2 g3
    have T13 := topOf S13.kept
    obtain ⟨f11, o11, _, _, _, hf11, ho11, hdt11, _⟩ := T.fn (dr 11) in11
    obtain ⟨f16, o16, _, _, _, hf16, ho16, hdt16, _⟩ := T.fn (dr 16) in16
    refine st_cons (st_expr_name S13 (Ev.callF (Sees.global T13 hf11 rfl rfl rfl) (S13.kept _ _ ho11) hdt11 (EvL.cons (Ev.bin (S13.fm.ev g2 (.inr (.inl rfl))) (S13.fm.ev g3 (.inr (.inl rfl))) Op2.add) EvL.nil) (ct_binomial T13 hf11 (by omega) (by omega) (ok₁.le (by decide)) S13.live)) (.inr mRow) fun s14 S14 => ?_)
    have eb : ((nb : Int) + nc).toNat = nb + nc := by omega
    rw [eb] at S14
    let rowD : D := .lst ((binList ((nb : Int) + nc) (nb + nc)).map .int)
    have h1 : (upd ρ13 (Str.ofString "row") rowD) (Str.ofString "a") = some (.int na) := g1
    have h2 : (upd ρ13 (Str.ofString "row") rowD) (Str.ofString "b") = some (.int nb) := g2
    have h3 : (upd ρ13 (Str.ofString "row") rowD) (Str.ofString "c") = some (.int nc) := g3
    have h4 : (upd ρ13 (Str.ofString "row") rowD) (Str.ofString "row") = some rowD := rfl
    have S14' : Stt (P :: Dd :: hidN (dr 17) L []) s₁.heap.get? s₁ s14 (envN (dr 17) fa L cd) (ocN (dr 17) L) [(P, pl scr kc), (Dd, Ob.dct prog w ys)] (upd ρ13 (Str.ofString "row") rowD) := S14
    clear S14
    generalize upd ρ13 (Str.ofString "row") rowD = ρ14 at S14' h1 h2 h3 h4
    have T14 := topOf S14'.kept
    have hbox : detF na (boxF nb nc) = (hpa na nb nc).1.fdiv (hpa na nb nc).2 ∧ (hpa na nb nc).2 ≠ 0 ∧ (hpa na nb nc).2.natAbs.log2 < 9000 ∧ ∀ i ∈ List.range na, ∀ j ∈ List.range na, (boxF nb nc i j).natAbs ≤ bnd 0 := by
      have mem : ∀ x : Nat, 1 ≤ (x : Int) ∧ (x : Int) ≤ 3 → x ∈ [1, 2, 3] := fun x hx => by
        have : x = 1 ∨ x = 2 ∨ x = 3 := by omega
        rcases this with rfl | rfl | rfl <;> decide
      exact box_all na (mem na hA) nb (mem nb hB) nc (mem nc hC)
    obtain ⟨hb1, hb2, hb3, hb4⟩ := hbox
    refine st_cons (st_comp (n := na) (p := fun _ => true) (f := fun i => .lst (rowL na (boxF nb nc) i)) S14' rfl rfl (EvIt.congr (n := na) (ds' := fun i => .int i) (EvIt.range1 (b := na) ok₁.handled (.inl ⟨_, _, rfl⟩) (Sees.builtin T14 (mg_range T14) (mb_range T14) rfl rfl rfl rfl) (S14'.fm.ev h1 (.inr (.inl rfl))) (by omega) (by omega)) (by omega) fun i hi => by rw [Int.zero_add]) (cl := [(Str.ofString "row", L + 5), (Str.ofString "c", L + 8), (Str.ofString "b", L + 7), (Str.ofString "a", L + 6)]) rfl
      (ClOk.cpN (ClOk.cons (by decide +kernel) rfl (.inl rfl) h4 (ClOk.cons (by decide +kernel) rfl (.inl rfl) h3 (ClOk.cons (by decide +kernel) rfl (.inl rfl) h2 (ClOk.cons (by decide +kernel) rfl (.inl rfl) h1 .nil)))) S14'.fm (by omega) rfl (by decide +kernel) rfl (fun C => ⟨C + 1, .inr (.head _)⟩) (fun i hi C hid' h' hsub lv' k' F' => Ts.nil) fun i hi _ C hid' h' hsub lv' k' F' => ?box) fun s15 S15 => ?_)
    case box =>
      have T' : Tp mean mg mb h' := T14.keeps k'
      have p1 : pick [(Str.ofString "row", L + 5), (Str.ofString "c", L + 8), (Str.ofString "b", L + 7), (Str.ofString "a", L + 6)] ρ14 (Str.ofString "a") = some (.int na) := h1
      have p2 : pick [(Str.ofString "row", L + 5), (Str.ofString "c", L + 8), (Str.ofString "b", L + 7), (Str.ofString "a", L + 6)] ρ14 (Str.ofString "b") = some (.int nb) := h2
      have p3 : pick [(Str.ofString "row", L + 5), (Str.ofString "c", L + 8), (Str.ofString "b", L + 7), (Str.ofString "a", L + 6)] ρ14 (Str.ofString "c") = some (.int nc) := h3
      have p4 : pick [(Str.ofString "row", L + 5), (Str.ofString "c", L + 8), (Str.ofString "b", L + 7), (Str.ofString "a", L + 6)] ρ14 (Str.ofString "row") = some rowD := h4
      generalize pick [(Str.ofString "row", L + 5), (Str.ofString "c", L + 8), (Str.ofString "b", L + 7), (Str.ofString "a", L + 6)] ρ14 = ρc at F' p1 p2 p3 p4
      have q1 : upd ρc (Str.ofString "i") (.int i) (Str.ofString "a") = some (.int na) := p1
      have q2 : upd ρc (Str.ofString "i") (.int i) (Str.ofString "b") = some (.int nb) := p2
      have q3 : upd ρc (Str.ofString "i") (.int i) (Str.ofString "c") = some (.int nc) := p3
      have q4 : upd ρc (Str.ofString "i") (.int i) (Str.ofString "row") = some rowD := p4
      have q5 : upd ρc (Str.ofString "i") (.int i) (Str.ofString "i") = some (.int i) := rfl
      generalize upd ρc (Str.ofString "i") (.int i) = ρd at F' q1 q2 q3 q4 q5
      have e : (D.lst (rowL na (boxF nb nc) i)) = .lst (((List.range na).filter fun _ => true).map fun j => .int (boxF nb nc i j)) := by rw [filter_true]; rfl
      rw [e]
      refine Ev.comp lv' (EvIt.congr (n := na) (ds' := fun i => .int i) (EvIt.range1 (b := na) ok₁.handled (.inl ⟨_, _, rfl⟩) (Sees.builtin T' (mg_range T') (mb_range T') rfl rfl rfl rfl) (F'.ev q1 (.inr (.inl rfl))) (by omega) (by omega)) (by omega) fun i hi => by rw [Int.zero_add]) (cl := [(Str.ofString "row", L + 5), (Str.ofString "i", C + 1), (Str.ofString "c", L + 8), (Str.ofString "b", L + 7)]) rfl
        (ClOk.cpN (ClOk.cons (by decide +kernel) rfl (.inl rfl) q4 (ClOk.cons (by decide +kernel) rfl (.inl rfl) q5 (ClOk.cons (by decide +kernel) rfl (.inl rfl) q3 (ClOk.cons (by decide +kernel) rfl (.inl rfl) q2 .nil)))) F' (by omega) rfl (by decide +kernel) rfl (fun C => ⟨_, .inl ⟨rfl, rfl⟩⟩) (fun i hi C hid' h' hsub lv' k' F' => Ts.nil) fun j hj _ C2 hid2 h2' hsub2 lv2 k2' F2 => ?_)
      have r2 : pick [(Str.ofString "row", L + 5), (Str.ofString "i", C + 1), (Str.ofString "c", L + 8), (Str.ofString "b", L + 7)] ρd (Str.ofString "b") = some (.int nb) := q2
      have r3 : pick [(Str.ofString "row", L + 5), (Str.ofString "i", C + 1), (Str.ofString "c", L + 8), (Str.ofString "b", L + 7)] ρd (Str.ofString "c") = some (.int nc) := q3
      have r4 : pick [(Str.ofString "row", L + 5), (Str.ofString "i", C + 1), (Str.ofString "c", L + 8), (Str.ofString "b", L + 7)] ρd (Str.ofString "row") = some rowD := q4
      have r5 : pick [(Str.ofString "row", L + 5), (Str.ofString "i", C + 1), (Str.ofString "c", L + 8), (Str.ofString "b", L + 7)] ρd (Str.ofString "i") = some (.int i) := q5
      generalize pick [(Str.ofString "row", L + 5), (Str.ofString "i", C + 1), (Str.ofString "c", L + 8), (Str.ofString "b", L + 7)] ρd = ρe at F2 r2 r3 r4 r5
      have t2 : upd ρe (Str.ofString "j") (.int j) (Str.ofString "b") = some (.int nb) := r2
      have t3 : upd ρe (Str.ofString "j") (.int j) (Str.ofString "c") = some (.int nc) := r3
      have t4 : upd ρe (Str.ofString "j") (.int j) (Str.ofString "row") = some rowD := r4
      have t5 : upd ρe (Str.ofString "j") (.int j) (Str.ofString "i") = some (.int i) := r5
      have t6 : upd ρe (Str.ofString "j") (.int j) (Str.ofString "j") = some (.int j) := rfl
      generalize upd ρe (Str.ofString "j") (.int j) = ρf at F2 t2 t3 t4 t5 t6
      refine Ev.ifexp (Tr.chain Ev.int (Ev.bin (Ev.bin (F2.ev t2 (.inr (.inl rfl))) (F2.ev t5 (.inr (.inl rfl))) Op2.sub) (F2.ev t6 (.inl rfl)) Op2.add) (Ev.bin (F2.ev t2 (.inr (.inl rfl))) (F2.ev t3 (.inr (.inl rfl))) Op2.add) Op2.leI Op2.leI) (fun q => ?_) (fun q => ?_)
      · simp only [Bool.and_eq_true, decide_eq_true_eq] at q
        have eB : boxF nb nc i j = (binList ((nb : Int) + nc) (nb + nc)).getD ((nb : Int) - i + j).toNat 0 := if_pos q
        rw [eB]
        exact Ev.item (F2.ev t4 (.inr (.inl rfl))) (Ev.bin (Ev.bin (F2.ev t2 (.inr (.inl rfl))) (F2.ev t5 (.inr (.inl rfl))) Op2.sub) (F2.ev t6 (.inl rfl)) Op2.add) q.1 (by omega) (rD_get (by rw [binList_len]; omega))
      · have q' : ¬ (0 ≤ (nb : Int) - i + j ∧ (nb : Int) - i + j ≤ nb + nc) := fun z => by
          rw [decide_eq_true z.1, decide_eq_true z.2] at q
          cases q
        have eB : boxF nb nc i j = 0 := if_neg q'
        rw [eB]
        exact Ev.int
    rw [filter_true] at S15
    have bEq : gM na (boxF nb nc) = .lst ((List.range na).map fun i => .lst (rowL na (boxF nb nc) i)) := rfl
    rw [← bEq] at S15
    have u1 : (upd ρ14 (Str.ofString "box") (gM na (boxF nb nc))) (Str.ofString "a") = some (.int na) := h1
    have u2 : (upd ρ14 (Str.ofString "box") (gM na (boxF nb nc))) (Str.ofString "b") = some (.int nb) := h2
    have u3 : (upd ρ14 (Str.ofString "box") (gM na (boxF nb nc))) (Str.ofString "c") = some (.int nc) := h3
    have u4 : (upd ρ14 (Str.ofString "box") (gM na (boxF nb nc))) (Str.ofString "box") = some (gM na (boxF nb nc)) := rfl
    generalize upd ρ14 (Str.ofString "box") (gM na (boxF nb nc)) = ρ15 at S15 u1 u2 u3 u4
    have T15 := topOf S15.kept
    refine st_cons (st_return S15 (d := .bool true) (Ev.cmp (Ev.callF (Sees.global T15 hf5 rfl rfl rfl) (S15.kept _ _ ho5) hdt5 (EvL.cons (S15.fm.ev u4 (.inl rfl)) EvL.nil) (hb1 ▸ ct_detM T15 hf5 hf3 hf4 (by omega) (by omega) (fun i j hi hj => hb4 i (List.mem_range.mpr hi) j (List.mem_range.mpr hj)) (ok₁.le (by decide)) S15.live))
      (Ev.callF (Sees.global T15 hf16 rfl rfl rfl) (S15.kept _ _ ho16) hdt16 (EvL.cons (S15.fm.ev u1 (.inr (.inl rfl))) (EvL.cons (S15.fm.ev u2 (.inr (.inl rfl))) (EvL.cons (S15.fm.ev u3 (.inr (.inl rfl))) EvL.nil))) (ct_heaps T15 hf16 (by omega) (by omega) (by omega) hb2 hb3 (ok₁.le (by decide)) S15.live)) ?eq) fun v s16 S16 hv => ?_)
    case eq =>
      have := Op2.eqI (prog := prog) (w := w) (A := A.deeper (envN (dr 17) fa L cd)) (hid := P :: Dd :: hidN (dr 17) L []) (h := s15.heap) (i := (hpa na nb nc).1.fdiv (hpa na nb nc).2) (j := (hpa na nb nc).1.fdiv (hpa na nb nc).2)
      rw [show ((hpa na nb nc).1.fdiv (hpa na nb nc).2 == (hpa na nb nc).1.fdiv (hpa na nb nc).2) = true by simp] at this
      exact this
    cases hv
    exact hR s16 S16.same S16.kept
end
end Mine
end

-- Top1
section
set_option maxHeartbeats 8000000
open PySem PySem.W PySem.Calls PySem.Spec PyProof.Rows
theorem PySem.Challenge.cw_tg0003_01_holds : PySem.Challenge.rw_tg0003_01.Holds :=
  Mine.hd (by
  k_fill
  intro w s₀ s₁ mg mb G Y fa o pm cd doc dV kV ho hd hcd hD hmg hg args vals as hpre hlay hrd hwl hlo
  have hmg' : mg (Mine.dr 17).name = some (.ref fa) := hmg
  refine Ground.open G ?_
  intro T B D TE TW
  refine guard_noD D (by decide +kernel) ?_
  clear D hcd hD hd hmg
  wrow_args hpre hlay hrd hwl hlo
  refine enter_call ?_
  rename_i hL _ _ _ hI _ hlen _
  refine Mine.law_walk T hmg' hL hI ?_ ⟨rfl, by decide +kernel, by decide +kernel⟩ fun s' hs hk => GoodW.toG ⟨.inl ⟨_, .bool true, [], rfl, ?_, .bool true, ?_, ?_⟩, hk, ?_, ?_⟩
  · have h' := hlen
    simp at h'
    omega
  · exact fun cls => rfl
  · wrow_post
  · exact fun _ => ⟨List.nodup_nil, fun _ q => nomatch q⟩
  · rw [hs]
  · rw [hs]; exact hg)
end
