import PyProof.Rows.All
import Wide.All
import OpenK.AllK
import Wide.FinOn
import PySem.Challenge.RW_pq0194_01
open PySem PySem.W PyProof.Rows PySem.Calls PySem.Spec
set_option Elab.async false
set_option maxRecDepth 100000
set_option maxHeartbeats 8000000
set_option linter.unusedVariables false
namespace Mine

section

/-- pure data -/
inductive D where
  | none
  | bool (b : Bool)
  | int (i : Int)
  | str (s : Str)
  | tup (l : List D)
  | lst (l : List D)

abbrev Led := List (Addr × Obj)
abbrev Rho := List (Str × D)
abbrev Own := Option (List D)
abbrev lobj (vs : List Value) (n : Nat) : Obj := { cls := .type "list", data := .seq vs.toArray n }
abbrev tobj (vs : List Value) (n : Nat) : Obj := { cls := .type "tuple", data := .seq vs.toArray n }

def Inc (I I' : Led) : Prop := ∀ p ∈ I, p ∈ I'
theorem Inc.refl {I : Led} : Inc I I := fun _ h => h
theorem Inc.trans {I I' I'' : Led} (a : Inc I I') (b : Inc I' I'') : Inc I I'' := fun p h => b p (a p h)
theorem Inc.cons {I : Led} {p : Addr × Obj} : Inc I (p :: I) := fun _ h => List.mem_cons_of_mem _ h

def Mem (b : Heap) (I : Led) (a : Addr) (o : Obj) : Prop := (a, o) ∈ I ∨ b.get? a = some o
theorem Mem.mono {b : Heap} {I I' : Led} (h : Inc I I') {a : Addr} {o : Obj} (m : Mem b I a o) : Mem b I' a o := m.imp (h _) id

mutual
inductive Rep (b : Heap) (I : Led) : Value → D → Prop
  | none : Rep b I .none .none
  | bool (x : Bool) : Rep b I (.bool x) (.bool x)
  | int (i : Int) (t : Tok) : Rep b I (.int i t) (.int i)
  | str (s : Str) (t : Tok) : Rep b I (.str s t) (.str s)
  | tup (a : Addr) (vs : List Value) (n : Nat) (ds : List D) (m : Mem b I a (tobj vs n)) (r : Reps b I vs ds) : Rep b I (.ref a) (.tup ds)
  | lst (a : Addr) (vs : List Value) (n : Nat) (ds : List D) (m : Mem b I a (lobj vs n)) (r : Reps b I vs ds) : Rep b I (.ref a) (.lst ds)
inductive Reps (b : Heap) (I : Led) : List Value → List D → Prop
  | nil : Reps b I [] []
  | cons {v : Value} {d : D} {vs : List Value} {ds : List D} (h : Rep b I v d) (t : Reps b I vs ds) : Reps b I (v :: vs) (d :: ds)
end

mutual
theorem Rep.mono {b : Heap} {I I' : Led} (h : Inc I I') : ∀ {v : Value} {d : D}, Rep b I v d → Rep b I' v d
  | _, _, .none => .none
  | _, _, .bool x => .bool x
  | _, _, .int i t => .int i t
  | _, _, .str s t => .str s t
  | _, _, .tup a vs n ds m r => .tup a vs n ds (m.mono h) (r.mono h)
  | _, _, .lst a vs n ds m r => .lst a vs n ds (m.mono h) (r.mono h)
theorem Reps.mono {b : Heap} {I I' : Led} (h : Inc I I') : ∀ {vs : List Value} {ds : List D}, Reps b I vs ds → Reps b I' vs ds
  | _, _, .nil => .nil
  | _, _, .cons x t => .cons (x.mono h) (t.mono h)
end
theorem Reps.length {b : Heap} {I : Led} : ∀ {vs : List Value} {ds : List D}, Reps b I vs ds → vs.length = ds.length
  | _, _, .nil => rfl
  | _, _, .cons _ t => by simp [t.length]
theorem Reps.append {b : Heap} {I : Led} : ∀ {vs : List Value} {ds : List D} {ws : List Value} {es : List D}, Reps b I vs ds → Reps b I ws es → Reps b I (vs ++ ws) (ds ++ es)
  | _, _, _, _, .nil, k => k
  | _, _, _, _, .cons x t, k => .cons x (t.append k)
theorem Reps.get {b : Heap} {I : Led} : ∀ {vs : List Value} {ds : List D}, Reps b I vs ds → ∀ {k : Nat} {d : D}, ds[k]? = some d → ∃ v, vs[k]? = some v ∧ Rep b I v d
  | _, _, .nil, _, _, h => by simp at h
  | _, _, .cons x t, 0, _, h => ⟨_, rfl, by simp at h; exact h ▸ x⟩
  | _, _, .cons x t, k + 1, _, h => by
    simp only [List.getElem?_cons_succ] at h ⊢
    exact t.get h
theorem Reps.get' {b : Heap} {I : Led} : ∀ {vs : List Value} {ds : List D}, Reps b I vs ds → ∀ {k : Nat} {v : Value}, vs[k]? = some v → ∃ d, ds[k]? = some d ∧ Rep b I v d
  | _, _, .nil, _, _, h => by simp at h
  | _, _, .cons x t, 0, _, h => ⟨_, rfl, by simp at h; exact h ▸ x⟩
  | _, _, .cons x t, k + 1, _, h => by
    simp only [List.getElem?_cons_succ] at h ⊢
    exact t.get' h
theorem Reps.take {b : Heap} {I : Led} : ∀ {vs : List Value} {ds : List D} (k : Nat), Reps b I vs ds → Reps b I (vs.take k) (ds.take k)
  | _, _, 0, _ => .nil
  | _, _, _ + 1, .nil => .nil
  | _, _, k + 1, .cons x t => .cons x (t.take k)
theorem Reps.drop {b : Heap} {I : Led} : ∀ {vs : List Value} {ds : List D} (k : Nat), Reps b I vs ds → Reps b I (vs.drop k) (ds.drop k)
  | _, _, 0, h => h
  | _, _, _ + 1, .nil => .nil
  | _, _, k + 1, .cons x t => t.drop k
theorem Reps.set {b : Heap} {I : Led} {v : Value} {d : D} (r : Rep b I v d) : ∀ {vs : List Value} {ds : List D} (k : Nat), Reps b I vs ds → Reps b I (vs.set k v) (ds.set k d)
  | _, _, _, .nil => .nil
  | _, _, 0, .cons x t => .cons r t
  | _, _, k + 1, .cons x t => .cons x (t.set r k)
theorem Reps.two {b : Heap} {I : Led} {vs : List Value} {x y : D} (h : Reps b I vs [x, y]) : ∃ v w, vs = [v, w] ∧ Rep b I v x ∧ Rep b I w y := by
  cases h with
  | cons a t => cases t with
    | cons c t => cases t with
      | nil => exact ⟨_, _, rfl, a, c⟩

/-- what is fixed over the whole proof -/
structure Cx where
  prog : Program
  w : World
  K : Frag
  p : Program
  loose : List Str
  mean : ExcName → Option Value
  mg : Str → Option Value
  mb : Str → Option Value
  base : Heap

/-- what is fixed in a frame -/
structure Fx where
  c : Cx
  A : Around
  fe : Env
  env : Env
  h₀ : Heap
  L : Addr
  O₀ : Led
  on : Str
  k : Nat

structure Fm (φ : Fx) : Prop where
  below : ∃ A₀ outer, Below A₀ φ.c.base outer φ.h₀ ∧ φ.A.frames = some (φ.fe :: outer)
  kin : φ.c.K.In φ.h₀
  top : Top φ.c.p φ.c.loose φ.c.mean φ.c.mg φ.c.mb φ.h₀
  frame : φ.fe.frame = some φ.L
  kind : φ.fe.scope.kind = .function
  handled : φ.A.handled = none
  depth : φ.A.depth + φ.k < recursionLimit
  units : φ.A.units + 16 * φ.k + 100 < cLine

structure St (h₀ : Heap) (L : Addr) (O I : Led) (m : Str → Option Value) (s : Shared) : Prop where
  fr : Fr h₀ L s.heap m
  news : News h₀ L s.heap (O ++ I)
  off : ∀ p ∈ O, ∀ q ∈ I, p.1 ≠ q.1

theorem Fm.stays {φ : Fx} (F : Fm φ) : φ.c.base.StaysIn φ.h₀ := let ⟨_, _, B, _⟩ := F.below; B.stays
theorem St.mem {φ : Fx} (F : Fm φ) {O I : Led} {m : Str → Option Value} {s : Shared} (S : St φ.h₀ φ.L O I m s) {a : Addr} {o : Obj} (h : Mem φ.c.base I a o) : s.heap.get? a = some o := by
  rcases h with h | h
  · exact (S.news _ (List.mem_append_right _ h)).1
  · exact S.fr.keep _ _ (F.stays _ _ h)

/-- a new object goes onto the ledger of what is never changed -/
theorem St.push {h₀ : Heap} {L : Addr} {O I : Led} {m : Str → Option Value} {s s' : Shared} {o : Obj} (S : St h₀ L O I m s) (F : Fr h₀ L s'.heap m) (N : News h₀ L s'.heap ((s.heap.objs.size, o) :: (O ++ I))) :
    St h₀ L O ((s.heap.objs.size, o) :: I) m s' := by
  refine ⟨F, fun p hp => N p ?_, fun p hp q hq => ?_⟩
  · rcases List.mem_append.mp hp with h | h
    · exact List.mem_cons_of_mem _ (List.mem_append_left _ h)
    · rcases List.mem_cons.mp h with rfl | h
      · exact List.mem_cons_self
      · exact List.mem_cons_of_mem _ (List.mem_append_right _ h)
  · rcases List.mem_cons.mp hq with rfl | hq
    · exact Nat.ne_of_lt (Heap.lt_size (S.news p (List.mem_append_left _ hp)).1)
    · exact S.off p hp q hq
theorem St.toks {h₀ : Heap} {L : Addr} {O I : Led} {m : Str → Option Value} {s s' : Shared} (S : St h₀ L O I m s) (e : s'.heap = s.heap) : St h₀ L O I m s' := ⟨by rw [e]; exact S.fr, by rw [e]; exact S.news, S.off⟩
theorem St.of {h₀ : Heap} {L : Addr} {O I : Led} {m m' : Str → Option Value} {s s' : Shared} (S : St h₀ L O I m s) (F : Fr h₀ L s'.heap m') (N : News h₀ L s'.heap (O ++ I)) : St h₀ L O I m' s' := ⟨F, N, S.off⟩

/-- the name x has the value v wherever the locals are m -/
def NameIs (φ : Fx) (m : Str → Option Value) (x : Str) (v : Value) : Prop :=
  ∀ (O I : Led) (s : Shared), (∀ p ∈ φ.O₀, p ∈ O) → St φ.h₀ φ.L O I m s → ∀ (pos : Pos) (Q : Value → Shared → Prop) (E : Value → Shared → Prop), Q v s → wpAny (model φ.c.prog φ.c.w) φ.A (eval (.Name x pos) φ.env) Q E s

/-- the frame's own list (the one that it may change) -/
def OwnAt (φ : Fx) (oa : Addr) (O I : Led) : Own → Prop
  | none => O = φ.O₀
  | some ds => ∃ vs n, O = (oa, lobj vs n) :: φ.O₀ ∧ Reps φ.c.base I vs ds ∧ ∀ p ∈ φ.O₀, p.1 ≠ oa
theorem OwnAt.sub {φ : Fx} {oa : Addr} {O I : Led} {os : Own} (h : OwnAt φ oa O I os) : ∀ p ∈ φ.O₀, p ∈ O := by
  cases os with
  | none => intro p hp; rw [show O = φ.O₀ from h]; exact hp
  | some ds => obtain ⟨vs, n, rfl, _⟩ := h; exact fun p hp => List.mem_cons_of_mem _ hp
theorem OwnAt.mono {φ : Fx} {oa : Addr} {O I I' : Led} {os : Own} (i : Inc I I') (h : OwnAt φ oa O I os) : OwnAt φ oa O I' os := by
  cases os with
  | none => exact h
  | some ds => obtain ⟨vs, n, e, r, o⟩ := h; exact ⟨vs, n, e, r.mono i, o⟩

structure Good (φ : Fx) (m : Str → Option Value) (oa : Addr) (O I : Led) (ρ : Rho) (os : Own) : Prop where
  names : ∀ x d, ρ.lookup x = some d → ∃ v, Rep φ.c.base I v d ∧ NameIs φ m x v
  own : OwnAt φ oa O I os
  on : os.isSome = true → NameIs φ m φ.on (.ref oa)
theorem Good.next {φ : Fx} {m : Str → Option Value} {oa : Addr} {O O' I I' : Led} {ρ : Rho} {os os' : Own} (G : Good φ m oa O I ρ os) (i : Inc I I') (o : OwnAt φ oa O' I' os') (e : os'.isSome = os.isSome) : Good φ m oa O' I' ρ os' :=
  ⟨fun x d h => let ⟨v, r, n⟩ := G.names x d h; ⟨v, r.mono i, n⟩, o, fun h => G.on (e ▸ h)⟩

abbrev Sh (s : Shared) (h' : Heap) (tk' : Nat) : Shared := { heap := h', gens := s.gens, drawn := s.drawn, toks := tk', os := s.os }

/-- an expression's judgement -/
structure JE (φ : Fx) (e : Expr) (ρ : Rho) (os : Own) (Q : D → Own → Prop) : Prop where
  run : Fm φ → ∀ m oa O I s (Qv : Value → Shared → Prop), St φ.h₀ φ.L O I m s → Good φ m oa O I ρ os →
    (∀ v d os' O' I' h' tk', Q d os' → St φ.h₀ φ.L O' I' m (Sh s h' tk') → OwnAt φ oa O' I' os' → os'.isSome = os.isSome → Inc I I' → Rep φ.c.base I' v d → Qv v (Sh s h' tk')) →
    wpAny (model φ.c.prog φ.c.w) φ.A (eval e φ.env) Qv (fun _ _ => False) s

/-- a test's judgement -/
structure JT (φ : Fx) (e : Expr) (ρ : Rho) (os : Own) (Q : Bool → Own → Prop) : Prop where
  run : Fm φ → ∀ m oa O I s (Qv : Bool → Shared → Prop), St φ.h₀ φ.L O I m s → Good φ m oa O I ρ os →
    (∀ b os' O' I' h' tk', Q b os' → St φ.h₀ φ.L O' I' m (Sh s h' tk') → OwnAt φ oa O' I' os' → os'.isSome = os.isSome → Inc I I' → Qv b (Sh s h' tk')) →
    wpAny (model φ.c.prog φ.c.w) φ.A (PySem.isTrue e φ.env (eval e φ.env)) Qv (fun _ _ => False) s

/-- a row of expressions -/
structure JEs (φ : Fx) (es : List Expr) (ρ : Rho) (os : Own) (Q : List D → Own → Prop) : Prop where
  run : Fm φ → ∀ (pos : Pos) m oa O I s (Qv : List Value → Shared → Prop), St φ.h₀ φ.L O I m s → Good φ m oa O I ρ os →
    (∀ vs ds os' O' I' h' tk', Q ds os' → St φ.h₀ φ.L O' I' m (Sh s h' tk') → OwnAt φ oa O' I' os' → os'.isSome = os.isSome → Inc I I' → Reps φ.c.base I' vs ds → Qv vs (Sh s h' tk')) →
    wpAny (model φ.c.prog φ.c.w) φ.A (spliced (backTo pos (starEach es φ.env))) Qv (fun _ _ => False) s

section
variable {φ : Fx} {ρ : Rho} {os : Own}

theorem JE.mono {e : Expr} {Q Q' : D → Own → Prop} (h : JE φ e ρ os Q) (k : ∀ d os', Q d os' → Q' d os') : JE φ e ρ os Q' :=
  ⟨fun F m oa O I s Qv S G q => h.run F m oa O I s Qv S G fun v d os' O' I' h' tk' x => q v d os' O' I' h' tk' (k d os' x)⟩
theorem JT.mono {e : Expr} {Q Q' : Bool → Own → Prop} (h : JT φ e ρ os Q) (k : ∀ d os', Q d os' → Q' d os') : JT φ e ρ os Q' :=
  ⟨fun F m oa O I s Qv S G q => h.run F m oa O I s Qv S G fun d os' O' I' h' tk' x => q d os' O' I' h' tk' (k d os' x)⟩

theorem JE_name {x : Str} {pos : Pos} {d : D} {Q : D → Own → Prop} (hx : ρ.lookup x = some d) (h : Q d os) : JE φ (.Name x pos) ρ os Q :=
  ⟨fun F m oa O I s Qv S G q => by
    obtain ⟨v, r, n⟩ := G.names x d hx
    exact n O I s G.own.sub S pos Qv _ (q v d os O I s.heap s.toks h S G.own rfl Inc.refl r)⟩
theorem JE_int {i : Int} {k : Nat} {pos : Pos} {Q : D → Own → Prop} (h : Q (.int i) os) : JE φ (.Constant (.int i) k pos) ρ os Q :=
  ⟨fun F m oa O I s Qv S G q => wpAny_Constant_int (q _ _ os O I s.heap (s.toks + 1) h (S.toks rfl) G.own rfl Inc.refl (.int i _))⟩
theorem JE_str {i : Str} {k : Nat} {pos : Pos} {Q : D → Own → Prop} (h : Q (.str i) os) : JE φ (.Constant (.str i) k pos) ρ os Q :=
  ⟨fun F m oa O I s Qv S G q => wpAny_Constant_str (q _ _ os O I s.heap (s.toks + 1) h (S.toks rfl) G.own rfl Inc.refl (.str i _))⟩
theorem JE_none {k : Nat} {pos : Pos} {Q : D → Own → Prop} (h : Q .none os) : JE φ (.Constant .none k pos) ρ os Q :=
  ⟨fun F m oa O I s Qv S G q => wpAny_Constant_none (q _ _ os O I s.heap s.toks h (S.toks rfl) G.own rfl Inc.refl .none)⟩

theorem JEs_nil {Q : List D → Own → Prop} (h : Q [] os) : JEs φ [] ρ os Q :=
  ⟨fun F pos m oa O I s Qv S G q => spliced_none (q [] [] os O I s.heap s.toks h S G.own rfl Inc.refl .nil)⟩
theorem JEs_cons {e : Expr} {es : List Expr} {Q : List D → Own → Prop} (h : JE φ e ρ os (fun d os₁ => JEs φ es ρ os₁ (fun ds os₂ => Q (d :: ds) os₂)))
    (he : starEach (e :: es) φ.env = (false, eval e φ.env) :: starEach es φ.env := by rfl) : JEs φ (e :: es) ρ os Q :=
  ⟨fun F pos m oa O I s Qv S G q => spliced_more (h.run F m oa O I s _ S G fun v d os₁ O₁ I₁ h₁ tk₁ j S₁ o₁ e₁ i₁ r₁ =>
    j.run F pos m oa O₁ I₁ _ _ S₁ (G.next i₁ o₁ e₁) fun vs ds os₂ O₂ I₂ h₂ tk₂ q₂ S₂ o₂ e₂ i₂ r₂ =>
      q (v :: vs) (d :: ds) os₂ O₂ I₂ h₂ tk₂ q₂ S₂ o₂ (e₂.trans e₁) (i₁.trans i₂) (.cons (r₁.mono i₂) r₂)) he⟩

theorem JE_tuple {es : List Expr} {k : Nat} {pos : Pos} {Q : D → Own → Prop} (h : JEs φ es ρ os (fun ds os' => ds.length ≤ 100 ∧ Q (.tup ds) os')) : JE φ (.Tuple es k pos) ρ os Q :=
  ⟨fun F m oa O I s Qv S G q => Tuple_ (h.run F pos m oa O I s _ S G fun vs ds os' O' I' h' tk' j S' o' e' i' r' => by
    refine newTuple_N S'.fr S'.news (fun h'' F'' N'' => ?_) ?_
    · exact q _ (.tup ds) os' O' _ h'' tk' j.2 (S'.push F'' N'') (o'.mono Inc.cons) e' (i'.trans Inc.cons) (.tup _ vs 0 ds (.inl List.mem_cons_self) (r'.mono Inc.cons))
    · rw [r'.length]; exact Nat.le_trans j.1 (by decide))⟩
theorem JE_list {es : List Expr} {pos : Pos} {Q : D → Own → Prop} (h : JEs φ es ρ os (fun ds os' => ds.length ≤ 100 ∧ Q (.lst ds) os')) : JE φ (.List es pos) ρ os Q :=
  ⟨fun F m oa O I s Qv S G q => List_ (h.run F pos m oa O I s _ S G fun vs ds os' O' I' h' tk' j S' o' e' i' r' => by
    refine newList_N S'.fr S'.news (fun h'' F'' N'' => ?_) ?_
    · exact q _ (.lst ds) os' O' _ h'' tk' j.2 (S'.push F'' N'') (o'.mono Inc.cons) e' (i'.trans Inc.cons) (.lst _ vs 0 ds (.inl List.mem_cons_self) (r'.mono Inc.cons))
    · rw [r'.length]; exact Nat.le_trans j.1 (by decide))⟩
end

/-- which primitive -/
inductive Bop where
  | bin (op : Operator)
  | cmp (op : CmpOp)
def Bop.fn : Bop → Value → Value → Sem Value
  | .bin op => binaryOp op
  | .cmp op => compareOp op
/-- what a primitive does to data: value v for a, u for b; the answer stands for r -/
structure Op2 (f : Bop) (a b r : D) : Prop where
  run : ∀ φ : Fx, Fm φ → ∀ m O I s v u (Qv : Value → Shared → Prop), St φ.h₀ φ.L O I m s → Rep φ.c.base I v a → Rep φ.c.base I u b →
    (∀ z I' h' tk', St φ.h₀ φ.L O I' m (Sh s h' tk') → Inc I I' → Rep φ.c.base I' z r → Qv z (Sh s h' tk')) →
    wpAny (model φ.c.prog φ.c.w) φ.A (f.fn v u) Qv (fun _ _ => False) s

section
variable {φ : Fx} {ρ : Rho} {os : Own}
theorem JE_bin {l r : Expr} {op : Operator} {pos : Pos} {Q : D → Own → Prop} (h : JE φ l ρ os (fun a os₁ => JE φ r ρ os₁ (fun b os₂ => ∃ x, Op2 (.bin op) a b x ∧ Q x os₂))) : JE φ (.BinOp l op r pos) ρ os Q :=
  ⟨fun F m oa O I s Qv S G q => wpAny_BinOp (h.run F m oa O I s _ S G fun v a os₁ O₁ I₁ h₁ tk₁ j S₁ o₁ e₁ i₁ r₁ =>
    j.run F m oa O₁ I₁ _ _ S₁ (G.next i₁ o₁ e₁) fun u b os₂ O₂ I₂ h₂ tk₂ ⟨x, X, q₂⟩ S₂ o₂ e₂ i₂ r₂ =>
      X.run φ F m O₂ I₂ _ v u _ S₂ (r₁.mono i₂) r₂ fun z I₃ h₃ tk₃ S₃ i₃ r₃ =>
        q z x os₂ O₂ I₃ h₃ tk₃ q₂ S₃ (o₂.mono i₃) (e₂.trans e₁) ((i₁.trans i₂).trans i₃) r₃)⟩
theorem JE_cmp {l r : Expr} {op : CmpOp} {pos : Pos} {Q : D → Own → Prop} (h : JE φ l ρ os (fun a os₁ => JE φ r ρ os₁ (fun b os₂ => ∃ x, Op2 (.cmp op) a b x ∧ Q x os₂))) (hb : behindInMarks op r = false := by rfl) : JE φ (.Compare l [op] [r] pos) ρ os Q :=
  ⟨fun F m oa O I s Qv S G q => wpAny_Compare1 (h.run F m oa O I s _ S G fun v a os₁ O₁ I₁ h₁ tk₁ j S₁ o₁ e₁ i₁ r₁ =>
    j.run F m oa O₁ I₁ _ _ S₁ (G.next i₁ o₁ e₁) fun u b os₂ O₂ I₂ h₂ tk₂ ⟨x, X, q₂⟩ S₂ o₂ e₂ i₂ r₂ =>
      X.run φ F m O₂ I₂ _ v u _ S₂ (r₁.mono i₂) r₂ fun z I₃ h₃ tk₃ S₃ i₃ r₃ =>
        q z x os₂ O₂ I₃ h₃ tk₃ q₂ S₃ (o₂.mono i₃) (e₂.trans e₁) ((i₁.trans i₂).trans i₃) r₃) hb⟩
theorem JT_cmp {l r : Expr} {op : CmpOp} {pos : Pos} {Q : Bool → Own → Prop} (h : JE φ l ρ os (fun a os₁ => JE φ r ρ os₁ (fun b os₂ => ∃ x, Op2 (.cmp op) a b (.bool x) ∧ Q x os₂))) (hb : behindInMarks op r = false := by rfl) : JT φ (.Compare l [op] [r] pos) ρ os Q :=
  ⟨fun F m oa O I s Qv S G q => wpAny_isTrue_Compare1 (h.run F m oa O I s _ S G fun v a os₁ O₁ I₁ h₁ tk₁ j S₁ o₁ e₁ i₁ r₁ =>
    j.run F m oa O₁ I₁ _ _ S₁ (G.next i₁ o₁ e₁) fun u b os₂ O₂ I₂ h₂ tk₂ ⟨x, X, q₂⟩ S₂ o₂ e₂ i₂ r₂ =>
      X.run φ F m O₂ I₂ _ v u _ S₂ (r₁.mono i₂) r₂ fun z I₃ h₃ tk₃ S₃ i₃ r₃ => by
        cases r₃
        exact wpAny_truthy_bool (q x os₂ O₂ I₃ h₃ tk₃ q₂ S₃ (o₂.mono i₃) (e₂.trans e₁) ((i₁.trans i₂).trans i₃))) hb⟩
theorem JT_bool {e : Expr} {Q : Bool → Own → Prop} (h : JE φ e ρ os (fun a os₁ => ∃ x, a = .bool x ∧ Q x os₁))
    (hb : PySem.isTrue e φ.env (eval e φ.env) = (do let v ← eval e φ.env; standAt e.pos; holding [v] (truthy v)) := by rfl) : JT φ e ρ os Q :=
  ⟨fun F m oa O I s Qv S G q => wpAny_isTrue_value (h.run F m oa O I s _ S G fun v a os₁ O₁ I₁ h₁ tk₁ ⟨x, e, j⟩ S₁ o₁ e₁ i₁ r₁ => by
    subst e
    cases r₁
    exact wpAny_truthy_bool (q x os₁ O₁ I₁ h₁ tk₁ j S₁ o₁ e₁ i₁)) hb⟩
/-- a row of tests: and -/
structure JAnd (φ : Fx) (es : List Expr) (ρ : Rho) (os : Own) (Q : Bool → Own → Prop) : Prop where
  run : Fm φ → ∀ m oa O I s (Qv : Bool → Shared → Prop), St φ.h₀ φ.L O I m s → Good φ m oa O I ρ os →
    (∀ b os' O' I' h' tk', Q b os' → St φ.h₀ φ.L O' I' m (Sh s h' tk') → OwnAt φ oa O' I' os' → os'.isSome = os.isSome → Inc I I' → Qv b (Sh s h' tk')) →
    wpAny (model φ.c.prog φ.c.w) φ.A (allTrue .And es φ.env) Qv (fun _ _ => False) s
structure JOr (φ : Fx) (es : List Expr) (ρ : Rho) (os : Own) (Q : Bool → Own → Prop) : Prop where
  run : Fm φ → ∀ m oa O I s (Qv : Bool → Shared → Prop), St φ.h₀ φ.L O I m s → Good φ m oa O I ρ os →
    (∀ b os' O' I' h' tk', Q b os' → St φ.h₀ φ.L O' I' m (Sh s h' tk') → OwnAt φ oa O' I' os' → os'.isSome = os.isSome → Inc I I' → Qv b (Sh s h' tk')) →
    wpAny (model φ.c.prog φ.c.w) φ.A (allTrue .Or es φ.env) Qv (fun _ _ => False) s
theorem JAnd_nil {Q : Bool → Own → Prop} (h : Q true os) : JAnd φ [] ρ os Q :=
  ⟨fun F m oa O I s Qv S G q => wpAny_allTrue_And_nil (q true os O I s.heap s.toks h S G.own rfl Inc.refl)⟩
theorem JOr_nil {Q : Bool → Own → Prop} (h : Q false os) : JOr φ [] ρ os Q :=
  ⟨fun F m oa O I s Qv S G q => wpAny_allTrue_Or_nil (q false os O I s.heap s.toks h S G.own rfl Inc.refl)⟩
theorem JAnd_cons {e : Expr} {es : List Expr} {Q : Bool → Own → Prop} (h : JT φ e ρ os (fun b os₁ => if b = true then JAnd φ es ρ os₁ Q else Q false os₁)) : JAnd φ (e :: es) ρ os Q :=
  ⟨fun F m oa O I s Qv S G q => wpAny_allTrue_And_cons (h.run F m oa O I s _ S G fun b os₁ O₁ I₁ h₁ tk₁ j S₁ o₁ e₁ i₁ => by
    cases b with
    | true => exact j.run F m oa O₁ I₁ _ _ S₁ (G.next i₁ o₁ e₁) fun b os₂ O₂ I₂ h₂ tk₂ q₂ S₂ o₂ e₂ i₂ => q b os₂ O₂ I₂ h₂ tk₂ q₂ S₂ o₂ (e₂.trans e₁) (i₁.trans i₂)
    | false => exact q false os₁ O₁ I₁ h₁ tk₁ j S₁ o₁ e₁ i₁)⟩
theorem JOr_cons {e : Expr} {es : List Expr} {Q : Bool → Own → Prop} (h : JT φ e ρ os (fun b os₁ => if b = true then Q true os₁ else JOr φ es ρ os₁ Q)) : JOr φ (e :: es) ρ os Q :=
  ⟨fun F m oa O I s Qv S G q => wpAny_allTrue_Or_cons (h.run F m oa O I s _ S G fun b os₁ O₁ I₁ h₁ tk₁ j S₁ o₁ e₁ i₁ => by
    cases b with
    | false => exact j.run F m oa O₁ I₁ _ _ S₁ (G.next i₁ o₁ e₁) fun b os₂ O₂ I₂ h₂ tk₂ q₂ S₂ o₂ e₂ i₂ => q b os₂ O₂ I₂ h₂ tk₂ q₂ S₂ o₂ (e₂.trans e₁) (i₁.trans i₂)
    | true => exact q true os₁ O₁ I₁ h₁ tk₁ j S₁ o₁ e₁ i₁)⟩
theorem JT_and {es : List Expr} {pos : Pos} {Q : Bool → Own → Prop} (h : JAnd φ es ρ os Q) : JT φ (.BoolOp .And es pos) ρ os Q :=
  ⟨fun F m oa O I s Qv S G q => wpAny_isTrue_BoolOp (h.run F m oa O I s Qv S G q)⟩
theorem JT_or {es : List Expr} {pos : Pos} {Q : Bool → Own → Prop} (h : JOr φ es ρ os Q) : JT φ (.BoolOp .Or es pos) ρ os Q :=
  ⟨fun F m oa O I s Qv S G q => wpAny_isTrue_BoolOp (h.run F m oa O I s Qv S G q)⟩
theorem JE_ifexp {t a b : Expr} {pos : Pos} {Q : D → Own → Prop} (h : JT φ t ρ os (fun c os₁ => if c = true then JE φ a ρ os₁ Q else JE φ b ρ os₁ Q)) : JE φ (.IfExp t a b pos) ρ os Q :=
  ⟨fun F m oa O I s Qv S G q => wpAny_IfExp (h.run F m oa O I s _ S G fun c os₁ O₁ I₁ h₁ tk₁ j S₁ o₁ e₁ i₁ => by
    cases c <;> exact j.run F m oa O₁ I₁ _ _ S₁ (G.next i₁ o₁ e₁) fun v d os₂ O₂ I₂ h₂ tk₂ q₂ S₂ o₂ e₂ i₂ r₂ => q v d os₂ O₂ I₂ h₂ tk₂ q₂ S₂ o₂ (e₂.trans e₁) (i₁.trans i₂) r₂)⟩
/-- x and y as a value, both bools -/
theorem JE_and2 {x y : Expr} {pos : Pos} {Q : D → Own → Prop} (h : JE φ x ρ os (fun a os₁ => ∃ t, a = .bool t ∧ if t = true then JE φ y ρ os₁ Q else Q (.bool false) os₁)) : JE φ (.BoolOp .And [x, y] pos) ρ os Q :=
  ⟨fun F m oa O I s Qv S G q => wpAny_And2 (h.run F m oa O I s _ S G fun v a os₁ O₁ I₁ h₁ tk₁ ⟨t, ea, j⟩ S₁ o₁ e₁ i₁ r₁ => by
    subst ea
    cases r₁
    refine wpAny_truthy_bool ?_
    cases t with
    | true => exact j.run F m oa O₁ I₁ _ _ S₁ (G.next i₁ o₁ e₁) fun v d os₂ O₂ I₂ h₂ tk₂ q₂ S₂ o₂ e₂ i₂ r₂ => q v d os₂ O₂ I₂ h₂ tk₂ q₂ S₂ o₂ (e₂.trans e₁) (i₁.trans i₂) r₂
    | false => exact q _ _ os₁ O₁ I₁ h₁ tk₁ j S₁ o₁ e₁ i₁ (.bool false))⟩
end
end

section

theorem Fm.u {φ : Fx} (F : Fm φ) : φ.A.units + 64 < cLine := by have := F.units; omega

theorem op_int {f : Bop} {a b r : Int} (h : ∀ (prog : Program) (w : World) (A : Around) (E : Value → Shared → Prop) (s : Shared) (t u : Tok) (Q : Value → Shared → Prop), Q (.int r s.toks) { s with toks := s.toks + 1 } → wpAny (model prog w) A (f.fn (.int a t) (.int b u)) Q E s) :
    Op2 f (.int a) (.int b) (.int r) := by
  refine ⟨fun φ F m O I s v u Qv S ra rb q => ?_⟩
  cases ra; cases rb
  exact h _ _ _ _ _ _ _ _ (q _ I s.heap (s.toks + 1) (S.toks rfl) Inc.refl (.int _ _))
theorem op_bool {f : Bop} {a b : Int} {r : Bool} (h : ∀ (prog : Program) (w : World) (A : Around) (E : Value → Shared → Prop) (s : Shared) (t u : Tok) (Q : Value → Shared → Prop), Q (.bool r) s → wpAny (model prog w) A (f.fn (.int a t) (.int b u)) Q E s) :
    Op2 f (.int a) (.int b) (.bool r) := by
  refine ⟨fun φ F m O I s v u Qv S ra rb q => ?_⟩
  cases ra; cases rb
  exact h _ _ _ _ _ _ _ _ (q _ I s.heap s.toks (S.toks rfl) Inc.refl (.bool _))

theorem o_add {a b : Int} : Op2 (.bin .Add) (.int a) (.int b) (.int (a + b)) := op_int fun _ _ _ _ _ _ _ _ h => add_int h
theorem o_sub {a b : Int} : Op2 (.bin .Sub) (.int a) (.int b) (.int (a - b)) := op_int fun _ _ _ _ _ _ _ _ h => sub_int h
theorem o_mul {a b : Int} (h : IntMulOk a b) : Op2 (.bin .Mult) (.int a) (.int b) (.int (a * b)) := op_int fun _ _ _ _ _ _ _ _ q => mul_int q h
theorem o_mod {a b : Int} (h : b ≠ 0) : Op2 (.bin .Mod) (.int a) (.int b) (.int (a.fmod b)) := op_int fun _ _ _ _ _ _ _ _ q => mod_int h q
theorem o_fdiv {a b : Int} (h : b ≠ 0) (hp : Builtin.divisionGoesByPylong a b = false) : Op2 (.bin .FloorDiv) (.int a) (.int b) (.int (a.fdiv b)) := op_int fun _ _ _ _ _ _ _ _ q => floordiv_int h q (.inl hp)
theorem o_pow {a n : Int} (h : 0 ≤ n) (hs : (Builtin.Int.intBits a : Int) * n ≤ 2 ^ 27) : Op2 (.bin .Pow) (.int a) (.int n) (.int (a ^ n.toNat)) := op_int fun _ _ _ _ _ _ _ _ q => pow_int h hs q
theorem o_lt {a b : Int} : Op2 (.cmp .Lt) (.int a) (.int b) (.bool (decide (a < b))) := op_bool fun _ _ _ _ _ _ _ _ q => lt_int q
theorem o_le {a b : Int} : Op2 (.cmp .LtE) (.int a) (.int b) (.bool (decide (a ≤ b))) := op_bool fun _ _ _ _ _ _ _ _ q => le_int q
theorem o_gt {a b : Int} : Op2 (.cmp .Gt) (.int a) (.int b) (.bool (decide (b < a))) := op_bool fun _ _ _ _ _ _ _ _ q => gt_int q
theorem o_ge {a b : Int} : Op2 (.cmp .GtE) (.int a) (.int b) (.bool (decide (b ≤ a))) := op_bool fun _ _ _ _ _ _ _ _ q => ge_int q
theorem o_eq {a b : Int} : Op2 (.cmp .Eq) (.int a) (.int b) (.bool (decide (a = b))) := op_bool fun _ _ _ _ _ _ _ _ q => eq_int q
theorem o_ne {a b : Int} : Op2 (.cmp .NotEq) (.int a) (.int b) (.bool (decide (a ≠ b))) := op_bool fun _ _ _ _ _ _ _ _ q => ne_int (by
  have e : (a != b) = decide (a ≠ b) := by by_cases h : a = b <;> simp [h]
  rw [e]; exact q)
theorem o_subb {p q : Bool} : Op2 (.bin .Sub) (.bool p) (.bool q) (.int (b2i p - b2i q)) := by
  refine ⟨fun φ F m O I s v u Qv S ra rb k => ?_⟩
  cases ra; cases rb
  exact sub_bool (k _ I s.heap (s.toks + 1) (S.toks rfl) Inc.refl (.int _ _))
theorem o_isNone {d : D} (h : ∀ l, d ≠ .tup l) (h' : ∀ l, d ≠ .lst l) : Op2 (.cmp .Is) d .none (.bool (match d with | .none => true | _ => false)) := by
  refine ⟨fun φ F m O I s v u Qv S ra rb k => ?_⟩
  cases rb
  cases ra with
  | none => exact wpAny_is_plain rfl (k _ I s.heap s.toks (S.toks rfl) Inc.refl (.bool _))
  | bool x => exact wpAny_is_plain rfl (k _ I s.heap s.toks (S.toks rfl) Inc.refl (.bool _))
  | int i t => exact wpAny_is_plain rfl (k _ I s.heap s.toks (S.toks rfl) Inc.refl (.bool _))
  | str i t => exact wpAny_is_plain rfl (k _ I s.heap s.toks (S.toks rfl) Inc.refl (.bool _))
  | tup a vs n ds m r => exact absurd rfl (h _)
  | lst a vs n ds m r => exact absurd rfl (h' _)
theorem o_isNoneT {l : List D} : Op2 (.cmp .Is) (.tup l) .none (.bool false) := by
  refine ⟨fun φ F m O I s v u Qv S ra rb k => ?_⟩
  cases rb
  cases ra
  exact wpAny_is_plain rfl (k _ I s.heap s.toks (S.toks rfl) Inc.refl (.bool _))

/-- equality of data: D to the library's plain data -/
def D.flat : D → Option PyData
  | .none => some .none
  | .bool b => some (.bool b)
  | .int i => some (.int i)
  | .tup [.int a, .int b] => some (.tuple [.int a, .int b])
  | _ => Option.none
theorem flat_reads {φ : Fx} (F : Fm φ) {O I : Led} {m : Str → Option Value} {s : Shared} (S : St φ.h₀ φ.L O I m s) {v : Value} {d : D} {x : PyData} (r : Rep φ.c.base I v d) (e : d.flat = some x) :
    ∃ as, Reads s.heap v x as := by
  unfold D.flat at e
  split at e
  · cases e; cases r; exact ⟨_, .none⟩
  · cases e; cases r; exact ⟨_, .bool _⟩
  · cases e; cases r; exact ⟨_, .int _ _⟩
  · cases e
    cases r with
    | tup a vs n ds m r =>
      obtain ⟨v, w, rfl, r1, r2⟩ := r.two
      cases r1; cases r2
      exact ⟨_, reads_tuple_at (S.mem F m) rfl rfl (.cons (.int _ _) (.cons (.int _ _) .nil))⟩
  · cases e
theorem flat_shaped {d : D} {x : PyData} (e : d.flat = some x) : PySem.SeqAt.shaped x = true := by
  unfold D.flat at e
  split at e <;> cases e <;> rfl
theorem o_eqD {a b : D} {x y : PyData} (ha : a.flat = some x) (hb : b.flat = some y) : Op2 (.cmp .Eq) a b (.bool (PyData.eqv x y)) := by
  refine ⟨fun φ F m O I s v u Qv S ra rb k => ?_⟩
  obtain ⟨as, h1⟩ := flat_reads F S ra ha
  obtain ⟨bs, h2⟩ := flat_reads F S rb hb
  exact eq_dataH h1 h2 (flat_shaped ha) (flat_shaped hb) F.u (k _ I s.heap s.toks (S.toks rfl) Inc.refl (.bool _))
theorem o_neD {a b : D} {x y : PyData} (ha : a.flat = some x) (hb : b.flat = some y) : Op2 (.cmp .NotEq) a b (.bool (!PyData.eqv x y)) := by
  refine ⟨fun φ F m O I s v u Qv S ra rb k => ?_⟩
  obtain ⟨as, h1⟩ := flat_reads F S ra ha
  obtain ⟨bs, h2⟩ := flat_reads F S rb hb
  exact ne_dataH h1 h2 (flat_shaped ha) (flat_shaped hb) F.u (k _ I s.heap s.toks (S.toks rfl) Inc.refl (.bool _))
theorem o_eqs {x y : Str} : Op2 (.cmp .Eq) (.str x) (.str y) (.bool (decide (x = y))) := by
  refine ⟨fun φ F m O I s v u Qv S ra rb k => ?_⟩
  cases ra; cases rb
  refine eq_str ?_
  have e : (x == y) = decide (x = y) := by by_cases h : x = y <;> simp [h]
  rw [e]
  exact k _ I s.heap s.toks (S.toks rfl) Inc.refl (.bool _)
theorem o_nes {x y : Str} : Op2 (.cmp .NotEq) (.str x) (.str y) (.bool (decide (x ≠ y))) := by
  refine ⟨fun φ F m O I s v u Qv S ra rb k => ?_⟩
  cases ra; cases rb
  refine ne_str ?_
  have e : (x != y) = decide (x ≠ y) := by by_cases h : x = y <;> simp [h]
  rw [e]
  exact k _ I s.heap s.toks (S.toks rfl) Inc.refl (.bool _)
/-- a pair of ints -/
abbrev pr (a b : Int) : D := .tup [.int a, .int b]
theorem o_eqp {a b x y : Int} : Op2 (.cmp .Eq) (pr a b) (pr x y) (.bool (decide (a = x ∧ b = y))) := by
  have h := o_eqD (a := pr a b) (b := pr x y) rfl rfl
  have e : PyData.eqv (.tuple [.int a, .int b]) (.tuple [.int x, .int y]) = decide (a = x ∧ b = y) := by
    simp only [PyData.eqv, PyData.eqvAll, Bool.and_true]
    by_cases h1 : a = x <;> by_cases h2 : b = y <;> simp [h1, h2]
  rw [e] at h; exact h
theorem o_nep {a b x y : Int} : Op2 (.cmp .NotEq) (pr a b) (pr x y) (.bool (decide (¬(a = x ∧ b = y)))) := by
  have h := o_neD (a := pr a b) (b := pr x y) rfl rfl
  have e : (!PyData.eqv (.tuple [.int a, .int b]) (.tuple [.int x, .int y])) = decide (¬ (a = x ∧ b = y)) := by
    simp only [PyData.eqv, PyData.eqvAll, Bool.and_true]
    by_cases h1 : a = x <;> by_cases h2 : b = y <;> simp [h1, h2]
  rw [e] at h; exact h
theorem strs_of {b : Heap} {I : Led} : ∀ {vs : List Value} {ys : List Str}, Reps b I vs (ys.map D.str) → StrsAre vs ys
  | _, [], h => by cases h; exact .nil
  | _, y :: ys, h => by
    cases h with
    | cons a t => cases a; exact .cons _ _ (strs_of t)
theorem o_notin {x : Str} {ys : List Str} : Op2 (.cmp .NotIn) (.str x) (.tup (ys.map D.str)) (.bool (!(ys.any (· == x)))) := by
  refine ⟨fun φ F m O I s v u Qv S ra rb k => ?_⟩
  cases ra
  cases rb with
  | tup a vs n ds m r =>
    exact notin_tuple_strs (items := vs.toArray) ⟨_, S.mem F m, rfl, n, rfl⟩ (strs_of r) (k _ I s.heap s.toks (S.toks rfl) Inc.refl (.bool _))

theorem o_concat {xs ys : List D} (h : xs.length + ys.length ≤ 100) : Op2 (.bin .Add) (.lst xs) (.lst ys) (.lst (xs ++ ys)) := by
  refine ⟨fun φ F m O I s v u Qv S ra rb k => ?_⟩
  cases ra with
  | lst a vs n ds m r =>
    cases rb with
    | lst a' vs' n' ds' m' r' =>
      refine add_arrays S.fr S.news (its := vs.toArray) (its2 := vs'.toArray) ⟨_, S.mem F m, rfl, n, rfl⟩ ⟨_, S.mem F m', rfl, n', rfl⟩ (fun h' F' N' => ?_) ?_
      · exact k _ _ h' s.toks (S.push (s' := Sh s h' s.toks) F' N') Inc.cons (.lst _ (vs ++ vs') 0 _ (.inl List.mem_cons_self) ((r.append r').mono Inc.cons))
      · simp only [List.size_toArray, r.length, r'.length]; exact Nat.le_trans h (by decide)
theorem flat_rep {b : Heap} {I : Led} {v : Value} {d : D} (r : Rep b I v d) : ∀ n : Nat, Reps b I (List.replicate n v) (List.replicate n d)
  | 0 => .nil
  | n + 1 => .cons r (flat_rep r n)
theorem foldl_one (v : Value) : ∀ (n : Nat) (acc : Array Value), List.foldl (fun x1 x2 => x1 ++ x2) acc (List.replicate n #[v]) = acc ++ (List.replicate n v).toArray
  | 0, acc => by simp
  | n + 1, acc => by
    rw [List.replicate_succ, List.foldl_cons, foldl_one v n]
    apply Array.ext'
    simp [List.replicate_succ]
/-- [x] * n -/
theorem o_rep {x : D} {n : Int} (h : n ≤ 100) (hl : -100 ≤ n) : Op2 (.bin .Mult) (.lst [x]) (.int n) (.lst (List.replicate n.toNat x)) := by
  refine ⟨fun φ F m O I s v u Qv S ra rb k => ?_⟩
  cases rb
  cases ra with
  | lst a vs n' ds m r =>
    cases r with
    | cons r1 r2 =>
      cases r2
      rename_i v1
      refine mul_list S.fr S.news (items := #[v1]) (k := n') (S.mem F m) (by omega) (by omega) ?_ (fun h' F' N' => ?_)
      · have e : (#[v1] : Array Value).size = 1 := rfl
        rw [e]; omega
      · have e : (List.foldl (fun x1 x2 => x1 ++ x2) #[] (List.replicate (if (#[v1] : Array Value).isEmpty = true then 0 else n.toNat) #[v1])) = (List.replicate n.toNat v1).toArray := by
          rw [if_neg (by simp), foldl_one]; simp
        rw [e] at N'
        exact k _ _ h' s.toks (S.push (s' := Sh s h' s.toks) F' N') Inc.cons (.lst _ _ 0 _ (.inl List.mem_cons_self) ((flat_rep r1 _).mono Inc.cons))
end

section

/-- how a statement ends, as data -/
inductive FD where
  | next
  | ret (d : D)
inductive FRep (b : Heap) (I : Led) : Flow → FD → Prop
  | next : FRep b I .next .next
  | ret {v : Value} {d : D} (r : Rep b I v d) : FRep b I (.ret v) (.ret d)
theorem FRep.mono {b : Heap} {I I' : Led} (i : Inc I I') {f : Flow} {d : FD} (h : FRep b I f d) : FRep b I' f d := by
  cases h with
  | next => exact .next
  | ret r => exact .ret (r.mono i)

def upd (x : Str) (d : D) : Rho → Rho
  | [] => [(x, d)]
  | (y, e) :: r => if y = x then (x, d) :: r else (y, e) :: upd x d r
theorem lookup_upd (x y : Str) (d : D) : ∀ ρ : Rho, (upd x d ρ).lookup y = if y = x then some d else ρ.lookup y
  | [] => by
    by_cases h : y = x
    · subst h; simp [upd]
    · have e : (y == x) = false := by simpa using h
      simp [upd, h, List.lookup_cons, e]
  | (z, e) :: r => by
    unfold upd
    by_cases hz : z = x
    · subst hz
      rw [if_pos rfl]
      by_cases h : y = z
      · subst h; simp [List.lookup]
      · have : (y == z) = false := by simpa using h
        simp [List.lookup, this, h]
    · rw [if_neg hz, List.lookup_cons, lookup_upd x y d r]
      by_cases h : y = z
      · subst h
        simp only [beq_self_eq_true, if_neg hz, List.lookup_cons]
      · have : (y == z) = false := by simpa using h
        simp only [this, List.lookup_cons]

/-- the frame is a def's own -/
structure Fn (φ : Fx) : Prop where
  shape : ∃ name a cd, φ.env = envOf name φ.env.scope φ.L a cd
  kind : φ.env.scope.kind = .function
  fe : φ.fe = φ.env
  nodbg : φ.env.kindOf ("__debug__" : Str) ≠ some .local
theorem Fn.loc {φ : Fx} (N : Fn φ) : φ.env.locals = φ.L := by obtain ⟨a, b, c, e⟩ := N.shape; rw [e]; rfl

theorem name_local {φ : Fx} (N : Fn φ) {m : Str → Option Value} {x : Str} {v : Value} (hk : φ.env.kindOf x = some .local) (hm : m x = some v) : NameIs φ m x v := by
  intro O I s _ S pos Q E h
  refine wpAny_Name (wpAny_loadName_local N.kind hk (m := m) (by rw [N.loc]; exact S.fr.ns) hm h) ?_
  cases e : (x == Str.ofString "__debug__") with
  | false => rfl
  | true => exact absurd (by rw [← beq_iff_eq.mp e]; exact hk) N.nodbg

structure GoodS (φ : Fx) (m : Str → Option Value) (oa : Addr) (O I : Led) (ρ : Rho) (os : Own) : Prop where
  names : ∀ x d, ρ.lookup x = some d → φ.env.kindOf x = some .local ∧ ∃ v, m x = some v ∧ Rep φ.c.base I v d
  own : OwnAt φ oa O I os
  on : os.isSome = true → φ.env.kindOf φ.on = some .local ∧ m φ.on = some (.ref oa)
theorem GoodS.good {φ : Fx} (N : Fn φ) {m : Str → Option Value} {oa : Addr} {O I : Led} {ρ : Rho} {os : Own} (G : GoodS φ m oa O I ρ os) : Good φ m oa O I ρ os :=
  ⟨fun x d h => let ⟨k, v, e, r⟩ := G.names x d h; ⟨v, r, name_local N k e⟩, G.own, fun h => let ⟨k, e⟩ := G.on h; name_local N k e⟩
theorem GoodS.next {φ : Fx} {m : Str → Option Value} {oa : Addr} {O O' I I' : Led} {ρ : Rho} {os os' : Own} (G : GoodS φ m oa O I ρ os) (i : Inc I I') (o : OwnAt φ oa O' I' os') (e : os'.isSome = os.isSome) : GoodS φ m oa O' I' ρ os' :=
  ⟨fun x d h => let ⟨k, v, q, r⟩ := G.names x d h; ⟨k, v, q, r.mono i⟩, o, fun h => G.on (e ▸ h)⟩
theorem GoodS.set {φ : Fx} {m : Str → Option Value} {oa : Addr} {O I : Led} {ρ : Rho} {os : Own} (G : GoodS φ m oa O I ρ os) {x : Str} {v : Value} {d : D} (hk : φ.env.kindOf x = some .local) (hx : x ≠ φ.on) (r : Rep φ.c.base I v d) :
    GoodS φ (fun y => if y = x then some v else m y) oa O I (upd x d ρ) os := by
  refine ⟨fun y e h => ?_, G.own, fun h => ?_⟩
  · rw [lookup_upd] at h
    by_cases q : y = x
    · subst q
      rw [if_pos rfl] at h
      cases h
      exact ⟨hk, v, if_pos rfl, r⟩
    · rw [if_neg q] at h
      obtain ⟨k, u, e', r'⟩ := G.names y e h
      exact ⟨k, u, by rw [if_neg q]; exact e', r'⟩
  · obtain ⟨k, e⟩ := G.on h
    exact ⟨k, by rw [if_neg (fun q => hx q.symm)]; exact e⟩

/-- what is kept of the own list's place -/
def Kept (os : Own) (oa : Addr) (fd : FD) (os' : Own) (oa' : Addr) : Prop := os.isSome = true → oa' = oa ∧ (fd = .next → os'.isSome = true)

/-- a statement's judgement -/
structure JX (φ : Fx) (st : Stmt) (ρ : Rho) (os : Own) (Q : FD → Rho → Own → Prop) : Prop where
  run : Fn φ → Fm φ → ∀ m oa O I s (Qf : Flow → Shared → Prop), St φ.h₀ φ.L O I m s → GoodS φ m oa O I ρ os →
    (∀ f fd ρ' os' m' oa' O' I' h' tk', Q fd ρ' os' → St φ.h₀ φ.L O' I' m' (Sh s h' tk') → GoodS φ m' oa' O' I' ρ' os' → Inc I I' → FRep φ.c.base I' f fd → Kept os oa fd os' oa' → Qf f (Sh s h' tk')) →
    wpAny (model φ.c.prog φ.c.w) φ.A (exec st φ.env) Qf (fun _ _ => False) s
structure JS (φ : Fx) (ss : List Stmt) (ρ : Rho) (os : Own) (Q : FD → Rho → Own → Prop) : Prop where
  run : Fn φ → Fm φ → ∀ m oa O I s (Qf : Flow → Shared → Prop), St φ.h₀ φ.L O I m s → GoodS φ m oa O I ρ os →
    (∀ f fd ρ' os' m' oa' O' I' h' tk', Q fd ρ' os' → St φ.h₀ φ.L O' I' m' (Sh s h' tk') → GoodS φ m' oa' O' I' ρ' os' → Inc I I' → FRep φ.c.base I' f fd → Kept os oa fd os' oa' → Qf f (Sh s h' tk')) →
    wpAny (model φ.c.prog φ.c.w) φ.A (execs ss φ.env) Qf (fun _ _ => False) s

section
variable {φ : Fx} {ρ : Rho} {os : Own} {Q : FD → Rho → Own → Prop}

theorem JX.mono {st : Stmt} {Q' : FD → Rho → Own → Prop} (h : JX φ st ρ os Q) (k : ∀ f r o, Q f r o → Q' f r o) : JX φ st ρ os Q' :=
  ⟨fun N F m oa O I s Qf S G q => h.run N F m oa O I s Qf S G fun f fd ρ' os' m' oa' O' I' h' tk' x => q f fd ρ' os' m' oa' O' I' h' tk' (k _ _ _ x)⟩
theorem JS.mono {st : List Stmt} {Q' : FD → Rho → Own → Prop} (h : JS φ st ρ os Q) (k : ∀ f r o, Q f r o → Q' f r o) : JS φ st ρ os Q' :=
  ⟨fun N F m oa O I s Qf S G q => h.run N F m oa O I s Qf S G fun f fd ρ' os' m' oa' O' I' h' tk' x => q f fd ρ' os' m' oa' O' I' h' tk' (k _ _ _ x)⟩

theorem JS_nil (h : Q .next ρ os) : JS φ [] ρ os Q :=
  ⟨fun N F m oa O I s Qf S G q => wpAny_execs_nil (q .next .next ρ os m oa O I s.heap s.toks h S G Inc.refl .next (fun e => ⟨rfl, fun _ => e⟩))⟩
theorem JS_cons {st : Stmt} {ss : List Stmt} (h : JX φ st ρ os (fun fd ρ₁ os₁ => match fd with | .next => JS φ ss ρ₁ os₁ Q | .ret d => Q (.ret d) ρ₁ os₁)) : JS φ (st :: ss) ρ os Q :=
  ⟨fun N F m oa O I s Qf S G q => by
    refine wpAny_execs_cons (h.run N F m oa O I s _ S G fun f fd ρ₁ os₁ m₁ oa₁ O₁ I₁ h₁ tk₁ j S₁ G₁ i₁ fr₁ kp₁ => ?_)
    cases fr₁ with
    | next =>
      refine (j : JS φ ss ρ₁ os₁ Q).run N F m₁ oa₁ O₁ I₁ _ Qf S₁ G₁ fun f₂ fd₂ ρ₂ os₂ m₂ oa₂ O₂ I₂ h₂ tk₂ q₂ S₂ G₂ i₂ fr₂ kp₂ => ?_
      exact q f₂ fd₂ ρ₂ os₂ m₂ oa₂ O₂ I₂ h₂ tk₂ q₂ S₂ G₂ (i₁.trans i₂) fr₂ (fun e => by
        obtain ⟨e1, e2⟩ := kp₁ e
        obtain ⟨e3, e4⟩ := kp₂ (e2 rfl)
        exact ⟨e3.trans e1, e4⟩)
    | ret r => exact q _ (.ret _) ρ₁ os₁ m₁ oa₁ O₁ I₁ h₁ tk₁ j S₁ G₁ i₁ (.ret r) kp₁⟩

theorem JX_ret {e : Expr} {pos : Pos} (h : JE φ e ρ os (fun d os' => Q (.ret d) ρ os')) : JX φ (.Return (some e) pos) ρ os Q :=
  ⟨fun N F m oa O I s Qf S G q => wpAny_Return_some (h.run F m oa O I s _ S (G.good N) fun v d os' O' I' h' tk' j S' o' e' i' r' =>
    q _ (.ret d) ρ os' m oa O' I' h' tk' j S' (G.next i' o' e') i' (.ret r') (fun _ => ⟨rfl, fun x => nomatch x⟩))⟩
/-- the own list is handed back: from now on nobody changes it -/
theorem JX_retOwn {ds : List D} {pos p : Pos} {x : Str} (hx : x = φ.on) (h : Q (.ret (.lst ds)) ρ none) : JX φ (.Return (some (.Name x p)) pos) ρ (some ds) Q :=
  ⟨fun N F m oa O I s Qf S G q => wpAny_Return_some (by
    subst hx
    obtain ⟨vs, n, rfl, r, off⟩ := G.own
    obtain ⟨k, e⟩ := G.on rfl
    refine name_local N k e _ I s (fun p hp => List.mem_cons_of_mem _ hp) S p _ _ ?_
    have S' : St φ.h₀ φ.L φ.O₀ ((oa, lobj vs n) :: I) m s := by
      refine ⟨S.fr, fun p hp => S.news p ?_, fun p hp y hy => ?_⟩
      · rcases List.mem_append.mp hp with hp | hp
        · exact List.mem_append_left _ (List.mem_cons_of_mem _ hp)
        · rcases List.mem_cons.mp hp with rfl | hp
          · exact List.mem_append_left _ List.mem_cons_self
          · exact List.mem_append_right _ hp
      · rcases List.mem_cons.mp hy with rfl | hy
        · exact off p hp
        · exact S.off p (List.mem_cons_of_mem _ hp) y hy
    refine q _ (.ret (.lst ds)) ρ none m oa φ.O₀ _ s.heap s.toks h S' ⟨fun y d hy => ?_, rfl, fun e => nomatch e⟩ Inc.cons (.ret (.lst _ vs n ds (.inl List.mem_cons_self) (r.mono Inc.cons))) (fun _ => ⟨rfl, fun x => nomatch x⟩)
    obtain ⟨k, v, e, r⟩ := G.names y d hy
    exact ⟨k, v, e, r.mono Inc.cons⟩)⟩

theorem store {N : Fn φ} {m : Str → Option Value} {O I : Led} {s : Shared} (S : St φ.h₀ φ.L O I m s) {x : Str} {v : Value} (hk : φ.env.kindOf x = some .local) {Qu : Unit → Shared → Prop} {E : Value → Shared → Prop}
    (h : ∀ h' tk', St φ.h₀ φ.L O I (fun y => if y = x then some v else m y) (Sh s h' tk') → Qu () (Sh s h' tk')) : wpAny (model φ.c.prog φ.c.w) φ.A (storeName φ.env x v) Qu E s := by
  obtain ⟨nm, a, cd, e⟩ := N.shape
  rw [e] at hk ⊢
  exact stN S.fr S.news (fun h' F' N' => h h' _ (S.of (s' := Sh s h' (s.toks + 1)) F' N')) N.kind hk

theorem ne_of {x y : Str} (h : (x == y) = false) : x ≠ y := fun e => by rw [e] at h; simp at h
theorem JX_assign {x : Str} {e : Expr} {px pos : Pos} (hk : φ.env.kindOf x = some .local) (hx : (x == φ.on) = false) (h : JE φ e ρ os (fun d os' => Q .next (upd x d ρ) os'))
    (hs : swapsWith e (some (.Name x px)) pos.line φ.env = pure false := by rfl) : JX φ (.Assign [.Name x px] e pos) ρ os Q :=
  ⟨fun N F m oa O I s Qf S G q => wpAny_Assign_Name (h.run F m oa O I s _ S (G.good N) fun v d os' O' I' h' tk' j S' o' e' i' r' =>
    store (N := N) S' hk fun h'' tk'' S'' => q .next .next _ os' _ oa O' I' h'' tk'' j S'' ((G.next i' o' e').set hk (ne_of hx) r') i' .next (fun y => ⟨rfl, fun _ => e' ▸ y⟩)) hs⟩

theorem JX_if {t : Expr} {a b : List Stmt} {pos : Pos} (h : JT φ t ρ os (fun c os₁ => if c = true then JS φ a ρ os₁ Q else JS φ b ρ os₁ Q)) : JX φ (.If t a b pos) ρ os Q :=
  ⟨fun N F m oa O I s Qf S G q => wpAny_If (h.run F m oa O I s _ S (G.good N) fun c os₁ O₁ I₁ h₁ tk₁ j S₁ o₁ e₁ i₁ => by
    have fin : ∀ ss, JS φ ss ρ os₁ Q → wpAny (model φ.c.prog φ.c.w) φ.A (execs ss φ.env) Qf (fun _ _ => False) (Sh s h₁ tk₁) := fun ss j =>
      j.run N F m oa O₁ I₁ _ Qf S₁ (G.next i₁ o₁ e₁) fun f₂ fd₂ ρ₂ os₂ m₂ oa₂ O₂ I₂ h₂ tk₂ q₂ S₂ G₂ i₂ fr₂ kp₂ =>
        q f₂ fd₂ ρ₂ os₂ m₂ oa₂ O₂ I₂ h₂ tk₂ q₂ S₂ G₂ (i₁.trans i₂) fr₂ (fun y => kp₂ (e₁ ▸ y))
    cases c with
    | true => exact fin _ j
    | false => exact fin _ j)⟩

/-- an expression as a statement: its value is let go -/
theorem JX_expr {e : Expr} {pos : Pos} (h : JE φ e ρ os (fun d os' => d = .none ∧ Q .next ρ os')) (hi : interactive φ.env = false := by rfl) (hs : swapsWith e none pos.line φ.env = pure false := by rfl) : JX φ (.Expr e pos) ρ os Q :=
  ⟨fun N F m oa O I s Qf S G q => wpAny_Expr (h.run F m oa O I s _ S (G.good N) fun v d os' O' I' h' tk' ⟨ed, j⟩ S' o' e' i' r' => by
    subst ed
    cases r'
    exact q .next .next ρ os' m oa O' I' h' tk' j S' (G.next i' o' e') i' .next (fun y => ⟨rfl, fun _ => e' ▸ y⟩)) hi hs⟩

/-- targets that store names, in their order -/
inductive Stores (env : Env) : List (Value → Sem Unit) → List Str → Prop
  | nil : Stores env [] []
  | cons {t : Value → Sem Unit} {x : Str} {ts : List (Value → Sem Unit)} {xs : List Str}
      (h : ∀ (M : Model) (A : Around) (E : Value → Shared → Prop) (s : Shared) (v : Value) (Qu : Unit → Shared → Prop), wpAny M A (storeName env x v) Qu E s → wpAny M A (t v) Qu E s) (r : Stores env ts xs) : Stores env (t :: ts) (x :: xs)

theorem stores_bind (env : Env) : ∀ xs : List Str, Stores env (xs.map fun n => bindName env n) xs
  | [] => .nil
  | x :: xs => .cons (fun _ _ _ _ _ _ h => wpAny_bindName h) (stores_bind env xs)
theorem Reps.reverse {b : Heap} {I : Led} : ∀ {vs : List Value} {ds : List D}, Reps b I vs ds → Reps b I vs.reverse ds.reverse
  | _, _, .nil => .nil
  | _, _, .cons x t => by
    rw [List.reverse_cons, List.reverse_cons]
    exact t.reverse.append (.cons x .nil)
theorem assign_row (N : Fn φ) {oa : Addr} {O I : Led} {Qu : Unit → Shared → Prop} : ∀ {xs : List Str} {ts : List (Value → Sem Unit)} {vs : List Value} {ds : List D} {ρ : Rho} {m : Str → Option Value} {s : Shared},
    Stores φ.env ts xs → Reps φ.c.base I vs ds → xs.length = ds.length → (∀ x ∈ xs, φ.env.kindOf x = some .local ∧ x ≠ φ.on) → St φ.h₀ φ.L O I m s → GoodS φ m oa O I ρ os →
    (∀ m' h' tk', St φ.h₀ φ.L O I m' (Sh s h' tk') → GoodS φ m' oa O I ((xs.zip ds).foldl (fun r p => upd p.1 p.2 r) ρ) os → Qu () (Sh s h' tk')) →
    wpAny (model φ.c.prog φ.c.w) φ.A (assignInOrder ts vs) Qu (fun _ _ => False) s
  | _, _, vs, ds, ρ, m, s, .nil, r, hl, hx, S, G, q => by
    cases r with
    | nil => exact wpAny_assignInOrder_none (q m s.heap s.toks S G)
    | cons _ _ => simp at hl
  | _, _, vs, ds, ρ, m, s, .cons (t := t) (x := x) (ts := ts) (xs := xs) ht rs, r, hl, hx, S, G, q => by
    cases r with
    | nil => simp at hl
    | cons r1 r2 =>
      rename_i v d vs ds
      refine wpAny_assignInOrder_more (ht _ _ _ _ _ _ (store (N := N) S (hx x List.mem_cons_self).1 fun h' tk' S' => ?_))
      exact assign_row N rs r2 (by simpa using hl) (fun y hy => hx y (List.mem_cons_of_mem _ hy)) S' (G.set (hx x List.mem_cons_self).1 (hx x List.mem_cons_self).2 r1) fun m' h'' tk'' S'' G'' => q m' h'' tk'' S'' G''

theorem St.extBut {h₀ : Heap} {L : Addr} {O I : Led} {m : Str → Option Value} {s : Shared} {h' : Heap} {tk : Nat} (S : St h₀ L O I m s) (x : Heap.ExtBut s.heap.objs.size s.heap h') : St h₀ L O I m (Sh s h' tk) := by
  have hb : ∀ b o, s.heap.get? b = some o → h'.get? b = some o := fun b o e => x b o (Nat.ne_of_lt (Heap.lt_size e)) e
  refine ⟨?_, fun p hp => ⟨hb _ _ (S.news p hp).1, (S.news p hp).2⟩, S.off⟩
  exact S.fr.keeps hb

theorem all_loc {xs : List Str} (h : (xs.all fun x => (φ.env.kindOf x == some .local) && !(x == φ.on)) = true) : ∀ x ∈ xs, φ.env.kindOf x = some .local ∧ x ≠ φ.on := fun x hx => by
  have := List.all_eq_true.mp h x hx
  simpa using this
/-- x, y, .. = e where the value is no row of the same length in the text -/
theorem JX_unpack {e : Expr} {elts : List Expr} {k : Nat} {xs : List Str} {tpos pos : Pos} (hst : Stores φ.env ((assignEach elts φ.env).map (·.2)) xs) (hlen : (assignEach elts φ.env).length = xs.length) (hfst : (assignEach elts φ.env).findIdx? (·.1) = none)
    (hk : (xs.all fun x => (φ.env.kindOf x == some .local) && !(x == φ.on)) = true)
    (h : JE φ e ρ os (fun d os' => ∃ ds, d = .tup ds ∧ xs.length = ds.length ∧ Q .next ((xs.zip ds).foldl (fun r p => upd p.1 p.2 r) ρ) os'))
    (hs : swapsWithSole [.Tuple elts k tpos] e pos.line φ.env = pure false := by rfl) (hw : swappedStores [.Tuple elts k tpos] e φ.env = pure none := by rfl) : JX φ (.Assign [.Tuple elts k tpos] e pos) ρ os Q :=
  ⟨fun N F m oa O I s Qf S G q => Assign_Tuple (h.run F m oa O I s _ S (G.good N) fun v d os' O' I' h' tk' ⟨ds, ed, el, j⟩ S' o' e' i' r' => by
    subst ed
    cases r' with
    | tup a vs n ds m' r =>
      show wpAny _ _ (do standAt tpos; unpack (.ref a) (assignEach elts φ.env)) _ _ _
      refine wpAny_bind (wpAny_standAt (wpAny_unpack_tuple F.handled (items := vs.toArray) ⟨_, S'.mem F m', rfl, n, rfl⟩ (by rw [hlen, el, ← r.length]; simp) hfst fun h'' x => ?_))
      exact assign_row N hst r el (all_loc hk) (S'.extBut (tk := tk') x) (G.next i' o' e') fun m'' h₃ tk₃ S₃ G₃ => q .next .next _ os' m'' oa O' I' h₃ tk₃ j S₃ G₃ i' .next (fun y => ⟨rfl, fun _ => e' ▸ y⟩)) hs hw⟩
/-- x, y, .. = a, b, .. where the compiler exchanges the stores -/
theorem JX_unpackS {e : Expr} {elts : List Expr} {k : Nat} {xs : List Str} {tpos pos : Pos} (hk : (xs.all fun x => (φ.env.kindOf x == some .local) && !(x == φ.on)) = true)
    (h : JE φ e ρ os (fun d os' => ∃ ds, d = .tup ds ∧ xs.length = ds.length ∧ Q .next ((xs.reverse.zip ds.reverse).foldl (fun r p => upd p.1 p.2 r) ρ) os'))
    (hw : swappedStores [.Tuple elts k tpos] e φ.env = pure (some xs) := by rfl) (hs : swapsWithSole [.Tuple elts k tpos] e pos.line φ.env = pure false := by rfl) : JX φ (.Assign [.Tuple elts k tpos] e pos) ρ os Q :=
  ⟨fun N F m oa O I s Qf S G q => Assign_Tuple_swapped (names := xs) (h.run F m oa O I s _ S (G.good N) fun v d os' O' I' h' tk' ⟨ds, ed, el, j⟩ S' o' e' i' r' => by
    subst ed
    cases r' with
    | tup a vs n ds m' r =>
      have en : xs.length = vs.toArray.size := by rw [el, ← r.length]; simp
      rw [en]
      refine PyProof.Rows.unpackItems_tuple F.handled (items := vs.toArray) ⟨_, S'.mem F m', rfl, n, rfl⟩ fun h'' x => ?_
      have rr : Reps φ.c.base I' vs.reverse ds.reverse := r.reverse
      refine assign_row N (stores_bind φ.env xs.reverse) rr (by simpa using el) (fun y hy => all_loc hk y (List.mem_reverse.mp hy)) (S'.extBut (tk := tk') x) (G.next i' o' e') fun m'' h₃ tk₃ S₃ G₃ => ?_
      exact q .next .next _ os' m'' oa O' I' h₃ tk₃ j S₃ G₃ i' .next (fun y => ⟨rfl, fun _ => e' ▸ y⟩)) hs hw⟩

theorem JS_norm {ss : List Stmt} {ρ' : Rho} (e : ρ = ρ') (h : JS φ ss ρ' os Q) : JS φ ss ρ os Q := e ▸ h
/-- x, y = a, b with the stores exchanged -/
theorem JX_swap2 {e : Expr} {x y : Str} {px py tpos pos : Pos} {k : Nat} (hk : ([x, y].all fun x => (φ.env.kindOf x == some .local) && !(x == φ.on)) = true)
    (hw : swappedStores [.Tuple [.Name x px, .Name y py] k tpos] e φ.env = pure (some [x, y])) (h : JE φ e ρ os (fun d os' => ∃ d1 d2, d = .tup [d1, d2] ∧ Q .next (upd x d1 (upd y d2 ρ)) os'))
    (hs : swapsWithSole [.Tuple [.Name x px, .Name y py] k tpos] e pos.line φ.env = pure false := by rfl) : JX φ (.Assign [.Tuple [.Name x px, .Name y py] k tpos] e pos) ρ os Q :=
  JX_unpackS hk (h.mono fun d os' ⟨d1, d2, e, q⟩ => ⟨[d1, d2], e, rfl, q⟩) hw hs
theorem stores_name {env : Env} {x : Str} {p : Pos} {ts : List (Value → Sem Unit)} {xs : List Str} (r : Stores env ts xs) : Stores env (assign (.Name x p) env :: ts) (x :: xs) :=
  .cons (fun _ _ _ _ _ _ h => assign_Name h) r
/-- x, y = a pair -/
theorem JX_pair {e : Expr} {x y : Str} {px py tpos pos : Pos} {k : Nat} (hk : ([x, y].all fun x => (φ.env.kindOf x == some .local) && !(x == φ.on)) = true)
    (hw : swappedStores [.Tuple [.Name x px, .Name y py] k tpos] e φ.env = pure none) (h : JE φ e ρ os (fun d os' => ∃ d1 d2, d = .tup [d1, d2] ∧ Q .next (upd y d2 (upd x d1 ρ)) os'))
    (hs : swapsWithSole [.Tuple [.Name x px, .Name y py] k tpos] e pos.line φ.env = pure false := by rfl) : JX φ (.Assign [.Tuple [.Name x px, .Name y py] k tpos] e pos) ρ os Q :=
  JX_unpack (xs := [x, y]) (stores_name (stores_name .nil)) rfl rfl hk (h.mono fun d os' ⟨d1, d2, e, q⟩ => ⟨[d1, d2], e, rfl, q⟩) hs hw
theorem JX_trip {e : Expr} {x y z : Str} {px py pz tpos pos : Pos} {k : Nat} (hk : ([x, y, z].all fun x => (φ.env.kindOf x == some .local) && !(x == φ.on)) = true)
    (hw : swappedStores [.Tuple [.Name x px, .Name y py, .Name z pz] k tpos] e φ.env = pure none) (h : JE φ e ρ os (fun d os' => ∃ d1 d2 d3, d = .tup [d1, d2, d3] ∧ Q .next (upd z d3 (upd y d2 (upd x d1 ρ))) os'))
    (hs : swapsWithSole [.Tuple [.Name x px, .Name y py, .Name z pz] k tpos] e pos.line φ.env = pure false := by rfl) : JX φ (.Assign [.Tuple [.Name x px, .Name y py, .Name z pz] k tpos] e pos) ρ os Q :=
  JX_unpack (xs := [x, y, z]) (stores_name (stores_name (stores_name .nil))) rfl rfl hk (h.mono fun d os' ⟨d1, d2, d3, e, q⟩ => ⟨[d1, d2, d3], e, rfl, q⟩) hs hw

theorem ofString_inj {a b : String} : Str.ofString a = Str.ofString b ↔ a = b := by
  constructor
  · intro h
    rw [Str.ofString_eq_toList, Str.ofString_eq_toList] at h
    injection h with h
    have h := congrArg Array.toList h
    simp only at h
    have : a.toList = b.toList := (List.map_inj_right (fun x y e => Char.ext (UInt32.toNat_inj.mp e))).mp h
    exact String.toList_inj.mp this
  · rintro rfl; rfl
end
end

section

/-- a call of fv with data ds ends with a datum of which P holds; the ledger O is kept, I grows -/
structure Tells (c : Cx) (k : Nat) (fv : Value) (ds : List D) (P : D → Prop) : Prop where
  run : ∀ φ : Fx, φ.c = c → k ≤ φ.k → Fm φ → ∀ m O I s vs (Qv : Value → Shared → Prop), St φ.h₀ φ.L O I m s → Reps φ.c.base I vs ds →
    (∀ v d I' h' tk', P d → St φ.h₀ φ.L O I' m (Sh s h' tk') → Inc I I' → Rep φ.c.base I' v d → Qv v (Sh s h' tk')) →
    wpAny (model φ.c.prog φ.c.w) φ.A (call fv vs) Qv (fun _ _ => False) s
theorem Tells.mono {c : Cx} {k k' : Nat} {fv : Value} {ds : List D} {P P' : D → Prop} (h : Tells c k fv ds P) (hk : k ≤ k') (hp : ∀ d, P d → P' d) : Tells c k' fv ds P' :=
  ⟨fun φ e hk' F m O I s vs Qv S r q => h.run φ e (Nat.le_trans hk hk') F m O I s vs Qv S r fun v d I' h' tk' p => q v d I' h' tk' (hp d p)⟩

section
variable {φ : Fx} {ρ : Rho} {os : Own} {Q : D → Own → Prop}

theorem JE_callK {x : Str} {fv : Value} {p pos : Pos} {e : Expr} {es : List Expr} (hn : nsIn φ.c.K mainGlobals x = some (some fv)) (hkeep : keepIn φ.c.K fv = true) (hx : φ.env.kindOf x = some .globalImplicit) (hg : φ.env.globals = mainGlobals) (hk : φ.env.scope.kind = .function) (hd : (x == ("__debug__" : Str)) = false)
    (h : JEs φ (e :: es) ρ os (fun ds os' => ∃ P, Tells φ.c φ.k fv ds P ∧ ∀ d, P d → Q d os'))
    (he : starEach (e :: es) φ.env = (false, eval e φ.env) :: starEach es φ.env := by rfl) (hp : ((backTo pos (starEach es φ.env)).any fun x => x.1) = false := by rfl) : JE φ (.Call (.Name x p) (e :: es) [] pos) ρ os Q :=
  ⟨fun F m oa O I s Qv S G q => by
    refine Call_ (nameG_K S.fr F.kin (topRead_of F.top) hn ?_ hg hk hx hd) rfl
    refine callWith_K F.kin hkeep (h.run F pos m oa O I s _ S G fun vs ds os' O' I' h' tk' ⟨P, T, j⟩ S' o' e' i' r' => ⟨F.kin.keeps S'.fr.keep, ?_⟩) he hp
    exact T.run φ rfl (Nat.le_refl _) F m O' I' _ vs _ S' r' fun v d I'' h'' tk'' pd S'' i'' r'' => q v d os' O' I'' h'' tk'' (j d pd) S'' (o'.mono i'') e' (i'.trans i'') r''⟩

theorem name_built {x : Str} {v : Value} {p : Pos} (F : Fm φ) {m : Str → Option Value} {O I : Led} {s : Shared} (S : St φ.h₀ φ.L O I m s) (hn : nsIn φ.c.K mainGlobals x = some none) (hv : bootBuiltins x = some v) (hnm : x ≠ ("__name__" : Str)) (hx : φ.env.kindOf x = some .globalImplicit) (hg : φ.env.globals = mainGlobals) (hb : φ.env.builtins = builtinsNs) (hk : φ.env.scope.kind = .function) (hd : (x == ("__debug__" : Str)) = false)
    {Q : Value → Shared → Prop} {E : Value → Shared → Prop} (h : Q v s) : wpAny (model φ.c.prog φ.c.w) φ.A (eval (.Name x p) φ.env) Q E s :=
  Name_function_global hk hx (loadGlobal_builtin (env := φ.env) (by rw [hg]; exact (F.top.keeps S.fr.keep).g) (mg_none_of F.kin F.top.g hn) (by rw [hb]; exact (F.top.keeps S.fr.keep).b) ((F.top.builtins x hnm).trans hv) h) hd

theorem JE_callB {x : Str} {id : String} {p pos : Pos} {e : Expr} {es : List Expr} (hn : nsIn φ.c.K mainGlobals x = some none) (hv : bootBuiltins x = some (.builtin id)) (hnm : x ≠ ("__name__" : Str)) (hx : φ.env.kindOf x = some .globalImplicit) (hg : φ.env.globals = mainGlobals) (hb : φ.env.builtins = builtinsNs) (hk : φ.env.scope.kind = .function) (hd : (x == ("__debug__" : Str)) = false)
    (h : JEs φ (e :: es) ρ os (fun ds os' => ∃ P, Tells φ.c φ.k (.builtin id) ds P ∧ ∀ d, P d → Q d os'))
    (he : starEach (e :: es) φ.env = (false, eval e φ.env) :: starEach es φ.env := by rfl) (hp : ((backTo pos (starEach es φ.env)).any fun x => x.1) = false := by rfl) : JE φ (.Call (.Name x p) (e :: es) [] pos) ρ os Q :=
  ⟨fun F m oa O I s Qv S G q => by
    refine Call_ (name_built F S hn hv hnm hx hg hb hk hd ?_) rfl
    refine PyProof.Rows.callWith_builtin1 (h.run F pos m oa O I s _ S G fun vs ds os' O' I' h' tk' ⟨P, T, j⟩ S' o' e' i' r' => ?_) he hp
    exact T.run φ rfl (Nat.le_refl _) F m O' I' _ vs _ S' r' fun v d I'' h'' tk'' pd S'' i'' r'' => q v d os' O' I'' h'' tk'' (j d pd) S'' (o'.mono i'') e' (i'.trans i'') r''⟩
theorem JE_callT {x : Str} {T : String} {p pos : Pos} {e : Expr} {es : List Expr} (hn : nsIn φ.c.K mainGlobals x = some none) (hv : bootBuiltins x = some (.type T)) (hnm : x ≠ ("__name__" : Str)) (hx : φ.env.kindOf x = some .globalImplicit) (hg : φ.env.globals = mainGlobals) (hb : φ.env.builtins = builtinsNs) (hk : φ.env.scope.kind = .function) (hd : (x == ("__debug__" : Str)) = false)
    (h : JEs φ (e :: es) ρ os (fun ds os' => ∃ P, Tells φ.c φ.k (.type T) ds P ∧ ∀ d, P d → Q d os'))
    (he : starEach (e :: es) φ.env = (false, eval e φ.env) :: starEach es φ.env := by rfl) (hp : ((backTo pos (starEach es φ.env)).any fun x => x.1) = false := by rfl) : JE φ (.Call (.Name x p) (e :: es) [] pos) ρ os Q :=
  ⟨fun F m oa O I s Qv S G q => by
    refine Call_ (name_built F S hn hv hnm hx hg hb hk hd ?_) rfl
    refine PyProof.Rows.callWith_type1 (h.run F pos m oa O I s _ S G fun vs ds os' O' I' h' tk' ⟨P, T, j⟩ S' o' e' i' r' => ?_) he hp
    exact T.run φ rfl (Nat.le_refl _) F m O' I' _ vs _ S' r' fun v d I'' h'' tk'' pd S'' i'' r'' => q v d os' O' I'' h'' tk'' (j d pd) S'' (o'.mono i'') e' (i'.trans i'') r''⟩
end

section
variable {φ : Fx} {ρ : Rho} {os : Own} {Q : D → Own → Prop} {p pos : Pos} {e e2 : Expr}
theorem JE_abs (hn : nsIn φ.c.K mainGlobals ("abs" : Str) = some none) (hx : φ.env.kindOf ("abs" : Str) = some .globalImplicit) (hg : φ.env.globals = mainGlobals) (hb : φ.env.builtins = builtinsNs) (hk : φ.env.scope.kind = .function)
    (h : JEs φ [e] ρ os (fun ds os' => ∃ P, Tells φ.c φ.k (.builtin "abs") ds P ∧ ∀ d, P d → Q d os')) (he : starEach [e] φ.env = (false, eval e φ.env) :: starEach [] φ.env := by rfl) : JE φ (.Call (.Name ("abs" : Str) p) [e] [] pos) ρ os Q :=
  JE_callB hn PyProof.Rows.Boot.«abs» (by decide) hx hg hb hk (by decide) h he rfl
theorem JE_len (hn : nsIn φ.c.K mainGlobals ("len" : Str) = some none) (hx : φ.env.kindOf ("len" : Str) = some .globalImplicit) (hg : φ.env.globals = mainGlobals) (hb : φ.env.builtins = builtinsNs) (hk : φ.env.scope.kind = .function)
    (h : JEs φ [e] ρ os (fun ds os' => ∃ P, Tells φ.c φ.k (.builtin "len") ds P ∧ ∀ d, P d → Q d os')) (he : starEach [e] φ.env = (false, eval e φ.env) :: starEach [] φ.env := by rfl) : JE φ (.Call (.Name ("len" : Str) p) [e] [] pos) ρ os Q :=
  JE_callB hn PyProof.Rows.Boot.«len» (by decide) hx hg hb hk (by decide) h he rfl
theorem JE_listof (hn : nsIn φ.c.K mainGlobals ("list" : Str) = some none) (hx : φ.env.kindOf ("list" : Str) = some .globalImplicit) (hg : φ.env.globals = mainGlobals) (hb : φ.env.builtins = builtinsNs) (hk : φ.env.scope.kind = .function)
    (h : JEs φ [e] ρ os (fun ds os' => ∃ P, Tells φ.c φ.k (.type "list") ds P ∧ ∀ d, P d → Q d os')) (he : starEach [e] φ.env = (false, eval e φ.env) :: starEach [] φ.env := by rfl) : JE φ (.Call (.Name ("list" : Str) p) [e] [] pos) ρ os Q :=
  JE_callT hn PyProof.Rows.Boot.«list» (by decide) hx hg hb hk (by decide) h he rfl
theorem JE_min (hn : nsIn φ.c.K mainGlobals ("min" : Str) = some none) (hx : φ.env.kindOf ("min" : Str) = some .globalImplicit) (hg : φ.env.globals = mainGlobals) (hb : φ.env.builtins = builtinsNs) (hk : φ.env.scope.kind = .function)
    (h : JEs φ [e, e2] ρ os (fun ds os' => ∃ P, Tells φ.c φ.k (.builtin "min") ds P ∧ ∀ d, P d → Q d os')) (he : starEach [e, e2] φ.env = (false, eval e φ.env) :: starEach [e2] φ.env := by rfl) (hp : ((backTo pos (starEach [e2] φ.env)).any fun x => x.1) = false := by rfl) : JE φ (.Call (.Name ("min" : Str) p) [e, e2] [] pos) ρ os Q :=
  JE_callB hn PyProof.Rows.Boot.«min» (by decide) hx hg hb hk (by decide) h he hp
theorem JE_max (hn : nsIn φ.c.K mainGlobals ("max" : Str) = some none) (hx : φ.env.kindOf ("max" : Str) = some .globalImplicit) (hg : φ.env.globals = mainGlobals) (hb : φ.env.builtins = builtinsNs) (hk : φ.env.scope.kind = .function)
    (h : JEs φ [e, e2] ρ os (fun ds os' => ∃ P, Tells φ.c φ.k (.builtin "max") ds P ∧ ∀ d, P d → Q d os')) (he : starEach [e, e2] φ.env = (false, eval e φ.env) :: starEach [e2] φ.env := by rfl) (hp : ((backTo pos (starEach [e2] φ.env)).any fun x => x.1) = false := by rfl) : JE φ (.Call (.Name ("max" : Str) p) [e, e2] [] pos) ρ os Q :=
  JE_callB hn PyProof.Rows.Boot.«max» (by decide) hx hg hb hk (by decide) h he hp
end

section
variable {c : Cx} {k : Nat}
theorem t_abs {a : Int} : Tells c k (.builtin "abs") [.int a] (fun d => d = .int (if a < 0 then -a else a)) :=
  ⟨fun φ e hk F m O I s vs Qv S r q => by
    cases r with
    | cons r1 r2 =>
      cases r2; cases r1
      exact call_abs_int fun u tk => q _ _ I s.heap tk rfl (S.toks rfl) Inc.refl (.int _ u)⟩
theorem t_min {a b : Int} : Tells c k (.builtin "min") [.int a, .int b] (fun d => d = .int (if b < a then b else a)) :=
  ⟨fun φ e hk F m O I s vs Qv S r q => by
    obtain ⟨v, w, rfl, r1, r2⟩ := r.two
    cases r1; cases r2
    exact min_two_N F.handled S.fr S.news fun h' tk F' N' => q _ _ I h' tk rfl (S.of (s' := Sh s h' tk) F' N') Inc.refl (.int _ _)⟩
theorem t_max {a b : Int} : Tells c k (.builtin "max") [.int a, .int b] (fun d => d = .int (if b > a then b else a)) :=
  ⟨fun φ e hk F m O I s vs Qv S r q => by
    obtain ⟨v, w, rfl, r1, r2⟩ := r.two
    cases r1; cases r2
    exact max_two_N F.handled S.fr S.news fun h' tk F' N' => q _ _ I h' tk rfl (S.of (s' := Sh s h' tk) F' N') Inc.refl (.int _ _)⟩
theorem t_lenT {l : List D} (h : l.length ≤ 100) : Tells c k (.builtin "len") [.tup l] (fun d => d = .int (l.length : Int)) :=
  ⟨fun φ e hk F m O I s vs Qv S r q => by
    cases r with
    | cons r1 r2 =>
      cases r2
      cases r1 with
      | tup a vs n ds m' r =>
        have el : (vs.toArray.size : Int) = (l.length : Int) := by simp [r.length]
        refine len_tuple (items := vs.toArray) ⟨_, S.mem F m', rfl, n, rfl⟩ (by rw [el]; omega) ?_
        rw [el]
        exact q _ _ I s.heap _ rfl (S.toks rfl) Inc.refl (.int _ _)⟩
theorem t_len {l : List D} (h : l.length ≤ 100) : Tells c k (.builtin "len") [.lst l] (fun d => d = .int (l.length : Int)) :=
  ⟨fun φ e hk F m O I s vs Qv S r q => by
    cases r with
    | cons r1 r2 =>
      cases r2
      cases r1 with
      | lst a vs n ds m' r =>
        have el : (vs.toArray.size : Int) = (l.length : Int) := by simp [r.length]
        refine call_len_list (items := vs.toArray) ⟨_, S.mem F m', rfl, n, rfl⟩ (by rw [el]; omega) ?_
        rw [el]
        exact q _ _ I s.heap _ rfl (S.toks rfl) Inc.refl (.int _ _)⟩
theorem t_list {l : List D} (h : l.length ≤ 100) : Tells c k (.type "list") [.lst l] (fun d => d = .lst l) :=
  ⟨fun φ e hk F m O I s vs Qv S r q => by
    cases r with
    | cons r1 r2 =>
      cases r2
      cases r1 with
      | lst a vs n ds m' r =>
        refine list_copyK S.fr S.news (items := vs.toArray) ⟨_, S.mem F m', rfl, n, rfl⟩ (fun D' c' h' F' N' lt => ?_) (by simp only [List.size_toArray, r.length]; exact Nat.le_trans h (by decide))
        have S' : St φ.h₀ φ.L O ((D', lobj vs c') :: I) m (Sh s h' s.toks) := by
          refine ⟨F', fun p hp => N' p ?_, fun p hp y hy => ?_⟩
          · rcases List.mem_append.mp hp with hp | hp
            · exact List.mem_cons_of_mem _ (List.mem_append_left _ hp)
            · rcases List.mem_cons.mp hp with rfl | hp
              · exact List.mem_cons_self
              · exact List.mem_cons_of_mem _ (List.mem_append_right _ hp)
          · rcases List.mem_cons.mp hy with rfl | hy
            · exact Nat.ne_of_lt (lt p (List.mem_append_left _ hp))
            · exact S.off p hp y hy
        exact q _ _ _ h' s.toks rfl S' Inc.cons (.lst _ vs c' _ (.inl List.mem_cons_self) (r.mono Inc.cons))⟩
end

/-- the def at f, as its object stands -/
structure IsDef (c : Cx) (f : Addr) (qual : Str) (body : List Stmt) (scope : Scope) (cdv : Value) (names : List Str) : Prop where
  obj : ∃ name params dV kV doc pm ct oc an od osl, c.K.lookup f = some ⟨oc, od, .func (fnOf name qual params body scope dV kV doc pm an cdv ct), osl⟩ ∧
    ∀ vs : List Value, vs.length = names.length → bindArgs (fnOf name qual params body scope dV kV doc pm an cdv ct) ⟨vs, []⟩ = pure (names.zip vs)
  code : codeIn c.K cdv qual = true
  loc : ∀ x ∈ names, scope.names.lookup x = some .local
  nodup : names.Nodup
  co : scope.isCoroutine = false
  gen : scope.isGenerator = false
  kind : scope.kind = .function
  cell : ∀ x ∈ scope.names, x.2 ≠ .cell
  dbg : scope.names.lookup ("__debug__" : Str) ≠ some .local

theorem isDef {c : Cx} {f : Addr} {name qual : Str} {params : Arguments} {body : List Stmt} {scope : Scope} {dV kV doc pm cdv ct oc : Value} {an od : Option Addr} {osl : Array (Option Value)} {names : List Str}
    (ho : c.K.lookup f = some ⟨oc, od, .func (fnOf name qual params body scope dV kV doc pm an cdv ct), osl⟩) (hb : ∀ vs : List Value, vs.length = names.length → bindArgs (fnOf name qual params body scope dV kV doc pm an cdv ct) ⟨vs, []⟩ = pure (names.zip vs))
    (code : codeIn c.K cdv qual = true) (loc : ∀ x ∈ names, scope.names.lookup x = some .local) (nodup : names.Nodup) (co : scope.isCoroutine = false) (gen : scope.isGenerator = false) (kind : scope.kind = .function) (cell : ∀ x ∈ scope.names, x.2 ≠ .cell)
    (dbg : scope.names.lookup ("__debug__" : Str) ≠ some .local) : IsDef c f qual body scope cdv names := ⟨⟨_, _, _, _, _, _, _, _, _, _, _, ho, hb⟩, code, loc, nodup, co, gen, kind, cell, dbg⟩

abbrev fxOf (φ : Fx) (qual : Str) (scope : Scope) (f : Addr) (cdv : Value) (g : Heap) (L : Addr) (O : Led) (on : Str) (k : Nat) : Fx :=
  { c := φ.c, A := φ.A.deeper (envOf qual scope L f cdv), fe := envOf qual scope L f cdv, env := envOf qual scope L f cdv, h₀ := g, L := L, O₀ := O, on := on, k := k }
theorem fn_of {c : Cx} {f : Addr} {qual : Str} {body : List Stmt} {scope : Scope} {cdv : Value} {names : List Str} (H : IsDef c f qual body scope cdv names) (φ : Fx) (g : Heap) (L : Addr) (O : Led) (on : Str) (k : Nat) : Fn (fxOf φ qual scope f cdv g L O on k) :=
  ⟨⟨qual, f, cdv, rfl⟩, H.kind, rfl, H.dbg⟩

theorem enter {φ : Fx} (F : Fm φ) {f : Addr} {qual : Str} {body : List Stmt} {scope : Scope} {cdv : Value} {names : List Str} (H : IsDef φ.c f qual body scope cdv names) {m : Str → Option Value} {O I : Led} {s : Shared} {vs : List Value} {Qv : Value → Shared → Prop} {k : Nat}
    (S : St φ.h₀ φ.L O I m s) (hk : k + 1 ≤ φ.k) (hl : vs.length = names.length)
    (h : ∀ g L' h₁ tk₁, St g L' O I (fun y => (names.zip vs).reverse.lookup y) (Sh s h₁ tk₁) → (∀ O₀ on, Fm (fxOf φ qual scope f cdv g L' O₀ on k)) →
      wpAny (model φ.c.prog φ.c.w) (φ.A.deeper (envOf qual scope L' f cdv)) (execs body (envOf qual scope L' f cdv))
        (fun fl s' => ∃ m' O' I', St g L' O' I' m' s' ∧ (St φ.h₀ φ.L O' I' m s' → Qv (match fl with | .ret v => v | _ => .none) s')) (fun _ _ => False) (Sh s h₁ tk₁)) :
    wpAny (model φ.c.prog φ.c.w) φ.A (call (.ref f) vs) Qv (fun _ _ => False) s := by
  obtain ⟨A₀, outer, B, hA⟩ := F.below
  obtain ⟨name, params, dV, kV, doc, pm, ct, oc, an, od, osl, ho, hb⟩ := H.obj
  have hd := F.depth
  have hu := F.units
  refine wpAny_call (code_def B S.fr F.kin S.news F.top hA F.frame F.kind ho H.code (by omega) (BindsTo.of_eq (hb vs hl)) (fun y hy => H.loc _ (List.of_mem_zip hy).1) (fun g L' h₁ FG F' N' B' X' T' => ?_) H.co H.gen H.kind H.cell)
  have Fm' : ∀ O₀ on, Fm (fxOf φ qual scope f cdv g L' O₀ on k) := fun O₀ on => ⟨⟨φ.A, φ.fe :: outer, B', by show Option.map _ φ.A.frames = _; rw [hA]; rfl⟩, X', T', rfl, H.kind, F.handled, by show φ.A.depth + 1 + k < _; omega, by show φ.A.units + 3 + 16 * k + 100 < _; omega⟩
  refine wpAny_mono (h g L' h₁ _ ⟨F', N', S.off⟩ Fm') (fun fl s' ⟨m', O', I', S', q⟩ => ?_) fun _ _ e => e.elim
  exact leaveK_ S'.fr S'.news fun F'' N'' => q ⟨F'', N'', S'.off⟩

theorem lookup_rev {α : Type} : ∀ {l : List (Str × α)} {x : Str} {v : α}, (l.map (·.1)).Nodup → (x, v) ∈ l → l.reverse.lookup x = some v
  | p :: l, x, v, hn, hm => by
    have look : ∀ (l₁ l₂ : List (Str × α)) (y : Str), (l₁ ++ l₂).lookup y = match l₁.lookup y with | some a => some a | none => l₂.lookup y := by
      intro l₁
      induction l₁ with
      | nil => intro l₂ y; rfl
      | cons q l₁ ih =>
        intro l₂ y
        obtain ⟨z, b⟩ := q
        rw [List.cons_append, List.lookup_cons, List.lookup_cons]
        cases y == z with
        | true => rfl
        | false => exact ih l₂ y
    rw [List.map_cons, List.nodup_cons] at hn
    rw [List.reverse_cons, look]
    rcases List.mem_cons.mp hm with e | hm
    · subst e
      have : (l.reverse).lookup x = none := by
        rw [List.lookup_eq_none_iff]
        intro q hq
        have hq' : q.1 ∈ l.map (·.1) := List.mem_map.mpr ⟨q, List.mem_reverse.mp hq, rfl⟩
        simp only [bne_iff_ne, ne_eq]
        intro e
        exact hn.1 (by rw [e]; exact hq')
      rw [this]
      simp
    · rw [lookup_rev hn.2 hm]
theorem zip_at {b : Heap} {I : Led} : ∀ {names : List Str} {vs : List Value} {ds : List D} {x : Str} {d : D}, Reps b I vs ds → (names.zip ds).lookup x = some d → ∃ v, (x, v) ∈ names.zip vs ∧ Rep b I v d
  | [], vs, ds, x, d, r, h => by simp at h
  | n :: names, _, _, x, d, .nil, h => by simp at h
  | n :: names, _, _, x, d, .cons (v := v) (d := e) (vs := vs) (ds := ds) r t, h => by
    rw [List.zip_cons_cons, List.lookup_cons] at h
    by_cases q : x = n
    · subst q
      simp at h
      subst h
      exact ⟨v, by simp, r⟩
    · have : (x == n) = false := by simpa using q
      rw [this] at h
      obtain ⟨u, hm, hr⟩ := zip_at t h
      exact ⟨u, by rw [List.zip_cons_cons]; exact List.mem_cons_of_mem _ hm, hr⟩
theorem zip_keys {α : Type} : ∀ {names : List Str} {vs : List α}, vs.length = names.length → (names.zip vs).map (·.1) = names
  | [], [], _ => rfl
  | n :: names, v :: vs, h => by simp [zip_keys (names := names) (vs := vs) (by simpa using h)]
  | [], _ :: _, h => by simp at h
  | _ :: _, [], h => by simp at h

theorem good_args {φ : Fx} {names : List Str} (hloc : ∀ x ∈ names, φ.env.kindOf x = some .local) (hnd : names.Nodup) {O I : Led} {vs : List Value} {ds : List D} (r : Reps φ.c.base I vs ds) (hl : vs.length = names.length) (h0 : O = φ.O₀) (oa : Addr) :
    GoodS φ (fun y => (names.zip vs).reverse.lookup y) oa O I (names.zip ds) none := by
  refine ⟨fun x d h => ?_, h0, fun e => nomatch e⟩
  obtain ⟨v, hm, hr⟩ := zip_at r h
  exact ⟨hloc x (List.of_mem_zip hm).1, v, lookup_rev (by rw [zip_keys hl]; exact hnd) hm, hr⟩

theorem tells_def {c : Cx} {k : Nat} {f : Addr} {qual : Str} {body : List Stmt} {scope : Scope} {cdv : Value} {names : List Str} {ds : List D} {P : D → Prop} (H : IsDef c f qual body scope cdv names) (hl : ds.length = names.length) (on : Str)
    (h : ∀ (A : Around) (g : Heap) (L : Addr) (O₀ : Led), JS { c := c, A := A, fe := envOf qual scope L f cdv, env := envOf qual scope L f cdv, h₀ := g, L := L, O₀ := O₀, on := on, k := k } body (names.zip ds) none (fun fd ρ os => os = none ∧ ∃ d, P d ∧ (fd = .ret d ∨ (fd = .next ∧ d = .none)))) :
    Tells c (k + 1) (.ref f) ds P :=
  ⟨fun φ ec hk F m O I s vs Qv S r q => by
    subst ec
    have hlv : vs.length = names.length := r.length.trans hl
    refine enter F H (k := k) S hk hlv fun g L' h₁ tk₁ S' Fm' => ?_
    refine (h _ g L' O).run (fn_of H φ g L' O on k) (Fm' O on) _ 0 O I _ _ S' (good_args (φ := fxOf φ qual scope f cdv g L' O on k) H.loc H.nodup r hlv rfl 0) fun fl fd ρ' os' m' oa' O' I' h' tk' ⟨eo, d, pd, hd⟩ S₂ G₂ i₂ fr₂ kp₂ => ?_
    subst eo
    have eO : O' = O := G₂.own
    subst eO
    refine ⟨m', O', I', S₂, fun S₃ => ?_⟩
    rcases hd with rfl | ⟨rfl, rfl⟩
    · cases fr₂ with
      | ret r₂ => exact q _ d I' h' tk' pd S₃ i₂ r₂
    · cases fr₂
      exact q _ .none I' h' tk' pd S₃ i₂ .none⟩
end

section

section
variable {φ : Fx} {ρ : Rho} {os : Own} {Q : D → Own → Prop}

/-- the item of a tuple or list at a place from its begin -/
def ItemOf (a i r : D) : Prop := ∃ (l : List D) (k : Int), (a = .tup l ∨ a = .lst l) ∧ i = .int k ∧ 0 ≤ k ∧ k < 1000 ∧ l[k.toNat]? = some r
theorem item_at {φ : Fx} (F : Fm φ) {m : Str → Option Value} {O I : Led} {s : Shared} (S : St φ.h₀ φ.L O I m s) {v w : Value} {a i r : D} (ra : Rep φ.c.base I v a) (ri : Rep φ.c.base I w i) (h : ItemOf a i r) {value slice : Expr}
    (hs : ∀ (x : Addr) (k : Int) (u : Tok), subscripted slice false (.ref x) (.int k u) = operate [.ref x, .int k u] (getItem (.ref x) (.int k u))) {Qv : Value → Shared → Prop} {E : Value → Shared → Prop} (q : ∀ z, Rep φ.c.base I z r → Qv z s) :
    wpAny (model φ.c.prog φ.c.w) φ.A (subscriptTail value slice v w) Qv E s := by
  obtain ⟨l, k, ha, rfl, h0, h1, hk⟩ := h
  cases ri
  rename_i t
  rcases ha with rfl | rfl
  · cases ra with
    | tup a vs n ds m' rr =>
      obtain ⟨z, hz, rz⟩ := rr.get hk
      have hlt : k.toNat < vs.length := (List.getElem?_eq_some_iff.mp hz).1
      refine item_tupleT (l := vs) (j := k.toNat) (x := z) ⟨_, S.mem F m', rfl, n, rfl⟩ (by omega) (by omega) ?_ hz (q z rz) (hs _ _ _)
      unfold seqIndex?
      have e1 : ¬ (k < 0) := by omega
      simp only [e1, if_false]
      have e2 : (decide (0 ≤ k) && decide (k < (vs.length : Int))) = true := by simp; omega
      first
        | (simp only [e2, if_true]; done)
        | (rw [if_pos (by omega)])
        | (split <;> first | rfl | (exfalso; omega))
  · cases ra with
    | lst a vs n ds m' rr =>
      obtain ⟨z, hz, rz⟩ := rr.get hk
      have hl : s.heap.IsList a vs.toArray := ⟨_, S.mem F m', rfl, n, rfl⟩
      exact tail_any hl.typeIs slot_list_getitem.lookup (wpAny_getItem_list hl h0 (by omega) (by simpa using hz) (q z rz)) (hs _ _ _)
theorem JE_sub {value slice : Expr} {pos : Pos} (h : JE φ value ρ os (fun a os₁ => JE φ slice ρ os₁ (fun i os₂ => ∃ r, ItemOf a i r ∧ Q r os₂)))
    (hs : ∀ (x : Addr) (k : Int) (u : Tok), subscripted slice false (.ref x) (.int k u) = operate [.ref x, .int k u] (getItem (.ref x) (.int k u)) := by intros; rfl) : JE φ (.Subscript value slice pos) ρ os Q :=
  ⟨fun F m oa O I s Qv S G q => Subscript_ (h.run F m oa O I s _ S G fun v a os₁ O₁ I₁ h₁ tk₁ j S₁ o₁ e₁ i₁ r₁ =>
    j.run F m oa O₁ I₁ _ _ S₁ (G.next i₁ o₁ e₁) fun u b os₂ O₂ I₂ h₂ tk₂ ⟨x, X, q₂⟩ S₂ o₂ e₂ i₂ r₂ =>
      item_at F S₂ (r₁.mono i₂) r₂ X hs fun z rz => q z x os₂ O₂ I₂ h₂ tk₂ q₂ S₂ o₂ (e₂.trans e₁) (i₁.trans i₂) rz)⟩
/-- an item of the frame's own list -/
theorem JE_subOwn {x : Str} {p pos : Pos} {slice : Expr} {ds : List D} (hx : x = φ.on) (h : JE φ slice ρ (some ds) (fun i os₂ => ∃ ds₂ r, os₂ = some ds₂ ∧ ItemOf (.lst ds₂) i r ∧ Q r os₂))
    (hs : ∀ (x : Addr) (k : Int) (u : Tok), subscripted slice false (.ref x) (.int k u) = operate [.ref x, .int k u] (getItem (.ref x) (.int k u)) := by intros; rfl) : JE φ (.Subscript (.Name x p) slice pos) ρ (some ds) Q :=
  ⟨fun F m oa O I s Qv S G q => by
    subst hx
    refine Subscript_ ?_
    refine (G.on rfl) O I s G.own.sub S p _ _ ?_
    refine h.run F m oa O I s _ S G fun u b os₂ O₂ I₂ h₂ tk₂ ⟨ds₂, r, e, X, q₂⟩ S₂ o₂ e₂ i₂ r₂ => ?_
    subst e
    obtain ⟨vs, n, eO, rr, off⟩ := id o₂
    obtain ⟨l, k, ha, rfl, h0, h1, hk⟩ := X
    cases r₂
    rcases ha with ha | ha
    · cases ha
    cases ha
    obtain ⟨z, hz, rz⟩ := rr.get hk
    have hl : h₂.IsList oa vs.toArray := ⟨_, (S₂.news (oa, lobj vs n) (List.mem_append_left _ (by rw [eO]; exact List.mem_cons_self))).1, rfl, n, rfl⟩
    exact tail_any (s := Sh s h₂ tk₂) hl.typeIs slot_list_getitem.lookup (wpAny_getItem_list hl h0 (by omega) (by simpa using hz) (q z r _ O₂ I₂ h₂ tk₂ q₂ S₂ o₂ e₂ i₂ rz)) (hs _ _ _)⟩

/-- a slice from a place on, or up to a place -/
theorem slice_core {φ : Fx} (F : Fm φ) {m : Str → Option Value} {O I : Led} {s : Shared} (S : St φ.h₀ φ.L O I m s) {o1 : Obj} {zs : Array Value} {ds : List D} (hz : Reps φ.c.base I zs.toList ds) (hf : o1.isFreed = false) :
    St φ.h₀ φ.L O ((s.heap.objs.size + 1, lobj zs.toList 0) :: I) m (Sh s ((s.heap.push o1).push { cls := .type "list", data := .seq zs }) s.toks) := by
  have F1 := S.fr.push o1
  have N1 := S.news.push S.fr o1 hf
  have F2 := F1.push { cls := .type "list", data := .seq zs }
  have N2 := N1.push F1 { cls := .type "list", data := .seq zs } rfl
  have es : (s.heap.push o1).objs.size = s.heap.objs.size + 1 := Heap.size_push ..
  rw [es] at N2
  have lt : ∀ p ∈ O ++ I, p.1 < s.heap.objs.size := fun p hp => Heap.lt_size (S.news p hp).1
  refine ⟨F2, fun p hp => ?_, fun p hp y hy => ?_⟩
  · rcases List.mem_append.mp hp with hp | hp
    · exact N2 p (List.mem_cons_of_mem _ (List.mem_cons_of_mem _ (List.mem_append_left _ hp)))
    · rcases List.mem_cons.mp hp with rfl | hp
      · have := N2 _ List.mem_cons_self
        simpa using this
      · exact N2 p (List.mem_cons_of_mem _ (List.mem_cons_of_mem _ (List.mem_append_right _ hp)))
  · rcases List.mem_cons.mp hy with rfl | hy
    · exact Nat.ne_of_lt (Nat.lt_succ_of_lt (lt p (List.mem_append_left _ hp)))
    · exact S.off p hp y hy
theorem JE_upto {value e : Expr} {p pos : Pos} (h : JE φ value ρ os (fun a os₁ => JE φ e ρ os₁ (fun i os₂ => ∃ l k, a = .lst l ∧ i = .int k ∧ 0 ≤ k ∧ l.length ≤ 100 ∧ Q (.lst (l.take k.toNat)) os₂)))
    (ht : ∀ o r, letTemporaryGo value o r = pure () := by intros; rfl) : JE φ (.Subscript value (.Slice none (some e) none p) pos) ρ os Q :=
  ⟨fun F m oa O I s Qv S G q => wpAny_Subscript_list_slice (h.run F m oa O I s _ S G fun v a os₁ O₁ I₁ h₁ tk₁ j S₁ o₁ e₁ i₁ r₁ =>
    wpAny_evalPart_none (wpAny_evalPart_some (j.run F m oa O₁ I₁ _ _ S₁ (G.next i₁ o₁ e₁) fun u b os₂ O₂ I₂ h₂ tk₂ ⟨l, k, ea, ei, h0, hl, q₂⟩ S₂ o₂ e₂ i₂ r₂ => by
      subst ea; subst ei
      have ra := r₁.mono i₂
      cases r₂
      rename_i tt
      cases ra with
      | lst a vs n ds m' rr =>
        refine ⟨a, vs.toArray, none, some k, rfl, ⟨_, S₂.mem F m', rfl, n, rfl⟩, by simp only [List.size_toArray, rr.length]; exact Nat.le_trans hl (by decide), .none, .int _ _, ?_⟩
        have ez : slicePick vs.toArray none (some k) none = (vs.take k.toNat).toArray := by
          rw [kms_pick_eq]
          congr 1
          unfold kms_pick kms_lo kms_hi
          simp only [if_neg (by omega : ¬ k < 0), List.drop_zero, Nat.sub_zero]
          rw [List.take_eq_take_iff]
          omega
        rw [ez]
        have rz : Reps φ.c.base I₂ (vs.take k.toNat).toArray.toList (l.take k.toNat) := by simpa using rr.take k.toNat
        have S₃ := slice_core F (s := Sh s h₂ tk₂) S₂ (o1 := { cls := .type "slice", data := .fields #[.none, .int k tt, .none] }) rz rfl
        exact q _ _ os₂ O₂ _ _ tk₂ q₂ S₃ (o₂.mono Inc.cons) (e₂.trans e₁) ((i₁.trans i₂).trans Inc.cons) (.lst _ _ 0 _ (.inl List.mem_cons_self) (rz.mono Inc.cons)))) ) ht⟩
theorem JE_from {value e : Expr} {p pos : Pos} (h : JE φ value ρ os (fun a os₁ => JE φ e ρ os₁ (fun i os₂ => ∃ l k, a = .lst l ∧ i = .int k ∧ 0 ≤ k ∧ l.length ≤ 100 ∧ Q (.lst (l.drop k.toNat)) os₂)))
    (ht : ∀ o r, letTemporaryGo value o r = pure () := by intros; rfl) : JE φ (.Subscript value (.Slice (some e) none none p) pos) ρ os Q := by
  refine ⟨fun F m oa O I s Qv S G q => wpAny_Subscript_list_slice (h.run F m oa O I s _ S G fun v a os₁ O₁ I₁ h₁ tk₁ j S₁ o₁ e₁ i₁ r₁ => ?_) ht⟩
  refine wpAny_evalPart_some (j.run F m oa O₁ I₁ _ _ S₁ (G.next i₁ o₁ e₁) fun u b os₂ O₂ I₂ h₂ tk₂ qq S₂ o₂ e₂ i₂ r₂ => ?_)
  obtain ⟨l, k, ea, ei, h0, hl, q₂⟩ := qq
  refine wpAny_evalPart_none ?_
  subst ea; subst ei
  have ra := r₁.mono i₂
  cases r₂
  rename_i tt
  cases ra with
  | lst a vs n ds m' rr =>
    refine ⟨a, vs.toArray, some k, none, rfl, ⟨_, S₂.mem F m', rfl, n, rfl⟩, by simp only [List.size_toArray, rr.length]; exact Nat.le_trans hl (by decide), .int _ _, .none, ?_⟩
    have ez : slicePick vs.toArray (some k) none none = (vs.drop k.toNat).toArray := by
      rw [kms_pick_eq]
      congr 1
      unfold kms_pick kms_lo kms_hi
      simp only [if_neg (by omega : ¬ k < 0)]
      by_cases hk : k.toNat ≤ vs.length
      · simp only [Nat.min_eq_left hk]
        apply List.take_of_length_le
        simp
      · rw [Nat.min_eq_right (by omega)]
        rw [List.drop_eq_nil_of_le (as := vs) (i := k.toNat) (by omega)]
        simp
    rw [ez]
    have rz : Reps φ.c.base I₂ (vs.drop k.toNat).toArray.toList (l.drop k.toNat) := by simpa using rr.drop k.toNat
    have S₃ := slice_core F (s := Sh s h₂ tk₂) S₂ (o1 := { cls := .type "slice", data := .fields #[.int k tt, .none, .none] }) rz rfl
    exact q _ _ os₂ O₂ _ _ tk₂ q₂ S₃ (o₂.mono Inc.cons) (e₂.trans e₁) ((i₁.trans i₂).trans Inc.cons) (.lst _ _ 0 _ (.inl List.mem_cons_self) (rz.mono Inc.cons))
theorem JE_neg {e : Expr} {pos : Pos} (h : JE φ e ρ os (fun a os₁ => ∃ k, a = .int k ∧ Q (.int (-k)) os₁)) : JE φ (.UnaryOp .USub e pos) ρ os Q :=
  ⟨fun F m oa O I s Qv S G q => wpAny_UnaryOp (h.run F m oa O I s _ S G fun v a os₁ O₁ I₁ h₁ tk₁ ⟨k, ea, j⟩ S₁ o₁ e₁ i₁ r₁ => by
    subst ea
    cases r₁
    exact neg_int (q _ _ os₁ O₁ I₁ h₁ (tk₁ + 1) j (S₁.toks rfl) o₁ e₁ i₁ (.int _ _)))⟩
/-- a name of the module's top -/
theorem JE_glob {x : Str} {p : Pos} {v : Value} {d : D} (hn : nsIn φ.c.K mainGlobals x = some (some v)) (hr : Rep φ.c.base [] v d) (hx : φ.env.kindOf x = some .globalImplicit) (hg : φ.env.globals = mainGlobals) (hk : φ.env.scope.kind = .function) (hd : (x == ("__debug__" : Str)) = false) (h : Q d os) : JE φ (.Name x p) ρ os Q :=
  ⟨fun F m oa O I s Qv S G q => nameG_K S.fr F.kin (topRead_of F.top) hn (q v d os O I s.heap s.toks h (S.toks rfl) G.own rfl Inc.refl (hr.mono (fun _ hp => by simp at hp))) hg hk hx hd⟩
end

section
variable {φ : Fx} {ρ : Rho} {os : Own} {Q : FD → Rho → Own → Prop}

/-- the frame's own list is made -/
theorem JX_own {x : Str} {es : List Expr} {px lp pos : Pos} (hk : φ.env.kindOf x = some .local) (hx : x = φ.on) (hr : ρ.lookup x = none) (h : JEs φ es ρ none (fun ds os' => os' = none ∧ ds.length ≤ 100 ∧ Q .next ρ (some ds)))
    (hs : swapsWith (.List es lp) (some (.Name x px)) pos.line φ.env = pure false := by rfl) : JX φ (.Assign [.Name x px] (.List es lp) pos) ρ none Q :=
  ⟨fun N F m oa O I s Qf S G q => wpAny_Assign_Name (List_ (h.run F lp m oa O I s _ S (G.good N) fun vs ds os' O' I' h' tk' qq S' o' e' i' r' => by
    obtain ⟨e0, hl, j⟩ := qq
    subst e0
    have eO : O' = φ.O₀ := o'
    subst eO
    refine newList_N S'.fr S'.news (fun h'' F'' N'' => ?_) (by rw [r'.length]; exact Nat.le_trans hl (by decide))
    have S₂ : St φ.h₀ φ.L ((h'.objs.size, lobj vs 0) :: φ.O₀) I' m (Sh s h'' tk') := by
      refine ⟨F'', N'', fun p hp y hy => ?_⟩
      rcases List.mem_cons.mp hp with rfl | hp
      · exact Nat.ne_of_gt (Heap.lt_size (S'.news y (List.mem_append_right _ hy)).1)
      · exact S'.off p hp y hy
    refine store (N := N) S₂ hk fun h₃ tk₃ S₃ => ?_
    refine q .next .next ρ (some ds) _ h'.objs.size _ I' h₃ tk₃ j S₃ ⟨fun y d hy => ?_, ⟨vs, 0, rfl, r', fun p hp => Nat.ne_of_lt (Heap.lt_size (S'.news p (List.mem_append_left _ hp)).1)⟩, fun _ => ⟨hx ▸ hk, by rw [← hx]; exact if_pos rfl⟩⟩ i' .next (fun y => by simp at y)
    obtain ⟨k, v, e, r⟩ := G.names y d hy
    refine ⟨k, v, ?_, r.mono i'⟩
    rw [if_neg (fun z => by rw [z, hr] at hy; cases hy)]
    exact e)) hs⟩

theorem own_upd {oa : Addr} {O₀ I : Led} {o o' : Obj} {h₀ h' : Heap} {L : Addr} {m : Str → Option Value} {s : Shared} {tk : Nat} (hoff : ∀ p ∈ O₀, p.1 ≠ oa) (S : St h₀ L ((oa, o) :: O₀) I m s) (hs : Heap.SameBut oa s.heap h') (ho : h'.get? oa = some o') : St h₀ L ((oa, o') :: O₀) I m (Sh s h' tk) := by
  have z := S.news (oa, o) (List.mem_append_left _ List.mem_cons_self)
  refine ⟨S.fr.change hs z.2.1 z.2.2, ?_, fun p hp y hy => ?_⟩
  · exact news_set (pre := []) (D := oa) (o := o) (o' := o') S.news (fun _ h => nomatch h) (fun p hp => (List.mem_append.mp hp).elim (hoff p) fun hp => Ne.symm (S.off (oa, o) List.mem_cons_self p hp)) hs ho
  · rcases List.mem_cons.mp hp with rfl | hp
    · exact S.off (oa, o) List.mem_cons_self y hy
    · exact S.off p (List.mem_cons_of_mem _ hp) y hy

/-- x.append(e), x the frame's own list -/
theorem JX_append {x : Str} {e : Expr} {p apos cpos pos : Pos} {ds : List D} (hx : x = φ.on) (h : JE φ e ρ (some ds) (fun d os' => ∃ ds', os' = some ds' ∧ ds'.length ≤ 100 ∧ Q .next ρ (some (ds' ++ [d]))))
    (hbase : attributeBase (.Name x p) (Str.ofString "append") φ.env (eval (.Name x p) φ.env) = eval (.Name x p) φ.env) (hfew : ((((backTo cpos (starEach [e] φ.env)).all fun x => !x.fst) && (backToKw cpos (keywordEach [] φ.env)).all fun x => x.fst.isSome) && decide (([e].length + ([] : List Keyword).length + if ([] : List Keyword).isEmpty = true then 0 else 1) < 30)) = true)
    (hline : (apos.endLine == cpos.line) = true) (htrees : backTo cpos (starEach [e] φ.env) = [(false, eval e φ.env)])
    (hi : interactive φ.env = false := by rfl) (hs : swapsWith (.Call (.Attribute (.Name x p) (Str.ofString "append") apos) [e] [] cpos) none pos.line φ.env = pure false := by rfl) : JX φ (.Expr (.Call (.Attribute (.Name x p) (Str.ofString "append") apos) [e] [] cpos) pos) ρ (some ds) Q :=
  ⟨fun N F m oa O I s Qf S G q => by
    subst hx
    refine wpAny_Expr (wpAny_Call_append hbase hfew hline htrees ?_) hi hs
    obtain ⟨vs, n, eO, rr, off⟩ := id G.own
    obtain ⟨k, em⟩ := G.on rfl
    refine name_local N k em O I s G.own.sub S p _ _ ?_
    refine ⟨oa, vs.toArray, rfl, ?_, ?_⟩
    · exact ⟨_, n, (S.news (oa, lobj vs n) (List.mem_append_left _ (by rw [eO]; exact List.mem_cons_self))).1, rfl, rfl, rfl⟩
    refine h.run F m oa O I s _ S (G.good N) fun v d os' O' I' h' tk' qq S' o' e' i' r' => ?_
    obtain ⟨ds', e0, hl, j⟩ := qq
    subst e0
    obtain ⟨vs', n', eO', rr', off'⟩ := id o'
    subst eO'
    have hg := (S'.news (oa, lobj vs' n') (List.mem_append_left _ List.mem_cons_self)).1
    refine append_at (s := Sh s h' tk') (its := vs'.toArray) (n := n') hg (fun h'' hsb hg' => ?_) (by simp only [List.size_toArray, rr'.length]; exact Nat.le_trans hl (by decide))
    have hg'' : h''.get? oa = some (lobj (vs' ++ [v]) (n' + 1)) := by
      rw [hg']; simp
    have S₂ := own_upd (tk := tk') off' S' hsb hg''
    have G₂ := G.next i' o' e'
    exact q .next .next ρ (some (ds' ++ [d])) m oa _ I' h'' tk' j S₂ ⟨G₂.names, ⟨vs' ++ [v], n' + 1, rfl, rr'.append (.cons r' .nil), off'⟩, fun _ => ⟨k, em⟩⟩ i' .next (fun _ => ⟨rfl, fun _ => rfl⟩)⟩

/-- x[k] = e, x the frame's own list -/
theorem JX_setOwn {x : Str} {e : Expr} {k : Int} {kk : Nat} {p kp sp pos : Pos} {ds : List D} (hx : x = φ.on) (h0 : 0 ≤ k) (hk : k < 1000) (h : JE φ e ρ (some ds) (fun d os' => ∃ ds', os' = some ds' ∧ k < ds'.length ∧ Q .next ρ (some (ds'.set k.toNat d))))
    (hs : swapsWith e (some (.Subscript (.Name x p) (.Constant (.int k) kk kp) sp)) pos.line φ.env = pure false := by rfl) : JX φ (.Assign [.Subscript (.Name x p) (.Constant (.int k) kk kp) sp] e pos) ρ (some ds) Q :=
  ⟨fun N F m oa O I s Qf S G q => by
    subst hx
    obtain ⟨kl, em⟩ := G.on rfl
    refine wpAny_Assign_Subscript (h.run F m oa O I s _ S (G.good N) fun v d os' O' I' h' tk' qq S' o' e' i' r' => ?_) hs
    obtain ⟨ds', e0, hl, j⟩ := qq
    subst e0
    refine name_local N kl em O' I' _ o'.sub S' p _ _ ?_
    refine wpAny_Constant_int ?_
    obtain ⟨vs', n', eO', rr', off'⟩ := id o'
    subst eO'
    have hg := (S'.news (oa, lobj vs' n') (List.mem_append_left _ List.mem_cons_self)).1
    refine ki_setAt (n := n') (items := vs'.toArray) hg h0 (by omega) (by simp only [List.size_toArray, rr'.length]; exact hl) ?_
    have hg' : (h'.update oa (Obj.mapSeq fun x => x.setIfInBounds k.toNat v)).get? oa = some (lobj (vs'.set k.toNat v) n') := by
      have z := PySem.IsL.update hg (fun x => x.setIfInBounds k.toNat v)
      have ea : vs'.toArray.setIfInBounds k.toNat v = (vs'.set k.toNat v).toArray := by
        apply Array.toList_inj.mp
        simp
      have en : (if ((vs'.set k.toNat v).toArray.size == vs'.toArray.size) = true then n' else n' + 1) = n' := by simp
      rw [ea, en] at z
      exact z
    have S₂ := own_upd (s := Sh s h' tk') (tk := tk' + 1) off' S' (Heap.SameBut.update ..) hg'
    have G₂ := G.next i' o' e'
    exact q .next .next ρ (some (ds'.set k.toNat d)) m oa _ I' _ (tk' + 1) j S₂ ⟨G₂.names, ⟨_, n', rfl, rr'.set r' k.toNat, off'⟩, fun _ => ⟨kl, em⟩⟩ i' .next (fun _ => ⟨rfl, fun _ => rfl⟩)⟩

/-- so many turns of a while, at most -/
def WN (φ : Fx) (test : Expr) (body : List Stmt) (Q : FD → Rho → Own → Prop) : Nat → Rho → Own → Prop
  | 0, _, _ => False
  | n + 1, ρ, os => JT φ test ρ os (fun b os₁ => if b = true then JS φ body ρ os₁ (fun fd ρ₂ os₂ => match fd with | .next => WN φ test body Q n ρ₂ os₂ | .ret d => Q (.ret d) ρ₂ os₂) else Q .next ρ os₁)

theorem WN_inv {test : Expr} {body : List Stmt} (Inv : Nat → Rho → Own → Prop)
    (turn : ∀ n ρ os, Inv n ρ os → JT φ test ρ os (fun b os₁ => if b = true then JS φ body ρ os₁ (fun fd ρ₂ os₂ => match fd with | .next => ∃ n', n' < n ∧ Inv n' ρ₂ os₂ | .ret d => Q (.ret d) ρ₂ os₂) else Q .next ρ os₁)) :
    ∀ k n ρ os, n ≤ k → Inv n ρ os → WN φ test body Q (k + 1) ρ os := by
  intro k
  induction k with
  | zero =>
    intro n ρ os hn h
    refine (turn n ρ os h).mono fun b os₁ hb => ?_
    cases b with
    | false => exact hb
    | true =>
      simp only [if_true] at hb ⊢
      refine hb.mono fun fd ρ₂ os₂ hq => ?_
      cases fd with
      | next => obtain ⟨n', h1, _⟩ := hq; omega
      | ret d => exact hq
  | succ k ih =>
    intro n ρ os hn h
    refine (turn n ρ os h).mono fun b os₁ hb => ?_
    cases b with
    | false => exact hb
    | true =>
      simp only [if_true] at hb ⊢
      refine hb.mono fun fd ρ₂ os₂ hq => ?_
      cases fd with
      | next => obtain ⟨n', h1, h2⟩ := hq; exact ih n' ρ₂ os₂ (by omega) h2
      | ret d => exact hq
theorem JX_while {test : Expr} {body : List Stmt} {pos : Pos} {n : Nat} (h : WN φ test body Q n ρ os) : JX φ (.While test body [] pos) ρ os Q :=
  ⟨fun N F m oa O I s Qf S G q => by
    refine wpAny_While (codeAny_whileLoop (fun n s' => ∃ ρ' os' m' oa' O' I' h' tk', s' = Sh s h' tk' ∧ St φ.h₀ φ.L O' I' m' (Sh s h' tk') ∧ GoodS φ m' oa' O' I' ρ' os' ∧ Inc I I' ∧ Kept os oa .next os' oa' ∧ WN φ test body Q n ρ' os') ?_ n ⟨ρ, os, m, oa, O, I, s.heap, s.toks, rfl, S, G, Inc.refl, fun e => ⟨rfl, fun _ => e⟩, h⟩)
    rintro n s' ⟨ρ', os', m', oa', O', I', h', tk', rfl, S', G', i', k', W⟩
    cases n with
    | zero => exact W.elim
    | succ n =>
      refine wpAny_mono ((show JT φ test ρ' os' _ from W).run F m' oa' O' I' _ (fun b s₂ => if b = true then wpAny (model φ.c.prog φ.c.w) φ.A (execs body φ.env) (fun f s₃ => match f with
            | .next | .cont => ∃ m, m < n + 1 ∧ (fun n s' => ∃ ρ' os' m' oa' O' I' h' tk', s' = Sh s h' tk' ∧ St φ.h₀ φ.L O' I' m' (Sh s h' tk') ∧ GoodS φ m' oa' O' I' ρ' os' ∧ Inc I I' ∧ Kept os oa .next os' oa' ∧ WN φ test body Q n ρ' os') m s₃
            | .brk => Qf .next s₃
            | .ret v => Qf (.ret v) s₃) (fun _ _ => False) s₂ else Qf .next s₂) S' (G'.good N) ?_) ?_ (fun _ _ e => e.elim)
      · intro b os₁ O₁ I₁ h₁ tk₁ j S₁ o₁ e₁ i₁
        have G₁ := G'.next i₁ o₁ e₁
        cases b with
        | true =>
          simp only [if_true] at j ⊢
          refine j.run N F m' oa' O₁ I₁ _ _ S₁ G₁ fun f fd ρ₂ os₂ m₂ oa₂ O₂ I₂ h₂ tk₂ j₂ S₂ G₂ i₂ fr₂ kp₂ => ?_
          have kk : ∀ e : os.isSome = true, oa₂ = oa ∧ (fd = .next → os₂.isSome = true) := fun e => by
            obtain ⟨a1, a2⟩ := k' e
            obtain ⟨a3, a4⟩ := kp₂ (e₁ ▸ a2 rfl)
            exact ⟨a3.trans a1, a4⟩
          cases fr₂ with
          | next => exact ⟨n, Nat.lt_succ_self _, ρ₂, os₂, m₂, oa₂, O₂, I₂, h₂, tk₂, rfl, S₂, G₂, (i'.trans i₁).trans i₂, kk, j₂⟩
          | ret r => exact q _ (.ret _) ρ₂ os₂ m₂ oa₂ O₂ I₂ h₂ tk₂ j₂ S₂ G₂ ((i'.trans i₁).trans i₂) (.ret r) (fun e => ⟨(kk e).1, fun x => nomatch x⟩)
        | false =>
          simp only [Bool.false_eq_true, if_false] at j ⊢
          exact q .next .next ρ' os₁ m' oa' O₁ I₁ h₁ tk₁ j S₁ G₁ (i'.trans i₁) .next (fun e => ⟨(k' e).1, fun _ => e₁ ▸ (k' e).2 rfl⟩)
      · intro b s₂ h₂
        cases b with
        | true =>
          simp only [if_true] at h₂ ⊢
          exact wpAny_mono h₂ (fun f s₃ h₃ => h₃) (fun _ _ e => e.elim)
        | false =>
          simp only [Bool.false_eq_true, if_false] at h₂ ⊢
          exact wpAny_execs_nil h₂⟩
theorem JX_whileI {test : Expr} {body : List Stmt} {pos : Pos} (Inv : Nat → Rho → Own → Prop) (n : Nat) (h0 : Inv n ρ os)
    (turn : ∀ n ρ os, Inv n ρ os → JT φ test ρ os (fun b os₁ => if b = true then JS φ body ρ os₁ (fun fd ρ₂ os₂ => match fd with | .next => ∃ n', n' < n ∧ Inv n' ρ₂ os₂ | .ret d => Q (.ret d) ρ₂ os₂) else Q .next ρ os₁)) : JX φ (.While test body [] pos) ρ os Q :=
  JX_while (WN_inv Inv turn n n ρ os (Nat.le_refl _) h0)
end
end

section

abbrev Fx.wide (φ : Fx) (O₀ : Led) : Fx := { φ with O₀ := O₀ }
theorem Fm.wide {φ : Fx} (F : Fm φ) (O₀ : Led) : Fm (φ.wide O₀) := ⟨F.below, F.kin, F.top, F.frame, F.kind, F.handled, F.depth, F.units⟩
theorem Fn.wide {φ : Fx} (F : Fn φ) (O₀ : Led) : Fn (φ.wide O₀) := ⟨F.shape, F.kind, F.fe, F.nodbg⟩

section
variable {φ : Fx} {ρ : Rho} {os : Own} {Q : FD → Rho → Own → Prop}

/-- a for over something that walks: It the iterator -/
theorem loop_core (N : Fn φ) (F : Fm φ) {x : Str} {body : List Stmt} (hk : φ.env.kindOf x = some .local) (hx : x ≠ φ.on) {It : Addr} {fp : List Addr} {n : Nat} {P : Nat → Value → Prop} {StI : Nat → Heap → Prop}
    (W : Walks φ.c.prog φ.c.w φ.A It fp [It] n P StI) {m : Str → Option Value} {oa : Addr} {O I : Led} {s : Shared} {Qf : Flow → Shared → Prop}
    (hfp : ∀ b ∈ fp, b = It ∨ (φ.h₀.get? b = none → ∃ o, (b, o) ∈ I)) (hLf : φ.L ∉ fp) (hItf : It ∈ fp) (hItn : φ.h₀.get? It = none) (hItO : ∀ p ∈ O ++ I, p.1 ≠ It) (hsome : ∀ i h, StI i h → ∃ o, h.get? It = some o) (hst : StI 0 s.heap)
    (S : St φ.h₀ φ.L O I m s) (G : GoodS φ m oa O I ρ os) (dat : Nat → D) (hdat : ∀ i v, i < n → P i v → Rep φ.c.base I v (dat i))
    (Inv : Nat → Rho → Own → Prop) (h0 : Inv 0 ρ os)
    (turn : ∀ O₀ i ρ os, i < n → Inv i ρ os → JS (φ.wide O₀) body (upd x (dat i) ρ) os (fun fd ρ' os' => fd = .next ∧ Inv (i + 1) ρ' os'))
    (done : ∀ ρ' os' m' oa' O' I' h' tk', Inv n ρ' os' → St φ.h₀ φ.L O' I' m' (Sh s h' tk') → GoodS φ m' oa' O' I' ρ' os' → Inc I I' → Kept os oa .next os' oa' → Qf .next (Sh s h' tk')) :
    LoopAtV φ.c.prog φ.c.w φ.A φ.h₀ φ.env x body Qf (fun _ _ => False) (.ref It) s := by
  let J : Nat → (Str → Option Value) → List (Addr × Obj) → Prop := fun i m₁ news₁ => ∃ oa₁ O₁ I₁ ρ₁ os₁, news₁ = O₁ ++ I₁ ∧ (∀ p ∈ O₁, ∀ q ∈ I₁, p.1 ≠ q.1) ∧ GoodS φ m₁ oa₁ O₁ I₁ ρ₁ os₁ ∧ Inc I I₁ ∧ Kept os oa .next os₁ oa₁ ∧ Inv i ρ₁ os₁
  refine ⟨It, fp, [It], n, P, StI, m, O ++ I, J, rfl, W, by rw [N.loc]; exact hLf, fun b hb => by rw [List.mem_singleton.mp hb]; exact hItn, fun p hp hm => hItO p hp (List.mem_singleton.mp hm), hst, by rw [N.loc]; exact S.fr, by rw [N.loc]; exact S.news,
    ⟨oa, O, I, ρ, os, rfl, S.off, G, Inc.refl, fun e => ⟨rfl, fun _ => e⟩, h0⟩, ?_, ?_⟩
  · rintro i v m₁ news₁ s₁ own ⟨hh, tk, rfl⟩ hi hP ⟨oa₁, O₁, I₁, ρ₁, os₁, rfl, off₁, G₁, i₁, k₁, v₁⟩ hnw hown hget hall hst₁ F₁ N₁
    rw [N.loc] at F₁ N₁ ⊢
    have hItN : ∀ p ∈ O₁ ++ I₁, p.1 ≠ It := fun p hp e => hnw p hp (List.mem_singleton.mpr e)
    let oi := own.filter (fun p => decide (p.1 = It))
    have moi : ∀ p, p ∈ oi ↔ p ∈ own ∧ p.1 = It := fun p => by simp [oi]
    obtain ⟨oIt, hoIt⟩ := hsome _ _ hst₁
    have hitm : (It, oIt) ∈ oi := (moi _).mpr ⟨hall It hItf hItn oIt hoIt, rfl⟩
    have hd := hdat i v hi hP
    -- the ledger with the iterator kept
    have S₁ : St φ.h₀ φ.L (O₁ ++ oi) I₁ (fun y => if y = x then some v else m₁ y) (Sh s hh tk) := by
      refine ⟨F₁, fun p hp => ?_, fun p hp q hq => ?_⟩
      · rcases List.mem_append.mp hp with hp | hp
        · rcases List.mem_append.mp hp with hp | hp
          · exact N₁ p (List.mem_append_right _ (List.mem_append_left _ hp))
          · exact N₁ p (List.mem_append_left _ ((moi p).mp hp).1)
        · exact N₁ p (List.mem_append_right _ (List.mem_append_right _ hp))
      · rcases List.mem_append.mp hp with hp | hp
        · exact off₁ p hp q hq
        · rw [((moi p).mp hp).2]
          exact Ne.symm (hItN q (List.mem_append_right _ hq))
    have G₂ : GoodS (φ.wide (φ.O₀ ++ oi)) (fun y => if y = x then some v else m₁ y) oa₁ (O₁ ++ oi) I₁ (upd x (dat i) ρ₁) os₁ := by
      have g := G₁.set hk hx (hd.mono i₁)
      refine ⟨g.names, ?_, g.on⟩
      have ow := g.own
      cases os₁ with
      | none => show O₁ ++ oi = φ.O₀ ++ oi; rw [show O₁ = φ.O₀ from ow]
      | some ds =>
        obtain ⟨vs, n', eO, r, of⟩ := ow
        refine ⟨vs, n', by rw [eO]; rfl, r, fun p hp => ?_⟩
        rcases List.mem_append.mp hp with hp | hp
        · exact of p hp
        · rw [((moi p).mp hp).2]
          exact Ne.symm (hItN (oa₁, lobj vs n') (List.mem_append_left _ (by rw [eO]; exact List.mem_cons_self)))
    have T := turn (φ.O₀ ++ oi) i ρ₁ os₁ hi v₁
    refine T.run (N.wide _) (F.wide _) _ oa₁ _ I₁ _ _ S₁ G₂ fun f fd ρ₂ os₂ m₂ oa₂ O₂ I₂ h₂ tk₂ ⟨efd, iv⟩ S₂ G₃ i₂ fr₂ kp₂ => ?_
    subst efd
    cases fr₂
    -- the iterator is taken off again
    have hO : ∃ O₃ : Led, (∀ p, p ∈ O₂ ↔ p ∈ O₃ ∨ p ∈ oi) ∧ (∀ p ∈ O₃, p.1 ≠ It) ∧ GoodS φ m₂ oa₂ O₃ I₂ ρ₂ os₂ := by
      have O0It : ∀ p ∈ φ.O₀, p.1 ≠ It := fun p hp => hItO p (List.mem_append_left _ (G.own.sub p hp))
      have ow := G₃.own
      cases os₂ with
      | none =>
        have e : O₂ = φ.O₀ ++ oi := ow
        exact ⟨φ.O₀, fun p => by rw [e]; exact List.mem_append, O0It, ⟨G₃.names, rfl, G₃.on⟩⟩
      | some ds =>
        obtain ⟨vs, n', eO, r, of⟩ := ow
        refine ⟨(oa₂, lobj vs n') :: φ.O₀, fun p => ?_, fun p hp => ?_, ⟨G₃.names, ⟨vs, n', rfl, r, fun p hp => of p (List.mem_append_left _ hp)⟩, G₃.on⟩⟩
        · rw [eO]
          constructor
          · intro hp
            rcases List.mem_cons.mp hp with rfl | hp
            · exact .inl List.mem_cons_self
            · exact (List.mem_append.mp hp).imp (List.mem_cons_of_mem _) id
          · rintro (hp | hp)
            · rcases List.mem_cons.mp hp with rfl | hp
              · exact List.mem_cons_self
              · exact List.mem_cons_of_mem _ (List.mem_append_left _ hp)
            · exact List.mem_cons_of_mem _ (List.mem_append_right _ hp)
        · rcases List.mem_cons.mp hp with rfl | hp
          · exact Ne.symm (of (It, oIt) (List.mem_append_right _ hitm))
          · exact O0It p hp
    obtain ⟨O₃, hO₃, hOIt, G₄⟩ := hO
    have hI₂It : ∀ q ∈ I₂, q.1 ≠ It := fun q hq => Ne.symm (S₂.off (It, oIt) ((hO₃ _).mpr (.inr hitm)) q hq)
    refine LoopStepV.next ⟨rfl, h₂, tk₂, m₂, O₃ ++ I₂, rfl, S₂.fr, fun p hp => ?_, fun p hp hm => ?_, oa₂, O₃, I₂, ρ₂, os₂, rfl, fun p hp q hq => S₂.off p ((hO₃ p).mpr (.inl hp)) q hq, G₄, i₁.trans i₂, fun e => ?_, iv⟩
    · rcases List.mem_append.mp hp with hp | hp
      · by_cases e : p.1 = It
        · exact S₂.news p (List.mem_append_left _ ((hO₃ p).mpr (.inr ((moi p).mpr ⟨hp, e⟩))))
        · rcases hfp p.1 (hown p hp) with e' | e'
          · exact absurd e' e
          · have z := N₁ p (List.mem_append_left _ hp)
            obtain ⟨o, ho⟩ := e' z.2.2
            have h1 := (S₁.news (p.1, o) (List.mem_append_right _ (i₁ _ ho))).1
            have h2 : o = p.2 := Option.some.inj (h1.symm.trans (hget p hp))
            have := S₂.news (p.1, o) (List.mem_append_right _ (i₂ _ (i₁ _ ho)))
            rw [h2] at this
            exact this
      · rcases List.mem_append.mp hp with hp | hp
        · exact S₂.news p (List.mem_append_left _ ((hO₃ p).mpr (.inl hp)))
        · exact S₂.news p (List.mem_append_right _ hp)
    · rcases List.mem_append.mp hp with hp | hp
      · exact hOIt p hp (List.mem_singleton.mp hm)
      · exact hI₂It p hp (List.mem_singleton.mp hm)
    · obtain ⟨a1, a2⟩ := k₁ e
      obtain ⟨a3, a4⟩ := kp₂ (a2 rfl)
      exact ⟨a3.trans a1, a4⟩
  · rintro h' tk' m' news' F' N' hw ⟨oa₁, O₁, I₁, ρ₁, os₁, rfl, off₁, G₁, i₁, k₁, v₁⟩
    rw [N.loc] at F' N'
    exact done ρ₁ os₁ m' oa₁ O₁ I₁ h' tk' v₁ ⟨F', N', off₁⟩ G₁ i₁ k₁

theorem fold_of {φ : Fx} (N : Fn φ) : (φ.env.scope.kind == .class || φ.env.scope.kind == .module && φ.env.locals != φ.env.globals) = false := by rw [N.kind]; rfl

/-- for x in a tuple -/
theorem JX_forTup {x : Str} {iter : Expr} {body : List Stmt} {px pos : Pos} (hk : φ.env.kindOf x = some .local) (hx : (x == φ.on) = false)
    (h : JE φ iter ρ os (fun d os₁ => ∃ (l : List D) (Inv : Nat → Rho → Own → Prop), d = .tup l ∧ Inv 0 ρ os₁ ∧ (∀ O₀ i ρ os e, l[i]? = some e → Inv i ρ os → JS (φ.wide O₀) body (upd x e ρ) os (fun fd ρ' os' => fd = .next ∧ Inv (i + 1) ρ' os')) ∧
      ∀ ρ' os', Inv l.length ρ' os' → Q .next ρ' os'))
    (hs : ∀ v, foldedSetIterable iter φ.env v = pure v := by intro _; rfl) : JX φ (.For (.Name x px) iter body [] pos) ρ os Q :=
  ⟨fun N F m oa O I s Qf S G q => by
    refine For_invVF (h₀ := φ.h₀) (m := m) (by rw [N.loc]; exact S.fr) hk (fold_of N) (h.run F m oa O I s _ S (G.good N) fun v d os₁ O₁ I₁ h₁ tk₁ qq S₁ o₁ e₁ i₁ r₁ => ?_) hs PassesOwn.never
    obtain ⟨l, Inv, rfl, h0, turn, fin⟩ := qq
    cases r₁ with
    | tup a vs n ds m' rr =>
      have ha := S₁.mem F m'
      have hlt : a < h₁.objs.size := Heap.lt_size ha
      refine wpAny_pyIter_tuple (items := vs.toArray) ⟨_, ha, rfl, n, rfl⟩ ?_
      have up : ∀ b o, h₁.get? b = some o → (h₁.push { cls := Value.type "tuple_iterator", data := Data.fields #[Value.ref a, Value.int 0 0] }).get? b = some o := fun b o e => Heap.get?_push_of_some _ e
      have S₂ : St φ.h₀ φ.L O₁ I₁ m (Sh s (h₁.push { cls := Value.type "tuple_iterator", data := Data.fields #[Value.ref a, Value.int 0 0] }) tk₁) := ⟨S₁.fr.keeps up, S₁.news.grown up, S₁.off⟩
      have el : vs.toArray.size = l.length := by simp [rr.length]
      have W := Walks.tuple (prog := φ.c.prog) (w := φ.c.w) F.handled h₁.objs.size a (Nat.ne_of_lt hlt) vs.toArray
      refine loop_core (n := vs.toArray.size) N F hk (ne_of hx) W (m := m) (oa := oa) (O := O₁) (I := I₁) (ρ := ρ) (os := os₁) ?_ ?_ (by simp) (next_is_new S₁.fr) (fun p hp => Nat.ne_of_lt (Heap.lt_size (S₁.news p hp).1)) ?_ ?_ S₂ (G.next i₁ o₁ e₁) (fun i => l.getD i .none) ?_ Inv h0 ?_ ?_
      · intro b hb
        rcases List.mem_cons.mp hb with rfl | hb
        · exact .inl rfl
        · rw [List.mem_singleton.mp hb]
          refine .inr fun hn => ?_
          rcases m' with m' | m'
          · exact ⟨_, m'⟩
          · have := F.stays _ _ m'
            rw [hn] at this
            cases this
      · intro hm
        have hL := S₁.fr.ns.lt
        rcases List.mem_cons.mp hm with e | hm
        · exact absurd hL (by rw [e]; exact Nat.lt_irrefl _)
        · have e := List.mem_singleton.mp hm
          rcases m' with m' | m'
          · exact (S₁.news _ (List.mem_append_right _ m')).2.1 e.symm
          · have h1 := Heap.lt_size (F.stays _ _ m')
            exact absurd (Nat.lt_of_lt_of_le h1 S₁.fr.above) (by rw [e]; exact Nat.lt_irrefl _)
      · rintro i h ⟨⟨o, ho, _⟩, _⟩
        exact ⟨o, ho⟩
      · exact ⟨⟨_, Heap.get?_push_size _ rfl, rfl, rfl⟩, ⟨_, up _ _ ha, rfl, n, rfl⟩⟩
      · intro i v hi hP
        have hP' : vs[i]? = some v := by simpa using hP
        obtain ⟨d, hd, rd⟩ := rr.get' hP'
        rw [List.getD_eq_getElem?_getD, hd]
        exact rd
      · intro O₀ i ρ' os' hi hv
        have hi' : i < l.length := by rw [← el]; exact hi
        have he : l[i]? = some (l.getD i .none) := by rw [List.getD_eq_getElem?_getD, List.getElem?_eq_getElem hi']; rfl
        exact turn O₀ i ρ' os' _ he hv
      · intro ρ' os' m' oa' O' I' h' tk' hv S' G' i' k'
        rw [el] at hv
        exact q .next .next ρ' os' m' oa' O' I' h' tk' (fin ρ' os' hv) S' G' (i₁.trans i') .next (fun e => k' (e₁ ▸ e))⟩

theorem small_range {a b : Int} (h1 : -1000 ≤ a) (h2 : a ≤ 1000) (h3 : -1000 ≤ b) (h4 : b ≤ 1000) : Builtin.Range.small a b 1 = true ∧ Builtin.Range.rangeSize a b 1 = ((b - a).toNat : Int) := by
  have hs : Builtin.Range.rangeSize a b 1 = ((b - a).toNat : Int) := by
    unfold Builtin.Range.rangeSize
    rw [if_pos (by decide)]
    split
    · rw [Int.ediv_one]; omega
    · omega
  refine ⟨?_, hs⟩
  unfold Builtin.Range.small
  rw [hs]
  unfold Builtin.Range.rangeFitsLong
  simp
  omega

/-- for x in range(a, b): the iterator over the ints from a up to b -/
theorem range_loop (N : Fn φ) (F : Fm φ) {x : Str} {body : List Stmt} (hk : φ.env.kindOf x = some .local) (hx : x ≠ φ.on) {r : Addr} {a b : Int} {t u v : Tok} (hb : -1000 ≤ a ∧ a ≤ 1000 ∧ -1000 ≤ b ∧ b ≤ 1000)
    {m : Str → Option Value} {oa : Addr} {O I : Led} {s : Shared} {Qf : Flow → Shared → Prop} (hr : IsRange s.heap r a b 1 t u v) (S : St φ.h₀ φ.L O I m s) (G : GoodS φ m oa O I ρ os)
    (Inv : Nat → Rho → Own → Prop) (h0 : Inv 0 ρ os)
    (turn : ∀ O₀ i ρ os, i < (b - a).toNat → Inv i ρ os → JS (φ.wide O₀) body (upd x (.int (a + i)) ρ) os (fun fd ρ' os' => fd = .next ∧ Inv (i + 1) ρ' os'))
    (done : ∀ ρ' os' m' oa' O' I' h' tk', Inv (b - a).toNat ρ' os' → St φ.h₀ φ.L O' I' m' (Sh s h' tk') → GoodS φ m' oa' O' I' ρ' os' → Inc I I' → Kept os oa .next os' oa' → Qf .next (Sh s h' tk')) :
    wpAny (model φ.c.prog φ.c.w) φ.A (pyIter (.ref r)) (fun it s₂ => LoopAtV φ.c.prog φ.c.w φ.A φ.h₀ φ.env x body Qf (fun _ _ => False) it s₂) (fun _ _ => False) s := by
  obtain ⟨h1, h2, h3, h4⟩ := hb
  obtain ⟨hsm, hsz⟩ := small_range h1 h2 h3 h4
  refine wpAny_pyIter_range hr hsm ?_
  have up : ∀ b' o, s.heap.get? b' = some o → (s.heap.push { cls := Value.type "range_iterator", data := Data.fields #[rawInt a, rawInt (Builtin.Range.rangeSize a b 1), rawInt 1] }).get? b' = some o := fun b o e => Heap.get?_push_of_some _ e
  have S₂ : St φ.h₀ φ.L O I m (Sh s (s.heap.push { cls := Value.type "range_iterator", data := Data.fields #[rawInt a, rawInt (Builtin.Range.rangeSize a b 1), rawInt 1] }) s.toks) := ⟨S.fr.keeps up, S.news.grown up, S.off⟩
  have W := (Walks.range (prog := φ.c.prog) (w := φ.c.w) F.handled s.heap.objs.size a 1 (b - a).toNat)
  refine loop_core N F hk hx W (m := m) (oa := oa) (O := O) (I := I) (ρ := ρ) (os := os) ?_ ?_ (by simp) (next_is_new S.fr) (fun p hp => Nat.ne_of_lt (Heap.lt_size (S.news p hp).1)) ?_ ?_ S₂ G (fun i => .int (a + i)) ?_ Inv h0 turn done
  · intro b hb
    exact .inl (List.mem_singleton.mp hb)
  · intro hm
    exact absurd S.fr.ns.lt (by rw [List.mem_singleton.mp hm]; exact Nat.lt_irrefl _)
  · intro i h st
    exact ⟨_, st⟩
  · show IsRangeIter _ _ _ _ _
    rw [hsz]
    simpa using Heap.get?_push_size _ rfl
  · rintro i v hi ⟨t, rfl⟩
    rw [Int.mul_one]
    exact .int _ _

theorem JX_forRange1 {x : Str} {e : Expr} {body : List Stmt} {px rp cp pos : Pos} (hk : φ.env.kindOf x = some .local) (hx : (x == φ.on) = false) (hn : nsIn φ.c.K mainGlobals ("range" : Str) = some none) (hxr : φ.env.kindOf ("range" : Str) = some .globalImplicit) (hg : φ.env.globals = mainGlobals) (hb : φ.env.builtins = builtinsNs)
    (h : JE φ e ρ os (fun d os₁ => ∃ (k : Int) (Inv : Nat → Rho → Own → Prop), d = .int k ∧ -1000 ≤ k ∧ k ≤ 1000 ∧ Inv 0 ρ os₁ ∧ (∀ O₀ i ρ os, i < k.toNat → Inv i ρ os → JS (φ.wide O₀) body (upd x (.int i) ρ) os (fun fd ρ' os' => fd = .next ∧ Inv (i + 1) ρ' os')) ∧
      ∀ ρ' os', Inv k.toNat ρ' os' → Q .next ρ' os'))
    (he : starEach [e] φ.env = (false, eval e φ.env) :: starEach [] φ.env := by rfl)
    (hs : ∀ v, foldedSetIterable (.Call (.Name ("range" : Str) rp) [e] [] cp) φ.env v = pure v := by intro _; rfl) : JX φ (.For (.Name x px) (.Call (.Name ("range" : Str) rp) [e] [] cp) body [] pos) ρ os Q :=
  ⟨fun N F m oa O I s Qf S G q => by
    refine For_invVF (h₀ := φ.h₀) (m := m) (by rw [N.loc]; exact S.fr) hk (fold_of N) ?_ hs PassesOwn.never
    refine Call_ (name_built F S hn PyProof.Rows.Boot.«range» (by decide) hxr hg hb N.kind (by decide) ?_) rfl
    refine PyProof.Rows.callWith_type1 (spliced_more (h.run F m oa O I s _ S (G.good N) fun v d os₁ O₁ I₁ h₁ tk₁ qq S₁ o₁ e₁ i₁ r₁ => spliced_none ?_) he) he rfl
    obtain ⟨k, Inv, rfl, k1, k2, h0, turn, fin⟩ := qq
    cases r₁
    refine range1_rows S₁.fr S₁.news fun h' tk t₁ u₁ v₁ hr F' N' up => ?_
    have S₂ : St φ.h₀ φ.L O₁ I₁ m (Sh s h' tk) := S₁.of F' N'
    refine range_loop N F hk (ne_of hx) (a := 0) (b := k) ⟨by omega, by omega, k1, k2⟩ (s := Sh s h' tk) hr S₂ (G.next i₁ o₁ e₁) Inv h0 (fun O₀ i ρ os hi hv => ?_) (fun ρ' os' m' oa' O' I' h' tk' hv S' G' i' k' => ?_)
    · have := turn O₀ i ρ os (by simpa using hi) hv
      rw [Int.zero_add]
      exact this
    · exact q .next .next ρ' os' m' oa' O' I' h' tk' (fin ρ' os' (by simpa using hv)) S' G' (i₁.trans i') .next (fun e => k' (e₁ ▸ e))⟩

theorem JX_forRange2 {x : Str} {e e2 : Expr} {body : List Stmt} {px rp cp pos : Pos} (hk : φ.env.kindOf x = some .local) (hx : (x == φ.on) = false) (hn : nsIn φ.c.K mainGlobals ("range" : Str) = some none) (hxr : φ.env.kindOf ("range" : Str) = some .globalImplicit) (hg : φ.env.globals = mainGlobals) (hb : φ.env.builtins = builtinsNs)
    (h : JE φ e ρ os (fun d os₁ => JE φ e2 ρ os₁ (fun d2 os₂ => ∃ (a k : Int) (Inv : Nat → Rho → Own → Prop), d = .int a ∧ d2 = .int k ∧ -1000 ≤ a ∧ a ≤ 1000 ∧ -1000 ≤ k ∧ k ≤ 1000 ∧ Inv 0 ρ os₂ ∧ (∀ O₀ i ρ os, i < (k - a).toNat → Inv i ρ os → JS (φ.wide O₀) body (upd x (.int (a + i)) ρ) os (fun fd ρ' os' => fd = .next ∧ Inv (i + 1) ρ' os')) ∧
      ∀ ρ' os', Inv (k - a).toNat ρ' os' → Q .next ρ' os')))
    (he : starEach [e, e2] φ.env = (false, eval e φ.env) :: starEach [e2] φ.env := by rfl) (he2 : starEach [e2] φ.env = (false, eval e2 φ.env) :: starEach [] φ.env := by rfl) (hp : ((backTo cp (starEach [e2] φ.env)).any fun x => x.1) = false := by rfl)
    (hs : ∀ v, foldedSetIterable (.Call (.Name ("range" : Str) rp) [e, e2] [] cp) φ.env v = pure v := by intro _; rfl) : JX φ (.For (.Name x px) (.Call (.Name ("range" : Str) rp) [e, e2] [] cp) body [] pos) ρ os Q :=
  ⟨fun N F m oa O I s Qf S G q => by
    refine For_invVF (h₀ := φ.h₀) (m := m) (by rw [N.loc]; exact S.fr) hk (fold_of N) ?_ hs PassesOwn.never
    refine Call_ (name_built F S hn PyProof.Rows.Boot.«range» (by decide) hxr hg hb N.kind (by decide) ?_) rfl
    refine PyProof.Rows.callWith_type1 (spliced_more (h.run F m oa O I s _ S (G.good N) fun v d os₁ O₁ I₁ h₁ tk₁ qq S₁ o₁ e₁ i₁ r₁ => spliced_more (qq.run F m oa O₁ I₁ _ _ S₁ ((G.next i₁ o₁ e₁).good N) fun v2 d2 os₂ O₂ I₂ h₂ tk₂ qq S₂ o₂ e₂ i₂ r₂ => spliced_none ?_) he2) he) he hp
    obtain ⟨a, k, Inv, rfl, rfl, a1, a2, k1, k2, h0, turn, fin⟩ := qq
    cases r₁
    cases r₂
    refine range2_rows S₂.fr S₂.news fun h' tk t₁ u₁ v₁ hr F' N' up => ?_
    have S₃ : St φ.h₀ φ.L O₂ I₂ m (Sh s h' tk) := S₂.of F' N'
    refine range_loop N F hk (ne_of hx) (a := a) (b := k) ⟨a1, a2, k1, k2⟩ (s := Sh s h' tk) hr S₃ ((G.next i₁ o₁ e₁).next i₂ o₂ e₂) Inv h0 turn (fun ρ' os' m' oa' O' I' h' tk' hv S' G' i' k' => ?_)
    exact q .next .next ρ' os' m' oa' O' I' h' tk' (fin ρ' os' hv) S' G' ((i₁.trans i₂).trans i') .next (fun e => k' (e₂.trans e₁ ▸ e))⟩
end
end

section

/-- the frame within a comprehension -/
abbrev Fx.block (φ : Fx) (scope : Scope) (cl : List (Str × Addr)) (C : Addr) (O₀ : Led) : Fx := { φ with env := compEnvC scope cl C φ.env, O₀ := O₀ }
theorem Fm.block {φ : Fx} (F : Fm φ) (scope : Scope) (cl : List (Str × Addr)) (C : Addr) (O₀ : Led) : Fm (φ.block scope cl C O₀) := ⟨F.below, F.kin, F.top, F.frame, F.kind, F.handled, F.depth, F.units⟩

/-- what a name that the block closes over stands for -/
def Closed (φ : Fx) (scope : Scope) (cl : List (Str × Addr)) (O I : Led) (ρf : Rho) : Prop :=
  ∀ y d, ρf.lookup y = some d → ∃ c o v, cl.lookup y = some c ∧ (c, o) ∈ O ∧ o.data = .cell (some v) ∧ Rep φ.c.base I v d ∧ (relabel scope φ.env).names.lookup y = some .cell ∧ (y == ("__debug__" : Str)) = false
theorem Closed.mono {φ : Fx} {scope : Scope} {cl : List (Str × Addr)} {O I I' : Led} {ρf : Rho} (h : Closed φ scope cl O I ρf) (i : Inc I I') : Closed φ scope cl O I' ρf := fun y d e =>
  let ⟨c, o, v, h1, h2, h3, h4, h5, h6⟩ := h y d e; ⟨c, o, v, h1, h2, h3, h4.mono i, h5, h6⟩

section
variable {φ : Fx}

theorem comp_rest (F : Fm φ) {elt : Expr} {x : Str} {scope : Scope} {cl : List (Str × Addr)} {m : Str → Option Value} {s : Shared} {SP : Led → Prop} {P : Nat → Value → Prop} {Fin : List Value → Led → Prop} {O I₀ : Led} {ρf : Rho} {n : Nat} (dat res : Nat → D)
    (hkind : scope.kind = .function) (hxl : (relabel scope φ.env).names.lookup x = some .local) (hxd : (x == ("__debug__" : Str)) = false)
    (hf : Closed φ scope cl O I₀ ρf) (hP : ∀ i v, i < n → P i v → Rep φ.c.base I₀ v (dat i)) (hSP : ∀ I, Inc I₀ I → SP (O ++ I))
    (elem : ∀ C O₀ i, i < n → JE (φ.block scope cl C O₀) elt ((x, dat i) :: ρf) none (fun r _ => r = res i))
    (hfin : ∀ I ys, Inc I₀ I → Reps φ.c.base I ys ((List.range n).map res) → (∀ p ∈ O, ∀ q ∈ I, p.1 ≠ q.1) → Fin ys (O ++ I)) :
    ∀ k i I ys, i + k = n → Inc I₀ I → (∀ p ∈ O, ∀ q ∈ I, p.1 ≠ q.1) → Reps φ.c.base I ys ((List.range i).map res) →
      LCg.CompRest φ.c.prog φ.c.w φ.A φ.h₀ φ.L m φ.env elt x scope cl s SP P Fin k i ys (O ++ I) := by
  intro k
  induction k with
  | zero =>
    intro i I ys hi inc off r
    have : i = n := by omega
    subst this
    exact LCg.CompRest.zero (hfin I ys inc r off)
  | succ k ih =>
    intro i I ys hi inc off r
    refine LCg.CompRest.succ fun v It oI C oC Dd m₂ h tk E' hPv hns hmx Fh Nh off3 hne => ?_
    have hv := hP i v (by omega) hPv
    let O' : Led := (It, oI) :: (C, oC) :: (Dd, LCg.lst ys) :: O
    have hoff := off3.mem
    have S : St φ.h₀ φ.L O' I m { s with heap := h, toks := tk } := by
      refine ⟨Fh, Nh, fun p hp q hq => ?_⟩
      have z := hoff q (List.mem_append_right _ hq)
      rcases List.mem_cons.mp hp with rfl | hp
      · exact Ne.symm z.1
      rcases List.mem_cons.mp hp with rfl | hp
      · exact Ne.symm z.2.1
      rcases List.mem_cons.mp hp with rfl | hp
      · exact Ne.symm z.2.2
      · exact off p hp q hq
    have G : Good (φ.block scope cl C O') m 0 O' I ((x, dat i) :: ρf) none := by
      refine ⟨fun y d hy => ?_, rfl, fun e => by simp at e⟩
      by_cases q : y = x
      · subst q
        simp at hy
        subst hy
        refine ⟨v, hv.mono inc, fun O₁ I₁ s₁ hs S₁ pos Q E hq => ?_⟩
        exact LCgL.ld_own (N := S₁.news) (hm := List.mem_append_left _ (hs (C, oC) (List.mem_cons_of_mem _ List.mem_cons_self))) (hC := hns) (hx := hmx) (h := hq) (hk := hkind) (hl := hxl) (hd := hxd)
      · have e : (y == x) = false := by simpa using q
        rw [List.lookup_cons, e] at hy
        obtain ⟨c, o, u, h1, h2, h3, h4, h5, h6⟩ := hf y d hy
        refine ⟨u, h4.mono inc, fun O₁ I₁ s₁ hs S₁ pos Q E hq => ?_⟩
        exact lcf_cell S₁.news h1 (List.mem_append_left _ (hs (c, o) (List.mem_cons_of_mem _ (List.mem_cons_of_mem _ (List.mem_cons_of_mem _ h2))))) h3 hq hkind h5 h6
    refine wpAny_mono ((elem C O' i (by omega)).run (F.block _ _ _ _) m 0 O' I _ (LCg.CompEnd φ.h₀ φ.L m { s with heap := h, toks := tk } It oI C oC Dd (LCg.lst ys) SP (fun y news' => LCg.CompRest φ.c.prog φ.c.w φ.A φ.h₀ φ.L m φ.env elt x scope cl s SP P Fin k (i + 1) (ys ++ [y]) news')) S G ?_) (fun _ _ h => h) (fun _ _ e => e.elim)
    intro y r' os' O₂ I₂ h₂ tk₂ er S₂ o₂ e₂ i₂ ry
    subst er
    have eos : os' = none := by cases os' with | none => rfl | some _ => simp at e₂
    subst eos
    have eO : O₂ = O' := o₂
    subst eO
    have inc₂ := inc.trans i₂
    have off₂ : ∀ p ∈ O, ∀ q ∈ I₂, p.1 ≠ q.1 := fun p hp q hq => S₂.off p (List.mem_cons_of_mem _ (List.mem_cons_of_mem _ (List.mem_cons_of_mem _ hp))) q hq
    refine LCg.CompEnd.intro S₂.fr S₂.news (O ++ I₂) ?_ (LCg.Off3.of ?_) (hSP _ inc₂) (ih (i + 1) I₂ (ys ++ [y]) (by omega) inc₂ off₂ ?_)
    · intro p hp
      exact hp
    · intro p hp
      rcases List.mem_append.mp hp with hp | hp
      · exact hoff p (List.mem_append_left _ hp)
      · exact ⟨Ne.symm (S₂.off _ List.mem_cons_self p hp), Ne.symm (S₂.off _ (List.mem_cons_of_mem _ List.mem_cons_self) p hp), Ne.symm (S₂.off _ (List.mem_cons_of_mem _ (List.mem_cons_of_mem _ List.mem_cons_self)) p hp)⟩
    · rw [List.range_succ, List.map_append]
      exact (r.mono i₂).append (.cons ry .nil)

/-- what is behind the block -/
theorem comp_fin {m : Str → Option Value} {oa : Addr} {O I I₀ : Led} {s : Shared} {Qv : Value → Shared → Prop} {ys : List Value} {ds : List D} (i₀ : Inc I₀ I) (r : Reps φ.c.base I ys ds) (off : ∀ p ∈ O, ∀ q ∈ I, p.1 ≠ q.1)
    (q : ∀ v d I' h' tk', d = .lst ds → St φ.h₀ φ.L O I' m (Sh s h' tk') → Inc I₀ I' → Rep φ.c.base I' v d → Qv v (Sh s h' tk')) : LCg.FinE φ.h₀ φ.L m s Qv ys (O ++ I) := by
  intro Dd h tk F N off1
  have hne : ∀ {l : Led}, LCg.Off1 Dd l → ∀ p ∈ l, p.1 ≠ Dd := by
    intro l
    induction l with
    | nil => intro _ p hp; simp at hp
    | cons a l ih =>
      intro h p hp
      rcases List.mem_cons.mp hp with rfl | hp
      · exact h.1
      · exact ih h.2 p hp
  have z := hne off1
  have S : St φ.h₀ φ.L O ((Dd, lobj ys ys.length) :: I) m (Sh s h tk) := by
    refine ⟨F, fun p hp => N p ?_, fun p hp y hy => ?_⟩
    · rcases List.mem_append.mp hp with hp | hp
      · exact List.mem_cons_of_mem _ (List.mem_append_left _ hp)
      · rcases List.mem_cons.mp hp with rfl | hp
        · exact List.mem_cons_self
        · exact List.mem_cons_of_mem _ (List.mem_append_right _ hp)
    · rcases List.mem_cons.mp hy with rfl | hy
      · exact z p (List.mem_append_left _ hp)
      · exact off p hp y hy
  exact q _ _ _ h tk rfl S (i₀.trans Inc.cons) (.lst _ ys ys.length ds (.inl List.mem_cons_self) (r.mono Inc.cons))

theorem compRange_run {ρ : Rho} {Q : D → Own → Prop} {elt e : Expr} {x : Str} {px rp cp pos : Pos} {scope : Scope} {cl : List (Str × Addr)} {ρf : Rho}
    (hclos : closureFor scope φ.env = pure cl) (hcell : ∀ y ∈ scope.names, y.2 ≠ .cell) (hkind : scope.kind = .function) (hnames : ∀ y ∈ scope.names, y.2 = .local → scope.names.lookup y.1 = some .local) (hx : scope.names.lookup x = some .local)
    (hxl : (relabel scope φ.env).names.lookup x = some .local) (hxd : (x == ("__debug__" : Str)) = false)
    (hn : nsIn φ.c.K mainGlobals ("range" : Str) = some none) (hxr : φ.env.kindOf ("range" : Str) = some .globalImplicit) (hg : φ.env.globals = mainGlobals) (hb : φ.env.builtins = builtinsNs) (hk : φ.env.scope.kind = .function)
    (h : JE φ e ρ none (fun d os₁ => ∃ (k : Int) (res : Nat → D), d = .int k ∧ 0 ≤ k ∧ k ≤ 100 ∧ (∀ C O₀ i, i < k.toNat → JE (φ.block scope cl C O₀) elt ((x, .int i) :: ρf) none (fun r _ => r = res i)) ∧ Q (.lst ((List.range k.toNat).map res)) none))
    (he : starEach [e] φ.env = (false, eval e φ.env) :: starEach [] φ.env := by rfl)
    (hs : ∀ v, foldedSetIterable (.Call (.Name ("range" : Str) rp) [e] [] cp) φ.env v = pure v := by intro _; rfl) :
    Fm φ → ∀ m oa O I s (Qv : Value → Shared → Prop), St φ.h₀ φ.L O I m s → Good φ m oa O I ρ none → Closed φ scope cl O I ρf →
    (∀ v d I' h' tk', Q d none → St φ.h₀ φ.L O I' m (Sh s h' tk') → Inc I I' → Rep φ.c.base I' v d → Qv v (Sh s h' tk')) →
    wpAny (model φ.c.prog φ.c.w) φ.A (eval (.ListComp elt [⟨.Name x px, .Call (.Name ("range" : Str) rp) [e] [] cp, [], 0⟩] scope pos) φ.env) Qv (fun _ _ => False) s :=
  fun F m oa O I s Qv S G C₀ q => by
    have eO : O = φ.O₀ := G.own
    refine LCg.ListComp_U S.fr hclos hcell hkind hnames hx ?_ hs
    refine Call_ (name_built F S hn PyProof.Rows.Boot.«range» (by decide) hxr hg hb hk (by decide) ?_) rfl
    refine PyProof.Rows.callWith_type1 (spliced_more (h.run F m oa O I s _ S G fun v d os₁ O₁ I₁ h₁ tk₁ qq S₁ o₁ e₁ i₁ r₁ => spliced_none ?_) he) he rfl
    obtain ⟨k, res, rfl, k0, k1, elem, qf⟩ := qq
    cases r₁
    have eos : os₁ = none := by cases os₁ with | none => rfl | some _ => simp at e₁
    subst eos
    have eO₁ : O₁ = φ.O₀ := o₁
    have eOO : O₁ = O := eO₁.trans eO.symm
    subst eOO
    refine range1_rows S₁.fr S₁.news fun h' tk t₁ u₁ v₁ hr F' N' up => ?_
    have S₂ : St φ.h₀ φ.L O₁ I₁ m (Sh s h' tk) := S₁.of F' N'
    obtain ⟨hsm, hsz⟩ := small_range (a := 0) (b := k) (by omega) (by omega) (by omega) (by omega)
    rw [Int.sub_zero] at hsz
    refine LCg.CompSrc.range (n := k.toNat) F.handled S₂.fr S₂.news hr hsm hsz (by have : k.toNat ≤ 100 := by omega
                                                                                   exact Nat.le_trans this (by decide)) fun g => ?_
    refine comp_rest F (O := O₁) (I₀ := I₁) (n := k.toNat) (ρf := ρf) (fun i => .int i) res hkind hxl hxd (C₀.mono i₁) ?_ (fun _ _ => trivial) elem ?_ k.toNat 0 I₁ [] (by omega) Inc.refl S₁.off .nil
    · rintro i v hi ⟨t, rfl⟩
      rw [Int.zero_add]
      exact .int _ _
    · intro I₂ ys inc r off
      refine comp_fin (I₀ := I) (oa := oa) (i₁.trans inc) r off fun v d I' h'' tk' ed S' i' r' => ?_
      subst ed
      exact q v _ I' h'' tk' qf S' i' r'

theorem compList_run {ρ : Rho} {Q : D → Own → Prop} {elt e : Expr} {x : Str} {px pos : Pos} {scope : Scope} {cl : List (Str × Addr)} {ρf : Rho}
    (hclos : closureFor scope φ.env = pure cl) (hcell : ∀ y ∈ scope.names, y.2 ≠ .cell) (hkind : scope.kind = .function) (hnames : ∀ y ∈ scope.names, y.2 = .local → scope.names.lookup y.1 = some .local) (hx : scope.names.lookup x = some .local)
    (hxl : (relabel scope φ.env).names.lookup x = some .local) (hxd : (x == ("__debug__" : Str)) = false)
    (h : JE φ e ρ none (fun d os₁ => ∃ (l : List D) (res : D → D), d = .lst l ∧ l.length ≤ 100 ∧ (∀ C O₀ a, a ∈ l → JE (φ.block scope cl C O₀) elt ((x, a) :: ρf) none (fun r _ => r = res a)) ∧ Q (.lst (l.map res)) none))
    (hs : ∀ v, foldedSetIterable e φ.env v = pure v := by intro _; rfl) :
    Fm φ → ∀ m oa O I s (Qv : Value → Shared → Prop), St φ.h₀ φ.L O I m s → Good φ m oa O I ρ none → Closed φ scope cl O I ρf →
    (∀ v d I' h' tk', Q d none → St φ.h₀ φ.L O I' m (Sh s h' tk') → Inc I I' → Rep φ.c.base I' v d → Qv v (Sh s h' tk')) →
    wpAny (model φ.c.prog φ.c.w) φ.A (eval (.ListComp elt [⟨.Name x px, e, [], 0⟩] scope pos) φ.env) Qv (fun _ _ => False) s :=
  fun F m oa O I s Qv S G C₀ q => by
    have eO : O = φ.O₀ := G.own
    refine LCg.ListComp_U S.fr hclos hcell hkind hnames hx (h.run F m oa O I s _ S G fun v d os₁ O₁ I₁ h₁ tk₁ qq S₁ o₁ e₁ i₁ r₁ => ?_) hs
    obtain ⟨l, res, rfl, k1, elem, qf⟩ := qq
    cases r₁ with
    | lst a vs n ds m' rr =>
      have eos : os₁ = none := by cases os₁ with | none => rfl | some _ => simp at e₁
      subst eos
      have eO₁ : O₁ = φ.O₀ := o₁
      have eOO : O₁ = O := eO₁.trans eO.symm
      subst eOO
      have el : vs.toArray.size = l.length := by simp [rr.length]
      have hsz : vs.toArray.size ≤ sizeLine := by rw [el]; exact Nat.le_trans k1 (by decide)
      have rest : ∀ g, LCg.CompRest φ.c.prog φ.c.w φ.A φ.h₀ φ.L m φ.env elt x scope cl { (Sh s h₁ tk₁) with heap := g } (LCg.SrcAt φ.h₀ a vs.toArray) (fun i v => vs.toArray[i]? = some v) (LCg.FinE φ.h₀ φ.L m { (Sh s h₁ tk₁) with heap := g } Qv) vs.toArray.size 0 [] (O₁ ++ I₁) := by
        intro g
        refine comp_rest F (O := O₁) (I₀ := I₁) (n := vs.toArray.size) (ρf := ρf) (fun i => l.getD i .none) (fun i => res (l.getD i .none)) hkind hxl hxd (C₀.mono i₁) ?_ ?_ ?_ ?_ _ 0 I₁ [] (by omega) Inc.refl S₁.off .nil
        · intro i v hi hP
          have hP' : vs[i]? = some v := by simpa using hP
          obtain ⟨d, hd, rd⟩ := rr.get' hP'
          rw [List.getD_eq_getElem?_getD, hd]
          exact rd
        · intro I₂ inc
          rcases m' with m' | m'
          · exact .inr ⟨_, List.mem_append_right _ (inc _ m'), rfl, n, rfl⟩
          · exact .inl ⟨_, F.stays _ _ m', rfl, n, rfl⟩
        · intro C O₀ i hi
          have hi' : i < l.length := by rw [← el]; exact hi
          have he : l.getD i .none ∈ l := by rw [List.getD_eq_getElem?_getD, List.getElem?_eq_getElem hi']; exact List.getElem_mem hi'
          exact elem C O₀ _ he
        · intro I₂ ys inc r off
          have er : (List.range vs.toArray.size).map (fun i => res (l.getD i .none)) = l.map res := by
            rw [el]
            apply List.ext_getElem
            · simp
            · intro i h1 h2
              have hi' : i < l.length := by simpa using h2
              simp [List.getD_eq_getElem?_getD, List.getElem?_eq_getElem hi']
          rw [er] at r
          refine comp_fin (I₀ := I) (oa := oa) (i₁.trans inc) r off fun v d I' h'' tk' ed S' i' r' => ?_
          subst ed
          exact q v _ I' h'' tk' qf S' i' r'
      rcases m' with m' | m'
      · exact LCg.CompSrc.ledger F.handled S₁.fr S₁.news (List.mem_append_right _ m') hsz rest
      · exact LCg.CompSrc.base F.handled S₁.fr S₁.news ⟨_, F.stays _ _ m', rfl, n, rfl⟩ hsz rest
end

/-- a def some of whose parameters are closed over -/
structure IsDefC (c : Cx) (f : Addr) (qual : Str) (body : List Stmt) (scope : Scope) (cdv : Value) (names : List Str) : Prop where
  obj : ∃ name params dV kV doc pm ct oc an od osl, c.K.lookup f = some ⟨oc, od, .func (fnOf name qual params body scope dV kV doc pm an cdv ct), osl⟩ ∧
    ∀ vs : List Value, vs.length = names.length → bindArgs (fnOf name qual params body scope dV kV doc pm an cdv ct) ⟨vs, []⟩ = pure (names.zip vs)
  code : codeIn c.K cdv qual = true
  loc : ∀ x ∈ names, scope.names.lookup x = some .local ∨ scope.names.lookup x = some .cell
  nodup : ((cellsFrom 0 scope.names []).map (·.1)).Nodup
  co : scope.isCoroutine = false
  gen : scope.isGenerator = false
  kind : scope.kind = .function

abbrev fxOfC (φ : Fx) (qual : Str) (scope : Scope) (f : Addr) (cdv : Value) (g : Heap) (L : Addr) (O : Led) (k : Nat) : Fx :=
  { c := φ.c, A := φ.A.deeper (envOfC qual scope L f cdv), fe := envOfC qual scope L f cdv, env := envOfC qual scope L f cdv, h₀ := g, L := L, O₀ := O, on := "", k := k }

theorem enterC {φ : Fx} (F : Fm φ) {f : Addr} {qual : Str} {body : List Stmt} {scope : Scope} {cdv : Value} {names : List Str} (H : IsDefC φ.c f qual body scope cdv names) {m : Str → Option Value} {O I : Led} {s : Shared} {vs : List Value} {Qv : Value → Shared → Prop} {k : Nat}
    (S : St φ.h₀ φ.L O I m s) (hk : k + 1 ≤ φ.k) (hl : vs.length = names.length)
    (h : ∀ g L' h₁ tk₁ cells, St g L' (cells ++ O) I (bindL (envOfC qual scope L' f cdv).kindOf (names.zip vs) fun _ => none) (Sh s h₁ tk₁) →
      CellsAre (bindC (envOfC qual scope L' f cdv).kindOf (names.zip vs) fun _ => none) (cellsFrom (L' + 1) scope.names []) cells → (∀ O₀, Fm (fxOfC φ qual scope f cdv g L' O₀ k)) →
      wpAny (model φ.c.prog φ.c.w) (φ.A.deeper (envOfC qual scope L' f cdv)) (execs body (envOfC qual scope L' f cdv))
        (fun fl s' => ∃ m' I', St g L' (cells ++ O) I' m' s' ∧ (St φ.h₀ φ.L O I' m s' → Qv (match fl with | .ret v => v | _ => .none) s')) (fun _ _ => False) (Sh s h₁ tk₁)) :
    wpAny (model φ.c.prog φ.c.w) φ.A (call (.ref f) vs) Qv (fun _ _ => False) s := by
  obtain ⟨A₀, outer, B, hA⟩ := F.below
  obtain ⟨name, params, dV, kV, doc, pm, ct, oc, an, od, osl, ho, hb⟩ := H.obj
  have hd := F.depth
  have hu := F.units
  refine wpAny_call (code_defC B S.fr F.kin S.news F.top hA F.frame F.kind ho H.code (by omega) (BindsTo.of_eq (hb vs hl)) ?_ H.nodup (fun g L' h₁ tk cells FG F' N' Y B' X' T' lt => ?_) H.co H.gen H.kind)
  · refine List.all_eq_true.mpr fun y hy => ?_
    rcases H.loc _ (List.of_mem_zip hy).1 with e | e <;> rw [e] <;> rfl
  have Fm' : ∀ O₀, Fm (fxOfC φ qual scope f cdv g L' O₀ k) := fun O₀ => ⟨⟨φ.A, φ.fe :: outer, B', by show Option.map _ φ.A.frames = _; rw [hA]; rfl⟩, X', T', rfl, H.kind, F.handled, by show φ.A.depth + 1 + k < _; omega, by show φ.A.units + 3 + 16 * k + 100 < _; omega⟩
  have cnew : ∀ p ∈ cells, L' < p.1 := by
    have hc : ∀ (names : List (Str × NameKind)) (n : Nat) (acc : List (Str × Addr)), (∀ q ∈ acc, L' < q.2) → L' < n → ∀ q ∈ cellsFrom n names acc, L' < q.2 := by
      intro names
      induction names with
      | nil => intro n acc ha _ q hq; exact ha q hq
      | cons a r ih =>
        intro n acc ha hn q hq
        obtain ⟨y, kd⟩ := a
        unfold cellsFrom at hq
        split at hq
        · exact ih (n + 1) _ (fun q hq => by
            rcases List.mem_cons.mp hq with rfl | hq
            · exact hn
            · exact ha q hq) (Nat.lt_succ_of_lt hn) q hq
        · exact ih n acc ha hn q hq
    have hcs := hc scope.names (L' + 1) [] (by simp) (Nat.lt_succ_self _)
    have : ∀ {cs : List (Str × Addr)} {cells : Led} {cm : Str → Option Value}, CellsAre cm cs cells → (∀ q ∈ cs, L' < q.2) → ∀ p ∈ cells, L' < p.1 := by
      intro cs cells cm hh
      induction hh with
      | nil => intro _ p hp; simp at hp
      | cons _ _ ih =>
        intro hq p hp
        rcases List.mem_cons.mp hp with rfl | hp
        · exact hq _ List.mem_cons_self
        · exact ih (fun q hq' => hq q (List.mem_cons_of_mem _ hq')) p hp
    exact this Y hcs
  have S' : St g L' (cells ++ O) I (bindL (envOfC qual scope L' f cdv).kindOf (names.zip vs) fun _ => none) (Sh s h₁ tk) := by
    refine ⟨F', fun p hp => N' p ?_, fun p hp q hq => ?_⟩
    · rw [← List.append_assoc]; exact hp
    · rcases List.mem_append.mp hp with hp | hp
      · have h1 := cnew p hp
        have h2 := lt q (List.mem_append_right _ hq)
        exact Nat.ne_of_gt (Nat.lt_trans h2 h1)
      · exact S.off p hp q hq
  refine wpAny_mono (h g L' h₁ tk cells S' Y Fm') (fun fl s' ⟨m', I', S₂, q⟩ => ?_) fun _ _ e => e.elim
  exact leaveK_ S₂.fr S₂.news fun F'' N'' => q ⟨F'', fun p hp => N'' p (by
    rcases List.mem_append.mp hp with hp | hp
    · exact List.mem_append_left _ (List.mem_append_right _ hp)
    · exact List.mem_append_right _ hp), fun p hp q hq => S₂.off p (List.mem_append_right _ hp) q hq⟩

/-- a closed-over name is read from its cell -/
theorem name_cell {φ : Fx} {y : Str} {c : Addr} {o : Obj} {v : Value} (hm : (c, o) ∈ φ.O₀) (hd : o.data = .cell (some v)) (hk : φ.env.scope.kind = .function) (hy : φ.env.kindOf y = some .cell) (hl : φ.env.cells.lookup y = some c) (hdb : (y == ("__debug__" : Str)) = false) (m : Str → Option Value) : NameIs φ m y v := by
  intro O I s hs S pos Q E h
  exact wpAny_Name (wpAny_loadName_cell hk hy hl ⟨o, (S.news (c, o) (List.mem_append_left _ (hs _ hm))).1, hd⟩ h) hdb
theorem name_localC {φ : Fx} {m : Str → Option Value} {x : Str} {v : Value} (hk : φ.env.scope.kind = .function) (hx : φ.env.kindOf x = some .local) (hL : φ.env.locals = φ.L) (hm : m x = some v) (hdb : (x == ("__debug__" : Str)) = false) : NameIs φ m x v := by
  intro O I s _ S pos Q E h
  exact wpAny_Name (wpAny_loadName_local hk hx (m := m) (by rw [hL]; exact S.fr.ns) hm h) hdb
end

section

theorem bindC2 (k : Str → Option NameKind) (a b : Str) (va vb : Value) (m : Str → Option Value) : bindC k ([a, b].zip [va, vb]) m =
    (if k b = some .local then (if k a = some .local then m else fun y => if y = a then some va else m y) else fun y => if y = b then some vb else (if k a = some .local then m else fun y => if y = a then some va else m y) y) := rfl
theorem bindL2 (k : Str → Option NameKind) (a b : Str) (va vb : Value) (m : Str → Option Value) : bindL k ([a, b].zip [va, vb]) m =
    (if k b = some .local then (fun y => if y = b then some vb else (if k a = some .local then fun y => if y = a then some va else m y else m) y) else (if k a = some .local then fun y => if y = a then some va else m y else m)) := rfl

theorem isDefC {c : Cx} {f : Addr} {name qual : Str} {params : Arguments} {body : List Stmt} {scope : Scope} {dV kV doc pm cdv ct oc : Value} {an od : Option Addr} {osl : Array (Option Value)} {names : List Str}
    (ho : c.K.lookup f = some ⟨oc, od, .func (fnOf name qual params body scope dV kV doc pm an cdv ct), osl⟩) (hb : ∀ vs : List Value, vs.length = names.length → bindArgs (fnOf name qual params body scope dV kV doc pm an cdv ct) ⟨vs, []⟩ = pure (names.zip vs))
    (code : codeIn c.K cdv qual = true) (loc : ∀ x ∈ names, scope.names.lookup x = some .local ∨ scope.names.lookup x = some .cell) (nodup : ((cellsFrom 0 scope.names []).map (·.1)).Nodup) (co : scope.isCoroutine = false) (gen : scope.isGenerator = false) (kind : scope.kind = .function) : IsDefC c f qual body scope cdv names := ⟨⟨_, _, _, _, _, _, _, _, _, _, _, ho, hb⟩, code, loc, nodup, co, gen, kind⟩

abbrev fxC (c : Cx) (A : Around) (qual : Str) (scope : Scope) (f : Addr) (cdv : Value) (g : Heap) (L : Addr) (O : Led) (k : Nat) : Fx :=
  { c := c, A := A, fe := envOfC qual scope L f cdv, env := envOfC qual scope L f cdv, h₀ := g, L := L, O₀ := O, on := "", k := k }

section
variable {c : Cx} {k : Nat} {f : Addr} {qual : Str} {scope scope2 : Scope} {cdv : Value} {a b x : Str} {da db : D} {P : D → Prop} {elt e : Expr} {px rp cp pos rpos : Pos}

theorem tells_compR (H : IsDefC c f qual [.Return (some (.ListComp elt [⟨.Name x px, .Call (.Name ("range" : Str) rp) [e] [] cp, [], 0⟩] scope2 pos)) rpos] scope cdv [a, b])
    (hab : a ≠ b) (hcs : ∀ n, cellsFrom n scope.names [] = [(b, n + 1), (a, n)]) (hka : scope.names.lookup a = some .cell) (hkb : scope.names.lookup b = some .cell)
    (cl : Addr → List (Str × Addr)) (hclos : ∀ L, closureFor scope2 (envOfC qual scope L f cdv) = pure (cl L)) (hla : ∀ L, (cl L).lookup a = some (L + 1)) (hlb : ∀ L, (cl L).lookup b = some (L + 1 + 1))
    (hcell : ∀ y ∈ scope2.names, y.2 ≠ .cell) (hkind : scope2.kind = .function) (hnames : ∀ y ∈ scope2.names, y.2 = .local → scope2.names.lookup y.1 = some .local) (hx : scope2.names.lookup x = some .local)
    (hxl : ∀ L, (relabel scope2 (envOfC qual scope L f cdv)).names.lookup x = some .local) (hra : ∀ L, (relabel scope2 (envOfC qual scope L f cdv)).names.lookup a = some .cell) (hrb : ∀ L, (relabel scope2 (envOfC qual scope L f cdv)).names.lookup b = some .cell)
    (hxd : (x == ("__debug__" : Str)) = false) (had : (a == ("__debug__" : Str)) = false) (hbd : (b == ("__debug__" : Str)) = false)
    (hn : nsIn c.K mainGlobals ("range" : Str) = some none) (hxr : scope.names.lookup ("range" : Str) = some .globalImplicit)
    (h : ∀ (A : Around) (g : Heap) (L : Addr) (O : Led), JE (fxC c A qual scope f cdv g L O k) e [(a, da), (b, db)] none (fun d os₁ => ∃ (n : Int) (res : Nat → D), d = .int n ∧ 0 ≤ n ∧ n ≤ 100 ∧
      (∀ C O₀ i, i < n.toNat → JE ((fxC c A qual scope f cdv g L O k).block scope2 (cl L) C O₀) elt ((x, .int i) :: [(a, da), (b, db)]) none (fun r _ => r = res i)) ∧ P (.lst ((List.range n.toNat).map res))))
    (he : ∀ L, starEach [e] (envOfC qual scope L f cdv) = (false, eval e (envOfC qual scope L f cdv)) :: starEach [] (envOfC qual scope L f cdv))
    (hs : ∀ L v, foldedSetIterable (.Call (.Name ("range" : Str) rp) [e] [] cp) (envOfC qual scope L f cdv) v = pure v) :
    Tells c (k + 1) (.ref f) [da, db] P :=
  ⟨fun φ ec hk F m O I s vs Qv S r q => by
    subst ec
    obtain ⟨va, vb, rfl, ra, rb⟩ := r.two
    refine enterC F H (k := k) S hk rfl fun g L' h₁ tk₁ cells S' Y Fm' => ?_
    rw [hcs] at Y
    obtain ⟨ob, oa, rfl, eb, ea⟩ := Y.two
    have ka : ∀ L, (envOfC qual scope L f cdv).kindOf a = some .cell := fun _ => hka
    have kb : ∀ L, (envOfC qual scope L f cdv).kindOf b = some .cell := fun _ => hkb
    have eC : bindC (envOfC qual scope L' f cdv).kindOf ([a, b].zip [va, vb]) (fun _ => none) = fun y => if y = b then some vb else if y = a then some va else none := by
      rw [bindC2, ka, kb]
      rfl
    have eL : bindL (envOfC qual scope L' f cdv).kindOf ([a, b].zip [va, vb]) (fun _ => none) = fun _ => none := by
      rw [bindL2, ka, kb]
      rfl
    rw [eC] at eb ea
    rw [eL] at S'
    replace ea : oa.data = .cell (some va) := by rw [ea]; simp [hab]
    replace eb : ob.data = .cell (some vb) := by rw [eb]; simp
    let O' : Led := [(L' + 1 + 1, ob), (L' + 1, oa)] ++ O
    have elk : ∀ y v, [(b, L' + 1 + 1), (a, L' + 1)].lookup y = some v → (envOfC qual scope L' f cdv).cells.lookup y = some v := fun y v hh => by
      show (cellsFrom (L' + 1) scope.names []).lookup y = some v
      rw [hcs]; exact hh
    have lb : ([(b, L' + 1 + 1), (a, L' + 1)] : List (Str × Addr)).lookup b = some (L' + 1 + 1) := by simp
    have la : ([(b, L' + 1 + 1), (a, L' + 1)] : List (Str × Addr)).lookup a = some (L' + 1) := by
      have : (a == b) = false := by simpa using hab
      simp [List.lookup_cons, this]
    have two : ∀ y d, ([(a, da), (b, db)] : Rho).lookup y = some d → (y = a ∧ d = da) ∨ (y = b ∧ d = db) := by
      intro y d hy
      rw [List.lookup_cons] at hy
      by_cases q1 : y = a
      · subst q1; simp at hy; exact .inl ⟨rfl, hy.symm⟩
      · have q1' : (y == a) = false := by simpa using q1
        rw [q1'] at hy
        by_cases q2 : y = b
        · subst q2; simp at hy; exact .inr ⟨rfl, hy.symm⟩
        · have q2' : (y == b) = false := by simpa using q2
          simp [List.lookup_cons, q2'] at hy
    let φ' : Fx := fxC φ.c (φ.A.deeper (envOfC qual scope L' f cdv)) qual scope f cdv g L' O' k
    have F' : Fm φ' := Fm' O'
    have G : Good φ' (fun _ => none) 0 O' I [(a, da), (b, db)] none := by
      refine ⟨fun y d hy => ?_, rfl, fun e => by simp at e⟩
      rcases two y d hy with ⟨rfl, rfl⟩ | ⟨rfl, rfl⟩
      · exact ⟨va, ra, name_cell (φ := φ') (o := oa) (List.mem_append_left _ (List.mem_cons_of_mem _ List.mem_cons_self)) ea H.kind (ka _) (elk _ _ la) had _⟩
      · exact ⟨vb, rb, name_cell (φ := φ') (o := ob) (List.mem_append_left _ List.mem_cons_self) eb H.kind (kb _) (elk _ _ lb) hbd _⟩
    have C : Closed φ' scope2 (cl L') O' I [(a, da), (b, db)] := by
      intro y d hy
      rcases two y d hy with ⟨rfl, rfl⟩ | ⟨rfl, rfl⟩
      · exact ⟨_, oa, va, hla L', List.mem_append_left _ (List.mem_cons_of_mem _ List.mem_cons_self), ea, ra, hra L', had⟩
      · exact ⟨_, ob, vb, hlb L', List.mem_append_left _ List.mem_cons_self, eb, rb, hrb L', hbd⟩
    refine wpAny_execs_cons (wpAny_Return_some ?_)
    refine compRange_run (φ := φ') (ρ := [(a, da), (b, db)]) (ρf := [(a, da), (b, db)]) (Q := fun d _ => P d) (hclos L') hcell hkind hnames hx (hxl L') hxd hn hxr rfl rfl H.kind ((h _ g L' O').mono fun d os ⟨n, res, h1, h2, h3, h4, h5⟩ => ⟨n, res, h1, h2, h3, h4, h5⟩) (he L') (hs L') F' (fun _ => none) 0 O' I _ _ S' G C ?_
    intro v d I' h' tk' pd S₂ i₂ r₂
    exact ⟨_, I', S₂, fun S₃ => q v d I' h' tk' pd S₃ i₂ r₂⟩⟩

/-- [elt for x in e], one parameter closed over (a), one not (b) -/
theorem tells_compL (H : IsDefC c f qual [.Return (some (.ListComp elt [⟨.Name x px, e, [], 0⟩] scope2 pos)) rpos] scope cdv [a, b])
    (hab : a ≠ b) (hcs : ∀ n, cellsFrom n scope.names [] = [(a, n)]) (hka : scope.names.lookup a = some .cell) (hkb : scope.names.lookup b = some .local)
    (cl : Addr → List (Str × Addr)) (hclos : ∀ L, closureFor scope2 (envOfC qual scope L f cdv) = pure (cl L)) (hla : ∀ L, (cl L).lookup a = some (L + 1))
    (hcell : ∀ y ∈ scope2.names, y.2 ≠ .cell) (hkind : scope2.kind = .function) (hnames : ∀ y ∈ scope2.names, y.2 = .local → scope2.names.lookup y.1 = some .local) (hx : scope2.names.lookup x = some .local)
    (hxl : ∀ L, (relabel scope2 (envOfC qual scope L f cdv)).names.lookup x = some .local) (hra : ∀ L, (relabel scope2 (envOfC qual scope L f cdv)).names.lookup a = some .cell)
    (hxd : (x == ("__debug__" : Str)) = false) (had : (a == ("__debug__" : Str)) = false) (hbd : (b == ("__debug__" : Str)) = false)
    (h : ∀ (A : Around) (g : Heap) (L : Addr) (O : Led), JE (fxC c A qual scope f cdv g L O k) e [(a, da), (b, db)] none (fun d os₁ => ∃ (l : List D) (res : D → D), d = .lst l ∧ l.length ≤ 100 ∧
      (∀ C O₀ y, y ∈ l → JE ((fxC c A qual scope f cdv g L O k).block scope2 (cl L) C O₀) elt ((x, y) :: [(a, da)]) none (fun r _ => r = res y)) ∧ P (.lst (l.map res))))
    (hs : ∀ L v, foldedSetIterable e (envOfC qual scope L f cdv) v = pure v) :
    Tells c (k + 1) (.ref f) [da, db] P :=
  ⟨fun φ ec hk F m O I s vs Qv S r q => by
    subst ec
    obtain ⟨va, vb, rfl, ra, rb⟩ := r.two
    refine enterC F H (k := k) S hk rfl fun g L' h₁ tk₁ cells S' Y Fm' => ?_
    rw [hcs] at Y
    obtain ⟨oa, rfl, ea⟩ := Y.one
    have ka : ∀ L, (envOfC qual scope L f cdv).kindOf a = some .cell := fun _ => hka
    have kb : ∀ L, (envOfC qual scope L f cdv).kindOf b = some .local := fun _ => hkb
    have eC : bindC (envOfC qual scope L' f cdv).kindOf ([a, b].zip [va, vb]) (fun _ => none) = fun y => if y = a then some va else none := by
      rw [bindC2, ka, kb]
      rfl
    have eL : bindL (envOfC qual scope L' f cdv).kindOf ([a, b].zip [va, vb]) (fun _ => none) = fun y => if y = b then some vb else none := by
      rw [bindL2, ka, kb]
      rfl
    rw [eC] at ea
    rw [eL] at S'
    replace ea : oa.data = .cell (some va) := by rw [ea]; simp
    let O' : Led := [(L' + 1, oa)] ++ O
    have elk : (envOfC qual scope L' f cdv).cells.lookup a = some (L' + 1) := by
      show (cellsFrom (L' + 1) scope.names []).lookup a = some (L' + 1)
      rw [hcs]; simp
    let φ' : Fx := fxC φ.c (φ.A.deeper (envOfC qual scope L' f cdv)) qual scope f cdv g L' O' k
    have F' : Fm φ' := Fm' O'
    have G : Good φ' (fun y => if y = b then some vb else none) 0 O' I [(a, da), (b, db)] none := by
      refine ⟨fun y d hy => ?_, rfl, fun e => by simp at e⟩
      rw [List.lookup_cons] at hy
      by_cases q1 : y = a
      · subst q1
        simp at hy
        subst hy
        exact ⟨va, ra, name_cell (φ := φ') (o := oa) (List.mem_append_left _ List.mem_cons_self) ea H.kind (ka _) elk had _⟩
      · have q1' : (y == a) = false := by simpa using q1
        rw [q1'] at hy
        by_cases q2 : y = b
        · subst q2
          simp at hy
          subst hy
          exact ⟨vb, rb, name_localC (φ := φ') H.kind (kb _) rfl (if_pos rfl) hbd⟩
        · have q2' : (y == b) = false := by simpa using q2
          simp [List.lookup_cons, q2'] at hy
    have C : Closed φ' scope2 (cl L') O' I [(a, da)] := by
      intro y d hy
      rw [List.lookup_cons] at hy
      by_cases q1 : y = a
      · subst q1
        simp at hy
        subst hy
        exact ⟨_, oa, va, hla L', List.mem_append_left _ List.mem_cons_self, ea, ra, hra L', had⟩
      · have q1' : (y == a) = false := by simpa using q1
        simp [List.lookup_cons, q1'] at hy
    refine wpAny_execs_cons (wpAny_Return_some ?_)
    refine compList_run (φ := φ') (ρ := [(a, da), (b, db)]) (ρf := [(a, da)]) (Q := fun d _ => P d) (hclos L') hcell hkind hnames hx (hxl L') hxd ((h _ g L' O').mono fun d os ⟨n, res, h1, h2, h3, h4⟩ => ⟨n, res, h1, h2, h3, h4⟩) (hs L') F' _ 0 O' I _ _ S' G C ?_
    intro v d I' h' tk' pd S₂ i₂ r₂
    exact ⟨_, I', S₂, fun S₃ => q v d I' h' tk' pd S₃ i₂ r₂⟩⟩
end
end

section
section
variable {φ : Fx} {ρ : Rho} {os : Own} {Q : FD → Rho → Own → Prop}
/-- try where nothing is raised -/
theorem JX_try {body : List Stmt} {hd : ExceptHandler} {hs : List ExceptHandler} {pos : Pos} (h : JS φ body ρ os Q) : JX φ (.Try body (hd :: hs) [] [] pos) ρ os Q :=
  ⟨fun N F m oa O I s Qf S G q => by
    refine wpAny_Try_except ?_
    refine wpAny_mono (h.run N F m oa O I s (fun f s₁ => Qf f s₁) S G q) (fun f s₁ hq => ?_) (fun _ _ e => e.elim)
    cases f with
    | next => exact wpAny_execs_nil hq
    | _ => exact hq⟩
end
theorem item3a {x y z : D} : ItemOf (.tup [x, y, z]) (.int 0) x := ⟨_, 0, .inl rfl, rfl, by decide, by decide, rfl⟩
theorem item3b {x y z : D} : ItemOf (.tup [x, y, z]) (.int 1) y := ⟨_, 1, .inl rfl, rfl, by decide, by decide, rfl⟩
theorem item3c {x y z : D} : ItemOf (.tup [x, y, z]) (.int 2) z := ⟨_, 2, .inl rfl, rfl, by decide, by decide, rfl⟩

abbrev numT (a b : Int) : D := .tup [.str (Str.ofString "num"), .int a, .int b]
abbrev powT (b e : D) : D := .tup [.str (Str.ofString "pow"), b, e]
abbrev sumT (l : List D) : D := .tup [.str (Str.ofString "sum"), .tup l]
abbrev prodT (l : List D) : D := .tup [.str (Str.ofString "prod"), .tup l]
abbrev symT : D := .tup [.str (Str.ofString "sym"), .str (Str.ofString "x")]
end

section

theorem item2la {x y : D} : ItemOf (.lst [x, y]) (.int 0) x := ⟨_, 0, .inr rfl, rfl, by decide, by decide, rfl⟩
theorem item2lb {x y : D} : ItemOf (.lst [x, y]) (.int 1) y := ⟨_, 1, .inr rfl, rfl, by decide, by decide, rfl⟩
/-- a call that is handed the caller's own list first -/
structure TellsOwn (c : Cx) (k : Nat) (fv : Value) (ds : List D) (d2 : D) (P : D → List D → Prop) : Prop where
  run : ∀ φ : Fx, φ.c = c → k ≤ φ.k → Fm φ → ∀ m oa O I s vs n v2 (Qv : Value → Shared → Prop), St φ.h₀ φ.L ((oa, lobj vs n) :: O) I m s → Reps φ.c.base I vs ds → (∀ p ∈ O, p.1 ≠ oa) → Rep φ.c.base I v2 d2 →
    (∀ v d ds' vs' n' I' h' tk', P d ds' → St φ.h₀ φ.L ((oa, lobj vs' n') :: O) I' m (Sh s h' tk') → Inc I I' → Reps φ.c.base I' vs' ds' → Rep φ.c.base I' v d → Qv v (Sh s h' tk')) →
    wpAny (model φ.c.prog φ.c.w) φ.A (call fv [.ref oa, v2]) Qv (fun _ _ => False) s

theorem TellsOwn.mono {c : Cx} {k k' : Nat} {fv : Value} {ds : List D} {d2 : D} {P P' : D → List D → Prop} (h : TellsOwn c k fv ds d2 P) (hk : k ≤ k') (hp : ∀ d ds', P d ds' → P' d ds') : TellsOwn c k' fv ds d2 P' :=
  ⟨fun φ e hk' F m oa O I s vs n v2 Qv S r off r2 q => h.run φ e (Nat.le_trans hk hk') F m oa O I s vs n v2 Qv S r off r2 fun v d ds' vs' n' I' h' tk' p => q v d ds' vs' n' I' h' tk' (hp d ds' p)⟩

section
variable {φ : Fx} {ρ : Rho} {os : Own} {Q : D → Own → Prop}
theorem JE_callOwn {f x : Str} {fv : Value} {p xp pos : Pos} {e2 : Expr} {ds : List D} (hx : x = φ.on) (hn : nsIn φ.c.K mainGlobals f = some (some fv)) (hkeep : keepIn φ.c.K fv = true) (hxg : φ.env.kindOf f = some .globalImplicit) (hg : φ.env.globals = mainGlobals) (hk : φ.env.scope.kind = .function) (hd : (f == ("__debug__" : Str)) = false)
    (h : JE φ e2 ρ (some ds) (fun d2 os' => ∃ ds₂, os' = some ds₂ ∧ ∃ P, TellsOwn φ.c φ.k fv ds₂ d2 P ∧ ∀ d ds', P d ds' → Q d (some ds')))
    (he1 : starEach [.Name x xp, e2] φ.env = (false, eval (.Name x xp) φ.env) :: starEach [e2] φ.env := by rfl) (he2 : starEach [e2] φ.env = (false, eval e2 φ.env) :: starEach [] φ.env := by rfl)
    (hp : ((backTo pos (starEach [e2] φ.env)).any fun x => x.1) = false := by rfl) : JE φ (.Call (.Name f p) [.Name x xp, e2] [] pos) ρ (some ds) Q :=
  ⟨fun F m oa O I s Qv S G q => by
    subst hx
    refine Call_ (nameG_K S.fr F.kin (topRead_of F.top) hn ?_ hg hk hxg hd) rfl
    refine callWith_K F.kin hkeep (spliced_more ((G.on rfl) O I s G.own.sub S xp _ _ (spliced_more (h.run F m oa O I s _ S G fun v2 d2 os' O' I' h' tk' ⟨ds₂, e0, P, T, j⟩ S' o' e' i' r' => spliced_none ⟨F.kin.keeps S'.fr.keep, ?_⟩) he2)) he1) he1 hp
    subst e0
    obtain ⟨vs', n', eO, rr, off⟩ := id o'
    subst eO
    refine T.run φ rfl (Nat.le_refl _) F m oa φ.O₀ I' _ vs' n' v2 _ S' rr off r' fun v d ds' vs'' n'' I'' h'' tk'' pd S'' i'' rr'' r'' => ?_
    exact q v d (some ds') _ I'' h'' tk'' (j d ds' pd) S'' ⟨vs'', n'', rfl, rr'', off⟩ rfl (i'.trans i'') r''⟩

theorem tellsOwn_def {c : Cx} {k : Nat} {f : Addr} {qual : Str} {body : List Stmt} {scope : Scope} {cdv : Value} {a b : Str} {ds : List D} {d2 : D} {P : D → List D → Prop} (H : IsDef c f qual body scope cdv [a, b]) (hab : a ≠ b)
    (h : ∀ (A : Around) (g : Heap) (L : Addr) (O₀ : Led), JS { c := c, A := A, fe := envOf qual scope L f cdv, env := envOf qual scope L f cdv, h₀ := g, L := L, O₀ := O₀, on := a, k := k } body [(b, d2)] (some ds) (fun fd ρ os => ∃ d ds', os = some ds' ∧ P d ds' ∧ fd = .ret d)) :
    TellsOwn c (k + 1) (.ref f) ds d2 P :=
  ⟨fun φ ec hk F m oa O I s vs n v2 Qv S r off r2 q => by
    subst ec
    refine enter F H (k := k) S hk rfl fun g L' h₁ tk₁ S' Fm' => ?_
    have hba : (b == a) = false := by simpa using Ne.symm hab
    refine (h _ g L' O).run (fn_of H φ g L' O a k) (Fm' O a) _ oa ((oa, lobj vs n) :: O) I _ _ S' ⟨fun y d hy => ?_, ⟨vs, n, rfl, r, off⟩, fun _ => ⟨H.loc a (by simp), ?_⟩⟩ fun fl fd ρ' os' m' oa' O' I' h' tk' ⟨d, ds', e0, pd, e1⟩ S₂ G₂ i₂ fr₂ kp₂ => ?_
    · by_cases e : y = b
      · subst e
        simp at hy
        subst hy
        exact ⟨H.loc y (by simp), v2, by simp, r2⟩
      · have e' : (y == b) = false := by simpa using e
        simp [List.lookup_cons, e'] at hy
    · have : (a == b) = false := by simpa using hab
      show List.lookup a ((List.zip [a, b] [Value.ref oa, v2]).reverse) = _
      simp [List.lookup_cons, this]
    · subst e0; subst e1
      obtain ⟨eo, _⟩ := kp₂ rfl
      subst eo
      obtain ⟨vs', n', eO, rr, off'⟩ := G₂.own
      subst eO
      cases fr₂ with
      | ret r₂ => exact ⟨m', _, I', S₂, fun S₃ => q _ d ds' vs' n' I' h' tk' pd S₃ i₂ rr r₂⟩⟩
theorem JX_setOwn2 {Q : FD → Rho → Own → Prop} {x : Str} {e : Expr} {k : Int} {kk : Nat} {p kp sp pos : Pos} {ds : List D} (hx : x = φ.on) (h0 : 0 ≤ k) (hk : k < 1000) (h : JE φ e ρ (some ds) (fun d os' => ∃ ds' ds'', os' = some ds' ∧ k < ds'.length ∧ ds'.set k.toNat d = ds'' ∧ Q .next ρ (some ds'')))
    (hs : swapsWith e (some (.Subscript (.Name x p) (.Constant (.int k) kk kp) sp)) pos.line φ.env = pure false := by rfl) : JX φ (.Assign [.Subscript (.Name x p) (.Constant (.int k) kk kp) sp] e pos) ρ (some ds) Q :=
  JX_setOwn hx h0 hk (h.mono fun d os' ⟨ds', ds'', e1, e2, e3, q⟩ => ⟨ds', e1, e2, e3 ▸ q⟩) hs
theorem tells_defO {c : Cx} {k : Nat} {f : Addr} {qual : Str} {body : List Stmt} {scope : Scope} {cdv : Value} {names : List Str} {ds : List D} {P : D → Prop} (H : IsDef c f qual body scope cdv names) (hl : ds.length = names.length) (on : Str)
    (h : ∀ (A : Around) (g : Heap) (L : Addr) (O₀ : Led), JS { c := c, A := A, fe := envOf qual scope L f cdv, env := envOf qual scope L f cdv, h₀ := g, L := L, O₀ := O₀, on := on, k := k } body (names.zip ds) none (fun fd ρ os => ∃ d, P d ∧ fd = .ret d)) :
    Tells c (k + 1) (.ref f) ds P :=
  ⟨fun φ ec hk F m O I s vs Qv S r q => by
    subst ec
    have hlv : vs.length = names.length := r.length.trans hl
    refine enter F H (k := k) S hk hlv fun g L' h₁ tk₁ S' Fm' => ?_
    refine (h _ g L' O).run (fn_of H φ g L' O on k) (Fm' O on) _ 0 O I _ _ S' (good_args (φ := fxOf φ qual scope f cdv g L' O on k) H.loc H.nodup r hlv rfl 0) fun fl fd ρ' os' m' oa' O' I' h' tk' ⟨d, pd, hd⟩ S₂ G₂ i₂ fr₂ kp₂ => ?_
    subst hd
    have sub : ∀ p ∈ O, p ∈ O' := G₂.own.sub
    have S₄ : St g L' O I' m' (Sh s h' tk') := ⟨S₂.fr, fun p hp => S₂.news p (by
      rcases List.mem_append.mp hp with hp | hp
      · exact List.mem_append_left _ (sub p hp)
      · exact List.mem_append_right _ hp), fun p hp q hq => S₂.off p (sub p hp) q hq⟩
    refine ⟨m', O, I', S₄, fun S₃ => ?_⟩
    cases fr₂ with
    | ret r₂ => exact q _ d I' h' tk' pd S₃ i₂ r₂⟩
end
end

section
/-- the frame is the only one on the stack -/
def Only (φ : Fx) : Prop := ∃ A₀, Below A₀ φ.c.base [] φ.h₀ ∧ φ.A.frames = some [φ.fe] ∧ ∃ cn cs a cd, φ.fe = envOf cn cs φ.L a cd
/-- a call's contract where only the caller's frame stands -/
structure Tells1 (c : Cx) (k : Nat) (fv : Value) (ds : List D) (P : D → Prop) : Prop where
  run : ∀ φ : Fx, φ.c = c → k ≤ φ.k → Fm φ → Only φ → ∀ m O I s vs (Qv : Value → Shared → Prop), St φ.h₀ φ.L O I m s → Reps φ.c.base I vs ds →
    (∀ v d I' h' tk', P d → St φ.h₀ φ.L O I' m (Sh s h' tk') → Inc I I' → Rep φ.c.base I' v d → Qv v (Sh s h' tk')) →
    wpAny (model φ.c.prog φ.c.w) φ.A (call fv vs) Qv (fun _ _ => False) s
theorem Tells.one {c : Cx} {k k' : Nat} {fv : Value} {ds : List D} {P : D → Prop} (h : Tells c k fv ds P) (hk : k ≤ k') : Tells1 c k' fv ds P :=
  ⟨fun φ e hk' F _ m O I s vs Qv S r q => h.run φ e (Nat.le_trans hk hk') F m O I s vs Qv S r q⟩
theorem Tells1.mono {c : Cx} {k k' : Nat} {fv : Value} {ds : List D} {P : D → Prop} (h : Tells1 c k fv ds P) (hk : k ≤ k') : Tells1 c k' fv ds P :=
  ⟨fun φ e hk' F o m O I s vs Qv S r q => h.run φ e (Nat.le_trans hk hk') F o m O I s vs Qv S r q⟩
theorem JE_callK1 {φ : Fx} {ρ : Rho} {os : Own} {Q : D → Own → Prop} {x : Str} {fv : Value} {p pos : Pos} {e : Expr} {es : List Expr} (ho : Only φ) (hn : nsIn φ.c.K mainGlobals x = some (some fv)) (hkeep : keepIn φ.c.K fv = true) (hx : φ.env.kindOf x = some .globalImplicit) (hg : φ.env.globals = mainGlobals) (hk : φ.env.scope.kind = .function) (hd : (x == ("__debug__" : Str)) = false)
    (h : JEs φ (e :: es) ρ os (fun ds os' => ∃ P, Tells1 φ.c φ.k fv ds P ∧ ∀ d, P d → Q d os'))
    (he : starEach (e :: es) φ.env = (false, eval e φ.env) :: starEach es φ.env := by rfl) (hp : ((backTo pos (starEach es φ.env)).any fun x => x.1) = false := by rfl) : JE φ (.Call (.Name x p) (e :: es) [] pos) ρ os Q :=
  ⟨fun F m oa O I s Qv S G q => by
    refine Call_ (nameG_K S.fr F.kin (topRead_of F.top) hn ?_ hg hk hx hd) rfl
    refine callWith_K F.kin hkeep (h.run F pos m oa O I s _ S G fun vs ds os' O' I' h' tk' ⟨P, T, j⟩ S' o' e' i' r' => ⟨F.kin.keeps S'.fr.keep, ?_⟩) he hp
    exact T.run φ rfl (Nat.le_refl _) F ho m O' I' _ vs _ S' r' fun v d I'' h'' tk'' pd S'' i'' r'' => q v d os' O' I'' h'' tk'' (j d pd) S'' (o'.mono i'') e' (i'.trans i'') r''⟩
end

section

/-- the exception object: its class, its dict, its traceback's first row -/
def ExcAt (C : Value) (B h : Heap) (x dd : Addr) (fl : Value) : Prop :=
  ∃ oe vs T oT ts, h.get? x = some oe ∧ oe.cls = C ∧ oe.dict = some dd ∧ oe.data = .fields vs ∧ vs[1]? = some (.ref T) ∧ B.get? T = none ∧ T ≠ x ∧ h.get? T = some oT ∧ oT.data = .fields ts ∧ ts[3]? = some fl
/-- an exception on its way; B is what stays -/
structure FlyD (C : Value) (B : Heap) (l : List Env) (x dd : Addr) (fl : Value) (h : Heap) : Prop where
  stays : B.StaysIn h
  new : B.get? x = none
  frames : h.FunFrames B l
  exc : ExcAt C B h x dd fl

section
variable {M : Model} {A : Around} {E : Value → Shared → Prop} {s : Shared} {C : Value} {B : Heap} {l outer : List Env} {env : Env} {L x dd : Addr} {fl : Value} {Q : Unit → Shared → Prop}

/-- a new row of the traceback -/
theorem entryD {oe : Obj} {vs : Array Value} {head : Value} {hadNext : Bool}
    (hfr : A.frames = some (env :: outer)) (hl : s.heap.FunFrames B (env :: outer)) (hf : env.frame = some L)
    (he : s.heap.get? x = some oe) (hc : oe.cls = C) (hdi : oe.dict = some dd) (hst : B.StaysIn s.heap) (hn : B.get? x = none) (hd : oe.data = .fields vs) (hsz : 1 < vs.size)
    (h : ∀ h', FlyD C B (env :: outer) x dd (rawInt L) h' → s.heap.UpToSlots h' → Q () { s with heap := h' }) :
    wpAny M A (do let a ← frameOf env; let pl ← entryPlaceOf L hadNext; let b ← EntryCells.newEntry head a .none (rawInt L) .none pl; setField (.ref x) 1 b) Q E s := by
  have nofr : x ∉ (env :: outer).filterMap (·.frame) := fun hm => by
    obtain ⟨_, o, ho, hnf⟩ := hl.mem hm
    rw [he] at ho
    cases ho
    exact hnf vs hd
  refine wpAny_bind (wpAny_frameOf_fun hfr hl hf fun h₁ so => wpAny_bind (wpAny_entryPlaceOf fun pl hpl => ?_))
  unfold EntryCells.newEntry newFields
  refine wpAny_bind (wpAny_newObj_type ?_ (hpl.sizeOk5 _ _ _ _ _))
  have he₁ : h₁.get? x = some oe := (so.2.1 x nofr).trans he
  have st₁ : B.StaysIn h₁ := fun b o hb => (so.2.1 b fun hm => by rw [(hl.mem hm).1] at hb; cases hb).trans (hst b o hb)
  generalize htb : ({ cls := .type "traceback", dict := none, data := .fields ([head, .ref L, .none, rawInt L, .none] ++ (if pl.isEmpty then List.replicate 6 Value.none else pl)).toArray } : Obj) = tb
  have tbd : tb.data = .fields ([head, .ref L, .none, rawInt L, .none] ++ (if pl.isEmpty then List.replicate 6 Value.none else pl)).toArray := by rw [← htb]
  have he₂ : (h₁.push tb).get? x = some oe := Heap.get?_push_of_some _ he₁
  refine wpAny_setField he₂ hd hsz ?_
  have ne : h₁.objs.size ≠ x := Nat.ne_of_gt (Heap.lt_size he₁)
  have hd₃ := Obj.data_mapFields hd (·.setIfInBounds 1 (Value.ref h₁.objs.size))
  have he₃ := Heap.get?_update_self (Obj.mapFields (·.setIfInBounds 1 (Value.ref h₁.objs.size))) he₂ (Obj.isFreed_of_fields hd₃)
  have keep : ∀ b o, b ≠ x → h₁.get? b = some o → ((h₁.push tb).update x (Obj.mapFields (·.setIfInBounds 1 (Value.ref h₁.objs.size)))).get? b = some o := fun b o hbx hb => by
    rw [Heap.get?_update_other _ _ (Ne.symm hbx)]
    exact Heap.get?_push_of_some _ hb
  have ups : s.heap.UpToSlots ((h₁.push tb).update x (Obj.mapFields (·.setIfInBounds 1 (Value.ref h₁.objs.size)))) := fun b o hb hnf => by
    obtain ⟨sl, hs⟩ := so.2.2 b o hb
    exact ⟨sl, keep b _ (fun q => by rw [q, he] at hb; cases hb; exact hnf vs hd) hs⟩
  refine h _ ⟨fun b o hb => keep b o (fun q => by rw [q, hn] at hb; cases hb) (st₁ b o hb), hn, hl.of_keeps fun b o hb hnf => ?_, ?_⟩ ups
  · obtain ⟨sl, hs⟩ := ups b o hb hnf
    exact ⟨_, hs, rfl⟩
  · refine ⟨_, _, h₁.objs.size, tb, _, he₃, (Obj.cls_mapFields _ _).trans hc, ?_, hd₃, by simp [hsz], st₁.fresh, ne, ?_, tbd, ?_⟩
    · obtain ⟨c, d, dt, sl⟩ := oe
      simp only at hd hdi
      subst hd
      exact hdi
    · rw [Heap.get?_update_other _ _ (Ne.symm ne)]
      exact Heap.get?_push_size h₁ (by rw [← htb]; rfl)
    · first
        | (simp; done)
        | (rcases hpl with rfl | ⟨_, _, _, _, _, _, _, rfl⟩ <;> simp)

theorem noteD (hfr : A.frames = some (env :: outer)) (hf : env.frame = some L) (X : FlyD C B (env :: outer) x dd .none s.heap)
    (h : ∀ h', FlyD C B (env :: outer) x dd (rawInt L) h' → s.heap.UpToSlots h' → Q () { s with heap := h' }) : wpAny M A (noteFrame (.ref x) env) Q E s := by
  obtain ⟨st, hn, hl, oe, vs, T, oT, ts, he, hc, hdi, hd, h1, hT, hTx, hTg, hTd, h3⟩ := X
  unfold noteFrame
  simp only [hf]
  refine wpAny_bind (wpAny_field he hd h1 ?_)
  rw [if_pos (show (Value.ref T != Value.none) = true from by simp)]
  refine wpAny_bind (wpAny_field hTg hTd h3 ?_)
  rw [if_neg (show ¬ ((Value.none == rawInt L) = true) from by simp [rawInt])]
  refine wpAny_bind (wpAny_setField hTg hTd (Array.getElem?_eq_some_iff.mp h3).1 ?_)
  have other : ∀ b, b ≠ T → (s.heap.update T (Obj.mapFields (·.setIfInBounds 3 Value.none))).get? b = s.heap.get? b := fun b hb => Heap.get?_update_other _ _ (Ne.symm hb)
  have noT : ∀ b o, s.heap.get? b = some o → (∀ vs, o.data ≠ .fields vs) → b ≠ T := fun b o hb hnf q => by
    rw [q, hTg] at hb
    cases hb
    exact hnf ts hTd
  have ups : s.heap.UpToSlots (s.heap.update T (Obj.mapFields (·.setIfInBounds 3 Value.none))) := fun b o hb hnf => ⟨o.slots, (other b (noT b o hb hnf)).trans hb⟩
  refine entryD (C := C) (dd := dd) hfr (hl.of_keeps fun b o hb hnf => ⟨o, (other b (noT b o hb hnf)).trans hb, rfl⟩) hf ((other x (Ne.symm hTx)).trans he) hc hdi
    (fun b o hb => (other b fun q => by rw [q, hT] at hb; cases hb).trans (st b o hb)) hn hd (Array.getElem?_eq_some_iff.mp h1).1 fun h' X' u => h h' X' (ups.trans u)

/-- the first row -/
theorem noteD0 {oe : Obj} {vs : Array Value} (hfr : A.frames = some (env :: outer)) (hf : env.frame = some L) (hl : s.heap.FunFrames B (env :: outer))
    (he : s.heap.get? x = some oe) (hc : oe.cls = C) (hdi : oe.dict = some dd) (hst : B.StaysIn s.heap) (hn : B.get? x = none) (hd : oe.data = .fields vs) (h1 : vs[1]? = some .none)
    (h : ∀ h', FlyD C B (env :: outer) x dd (rawInt L) h' → s.heap.UpToSlots h' → Q () { s with heap := h' }) : wpAny M A (noteFrame (.ref x) env) Q E s := by
  unfold noteFrame
  simp only [hf]
  refine wpAny_bind (wpAny_field he hd h1 ?_)
  rw [if_neg (by decide)]
  exact entryD (C := C) (dd := dd) hfr hl hf he hc hdi hst hn hd (Array.getElem?_eq_some_iff.mp h1).1 h

/-- the frame has noted it already -/
theorem noteD1 (hf : env.frame = some L) (X : FlyD C B l x dd (rawInt L) s.heap) (h : Q () s) : wpAny M A (noteFrame (.ref x) env) Q E s := by
  obtain ⟨st, hn, hl, oe, vs, T, oT, ts, he, hc, hdi, hd, h1, hT, hTx, hTg, hTd, h3⟩ := X
  unfold noteFrame
  simp only [hf]
  refine wpAny_bind (wpAny_field he hd h1 ?_)
  rw [if_pos (show (Value.ref T != Value.none) = true from by simp)]
  refine wpAny_bind (wpAny_field hTg hTd h3 ?_)
  rw [if_pos (show (rawInt L == rawInt L) = true from by simp)]
  exact wpAny_pure h

theorem flightD (fr : Option Addr) (X : FlyD C B l x dd fl s.heap)
    (h : ∀ h', FlyD C B l x dd (fr.elim .none fun f => rawInt f) h' → s.heap.UpToSlots h' → Q () { s with heap := h' }) : wpAny M A (setFlight (.ref x) fr) Q E s := by
  obtain ⟨st, hn, hl, oe, vs, T, oT, ts, he, hc, hdi, hd, h1, hT, hTx, hTg, hTd, h3⟩ := X
  have sz : 3 < ts.size := (Array.getElem?_eq_some_iff.mp h3).1
  unfold setFlight
  refine wpAny_bind (wpAny_field he hd h1 ?_)
  rw [if_pos (show (Value.ref T != Value.none) = true from by simp)]
  refine wpAny_setField hTg hTd sz ?_
  have other : ∀ b, b ≠ T → (s.heap.update T (Obj.mapFields (·.setIfInBounds 3 (fr.elim .none fun f => rawInt f)))).get? b = s.heap.get? b := fun b hb => Heap.get?_update_other _ _ (Ne.symm hb)
  have noT : ∀ b o, s.heap.get? b = some o → (∀ vs, o.data ≠ .fields vs) → b ≠ T := fun b o hb hnf q => by
    rw [q, hTg] at hb
    cases hb
    exact hnf ts hTd
  refine h _ ⟨fun b o hb => (other b fun q => by rw [q, hT] at hb; cases hb).trans (st b o hb), hn, hl.of_keeps fun b o hb hnf => ⟨o, (other b (noT b o hb hnf)).trans hb, rfl⟩, ?_⟩ fun b o hb hnf => ⟨o.slots, (other b (noT b o hb hnf)).trans hb⟩
  exact ⟨oe, vs, T, _, _, (other x (Ne.symm hTx)).trans he, hc, hdi, hd, h1, hT, hTx, Heap.get?_update_self _ hTg (Obj.isFreed_of_fields (Obj.data_mapFields hTd _)), Obj.data_mapFields hTd _, by simp [sz]⟩
theorem FlyD.pop (X : FlyD C B (env :: outer) x dd fl s.heap) : FlyD C B outer x dd fl s.heap := ⟨X.stays, X.new, X.frames.2.2, X.exc⟩
/-- leaving a frame -/
theorem leavingD (hfr : A.frames = some (env :: outer)) (hf : env.frame = some L) (X : FlyD C B (env :: outer) x dd .none s.heap ∨ FlyD C B (env :: outer) x dd (rawInt L) s.heap)
    (h : ∀ h', FlyD C B outer x dd .none h' → s.heap.UpToSlots h' → Q () { s with heap := h' }) : wpAny M A (leaving env (.ref x)) Q E s := by
  unfold leaving
  rcases X with X | X
  · refine wpAny_bind (noteD hfr hf X fun h₁ X₁ u₁ => flightD (s := { s with heap := h₁ }) none X₁ fun h₂ X₂ u₂ => h h₂ ⟨X₂.stays, X₂.new, X₂.frames.2.2, X₂.exc⟩ (u₁.trans u₂))
  · refine wpAny_bind (noteD1 hf X (flightD none X fun h₂ X₂ u₂ => h h₂ ⟨X₂.stays, X₂.new, X₂.frames.2.2, X₂.exc⟩ u₂))
theorem leavingD0 {oe : Obj} {vs : Array Value} (hfr : A.frames = some (env :: outer)) (hf : env.frame = some L) (hl : s.heap.FunFrames B (env :: outer))
    (he : s.heap.get? x = some oe) (hc : oe.cls = C) (hdi : oe.dict = some dd) (hst : B.StaysIn s.heap) (hn : B.get? x = none) (hd : oe.data = .fields vs) (h1 : vs[1]? = some .none)
    (h : ∀ h', FlyD C B outer x dd .none h' → s.heap.UpToSlots h' → Q () { s with heap := h' }) : wpAny M A (leaving env (.ref x)) Q E s := by
  unfold leaving
  exact wpAny_bind (noteD0 hfr hf hl he hc hdi hst hn hd h1 fun h₁ X₁ u₁ => flightD (s := { s with heap := h₁ }) none X₁ fun h₂ X₂ u₂ => h h₂ ⟨X₂.stays, X₂.new, X₂.frames.2.2, X₂.exc⟩ (u₁.trans u₂))
end
end

section

def ExcNew (C : Value) (h : Heap) (x dd : Addr) : Prop := ∃ oe vs, h.get? x = some oe ∧ oe.cls = C ∧ oe.dict = some dd ∧ oe.data = .fields vs ∧ vs[1]? = some .none
/-- an exception in a frame: just made, come from below, or noted by the frame -/
structure FlyA (C : Value) (B : Heap) (l : List Env) (x dd L : Addr) (h : Heap) : Prop where
  stays : B.StaysIn h
  new : B.get? x = none
  frames : h.FunFrames B l
  exc : ExcNew C h x dd ∨ ExcAt C B h x dd .none ∨ ExcAt C B h x dd (rawInt L)
theorem FlyD.a0 {C : Value} {B h : Heap} {l : List Env} {x dd L : Addr} (X : FlyD C B l x dd .none h) : FlyA C B l x dd L h := ⟨X.stays, X.new, X.frames, .inr (.inl X.exc)⟩
theorem FlyD.a1 {C : Value} {B h : Heap} {l : List Env} {x dd L : Addr} (X : FlyD C B l x dd (rawInt L) h) : FlyA C B l x dd L h := ⟨X.stays, X.new, X.frames, .inr (.inr X.exc)⟩
section
variable {M : Model} {A : Around} {E : Value → Shared → Prop} {s : Shared} {C : Value} {B : Heap} {l outer : List Env} {env : Env} {L x dd : Addr} {fl : Value} {Q : Unit → Shared → Prop}
theorem noteA (hfr : A.frames = some (env :: outer)) (hf : env.frame = some L) (X : FlyA C B (env :: outer) x dd L s.heap)
    (h : ∀ h', FlyD C B (env :: outer) x dd (rawInt L) h' → s.heap.UpToSlots h' → Q () { s with heap := h' }) : wpAny M A (noteFrame (.ref x) env) Q E s := by
  rcases X.exc with ⟨oe, vs, he, hc, hdi, hd, h1⟩ | X1 | X1
  · exact noteD0 hfr hf X.frames he hc hdi X.stays X.new hd h1 h
  · exact noteD hfr hf ⟨X.stays, X.new, X.frames, X1⟩ h
  · exact noteD1 hf ⟨X.stays, X.new, X.frames, X1⟩ (h s.heap ⟨X.stays, X.new, X.frames, X1⟩ (.refl _))
theorem leavingA (hfr : A.frames = some (env :: outer)) (hf : env.frame = some L) (X : FlyA C B (env :: outer) x dd L s.heap)
    (h : ∀ h', FlyD C B outer x dd .none h' → s.heap.UpToSlots h' → Q () { s with heap := h' }) : wpAny M A (leaving env (.ref x)) Q E s := by
  unfold leaving
  exact wpAny_bind (noteA hfr hf X fun h₁ X₁ u₁ => flightD (s := { s with heap := h₁ }) none X₁ fun h₂ X₂ u₂ => h h₂ ⟨X₂.stays, X₂.new, X₂.frames.2.2, X₂.exc⟩ (u₁.trans u₂))
end

/-- what the exception's dict says -/
def KindIs (h : Heap) (dd : Addr) (kind : Str) : Prop := ∃ m t, h.Ns dd m ∧ m (Str.ofString "kind") = some (.str kind t)
/-- the class of the law's exceptions -/
abbrev casFail : Value := .ref 31

/-- an exception as the frame φ sees it; N: the ledger's part that is kept -/
def Flown (φ : Fx) (kind : Str) (N : Led) (x : Addr) (h : Heap) : Prop :=
  ∃ A₀ outer B dd, Below A₀ φ.c.base outer φ.h₀ ∧ φ.A.frames = some (φ.fe :: outer) ∧ φ.c.base.StaysIn B ∧
    (∀ b o, φ.h₀.get? b = some o → b ∉ outer.filterMap (·.frame) → B.get? b = some o) ∧ (∀ p ∈ N, B.get? p.1 = some p.2) ∧ FlyA casFail B (φ.fe :: outer) x dd φ.L h ∧ KindIs B dd kind ∧
    φ.h₀.UpToSlots h ∧ φ.h₀.get? φ.L = none ∧ φ.h₀.objs.size ≤ φ.L ∧ ∃ m, h.Ns φ.L m
def EP (φ : Fx) (kind : Str) (N : Led) (s : Shared) (e : Value) (s' : Shared) : Prop := ∃ x h' tk', e = .ref x ∧ s' = Sh s h' tk' ∧ Flown φ kind N x h'
theorem EP.of {φ : Fx} {kind : Str} {N : Led} {s : Shared} {h₁ : Heap} {tk₁ : Nat} {e : Value} {s' : Shared} (h : EP φ kind N (Sh s h₁ tk₁) e s') : EP φ kind N s e s' := h
theorem EP.less {φ : Fx} {kind : Str} {N N' : Led} {s : Shared} {e : Value} {s' : Shared} (i : Inc N N') (h : EP φ kind N' s e s') : EP φ kind N s e s' := by
  obtain ⟨x, h', tk', e1, e2, A₀, outer, B, dd, b1, b2, b3, b4, b5, r⟩ := h
  exact ⟨x, h', tk', e1, e2, A₀, outer, B, dd, b1, b2, b3, b4, fun p hp => b5 p (i p hp), r⟩
theorem Inc.app {O I I' : Led} (i : Inc I I') : Inc (O ++ I) (O ++ I') := fun p hp => by
  rcases List.mem_append.mp hp with h | h
  · exact List.mem_append_left _ h
  · exact List.mem_append_right _ (i p h)
theorem Inc.app2 {O O' I I' : Led} (o : ∀ p ∈ O, p ∈ O') (i : Inc I I') : Inc (O ++ I) (O' ++ I') := fun p hp => by
  rcases List.mem_append.mp hp with h | h
  · exact List.mem_append_left _ (o p h)
  · exact List.mem_append_right _ (i p h)
/-- a statement's or an expression's raise keeps the frame's given ledger and what was there -/
abbrev EX (φ : Fx) (kind : Str) (I : Led) (s : Shared) (e : Value) (s' : Shared) : Prop := EP φ kind (φ.O₀ ++ I) s e s'

structure Throws (c : Cx) (k : Nat) (fv : Value) (ds : List D) (kind : Str) : Prop where
  run : ∀ φ : Fx, φ.c = c → k ≤ φ.k → Fm φ → ∀ m O I s vs, St φ.h₀ φ.L O I m s → Reps φ.c.base I vs ds →
    wpAny (model φ.c.prog φ.c.w) φ.A (call fv vs) (fun _ _ => False) (EP φ kind (O ++ I) s) s
theorem Throws.mono {c : Cx} {k k' : Nat} {fv : Value} {ds : List D} {kind : Str} (h : Throws c k fv ds kind) (hk : k ≤ k') : Throws c k' fv ds kind :=
  ⟨fun φ e hk' => h.run φ e (Nat.le_trans hk hk')⟩
structure RE (φ : Fx) (e : Expr) (ρ : Rho) (os : Own) (kind : Str) : Prop where
  run : Fm φ → ∀ m oa O I s, St φ.h₀ φ.L O I m s → Good φ m oa O I ρ os → wpAny (model φ.c.prog φ.c.w) φ.A (eval e φ.env) (fun _ _ => False) (EX φ kind I s) s
structure RX (φ : Fx) (st : Stmt) (ρ : Rho) (os : Own) (kind : Str) : Prop where
  run : Fn φ → Fm φ → ∀ m oa O I s, St φ.h₀ φ.L O I m s → GoodS φ m oa O I ρ os → wpAny (model φ.c.prog φ.c.w) φ.A (exec st φ.env) (fun _ _ => False) (EX φ kind I s) s
structure RS (φ : Fx) (ss : List Stmt) (ρ : Rho) (os : Own) (kind : Str) : Prop where
  run : Fn φ → Fm φ → ∀ m oa O I s, St φ.h₀ φ.L O I m s → GoodS φ m oa O I ρ os → wpAny (model φ.c.prog φ.c.w) φ.A (execs ss φ.env) (fun _ _ => False) (EX φ kind I s) s

theorem wpAny_up {α : Type} {M : Model} {A : Around} {t : Sem α} {Q Q' : α → Shared → Prop} {E : Value → Shared → Prop} {s : Shared} (h : wpAny M A t Q (fun _ _ => False) s) (k : ∀ a s', Q a s' → Q' a s') : wpAny M A t Q' E s :=
  wpAny_mono h k fun _ _ e => e.elim
theorem wpAny_dn {α : Type} {M : Model} {A : Around} {t : Sem α} {Q : α → Shared → Prop} {E : Value → Shared → Prop} {s : Shared} (h : wpAny M A t (fun _ _ => False) E s) : wpAny M A t Q E s :=
  wpAny_mono h (fun _ _ e => e.elim) fun _ _ e => e

section
variable {φ : Fx} {ρ : Rho} {os : Own} {kind : Str}
theorem RE_call {x : Str} {fv : Value} {p pos : Pos} {e : Expr} {es : List Expr} (hn : nsIn φ.c.K mainGlobals x = some (some fv)) (hkeep : keepIn φ.c.K fv = true) (hx : φ.env.kindOf x = some .globalImplicit) (hg : φ.env.globals = mainGlobals) (hk : φ.env.scope.kind = .function) (hd : (x == ("__debug__" : Str)) = false)
    (h : JEs φ (e :: es) ρ os (fun ds os' => Throws φ.c φ.k fv ds kind))
    (he : starEach (e :: es) φ.env = (false, eval e φ.env) :: starEach es φ.env := by rfl) (hp : ((backTo pos (starEach es φ.env)).any fun x => x.1) = false := by rfl) : RE φ (.Call (.Name x p) (e :: es) [] pos) ρ os kind :=
  ⟨fun F m oa O I s S G => by
    refine Call_ (nameG_K S.fr F.kin (topRead_of F.top) hn ?_ hg hk hx hd) rfl
    refine callWith_K F.kin hkeep (wpAny_up (h.run F pos m oa O I s (fun vs s' => φ.c.K.In s'.heap ∧ wpAny (model φ.c.prog φ.c.w) φ.A (call fv vs) (fun _ _ => False) (EX φ kind I s) s') S G fun vs ds os' O' I' h' tk' T S' o' e' i' r' => ?_) fun _ _ h => h) he hp
    exact ⟨F.kin.keeps S'.fr.keep, wpAny_mono (T.run φ rfl (Nat.le_refl _) F m O' I' _ vs S' r') (fun _ _ h => h.elim) fun _ _ h => (EP.less (Inc.app2 o'.sub i') h).of⟩⟩
theorem RE_callArg {x : Str} {fv : Value} {p pos : Pos} {e : Expr} {es : List Expr} (hn : nsIn φ.c.K mainGlobals x = some (some fv)) (hkeep : keepIn φ.c.K fv = true) (hx : φ.env.kindOf x = some .globalImplicit) (hg : φ.env.globals = mainGlobals) (hk : φ.env.scope.kind = .function) (hd : (x == ("__debug__" : Str)) = false)
    (h : RE φ e ρ os kind)
    (he : starEach (e :: es) φ.env = (false, eval e φ.env) :: starEach es φ.env := by rfl) (hp : ((backTo pos (starEach es φ.env)).any fun x => x.1) = false := by rfl) : RE φ (.Call (.Name x p) (e :: es) [] pos) ρ os kind :=
  ⟨fun F m oa O I s S G => by
    refine Call_ (nameG_K S.fr F.kin (topRead_of F.top) hn ?_ hg hk hx hd) rfl
    exact callWith_K F.kin hkeep (spliced_more (wpAny_dn (h.run F m oa O I s S G)) he) he hp⟩
theorem RX_ret {e : Expr} {pos : Pos} (h : RE φ e ρ os kind) : RX φ (.Return (some e) pos) ρ os kind :=
  ⟨fun N F m oa O I s S G => wpAny_Return_some (wpAny_dn (h.run F m oa O I s S (G.good N)))⟩
theorem RX_assign {x : Str} {e : Expr} {px pos : Pos} (h : RE φ e ρ os kind) (hs : swapsWith e (some (.Name x px)) pos.line φ.env = pure false := by rfl) : RX φ (.Assign [.Name x px] e pos) ρ os kind :=
  ⟨fun N F m oa O I s S G => wpAny_Assign_Name (wpAny_dn (h.run F m oa O I s S (G.good N))) hs⟩
theorem RX_if {t : Expr} {a b : List Stmt} {pos : Pos} (h : JT φ t ρ os (fun c os₁ => if c = true then RS φ a ρ os₁ kind else RS φ b ρ os₁ kind)) : RX φ (.If t a b pos) ρ os kind :=
  ⟨fun N F m oa O I s S G => wpAny_If (wpAny_up (h.run F m oa O I s (fun c s' => wpAny (model φ.c.prog φ.c.w) φ.A (execs (if c = true then a else b) φ.env) (fun _ _ => False) (EX φ kind I s) s') S (G.good N) fun c os₁ O₁ I₁ h₁ tk₁ j S₁ o₁ e₁ i₁ => by
    cases c with
    | true => exact wpAny_mono ((show RS φ a ρ os₁ kind from j).run N F m oa O₁ I₁ _ S₁ (G.next i₁ o₁ e₁)) (fun _ _ h => h) fun _ _ h => EP.less (Inc.app i₁) h
    | false => exact wpAny_mono ((show RS φ b ρ os₁ kind from j).run N F m oa O₁ I₁ _ S₁ (G.next i₁ o₁ e₁)) (fun _ _ h => h) fun _ _ h => EP.less (Inc.app i₁) h) fun c s' h => by
      cases c with
      | true => exact wpAny_dn h
      | false => exact wpAny_dn h)⟩
theorem RS_here {st : Stmt} {ss : List Stmt} (h : RX φ st ρ os kind) : RS φ (st :: ss) ρ os kind :=
  ⟨fun N F m oa O I s S G => wpAny_execs_cons (wpAny_dn (h.run N F m oa O I s S G))⟩
theorem RS_skip {st : Stmt} {ss : List Stmt} (h : JX φ st ρ os (fun fd ρ' os' => fd = .next ∧ RS φ ss ρ' os' kind)) : RS φ (st :: ss) ρ os kind :=
  ⟨fun N F m oa O I s S G => wpAny_execs_cons (wpAny_up (h.run N F m oa O I s (fun f s' => match f with | .next => wpAny (model φ.c.prog φ.c.w) φ.A (execs ss φ.env) (fun _ _ => False) (EX φ kind I s) s' | _ => False) S G fun f fd ρ' os' m' oa' O' I' h' tk' ⟨e, j⟩ S' G' i' fr' kp' => by
    subst e
    cases fr'
    exact wpAny_mono (j.run N F m' oa' O' I' _ S' G') (fun _ _ h => h) fun _ _ h => EP.less (Inc.app i') h) fun f s' h => by
      cases f with
      | next => exact wpAny_dn h
      | _ => exact h.elim)⟩
theorem RS_norm {ss : List Stmt} {ρ' : Rho} (e : ρ = ρ') (h : RS φ ss ρ' os kind) : RS φ ss ρ os kind := e ▸ h
end

theorem mem_fe {fe : Env} {L b : Addr} {outer : List Env} (hf : fe.frame = some L) (hm : b ∈ (fe :: outer).filterMap (·.frame)) : b = L ∨ b ∈ outer.filterMap (·.frame) := by
  obtain ⟨env, he, hf'⟩ := List.mem_filterMap.mp hm
  rcases List.mem_cons.mp he with rfl | he
  · rw [hf] at hf'
    exact .inl (Option.some.inj hf').symm
  · exact .inr (List.mem_filterMap.mpr ⟨env, he, hf'⟩)
/-- a def whose body raises -/
theorem throws_def {c : Cx} {k : Nat} {f : Addr} {qual : Str} {body : List Stmt} {scope : Scope} {cdv : Value} {names : List Str} {ds : List D} {kind : Str} (H : IsDef c f qual body scope cdv names) (hl : ds.length = names.length) (on : Str)
    (h : ∀ (A : Around) (g : Heap) (L : Addr) (O₀ : Led), RS { c := c, A := A, fe := envOf qual scope L f cdv, env := envOf qual scope L f cdv, h₀ := g, L := L, O₀ := O₀, on := on, k := k } body (names.zip ds) none kind) : Throws c (k + 1) (.ref f) ds kind :=
  ⟨fun φ ec hk F m O I s vs S r => by
    subst ec
    have hlv : vs.length = names.length := r.length.trans hl
    obtain ⟨A₀, outer, B, hA⟩ := F.below
    obtain ⟨name, params, dV, kV, doc, pm, ct, oc, an, od, osl, ho, hb⟩ := H.obj
    have hd := F.depth
    have hu := F.units
    refine wpAny_call (code_def B S.fr F.kin S.news F.top hA F.frame F.kind ho H.code (by omega) (BindsTo.of_eq (hb vs hlv)) (fun y hy => H.loc _ (List.of_mem_zip hy).1) (fun g L' h₁ FG F' N' B' X' T' => ?_) H.co H.gen H.kind H.cell)
    have hA' : (φ.A.deeper (envOf qual scope L' f cdv)).frames = some (envOf qual scope L' f cdv :: φ.fe :: outer) := by show Option.map _ φ.A.frames = _; rw [hA]; rfl
    have Fm' : Fm (fxOf φ qual scope f cdv g L' O on k) := ⟨⟨φ.A, φ.fe :: outer, B', hA'⟩, X', T', rfl, H.kind, F.handled, by show φ.A.depth + 1 + k < _; omega, by show φ.A.units + 3 + 16 * k + 100 < _; omega⟩
    refine wpAny_mono ((h _ g L' O).run (fn_of H φ g L' O on k) Fm' _ 0 O I _ ⟨F', N', S.off⟩ (good_args (φ := fxOf φ qual scope f cdv g L' O on k) H.loc H.nodup r hlv rfl 0)) (fun _ _ e => e.elim) fun e s' ⟨x, h', tk', e1, e2, A₁, outer₁, B₂, dd, b1, b2, b3, b4, b5, b6, b7, b8, b9, b10, b11⟩ => ?_
    subst e1; subst e2
    have eo : outer₁ = φ.fe :: outer := by
      have := b2.symm.trans hA'
      injection this with this
      injection this
    subst eo
    refine leavingA hA' rfl b6 fun h'' X'' u'' => ?_
    have up : g.UpToSlots h'' := b8.trans u''
    refine ⟨x, h'', tk', rfl, rfl, A₀, outer, B₂, dd, B, hA, b3, fun b o hb hm => b4 b o (FG.keep b o hb) fun hm' => ?_, b5, X''.a0, b7, (Heap.UpToSlots.of_keeps FG.keep).trans up, kts_self FG, FG.above, m, up.ns FG.ns⟩
    rcases mem_fe F.frame hm' with z | z
    · rw [z, kts_self FG] at hb
      cases hb
    · exact hm z⟩
end

section
section
variable {φ : Fx} {ρ : Rho} {os : Own} {kind : Str}

theorem EP_passes {N : Led} {s : Shared} (F : Fm φ) (Nn : Fn φ) : PassesOwn (model φ.c.prog φ.c.w) φ.A φ.env (EP φ kind N s) := by
  rintro e s' ⟨x, h', tk', rfl, rfl, A₀, outer, B, dd, b1, b2, b3, b4, b5, b6, b7, b8, b9, b10, m, b11⟩
  have hfe : φ.fe = φ.env := Nn.fe
  have hf : φ.env.frame = some φ.L := by rw [← hfe]; exact F.frame
  rw [hfe] at b2 b6
  refine noteA (s := Sh s h' tk') b2 hf b6 fun h₁ X₁ u₁ => ?_
  obtain ⟨st, hn, hl, oe, vs, T, oT, ts, he, hc, hdi, hd, h1, hT, hTx, hTg, hTd, h3⟩ := id X₁
  refine wpAny_bind (wpAny_field he hd h1 ?_)
  rw [if_neg (show ¬ ((Value.ref T == Value.none) = true) from by simp)]
  rw [hf]
  refine flightD (s := { Sh s h' tk' with heap := h₁ }) (some φ.L) X₁ fun h₂ X₂ u₂ => ?_
  exact ⟨x, h₂, tk', rfl, rfl, A₀, outer, B, dd, b1, by rw [hfe]; exact b2, b3, b4, b5, by rw [hfe]; exact X₂.a1, b7, (b8.trans u₁).trans u₂, b9, b10, m, (u₁.trans u₂).ns b11⟩

/-- a for one of whose turns raises -/
theorem loop_coreR (N : Fn φ) (F : Fm φ) {x : Str} {body : List Stmt} (hk : φ.env.kindOf x = some .local) (hx : x ≠ φ.on) {It : Addr} {fp : List Addr} {n : Nat} {P : Nat → Value → Prop} {StI : Nat → Heap → Prop}
    (W : Walks φ.c.prog φ.c.w φ.A It fp [It] n P StI) {m : Str → Option Value} {oa : Addr} {O I : Led} {s : Shared} {Qf : Flow → Shared → Prop}
    (hfp : ∀ b ∈ fp, b = It ∨ (φ.h₀.get? b = none → ∃ o, (b, o) ∈ I)) (hLf : φ.L ∉ fp) (hItf : It ∈ fp) (hItn : φ.h₀.get? It = none) (hItO : ∀ p ∈ O ++ I, p.1 ≠ It) (hsome : ∀ i h, StI i h → ∃ o, h.get? It = some o) (hst : StI 0 s.heap)
    (S : St φ.h₀ φ.L O I m s) (G : GoodS φ m oa O I ρ os) (dat : Nat → D) (hdat : ∀ i v, i < n → P i v → Rep φ.c.base I v (dat i))
    (Inv : Nat → Rho → Own → Prop) (h0 : Inv 0 ρ os)
    (turn : ∀ O₀ i ρ os, i < n → Inv i ρ os → (JS (φ.wide O₀) body (upd x (dat i) ρ) os (fun fd ρ' os' => fd = .next ∧ Inv (i + 1) ρ' os') ∨ RS (φ.wide O₀) body (upd x (dat i) ρ) os kind))
    {Ex : Value → Shared → Prop} (hE : ∀ e s', EX φ kind I s e s' → Ex e s')
    (done : ∀ ρ' os' m' oa' O' I' h' tk', Inv n ρ' os' → St φ.h₀ φ.L O' I' m' (Sh s h' tk') → GoodS φ m' oa' O' I' ρ' os' → Inc I I' → Kept os oa .next os' oa' → Qf .next (Sh s h' tk')) :
    LoopAtV φ.c.prog φ.c.w φ.A φ.h₀ φ.env x body Qf Ex (.ref It) s := by
  let J : Nat → (Str → Option Value) → List (Addr × Obj) → Prop := fun i m₁ news₁ => ∃ oa₁ O₁ I₁ ρ₁ os₁, news₁ = O₁ ++ I₁ ∧ (∀ p ∈ O₁, ∀ q ∈ I₁, p.1 ≠ q.1) ∧ GoodS φ m₁ oa₁ O₁ I₁ ρ₁ os₁ ∧ Inc I I₁ ∧ Kept os oa .next os₁ oa₁ ∧ Inv i ρ₁ os₁
  refine ⟨It, fp, [It], n, P, StI, m, O ++ I, J, rfl, W, by rw [N.loc]; exact hLf, fun b hb => by rw [List.mem_singleton.mp hb]; exact hItn, fun p hp hm => hItO p hp (List.mem_singleton.mp hm), hst, by rw [N.loc]; exact S.fr, by rw [N.loc]; exact S.news,
    ⟨oa, O, I, ρ, os, rfl, S.off, G, Inc.refl, fun e => ⟨rfl, fun _ => e⟩, h0⟩, ?_, ?_⟩
  · rintro i v m₁ news₁ s₁ own ⟨hh, tk, rfl⟩ hi hP ⟨oa₁, O₁, I₁, ρ₁, os₁, rfl, off₁, G₁, i₁, k₁, v₁⟩ hnw hown hget hall hst₁ F₁ N₁
    rw [N.loc] at F₁ N₁ ⊢
    have hItN : ∀ p ∈ O₁ ++ I₁, p.1 ≠ It := fun p hp e => hnw p hp (List.mem_singleton.mpr e)
    let oi := own.filter (fun p => decide (p.1 = It))
    have moi : ∀ p, p ∈ oi ↔ p ∈ own ∧ p.1 = It := fun p => by simp [oi]
    obtain ⟨oIt, hoIt⟩ := hsome _ _ hst₁
    have hitm : (It, oIt) ∈ oi := (moi _).mpr ⟨hall It hItf hItn oIt hoIt, rfl⟩
    have hd := hdat i v hi hP
    -- the ledger with the iterator kept
    have S₁ : St φ.h₀ φ.L (O₁ ++ oi) I₁ (fun y => if y = x then some v else m₁ y) (Sh s hh tk) := by
      refine ⟨F₁, fun p hp => ?_, fun p hp q hq => ?_⟩
      · rcases List.mem_append.mp hp with hp | hp
        · rcases List.mem_append.mp hp with hp | hp
          · exact N₁ p (List.mem_append_right _ (List.mem_append_left _ hp))
          · exact N₁ p (List.mem_append_left _ ((moi p).mp hp).1)
        · exact N₁ p (List.mem_append_right _ (List.mem_append_right _ hp))
      · rcases List.mem_append.mp hp with hp | hp
        · exact off₁ p hp q hq
        · rw [((moi p).mp hp).2]
          exact Ne.symm (hItN q (List.mem_append_right _ hq))
    have G₂ : GoodS (φ.wide (φ.O₀ ++ oi)) (fun y => if y = x then some v else m₁ y) oa₁ (O₁ ++ oi) I₁ (upd x (dat i) ρ₁) os₁ := by
      have g := G₁.set hk hx (hd.mono i₁)
      refine ⟨g.names, ?_, g.on⟩
      have ow := g.own
      cases os₁ with
      | none => show O₁ ++ oi = φ.O₀ ++ oi; rw [show O₁ = φ.O₀ from ow]
      | some ds =>
        obtain ⟨vs, n', eO, r, of⟩ := ow
        refine ⟨vs, n', by rw [eO]; rfl, r, fun p hp => ?_⟩
        rcases List.mem_append.mp hp with hp | hp
        · exact of p hp
        · rw [((moi p).mp hp).2]
          exact Ne.symm (hItN (oa₁, lobj vs n') (List.mem_append_left _ (by rw [eO]; exact List.mem_cons_self)))
    rcases turn (φ.O₀ ++ oi) i ρ₁ os₁ hi v₁ with T | T
    rotate_left
    · exact wpAny_mono (T.run (N.wide _) (F.wide _) _ oa₁ _ I₁ _ S₁ G₂) (fun _ _ h => h.elim) fun _ _ h => hE _ _ (EP.less (Inc.app2 (fun p hp => List.mem_append_left _ hp) i₁) h : EP (φ.wide (φ.O₀ ++ oi)) kind (φ.O₀ ++ I) s _ _)
    refine wpAny_mono (T.run (N.wide _) (F.wide _) _ oa₁ _ I₁ _ (LoopStepV φ.h₀ φ.L [It] own (J (i + 1)) (Sh s hh tk) (fun v s' => Qf (.ret v) s') fun s' => Qf .next s') S₁ G₂ ?_) (fun _ _ h => h) (fun _ _ e => e.elim)
    intro f fd ρ₂ os₂ m₂ oa₂ O₂ I₂ h₂ tk₂ ⟨efd, iv⟩ S₂ G₃ i₂ fr₂ kp₂
    subst efd
    cases fr₂
    -- the iterator is taken off again
    have hO : ∃ O₃ : Led, (∀ p, p ∈ O₂ ↔ p ∈ O₃ ∨ p ∈ oi) ∧ (∀ p ∈ O₃, p.1 ≠ It) ∧ GoodS φ m₂ oa₂ O₃ I₂ ρ₂ os₂ := by
      have O0It : ∀ p ∈ φ.O₀, p.1 ≠ It := fun p hp => hItO p (List.mem_append_left _ (G.own.sub p hp))
      have ow := G₃.own
      cases os₂ with
      | none =>
        have e : O₂ = φ.O₀ ++ oi := ow
        exact ⟨φ.O₀, fun p => by rw [e]; exact List.mem_append, O0It, ⟨G₃.names, rfl, G₃.on⟩⟩
      | some ds =>
        obtain ⟨vs, n', eO, r, of⟩ := ow
        refine ⟨(oa₂, lobj vs n') :: φ.O₀, fun p => ?_, fun p hp => ?_, ⟨G₃.names, ⟨vs, n', rfl, r, fun p hp => of p (List.mem_append_left _ hp)⟩, G₃.on⟩⟩
        · rw [eO]
          constructor
          · intro hp
            rcases List.mem_cons.mp hp with rfl | hp
            · exact .inl List.mem_cons_self
            · exact (List.mem_append.mp hp).imp (List.mem_cons_of_mem _) id
          · rintro (hp | hp)
            · rcases List.mem_cons.mp hp with rfl | hp
              · exact List.mem_cons_self
              · exact List.mem_cons_of_mem _ (List.mem_append_left _ hp)
            · exact List.mem_cons_of_mem _ (List.mem_append_right _ hp)
        · rcases List.mem_cons.mp hp with rfl | hp
          · exact Ne.symm (of (It, oIt) (List.mem_append_right _ hitm))
          · exact O0It p hp
    obtain ⟨O₃, hO₃, hOIt, G₄⟩ := hO
    have hI₂It : ∀ q ∈ I₂, q.1 ≠ It := fun q hq => Ne.symm (S₂.off (It, oIt) ((hO₃ _).mpr (.inr hitm)) q hq)
    refine LoopStepV.next ⟨rfl, h₂, tk₂, m₂, O₃ ++ I₂, rfl, S₂.fr, fun p hp => ?_, fun p hp hm => ?_, oa₂, O₃, I₂, ρ₂, os₂, rfl, fun p hp q hq => S₂.off p ((hO₃ p).mpr (.inl hp)) q hq, G₄, i₁.trans i₂, fun e => ?_, iv⟩
    · rcases List.mem_append.mp hp with hp | hp
      · by_cases e : p.1 = It
        · exact S₂.news p (List.mem_append_left _ ((hO₃ p).mpr (.inr ((moi p).mpr ⟨hp, e⟩))))
        · rcases hfp p.1 (hown p hp) with e' | e'
          · exact absurd e' e
          · have z := N₁ p (List.mem_append_left _ hp)
            obtain ⟨o, ho⟩ := e' z.2.2
            have h1 := (S₁.news (p.1, o) (List.mem_append_right _ (i₁ _ ho))).1
            have h2 : o = p.2 := Option.some.inj (h1.symm.trans (hget p hp))
            have := S₂.news (p.1, o) (List.mem_append_right _ (i₂ _ (i₁ _ ho)))
            rw [h2] at this
            exact this
      · rcases List.mem_append.mp hp with hp | hp
        · exact S₂.news p (List.mem_append_left _ ((hO₃ p).mpr (.inl hp)))
        · exact S₂.news p (List.mem_append_right _ hp)
    · rcases List.mem_append.mp hp with hp | hp
      · exact hOIt p hp (List.mem_singleton.mp hm)
      · exact hI₂It p hp (List.mem_singleton.mp hm)
    · obtain ⟨a1, a2⟩ := k₁ e
      obtain ⟨a3, a4⟩ := kp₂ (a2 rfl)
      exact ⟨a3.trans a1, a4⟩
  · rintro h' tk' m' news' F' N' hw ⟨oa₁, O₁, I₁, ρ₁, os₁, rfl, off₁, G₁, i₁, k₁, v₁⟩
    rw [N.loc] at F' N'
    exact done ρ₁ os₁ m' oa₁ O₁ I₁ h' tk' v₁ ⟨F', N', off₁⟩ G₁ i₁ k₁

/-- for x in a tuple -/
theorem RX_forTup {x : Str} {iter : Expr} {body : List Stmt} {px pos : Pos} (hk : φ.env.kindOf x = some .local) (hx : (x == φ.on) = false)
    (h : JE φ iter ρ os (fun d os₁ => ∃ (l : List D) (Inv : Nat → Rho → Own → Prop), d = .tup l ∧ Inv 0 ρ os₁ ∧ (∀ O₀ i ρ os e, l[i]? = some e → Inv i ρ os → JS (φ.wide O₀) body (upd x e ρ) os (fun fd ρ' os' => fd = .next ∧ Inv (i + 1) ρ' os') ∨ RS (φ.wide O₀) body (upd x e ρ) os kind) ∧
      ∀ ρ' os', Inv l.length ρ' os' → False))
    (hs : ∀ v, foldedSetIterable iter φ.env v = pure v := by intro _; rfl) : RX φ (.For (.Name x px) iter body [] pos) ρ os kind :=
  ⟨fun N F m oa O I s S G => by
    refine For_invVF (h₀ := φ.h₀) (m := m) (by rw [N.loc]; exact S.fr) hk (fold_of N) (wpAny_up (h.run F m oa O I s (fun xv s₁ => wpAny (model φ.c.prog φ.c.w) φ.A (pyIter xv) (fun it s₂ => LoopAtV φ.c.prog φ.c.w φ.A φ.h₀ φ.env x body (fun _ _ => False) (EX φ kind I s) it s₂) (EX φ kind I s) s₁) S (G.good N) fun v d os₁ O₁ I₁ h₁ tk₁ qq S₁ o₁ e₁ i₁ r₁ => ?_) fun _ _ h => h) hs (EP_passes F N)
    obtain ⟨l, Inv, rfl, h0, turn, fin⟩ := qq
    cases r₁ with
    | tup a vs n ds m' rr =>
      have ha := S₁.mem F m'
      have hlt : a < h₁.objs.size := Heap.lt_size ha
      refine wpAny_pyIter_tuple (items := vs.toArray) ⟨_, ha, rfl, n, rfl⟩ ?_
      have up : ∀ b o, h₁.get? b = some o → (h₁.push { cls := Value.type "tuple_iterator", data := Data.fields #[Value.ref a, Value.int 0 0] }).get? b = some o := fun b o e => Heap.get?_push_of_some _ e
      have S₂ : St φ.h₀ φ.L O₁ I₁ m (Sh s (h₁.push { cls := Value.type "tuple_iterator", data := Data.fields #[Value.ref a, Value.int 0 0] }) tk₁) := ⟨S₁.fr.keeps up, S₁.news.grown up, S₁.off⟩
      have el : vs.toArray.size = l.length := by simp [rr.length]
      have W := Walks.tuple (prog := φ.c.prog) (w := φ.c.w) F.handled h₁.objs.size a (Nat.ne_of_lt hlt) vs.toArray
      refine loop_coreR (kind := kind) (n := vs.toArray.size) N F hk (ne_of hx) W (m := m) (oa := oa) (O := O₁) (I := I₁) (ρ := ρ) (os := os₁) ?_ ?_ (by simp) (next_is_new S₁.fr) (fun p hp => Nat.ne_of_lt (Heap.lt_size (S₁.news p hp).1)) ?_ ?_ S₂ (G.next i₁ o₁ e₁) (fun i => l.getD i .none) ?_ Inv h0 ?_ (fun e s' h => EP.less (Inc.app i₁) h) ?_
      · intro b hb
        rcases List.mem_cons.mp hb with rfl | hb
        · exact .inl rfl
        · rw [List.mem_singleton.mp hb]
          refine .inr fun hn => ?_
          rcases m' with m' | m'
          · exact ⟨_, m'⟩
          · have := F.stays _ _ m'
            rw [hn] at this
            cases this
      · intro hm
        have hL := S₁.fr.ns.lt
        rcases List.mem_cons.mp hm with e | hm
        · exact absurd hL (by rw [e]; exact Nat.lt_irrefl _)
        · have e := List.mem_singleton.mp hm
          rcases m' with m' | m'
          · exact (S₁.news _ (List.mem_append_right _ m')).2.1 e.symm
          · have h1 := Heap.lt_size (F.stays _ _ m')
            exact absurd (Nat.lt_of_lt_of_le h1 S₁.fr.above) (by rw [e]; exact Nat.lt_irrefl _)
      · rintro i h ⟨⟨o, ho, _⟩, _⟩
        exact ⟨o, ho⟩
      · exact ⟨⟨_, Heap.get?_push_size _ rfl, rfl, rfl⟩, ⟨_, up _ _ ha, rfl, n, rfl⟩⟩
      · intro i v hi hP
        have hP' : vs[i]? = some v := by simpa using hP
        obtain ⟨d, hd, rd⟩ := rr.get' hP'
        rw [List.getD_eq_getElem?_getD, hd]
        exact rd
      · intro O₀ i ρ' os' hi hv
        have hi' : i < l.length := by rw [← el]; exact hi
        have he : l[i]? = some (l.getD i .none) := by rw [List.getD_eq_getElem?_getD, List.getElem?_eq_getElem hi']; rfl
        exact turn O₀ i ρ' os' _ he hv
      · intro ρ' os' m' oa' O' I' h' tk' hv S' G' i' k'
        rw [el] at hv
        exact fin ρ' os' hv⟩
end
end

section
open Builtin Builtin.ObjectAttr

section
variable {prog : Program} {w : World} {A : Around} {E : Value → Shared → Prop} {h : Heap} {g : Array GenState} {d : Drawn} {t : Nat} {os : OsState}
variable {nm q : Str} {C N x : Addr} {bs bm : List Value} {sn : List Str} {sub : List Value} {ab : Bool} {col : Option Bool} {dd : Option Addr} {k0 k1 k2 k3 k5 : Option Value} {B newId sa owner : String}
  {mN : Str → Option Value} {name : Str} {v : Value}

/-- the first field of an object: it gets its dict, a new object -/
theorem first_attr {o : Obj} {vs : Array Value} {Q : Unit → Shared → Prop} (SF : StoreFacts B bm sa owner)
    (hC : h.get? C = some (excClassObj nm q C N bs bm true sn sub ab col dd k0 k1 k2 k3 k5 newId)) (hn : h.Ns N mN) (hns : mN "__setattr__" = none) (hna : mN name = none)
    (hB : typeLookup (.type B) name = pure none) (hx : h.get? x = some o) (hc : o.cls = .ref C) (hdn : o.dict = none) (hdf : o.data = .fields vs)
    (hq : ∀ h' tk', h'.get? x = some { cls := o.cls, dict := some h.objs.size, data := o.data, slots := o.slots } → h'.Ns1 h.objs.size (fun y => if y = name then some v else none) →
      (∀ b ob, b ≠ x → h.get? b = some ob → h'.get? b = some ob) → Q () ⟨h', g, d, tk', os⟩) :
    wpAny (model prog w) A (setAttr (.ref x) name v) Q E ⟨h, g, d, t, os⟩ := by
  have f3 := SF.slot.bind (.ref x)
  have hpass := SF.passes (.ref x)
  unfold setAttr callSpecial? specialOf
  repeat (any_goals (first | assumption | (with_reducible refine wpAny_loadPart_at hx ?_; rw [hc]) | (with_reducible refine wpAny_typeLookup_exc hC hn SF.mro SF.slot.lookup ?_; rw [hns]) | wp_step))
  refine codeAny_call_builtin SF.slot.plain SF.entry (wpAny_check_sa SF hC hx hc ?_)
  unfold Builtin.«object.__setattr__»
  repeat (first | rw [refuse_eq] | (rw [refuseLoop_ref, hpass]) | (with_reducible refine wpAny_loadPart_at hx ?_; rw [hc]) | with_reducible refine wpAny_mroOf_exc hC ?_ | (with_reducible refine wpAny_typeLookup_exc hC hn SF.mro hB ?_; rw [hna]) | wp_step)
  rw [hdn, if_neg (by simp [typeHasDict]), hdf]
  have hx₁ : (h.push { cls := .type "dict", data := .dict #[] }).get? x = some o := Heap.get?_push_of_some _ hx
  have hxs : x ≠ h.objs.size := Nat.ne_of_lt (Heap.lt_size hx)
  refine wpAny_bind (wpAny_alloc' (wpAny_bind (wpAny_update' hx₁ (wpAny_pure ?_))))
  have hgd : ((h.push { cls := .type "dict", data := .dict #[] }).update x fun o => { cls := o.cls, dict := some h.objs.size, data := o.data, slots := o.slots }).get? h.objs.size
      = some { cls := .type "dict", data := .dict #[] } :=
    (Heap.get?_update_ne _ _ _ _ hxs.symm).trans (Heap.get?_push_at rfl rfl)
  have hnd : Heap.Ns ((h.push { cls := .type "dict", data := .dict #[] }).update x fun o => { cls := o.cls, dict := some h.objs.size, data := o.data, slots := o.slots }) h.objs.size (fun _ => none) :=
    ⟨_, #[], _, hgd, rfl, fun e he => absurd he (by simp), fun _ => rfl⟩
  show wpAny _ _ (storeInDict h.objs.size (.str name _) name v) _ _ _
  unfold storeInDict newKeyGuard
  refine wpAny_bind (wpAny_pure (wpAny_bind (wpAny_nsSet1 (Heap.Ns1.of_empty hnd) fun h' hn' hs => ?_)))
  obtain ⟨oD, esD, epD, hoD, hdD, hcD⟩ := hn'.count (Within.cons name v Within.nil)
  refine wpAny_bind (wpAny_lookBehind hoD (by rw [hdD]; exact pastItsLine_dict (Nat.le_trans hcD (by rw [List.length_cons, List.length_nil, sizeLine_eq]; omega))) ?_)
  repeat (any_goals (first | assumption | wp_step))
  refine hq h' _ ?_ hn' fun b ob hbx hb => (hs.2 b (Nat.ne_of_lt (Heap.lt_size hb))).trans ((Heap.get?_update_ne _ _ _ _ hbx).trans (Heap.get?_push_of_some _ hb))
  refine (hs.2 x hxs).trans (Heap.get?_update_self _ hx₁ ?_)
  have hfr := (Heap.get?_some_iff.mp hx).2
  obtain ⟨oc, od, odt, osl⟩ := o
  cases odt <;> first | rfl | exact hfr

/-- raise x, x an object of an own class that has a dict -/
theorem raise_made {M : Model} {A : Around} {E : Value → Shared → Prop} {env : Env} {s : Shared} {t : Sem Value} {hdct : Bool} {Q : Flow → Shared → Prop} (hbase : bm.contains (.type "BaseException") = true) (hh : A.handled = none)
    (h : wpAny M A t (fun u s₁ => ∃ e oe vs, u = .ref e ∧ s₁.heap.get? C = some (excClassObj nm q C N bs bm hdct sn sub ab col dd k0 k1 k2 k3 k5 newId) ∧
      s₁.heap.get? e = some oe ∧ oe.cls = .ref C ∧ oe.data = .fields vs ∧ vs[1]? = some .none ∧ E (.ref e) s₁) E s) :
    wpAny M A (raiseStmt env (some t) none) Q E s := by
  have hcB : (Value.ref C :: bm).contains (.type "BaseException") = true := by rw [List.contains_cons, hbase, Bool.or_true]
  unfold raiseStmt
  refine wpAny_bind (wpAny_mono h (fun u s₁ h₁ => ?_) fun _ _ x => x)
  obtain ⟨e, ⟨oc, od, odt, osl⟩, vs, rfl, hC, he, hc, hdf, h1, hE⟩ := h₁
  dsimp only at hc hdf
  subst hc hdf
  obtain ⟨hp, g, d, tk, os⟩ := s₁
  repeat (first | with_reducible refine wpAny_loadPart_at he ?_ | with_reducible refine wpAny_loadPart_at hC ?_ | (with_reducible refine wpAny_isSubtype_exc hC ?_; rw [hcB]) | with_reducible refine wpAny_field he rfl h1 ?_ | wp_step)
  exact wpAny_raiseNew_none hh hE

/-- Exception.__init__ on an object of an own class -/
theorem init_call {hdct : Bool} {initId : String} (F : ExcBaseFacts B newId initId bm) {oe : Obj} {vs : Array Value} {rest : List Value} {Q : Value → Shared → Prop}
    (hC : h.get? C = some (excClassObj nm q C N bs bm hdct sn sub ab col dd k0 k1 k2 k3 k5 newId)) (he : h.get? x = some oe) (hc : oe.cls = .ref C) (hdf : oe.data = .fields vs) {t0 : Addr} (h0 : vs[0]? = some (.ref t0)) (hl : rest.length ≤ sizeLine)
    (hq : ∀ h', h'.get? x = some { oe with data := .fields (vs.setIfInBounds 0 (.ref h.objs.size)) } → (∀ b ob, b ≠ x → h.get? b = some ob → h'.get? b = some ob) → Q .none ⟨h', g, d, t, os⟩) :
    wpAny (model prog w) A (call (.builtin initId) (.ref x :: rest)) Q E ⟨h, g, d, t, os⟩ := by
  refine wpAny_call (codeAny_call_builtin F.init.plain F.initEntry (wpAny_check_init_sub F hC he hc ?_))
  have hsz : 0 < vs.size := (Array.getElem?_eq_some_iff.mp h0).1
  obtain ⟨oc, od, odt, osl⟩ := oe
  dsimp only at hc hdf
  subst hc hdf
  have he₁ := Heap.get?_push_of_some { cls := .type "tuple", data := .seq rest.toArray } he
  have hxs : x ≠ h.objs.size := Nat.ne_of_lt (Heap.lt_size he)
  unfold Builtin.«BaseException.__init__»
  repeat (any_goals (first | assumption | with_reducible refine wpAny_field he₁ rfl h0 ?_ | with_reducible refine wpAny_setField he₁ rfl hsz ?_ | wp_step))
  refine hq _ ?_ fun b ob hbx hb => ?_
  · exact Heap.get?_update_self _ he₁ rfl
  · exact (Heap.get?_update_other _ _ (Ne.symm hbx)).trans (Heap.get?_push_of_some _ hb)
end

/-- the first own object is changed -/
theorem St.upd {h₀ : Heap} {L : Addr} {O I : Led} {m : Str → Option Value} {s : Shared} {x : Addr} {o o' : Obj} {h' : Heap} {tk' : Nat} (S : St h₀ L ((x, o) :: O) I m s) (off : ∀ p ∈ O, p.1 ≠ x) (hx : h'.get? x = some o')
    (hk : ∀ b ob, b ≠ x → s.heap.get? b = some ob → h'.get? b = some ob) : St h₀ L ((x, o') :: O) I m (Sh s h' tk') := by
  have nx := S.news (x, o) List.mem_cons_self
  have offI : ∀ q ∈ I, q.1 ≠ x := fun q hq => Ne.symm (S.off (x, o) List.mem_cons_self q hq)
  refine ⟨⟨?_, fun b ob hb => hk b ob (fun e => by rw [e, nx.2.2] at hb; cases hb) (S.fr.keep b ob hb), S.fr.above⟩, fun p hp => ?_, fun p hp q hq => ?_⟩
  · obtain ⟨oL, es, ep, hL, r⟩ := S.fr.ns
    exact ⟨oL, es, ep, hk L oL (Ne.symm nx.2.1) hL, r⟩
  · rcases List.mem_append.mp hp with hp | hp
    · rcases List.mem_cons.mp hp with rfl | hp
      · exact ⟨hx, nx.2⟩
      · have := S.news p (List.mem_append_left _ (List.mem_cons_of_mem _ hp))
        exact ⟨hk _ _ (off p hp) this.1, this.2⟩
    · have := S.news p (List.mem_append_right _ hp)
      exact ⟨hk _ _ (offI p hp) this.1, this.2⟩
  · rcases List.mem_cons.mp hp with rfl | hp
    · exact Ne.symm (offI q hq)
    · exact S.off p (List.mem_cons_of_mem _ hp) q hq
/-- the first own object is changed, a new own object stands behind it -/
theorem St.upd1 {h₀ : Heap} {L : Addr} {O I : Led} {m : Str → Option Value} {s : Shared} {x dx : Addr} {o o' od : Obj} {h' : Heap} {tk' : Nat} (S : St h₀ L ((x, o) :: O) I m s) (off : ∀ p ∈ O, p.1 ≠ x) (hx : h'.get? x = some o')
    (hd : h'.get? dx = some od) (hdn : s.heap.objs.size ≤ dx) (hk : ∀ b ob, b ≠ x → s.heap.get? b = some ob → h'.get? b = some ob) : St h₀ L ((x, o') :: (dx, od) :: O) I m (Sh s h' tk') := by
  have S₁ := S.upd (tk' := tk') off hx hk
  have old : ∀ p ∈ ((x, o) :: O) ++ I, p.1 ≠ dx := fun p hp => Nat.ne_of_lt (Nat.lt_of_lt_of_le (Heap.lt_size (S.news p hp).1) hdn)
  refine ⟨S₁.fr, fun p hp => ?_, fun p hp q hq => ?_⟩
  · rcases List.mem_cons.mp hp with rfl | hp
    · exact S₁.news (x, o') List.mem_cons_self
    · rcases List.mem_cons.mp hp with rfl | hp
      · refine ⟨hd, fun e => ?_, ?_⟩
        · exact absurd (Nat.lt_of_lt_of_le S.fr.ns.lt hdn) (by rw [show dx = L from e]; exact Nat.lt_irrefl _)
        · cases q : h₀.get? dx with
          | none => rfl
          | some ob => exact absurd (Nat.lt_of_lt_of_le (Heap.lt_size (S.fr.keep _ _ q)) hdn) (Nat.lt_irrefl _)
      · exact S₁.news p (List.mem_cons_of_mem _ hp)
  · rcases List.mem_cons.mp hp with rfl | hp
    · exact S₁.off (x, o') List.mem_cons_self q hq
    · rcases List.mem_cons.mp hp with rfl | hp
      · exact Ne.symm (old q (List.mem_append_right _ hq))
      · exact S₁.off p (List.mem_cons_of_mem _ hp) q hq
/-- the first two own objects are changed -/
theorem St.upd2 {h₀ : Heap} {L : Addr} {O I : Led} {m : Str → Option Value} {s : Shared} {x dx : Addr} {o o' od od' : Obj} {h' : Heap} {tk' : Nat} (S : St h₀ L ((x, o) :: (dx, od) :: O) I m s) (offx : ∀ p ∈ O, p.1 ≠ x) (offd : ∀ p ∈ O, p.1 ≠ dx) (hx : h'.get? x = some o')
    (hd : h'.get? dx = some od') (hk : ∀ b ob, b ≠ x → b ≠ dx → s.heap.get? b = some ob → h'.get? b = some ob) : St h₀ L ((x, o') :: (dx, od') :: O) I m (Sh s h' tk') := by
  have nx := S.news (x, o) List.mem_cons_self
  have nd := S.news (dx, od) (List.mem_cons_of_mem _ List.mem_cons_self)
  have offI : ∀ q ∈ I, q.1 ≠ x ∧ q.1 ≠ dx := fun q hq => ⟨Ne.symm (S.off (x, o) List.mem_cons_self q hq), Ne.symm (S.off (dx, od) (List.mem_cons_of_mem _ List.mem_cons_self) q hq)⟩
  refine ⟨⟨?_, fun b ob hb => hk b ob (fun e => by rw [e, nx.2.2] at hb; cases hb) (fun e => by rw [e, nd.2.2] at hb; cases hb) (S.fr.keep b ob hb), S.fr.above⟩, fun p hp => ?_, fun p hp q hq => ?_⟩
  · obtain ⟨oL, es, ep, hL, r⟩ := S.fr.ns
    exact ⟨oL, es, ep, hk L oL (Ne.symm nx.2.1) (Ne.symm nd.2.1) hL, r⟩
  · rcases List.mem_append.mp hp with hp | hp
    · rcases List.mem_cons.mp hp with rfl | hp
      · exact ⟨hx, nx.2⟩
      · rcases List.mem_cons.mp hp with rfl | hp
        · exact ⟨hd, nd.2⟩
        · have := S.news p (List.mem_append_left _ (List.mem_cons_of_mem _ (List.mem_cons_of_mem _ hp)))
          exact ⟨hk _ _ (offx p hp) (offd p hp) this.1, this.2⟩
    · have := S.news p (List.mem_append_right _ hp)
      exact ⟨hk _ _ (offI p hp).1 (offI p hp).2 this.1, this.2⟩
  · rcases List.mem_cons.mp hp with rfl | hp
    · exact Ne.symm (offI q hq).1
    · rcases List.mem_cons.mp hp with rfl | hp
      · exact Ne.symm (offI q hq).2
      · exact S.off p (List.mem_cons_of_mem _ (List.mem_cons_of_mem _ hp)) q hq
/-- a new object becomes an own one -/
theorem St.own {h₀ : Heap} {L : Addr} {O I : Led} {m : Str → Option Value} {s : Shared} {x : Addr} {o : Obj} {h' : Heap} {tk' : Nat} (S : St h₀ L O I m s) (hn : s.heap.get? x = none) (hx : h'.get? x = some o)
    (hk : ∀ b ob, s.heap.get? b = some ob → h'.get? b = some ob) : St h₀ L ((x, o) :: O) I m (Sh s h' tk') := by
  have ne : ∀ b ob, s.heap.get? b = some ob → b ≠ x := fun b ob e q => by rw [q, hn] at e; cases e
  refine ⟨⟨S.fr.ns.keeps hk, fun b ob hb => hk _ _ (S.fr.keep b ob hb), S.fr.above⟩, fun p hp => ?_, fun p hp q hq => ?_⟩
  · rcases List.mem_cons.mp hp with rfl | hp
    · obtain ⟨oL, es, ep, hL, r⟩ := S.fr.ns
      refine ⟨hx, Ne.symm (ne _ _ hL), ?_⟩
      cases q : h₀.get? x with
      | none => rfl
      | some ob => have := S.fr.keep _ _ q; rw [hn] at this; cases this
    · have := S.news p hp
      exact ⟨hk _ _ this.1, this.2⟩
  · rcases List.mem_cons.mp hp with rfl | hp
    · exact Ne.symm (ne _ _ (S.news q (List.mem_append_right _ hq)).1)
    · exact S.off p hp q hq

theorem o_adds {x y : Str} (hl : x.length + y.length ≤ sizeLine) : Op2 (.bin .Add) (.str x) (.str y) (.str (x ++ y)) := by
  refine ⟨fun φ F m O I s v u Qv S ra rb k => ?_⟩
  cases ra; cases rb
  exact PyProof.Rows.add_str (fun t' tk => k _ I s.heap tk (S.toks rfl) Inc.refl (.str _ _)) hl
end

section

abbrev excBm : List Value := [.type "Exception", .type "BaseException", .type "object"]
/-- what the bench must say of the own exception class -/
structure CasK (c : Cx) : Prop where
  cls : ∃ nm qn bs sn sub ab col dd k0 k1 k2 k3 k5, c.K.lookup 31 = some (excClassObj nm qn 31 30 bs excBm true sn sub ab col dd k0 k1 k2 k3 k5 "Exception.__new__")
  ns : nsOkIn c.K 30 = true
  init : nsIn c.K 30 ("__init__" : Str) = some (some (.ref 28))
  sa : nsIn c.K 30 ("__setattr__" : Str) = some none
  kind : nsIn c.K 30 ("kind" : Str) = some none
  text : nsIn c.K 30 ("text" : Str) = some none
  ga : nsIn c.K 30 ("__getattribute__" : Str) = some none
  gaa : nsIn c.K 30 ("__getattr__" : Str) = some none
  fn : ∃ oI, c.K.lookup 28 = some oI ∧ oI.cls = .type "function"
  exc : nsIn c.K mainGlobals ("Exception" : Str) = some none
  em : findCls c.K (.type "Exception") (.type "type") ("__init__" : Str) = some (.val (.builtin "Exception.__init__"))
  keep : keepIn c.K casFail = true
  name : nsIn c.K mainGlobals ("CasFail" : Str) = some (some casFail)
  is : ktsIn c.K 31 "BaseException" = true

theorem ns_some_of {K : Frag} {h : Heap} {N : Addr} {mg : Str → Option Value} {n : Str} {v : Value} (X : K.In h) (G : h.Ns N mg) (e : nsIn K N n = some (some v)) : mg n = some v := by
  obtain ⟨o, es, ep, ho, hd, _, hf⟩ := G
  unfold nsIn at e
  split at e
  · rename_i c d es' n' sl q
    have := X _ _ q
    rw [ho] at this
    cases this
    cases hd
    split at e
    · rename_i he
      cases e
      rw [← hf]
      unfold nsFind findBy
      rw [← Array.find?_toList, he]
      rfl
    · split at e <;> cases e
  · cases e

/-- the class, as any heap over the bench has it -/
structure CasAt (h : Heap) (nm qn : Str) (bs : List Value) (sn : List Str) (sub : List Value) (ab : Bool) (col : Option Bool) (dd : Option Addr) (k0 k1 k2 k3 k5 : Option Value) (mN : Str → Option Value) : Prop where
  cls : h.get? 31 = some (excClassObj nm qn 31 30 bs excBm true sn sub ab col dd k0 k1 k2 k3 k5 "Exception.__new__")
  ns : h.Ns 30 mN
  init : mN "__init__" = some (.ref 28)
  sa : mN "__setattr__" = none
  kind : mN "kind" = none
  text : mN "text" = none
  ga : mN "__getattribute__" = none
  gaa : mN "__getattr__" = none
theorem CasAt.keeps {h h' : Heap} {nm qn : Str} {bs : List Value} {sn : List Str} {sub : List Value} {ab : Bool} {col : Option Bool} {dd : Option Addr} {k0 k1 k2 k3 k5 : Option Value} {mN : Str → Option Value}
    (X : CasAt h nm qn bs sn sub ab col dd k0 k1 k2 k3 k5 mN) (k : ∀ b o, h.get? b = some o → h'.get? b = some o) : CasAt h' nm qn bs sn sub ab col dd k0 k1 k2 k3 k5 mN :=
  ⟨k _ _ X.cls, X.ns.keeps k, X.init, X.sa, X.kind, X.text, X.ga, X.gaa⟩
theorem CasK.at {c : Cx} (C : CasK c) {h : Heap} (X : c.K.In h) : ∃ nm qn bs sn sub ab col dd k0 k1 k2 k3 k5 mN, CasAt h nm qn bs sn sub ab col dd k0 k1 k2 k3 k5 mN := by
  obtain ⟨nm, qn, bs, sn, sub, ab, col, dd, k0, k1, k2, k3, k5, ho⟩ := C.cls
  have N : h.Ns 30 (h.nsMap 30) := .of_isNs (isNs_of_in X C.ns)
  exact ⟨nm, qn, bs, sn, sub, ab, col, dd, k0, k1, k2, k3, k5, h.nsMap 30, X _ _ ho, N, ns_some_of X N C.init, ns_none_of X N C.sa, ns_none_of X N C.kind, ns_none_of X N C.text, ns_none_of X N C.ga, ns_none_of X N C.gaa⟩

theorem cls_no {name : Str} (h : typeLookup (.type "Exception") name = pure none) : typeLookup (.type "Exception") name = pure none := h
theorem no_kind : typeLookup (.type "Exception") ("kind" : Str) = pure none := by rw [typeLookup_type, builtinLookup_eq_fast]; kernel_rfl
theorem no_text : typeLookup (.type "Exception") ("text" : Str) = pure none := by rw [typeLookup_type, builtinLookup_eq_fast]; kernel_rfl

/-- the call of the builder runs below type.__call__ -/
abbrev underMake (φ : Fx) (vals : List Value) : Fx := { φ with A := φ.A.under (.builtin "type.__call__" ⟨casFail :: vals, []⟩), k := φ.k - 1 }
theorem underMake_frames (φ : Fx) (vals : List Value) : (underMake φ vals).A.frames = φ.A.frames := by
  show pushEnvs [] φ.A.frames = _
  rw [pushEnvs_eq]
  cases φ.A.frames <;> rfl
theorem Fm.make {φ : Fx} (F : Fm φ) (hk : 1 ≤ φ.k) (vals : List Value) : Fm (underMake φ vals) := by
  obtain ⟨A₀, outer, B, hA⟩ := F.below
  have hd := F.depth
  have hu := F.units
  refine ⟨⟨A₀, outer, B, (underMake_frames φ vals).trans hA⟩, F.kin, F.top, F.frame, F.kind, F.handled, ?_, ?_⟩
  · show φ.A.depth + 1 + (φ.k - 1) < _
    omega
  · show φ.A.units + 1 + 16 * (φ.k - 1) + 100 < _
    omega

section
variable {qual : Str} {scope : Scope} {cdv : Value} {lit : Str} {q1 q2 q3 q4 q5 q6 q7 q8 q9 qA qB qC qD qE qF qG qH qI : Pos} {kk : Nat}
/-- the builder's three statements -/
abbrev casBody (lit : Str) (kk : Nat) (q1 q2 q3 q4 q5 q6 q7 q8 q9 qA qB qC qD qE qF qG qH qI : Pos) : List Stmt :=
  [.Expr (.Call (.Attribute (.Name "Exception" q1) "__init__" q2) [.Name "self" q3, .BinOp (.BinOp (.Name "kind" q4) .Add (.Constant (.str lit) kk q5) q6) .Add (.Name "text" q7) q8] [] q9) qA,
   .Assign [.Attribute (.Name "self" qB) "kind" qC] (.Name "kind" qD) qE, .Assign [.Attribute (.Name "self" qF) "text" qG] (.Name "text" qH) qI]

theorem name_at {φ : Fx} (N : Fn φ) {m : Str → Option Value} {y : Str} {v : Value} (hk : φ.env.kindOf y = some .local) (hm : m y = some v) {O I : Led} {s : Shared} (S : St φ.h₀ φ.L O I m s) {pos : Pos} {Q : Value → Shared → Prop} {E : Value → Shared → Prop} (h : Q v s) :
    wpAny (model φ.c.prog φ.c.w) φ.A (eval (.Name y pos) φ.env) Q E s := name_local (φ := φ.wide O) (N.wide _) hk hm O I s (fun _ hp => hp) S pos Q E h
theorem cas_body {φ : Fx} (N : Fn φ) (F : Fm φ) (CK : CasK φ.c) (hself : φ.env.kindOf "self" = some .local) (hkind : φ.env.kindOf "kind" = some .local) (htext : φ.env.kindOf "text" = some .local) (hx : φ.env.kindOf "Exception" = some .globalImplicit)
    (hg : φ.env.globals = mainGlobals) (hb : φ.env.builtins = builtinsNs)
    (he : ∃ pl : Sem Bool, eval (.Call (.Attribute (.Name "Exception" q1) "__init__" q2) [.Name "self" q3, .BinOp (.BinOp (.Name "kind" q4) .Add (.Constant (.str lit) kk q5) q6) .Add (.Name "text" q7) q8] [] q9) φ.env = (do
      let ov ← eval (.Name "Exception" q1) φ.env
      standAt q2.atName
      let (f, first) ← holding [ov] (getMethod ov "__init__" pl)
      callWith q9 f first (backTo q9 (starEach [.Name "self" q3, .BinOp (.BinOp (.Name "kind" q4) .Add (.Constant (.str lit) kk q5) q6) .Add (.Name "text" q7) q8] φ.env)) (backToKw q9 (keywordEach [] φ.env))))
    (hs1 : swapsWith (.Name "kind" qD) (some (.Attribute (.Name "self" qB) "kind" qC)) qE.line φ.env = pure false)
    (hs2 : swapsWith (.Name "text" qH) (some (.Attribute (.Name "self" qF) "text" qG)) qI.line φ.env = pure false)
    (hsx : swapsWith (.Call (.Attribute (.Name "Exception" q1) "__init__" q2) [.Name "self" q3, .BinOp (.BinOp (.Name "kind" q4) .Add (.Constant (.str lit) kk q5) q6) .Add (.Name "text" q7) q8] [] q9) none qA.line φ.env = pure false)
    (hi : interactive φ.env = false)
    {kind text : Str} {t1 t2 : Tok} (hl1 : kind.length + lit.length ≤ sizeLine) (hl2 : (kind ++ lit).length + text.length ≤ sizeLine)
    {m : Str → Option Value} {x : Addr} {oe : Obj} {vs : Array Value} {t0 : Addr} {O I : Led} {s : Shared} {Qf : Flow → Shared → Prop} (hO : φ.O₀ = (x, oe) :: O) (S : St φ.h₀ φ.L ((x, oe) :: O) I m s) (offO : ∀ p ∈ O, p.1 ≠ x)
    (hoc : oe.cls = casFail) (hdn : oe.dict = none) (hdf : oe.data = .fields vs) (h0 : vs[0]? = some (.ref t0)) (h1 : vs[1]? = some .none)
    (ms : m "self" = some (.ref x)) (mk : m "kind" = some (.str kind t1)) (mt : m "text" = some (.str text t2))
    (hq : ∀ oe dx od vs mk I' h' tk', St φ.h₀ φ.L ((x, oe) :: (dx, od) :: O) I' m (Sh s h' tk') → Inc I I' → oe.cls = casFail → oe.dict = some dx → oe.data = .fields vs → vs[1]? = some .none → h'.Ns dx mk → mk "kind" = some (.str kind t1) → dx ≠ x →
      Qf .next (Sh s h' tk')) :
    wpAny (model φ.c.prog φ.c.w) φ.A (execs (casBody lit kk q1 q2 q3 q4 q5 q6 q7 q8 q9 qA qB qC qD qE qF qG qH qI) φ.env) Qf (fun _ _ => False) s := by
  obtain ⟨nm, qn, bs, sn, sub, ab, col, dd, k0, k1, k2, k3, k5, mN, C₀⟩ := CK.at F.kin
  have hkn := N.kind
  obtain ⟨pl, he⟩ := he
  -- Exception.__init__(self, kind + lit + text)
  refine wpAny_execs_cons (wpAny_Expr (methodCall_KW (kws := []) (pl := pl) ?_ he) hi hsx)
  refine name_built F S CK.exc PyProof.Rows.Boot.«Exception» (by decide) hx hg hb hkn (by decide) ?_
  refine method_type S.fr F.kin (by first | rfl | kernel_rfl) (by decide +kernel) CK.em (by first | rfl | decide +kernel) ?_
  have S₁ : St φ.h₀ φ.L ((x, oe) :: O) I m { s with toks := s.toks + 1 } := S.toks rfl
  refine callWith_builtin1 (spliced_more (name_at N hself ms S₁ (spliced_more ?_ (by rfl))) (by rfl)) (by rfl) (by rfl)
  have G₁ : GoodS φ m 0 ((x, oe) :: O) I [("kind", .str kind), ("text", .str text)] none := by
    refine ⟨fun y e hy => ?_, hO.symm, fun e => by simp at e⟩
    rw [List.lookup_cons] at hy
    by_cases q : y = ("kind" : Str)
    · subst q
      rw [beq_self_eq_true] at hy
      cases hy
      exact ⟨hkind, _, mk, .str _ _⟩
    · have q' : (y == ("kind" : Str)) = false := by simpa using q
      rw [q', List.lookup_cons] at hy
      by_cases r : y = ("text" : Str)
      · subst r
        rw [beq_self_eq_true] at hy
        cases hy
        exact ⟨htext, _, mt, .str _ _⟩
      · have r' : (y == ("text" : Str)) = false := by simpa using r
        rw [r'] at hy
        cases hy
  have J : JE φ (.BinOp (.BinOp (.Name "kind" q4) .Add (.Constant (.str lit) kk q5) q6) .Add (.Name "text" q7) q8) [("kind", .str kind), ("text", .str text)] none (fun d os => os = none ∧ d = .str ((kind ++ lit) ++ text)) :=
    JE_bin (JE_bin (JE_name rfl (JE_str ⟨_, o_adds hl1, JE_name rfl ⟨_, o_adds hl2, rfl, rfl⟩⟩)))
  refine J.run F m 0 _ I _ _ S₁ (G₁.good N) fun v dv os' O₂ I₂ h₂ tk₂ ⟨eo, ed⟩ S₂ o₂ e₂ i₂ r₂ => spliced_none ?_
  subst eo ed
  have eO : O₂ = (x, oe) :: O := (show O₂ = φ.O₀ from o₂).trans hO
  subst eO
  cases r₂
  rename_i tz
  have C₂ := C₀.keeps S₂.fr.keep
  have hx₂ := (S₂.news (x, oe) List.mem_cons_self).1
  refine init_call PySem.F.excBase_Exception C₂.cls hx₂ hoc hdf h0 (by show 1 ≤ sizeLine; rw [sizeLine_eq]; omega) fun h₃ hx₃ hk₃ => ?_
  have S₃ : St φ.h₀ φ.L ((x, { oe with data := .fields (vs.setIfInBounds 0 (.ref h₂.objs.size)) }) :: O) I₂ m (Sh s h₃ tk₂) := St.upd (s := Sh { s with toks := s.toks + 1 } h₂ tk₂) (tk' := tk₂) S₂ offO hx₃ hk₃
  have h1' : (vs.setIfInBounds 0 (.ref h₂.objs.size))[1]? = some .none := by rw [Array.getElem?_setIfInBounds_ne (by decide)]; exact h1
  -- self.kind = kind
  refine wpAny_execs_cons (plainObj_wpAny_Assign_Attribute ?_ hs1)
  refine name_at N hkind mk S₃ (name_at N hself ms S₃ ?_)
  have C₃ := C₀.keeps S₃.fr.keep
  refine first_attr PySem.F.store_Exception C₃.cls C₃.ns C₃.sa C₃.kind no_kind hx₃ hoc hdn rfl fun h₄ tk₄ hx₄ hd₄ hk₄ => ?_
  obtain ⟨od, es, ep, hd₄', hdd⟩ := id hd₄
  have S₄ : St φ.h₀ φ.L ((x, { cls := oe.cls, dict := some h₃.objs.size, data := .fields (vs.setIfInBounds 0 (.ref h₂.objs.size)), slots := oe.slots }) :: (h₃.objs.size, od) :: O) I₂ m (Sh s h₄ tk₄) :=
    St.upd1 (s := Sh s h₃ tk₂) (tk' := tk₄) S₃ offO hx₄ hd₄' (Nat.le_refl _) hk₄
  have ne : h₃.objs.size ≠ x := Nat.ne_of_gt (Heap.lt_size hx₃)
  have offd : ∀ p ∈ O, p.1 ≠ h₃.objs.size := fun p hp => Nat.ne_of_lt (Heap.lt_size (S₃.news p (List.mem_append_left _ (List.mem_cons_of_mem _ hp))).1)
  -- self.text = text
  have ne31 : x ≠ 31 := fun q => by
    have := (C₀.keeps S₄.fr.keep).cls
    rw [← q] at this
    have e : Data.fields (vs.setIfInBounds 0 (.ref h₂.objs.size)) = Data.cls _ := congrArg Obj.data (Option.some.inj (hx₄.symm.trans this))
    cases e
  refine wpAny_execs_cons (plainObj_wpAny_Assign_Attribute (name_at N htext mt S₄ (name_at N hself ms S₄ ?_)) hs2)
  have C₄ := C₀.keeps S₄.fr.keep
  refine store_attr (mA := fun y => if y = "kind" then some (.str kind t1) else none) PySem.F.store_Exception C₄.cls C₄.ns C₄.sa C₄.text no_text ne31 ⟨_, hx₄, hoc, fun c q => (by cases q), .inr ⟨_, rfl, ne, hd₄⟩⟩ (fun h₅ tk₅ I₅ hk₅ hsame => ?_) (ns := ["kind"]) (Within.cons _ _ Within.nil) (by show 1 ≤ sizeLine; rw [sizeLine_eq]; omega)
  obtain ⟨o₅, hx₅, hc₅, hda₅, hsl₅, hdi₅⟩ := hsame _ hx₄
  have hdi := hdi₅ _ rfl
  obtain ⟨o₅', hx₅', _, _, hI⟩ := I₅
  rw [hx₅] at hx₅'
  cases hx₅'
  rcases hI with ⟨hn, _⟩ | ⟨dx, hdx, hdne, hd₅⟩
  · rw [hdi] at hn
    cases hn
  · rw [hdi] at hdx
    cases hdx
    obtain ⟨od', es', ep', hd₅', hdd'⟩ := id hd₅
    have S₅ := St.upd2 (s := Sh s h₄ tk₄) (h' := h₅) (tk' := tk₅) S₄ offO offd hx₅ hd₅' fun b ob hbx hbd hb => hk₅ b ob hbx (fun o₀ dx e1 e2 => by
      have e1' : h₄.get? x = some o₀ := e1
      rw [hx₄] at e1'
      cases e1'
      cases e2
      exact hbd) hb
    exact wpAny_execs_nil (hq o₅ _ od' _ _ I₂ h₅ tk₅ S₅ i₂ (hc₅.trans hoc) hdi hda₅ h1' hd₅.ns (by
      have : ("kind" : Str) ≠ "text" := by decide
      simp [this]) ne)
theorem make_cas {φ : Fx} (F : Fm φ) (CK : CasK φ.c) (H : IsDef φ.c 28 qual (casBody lit kk q1 q2 q3 q4 q5 q6 q7 q8 q9 qA qB qC qD qE qF qG qH qI) scope cdv ["self", "kind", "text"])
    (hk : 2 ≤ φ.k) (hx : scope.names.lookup ("Exception" : Str) = some .globalImplicit)
    (he : ∀ L, ∃ pl : Sem Bool, eval (.Call (.Attribute (.Name "Exception" q1) "__init__" q2) [.Name "self" q3, .BinOp (.BinOp (.Name "kind" q4) .Add (.Constant (.str lit) kk q5) q6) .Add (.Name "text" q7) q8] [] q9) (envOf qual scope L 28 cdv) = (do
      let ov ← eval (.Name "Exception" q1) (envOf qual scope L 28 cdv)
      standAt q2.atName
      let (f, first) ← holding [ov] (getMethod ov "__init__" pl)
      callWith q9 f first (backTo q9 (starEach [.Name "self" q3, .BinOp (.BinOp (.Name "kind" q4) .Add (.Constant (.str lit) kk q5) q6) .Add (.Name "text" q7) q8] (envOf qual scope L 28 cdv))) (backToKw q9 (keywordEach [] (envOf qual scope L 28 cdv)))))
    (hs1 : ∀ L, swapsWith (.Name "kind" qD) (some (.Attribute (.Name "self" qB) "kind" qC)) qE.line (envOf qual scope L 28 cdv) = pure false)
    (hs2 : ∀ L, swapsWith (.Name "text" qH) (some (.Attribute (.Name "self" qF) "text" qG)) qI.line (envOf qual scope L 28 cdv) = pure false)
    (hsx : ∀ L, swapsWith (.Call (.Attribute (.Name "Exception" q1) "__init__" q2) [.Name "self" q3, .BinOp (.BinOp (.Name "kind" q4) .Add (.Constant (.str lit) kk q5) q6) .Add (.Name "text" q7) q8] [] q9) none qA.line (envOf qual scope L 28 cdv) = pure false)
    (hi : ∀ L, interactive (envOf qual scope L 28 cdv) = false)
    {kind text : Str} {t1 t2 : Tok} (hl1 : kind.length + lit.length ≤ sizeLine) (hl2 : (kind ++ lit).length + text.length ≤ sizeLine)
    {m : Str → Option Value} {O I : Led} {s : Shared} {Qv : Value → Shared → Prop} {E : Value → Shared → Prop} (S : St φ.h₀ φ.L O I m s)
    (hq : ∀ x oe dx od vs mk I' h' tk', St φ.h₀ φ.L ((x, oe) :: (dx, od) :: O) I' m (Sh s h' tk') → Inc I I' → oe.cls = casFail → oe.dict = some dx → oe.data = .fields vs → vs[1]? = some .none → h'.Ns dx mk → mk "kind" = some (.str kind t1) → dx ≠ x → (∀ p ∈ O, p.1 ≠ x) →
      Qv (.ref x) (Sh s h' tk')) :
    wpAny (model φ.c.prog φ.c.w) φ.A (call casFail [.str kind t1, .str text t2]) Qv E s := by
  obtain ⟨nm, qn, bs, sn, sub, ab, col, dd, k0, k1, k2, k3, k5, mN, C₀⟩ := CK.at F.kin
  have C₁ := C₀.keeps S.fr.keep
  obtain ⟨oI, hoI, hoIc⟩ := CK.fn
  obtain ⟨hh, g, d, tk, os⟩ := s
  refine wpAny_call_exc_init PySem.F.excBase_Exception C₁.cls C₁.ns C₁.init (F.kin.keeps S.fr.keep _ _ hoI) hoIc (fun h' e hm => ?_) (by show 2 ≤ sizeLine; rw [sizeLine_eq]; omega)
  obtain ⟨ta, hea, hta, _⟩ := hm.there
  have S₁ : St φ.h₀ φ.L ((e, { cls := casFail, data := .fields #[.ref ta, .none, .none, .none, .bool false, .none] }) :: O) I m ⟨h', g, d, tk, os⟩ := S.own (tk' := tk) hm.new hea hm.keeps
  have offO : ∀ p ∈ O, p.1 ≠ e := fun p hp q => by have := (S.news p (List.mem_append_left _ hp)).1; rw [q, hm.new] at this; cases this
  refine wpAny_up (enter (F.make (by omega) _) H (k := φ.k - 2) (vs := [.ref e, .str kind t1, .str text t2]) S₁ (by show φ.k - 2 + 1 ≤ φ.k - 1; omega) rfl fun G L' h₁ tk₁ S₂ Fm₂ => ?_) fun _ _ h => h
  refine cas_body (fn_of H (underMake φ [.str kind t1, .str text t2]) G L' ((e, { cls := casFail, data := .fields #[.ref ta, .none, .none, .none, .bool false, .none] }) :: O) "" (φ.k - 2)) (Fm₂ _ _) CK (H.loc "self" (by simp)) (H.loc "kind" (by simp)) (H.loc "text" (by simp)) hx rfl rfl
    (he L') (hs1 L') (hs2 L') (hsx L') (hi L') hl1 hl2 (vs := #[.ref ta, .none, .none, .none, .bool false, .none]) (t0 := ta) (t1 := t1) (t2 := t2) rfl S₂ offO rfl rfl rfl rfl rfl ?_ ?_ ?_ fun oe dx od vs mk I' h₃ tk₃ S₃ i₃ a1 a2 a3 a4 a5 a6 a7 => ?_
  · rfl
  · rfl
  · rfl
  · exact ⟨_, _, I', S₃, fun S₄ => ⟨rfl, hq e oe dx od vs mk I' h₃ tk₃ S₄ i₃ a1 a2 a3 a4 a5 a6 a7 offO⟩⟩
end
end

section

/-- the exception just made, as its frame sees it -/
theorem flown_new {φ : Fx} (N : Fn φ) (F : Fm φ) {kind : Str} {t1 : Tok} {m mk : Str → Option Value} {x dx : Addr} {oe od : Obj} {vs : Array Value} {O I I' : Led} {s : Shared} (S : St φ.h₀ φ.L ((x, oe) :: (dx, od) :: O) I' m s) (i : Inc I I') (sub : ∀ p ∈ φ.O₀, p ∈ O)
    (hc : oe.cls = casFail) (hd : oe.dict = some dx) (hdf : oe.data = .fields vs) (h1 : vs[1]? = some .none) (hn : s.heap.Ns dx mk) (hk : mk "kind" = some (.str kind t1)) (ne : dx ≠ x) (offO : ∀ p ∈ O, p.1 ≠ x) :
    Flown φ kind (φ.O₀ ++ I) x s.heap := by
  obtain ⟨A₀, outer, K, hA⟩ := F.below
  have nx := S.news (x, oe) List.mem_cons_self
  have nd := S.news (dx, od) (List.mem_cons_of_mem _ List.mem_cons_self)
  obtain ⟨name, a, cd, hen⟩ := N.shape
  have K' : Below (A₀.deeper φ.fe) φ.c.base (φ.fe :: outer) s.heap := by
    rw [N.fe, hen]
    exact K.push (name := name) (a := a) (cd := cd) S.fr N.kind
  have hL : φ.h₀.get? φ.L = none := kts_self S.fr
  have notin : ∀ b, b ≠ φ.L → (∀ o, φ.h₀.get? b = some o → b ∉ outer.filterMap (·.frame)) → b ∉ (φ.fe :: outer).filterMap (·.frame) := fun b hbL hb hm => by
    rcases mem_fe F.frame hm with z | z
    · exact hbL z
    · obtain ⟨_, o, ho, _⟩ := K.frames.mem z
      exact hb o ho z
  have get : ∀ b o, b ≠ x → b ∉ (φ.fe :: outer).filterMap (·.frame) → s.heap.get? b = some o → (hideAll s.heap (x :: (φ.fe :: outer).filterMap (·.frame))).get? b = some o := fun b o hbx hbf ho => hideAll_get _ ho fun hm => by
    rcases List.mem_cons.mp hm with z | z
    · exact hbx z
    · exact hbf z
  have base₀ := K.stays
  refine ⟨A₀, outer, hideAll s.heap (x :: (φ.fe :: outer).filterMap (·.frame)), dx, K, hA, fun b o hb => ?_, fun b o hb hbo => ?_, fun p hp => ?_, ⟨fun b o hb => of_hideAll _ hb, hideAll_none _ List.mem_cons_self, ?_, ?_⟩, ?_, .of_keeps S.fr.keep, hL, S.fr.above, m, S.fr.ns⟩
  · have hb₀ := base₀ b o hb
    refine get b o (fun q => by rw [q, nx.2.2] at hb₀; cases hb₀) (notin b (fun q => by rw [q, hL] at hb₀; cases hb₀) fun o' ho' hm => ?_) (S.fr.keep b o hb₀)
    rw [(K.frames.mem hm).1] at hb
    cases hb
  · exact get b o (fun q => by rw [q, nx.2.2] at hb; cases hb) (notin b (fun q => by rw [q, hL] at hb; cases hb) fun _ _ => hbo) (S.fr.keep b o hb)
  · have hp' : p ∈ O ∨ p ∈ I' := (List.mem_append.mp hp).imp (sub p) (i p)
    have np := S.news p (by
      rcases hp' with h | h
      · exact List.mem_append_left _ (List.mem_cons_of_mem _ (List.mem_cons_of_mem _ h))
      · exact List.mem_append_right _ h)
    refine get p.1 p.2 ?_ (notin p.1 np.2.1 fun o ho => by rw [np.2.2] at ho; cases ho) np.1
    rcases hp' with h | h
    · exact offO p h
    · exact Ne.symm (S.off (x, oe) List.mem_cons_self p h)
  · exact funFrames_hide K'.frames fun env he b hb => List.mem_cons_of_mem _ (List.mem_filterMap.mpr ⟨env, he, hb⟩)
  · exact .inl ⟨oe, vs, nx.1, hc, hd, hdf, h1⟩
  · obtain ⟨o, es, ep, ho, r⟩ := hn
    exact ⟨mk, t1, ⟨o, es, ep, get dx o ne (notin dx nd.2.1 fun o' ho' => by rw [nd.2.2] at ho'; cases ho') ho, r⟩, hk⟩

section
variable {qual : Str} {scope : Scope} {cdv : Value} {lit : Str} {q1 q2 q3 q4 q5 q6 q7 q8 q9 qA qB qC qD qE qF qG qH qI : Pos} {kk : Nat}
theorem RX_raise {φ : Fx} {ρ : Rho} {os : Own} (CK : CasK φ.c) (H : IsDef φ.c 28 qual (casBody lit kk q1 q2 q3 q4 q5 q6 q7 q8 q9 qA qB qC qD qE qF qG qH qI) scope cdv ["self", "kind", "text"])
    (hk : 2 ≤ φ.k) (hx : scope.names.lookup ("Exception" : Str) = some .globalImplicit)
    (he : ∀ L, ∃ pl : Sem Bool, eval (.Call (.Attribute (.Name "Exception" q1) "__init__" q2) [.Name "self" q3, .BinOp (.BinOp (.Name "kind" q4) .Add (.Constant (.str lit) kk q5) q6) .Add (.Name "text" q7) q8] [] q9) (envOf qual scope L 28 cdv) = (do
      let ov ← eval (.Name "Exception" q1) (envOf qual scope L 28 cdv)
      standAt q2.atName
      let (f, first) ← holding [ov] (getMethod ov "__init__" pl)
      callWith q9 f first (backTo q9 (starEach [.Name "self" q3, .BinOp (.BinOp (.Name "kind" q4) .Add (.Constant (.str lit) kk q5) q6) .Add (.Name "text" q7) q8] (envOf qual scope L 28 cdv))) (backToKw q9 (keywordEach [] (envOf qual scope L 28 cdv)))))
    (hs1 : ∀ L, swapsWith (.Name "kind" qD) (some (.Attribute (.Name "self" qB) "kind" qC)) qE.line (envOf qual scope L 28 cdv) = pure false)
    (hs2 : ∀ L, swapsWith (.Name "text" qH) (some (.Attribute (.Name "self" qF) "text" qG)) qI.line (envOf qual scope L 28 cdv) = pure false)
    (hsx : ∀ L, swapsWith (.Call (.Attribute (.Name "Exception" q1) "__init__" q2) [.Name "self" q3, .BinOp (.BinOp (.Name "kind" q4) .Add (.Constant (.str lit) kk q5) q6) .Add (.Name "text" q7) q8] [] q9) none qA.line (envOf qual scope L 28 cdv) = pure false)
    (hi : ∀ L, interactive (envOf qual scope L 28 cdv) = false)
    {kind text : Str} (hl1 : kind.length + lit.length ≤ sizeLine) (hl2 : (kind ++ lit).length + text.length ≤ sizeLine)
    (hxf : φ.env.kindOf ("CasFail" : Str) = some .globalImplicit) (hg : φ.env.globals = mainGlobals) {p p1 p2 cpos pos : Pos} {j1 j2 : Nat} :
    RX φ (.Raise (some (.Call (.Name "CasFail" p) [.Constant (.str kind) j1 p1, .Constant (.str text) j2 p2] [] cpos)) none pos) ρ os kind :=
  ⟨fun N F m oa O I s S G => by
    obtain ⟨nm, qn, bs, sn, sub, ab, col, dd, k0, k1, k2, k3, k5, mN, C₀⟩ := CK.at F.kin
    rw [arm_exec_Raise]
    refine wpAny_bind (wpAny_standAt (raise_made (C := 31) (bm := excBm) (hdct := true) (nm := nm) (q := qn) (N := 30) (bs := bs) (sn := sn) (sub := sub) (ab := ab) (col := col) (dd := dd) (k0 := k0) (k1 := k1) (k2 := k2) (k3 := k3) (k5 := k5) (newId := "Exception.__new__") (by decide +kernel) F.handled ?_))
    refine wpAny_bind (wpAny_mono (Call_ (nameG_K S.fr F.kin (topRead_of F.top) CK.name ?_ hg N.kind hxf (by decide)) rfl) (fun v s₃ h₃ => wpAny_bind (wpAny_standAt (wpAny_pure h₃))) fun _ _ x => x)
    have J : JEs φ [.Constant (.str kind) j1 p1, .Constant (.str text) j2 p2] ρ os (fun ds os' => os' = os ∧ ds = [.str kind, .str text]) := JEs_cons (JE_str (JEs_cons (JE_str (JEs_nil ⟨rfl, rfl⟩))))
    refine callWith_K F.kin CK.keep (wpAny_up (J.run F cpos m oa O I _ (fun vs s' => φ.c.K.In s'.heap ∧ wpAny (model φ.c.prog φ.c.w) φ.A (call casFail vs)
      (fun u s₁ => ∃ e oe vs, u = .ref e ∧ s₁.heap.get? 31 = some (excClassObj nm qn 31 30 bs excBm true sn sub ab col dd k0 k1 k2 k3 k5 "Exception.__new__") ∧
        s₁.heap.get? e = some oe ∧ oe.cls = casFail ∧ oe.data = .fields vs ∧ vs[1]? = some .none ∧ EX φ kind I s (.ref e) s₁) (EX φ kind I s) s') S (G.good N) fun vs ds os' O' I' h' tk' ⟨_, ed⟩ S' o' e' i' r' => ⟨F.kin.keeps S'.fr.keep, ?_⟩) fun _ _ h => h) rfl rfl
    subst ed
    obtain ⟨v, w, rfl, r1, r2⟩ := r'.two
    cases r1; cases r2
    refine make_cas F CK H hk hx he hs1 hs2 hsx hi hl1 hl2 S' fun x oe dx od vs mk I'' h'' tk'' S'' i'' a1 a2 a3 a4 a5 a6 a7 a8 => ?_
    exact ⟨x, oe, vs, rfl, (C₀.keeps S''.fr.keep).cls, (S''.news (x, oe) List.mem_cons_self).1, a1, a3, a4, x, h'', tk'', rfl, rfl, flown_new (s := Sh s h'' tk'') N F S'' (i'.trans i'') o'.sub a1 a2 a3 a4 a5 a6 a7 a8⟩⟩
end
end

section
open Builtin Builtin.ObjectAttr
section
variable {prog : Program} {w : World} {A : Around} {E : Value → Shared → Prop} {h : Heap} {g : Array GenState} {d : Drawn} {t : Nat} {os : OsState}
variable {nm qn : Str} {bs : List Value} {sn : List Str} {sub : List Value} {ab : Bool} {col : Option Bool} {dd : Option Addr} {k0 k1 k2 k3 k5 : Option Value} {mN mk : Str → Option Value} {x dx : Addr} {o : Obj} {vs : Array Value} {v : Str} {tv : Tok}

theorem kind_entry {tk : Tok} {Q : Fin → Shared → Prop} (C : CasAt h nm qn bs sn sub ab col dd k0 k1 k2 k3 k5 mN) (hx : h.get? x = some o) (hc : o.cls = casFail) (hdi : o.dict = some dx) (hdf : o.data = .fields vs) (hn : h.Ns dx mk) (hk : mk "kind" = some (.str v tv))
    (hq : Q (.done (.ret (.str v tv))) ⟨h, g, d, t, os⟩) : wpAny (model prog w) A (Builtin.«object.__getattribute__» ⟨[.ref x, .str "kind" tk], []⟩) Q E ⟨h, g, d, t, os⟩ := by
  obtain ⟨oc, od, odt, osl⟩ := o
  dsimp only at hc hdi hdf
  subst hc hdi hdf
  have hC := C.cls
  have hN := C.ns
  have hm := C.kind
  unfold Builtin.«object.__getattribute__»
  repeat (any_goals (first | assumption | with_reducible refine wpAny_loadPart_at hx ?_ | (with_reducible refine wpAny_typeLookup_exc hC hN (B := "Exception") PySem.F.excBase_Exception.mroIs no_kind ?_; rw [hm]) | (with_reducible refine wpAny_nsGet hn ?_; rw [hk]) | wp_step))
theorem kind_by {tk : Tok} {fill expr : Bool} {Q : Value → Shared → Prop} (C : CasAt h nm qn bs sn sub ab col dd k0 k1 k2 k3 k5 mN) (hx : h.get? x = some o) (hc : o.cls = casFail) (hdi : o.dict = some dx) (hdf : o.data = .fields vs) (hn : h.Ns dx mk) (hk : mk "kind" = some (.str v tv))
    (hq : Q (.str v tv) ⟨h, g, d, t, os⟩) : wpAny (model prog w) A (getAttrBy (.ref x) (.str "kind" tk) fill expr) Q E ⟨h, g, d, t, os⟩ := by
  have FB := PySem.F.attrBase_Exception
  have hC := C.cls
  have hN := C.ns
  have hm1 := C.ga
  have hm2 := C.gaa
  have f3 := FB.ga.bind (.ref x)
  have hx0 : (expr && onTheHeap (Value.builtin "BaseException.__getattribute__")) = false := by cases expr <;> rfl
  have hx2 : (Value.builtin "BaseException.__getattribute__" == Value.builtin "object.__getattribute__") = false := by decide +kernel
  have hx1 : (onTheHeap (Value.ref 31) && Value.builtin "BaseException.__getattribute__" == Value.builtin "object.__getattribute__") = false := by rw [hx2]; rfl
  repeat (any_goals (first | assumption | (with_reducible refine wpAny_loadPart_at hx ?_; rw [hc]) | (with_reducible refine wpAny_typeLookup_exc hC hN (B := "Exception") FB.mro FB.ga.lookup ?_; rw [hm1]) | (with_reducible refine wpAny_typeLookup_exc hC hN (B := "Exception") FB.mro FB.noGetattr ?_; rw [hm2]) | wp_step))
  refine codeAny_call_builtin FB.ga.plain PySem.F.entry_bexc_ga (wpAny_check_ga_own FB hC .base hx hc (kind_entry C hx hc hdi hdf hn hk ?_))
  repeat (any_goals (first | assumption | wp_step))
theorem kind_attr {expr : Bool} {Q : Value → Shared → Prop} (C : CasAt h nm qn bs sn sub ab col dd k0 k1 k2 k3 k5 mN) (hx : h.get? x = some o) (hc : o.cls = casFail) (hdi : o.dict = some dx) (hdf : o.data = .fields vs) (hn : h.Ns dx mk) (hk : mk "kind" = some (.str v tv))
    (hq : Q (.str v tv) ⟨h, g, d, t + 1, os⟩) : wpAny (model prog w) A (getAttr (.ref x) "kind" expr) Q E ⟨h, g, d, t, os⟩ := by
  unfold getAttr
  repeat (any_goals (first | assumption | with_reducible apply kind_by C hx hc hdi hdf hn hk | wp_step))
end
end

section

/-- an exception in the hands of the frame φ, whose locals are m -/
structure Held (φ : Fx) (kind : Str) (Nl : Led) (A₀ : Around) (outer : List Env) (B : Heap) (dd x : Addr) (m : Str → Option Value) (fl : Value) (h : Heap) : Prop where
  below : Below A₀ φ.c.base outer φ.h₀
  frames : φ.A.frames = some (φ.fe :: outer)
  base : φ.c.base.StaysIn B
  kept : ∀ b o, φ.h₀.get? b = some o → b ∉ outer.filterMap (·.frame) → B.get? b = some o
  led : ∀ p ∈ Nl, B.get? p.1 = some p.2
  kind : KindIs B dd kind
  ups : φ.h₀.UpToSlots h
  self : φ.h₀.get? φ.L = none
  above : φ.h₀.objs.size ≤ φ.L
  ns : h.Ns φ.L m
  fly : FlyD casFail B (φ.fe :: outer) x dd fl h

section
variable {φ : Fx} {kind : Str} {Nl : Led} {A₀ : Around} {outer : List Env} {B : Heap} {dd x : Addr} {m : Str → Option Value} {fl fl' : Value} {h h' : Heap}
theorem Held.flown (X : Held φ kind Nl A₀ outer B dd x m .none h) : Flown φ kind Nl x h :=
  ⟨A₀, outer, B, dd, X.below, X.frames, X.base, X.kept, X.led, X.fly.a0, X.kind, X.ups, X.self, X.above, m, X.ns⟩
theorem Held.flown1 (X : Held φ kind Nl A₀ outer B dd x m (rawInt φ.L) h) : Flown φ kind Nl x h :=
  ⟨A₀, outer, B, dd, X.below, X.frames, X.base, X.kept, X.led, X.fly.a1, X.kind, X.ups, X.self, X.above, m, X.ns⟩
theorem Held.turn (X : Held φ kind Nl A₀ outer B dd x m fl h) (f : FlyD casFail B (φ.fe :: outer) x dd fl' h') (u : h.UpToSlots h') : Held φ kind Nl A₀ outer B dd x m fl' h' :=
  ⟨X.below, X.frames, X.base, X.kept, X.led, X.kind, X.ups.trans u, X.self, X.above, u.ns X.ns, f⟩
theorem Held.out (F : Fm φ) (X : Held φ kind Nl A₀ outer B dd x m fl h) : B.get? φ.L = none := by
  obtain ⟨_, ⟨L', _, hf, hn', _⟩, _⟩ := X.fly.frames
  rw [F.frame] at hf
  cases hf
  exact hn'
/-- a local is stored -/
theorem Held.set (F : Fm φ) {m' : Str → Option Value} (X : Held φ kind Nl A₀ outer B dd x m fl h) (hn : h'.Ns φ.L m') (hs : Heap.SameBut φ.L h h') : Held φ kind Nl A₀ outer B dd x m' fl h' := by
  have hL := X.out F
  obtain ⟨oL, es, ep, hoL, hdL, _⟩ := id X.ns
  obtain ⟨oL', es', ep', hoL', hdL', _⟩ := id hn
  have ups : φ.h₀.UpToSlots h' := fun b o hb hnf => by
    obtain ⟨sl, e⟩ := X.ups b o hb hnf
    exact ⟨sl, (hs.2 b fun q => by rw [q, X.self] at hb; cases hb).trans e⟩
  have fr : ∀ {l : List Env}, h.FunFrames B l → h'.FunFrames B l := by
    intro l
    induction l with
    | nil => exact fun _ => trivial
    | cons env r ih =>
      rintro ⟨hk, ⟨L, o, hf, hn', ho, hd⟩, hr⟩
      by_cases q : L = φ.L
      · subst q
        exact ⟨hk, ⟨_, oL', hf, hn', hoL', fun vs e => by rw [hdL'] at e; cases e⟩, ih hr⟩
      · exact ⟨hk, ⟨L, o, hf, hn', (hs.2 L q).trans ho, hd⟩, ih hr⟩
  obtain ⟨st, hnew, hl, oe, vs, T, oT, ts, he, hc, hdi, hd, h1, hT, hTx, hTg, hTd, h3⟩ := X.fly
  have nx : x ≠ φ.L := fun q => by rw [q, hoL] at he; cases he; rw [hdL] at hd; cases hd
  have nT : T ≠ φ.L := fun q => by rw [q, hoL] at hTg; cases hTg; rw [hdL] at hTd; cases hTd
  exact ⟨X.below, X.frames, X.base, X.kept, X.led, X.kind, ups, X.self, X.above, hn, ⟨fun b o hb => (hs.2 b fun q => by rw [q, hL] at hb; cases hb).trans (st b o hb), hnew, fr hl,
    ⟨oe, vs, T, oT, ts, (hs.2 x nx).trans he, hc, hdi, hd, h1, hT, hTx, (hs.2 T nT).trans hTg, hTd, h3⟩⟩⟩
end

section
variable {φ : Fx} {M : Model} {A : Around} {E : Value → Shared → Prop} {s : Shared} {m : Str → Option Value} {y : Str} {v : Value} {pos : Pos} {Q : Value → Shared → Prop}
theorem name_ns (N : Fn φ) (hk : φ.env.kindOf y = some .local) (hn : s.heap.Ns φ.L m) (hm : m y = some v) (h : Q v s) : wpAny M A (eval (.Name y pos) φ.env) Q E s := by
  refine wpAny_Name (wpAny_loadName_local N.kind hk (m := m) (by rw [N.loc]; exact hn) hm h) ?_
  cases e : (y == Str.ofString "__debug__") with
  | false => rfl
  | true => exact absurd (by rw [← beq_iff_eq.mp e]; exact hk) N.nodbg
theorem glob_ups (F : Fm φ) (u : φ.h₀.UpToSlots s.heap) (e : nsIn φ.c.K mainGlobals y = some (some v)) (hx : φ.env.kindOf y = some .globalImplicit) (hg : φ.env.globals = mainGlobals) (hk : φ.env.scope.kind = .function) (hd : (y == ("__debug__" : Str)) = false) (h : Q v s) :
    wpAny M A (eval (.Name y pos) φ.env) Q E s :=
  Name_function_global hk hx (loadGlobal_global (env := φ.env) (by rw [hg]; exact u.ns (topRead_of F.top).g) (mg_of F.kin (topRead_of F.top).g e) h) hd
end

/-- into the handler -/
theorem caught {φ : Fx} (N : Fn φ) (F : Fm φ) (CK : CasK φ.c) (XB : φ.c.K.In φ.c.base) {kind : Str} {Nl : Led} {x : Addr} {s : Shared} (X : Flown φ kind Nl x s.heap) {n : Str} {b₀ : Stmt} {suite : List Stmt} {pos np : Pos} {rest : List ExceptHandler} {Q : Flow → Shared → Prop} {E : Value → Shared → Prop}
    (hn : φ.env.kindOf n = some .local) (hxf : φ.env.kindOf ("CasFail" : Str) = some .globalImplicit) (hg : φ.env.globals = mainGlobals)
    (k : ∀ A₀ outer B dd m h' tk', Held φ kind Nl A₀ outer B dd x m .none h' → m n = some (.ref x) →
      wpAny (model φ.c.prog φ.c.w) (φ.A.mark (some (.ref x))) (execs (b₀ :: suite) φ.env)
        (fun f s₄ => wpAny (model φ.c.prog φ.c.w) φ.A (do bindName φ.env n .none; unbindBehindTheSuite φ.env n pos) (fun _ s₅ => Q f s₅) E s₄)
        (AsSuiteRaised (model φ.c.prog φ.c.w) (φ.A.mark (some (.ref x))) φ.env n pos (notedBy (model φ.c.prog φ.c.w) (φ.A.mark (some (.ref x))) φ.env (cameBackBy (model φ.c.prog φ.c.w) φ.A φ.env E))) (Sh s h' tk')) :
    wpAny (model φ.c.prog φ.c.w) φ.A (noteFrame (.ref x) φ.env) (fun _ s₂ => wpAny (model φ.c.prog φ.c.w) φ.A (setFlight (.ref x) none) (fun _ s₃ =>
      wpAny (model φ.c.prog φ.c.w) φ.A (handleBy (.ref x) φ.env (.ExceptHandler (some (.Name "CasFail" np)) (some n) (b₀ :: suite) pos :: rest)) Q E s₃) E s₂) E s := by
  obtain ⟨A₀, outer, B, dd, b1, b2, b3, b4, b5, b6, b7, b8, b9, b10, m, b11⟩ := X
  have hfe : φ.fe = φ.env := N.fe
  have hf : φ.env.frame = some φ.L := by rw [← hfe]; exact F.frame
  rw [hfe] at b2 b6
  refine noteA b2 hf b6 fun h₁ X₁ u₁ => ?_
  refine flightD (s := { s with heap := h₁ }) none X₁ fun h₂ X₂ u₂ => ?_
  have H₂ : Held φ kind Nl A₀ outer B dd x m .none h₂ := ⟨b1, by rw [hfe]; exact b2, b3, b4, b5, b7, (b8.trans u₁).trans u₂, b9, b10, (u₁.trans u₂).ns b11, by rw [hfe]; exact X₂⟩
  refine wpAny_handleBy_cons (codeAny_handlers_test (glob_ups F H₂.ups CK.name hxf hg N.kind (by decide) ?_)) (by intro q; cases q)
  obtain ⟨nm, qn, bs, sn, sub, ab, col, dd', k0, k1, k2, k3, k5, mN, C₀⟩ := CK.at XB
  have C₂ := (C₀.keeps b3).keeps X₂.stays
  obtain ⟨oe, vs, T, oT, ts, he, hc, _⟩ := X₂.exc
  refine wpAny_excMatches_sub_self C₂.cls he hc (by decide +kernel) (codeAny_handlers_suite_as ?_)
  refine flightD (s := { s with heap := h₂ }) none X₂ fun h₃ X₃ u₃ => ?_
  have H₃ : Held φ kind Nl A₀ outer B dd x m .none h₃ := H₂.turn (by rw [hfe]; exact X₃) u₃
  refine wpAny_storeName_local hn (m := m) (by rw [N.loc]; exact H₃.ns) (fun h₄ hn₄ hs₄ => ?_) (by rw [N.kind]; rfl)
  rw [N.loc] at hn₄ hs₄
  exact k A₀ outer B dd _ h₄ _ (H₃.set F hn₄ hs₄) (by simp)
end

section

section
variable {nm q : Str} {C N : Addr} {bs bm : List Value} {sn : List Str} {sub : List Value} {ab : Bool} {col : Option Bool} {dd : Option Addr} {k0 k1 k2 k3 k5 : Option Value} {newId : String}
/-- raise e where e is just being handled -/
theorem raise_again {M : Model} {A : Around} {E : Value → Shared → Prop} {env : Env} {s : Shared} {t : Sem Value} {hdct : Bool} {Q : Flow → Shared → Prop} {e : Addr} (hbase : bm.contains (.type "BaseException") = true) (hh : A.handled = some (.ref e))
    (h : wpAny M A t (fun u s₁ => ∃ oe vs, u = .ref e ∧ s₁.heap.get? C = some (excClassObj nm q C N bs bm hdct sn sub ab col dd k0 k1 k2 k3 k5 newId) ∧
      s₁.heap.get? e = some oe ∧ oe.cls = .ref C ∧ oe.data = .fields vs ∧ wpAny M A (setFlight (.ref e) none) (fun _ s₂ => E (.ref e) s₂) E s₁) E s) :
    wpAny M A (raiseStmt env (some t) none) Q E s := by
  have hcB : (Value.ref C :: bm).contains (.type "BaseException") = true := by rw [List.contains_cons, hbase, Bool.or_true]
  unfold raiseStmt
  refine wpAny_bind (wpAny_mono h (fun u s₁ h₁ => ?_) fun _ _ x => x)
  obtain ⟨⟨oc, od, odt, osl⟩, vs, rfl, hC, he, hc, hdf, hE⟩ := h₁
  dsimp only at hc hdf
  subst hc hdf
  obtain ⟨hp, g, d, tk, os⟩ := s₁
  have last : ∀ s₂, E (.ref e) s₂ → wpAny M A (raiseNew (.ref e) : Sem Flow) Q E s₂ := fun s₂ h₂ => by
    unfold raiseNew
    refine wpAny_bind (wpAny_handled ?_)
    rw [hh]
    dsimp only
    rw [if_neg (by simp)]
    exact wpAny_bind (wpAny_pure (wpAny_throw h₂))
  repeat (first | with_reducible refine wpAny_bind (wpAny_mono hE (fun _ s₂ h₂ => last s₂ h₂) fun _ _ x => x) | with_reducible refine wpAny_loadPart_at he ?_ | with_reducible refine wpAny_loadPart_at hC ?_ | (with_reducible refine wpAny_isSubtype_exc hC ?_; rw [hcB]) | wp_step)
end

/-- the handler's suite has raised the same exception again -/
theorem suite_again {φ : Fx} (N : Fn φ) (F : Fm φ) {kind : Str} {Nl : Led} {A₀ : Around} {outer : List Env} {B : Heap} {dd x : Addr} {m : Str → Option Value} {n : Str} {pos : Pos} {s : Shared} {h : Heap} {tk : Nat} (hn : φ.env.kindOf n = some .local)
    (X : Held φ kind Nl A₀ outer B dd x m .none h) :
    AsSuiteRaised (model φ.c.prog φ.c.w) (φ.A.mark (some (.ref x))) φ.env n pos (notedBy (model φ.c.prog φ.c.w) (φ.A.mark (some (.ref x))) φ.env (cameBackBy (model φ.c.prog φ.c.w) φ.A φ.env (EP φ kind Nl s))) (.ref x) (Sh s h tk) := by
  have hfe : φ.fe = φ.env := N.fe
  have hf : φ.env.frame = some φ.L := by rw [← hfe]; exact F.frame
  have hfr : φ.A.frames = some (φ.env :: outer) := by rw [← hfe]; exact X.frames
  have fly := X.fly
  rw [hfe] at fly
  refine noteA (s := Sh s h tk) (A := φ.A.mark (some (.ref x))) hfr hf fly.a0 fun h₁ X₁ u₁ => ?_
  have H₁ : Held φ kind Nl A₀ outer B dd x m (rawInt φ.L) h₁ := X.turn (by rw [hfe]; exact X₁) u₁
  refine wpAny_nameGoes (s := Sh s h₁ tk) hn (m := m) (by rw [N.loc]; exact H₁.ns) (by rw [N.kind]; rfl) fun h₂ m₂ hn₂ hs₂ => ?_
  rw [N.loc] at hn₂ hs₂
  have H₂ := H₁.set F hn₂ hs₂
  have fly₂ := H₂.fly
  rw [hfe] at fly₂
  unfold PySem.passOn
  obtain ⟨st, hnew, hl, oe, vs, T, oT, ts, he, hc, hdi, hd, h1, hT, hTx, hTg, hTd, h3⟩ := id fly₂
  refine wpAny_bind (wpAny_field he hd h1 ?_)
  rw [if_neg (show ¬ ((Value.ref T == Value.none) = true) from by simp), hf]
  refine wpAny_bind (flightD (s := Sh s h₂ (tk + 1)) (some φ.L) fly₂ fun h₃ X₃ u₃ => wpAny_throw ?_)
  have H₃ : Held φ kind Nl A₀ outer B dd x m₂ (rawInt φ.L) h₃ := H₂.turn (by rw [hfe]; exact X₃) u₃
  refine noteA (s := Sh s h₃ (tk + 1)) (A := φ.A.mark (some (.ref x))) hfr hf (FlyD.a1 X₃) fun h₄ X₄ u₄ => ?_
  have H₄ : Held φ kind Nl A₀ outer B dd x m₂ (rawInt φ.L) h₄ := H₃.turn (by rw [hfe]; exact X₄) u₄
  obtain ⟨st, hnew, hl, oe, vs, T, oT, ts, he, hc, hdi, hd, h1, hT, hTx, hTg, hTd, h3⟩ := id X₄
  refine wpAny_bind (wpAny_field he hd h1 ?_)
  rw [if_neg (show ¬ ((Value.ref T == Value.none) = true) from by simp), hf]
  refine flightD (s := Sh s h₄ (tk + 1)) (some φ.L) X₄ fun h₅ X₅ u₅ => ?_
  exact ⟨x, h₅, tk + 1, rfl, rfl, (H₄.turn (by rw [hfe]; exact X₅) u₅).flown1⟩

/-- try, and raise it again unless it is of the kind lit -/
theorem RX_tryAgain {φ : Fx} {ρ : Rho} {os : Own} {kind : Str} (CK : CasK φ.c) (XB : φ.c.K.In φ.c.base) {body : List Stmt} {n lit : Str} {np np2 np3 ap cp cpos rpos ipos hpos tpos : Pos} {j : Nat} (h : RS φ body ρ os kind) (hne : (kind != lit) = true)
    (hn : φ.env.kindOf n = some .local) (hxf : φ.env.kindOf ("CasFail" : Str) = some .globalImplicit) (hg : φ.env.globals = mainGlobals) :
    RX φ (.Try body [.ExceptHandler (some (.Name "CasFail" np)) (some n) [.If (.Compare (.Attribute (.Name n np2) "kind" ap) [.NotEq] [.Constant (.str lit) j cp] cpos) [.Raise (some (.Name n np3)) none rpos] [] ipos] hpos] [] [] tpos) ρ os kind :=
  ⟨fun N F m oa O I s S G => by
    refine wpAny_Try_except (wpAny_mono (h.run N F m oa O I s S G) (fun _ _ e => e.elim) fun e s' ⟨x, h', tk', e1, e2, X⟩ => ?_)
    subst e1 e2
    refine caught (s := Sh s h' tk') N F CK XB X hn hxf hg fun A₀ outer B dd m₁ h₁ tk₁ H₁ hm₁ => ?_
    obtain ⟨nm, qn, bs, sn, sub, ab, col, dd', k0, k1, k2, k3, k5, mN, C₀⟩ := CK.at XB
    have C₁ := (C₀.keeps H₁.base).keeps H₁.fly.stays
    obtain ⟨oe, vs, T, oT, ts, he, hc, hdi, hd, h1, _⟩ := H₁.fly.exc
    obtain ⟨mk, t, hmk, hk⟩ := H₁.kind
    refine wpAny_execs_cons (wpAny_If (wpAny_isTrue_Compare1 (Attribute_name (name_ns N hn H₁.ns hm₁ (kind_attr C₁ he hc hdi hd (hmk.keeps H₁.fly.stays) hk (wpAny_Constant_str (ne_str ?_))))) (by rfl)))
    rw [hne]
    refine wpAny_truthy_bool ?_
    simp only [if_true]
    refine wpAny_execs_cons ?_
    rw [arm_exec_Raise]
    refine wpAny_bind (wpAny_standAt (raise_again (C := 31) (bm := excBm) (hdct := true) (nm := nm) (q := qn) (N := 30) (bs := bs) (sn := sn) (sub := sub) (ab := ab) (col := col) (dd := dd') (k0 := k0) (k1 := k1) (k2 := k2) (k3 := k3) (k5 := k5) (newId := "Exception.__new__") (e := x) (by decide +kernel) rfl ?_))
    refine wpAny_bind (name_ns N hn H₁.ns hm₁ (wpAny_bind (wpAny_standAt (wpAny_pure ?_))))
    refine ⟨oe, vs, rfl, C₁.cls, he, hc, hd, ?_⟩
    refine flightD none H₁.fly fun h₂ X₂ u₂ => ?_
    exact suite_again (s := s) N F hn (H₁.turn X₂ u₂)⟩
end

section

theorem RX_while {φ : Fx} {ρ : Rho} {os : Own} {kind : Str} {test : Expr} {body : List Stmt} {pos : Pos} (h : JT φ test ρ os (fun c os₁ => c = true ∧ RS φ body ρ os₁ kind)) : RX φ (.While test body [] pos) ρ os kind :=
  ⟨fun N F m oa O I s S G => by
    refine wpAny_While (codeAny_whileLoop (fun _ s' => s' = s) ?_ 0 rfl)
    rintro n s' rfl
    refine wpAny_mono (h.run F m oa O I s' (fun b s₂ => b = true ∧ wpAny (model φ.c.prog φ.c.w) φ.A (execs body φ.env) (fun _ _ => False) (EX φ kind I s') s₂) S (G.good N) fun b os₁ O₁ I₁ h₁ tk₁ ⟨eb, j⟩ S₁ o₁ e₁ i₁ =>
      ⟨eb, wpAny_mono (j.run N F m oa O₁ I₁ _ S₁ (G.next i₁ o₁ e₁)) (fun _ _ e => e) fun _ _ e => EP.less (Inc.app i₁) e⟩) (fun b s₂ ⟨eb, hb⟩ => ?_) fun _ _ e => e.elim
    subst eb
    exact wpAny_mono hb (fun _ _ e => e.elim) fun e s₃ h₃ => EP_passes F N e s₃ h₃⟩

/-- a def that tells the exception's kind, called from the only frame -/
theorem told1 {c : Cx} {k : Nat} {f : Addr} {qual : Str} {body : List Stmt} {scope : Scope} {cdv : Value} {names : List Str} {ds : List D} {kind n : Str} {np p1 ap rp hp tp : Pos} (CK : CasK c) (XB : c.K.In c.base)
    (H : IsDef c f qual [.Try body [.ExceptHandler (some (.Name "CasFail" np)) (some n) [.Return (some (.Attribute (.Name n p1) "kind" ap)) rp] hp] [] [] tp] scope cdv names) (hl : ds.length = names.length) (on : Str)
    (hn : scope.names.lookup n = some .local) (hxf : scope.names.lookup ("CasFail" : Str) = some .globalImplicit)
    (h : ∀ (A : Around) (g : Heap) (L : Addr) (O₀ : Led), RS { c := c, A := A, fe := envOf qual scope L f cdv, env := envOf qual scope L f cdv, h₀ := g, L := L, O₀ := O₀, on := on, k := k } body (names.zip ds) none kind) : Tells1 c (k + 1) (.ref f) ds (fun d => d = .str kind) :=
  ⟨fun φ ec hk F ⟨A₀, K0, hA, cn, cs, a, ccd, hfe⟩ m O I s vs Qv S r q => by
    subst ec
    have hlv : vs.length = names.length := r.length.trans hl
    obtain ⟨name, params, dV, kV, doc, pm, ct, oc, an, od, osl, ho, hb⟩ := H.obj
    have hd := F.depth
    have hu := F.units
    have hck : cs.kind = .function := by have := F.kind; rw [hfe] at this; exact this
    refine wpAny_call (code_defS0 (cn := cn) (cs := cs) (a := a) (ccd := ccd) K0 S.fr F.kin S.news F.top (by rw [hA, hfe]) ho H.code (by omega) (BindsTo.of_eq (hb vs hlv)) (fun y hy => H.loc _ (List.of_mem_zip hy).1) (fun g L' h₁ FG F' N' B' X' T' D' => ?_) hck H.co H.gen H.kind H.cell)
    rw [← hfe] at B' ⊢
    have hA' : (φ.A.deeper (envOf qual scope L' f cdv)).frames = some [envOf qual scope L' f cdv, φ.fe] := by show Option.map _ φ.A.frames = _; rw [hA]; rfl
    have F₂ : Fm (fxOf φ qual scope f cdv g L' O on k) := ⟨⟨φ.A, [φ.fe], B', hA'⟩, X', T', rfl, H.kind, F.handled, by show φ.A.depth + 1 + k < _; omega, by show φ.A.units + 3 + 16 * k + 100 < _; omega⟩
    have N₂ : Fn (fxOf φ qual scope f cdv g L' O on k) := fn_of H φ g L' O on k
    refine wpAny_execs_cons (wpAny_Try_except (wpAny_mono ((h _ g L' O).run N₂ F₂ _ 0 O I _ ⟨F', N', S.off⟩ (good_args (φ := fxOf φ qual scope f cdv g L' O on k) H.loc H.nodup r hlv rfl 0)) (fun _ _ e => e.elim) fun e s' ⟨x, h', tk', e1, e2, X⟩ => ?_))
    subst e1; subst e2
    refine caught (φ := fxOf φ qual scope f cdv g L' O on k) N₂ F₂ CK XB X hn hxf rfl fun A₁ outer B dd m₁ h₂ tk₂ H₁ hm₁ => ?_
    obtain ⟨nm, qn, bs, sn, sub, ab, col, dd', k0, k1, k2, k3, k5, mN, C₀⟩ := CK.at XB
    have C₁ := (C₀.keeps H₁.base).keeps H₁.fly.stays
    obtain ⟨oe, vs', T, oT, ts, he, hc, hdi, hd', h1, _⟩ := H₁.fly.exc
    obtain ⟨mk, t, hmk, hkd⟩ := H₁.kind
    refine wpAny_execs_cons (wpAny_Return_some (Attribute_name (name_ns N₂ hn H₁.ns hm₁ (kind_attr C₁ he hc hdi hd' (hmk.keeps H₁.fly.stays) hkd ?_))))
    refine wpAny_nameGoes hn (m := m₁) (by rw [N₂.loc]; exact H₁.ns) (by rw [N₂.kind]; rfl) fun h₃ m₃ hn₃ hs₃ => ?_
    rw [N₂.loc] at hn₃ hs₃
    have H₃ := H₁.set F₂ hn₃ hs₃
    have eo : outer = [φ.fe] := by
      have := H₃.frames.symm.trans hA'
      injection this with this
      injection this
    subst eo
    obtain ⟨T₃, S₃⟩ := kts_turn_at (h := h₃) (fs := [φ.fe].filterMap (·.frame)) (g := g)
      (fun b hb => by
        obtain ⟨_, o, ho', _⟩ := B'.frames.mem hb
        exact ⟨o, ho'⟩)
      (fun b o e nm => H₃.fly.stays b o (H₃.kept b o e nm))
      (fun b o e hm => by
        obtain ⟨_, o', ho', hd⟩ := B'.frames.mem hm
        rw [e] at ho'
        cases ho'
        exact H₃.ups b o e hd)
    refine leaveS0_ (g' := ktsHeap h₃ ([φ.fe].filterMap (·.frame)) g) (L' := L') (m' := m₃) (news' := O ++ I) ⟨hn₃, S₃, by rw [T₃.size]; exact F'.above⟩ (fun p hp => ⟨H₃.fly.stays _ _ (H₃.led p hp), fun e => ?_, T₃.none_ _ (N' p hp).2.2⟩) T₃ fun F₄ N₄ => ?_
    · have h1 := H₃.led p hp
      have h2 := H₃.out F₂
      rw [e] at h1
      exact absurd (h1.symm.trans h2) (by simp)
    · exact q _ (.str kind) I h₃ _ rfl ⟨F₄, N₄, S.off⟩ Inc.refl (.str _ _)⟩
end

section

/-! the text's functions as functions of plain data -/
abbrev Q := Int × Int
abbrev Ser := List Q
def qD (q : Q) : D := .tup [.int q.1, .int q.2]
def sD (l : Ser) : D := .lst (l.map qD)
def lD (l : Int × Ser) : D := .tup [.int l.1, sD l.2]

def mulO (x y : Int) : Option Int := if x.natAbs < 2 ^ 60 ∧ y.natAbs < 2 ^ 60 then some (x * y) else none
theorem mulO_some {x y r : Int} (h : mulO x y = some r) : IntMulOk x y ∧ r = x * y ∧ r.natAbs < 2 ^ 120 := by
  unfold mulO at h
  split at h
  · rename_i c
    cases h
    refine ⟨IntMulOk.of_left (intBits_le_64 (by omega) (by omega)), rfl, ?_⟩
    rw [Int.natAbs_mul]
    calc x.natAbs * y.natAbs < 2 ^ 60 * 2 ^ 60 := Nat.mul_lt_mul'' c.1 c.2
      _ = 2 ^ 120 := by decide
  · cases h
def gcdS (t b : Int) : Int := if 0 < b then (Int.gcd t b : Int) else 0 - (Int.gcd t b : Int)
def ratO (t b : Int) : Option Q := if b = 0 ∨ ¬ b.natAbs < 2 ^ 200 then none else some (t.fdiv (gcdS t b), b.fdiv (gcdS t b))
theorem ratO_some {t b : Int} {r : Q} (h : ratO t b = some r) : b ≠ 0 ∧ gcdS t b ≠ 0 ∧ (∀ x, Builtin.divisionGoesByPylong x (gcdS t b) = false) ∧ r = (t.fdiv (gcdS t b), b.fdiv (gcdS t b)) := by
  unfold ratO at h
  split at h
  · cases h
  · rename_i c
    cases h
    have hb : b ≠ 0 := fun e => c (.inl e)
    have hl : b.natAbs < 2 ^ 200 := by
      by_cases q : b.natAbs < 2 ^ 200
      · exact q
      · exact absurd (.inr q) c
    have hg : 0 < Int.gcd t b := Int.gcd_pos_of_ne_zero_right _ hb
    have hle : Int.gcd t b ≤ b.natAbs := Nat.le_of_dvd (by omega) (by exact Nat.gcd_dvd_right _ _)
    have hn : (gcdS t b).natAbs = Int.gcd t b := by unfold gcdS; split <;> omega
    refine ⟨hb, by unfold gcdS; split <;> omega, fun x => ?_, rfl⟩
    refine PyProof.noPylong_of_log2 ?_
    rw [hn]
    have : Int.gcd t b < 2 ^ 200 := Nat.lt_of_le_of_lt hle hl
    exact Nat.lt_of_lt_of_le ((Nat.log2_lt (by omega)).mpr this) (by decide)
def raddO (a b : Q) : Option Q := do let p ← mulO a.1 b.2; let q ← mulO b.1 a.2; let r ← mulO a.2 b.2; ratO (p + q) r
def rsubO (a b : Q) : Option Q := do let p ← mulO a.1 b.2; let q ← mulO b.1 a.2; let r ← mulO a.2 b.2; ratO (p - q) r
def rmulO (a b : Q) : Option Q := do let p ← mulO a.1 b.1; let r ← mulO a.2 b.2; ratO p r
def rdivO (a b : Q) : Option Q := do let p ← mulO a.1 b.2; let r ← mulO a.2 b.1; ratO p r

/-- so many turns -/
def preM {α : Type} (step : α → Nat → Option α) (init : α) : Nat → Option α
  | 0 => some init
  | i + 1 => (preM step init i).bind fun f => step f i
theorem preM_le {α : Type} {step : α → Nat → Option α} {init : α} : ∀ {n : Nat} {r : α}, preM step init n = some r → ∀ {i : Nat}, i ≤ n → ∃ f, preM step init i = some f
  | 0, r, h, i, hi => by
    have : i = 0 := by omega
    subst this
    exact ⟨_, h⟩
  | n + 1, r, h, i, hi => by
    by_cases e : i = n + 1
    · subst e; exact ⟨_, h⟩
    · obtain ⟨f, hf, _⟩ := Option.bind_eq_some_iff.mp h
      exact preM_le hf (by omega)
theorem preM_step {α : Type} {step : α → Nat → Option α} {init : α} {n : Nat} {r : α} (h : preM step init n = some r) {i : Nat} (hi : i < n) {f : α} (hf : preM step init i = some f) : ∃ f', step f i = some f' ∧ preM step init (i + 1) = some f' := by
  obtain ⟨f', h'⟩ := preM_le h (show i + 1 ≤ n from hi)
  have h2 := h'
  unfold preM at h2
  rw [hf] at h2
  exact ⟨f', h2, h'⟩
def tabO {α : Type} (f : Nat → Option α) : Nat → Option (List α)
  | 0 => some []
  | n + 1 => (tabO f n).bind fun l => (f n).bind fun x => some (l ++ [x])
theorem tabO_some {α : Type} {f : Nat → Option α} : ∀ {n : Nat} {l : List α}, tabO f n = some l → l.length = n ∧ ∀ i, i < n → ∃ x, l[i]? = some x ∧ f i = some x
  | 0, l, h => by cases h; exact ⟨rfl, fun i hi => by omega⟩
  | n + 1, l, h => by
    obtain ⟨l', h1, h2⟩ := Option.bind_eq_some_iff.mp h
    obtain ⟨x, h3, h4⟩ := Option.bind_eq_some_iff.mp h2
    cases h4
    obtain ⟨hl, hi⟩ := tabO_some h1
    refine ⟨by simp [hl], fun i h => ?_⟩
    by_cases e : i = n
    · subst e
      exact ⟨x, by rw [List.getElem?_append_right (by omega)]; simp [hl], h3⟩
    · obtain ⟨y, h5, h6⟩ := hi i (by omega)
      exact ⟨y, by rw [List.getElem?_append_left (by omega)]; exact h5, h6⟩
def mapO {α β : Type} (f : α → Option β) : List α → Option (List β)
  | [] => some []
  | x :: l => (f x).bind fun y => (mapO f l).bind fun r => some (y :: r)
theorem mapO_some {α β : Type} {f : α → Option β} : ∀ {l : List α} {r : List β}, mapO f l = some r → r.length = l.length ∧ (∀ x ∈ l, ∃ y, f x = some y) ∧ ∀ g : α → β, (∀ x y, f x = some y → g x = y) → r = l.map g
  | [], r, h => by cases h; exact ⟨rfl, fun x hx => by simp at hx, fun g hg => rfl⟩
  | x :: l, r, h => by
    obtain ⟨y, h1, h2⟩ := Option.bind_eq_some_iff.mp h
    obtain ⟨r', h3, h4⟩ := Option.bind_eq_some_iff.mp h2
    cases h4
    obtain ⟨a, b, c⟩ := mapO_some h3
    refine ⟨by simp [a], fun z hz => ?_, fun g hg => ?_⟩
    · rcases List.mem_cons.mp hz with rfl | hz
      · exact ⟨y, h1⟩
      · exact b z hz
    · rw [List.map_cons, hg x y h1, ← c g hg]

def cmpO (a b : Q) : Option Int := do let p ← mulO a.1 b.2; let q ← mulO b.1 a.2; some (p - q)
def mixS (a b : Ser) (n : Nat) (f : Q) (i : Nat) : Option Q := (a[i]?).bind fun x => (b[n - i]?).bind fun y => if x = (0, 1) ∨ y = (0, 1) then some f else (rmulO x y).bind fun p => raddO f p
def mixedO (a b : Ser) (n : Nat) : Option Q := preM (mixS a b n) (0, 1) (n + 1)
def smulO (a b : Ser) : Option Ser := if a.length ≤ 50 ∧ b.length ≤ 50 then tabO (mixedO a b) (min a.length b.length) else none
def saddO (a b : Ser) : Option Ser := if a.length ≤ 50 ∧ b.length ≤ 50 then tabO (fun i => (a[i]?).bind fun x => (b[i]?).bind fun y => raddO x y) (min a.length b.length) else none
def sscaleO (q : Q) (a : Ser) : Option Ser := if a.length ≤ 50 then mapO (rmulO q) a else none

theorem item_s {l : Ser} {k : Int} {q : Q} (h0 : 0 ≤ k) (h1 : k < 1000) (h : l[k.toNat]? = some q) : ItemOf (sD l) (.int k) (qD q) := ⟨_, k, .inr rfl, rfl, h0, h1, by rw [List.getElem?_map, h]; rfl⟩
theorem lookup_of {x y : Str} {d : D} {ρ σ : Rho} (h : upd x d ρ = σ) (hne : (y == x) = false) : ρ.lookup y = σ.lookup y := by
  rw [← h, lookup_upd, if_neg (fun e => by rw [e] at hne; simp at hne)]
theorem item2a {x y : D} : ItemOf (.tup [x, y]) (.int 0) x := ⟨_, 0, .inl rfl, rfl, by decide, by decide, rfl⟩
theorem item2b {x y : D} : ItemOf (.tup [x, y]) (.int 1) y := ⟨_, 1, .inl rfl, rfl, by decide, by decide, rfl⟩
end

section

theorem if_tt {p q : Prop} (h : p) : if true = true then p else q := by rw [if_pos rfl]; exact h
theorem if_ff {p q : Prop} (h : q) : if false = true then p else q := by rw [if_neg Bool.false_ne_true]; exact h
theorem if_bf {b : Bool} {p q : Prop} (hb : b = false) (h : q) : if b = true then p else q := by rw [if_neg (by rw [hb]; exact Bool.false_ne_true)]; exact h
theorem if_bt {b : Bool} {p q : Prop} (hb : b = true) (h : p) : if b = true then p else q := by rw [if_pos hb]; exact h
theorem if_join {c : Prop} {dc : Decidable c} {φ : Fx} {a b : Expr} {ρ : Rho} {os : Own} {Q : D → Own → Prop} (d1 d2 : D) (h1 : JE φ a ρ os (fun d o => d = d1 ∧ o = os)) (h2 : JE φ b ρ os (fun d o => d = d2 ∧ o = os))
    (h : ∀ d, d = (if c then d1 else d2) → Q d os) : if decide c = true then JE φ a ρ os Q else JE φ b ρ os Q := by
  by_cases hc : c
  · rw [if_pos (decide_eq_true hc)]
    exact h1.mono fun d o ⟨e1, e2⟩ => by subst e2; exact h d (by rw [if_pos hc]; exact e1)
  · rw [if_neg (by rw [decide_eq_false hc]; exact Bool.false_ne_true)]
    exact h2.mono fun d o ⟨e1, e2⟩ => by subst e2; exact h d (by rw [if_neg hc]; exact e1)

def invS (a l : Ser) (t : Q) (j : Nat) : Option Q := (a[j + 1]?).bind fun x => (l[l.length - (j + 1)]?).bind fun y => (rmulO x y).bind fun p => rsubO t p
def invRow (a : Ser) (a0 : Q) (l : Ser) : Option Ser := (preM (invS a l) (if l.length = 0 then (1, 1) else (0, 1)) l.length).bind fun t => (rdivO t a0).bind fun q => some (l ++ [q])
def sinvO (a : Ser) : Option Ser := match a with
  | [] => none
  | a0 :: r => if a0 = (0, 1) ∨ ¬ r.length < 50 then none else preM (fun l _ => invRow (a0 :: r) a0 l) [] (r.length + 1)
def powS (a : Ser) (num : Q) (l : Ser) (t : Q) (j : Nat) : Option Q := (rmulO num (1 + (j : Int), 1)).bind fun x => (rsubO x ((l.length : Int) - (1 + (j : Int)), 1)).bind fun tm => (a[j + 1]?).bind fun y => (rmulO tm y).bind fun z => (l[l.length - (j + 1)]?).bind fun u => (rmulO z u).bind fun v => raddO t v
def powRow (a : Ser) (num : Q) (l : Ser) : Option Ser := (preM (powS a num l) (0, 1) l.length).bind fun t => if l.length = 0 then some (l ++ [(1, 1)]) else (rdivO t ((l.length : Int), 1)).bind fun q => some (l ++ [q])
def spowO (a : Ser) (num : Q) : Option Ser := match a with
  | [] => none
  | a0 :: r => if cmpO a0 (1, 1) = some 0 ∧ r.length < 50 then preM (fun l _ => powRow (a0 :: r) num l) [] (r.length + 1) else none
def swLoop : Nat → Ser → Ser → Nat → Option Ser
  | 0, _, _, _ => none
  | n + 1, f, b, left => if left = 0 then some f else (if left % 2 = 1 then smulO f b else some f).bind fun f' => (smulO b b).bind fun b' => swLoop n f' b' (left / 2)
def oneS (n : Nat) : Ser := [((1 : Int), (1 : Int))].take n ++ List.replicate (n - 1) (0, 1)
def swO (a : Ser) (m : Nat) : Option Ser := if a.length ≤ 50 then swLoop 8 (oneS a.length) a m else none
/-- rows grow by one -/
theorem row_len {f : Ser → Option Ser} (hf : ∀ l r, f l = some r → r.length = l.length + 1) : ∀ {n : Nat} {r : Ser}, preM (fun l _ => f l) [] n = some r → r.length = n
  | 0, r, h => by cases h; rfl
  | n + 1, r, h => by
    obtain ⟨l, h1, h2⟩ := Option.bind_eq_some_iff.mp h
    rw [hf l r h2, row_len hf h1]
theorem invRow_len {a : Ser} {a0 : Q} {l r : Ser} (h : invRow a a0 l = some r) : r.length = l.length + 1 := by
  obtain ⟨t, _, h⟩ := Option.bind_eq_some_iff.mp h
  obtain ⟨q, _, h⟩ := Option.bind_eq_some_iff.mp h
  cases h; simp
theorem powRow_len {a : Ser} {num : Q} {l r : Ser} (h : powRow a num l = some r) : r.length = l.length + 1 := by
  obtain ⟨t, _, h⟩ := Option.bind_eq_some_iff.mp h
  split at h
  · cases h; simp
  · obtain ⟨q, _, h⟩ := Option.bind_eq_some_iff.mp h
    cases h; simp

abbrev Lau := Int × Ser
def lplainO (q : Q) (many : Nat) : Lau := (0, q :: List.replicate (many - 1) (0, 1))
def lmovedS (a : Lau) (low : Int) : Ser := List.replicate (a.1 - low).toNat (0, 1) ++ a.2
def laddO (a b : Lau) : Option Lau := if a.2.length + (a.1 - b.1).natAbs ≤ 50 ∧ b.2.length + (a.1 - b.1).natAbs ≤ 50 then (saddO (lmovedS a (min a.1 b.1)) (lmovedS b (min a.1 b.1))).bind fun r => some (min a.1 b.1, r) else none
def lmulO (a b : Lau) : Option Lau := (smulO a.2 b.2).bind fun r => some (a.1 + b.1, r)
def trim : Int → Ser → Lau
  | n, [] => (n, [])
  | n, q :: r => if q = (0, 1) then trim (n + 1) r else (n, q :: r)
def linvO (a : Lau) : Option Lau := match (trim a.1 a.2).2 with
  | [] => none
  | _ :: _ => if a.2.length ≤ 50 then (sinvO (trim a.1 a.2).2).bind fun r => some (0 - (trim a.1 a.2).1, r) else none
theorem trim_len : ∀ (n : Int) (l : Ser), (trim n l).2.length ≤ l.length
  | n, [] => Nat.le_refl _
  | n, q :: r => by
    unfold trim
    split
    · exact Nat.le_trans (trim_len _ r) (Nat.le_succ _)
    · exact Nat.le_refl _
def lpowN (a : Lau) (m : Nat) : Option Lau := if a.2.length ≤ 50 ∧ 1 ≤ a.2.length ∧ m < 100 ∧ (trim a.1 a.2).1.natAbs < 1000 then
    (if m = 0 then some (0, (1, 1) :: List.replicate (a.2.length - 1) (0, 1)) else (swO (trim a.1 a.2).2 m).bind fun r => some ((trim a.1 a.2).1 * m, r)) else none
def lpowO (a : Lau) (m : Int) : Option Lau := if m < 0 then (linvO a).bind fun b => lpowN b (-m).toNat else lpowN a m.toNat

/-! roots -/
def powO (h : Int) (k : Nat) : Option Int := if h.natAbs < 2 ^ 60 ∧ k < 100 then some (h ^ k) else none
def root1 : Nat → Int → Nat → Int → Int → Option (Int × Int)
  | 0, _, _, _, _ => none
  | f + 1, n, k, low, high => (powO high k).bind fun p => if p ≤ n then root1 f n k high (2 * high) else some (low, high)
def root2 : Nat → Int → Nat → Int → Int → Option Int
  | 0, _, _, _, _ => none
  | f + 1, n, k, low, high => if high - low > 1 then (powO ((low + high).fdiv 2) k).bind fun p => if p ≤ n then root2 f n k ((low + high).fdiv 2) high else root2 f n k low ((low + high).fdiv 2) else some low
def rootO (n : Int) (k : Nat) : Option Int := (root1 10 n k 0 1).bind fun p => root2 10 n k p.1 p.2
def exactO (q : Q) (k : Nat) : Option Q := (rootO q.1 k).bind fun t => (rootO q.2 k).bind fun b => (powO t k).bind fun x => (powO b k).bind fun y => if x = q.1 ∧ y = q.2 then some (t, b) else none
/-- a root with a series -/
def rootS (a : Lau) (num : Int) (den : Nat) : Option Lau := match trim a.1 a.2 with
  | (low, rest) => match rest with
    | [] => none
    | q :: r => if a.2.length ≤ 50 ∧ den ≠ 0 ∧ den < 100 ∧ num.natAbs < 100 ∧ low.natAbs < 1000 ∧ (low * num).fmod den = 0 ∧ 0 < q.1 then
        (exactO q den).bind fun f => (if num < 0 then rdivO (1, 1) f else some f).bind fun f =>
          (powO f.1 num.natAbs).bind fun x => (powO f.2 num.natAbs).bind fun y => (rdivO (1, 1) q).bind fun i => (sscaleO i (q :: r)).bind fun u => (spowO u (num, den)).bind fun v => (sscaleO (x, y) v).bind fun z => some ((low * num).fdiv den, z)
      else none
end

section
section
variable {tb : String → Option Builtin} {p : Program} {w : World}
/-- the top's run over a heap that is kept as a tree; the step and the leave to step are handed in -/
def runG (st : SharedT → Thread → Option (SharedT × Thread)) (ok : Thread → Bool) : Nat → SharedT → Thread → Option SharedT
  | 0, _, _ => none
  | n + 1, s, t => match through t with
    | true => some s
    | false => match ok t with
      | false => none
      | true => match st s t with
        | some x => runG st ok n x.1 x.2
        | none => none
theorem runG_of {n₀ : Nat} {ann : Option Value} : ∀ {n : Nat} {s r : SharedT} {t : Thread}, runG (stepT (denote tb) p w) (stepOk n₀ ann) n s t = some r → topRun tb p w n₀ ann n s.abs t = some r.abs
  | 0, _, _, _, h => by cases h
  | n + 1, s, r, t, h => by
    unfold runG at h
    unfold topRun
    cases e1 : through t with
    | true => rw [e1] at h; cases h; rfl
    | false =>
      rw [e1] at h
      cases e2 : stepOk n₀ ann t with
      | false => rw [e2] at h; cases h
      | true =>
        rw [e2] at h
        cases e3 : stepT (denote tb) p w s t with
        | none => rw [e3] at h; cases h
        | some x =>
          obtain ⟨s', t'⟩ := x
          rw [e3] at h
          dsimp only at h ⊢
          rw [stepT_spec e3]
          exact runG_of h
/-- a row of objects as a tree -/
def growT : BT → Nat → List Obj → Option (BT × Nat)
  | t, n, [] => some (t, n)
  | t, n, o :: l => match ((t.ins n o).get n).isSome with
    | true => growT (t.ins n o) (n + 1) l
    | false => none
theorem growT_of {life : Life} : ∀ {l : List Obj} {t : BT} {n : Nat} {x : BT × Nat}, growT t n l = some x → absHeap x.1 x.2 life = ⟨(absHeap t n life).objs ++ l.toArray, life⟩
  | [], t, n, x, h => by
    cases h
    show _ = Heap.mk ((absHeap t n life).objs ++ #[]) life
    rw [Array.append_empty]
    rfl
  | o :: l, t, n, x, h => by
    unfold growT at h
    cases e : ((t.ins n o).get n).isSome with
    | false => rw [e] at h; cases h
    | true =>
      rw [e] at h
      rw [growT_of (life := life) h, absHeap_ins e]
      show Heap.mk (((absHeap t n life).objs.push o) ++ l.toArray) life = _
      congr 1
      apply Array.ext'
      simp
theorem absHeap_nil {life : Life} : absHeap .nil 0 life = ⟨#[], life⟩ := rfl
/-- the top's end, the run over a tree -/
noncomputable def endsG (st : SharedT → Thread → Option (SharedT × Thread)) (ok : Nat → Option Value → Thread → Bool) (fo : Option Shared) (p : Program) (N : Nat) : Option Shared :=
  fo.bind fun s₀ => match s₀.heap.isNs mainGlobals && s₀.gens.size == 0 with
    | false => none
    | true => (growT .nil 0 s₀.heap.objs.toList).bind fun x =>
      (runG st (ok s₀.heap.objs.size (s₀.heap.nsMap mainGlobals "__annotations__")) N ⟨x.1, x.2, s₀.heap.life, s₀.gens, s₀.drawn, s₀.toks, s₀.os⟩ (topStub p)).bind fun r =>
        match staticsOk (Fast.tw5923862056798008813 p.main.body) s₀.heap r.abs.heap && namesBound p r.abs.heap && gensDone r.abs && laidKept s₀.heap r.abs.heap with
        | true => some r.abs
        | false => none
theorem endsG_of {N : Nat} {s : Shared} (h : endsG (stepT (denote tb) p w) stepOk (fencedOpening tb p w N) p N = some s) : openEnds tb p w N = some s := by
  unfold endsG at h
  rw [← Fast.te5923862056798008813] at h
  obtain ⟨s₀, h0, h⟩ := Option.bind_eq_some_iff.mp h
  unfold openEnds
  rw [h0]
  show topFrom tb p w N s₀ = some s
  unfold topFrom
  cases e : (s₀.heap.isNs mainGlobals && s₀.gens.size == 0) with
  | false => rw [e] at h; cases h
  | true =>
    rw [e] at h
    dsimp only at h ⊢
    obtain ⟨x, hx, h⟩ := Option.bind_eq_some_iff.mp h
    obtain ⟨r, hr, h⟩ := Option.bind_eq_some_iff.mp h
    have ea : (⟨x.1, x.2, s₀.heap.life, s₀.gens, s₀.drawn, s₀.toks, s₀.os⟩ : SharedT).abs = s₀ := by
      have := growT_of (life := s₀.heap.life) hx
      show Shared.mk (absHeap x.1 x.2 s₀.heap.life) s₀.gens s₀.drawn s₀.toks s₀.os = s₀
      rw [this, absHeap_nil]
      obtain ⟨⟨objs, life⟩, gens, drawn, toks, os⟩ := s₀
      congr 2
      apply Array.ext'
      simp
    have hr' := runG_of hr
    rw [ea] at hr'
    rw [hr']
    exact h
/-- the library's quick twins of its own functions: the step, the opening, the looks -/
noncomputable abbrev qStep (p : Program) (w : World) : SharedT → Thread → Option (SharedT × Thread) := Fast.tw10156331382660048174 (Fast.tw11892475500146522536 Fast.tw14364793385576792824) p w
noncomputable abbrev qOpen (p : Program) (w : World) (N : Nat) : Option Shared :=
  (Fast.tw10274390034422433532 Fast.tw14364793385576792824 (opening p) w N (Fast.tw1435165496053646825 (opening p)).1 (Fast.tw1435165496053646825 (opening p)).2).bind (Fast.tw14289696077712309145 p)
theorem qStep_is (p : Program) (w : World) : qStep p w = stepT (denote treeTable) p w := by
  unfold qStep
  rw [← Fast.te10156331382660048174, ← Fast.te11892475500146522536, ← Fast.te14364793385576792824]
theorem qOpen_is (p : Program) (w : World) (N : Nat) : qOpen p w N = fencedOpening treeTable p w N := by
  unfold qOpen fencedOpening
  rw [← Fast.te10274390034422433532, ← Fast.te14364793385576792824, ← Fast.te1435165496053646825, ← Fast.te14289696077712309145]
noncomputable abbrev qGood (q : Program) (loose : List Str) := (expectedOf q, bltViewBooted, true, true, pinGoodD (Fast.tw3247288618530077131 q), plainGoodE q (Fast.tw821141287760084731 q loose), plainGoodD q loose, wideGood q, clsGoodW q loose)
theorem qGood_is (q : Program) (loose : List Str) : qGood q loose = openGood q loose := by
  unfold qGood openGood
  rw [← Fast.te3247288618530077131, ← Fast.te821141287760084731]
theorem left_of {q : Program} {loose : List Str} {Xt : Shared → Bool} {α : Type} {Yf : Shared → α} {Ya : World → α} {N : Nat} {g0 : Bool}
    (h : ∀ w, (endsG (qStep p w) Fast.tw6613529449190102663 (qOpen p w N) p N).map (fun s => (Fast.tw4187177175401517315 q loose (Fast.tw5923862056798008813 p.main.body) Xt g0 s, Yf s)) = some (qGood q loose, Ya w)) : LeftO p q loose Xt Yf Ya N g0 := fun w => by
  have hw := h w
  rw [qStep_is, qOpen_is, ← Fast.te6613529449190102663, ← Fast.te4187177175401517315, qGood_is, ← Fast.te5923862056798008813] at hw
  obtain ⟨s, hs, e⟩ := Option.map_eq_some_iff.mp hw
  rw [endsG_of hs]
  exact congrArg some e
end
end

section
-- what is looked at in the text, by the kernel alone: no twins are laid, the compiled file stays small
theorem said_looks : looksOpen PySem.Challenge.rw_pq0194_01.row.prog = true := by
  unfold looksOpen
  repeat' (with_reducible refine look_both ?_ ?_)
  all_goals kernel_rfl
theorem said_part : PySem.Challenge.rw_pq0194_01.row.wellSaid = true := by
  unfold OpenRow.wellSaid OpenRow.partSaid
  repeat' (with_reducible first | exact said_looks | refine look_both ?_ ?_)
  all_goals kernel_rfl
theorem law_said : PySem.Challenge.rw_pq0194_01.wellSaid = true := by
  unfold OpenLaw.wellSaid
  repeat' (with_reducible first | exact said_part | refine look_both ?_ ?_)
  all_goals kernel_rfl
-- the top's run in one evaluation by the kernel, over a tree (left_of)
local macro_rules | `(tactic| refine $f:ident (q := $a) (loose := $b) $args*) => `(tactic| (refine' $f (q := $a) (loose := $b) $args*; case' hl => exact left_of (by intro w; kernel_rfl)))
local macro_rules | `(tactic| o_law) => `(tactic| refine' holds_law law_said (fun said => ?_))
open_top hd for PySem.Challenge.rw_pq0194_01
end

section

/-- the bench of this law -/
noncomputable abbrev cx (w : World) (mean : ExcName → Option Value) (mg mb : Str → Option Value) (base : Heap) : Cx :=
  { prog := PySem.Challenge.rw_pq0194_01.row.prog, w := w, K := hd.heap_1 w.params, p := hd.view_1, loose := looseW hd.view_1 [], mean := mean, mg := mg, mb := mb, base := base }


theorem if_t {c : Prop} {d : Decidable c} {p q : Prop} (h : c) (x : p) : if decide c = true then p else q := by rw [if_pos (decide_eq_true h)]; exact x
theorem if_f {c : Prop} {d : Decidable c} {p q : Prop} (h : ¬ c) (x : q) : if decide c = true then p else q := by rw [if_neg (by rw [decide_eq_false h]; exact Bool.false_ne_true)]; exact x
theorem if_b {c : Prop} {d : Decidable c} {p q : Prop} (x : c → p) (y : ¬ c → q) : if decide c = true then p else q := by
  by_cases h : c
  · exact if_t h (x h)
  · exact if_f h (y h)

/-- the two ratios of the top -/
theorem rep_R0 {w : World} {base : Heap} (hB : (hd.heap_1 w.params).In base) : Rep base [] (.ref 49) (.tup [.int 0, .int 1]) := by
  have h : base.get? 49 = some (tobj [.int 0 _, .int 1 _] _) := hB 49 _ (by k_is)
  exact .tup 49 _ _ _ (.inr h) (.cons (.int _ _) (.cons (.int _ _) .nil))
theorem rep_R1 {w : World} {base : Heap} (hB : (hd.heap_1 w.params).In base) : Rep base [] (.ref 50) (.tup [.int 1, .int 1]) := by
  have h : base.get? 50 = some (tobj [.int 1 _, .int 1 _] _) := hB 50 _ (by k_is)
  exact .tup 50 _ _ _ (.inr h) (.cons (.int _ _) (.cons (.int _ _) .nil))
end

section
theorem reps_well {P : Params} {h b : Heap} {I : Led} : ∀ {vs : List Value} {xs : List Int}, WellAll P h vs (ofPys (xs.map PyData.int)) → Reps b I vs (xs.map D.int)
  | _, [], w => by cases w; exact .nil
  | _, x :: xs, w => by
    cases w with
    | cons a t => cases a; exact .cons (.int _ _) (reps_well t)
theorem rep_script {P : Params} {h : Heap} {a : Addr} {xs : List Int} (w : Well P h (.ref a) (ofPy (PyData.list (xs.map PyData.int)))) : Rep h [] (.ref a) (.lst (xs.map D.int)) := by
  have w' : Well P h (.ref a) (.list (ofPys (xs.map PyData.int))) := w
  cases w' with
  | list hg wa => exact .lst a _ 0 _ (.inr hg) (reps_well wa)

noncomputable abbrev topFx (w : World) (mean : ExcName → Option Value) (mg mb : Str → Option Value) (base : Heap) (qual : Str) (scope : Scope) (f : Addr) (cd : Value) : Fx :=
  { c := cx w mean mg mb base, A := callerA.deeper (envOf qual scope base.objs.size f cd), fe := envOf qual scope base.objs.size f cd, env := envOf qual scope base.objs.size f cd, h₀ := base, L := base.objs.size, O₀ := [], on := "box", k := 30 }
theorem top_entry {w : World} {mean : ExcName → Option Value} {mg mb : Str → Option Value} {base : Heap} {qual : Str} {body : List Stmt} {scope : Scope} {f : Addr} {cd : Value} {xs : List Int} {a : Addr} {s : Shared} {m : Str → Option Value} {Q : Flow → Shared → Prop} {E : Value → Shared → Prop}
    (KX : (hd.heap_1 w.params).In base) (T : Top hd.view_1 (looseW hd.view_1 []) mean mg mb base) (K0 : Below callerA base [] base) (F : Fr base base.objs.size s.heap m) (N : News base base.objs.size s.heap [])
    (W : Well w.params base (.ref a) (ofPy (PyData.list (xs.map PyData.int)))) (hm : m "script" = some (.ref a)) (hk : scope.kind = .function) (hs : scope.names.lookup ("script" : Str) = some .local) (hdb : scope.names.lookup ("__debug__" : Str) ≠ some .local)
    (J : Only (topFx w mean mg mb base qual scope f cd) → JS (topFx w mean mg mb base qual scope f cd) body [(Str.ofString "script", .lst (xs.map .int))] none (fun fd ρ os => ∃ d, d = .bool true ∧ fd = .ret d))
    (hQ : ∀ h' tk' m', Fr base base.objs.size h' m' → Q (.ret (.bool true)) (Sh s h' tk')) :
    wpAny (model PySem.Challenge.rw_pq0194_01.row.prog w) (callerA.deeper (envOf qual scope base.objs.size f cd)) (execs body (envOf qual scope base.objs.size f cd)) Q E s := by
  have hfr : (callerA.deeper (envOf qual scope base.objs.size f cd)).frames = some [envOf qual scope base.objs.size f cd] := Around.frames_deeper K0.stack
  have Fm' : Fm (topFx w mean mg mb base qual scope f cd) := ⟨⟨callerA, [], K0, hfr⟩, KX, T, rfl, hk, rfl, by show callerA.depth + 1 + 30 < _; decide, by show callerA.units + 3 + 16 * 30 + 100 < _; decide⟩
  have Fn' : Fn (topFx w mean mg mb base qual scope f cd) := ⟨⟨qual, f, cd, rfl⟩, hk, rfl, hdb⟩
  have S : St base base.objs.size [] [] m s := ⟨F, N, fun p hp => by simp at hp⟩
  have G : GoodS (topFx w mean mg mb base qual scope f cd) m 0 [] [] [(Str.ofString "script", .lst (xs.map .int))] none := by
    refine ⟨fun x d hx => ?_, rfl, fun e => by simp at e⟩
    rw [List.lookup_cons] at hx
    by_cases q : x = Str.ofString "script"
    · subst q
      simp at hx
      subst hx
      exact ⟨hs, _, hm, rep_script W⟩
    · have q' : (x == Str.ofString "script") = false := by simpa using q
      simp [q'] at hx
  refine wpAny_mono ((J ⟨callerA, K0, hfr, qual, scope, f, cd, rfl⟩).run Fn' Fm' m 0 [] [] s (fun f s' => Q f s') S G fun fl fd ρ' os' m' oa' O' I' h' tk' ⟨d, e1, e2⟩ S₂ G₂ i₂ fr₂ kp₂ => ?_) (fun _ _ h => h) (fun _ _ e => e.elim)
  subst e1; subst e2
  cases fr₂ with
  | ret r₂ =>
    cases r₂
    exact hQ h' tk' m' S₂.fr
end

section
theorem rep_lawx {w : World} {base : Heap} (hB : (hd.heap_1 w.params).In base) : Rep base [] (.ref 314) symT := by
  have h : base.get? 314 = some (tobj [.str (Str.ofString "sym") _, .str (Str.ofString "x") _] _) := hB 314 _ (by k_is)
  exact .tup 314 _ _ _ (.inr h) (.cons (.str _ _) (.cons (.str _ _) .nil))

-- a def of the text: its facts
local macro_rules | `(tactic| k_caughtB) => `(tactic| (
  refine' isDef ?obj ?args ?code ?loc ?nd ?co ?gen ?kind ?cell ?dbg
  case obj => (show List.lookup _ (hd.heap_1 _) = _; k_is)
  case args => (intro vs h; first
    | (match vs, h with | [_], _ => rfl)
    | (match vs, h with | [_, _], _ => rfl)
    | (match vs, h with | [_, _, _], _ => rfl)
    | (match vs, h with | [_, _, _, _], _ => rfl))
  case code => (show codeIn (hd.heap_1 _) _ _ = _; k_is)
  case loc => decide +kernel
  case nd => decide +kernel
  case co => rfl
  case gen => rfl
  case kind => rfl
  case cell => decide +kernel
  case dbg => decide +kernel))
-- the call of a def of the text: its name
local macro_rules | `(tactic| k_caughtN0) => `(tactic| (
  refine' JE_callK ?hn ?hkeep rfl rfl rfl (by decide) ?_
  case hn => (show nsIn (hd.heap_1 _) _ _ = _; k_is)
  case hkeep => (show keepIn (hd.heap_1 _) _ = _; k_is)))
-- the call of a built-in function
local macro_rules | `(tactic| k_caughtNB) => `(tactic| first
  | ((with_reducible show JE _ (Expr.Call (Expr.Name (Str.ofString "abs") _) _ _ _) _ _ _); refine' JE_abs ?hn rfl rfl rfl rfl ?_; (case hn => (show nsIn (hd.heap_1 _) _ _ = _; k_is)))
  | ((with_reducible show JE _ (Expr.Call (Expr.Name (Str.ofString "len") _) _ _ _) _ _ _); refine' JE_len ?hn rfl rfl rfl rfl ?_; (case hn => (show nsIn (hd.heap_1 _) _ _ = _; k_is)))
  | ((with_reducible show JE _ (Expr.Call (Expr.Name (Str.ofString "min") _) _ _ _) _ _ _); refine' JE_min ?hn rfl rfl rfl rfl ?_; (case hn => (show nsIn (hd.heap_1 _) _ _ = _; k_is)))
  | ((with_reducible show JE _ (Expr.Call (Expr.Name (Str.ofString "max") _) _ _ _) _ _ _); refine' JE_max ?hn rfl rfl rfl rfl ?_; (case hn => (show nsIn (hd.heap_1 _) _ _ = _; k_is)))
  | ((with_reducible show JE _ (Expr.Call (Expr.Name (Str.ofString "list") _) _ _ _) _ _ _); refine' JE_listof ?hn rfl rfl rfl rfl ?_; (case hn => (show nsIn (hd.heap_1 _) _ _ = _; k_is))))
-- the locals, written out
local macro_rules | `(tactic| kd_subs) => `(tactic| first
  | (simp only [upd, ofString_inj, String.reduceEq, ↓reduceIte, List.zip_cons_cons, List.zip_nil_right]; done)
  | (simp only [upd, ofString_inj, String.reduceEq, ↓reduceIte, List.zip_cons_cons, List.zip_nil_right]; exact rfl)
  | exact rfl
  | fail "no locals")
-- a name's datum where the locals are not written out
local macro_rules | `(tactic| ke_read) => `(tactic| first
  | assumption
  | (simp only [lookup_upd, ofString_inj, String.reduceEq, ↓reduceIte]; done)
  | (simp only [lookup_upd, ofString_inj, String.reduceEq, ↓reduceIte]; assumption)
  | (simp only [lookup_upd, ofString_inj, String.reduceEq, ↓reduceIte]; exact rfl)
  | fail "no name")
-- one step
local macro_rules | `(tactic| k_caught0) => `(tactic| first
  | ((with_reducible show JE _ _ _ _ _); first
    | ((with_reducible show JE _ (Expr.Name _ _) _ _ _); first
      | refine JE_name rfl ?_
      | (refine' JE_glob ?hn ?hr rfl rfl rfl (by decide) ?_; (case hn => (show nsIn (hd.heap_1 _) _ _ = _; k_is)); (case hr => first | exact rep_R0 (by assumption) | exact rep_R1 (by assumption) | exact rep_lawx (by assumption) | exact .str _ _ | exact .int _ _))
      | (refine' JE_name ?n ?_; (case n => ke_read)))
    | ((with_reducible show JE _ (Expr.Subscript _ (Expr.Slice none (some _) none _) _) _ _ _); refine JE_upto ?_)
    | ((with_reducible show JE _ (Expr.Subscript _ (Expr.Slice (some _) none none _) _) _ _ _); refine JE_from ?_)
    | ((with_reducible show JE _ (Expr.Subscript _ _ _) _ _ _); first | refine JE_subOwn rfl ?_ | refine JE_sub ?_)
    | ((with_reducible show JE _ (Expr.Call _ [Expr.Name _ _, _] _ _) _ (some _) _); (refine' JE_callOwn rfl ?hn ?hk rfl rfl rfl (by decide) ?_); (case hn => (show nsIn (hd.heap_1 _) _ _ = _; k_is)); (case hk => (show keepIn (hd.heap_1 _) _ = _; k_is)))
    | ((with_reducible show JE _ (Expr.Call (Expr.Name (Str.ofString "_law_told") _) [Expr.Tuple _ _ _, _, _] _ _) _ _ _); (refine' JE_callK1 ?ho ?hn ?hkeep rfl rfl rfl (by decide) ?_); (case ho => assumption); (case hn => (show nsIn (hd.heap_1 _) _ _ = _; k_is)); (case hkeep => (show keepIn (hd.heap_1 _) _ = _; k_is)))
    | ((with_reducible show JE _ (Expr.Call _ _ _ _) _ _ _); first | k_caughtNB | k_caughtN0)
    | ((with_reducible show JE _ (Expr.BinOp _ _ _ _) _ _ _); refine JE_bin ?_)
    | ((with_reducible show JE _ (Expr.Constant _ _ _) _ _ _); first | refine JE_int ?_ | refine JE_str ?_ | refine JE_none ?_)
    | ((with_reducible show JE _ (Expr.Tuple _ _ _) _ _ _); refine JE_tuple ?_)
    | ((with_reducible show JE _ (Expr.UnaryOp _ _ _) _ _ _); refine JE_neg ?_)
    | ((with_reducible show JE _ (Expr.IfExp _ _ _ _) _ _ _); refine JE_ifexp ?_)
    | ((with_reducible show JE _ (Expr.Compare _ _ _ _) _ _ _); refine JE_cmp ?_)
    | ((with_reducible show JE _ (Expr.BoolOp BoolOp.And [_, _] _) _ _ _); refine JE_and2 ?_)
    | ((with_reducible show JE _ (Expr.List _ _) _ _ _); refine JE_list ?_))
  | ((with_reducible show JEs _ _ _ _ _); first
    | refine JEs_nil ?_
    | refine JEs_cons ?_)
  | ((with_reducible show JT _ _ _ _ _); first
    | ((with_reducible show JT _ (Expr.Compare _ _ _ _) _ _ _); refine JT_cmp ?_)
    | ((with_reducible show JT _ (Expr.BoolOp BoolOp.And _ _) _ _ _); refine JT_and ?_)
    | ((with_reducible show JT _ (Expr.BoolOp BoolOp.Or _ _) _ _ _); refine JT_or ?_)
    | ((with_reducible show JT _ (Expr.Name _ _) _ _ _); refine JT_bool ?_))
  | ((with_reducible show JAnd _ _ _ _ _); first
    | refine JAnd_nil ?_
    | refine JAnd_cons ?_)
  | ((with_reducible show JOr _ _ _ _ _); first
    | refine JOr_nil ?_
    | refine JOr_cons ?_)
  | ((with_reducible show JX _ _ _ _ _); first
    | ((with_reducible show JX _ (Stmt.Return (some (Expr.Name _ _)) _) _ (some _) _); refine JX_retOwn rfl ?_)
    | ((with_reducible show JX _ (Stmt.Return _ _) _ _ _); refine JX_ret ?_)
    | ((with_reducible show JX _ (Stmt.Assign [Expr.Subscript _ _ _] _ _) _ _ _); refine JX_setOwn2 rfl (by decide) (by decide) ?_)
    | ((with_reducible show JX _ (Stmt.Assign [Expr.Name _ _] (Expr.List _ _) _) _ _ _); refine JX_own rfl rfl rfl ?_)
    | ((with_reducible show JX _ (Stmt.Assign [Expr.Name _ _] _ _) _ _ _); refine JX_assign rfl rfl ?_)
    | ((with_reducible show JX _ (Stmt.Expr (Expr.Call (Expr.Attribute _ _ _) _ _ _) _) _ _ _); refine JX_append rfl ?_ rfl rfl rfl rfl)
    | ((with_reducible show JX _ (Stmt.Expr _ _) _ _ _); refine JX_expr ?_)
    | ((with_reducible show JX _ (Stmt.If _ _ _ _) _ _ _); refine JX_if ?_)
    | ((with_reducible show JX _ (Stmt.Try _ _ _ _ _) _ _ _); refine JX_try ?_)
    | ((with_reducible show JX _ (Stmt.Assign [Expr.Tuple [_, _] _ _] _ _) _ _ _); first | refine JX_swap2 rfl rfl ?_ | refine JX_pair rfl rfl ?_)
    | ((with_reducible show JX _ (Stmt.Assign [Expr.Tuple [_, _, _] _ _] _ _) _ _ _); refine JX_trip rfl rfl ?_))
  | ((with_reducible show JS _ _ _ _ _); first
    | (refine' JS_norm ?e (JS_cons ?_); (case e => kd_subs))
    | (refine' JS_norm ?e (JS_nil ?_); (case e => kd_subs)))
  | refine ⟨_, item2a, ?_⟩
  | refine ⟨_, _, rfl, item2a, ?_⟩
  | refine ⟨_, item2b, ?_⟩
  | refine ⟨_, _, rfl, item2la, ?_⟩
  | refine ⟨_, _, rfl, item2lb, ?_⟩
  | refine ⟨_, item3a, ?_⟩
  | refine ⟨_, item3b, ?_⟩
  | refine ⟨_, item3c, ?_⟩
  | refine ⟨_, o_add, ?_⟩
  | refine ⟨_, o_sub, ?_⟩
  | refine ⟨_, o_ne, ?_⟩
  | refine ⟨_, o_eq, ?_⟩
  | refine ⟨_, o_gt, ?_⟩
  | refine ⟨_, o_lt, ?_⟩
  | refine ⟨_, o_le, ?_⟩
  | refine ⟨_, o_ge, ?_⟩
  | refine ⟨_, o_nes, ?_⟩
  | refine ⟨_, o_eqs, ?_⟩
  | (refine ⟨_, t_abs, ?_⟩; (intro d9 h9; subst h9))
  | (refine ⟨_, t_min, ?_⟩; (intro d9 h9; subst h9))
  | (refine ⟨_, t_max, ?_⟩; (intro d9 h9; subst h9))
  | ((with_reducible show ∃ k, D.int _ = D.int k ∧ _); refine ⟨_, rfl, ?_⟩)
  | refine ⟨Nat.le_of_ble_eq_true rfl, _, _, rfl, ?_⟩
  | refine ⟨Nat.le_of_ble_eq_true rfl, ?_⟩
  | refine ⟨rfl, Nat.le_of_ble_eq_true rfl, ?_⟩
  | (refine' JS_norm ?e (JS_cons ?_); (case e => kd_subs))
  | (refine' JS_norm ?e (JS_nil ?_); (case e => kd_subs))
  | refine ⟨_, o_mul (by assumption), ?_⟩
  | exact ⟨rfl, _, rfl, .inl rfl⟩
  | exact ⟨rfl, _, rfl, .inr ⟨rfl, rfl⟩⟩
  | (refine' if_t ?c ?_; (case c => (simp only [ofString_inj, ne_eq, String.reduceEq, not_false_eq_true, not_true_eq_false]; done)))
  | (refine' if_f ?c ?_; (case c => (simp only [ofString_inj, ne_eq, String.reduceEq, not_false_eq_true, not_true_eq_false]; done)))
  | (with_reducible refine if_tt ?_)
  | (with_reducible refine if_ff ?_)
  | fail "no step")


-- no twins of the view
local macro_rules | `(tactic| k_qdec) => `(tactic| decide +kernel)

section
variable {w : World} {mean : ExcName → Option Value} {mg mb : Str → Option Value} {base : Heap}
theorem t_gcd (a b : Int) : Tells (cx w mean mg mb base) 1 (.ref 41) [.int a, .int b] (fun d => d = .int (Int.gcd a b)) := by
  refine' tells_def (names := ["a", "b"]) ?H rfl "" ?h
  case H => k_caughtB
  case h =>
    intro A g L O₀
    repeat' k_caught0
    refine JX_whileI (fun n ρ os => os = none ∧ ∃ x y : Int, ρ = [(Str.ofString "a", D.int x), (Str.ofString "b", D.int y)] ∧ 0 ≤ x ∧ 0 ≤ y ∧ n = y.toNat ∧ Int.gcd x y = Int.gcd a b) (if b < 0 then -b else b).toNat ⟨rfl, _, _, rfl, by split <;> omega, by split <;> omega, rfl, ?_⟩ ?_
    · have e1 : (if a < 0 then -a else a) = (a.natAbs : Int) := by split <;> omega
      have e2 : (if b < 0 then -b else b) = (b.natAbs : Int) := by split <;> omega
      rw [e1, e2, Int.gcd_natCast_natCast]
      rfl
    · rintro n ρ os ⟨rfl, x, y, rfl, hx, hy, hn, hg⟩
      repeat' k_caught0
      refine if_b (fun h => ?_) (fun h => ?_)
      · repeat' k_caught0
        refine ⟨_, o_mod h, ?_⟩
        repeat' k_caught0
        have h0 : 0 < y := by omega
        refine ⟨(x.fmod y).toNat, ?_, rfl, y, x.fmod y, rfl, hy, Int.fmod_nonneg hx hy, rfl, ?_⟩
        · have := Int.fmod_lt_of_pos x h0
          have := Int.fmod_nonneg hx hy
          omega
        · rw [Int.fmod_eq_emod_of_nonneg _ hy, ← hg]
          obtain ⟨m, rfl⟩ := Int.eq_ofNat_of_zero_le hx
          obtain ⟨k, rfl⟩ := Int.eq_ofNat_of_zero_le hy
          rw [← Int.natCast_emod, Int.gcd_natCast_natCast, Int.gcd_natCast_natCast, Nat.gcd_comm k, ← Nat.gcd_rec, Nat.gcd_comm]
      · have hy0 : y = 0 := by omega
        subst hy0
        repeat' k_caught0
        refine ⟨rfl, _, ?_, .inl rfl⟩
        have : (x.natAbs : Int) = x := by omega
        rw [← hg, Int.gcd_zero_right, this]
end

section
variable {w : World} {mean : ExcName → Option Value} {mg mb : Str → Option Value} {base : Heap}
theorem t_rat {t b : Int} {r : Q} (h : ratO t b = some r) : Tells (cx w mean mg mb base) 2 (.ref 57) [.int t, .int b] (fun d => d = qD r) := by
  obtain ⟨hb, hg, hp, rfl⟩ := ratO_some h
  refine' tells_def (names := ["top", "bottom"]) ?H rfl "" ?h
  case H => k_caughtB
  case h =>
    intro A g L O₀
    repeat' k_caught0
    refine if_f hb ?_
    repeat' k_caught0
    refine if_b (fun c => ?_) (fun c => ?_)
    · repeat' k_caught0
      refine ⟨_, (t_gcd _ _).mono (Nat.le_of_ble_eq_true rfl) (fun _ h => h), ?_⟩
      rintro _ rfl
      repeat' k_caught0
      have e : (Int.gcd t b : Int) = gcdS t b := by unfold gcdS; rw [if_pos c]
      rw [e]
      refine ⟨_, o_fdiv hg (hp _), ?_⟩
      repeat' k_caught0
      refine ⟨_, o_fdiv hg (hp _), ?_⟩
      repeat' k_caught0
    · repeat' k_caught0
      refine ⟨_, (t_gcd _ _).mono (Nat.le_of_ble_eq_true rfl) (fun _ h => h), ?_⟩
      rintro _ rfl
      repeat' k_caught0
      have e : (0 - Int.gcd t b : Int) = gcdS t b := by unfold gcdS; rw [if_neg c]
      rw [e]
      refine ⟨_, o_fdiv hg (hp _), ?_⟩
      repeat' k_caught0
      refine ⟨_, o_fdiv hg (hp _), ?_⟩
      repeat' k_caught0
theorem t_radd {a b r : Q} (h : raddO a b = some r) : Tells (cx w mean mg mb base) 3 (.ref 64) [qD a, qD b] (fun d => d = qD r) := by
  simp only [raddO, Option.bind_eq_bind, Option.bind_eq_some_iff] at h
  obtain ⟨p, hp, q, hq, r', hr, h⟩ := h
  obtain ⟨m1, rfl, _⟩ := mulO_some hp
  obtain ⟨m2, rfl, _⟩ := mulO_some hq
  obtain ⟨m3, rfl, _⟩ := mulO_some hr
  refine' tells_def (names := ["a", "b"]) ?H rfl "" ?h
  case H => k_caughtB
  case h =>
    intro A g L O₀
    repeat' k_caught0
    refine ⟨_, (t_rat h).mono (Nat.le_of_ble_eq_true rfl) (fun _ h => h), ?_⟩
    rintro _ rfl
    repeat' k_caught0
theorem t_rsub {a b r : Q} (h : rsubO a b = some r) : Tells (cx w mean mg mb base) 3 (.ref 71) [qD a, qD b] (fun d => d = qD r) := by
  simp only [rsubO, Option.bind_eq_bind, Option.bind_eq_some_iff] at h
  obtain ⟨p, hp, q, hq, r', hr, h⟩ := h
  obtain ⟨m1, rfl, _⟩ := mulO_some hp
  obtain ⟨m2, rfl, _⟩ := mulO_some hq
  obtain ⟨m3, rfl, _⟩ := mulO_some hr
  refine' tells_def (names := ["a", "b"]) ?H rfl "" ?h
  case H => k_caughtB
  case h =>
    intro A g L O₀
    repeat' k_caught0
    refine ⟨_, (t_rat h).mono (Nat.le_of_ble_eq_true rfl) (fun _ h => h), ?_⟩
    rintro _ rfl
    repeat' k_caught0
theorem t_rmul {a b r : Q} (h : rmulO a b = some r) : Tells (cx w mean mg mb base) 3 (.ref 78) [qD a, qD b] (fun d => d = qD r) := by
  simp only [rmulO, Option.bind_eq_bind, Option.bind_eq_some_iff] at h
  obtain ⟨p, hp, r', hr, h⟩ := h
  obtain ⟨m1, rfl, _⟩ := mulO_some hp
  obtain ⟨m3, rfl, _⟩ := mulO_some hr
  refine' tells_def (names := ["a", "b"]) ?H rfl "" ?h
  case H => k_caughtB
  case h =>
    intro A g L O₀
    repeat' k_caught0
    refine ⟨_, (t_rat h).mono (Nat.le_of_ble_eq_true rfl) (fun _ h => h), ?_⟩
    rintro _ rfl
    repeat' k_caught0
theorem t_rdiv {a b r : Q} (h : rdivO a b = some r) : Tells (cx w mean mg mb base) 3 (.ref 85) [qD a, qD b] (fun d => d = qD r) := by
  simp only [rdivO, Option.bind_eq_bind, Option.bind_eq_some_iff] at h
  obtain ⟨p, hp, r', hr, h⟩ := h
  obtain ⟨m1, rfl, _⟩ := mulO_some hp
  obtain ⟨m3, rfl, _⟩ := mulO_some hr
  refine' tells_def (names := ["a", "b"]) ?H rfl "" ?h
  case H => k_caughtB
  case h =>
    intro A g L O₀
    repeat' k_caught0
    refine ⟨_, (t_rat h).mono (Nat.le_of_ble_eq_true rfl) (fun _ h => h), ?_⟩
    rintro _ rfl
    repeat' k_caught0
end

section
variable {w : World} {mean : ExcName → Option Value} {mg mb : Str → Option Value} {base : Heap}
theorem t_rcompare {a b : Q} {off : Int} (h : cmpO a b = some off) : Tells (cx w mean mg mb base) 1 (.ref 92) [qD a, qD b] (fun d => d = .int (b2i (decide (0 < off)) - b2i (decide (off < 0)))) := by
  simp only [cmpO, Option.bind_eq_bind, Option.bind_eq_some_iff] at h
  obtain ⟨p, hp, q, hq, h⟩ := h
  obtain ⟨m1, rfl, _⟩ := mulO_some hp
  obtain ⟨m2, rfl, _⟩ := mulO_some hq
  cases h
  refine' tells_def (names := ["a", "b"]) ?H rfl "" ?h
  case H => k_caughtB
  case h =>
    intro A g L O₀
    repeat' k_caught0
    refine ⟨_, o_subb, ?_⟩
    repeat' k_caught0

theorem t_need {l : Ser} {num : Q} (h : ∀ q r, l = q :: r → cmpO q num = some 0) (hl : l.length ≤ 50) : Tells (cx w mean mg mb base) 2 (.ref 145) [sD l, qD num] (fun d => d = .none) := by
  refine' tells_def (names := ["a", "number"]) ?H rfl "" ?h
  case H => k_caughtB
  case h =>
    intro A g L O₀
    repeat' k_caught0
    refine ⟨_, t_len (by simp <;> omega), ?_⟩
    rintro _ rfl
    repeat' k_caught0
    cases l with
    | nil =>
      refine if_f (by simp) ?_
      repeat' k_caught0
    | cons q r =>
      refine if_t (by simp <;> omega) ?_
      repeat' k_caught0
      refine ⟨_, item_s (q := q) (by decide) (by decide) rfl, ?_⟩
      repeat' k_caught0
      refine ⟨_, (t_rcompare (h q r rfl)).mono (Nat.le_of_ble_eq_true rfl) (fun _ h => h), ?_⟩
      rintro _ rfl
      repeat' k_caught0

theorem t_cut (hB : (hd.heap_1 w.params).In base) {l : Ser} {n : Nat} (hl : l.length ≤ 50) (hn : n ≤ 50) : Tells (cx w mean mg mb base) 1 (.ref 99) [sD l, .int n] (fun d => d = sD (l.take n ++ List.replicate (n - l.length) (0, 1))) := by
  refine' tells_def (names := ["a", "order"]) ?H rfl "" ?h
  case H => k_caughtB
  case h =>
    intro A g L O₀
    repeat' k_caught0
    refine ⟨_, n, rfl, rfl, by omega, by simp <;> omega, ?_⟩
    repeat' k_caught0
    refine ⟨_, t_list (by simp <;> omega), ?_⟩
    rintro _ rfl
    repeat' k_caught0
    refine ⟨_, t_len (by simp <;> omega), ?_⟩
    rintro _ rfl
    repeat' k_caught0
    have hlen : (l.map qD).length = l.length := by simp
    refine ⟨_, o_rep (by rw [hlen]; omega) (by rw [hlen]; omega), ?_⟩
    refine ⟨_, o_concat (by simp <;> omega), ?_⟩
    refine ⟨rfl, _, ?_, .inl rfl⟩
    unfold sD
    rw [List.map_append, List.map_replicate, hlen, ← List.map_take]
    have e1 : ((n : Int)).toNat = n := by omega
    have e2 : ((n : Int) - (l.length : Int)).toNat = n - l.length := by omega
    rw [e1, e2]
    rfl

theorem t_mixed (hB : (hd.heap_1 w.params).In base) {a b : Ser} {n : Nat} {r : Q} (h : mixedO a b n = some r) (hn : n ≤ 50) : Tells (cx w mean mg mb base) 4 (.ref 116) [sD a, sD b, .int n] (fun d => d = qD r) := by
  refine' tells_def (names := ["a", "b", "at"]) ?H rfl "" ?h
  case H => k_caughtB
  case h =>
    intro A g L O₀
    repeat' k_caught0
    unfold mixedO at h
    refine' JX_forRange1 rfl rfl ?hn rfl rfl rfl ?_
    case hn => (show nsIn (hd.heap_1 _) _ _ = _; k_is)
    repeat' k_caught0
    refine ⟨_, fun i ρ os => os = none ∧ ∃ f, preM (mixS a b n) (0, 1) i = some f ∧ ∀ d, upd (Str.ofString "spot") d ρ = [(Str.ofString "a", sD a), (Str.ofString "b", sD b), (Str.ofString "at", D.int n), (Str.ofString "found", qD f), (Str.ofString "spot", d)], rfl, by omega, by omega, ⟨rfl, _, rfl, fun d => by kd_subs⟩, ?_, ?_⟩
    · rintro O₁ i ρ os hi ⟨rfl, f, hf, hρ⟩
      rw [hρ]
      obtain ⟨f', hs, hf'⟩ := preM_step h (by omega) hf
      simp only [mixS, Option.bind_eq_some_iff] at hs
      obtain ⟨x, hx, y, hy, hs⟩ := hs
      have hin : i ≤ n := by omega
      have e1 : ((i : Int)).toNat = i := by omega
      have e2 : ((n : Int) - (i : Int)).toNat = n - i := by omega
      repeat' k_caught0
      refine ⟨_, item_s (q := x) (by omega) (by omega) (by rw [e1]; exact hx), ?_⟩
      repeat' k_caught0
      refine ⟨_, o_nep, ?_⟩
      refine if_b (fun c1 => ?_) (fun c1 => ?_)
      · repeat' k_caught0
        refine ⟨_, item_s (q := y) (by omega) (by omega) (by rw [e2]; exact hy), ?_⟩
        repeat' k_caught0
        refine ⟨_, o_nep, ?_⟩
        refine if_b (fun c2 => ?_) (fun c2 => ?_)
        · have hc : ¬ (x = (0, 1) ∨ y = (0, 1)) := by
            rintro (e | e)
            · exact c1 (by rw [e]; exact ⟨rfl, rfl⟩)
            · exact c2 (by rw [e]; exact ⟨rfl, rfl⟩)
          rw [if_neg hc] at hs
          obtain ⟨p, hp, hs⟩ := Option.bind_eq_some_iff.mp hs
          repeat' k_caught0
          refine ⟨_, item_s (q := x) (by omega) (by omega) (by rw [e1]; exact hx), ?_⟩
          repeat' k_caught0
          refine ⟨_, item_s (q := y) (by omega) (by omega) (by rw [e2]; exact hy), ?_⟩
          repeat' k_caught0
          refine ⟨_, (t_rmul hp).mono (Nat.le_of_ble_eq_true rfl) (fun _ h => h), ?_⟩
          rintro _ rfl
          repeat' k_caught0
          refine ⟨_, (t_radd hs).mono (Nat.le_of_ble_eq_true rfl) (fun _ h => h), ?_⟩
          rintro _ rfl
          repeat' k_caught0
          exact ⟨rfl, rfl, f', hf', fun d => by kd_subs⟩
        · have hc : x = (0, 1) ∨ y = (0, 1) := .inr (by
            have := Classical.not_not.mp c2
            exact Prod.ext this.1 this.2)
          rw [if_pos hc] at hs
          cases hs
          repeat' k_caught0
          exact ⟨rfl, rfl, f, hf', fun d => by kd_subs⟩
      · have hc : x = (0, 1) ∨ y = (0, 1) := .inl (by
          have := Classical.not_not.mp c1
          exact Prod.ext this.1 this.2)
        rw [if_pos hc] at hs
        cases hs
        repeat' k_caught0
        exact ⟨rfl, rfl, f, hf', fun d => by kd_subs⟩
    · rintro ρ os ⟨rfl, f, hf, hρ⟩
      have en : ((n : Int) + 1).toNat = n + 1 := by omega
      rw [en, h] at hf
      cases hf
      refine JS_cons (JX_ret (JE_name (d := qD r) ?_ ⟨rfl, _, rfl, .inl rfl⟩))
      rw [lookup_of (hρ .none) (by decide)]
      rfl
end

-- a def with closed-over parameters: its facts
local macro_rules | `(tactic| kfm_turns) => `(tactic| (
  refine' isDefC ?obj ?args ?code ?loc ?nd ?co ?gen ?kind
  case obj => (show List.lookup _ (hd.heap_1 _) = _; k_is)
  case args => (intro vs h; (match vs, h with | [_, _], _ => rfl))
  case code => (show codeIn (hd.heap_1 _) _ _ = _; k_is)
  case loc => decide +kernel
  case nd => decide +kernel
  case co => rfl
  case gen => rfl
  case kind => rfl))
local macro_rules | `(tactic| kpc_turns) => `(tactic| (
  refine' tells_compR (a := "a") (b := "b") ?H ?hab ?hcs ?hka ?hkb ?cl ?hclos ?hla ?hlb ?hcell ?hkind ?hnames ?hx ?hxl ?hra ?hrb ?hxd ?had ?hbd ?hn ?hxr ?h ?he ?hs
  case H => kfm_turns
  case cl => exact fun L => [(Str.ofString "b", L + 1 + 1), (Str.ofString "a", L + 1)]
  case hab => decide
  case hcs => (intro n; rfl)
  case hka => rfl
  case hkb => rfl
  case hclos => (intro L; with_unfolding_all rfl)
  case hla => (intro L; rfl)
  case hlb => (intro L; rfl)
  case hcell => decide
  case hkind => rfl
  case hnames => decide
  case hx => rfl
  case hxl => (intro L; rfl)
  case hra => (intro L; rfl)
  case hrb => (intro L; rfl)
  case hxd => decide
  case had => decide
  case hbd => decide
  case hn => (show nsIn (hd.heap_1 _) _ _ = _; k_is)
  case hxr => rfl
  case he => (intro L; rfl)
  case hs => (intro L v; rfl)))
section
variable {w : World} {mean : ExcName → Option Value} {mg mb : Str → Option Value} {base : Heap}
theorem range_sD {r : Ser} {n : Nat} (h : r.length = n) : D.lst ((List.range n).map (fun i => qD (r.getD i (0, 1)))) = sD r := by
  subst h
  unfold sD
  congr 1
  apply List.ext_getElem
  · simp
  · intro i h1 h2
    have hi : i < r.length := by simpa using h2
    simp [List.getD_eq_getElem?_getD, List.getElem?_eq_getElem hi]
theorem getD_of {r : Ser} {i : Nat} {q : Q} (h : r[i]? = some q) : r.getD i (0, 1) = q := by rw [List.getD_eq_getElem?_getD, h]; rfl
theorem t_sadd {a b r : Ser} (h : saddO a b = some r) : Tells (cx w mean mg mb base) 4 (.ref 104) [sD a, sD b] (fun d => d = sD r) := by
  unfold saddO at h
  split at h
  · rename_i hl
    obtain ⟨h1, h2⟩ := tabO_some h
    kpc_turns
    case h =>
      intro A g L O
      repeat' k_caught0
      refine ⟨_, t_len (by simp <;> omega), ?_⟩
      rintro _ rfl
      repeat' k_caught0
      refine ⟨_, t_len (by simp <;> omega), ?_⟩
      rintro _ rfl
      repeat' k_caught0
      simp only [List.length_map]
      have en : (if (b.length : Int) < (a.length : Int) then (b.length : Int) else (a.length : Int)).toNat = min a.length b.length := by split <;> omega
      refine ⟨_, fun i => qD (r.getD i (0, 1)), rfl, by split <;> omega, by split <;> omega, ?_, by rw [en]; exact range_sD h1⟩
      intro C O₀ i hi
      rw [en] at hi
      obtain ⟨z, hz, hi2⟩ := h2 i hi
      obtain ⟨x, hx, hi3⟩ := Option.bind_eq_some_iff.mp hi2
      obtain ⟨y, hy, hi4⟩ := Option.bind_eq_some_iff.mp hi3
      have e1 : ((i : Int)).toNat = i := by omega
      repeat' k_caught0
      refine ⟨_, item_s (q := x) (by omega) (by omega) (by rw [e1]; exact hx), ?_⟩
      repeat' k_caught0
      refine ⟨_, item_s (q := y) (by omega) (by omega) (by rw [e1]; exact hy), ?_⟩
      repeat' k_caught0
      refine ⟨_, (t_radd hi4).mono (Nat.le_of_ble_eq_true rfl) (fun _ h => h), ?_⟩
      rintro _ rfl
      exact congrArg qD (getD_of hz).symm
  · cases h
theorem t_smul (hB : (hd.heap_1 w.params).In base) {a b r : Ser} (h : smulO a b = some r) : Tells (cx w mean mg mb base) 5 (.ref 121) [sD a, sD b] (fun d => d = sD r) := by
  unfold smulO at h
  split at h
  · rename_i hl
    obtain ⟨h1, h2⟩ := tabO_some h
    kpc_turns
    case h =>
      intro A g L O
      repeat' k_caught0
      refine ⟨_, t_len (by simp <;> omega), ?_⟩
      rintro _ rfl
      repeat' k_caught0
      refine ⟨_, t_len (by simp <;> omega), ?_⟩
      rintro _ rfl
      repeat' k_caught0
      simp only [List.length_map]
      have en : (if (b.length : Int) < (a.length : Int) then (b.length : Int) else (a.length : Int)).toNat = min a.length b.length := by split <;> omega
      refine ⟨_, fun i => qD (r.getD i (0, 1)), rfl, by split <;> omega, by split <;> omega, ?_, by rw [en]; exact range_sD h1⟩
      intro C O₀ i hi
      rw [en] at hi
      obtain ⟨z, hz, hi2⟩ := h2 i hi
      repeat' k_caught0
      refine ⟨_, (t_mixed hB hi2 (by omega)).mono (Nat.le_of_ble_eq_true rfl) (fun _ h => h), ?_⟩
      rintro _ rfl
      exact congrArg qD (getD_of hz).symm
  · cases h
theorem t_sscale {q : Q} {a r : Ser} (h : sscaleO q a = some r) : Tells (cx w mean mg mb base) 4 (.ref 109) [qD q, sD a] (fun d => d = sD r) := by
  unfold sscaleO at h
  split at h
  · rename_i hl
    obtain ⟨h1, h2, h3⟩ := mapO_some h
    refine' tells_compL (a := "number") (b := "a") ?H ?hab ?hcs ?hka ?hkb ?cl ?hclos ?hla ?hcell ?hkind ?hnames ?hx ?hxl ?hra ?hxd ?had ?hbd ?h ?hs
    case H => kfm_turns
    case cl => exact fun L => [(Str.ofString "number", L + 1)]
    case hab => decide
    case hcs => (intro n; rfl)
    case hka => rfl
    case hkb => rfl
    case hclos => (intro L; with_unfolding_all rfl)
    case hla => (intro L; rfl)
    case hcell => decide
    case hkind => rfl
    case hnames => decide
    case hx => rfl
    case hxl => (intro L; rfl)
    case hra => (intro L; rfl)
    case hxd => decide
    case had => decide
    case hbd => decide
    case hs => (intro L v; rfl)
    case h =>
      intro A g L O
      repeat' k_caught0
      let un : D → Q := fun d => match d with | .tup [.int x, .int y] => (x, y) | _ => (0, 1)
      have hun : ∀ z : Q, un (qD z) = z := fun _ => rfl
      refine ⟨a.map qD, fun d => qD ((rmulO q (un d)).getD (0, 1)), rfl, by simp <;> omega, ?_, ?_⟩
      · intro C O₀ y hy
        obtain ⟨z, hz, rfl⟩ := List.mem_map.mp hy
        obtain ⟨v, hv⟩ := h2 z hz
        repeat' k_caught0
        refine ⟨_, (t_rmul hv).mono (Nat.le_of_ble_eq_true rfl) (fun _ h => h), ?_⟩
        rintro _ rfl
        show qD v = qD ((rmulO q z).getD (0, 1))
        rw [hv]
        rfl
      · have := h3 (fun z => (rmulO q z).getD (0, 1)) (fun x y e => by rw [e]; rfl)
        rw [this]
        unfold sD
        congr 1
        rw [List.map_map, List.map_map]
        rfl
  · cases h
end

section
variable {w : World} {mean : ExcName → Option Value} {mg mb : Str → Option Value} {base : Heap}
theorem t_sinverse (hB : (hd.heap_1 w.params).In base) {a r : Ser} (h : sinvO a = some r) : Tells (cx w mean mg mb base) 4 (.ref 128) [sD a] (fun d => d = sD r) := by
  unfold sinvO at h
  split at h
  · cases h
  · rename_i a0 rs
    split at h
    · cases h
    · rename_i hc
      have hl : rs.length < 50 := by
        by_cases q : rs.length < 50
        · exact q
        · exact absurd (.inr q) hc
      have h0 : ¬ (a0.1 = 0 ∧ a0.2 = 1) := fun e => hc (.inl (Prod.ext e.1 e.2))
      have hla : (a0 :: rs).length = rs.length + 1 := rfl
      generalize ha : a0 :: rs = a at h hla
      refine' tells_def (names := ["a"]) ?H rfl "found" ?h
      case H => k_caughtB
      case h =>
        intro A g L O₀
        repeat' k_caught0
        refine ⟨_, t_len (by simp <;> omega), ?_⟩
        rintro _ rfl
        repeat' k_caught0
        refine if_t (by simp <;> omega) ?_
        repeat' k_caught0
        refine ⟨_, item_s (q := a0) (by decide) (by decide) (by rw [← ha]; rfl), ?_⟩
        repeat' k_caught0
        refine ⟨_, o_eqp, ?_⟩
        refine if_f h0 ?_
        repeat' k_caught0
        refine' JX_forRange1 rfl rfl ?hn rfl rfl rfl ?_
        case hn => (show nsIn (hd.heap_1 _) _ _ = _; k_is)
        repeat' k_caught0
        refine ⟨_, t_len (by simp <;> omega), ?_⟩
        rintro _ rfl
        refine ⟨_, fun i ρ os => ρ.lookup (Str.ofString "a") = some (sD a) ∧ ∃ l : Ser, preM (fun l _ => invRow a a0 l) [] i = some l ∧ os = some (l.map qD), rfl, by simp <;> omega, by simp <;> omega, ⟨rfl, [], rfl, rfl⟩, ?_, ?_⟩
        · rintro O₁ i ρ os hi ⟨hA, l, hp, rfl⟩
          simp only [List.length_map] at hi
          have hi' : i < a.length := by omega
          have hll : l.length = i := row_len (fun _ _ e => invRow_len e) hp
          obtain ⟨l', hs, hp'⟩ := preM_step h (by omega) hp
          obtain ⟨t, ht, hs⟩ := Option.bind_eq_some_iff.mp hs
          obtain ⟨q, hq, hs⟩ := Option.bind_eq_some_iff.mp hs
          cases hs
          replace ht : preM (invS a l) (if l.length = 0 then (1, 1) else (0, 1)) i = some t := by rw [← hll]; exact ht
          repeat' k_caught0
          refine if_join (qD (1, 1)) (qD (0, 1)) ?_ ?_ ?_
          · repeat' k_caught0
            exact ⟨rfl, rfl⟩
          · repeat' k_caught0
            exact ⟨rfl, rfl⟩
          rintro _ rfl
          have e0 : (if ((i : Int) = 0) then qD (1, 1) else qD (0, 1)) = qD (if l.length = 0 then (1, 1) else (0, 1)) := by
            rw [hll]
            by_cases c : i = 0
            · rw [if_pos c, if_pos (by omega)]
            · rw [if_neg c, if_neg (by omega)]
          rw [e0]
          repeat' k_caught0
          refine' JX_forRange2 rfl rfl ?hn rfl rfl rfl ?_
          case hn => (show nsIn (hd.heap_1 _) _ _ = _; k_is)
          repeat' k_caught0
          have en2 : (((i : Int) + 1) - 1).toNat = i := by omega
          refine ⟨_, _, fun j ρ os => ρ.lookup (Str.ofString "a") = some (sD a) ∧ ρ.lookup (Str.ofString "at") = some (.int i) ∧ os = some (l.map qD) ∧ ∃ u, preM (invS a l) (if l.length = 0 then (1, 1) else (0, 1)) j = some u ∧ ρ.lookup (Str.ofString "total") = some (qD u), rfl, rfl, by omega, by omega, by omega, by omega, ⟨by ke_read, by ke_read, rfl, _, rfl, by ke_read⟩, ?_, ?_⟩
          · rintro O₂ j ρ' os hj ⟨hA', hAt, rfl, u, hu, hT⟩
            rw [en2] at hj
            obtain ⟨u', hs', hu'⟩ := preM_step ht hj hu
            simp only [invS, Option.bind_eq_some_iff] at hs'
            obtain ⟨x, hx, y, hy, p, hp1, hs'⟩ := hs'
            have e1 : ((1 : Int) + (j : Int)).toNat = j + 1 := by omega
            have e2 : ((i : Int) - (1 + (j : Int))).toNat = l.length - (j + 1) := by omega
            repeat' k_caught0
            refine ⟨_, item_s (q := x) (by omega) (by omega) (by rw [e1]; exact hx), ?_⟩
            repeat' k_caught0
            refine ⟨_, _, rfl, item_s (l := l) (q := y) (by omega) (by omega) (by rw [e2]; exact hy), ?_⟩
            repeat' k_caught0
            refine ⟨_, (t_rmul hp1).mono (Nat.le_of_ble_eq_true rfl) (fun _ h => h), ?_⟩
            rintro _ rfl
            repeat' k_caught0
            refine ⟨_, (t_rsub hs').mono (Nat.le_of_ble_eq_true rfl) (fun _ h => h), ?_⟩
            rintro _ rfl
            repeat' k_caught0
            exact ⟨rfl, by ke_read, by ke_read, rfl, _, hu', by ke_read⟩
          · rintro ρ' os ⟨hA', hAt, rfl, u, hu, hT⟩
            rw [en2, ht] at hu
            cases hu
            repeat' k_caught0
            refine ⟨_, item_s (q := a0) (by decide) (by decide) (by rw [← ha]; rfl), ?_⟩
            repeat' k_caught0
            refine ⟨_, (t_rdiv hq).mono (Nat.le_of_ble_eq_true rfl) (fun _ h => h), ?_⟩
            rintro _ rfl
            refine ⟨_, rfl, by simp <;> omega, ?_⟩
            repeat' k_caught0
            exact ⟨rfl, hA', _, hp', by simp⟩
        · rintro ρ os ⟨hA, l, hp, rfl⟩
          have en : ((List.length (List.map qD a) : Nat) : Int).toNat = rs.length + 1 := by simp <;> omega
          rw [en, h] at hp
          cases hp
          repeat' k_caught0
theorem t_spower (hB : (hd.heap_1 w.params).In base) {a r : Ser} {num : Q} (h : spowO a num = some r) : Tells (cx w mean mg mb base) 4 (.ref 194) [sD a, qD num] (fun d => d = sD r) := by
  unfold spowO at h
  split at h
  · cases h
  · rename_i a0 rs
    split at h
    · rename_i hc
      obtain ⟨h0, hl⟩ := hc
      have hla : (a0 :: rs).length = rs.length + 1 := rfl
      have hbeg : ∀ q t, a0 :: rs = q :: t → cmpO q (1, 1) = some 0 := fun q t e => by cases e; exact h0
      generalize ha : a0 :: rs = a at h hla hbeg
      refine' tells_def (names := ["a", "number"]) ?H rfl "found" ?h
      case H => k_caughtB
      case h =>
        intro A g L O₀
        repeat' k_caught0
        refine ⟨_, (t_need (num := (1, 1)) hbeg (by omega)).mono (Nat.le_of_ble_eq_true rfl) (fun _ h => h), ?_⟩
        rintro _ rfl
        refine ⟨rfl, ?_⟩
        repeat' k_caught0
        refine' JX_forRange1 rfl rfl ?hn rfl rfl rfl ?_
        case hn => (show nsIn (hd.heap_1 _) _ _ = _; k_is)
        repeat' k_caught0
        refine ⟨_, t_len (by simp <;> omega), ?_⟩
        rintro _ rfl
        refine ⟨_, fun i ρ os => ρ.lookup (Str.ofString "a") = some (sD a) ∧ ρ.lookup (Str.ofString "number") = some (qD num) ∧ ∃ l : Ser, preM (fun l _ => powRow a num l) [] i = some l ∧ os = some (l.map qD), rfl, by simp <;> omega, by simp <;> omega, ⟨rfl, rfl, [], rfl, rfl⟩, ?_, ?_⟩
        · rintro O₁ i ρ os hi ⟨hA, hN, l, hp, rfl⟩
          simp only [List.length_map] at hi
          have hi' : i < a.length := by omega
          have hll : l.length = i := row_len (fun _ _ e => powRow_len e) hp
          obtain ⟨l', hs, hp'⟩ := preM_step h (by omega) hp
          obtain ⟨t, ht, hs⟩ := Option.bind_eq_some_iff.mp hs
          rw [hll] at ht
          repeat' k_caught0
          refine' JX_forRange2 rfl rfl ?hn rfl rfl rfl ?_
          case hn => (show nsIn (hd.heap_1 _) _ _ = _; k_is)
          repeat' k_caught0
          have en2 : (((i : Int) + 1) - 1).toNat = i := by omega
          refine ⟨_, _, fun j ρ os => ρ.lookup (Str.ofString "a") = some (sD a) ∧ ρ.lookup (Str.ofString "number") = some (qD num) ∧ ρ.lookup (Str.ofString "at") = some (.int i) ∧ os = some (l.map qD) ∧ ∃ u, preM (powS a num l) (0, 1) j = some u ∧ ρ.lookup (Str.ofString "total") = some (qD u), rfl, rfl, by omega, by omega, by omega, by omega, ⟨by ke_read, by ke_read, by ke_read, rfl, _, rfl, by ke_read⟩, ?_, ?_⟩
          · rintro O₂ j ρ' os hj ⟨hA', hN', hAt, rfl, u, hu, hT⟩
            rw [en2] at hj
            obtain ⟨u', hs', hu'⟩ := preM_step ht hj hu
            simp only [powS, Option.bind_eq_some_iff] at hs'
            obtain ⟨x, hx, tm, htm, y, hy, z, hz, v, hv, p, hp1, hs'⟩ := hs'
            rw [hll] at htm
            have e1 : ((1 : Int) + (j : Int)).toNat = j + 1 := by omega
            have e2 : ((i : Int) - (1 + (j : Int))).toNat = l.length - (j + 1) := by omega
            repeat' k_caught0
            refine ⟨_, (t_rmul (b := (1 + (j : Int), 1)) hx).mono (Nat.le_of_ble_eq_true rfl) (fun _ h => h), ?_⟩
            rintro _ rfl
            repeat' k_caught0
            refine ⟨_, (t_rsub (b := ((i : Int) - (1 + (j : Int)), 1)) htm).mono (Nat.le_of_ble_eq_true rfl) (fun _ h => h), ?_⟩
            rintro _ rfl
            repeat' k_caught0
            refine ⟨_, item_s (q := y) (by omega) (by omega) (by rw [e1]; exact hy), ?_⟩
            repeat' k_caught0
            refine ⟨_, (t_rmul hz).mono (Nat.le_of_ble_eq_true rfl) (fun _ h => h), ?_⟩
            rintro _ rfl
            repeat' k_caught0
            refine ⟨_, _, rfl, item_s (l := l) (q := v) (by omega) (by omega) (by rw [e2]; exact hv), ?_⟩
            repeat' k_caught0
            refine ⟨_, (t_rmul hp1).mono (Nat.le_of_ble_eq_true rfl) (fun _ h => h), ?_⟩
            rintro _ rfl
            repeat' k_caught0
            refine ⟨_, (t_radd hs').mono (Nat.le_of_ble_eq_true rfl) (fun _ h => h), ?_⟩
            rintro _ rfl
            repeat' k_caught0
            exact ⟨rfl, by ke_read, by ke_read, by ke_read, rfl, _, hu', by ke_read⟩
          · rintro ρ' os ⟨hA', hN', hAt, rfl, u, hu, hT⟩
            rw [en2, ht] at hu
            cases hu
            repeat' k_caught0
            refine if_b (fun c => ?_) (fun c => ?_)
            · rw [if_pos (by omega)] at hs
              cases hs
              repeat' k_caught0
              refine ⟨_, rfl, by simp <;> omega, ?_⟩
              repeat' k_caught0
              exact ⟨rfl, hA', hN', _, hp', by simp; rfl⟩
            · rw [if_neg (by omega)] at hs
              obtain ⟨q, hq, hs⟩ := Option.bind_eq_some_iff.mp hs
              cases hs
              rw [hll] at hq
              repeat' k_caught0
              refine ⟨_, (t_rdiv (b := ((i : Int), 1)) hq).mono (Nat.le_of_ble_eq_true rfl) (fun _ h => h), ?_⟩
              rintro _ rfl
              refine ⟨_, rfl, by simp <;> omega, ?_⟩
              repeat' k_caught0
              exact ⟨rfl, hA', hN', _, hp', by simp⟩
        · rintro ρ os ⟨hA, hN, l, hp, rfl⟩
          have en : ((List.length (List.map qD a) : Nat) : Int).toNat = rs.length + 1 := by simp <;> omega
          rw [en, h] at hp
          cases hp
          repeat' k_caught0
    · cases h
end

theorem noP2 (x : Int) : Builtin.divisionGoesByPylong x 2 = false := PyProof.noPylong_of_log2 (by decide +kernel)
theorem saddO_len {a b r : Ser} (h : saddO a b = some r) : r.length = min a.length b.length := by
  unfold saddO at h
  split at h
  · exact (tabO_some h).1
  · cases h
theorem smulO_len {a b r : Ser} (h : smulO a b = some r) : r.length = min a.length b.length := by
  unfold smulO at h
  split at h
  · exact (tabO_some h).1
  · cases h
section
variable {w : World} {mean : ExcName → Option Value} {mg mb : Str → Option Value} {base : Heap}
theorem t_swhole (hB : (hd.heap_1 w.params).In base) {a r : Ser} {m : Nat} (h : swO a m = some r) : Tells (cx w mean mg mb base) 6 (.ref 201) [sD a, .int m] (fun d => d = sD r) := by
  unfold swO at h
  split at h
  · rename_i hl
    refine' tells_def (names := ["a", "many"]) ?H rfl "" ?h
    case H => k_caughtB
    case h =>
      intro A g L O₀
      repeat' k_caught0
      refine if_f (by omega) ?_
      repeat' k_caught0
      refine ⟨_, t_len (by simp <;> omega), ?_⟩
      rintro _ rfl
      repeat' k_caught0
      rw [List.length_map]
      refine ⟨_, (t_cut hB (l := [(1, 1)]) (n := a.length) (by simp) (by omega)).mono (Nat.le_of_ble_eq_true rfl) (fun _ h => h), ?_⟩
      rintro _ rfl
      repeat' k_caught0
      have em : (if (m : Int) < 0 then -(m : Int) else (m : Int)) = m := by split <;> omega
      rw [em]
      refine JX_whileI (fun n ρ os => os = none ∧ ∃ (f b : Ser) (left : Nat), ρ.lookup (Str.ofString "found") = some (sD f) ∧ ρ.lookup (Str.ofString "base") = some (sD b) ∧ ρ.lookup (Str.ofString "left") = some (.int left) ∧ swLoop n f b left = some r) 8 ⟨rfl, _, a, m, rfl, rfl, rfl, h⟩ ?_
      rintro n ρ os ⟨rfl, f, b, left, hF, hBa, hL, hs⟩
      cases n with
      | zero => cases hs
      | succ n =>
        unfold swLoop at hs
        repeat' k_caught0
        refine if_b (fun c => ?_) (fun c => ?_)
        · rw [if_neg (by omega)] at hs
          obtain ⟨f', hf, hs⟩ := Option.bind_eq_some_iff.mp hs
          obtain ⟨b', hb, hs⟩ := Option.bind_eq_some_iff.mp hs
          have e2 : Int.fmod (left : Int) 2 = ((left % 2 : Nat) : Int) := by rw [Int.fmod_eq_emod_of_nonneg _ (by decide)]; omega
          have e3 : Int.fdiv (left : Int) 2 = ((left / 2 : Nat) : Int) := by rw [Int.fdiv_eq_ediv_of_nonneg _ (by decide)]; omega
          repeat' k_caught0
          refine ⟨_, o_mod (by decide), ?_⟩
          repeat' k_caught0
          rw [e2]
          refine if_b (fun c1 => ?_) (fun c1 => ?_)
          · rw [if_pos (by omega)] at hf
            repeat' k_caught0
            refine ⟨_, (t_smul hB hf).mono (Nat.le_of_ble_eq_true rfl) (fun _ h => h), ?_⟩
            rintro _ rfl
            repeat' k_caught0
            refine ⟨_, (t_smul hB hb).mono (Nat.le_of_ble_eq_true rfl) (fun _ h => h), ?_⟩
            rintro _ rfl
            repeat' k_caught0
            refine ⟨_, o_fdiv (by decide) (noP2 _), ?_⟩
            rw [e3]
            repeat' k_caught0
            exact ⟨n, Nat.lt_succ_self _, rfl, f', b', left / 2, by ke_read, by ke_read, by ke_read, hs⟩
          · rw [if_neg (by omega)] at hf
            cases hf
            repeat' k_caught0
            refine ⟨_, (t_smul hB hb).mono (Nat.le_of_ble_eq_true rfl) (fun _ h => h), ?_⟩
            rintro _ rfl
            repeat' k_caught0
            refine ⟨_, o_fdiv (by decide) (noP2 _), ?_⟩
            rw [e3]
            repeat' k_caught0
            exact ⟨n, Nat.lt_succ_self _, rfl, f, b', left / 2, by ke_read, by ke_read, by ke_read, hs⟩
        · rw [if_pos (by omega)] at hs
          cases hs
          repeat' k_caught0
  · cases h
theorem t_lplain (hB : (hd.heap_1 w.params).In base) {q : Q} {m : Nat} (hm : 1 ≤ m) (hm2 : m ≤ 50) : Tells (cx w mean mg mb base) 1 (.ref 208) [qD q, .int m] (fun d => d = lD (lplainO q m)) := by
  refine' tells_def (names := ["number", "many"]) ?H rfl "" ?h
  case H => k_caughtB
  case h =>
    intro A g L O₀
    repeat' k_caught0
    refine ⟨_, o_rep (by omega) (by omega), ?_⟩
    refine ⟨_, o_concat (by simp <;> omega), ?_⟩
    repeat' k_caught0
    refine ⟨rfl, _, ?_, .inl rfl⟩
    have e : ((m : Int) - 1).toNat = m - 1 := by omega
    rw [e]
    show _ = D.tup [.int 0, .lst (List.map qD (q :: List.replicate (m - 1) (0, 1)))]
    rw [List.map_cons, List.map_replicate]
    rfl
theorem t_lmoved (hB : (hd.heap_1 w.params).In base) {a : Lau} {low : Int} (h0 : 0 ≤ a.1 - low) (h1 : a.2.length + (a.1 - low).toNat ≤ 50) : Tells (cx w mean mg mb base) 1 (.ref 215) [lD a, .int low] (fun d => d = lD (low, lmovedS a low)) := by
  refine' tells_def (names := ["a", "low"]) ?H rfl "" ?h
  case H => k_caughtB
  case h =>
    intro A g L O₀
    repeat' k_caught0
    refine ⟨_, o_rep (by omega) (by omega), ?_⟩
    repeat' k_caught0
    refine ⟨_, o_concat (by simp <;> omega), ?_⟩
    repeat' k_caught0
    refine ⟨rfl, _, ?_, .inl rfl⟩
    show _ = D.tup [.int low, .lst (List.map qD (List.replicate (a.1 - low).toNat (0, 1) ++ a.2))]
    rw [List.map_append, List.map_replicate]
    rfl
theorem t_ladd (hB : (hd.heap_1 w.params).In base) {a b r : Lau} (h : laddO a b = some r) : Tells (cx w mean mg mb base) 5 (.ref 222) [lD a, lD b] (fun d => d = lD r) := by
  unfold laddO at h
  split at h
  · rename_i hl
    obtain ⟨z, hz, h⟩ := Option.bind_eq_some_iff.mp h
    cases h
    refine' tells_def (names := ["a", "b"]) ?H rfl "" ?h
    case H => k_caughtB
    case h =>
      intro A g L O₀
      repeat' k_caught0
      have em : (if b.1 < a.1 then b.1 else a.1) = min a.1 b.1 := by split <;> omega
      rw [em]
      repeat' k_caught0
      refine ⟨_, (t_lmoved hB (a := a) (low := min a.1 b.1) (by omega) (by omega)).mono (Nat.le_of_ble_eq_true rfl) (fun _ h => h), ?_⟩
      rintro _ rfl
      repeat' k_caught0
      refine ⟨_, (t_lmoved hB (a := b) (low := min a.1 b.1) (by omega) (by omega)).mono (Nat.le_of_ble_eq_true rfl) (fun _ h => h), ?_⟩
      rintro _ rfl
      repeat' k_caught0
      refine ⟨_, (t_sadd hz).mono (Nat.le_of_ble_eq_true rfl) (fun _ h => h), ?_⟩
      rintro _ rfl
      repeat' k_caught0
  · cases h
theorem t_lmul (hB : (hd.heap_1 w.params).In base) {a b r : Lau} (h : lmulO a b = some r) : Tells (cx w mean mg mb base) 6 (.ref 229) [lD a, lD b] (fun d => d = lD r) := by
  unfold lmulO at h
  obtain ⟨z, hz, h⟩ := Option.bind_eq_some_iff.mp h
  cases h
  refine' tells_def (names := ["a", "b"]) ?H rfl "" ?h
  case H => k_caughtB
  case h =>
    intro A g L O₀
    repeat' k_caught0
    refine ⟨_, (t_smul hB hz).mono (Nat.le_of_ble_eq_true rfl) (fun _ h => h), ?_⟩
    rintro _ rfl
    repeat' k_caught0
theorem t_ltrim (hB : (hd.heap_1 w.params).In base) {a : Lau} (hl : a.2.length ≤ 50) : Tells (cx w mean mg mb base) 1 (.ref 236) [lD a] (fun d => d = lD (trim a.1 a.2)) := by
  refine' tells_def (names := ["a"]) ?H rfl "" ?h
  case H => k_caughtB
  case h =>
    intro A g L O₀
    repeat' k_caught0
    refine ⟨_, _, rfl, ?_⟩
    repeat' k_caught0
    refine JX_whileI (fun n ρ os => os = none ∧ ∃ (lo : Int) (l : Ser), n = l.length ∧ l.length ≤ 50 ∧ ρ.lookup (Str.ofString "low") = some (.int lo) ∧ ρ.lookup (Str.ofString "rest") = some (sD l) ∧ trim lo l = trim a.1 a.2) a.2.length ⟨rfl, a.1, a.2, rfl, hl, rfl, rfl, rfl⟩ ?_
    rintro n ρ os ⟨rfl, lo, l, hn, hll, hLo, hR, ht⟩
    repeat' k_caught0
    refine ⟨_, t_len (by simp <;> omega), ?_⟩
    rintro _ rfl
    repeat' k_caught0
    cases l with
    | nil =>
      refine if_f (by simp) ?_
      repeat' k_caught0
      exact ⟨rfl, _, by rw [← ht]; rfl, .inl rfl⟩
    | cons q t =>
      refine if_t (by simp <;> omega) ?_
      repeat' k_caught0
      refine ⟨_, item_s (q := q) (by decide) (by decide) rfl, ?_⟩
      repeat' k_caught0
      refine ⟨_, o_eqp, ?_⟩
      refine if_b (fun c => ?_) (fun c => ?_)
      · repeat' k_caught0
        refine ⟨_, _, rfl, rfl, by decide, by simp at hll ⊢ <;> omega, ?_⟩
        repeat' k_caught0
        refine ⟨t.length, by rw [hn]; exact Nat.lt_succ_self _, rfl, lo + 1, t, rfl, by simp at hll ⊢ <;> omega, by ke_read, by ke_read, ?_⟩
        rw [← ht]
        have : q = (0, 1) := Prod.ext c.1 c.2
        show _ = trim lo (q :: t)
        unfold trim
        rw [if_pos this]
        cases t <;> rfl
      · repeat' k_caught0
        refine ⟨rfl, _, ?_, .inl rfl⟩
        rw [← ht]
        unfold trim
        rw [if_neg (fun e => c (by rw [e]; exact ⟨rfl, rfl⟩))]
        rfl
theorem t_linverse (hB : (hd.heap_1 w.params).In base) {a r : Lau} (h : linvO a = some r) : Tells (cx w mean mg mb base) 5 (.ref 243) [lD a] (fun d => d = lD r) := by
  unfold linvO at h
  split at h
  · cases h
  · rename_i q t hq
    split at h
    · rename_i hl
      obtain ⟨z, hz, h⟩ := Option.bind_eq_some_iff.mp h
      cases h
      refine' tells_def (names := ["a"]) ?H rfl "" ?h
      case H => k_caughtB
      case h =>
        intro A g L O₀
        repeat' k_caught0
        refine ⟨_, (t_ltrim hB hl).mono (Nat.le_of_ble_eq_true rfl) (fun _ h => h), ?_⟩
        rintro _ rfl
        refine ⟨_, _, rfl, ?_⟩
        have tl := trim_len a.1 a.2
        repeat' k_caught0
        refine ⟨_, t_len (by simp <;> omega), ?_⟩
        rintro _ rfl
        repeat' k_caught0
        refine if_f (by rw [hq]; simp <;> omega) ?_
        repeat' k_caught0
        refine ⟨_, (t_sinverse hB hz).mono (Nat.le_of_ble_eq_true rfl) (fun _ h => h), ?_⟩
        rintro _ rfl
        repeat' k_caught0
    · cases h
theorem t_lpowN (hB : (hd.heap_1 w.params).In base) {a r : Lau} {m : Nat} (h : lpowN a m = some r) : Tells (cx w mean mg mb base) 7 (.ref 250) [lD a, .int m] (fun d => d = lD r) := by
  unfold lpowN at h
  split at h
  · rename_i hl
    obtain ⟨hl, hl1, hm, hb⟩ := hl
    refine' tells_def (names := ["a", "many"]) ?H rfl "" ?h
    case H => k_caughtB
    case h =>
      intro A g L O₀
      repeat' k_caught0
      refine if_b (fun c => ?_) (fun c => ?_)
      · rw [if_pos (by omega)] at h
        cases h
        repeat' k_caught0
        refine ⟨_, t_len (by simp <;> omega), ?_⟩
        rintro _ rfl
        repeat' k_caught0
        rw [List.length_map]
        refine ⟨_, o_rep (by omega) (by omega), ?_⟩
        refine ⟨_, o_concat (by simp <;> omega), ?_⟩
        repeat' k_caught0
        refine ⟨rfl, _, ?_, .inl rfl⟩
        have e : ((a.2.length : Int) - 1).toNat = a.2.length - 1 := by omega
        rw [e]
        show _ = D.tup [.int 0, .lst (List.map qD ((1, 1) :: List.replicate (a.2.length - 1) (0, 1)))]
        rw [List.map_cons, List.map_replicate]
        rfl
      · rw [if_neg (by omega)] at h
        obtain ⟨z, hz, h⟩ := Option.bind_eq_some_iff.mp h
        cases h
        repeat' k_caught0
        refine ⟨_, (t_ltrim hB hl).mono (Nat.le_of_ble_eq_true rfl) (fun _ h => h), ?_⟩
        rintro _ rfl
        refine ⟨_, _, rfl, ?_⟩
        repeat' k_caught0
        refine ⟨_, o_mul (IntMulOk.of_left (intBits_le_64 (by omega) (by omega))), ?_⟩
        repeat' k_caught0
        refine ⟨_, (t_swhole hB hz).mono (Nat.le_of_ble_eq_true rfl) (fun _ h => h), ?_⟩
        rintro _ rfl
        repeat' k_caught0
  · cases h
theorem t_lpower (hB : (hd.heap_1 w.params).In base) {a r : Lau} {m : Int} (h : lpowO a m = some r) : Tells (cx w mean mg mb base) 8 (.ref 250) [lD a, .int m] (fun d => d = lD r) := by
  unfold lpowO at h
  split at h
  · rename_i hm
    obtain ⟨b, hb, h⟩ := Option.bind_eq_some_iff.mp h
    refine' tells_def (names := ["a", "many"]) ?H rfl "" ?h
    case H => k_caughtB
    case h =>
      intro A g L O₀
      repeat' k_caught0
      refine if_f (by omega) ?_
      repeat' k_caught0
      refine if_t (by omega) ?_
      repeat' k_caught0
      refine ⟨_, (t_linverse hB hb).mono (Nat.le_of_ble_eq_true rfl) (fun _ h => h), ?_⟩
      rintro _ rfl
      repeat' k_caught0
      have e : (0 : Int) - m = ((-m).toNat : Int) := by omega
      rw [e]
      refine ⟨_, (t_lpowN hB h).mono (Nat.le_of_ble_eq_true rfl) (fun _ h => h), ?_⟩
      rintro _ rfl
      exact ⟨rfl, _, rfl, .inl rfl⟩
  · rename_i hm
    have e : m = (m.toNat : Int) := by omega
    rw [e]
    exact (t_lpowN hB h).mono (Nat.le_of_ble_eq_true rfl) (fun _ h => h)
end

theorem o_powO {h p : Int} {k : Nat} (e : powO h k = some p) : Op2 (.bin .Pow) (.int h) (.int k) (.int p) := by
  unfold powO at e
  split at e
  · rename_i c
    cases e
    have hb := intBits_le_64 (k := h) (by omega) (by omega)
    have := o_pow (a := h) (n := (k : Int)) (by omega) (by
      have h1 : (Builtin.Int.intBits h : Int) * (k : Int) ≤ 64 * 100 := Int.mul_le_mul (by omega) (by omega) (by omega) (by omega)
      omega)
    have ek : ((k : Int)).toNat = k := by omega
    rw [ek] at this
    exact this
  · cases e
section
variable {w : World} {mean : ExcName → Option Value} {mg mb : Str → Option Value} {base : Heap}
theorem t_root {n r : Int} {k : Nat} (h : rootO n k = some r) : Tells (cx w mean mg mb base) 1 (.ref 48) [.int n, .int k] (fun d => d = .int r) := by
  unfold rootO at h
  obtain ⟨⟨lo0, hi0⟩, h1, h2⟩ := Option.bind_eq_some_iff.mp h
  refine' tells_def (names := ["n", "k"]) ?H rfl "" ?h
  case H => k_caughtB
  case h =>
    intro A g L O₀
    repeat' k_caught0
    refine JX_whileI (fun m ρ os => os = none ∧ ∃ lo hi : Int, ρ.lookup (Str.ofString "n") = some (.int n) ∧ ρ.lookup (Str.ofString "k") = some (.int k) ∧ ρ.lookup (Str.ofString "low") = some (.int lo) ∧ ρ.lookup (Str.ofString "high") = some (.int hi) ∧ root1 m n k lo hi = some (lo0, hi0)) 10 ⟨rfl, 0, 1, rfl, rfl, rfl, rfl, h1⟩ ?_
    rintro m ρ os ⟨rfl, lo, hi, hN, hK, hL, hH, hr⟩
    cases m with
    | zero => cases hr
    | succ m =>
      unfold root1 at hr
      obtain ⟨p, hp, hr⟩ := Option.bind_eq_some_iff.mp hr
      repeat' k_caught0
      refine ⟨_, o_powO hp, ?_⟩
      repeat' k_caught0
      refine if_b (fun c => ?_) (fun c => ?_)
      · rw [if_pos c] at hr
        have hm : IntMulOk 2 hi := by
          unfold powO at hp
          split at hp
          · rename_i c
            exact IntMulOk.of_left (intBits_le_64 (by omega) (by omega))
          · cases hp
        repeat' k_caught0
        exact ⟨m, Nat.lt_succ_self _, rfl, _, _, by ke_read, by ke_read, by ke_read, by ke_read, hr⟩
      · rw [if_neg c] at hr
        cases hr
        repeat' k_caught0
        refine JX_whileI (fun m ρ os => os = none ∧ ∃ lo hi : Int, ρ.lookup (Str.ofString "n") = some (.int n) ∧ ρ.lookup (Str.ofString "k") = some (.int k) ∧ ρ.lookup (Str.ofString "low") = some (.int lo) ∧ ρ.lookup (Str.ofString "high") = some (.int hi) ∧ root2 m n k lo hi = some r) 10 ⟨rfl, _, _, hN, hK, hL, hH, h2⟩ ?_
        rintro m ρ os ⟨rfl, lo, hi, hN, hK, hL, hH, hr⟩
        cases m with
        | zero => cases hr
        | succ m =>
          unfold root2 at hr
          repeat' k_caught0
          refine if_b (fun c1 => ?_) (fun c1 => ?_)
          · rw [if_pos c1] at hr
            obtain ⟨p, hp, hr⟩ := Option.bind_eq_some_iff.mp hr
            repeat' k_caught0
            refine ⟨_, o_fdiv (by decide) (noP2 _), ?_⟩
            repeat' k_caught0
            refine ⟨_, o_powO hp, ?_⟩
            repeat' k_caught0
            refine if_b (fun c2 => ?_) (fun c2 => ?_)
            · rw [if_pos c2] at hr
              repeat' k_caught0
              exact ⟨m, Nat.lt_succ_self _, rfl, _, _, by ke_read, by ke_read, by ke_read, by ke_read, hr⟩
            · rw [if_neg c2] at hr
              repeat' k_caught0
              exact ⟨m, Nat.lt_succ_self _, rfl, _, _, by ke_read, by ke_read, by ke_read, by ke_read, hr⟩
          · rw [if_neg c1] at hr
            cases hr
            repeat' k_caught0
theorem t_exact {q r : Q} {k : Nat} (h : exactO q k = some r) : Tells (cx w mean mg mb base) 2 (.ref 257) [qD q, .int k] (fun d => d = qD r) := by
  simp only [exactO, Option.bind_eq_some_iff] at h
  obtain ⟨t, ht, b, hb, x, hx, y, hy, h⟩ := h
  split at h
  · rename_i hc
    cases h
    refine' tells_def (names := ["number", "many"]) ?H rfl "" ?h
    case H => k_caughtB
    case h =>
      intro A g L O₀
      repeat' k_caught0
      refine ⟨_, (t_root ht).mono (Nat.le_of_ble_eq_true rfl) (fun _ h => h), ?_⟩
      rintro _ rfl
      repeat' k_caught0
      refine ⟨_, (t_root hb).mono (Nat.le_of_ble_eq_true rfl) (fun _ h => h), ?_⟩
      rintro _ rfl
      repeat' k_caught0
      refine ⟨_, o_powO hx, ?_⟩
      repeat' k_caught0
      refine if_t hc.1 ?_
      repeat' k_caught0
      refine ⟨_, o_powO hy, ?_⟩
      repeat' k_caught0
      refine if_t hc.2 ?_
      repeat' k_caught0
  · cases h
end

theorem noPsmall {n : Nat} (h : n < 100) (x : Int) : Builtin.divisionGoesByPylong x n = false := PyProof.noPylong_of_log2 (by
  rw [Int.natAbs_natCast]
  by_cases e : n = 0
  · subst e; decide +kernel
  · have h1 : n.log2 < 7 := (Nat.log2_lt e).mpr (Nat.lt_of_lt_of_le h (show 100 ≤ 2 ^ 7 by decide))
    have h2 : 7 ≤ 9000 := by decide
    first | exact Nat.le_trans (Nat.le_of_lt h1) (by decide) | exact Nat.lt_of_lt_of_le h1 (by decide))
section
variable {w : World} {mean : ExcName → Option Value} {mg mb : Str → Option Value} {base : Heap}
theorem t_ofroot (hB : (hd.heap_1 w.params).In base) {a r : Lau} {num : Int} {den : Nat} (h : rootS a num den = some r) : Tells (cx w mean mg mb base) 5 (.ref 278) [lD a, qD (num, den)] (fun d => d = lD r) := by
  unfold rootS at h
  split at h
  rename_i low rest ht
  split at h
  · cases h
  · rename_i q t
    split at h
    · rename_i hc
      obtain ⟨hl, hd0, hd1, hn1, hlo, hmod, hpos⟩ := hc
      simp only [Option.bind_eq_some_iff] at h
      obtain ⟨f, hf, f', hf', x, hx, y, hy, i, hi, u, hu, v, hv, z, hz, h⟩ := h
      cases h
      have hm : IntMulOk low num := IntMulOk.of_left (intBits_le_64 (by omega) (by omega))
      have hlt := trim_len a.1 a.2
      rw [ht] at hlt
      have ea : (if num < 0 then -num else num) = (num.natAbs : Int) := by split <;> omega
      refine' tells_def (names := ["told", "number"]) ?H rfl "" ?h
      case H => k_caughtB
      case h =>
        intro A g L O₀
        repeat' k_caught0
        refine ⟨_, (t_ltrim hB hl).mono (Nat.le_of_ble_eq_true rfl) (fun _ h => h), ?_⟩
        rintro _ rfl
        rw [ht]
        refine ⟨_, _, rfl, ?_⟩
        repeat' k_caught0
        refine ⟨_, t_len (by simp at hlt ⊢ <;> omega), ?_⟩
        rintro _ rfl
        repeat' k_caught0
        refine if_f (by simp <;> omega) ?_
        repeat' k_caught0
        refine ⟨_, o_mod (by omega), ?_⟩
        repeat' k_caught0
        refine if_f (fun e => e hmod) ?_
        repeat' k_caught0
        refine ⟨_, item_s (q := q) (by decide) (by decide) rfl, ?_⟩
        repeat' k_caught0
        refine if_f (by omega) ?_
        repeat' k_caught0
        refine ⟨_, item_s (q := q) (by decide) (by decide) rfl, ?_⟩
        repeat' k_caught0
        refine ⟨_, (t_exact hf).mono (Nat.le_of_ble_eq_true rfl) (fun _ h => h), ?_⟩
        rintro _ rfl
        repeat' k_caught0
        refine ⟨_, o_isNoneT, ?_⟩
        repeat' k_caught0
        refine if_b (fun c => ?_) (fun c => ?_)
        · rw [if_pos c] at hf'
          repeat' k_caught0
          refine ⟨_, (t_rdiv (a := (1, 1)) hf').mono (Nat.le_of_ble_eq_true rfl) (fun _ h => h), ?_⟩
          rintro _ rfl
          repeat' k_caught0
          rw [ea]
          refine ⟨_, o_powO hx, ?_⟩
          repeat' k_caught0
          rw [ea]
          refine ⟨_, o_powO hy, ?_⟩
          repeat' k_caught0
          refine ⟨_, o_fdiv (by omega) (noPsmall hd1 _), ?_⟩
          repeat' k_caught0
          refine ⟨_, item_s (q := q) (by decide) (by decide) rfl, ?_⟩
          repeat' k_caught0
          refine ⟨_, (t_rdiv (a := (1, 1)) hi).mono (Nat.le_of_ble_eq_true rfl) (fun _ h => h), ?_⟩
          rintro _ rfl
          repeat' k_caught0
          refine ⟨_, (t_sscale hu).mono (Nat.le_of_ble_eq_true rfl) (fun _ h => h), ?_⟩
          rintro _ rfl
          repeat' k_caught0
          refine ⟨_, (t_spower hB hv).mono (Nat.le_of_ble_eq_true rfl) (fun _ h => h), ?_⟩
          rintro _ rfl
          repeat' k_caught0
          refine ⟨_, (t_sscale (q := (x, y)) hz).mono (Nat.le_of_ble_eq_true rfl) (fun _ h => h), ?_⟩
          rintro _ rfl
          repeat' k_caught0
        · rw [if_neg c] at hf'
          cases hf'
          repeat' k_caught0
          rw [ea]
          refine ⟨_, o_powO hx, ?_⟩
          repeat' k_caught0
          rw [ea]
          refine ⟨_, o_powO hy, ?_⟩
          repeat' k_caught0
          refine ⟨_, o_fdiv (by omega) (noPsmall hd1 _), ?_⟩
          repeat' k_caught0
          refine ⟨_, item_s (q := q) (by decide) (by decide) rfl, ?_⟩
          repeat' k_caught0
          refine ⟨_, (t_rdiv (a := (1, 1)) hi).mono (Nat.le_of_ble_eq_true rfl) (fun _ h => h), ?_⟩
          rintro _ rfl
          repeat' k_caught0
          refine ⟨_, (t_sscale hu).mono (Nat.le_of_ble_eq_true rfl) (fun _ h => h), ?_⟩
          rintro _ rfl
          repeat' k_caught0
          refine ⟨_, (t_spower hB hv).mono (Nat.le_of_ble_eq_true rfl) (fun _ h => h), ?_⟩
          rintro _ rfl
          repeat' k_caught0
          refine ⟨_, (t_sscale (q := (x, y)) hz).mono (Nat.le_of_ble_eq_true rfl) (fun _ h => h), ?_⟩
          rintro _ rfl
          repeat' k_caught0
    · cases h
end

abbrev letD (l : Lau) : D := .tup [.str (Str.ofString "x"), lD l]
def powerO (a : Lau) (e : Int) (d : Nat) : Option Lau := if d = 1 then lpowO a e else rootS a e d
def symO (l : Lau) (many : Nat) : Lau := (l.1, l.2 ++ List.replicate (many - l.2.length) (0, 1))
def sumO (many : Nat) (ts : List Lau) : Option Lau := preM (fun f i => (ts[i]?).bind fun p => laddO f p) (lplainO (0, 1) many) ts.length
def prodO (many : Nat) (ts : List Lau) : Option Lau := preM (fun f i => (ts[i]?).bind fun p => lmulO f p) (lplainO (1, 1) many) ts.length
section
variable {w : World} {mean : ExcName → Option Value} {mg mb : Str → Option Value} {base : Heap}
theorem t_ofpower (hB : (hd.heap_1 w.params).In base) {k : Nat} (hk : 8 ≤ k) {b : D} {a r : Lau} {e : Int} {d : Nat} {m : Int} {l : D} (T : Tells (cx w mean mg mb base) k (.ref 292) [b, .int m, l] (fun d => d = lD a)) (h : powerO a e d = some r) :
    Tells (cx w mean mg mb base) (k + 1) (.ref 285) [b, numT e d, .int m, l] (fun d => d = lD r) := by
  refine' tells_def (names := ["base", "exponent", "many", "letter"]) ?H rfl "" ?h
  case H => k_caughtB
  case h =>
    intro A g L O₀
    repeat' k_caught0
    refine ⟨_, T.mono (Nat.le_refl _) (fun _ h => h), ?_⟩
    rintro _ rfl
    repeat' k_caught0
    unfold powerO at h
    refine if_b (fun c => ?_) (fun c => ?_)
    · rw [if_pos (by omega)] at h
      repeat' k_caught0
      refine ⟨_, (t_lpower hB h).mono hk (fun _ h => h), ?_⟩
      rintro _ rfl
      repeat' k_caught0
    · rw [if_neg (by omega)] at h
      repeat' k_caught0
      refine ⟨_, (t_ofroot hB (num := e) (den := d) h).mono (Nat.le_trans (by decide) hk) (fun _ h => h), ?_⟩
      rintro _ rfl
      exact ⟨rfl, _, rfl, .inl rfl⟩
theorem t_num (hB : (hd.heap_1 w.params).In base) {a b : Int} {m : Nat} (h1 : 1 ≤ m) (h2 : m ≤ 50) (l : D) :
    Tells (cx w mean mg mb base) 2 (.ref 292) [numT a b, .int m, l] (fun d => d = lD (lplainO (a, b) m)) := by
  refine' tells_def (names := ["t", "many", "letter"]) ?H rfl "" ?h
  case H => k_caughtB
  case h =>
    intro A g L O₀
    repeat' k_caught0
    refine ⟨_, (t_lplain hB (q := (a, b)) h1 h2).mono (Nat.le_of_ble_eq_true rfl) (fun _ h => h), ?_⟩
    rintro _ rfl
    repeat' k_caught0
theorem t_sym (hB : (hd.heap_1 w.params).In base) {z : Lau} {m : Nat} (h1 : z.2.length ≤ m) (h2 : m ≤ 50) :
    Tells (cx w mean mg mb base) 1 (.ref 292) [symT, .int m, letD z] (fun d => d = lD (symO z m)) := by
  refine' tells_def (names := ["t", "many", "letter"]) ?H rfl "" ?h
  case H => k_caughtB
  case h =>
    intro A g L O₀
    repeat' k_caught0
    refine ⟨_, t_len (by simp <;> omega), ?_⟩
    rintro _ rfl
    repeat' k_caught0
    rw [List.length_map]
    refine ⟨_, o_rep (by omega) (by omega), ?_⟩
    refine ⟨_, o_concat (by simp <;> omega), ?_⟩
    repeat' k_caught0
    refine ⟨rfl, _, ?_, .inl rfl⟩
    have e : ((m : Int) - (z.2.length : Int)).toNat = m - z.2.length := by omega
    rw [e]
    show _ = D.tup [.int z.1, .lst (List.map qD (z.2 ++ List.replicate (m - z.2.length) (0, 1)))]
    rw [List.map_append, List.map_replicate]
    rfl
theorem t_pow {k : Nat} {b e : D} {r : Lau} {m : Int} {l : D} (T : Tells (cx w mean mg mb base) k (.ref 285) [b, e, .int m, l] (fun d => d = lD r)) :
    Tells (cx w mean mg mb base) (k + 1) (.ref 292) [powT b e, .int m, l] (fun d => d = lD r) := by
  refine' tells_def (names := ["t", "many", "letter"]) ?H rfl "" ?h
  case H => k_caughtB
  case h =>
    intro A g L O₀
    repeat' k_caught0
    refine ⟨_, T.mono (Nat.le_refl _) (fun _ h => h), ?_⟩
    rintro _ rfl
    exact ⟨rfl, _, rfl, .inl rfl⟩
theorem t_sum (hB : (hd.heap_1 w.params).In base) {k : Nat} (hk : 5 ≤ k) {ts : List (D × Lau)} {r : Lau} {m : Nat} (h1 : 1 ≤ m) (h2 : m ≤ 50) {l : D} (T : ∀ p ∈ ts, Tells (cx w mean mg mb base) k (.ref 292) [p.1, .int m, l] (fun d => d = lD p.2))
    (h : sumO m (ts.map (·.2)) = some r) :
    Tells (cx w mean mg mb base) (k + 1) (.ref 292) [sumT (ts.map (·.1)), .int m, l] (fun d => d = lD r) := by
  refine' tells_def (names := ["t", "many", "letter"]) ?H rfl "" ?h
  case H => k_caughtB
  case h =>
    intro A g L O₀
    repeat' k_caught0
    refine ⟨_, o_notin (ys := [Str.ofString "sum", Str.ofString "prod"]), ?_⟩
    refine if_bf (by decide +kernel) ?_
    repeat' k_caught0
    refine ⟨_, (t_lplain hB (q := (0, 1)) h1 h2).mono (Nat.le_trans (Nat.le_of_ble_eq_true rfl) hk) (fun _ h => h), ?_⟩
    rintro _ rfl
    repeat' k_caught0
    refine JX_forTup rfl rfl ?_
    repeat' k_caught0
    refine ⟨_, fun i ρ os => os = none ∧ ρ.lookup (Str.ofString "t") = some (sumT (ts.map (·.1))) ∧ ρ.lookup (Str.ofString "many") = some (.int m) ∧ ρ.lookup (Str.ofString "letter") = some l ∧ ∃ f, preM (fun f i => ((ts.map (·.2))[i]?).bind fun p => laddO f p) (lplainO (0, 1) m) i = some f ∧ ρ.lookup (Str.ofString "found") = some (lD f), rfl, ⟨rfl, rfl, rfl, rfl, _, rfl, rfl⟩, ?_, ?_⟩
    · rintro O₁ i ρ os e he ⟨rfl, hT, hM, hL, f, hf, hF⟩
      rw [List.getElem?_map] at he
      obtain ⟨p, hp, rfl⟩ := Option.map_eq_some_iff.mp he
      have hi : i < ts.length := (List.getElem?_eq_some_iff.mp hp).1
      obtain ⟨f', hs, hf'⟩ := preM_step h (by rw [List.length_map]; exact hi) hf
      rw [List.getElem?_map, hp] at hs
      have hs' : laddO f p.2 = some f' := hs
      repeat' k_caught0
      refine ⟨_, (T p (List.mem_of_getElem? hp)).mono (Nat.le_refl _) (fun _ h => h), ?_⟩
      rintro _ rfl
      repeat' k_caught0
      refine ⟨_, (t_ladd hB hs').mono hk (fun _ h => h), ?_⟩
      rintro _ rfl
      repeat' k_caught0
      exact ⟨rfl, rfl, by ke_read, by ke_read, by ke_read, f', hf', by ke_read⟩
    · rintro ρ os ⟨rfl, hT, hM, hL, f, hf, hF⟩
      have en : (List.map (fun x : D × Lau => x.1) ts).length = (ts.map (·.2)).length := by simp
      rw [en] at hf
      cases (Option.some.inj (hf.symm.trans h))
      repeat' k_caught0
theorem t_prod (hB : (hd.heap_1 w.params).In base) {k : Nat} (hk : 6 ≤ k) {ts : List (D × Lau)} {r : Lau} {m : Nat} (h1 : 1 ≤ m) (h2 : m ≤ 50) {l : D} (T : ∀ p ∈ ts, Tells (cx w mean mg mb base) k (.ref 292) [p.1, .int m, l] (fun d => d = lD p.2))
    (h : prodO m (ts.map (·.2)) = some r) :
    Tells (cx w mean mg mb base) (k + 1) (.ref 292) [prodT (ts.map (·.1)), .int m, l] (fun d => d = lD r) := by
  refine' tells_def (names := ["t", "many", "letter"]) ?H rfl "" ?h
  case H => k_caughtB
  case h =>
    intro A g L O₀
    repeat' k_caught0
    refine ⟨_, o_notin (ys := [Str.ofString "sum", Str.ofString "prod"]), ?_⟩
    refine if_bf (by decide +kernel) ?_
    repeat' k_caught0
    refine ⟨_, (t_lplain hB (q := (1, 1)) h1 h2).mono (Nat.le_trans (Nat.le_of_ble_eq_true rfl) hk) (fun _ h => h), ?_⟩
    rintro _ rfl
    repeat' k_caught0
    refine JX_forTup rfl rfl ?_
    repeat' k_caught0
    refine ⟨_, fun i ρ os => os = none ∧ ρ.lookup (Str.ofString "t") = some (prodT (ts.map (·.1))) ∧ ρ.lookup (Str.ofString "many") = some (.int m) ∧ ρ.lookup (Str.ofString "letter") = some l ∧ ∃ f, preM (fun f i => ((ts.map (·.2))[i]?).bind fun p => lmulO f p) (lplainO (1, 1) m) i = some f ∧ ρ.lookup (Str.ofString "found") = some (lD f), rfl, ⟨rfl, rfl, rfl, rfl, _, rfl, rfl⟩, ?_, ?_⟩
    · rintro O₁ i ρ os e he ⟨rfl, hT, hM, hL, f, hf, hF⟩
      rw [List.getElem?_map] at he
      obtain ⟨p, hp, rfl⟩ := Option.map_eq_some_iff.mp he
      have hi : i < ts.length := (List.getElem?_eq_some_iff.mp hp).1
      obtain ⟨f', hs, hf'⟩ := preM_step h (by rw [List.length_map]; exact hi) hf
      rw [List.getElem?_map, hp] at hs
      have hs' : lmulO f p.2 = some f' := hs
      repeat' k_caught0
      refine ⟨_, (T p (List.mem_of_getElem? hp)).mono (Nat.le_refl _) (fun _ h => h), ?_⟩
      rintro _ rfl
      repeat' k_caught0
      refine ⟨_, (t_lmul hB hs').mono hk (fun _ h => h), ?_⟩
      rintro _ rfl
      repeat' k_caught0
      exact ⟨rfl, rfl, by ke_read, by ke_read, by ke_read, f', hf', by ke_read⟩
    · rintro ρ os ⟨rfl, hT, hM, hL, f, hf, hF⟩
      have en : (List.map (fun x : D × Lau => x.1) ts).length = (ts.map (·.2)).length := by simp
      rw [en] at hf
      cases (Option.some.inj (hf.symm.trans h))
      repeat' k_caught0
end

def lauO (f : Nat → Option Lau) : Nat → Nat → Option Lau
  | 0, _ => none
  | n + 1, more => if more ≤ 24 then (f (3 + more)).bind fun a => if a.2.length ≤ 50 then (if 3 ≤ a.1 + (a.2.length : Int) then some a else lauO f n (more * 2)) else none else none
def infD (b : Bool) : D := .str (if b then Str.ofString "inf" else Str.ofString "-inf")
def fbP (low : Int) : Ser → D
  | [] => qD (0, 1)
  | q :: _ => if 0 < low then qD (0, 1) else if low = 0 then qD q else infD (decide (0 < q.1))
def fbO (a : Lau) : D := fbP (trim a.1 a.2).1 (trim a.1 a.2).2
theorem fb1 {low : Int} {q : Q} {t : Ser} (c : 0 < low) : qD (0, 1) = fbP low (q :: t) := by show qD (0, 1) = (if 0 < low then qD (0, 1) else if low = 0 then qD q else infD (decide (0 < q.1))); rw [if_pos c]
theorem fb2 {low : Int} {q : Q} {t : Ser} (c : ¬ 0 < low) (c1 : low = 0) : qD q = fbP low (q :: t) := by show qD q = (if 0 < low then qD (0, 1) else if low = 0 then qD q else infD (decide (0 < q.1))); rw [if_neg c, if_pos c1]
theorem fb3 {low : Int} {q : Q} {t : Ser} (c : ¬ 0 < low) (c1 : ¬ low = 0) {b : Bool} (h : decide (0 < q.1) = b) : infD b = fbP low (q :: t) := by show infD b = (if 0 < low then qD (0, 1) else if low = 0 then qD q else infD (decide (0 < q.1))); rw [if_neg c, if_neg c1, h]
def dueO (v : Q) (gap : Int) : D := if 0 < gap then qD (0, 1) else if gap = 0 then qD v else infD (decide (0 < v.1))
section
variable {w : World} {mean : ExcName → Option Value} {mg mb : Str → Option Value} {base : Heap}
theorem t_laurent {k : Nat} {t l : D} {f : Nat → Option Lau} {r : Lau} (T : ∀ (m : Nat) (a : Lau), f m = some a → m ≤ 50 → 1 ≤ m → Tells (cx w mean mg mb base) k (.ref 292) [t, .int m, l] (fun d => d = lD a)) (h : lauO f 3 2 = some r) :
    Tells (cx w mean mg mb base) (k + 1) (.ref 299) [t, l, .int 3] (fun d => d = lD r) := by
  refine' tells_def (names := ["t", "letter", "end"]) ?H rfl "" ?h
  case H => k_caughtB
  case h =>
    intro A g L O₀
    repeat' k_caught0
    refine JX_whileI (fun n ρ os => os = none ∧ ∃ more : Nat, ρ.lookup (Str.ofString "t") = some t ∧ ρ.lookup (Str.ofString "letter") = some l ∧ ρ.lookup (Str.ofString "end") = some (.int 3) ∧ ρ.lookup (Str.ofString "more") = some (.int more) ∧ lauO f n more = some r) 3 ⟨rfl, 2, rfl, rfl, rfl, rfl, h⟩ ?_
    rintro n ρ os ⟨rfl, more, hT, hL, hE, hM, hs⟩
    cases n with
    | zero => cases hs
    | succ n =>
      unfold lauO at hs
      split at hs
      · rename_i hm
        obtain ⟨a, ha, hs⟩ := Option.bind_eq_some_iff.mp hs
        split at hs
        · rename_i hl
          have hmu : IntMulOk (more : Int) 2 := IntMulOk.of_left (intBits_le_64 (by omega) (by omega))
          repeat' k_caught0
          refine if_t (by omega) ?_
          repeat' k_caught0
          have e : ((if (1 : Int) > 3 then (1 : Int) else 3) + (more : Int)) = ((3 + more : Nat) : Int) := by rw [if_neg (by decide)]; omega
          rw [e]
          repeat' k_caught0
          refine ⟨_, (T (3 + more) a ha (by omega) (by omega)).mono (Nat.le_refl _) (fun _ h => h), ?_⟩
          rintro _ rfl
          repeat' k_caught0
          refine ⟨_, t_len (by simp <;> omega), ?_⟩
          rintro _ rfl
          repeat' k_caught0
          rw [List.length_map]
          refine if_b (fun c => ?_) (fun c => ?_)
          · rw [if_pos c] at hs
            cases hs
            repeat' k_caught0
          · rw [if_neg c] at hs
            repeat' k_caught0
            refine ⟨n, Nat.lt_succ_self _, rfl, more * 2, by ke_read, by ke_read, by ke_read, ?_, hs⟩
            ke_read
        · cases hs
      · cases hs
theorem t_begin (hB : (hd.heap_1 w.params).In base) {a : Lau} (hl : a.2.length ≤ 50) : Tells (cx w mean mg mb base) 2 (.ref 306) [lD a, .int 1] (fun d => d = fbO a) := by
  refine' tells_def (names := ["told", "side"]) ?H rfl "" ?h
  case H => k_caughtB
  case h =>
    intro A g L O₀
    repeat' k_caught0
    refine ⟨_, (t_ltrim hB hl).mono (Nat.le_of_ble_eq_true rfl) (fun _ h => h), ?_⟩
    rintro _ rfl
    have hlt := trim_len a.1 a.2
    unfold fbO
    revert hlt
    generalize trim a.1 a.2 = z
    obtain ⟨low, rest⟩ := z
    intro hlt
    refine ⟨_, _, rfl, ?_⟩
    repeat' k_caught0
    refine ⟨_, t_len (by simp at hlt ⊢ <;> omega), ?_⟩
    rintro _ rfl
    repeat' k_caught0
    cases rest with
    | nil =>
      refine if_t (by simp) ?_
      repeat' k_caught0
    | cons q t =>
      refine if_f (by simp <;> omega) ?_
      repeat' k_caught0
      refine if_b (fun c => ?_) (fun c => ?_)
      · repeat' k_caught0
        exact ⟨rfl, _, fb1 c, .inl rfl⟩
      · repeat' k_caught0
        refine if_b (fun c1 => ?_) (fun c1 => ?_)
        · repeat' k_caught0
          refine ⟨_, item_s (q := q) (by decide) (by decide) rfl, ?_⟩
          repeat' k_caught0
          exact ⟨rfl, _, fb2 c c1, .inl rfl⟩
        · repeat' k_caught0
          refine ⟨_, o_mod (by decide), ?_⟩
          repeat' k_caught0
          refine ⟨_, rfl, ?_⟩
          refine if_b (fun c2 => ?_) (fun c2 => ?_)
          · repeat' k_caught0
            refine ⟨_, item_s (q := q) (by decide) (by decide) rfl, ?_⟩
            repeat' k_caught0
            refine ⟨_, rfl, ?_⟩
            refine if_t c2 ?_
            repeat' k_caught0
            refine ⟨_, o_neD rfl rfl, ?_⟩
            repeat' k_caught0
            refine ⟨_, rfl, ?_⟩
            by_cases c3 : 0 < q.1
            · refine if_bt (by rw [decide_eq_true c3]; rfl) ?_
              repeat' k_caught0
              exact ⟨rfl, _, fb3 c c1 (decide_eq_true c3), .inl rfl⟩
            · refine if_bf (by rw [decide_eq_false c3]; rfl) ?_
              repeat' k_caught0
              exact ⟨rfl, _, fb3 c c1 (decide_eq_false c3), .inl rfl⟩
          · repeat' k_caught0
            refine ⟨_, item_s (q := q) (by decide) (by decide) rfl, ?_⟩
            repeat' k_caught0
            refine ⟨_, rfl, ?_⟩
            refine if_f c2 ?_
            repeat' k_caught0
            refine ⟨_, o_neD rfl rfl, ?_⟩
            repeat' k_caught0
            refine ⟨_, rfl, ?_⟩
            by_cases c3 : 0 < q.1
            · refine if_bt (by rw [decide_eq_true c3]; rfl) ?_
              repeat' k_caught0
              exact ⟨rfl, _, fb3 c c1 (decide_eq_true c3), .inl rfl⟩
            · refine if_bf (by rw [decide_eq_false c3]; rfl) ?_
              repeat' k_caught0
              exact ⟨rfl, _, fb3 c c1 (decide_eq_false c3), .inl rfl⟩
theorem t_due {v : Q} {gap : Int} : Tells (cx w mean mg mb base) 1 (.ref 335) [qD v, .int gap] (fun d => d = dueO v gap) := by
  refine' tells_def (names := ["value", "gap"]) ?H rfl "" ?h
  case H => k_caughtB
  case h =>
    intro A g L O₀
    repeat' k_caught0
    unfold dueO
    refine if_b (fun c => ?_) (fun c => ?_)
    · rw [if_pos c]
      repeat' k_caught0
    · rw [if_neg c]
      repeat' k_caught0
      refine if_b (fun c1 => ?_) (fun c1 => ?_)
      · rw [if_pos c1]
        repeat' k_caught0
      · rw [if_neg c1]
        repeat' k_caught0
        refine if_b (fun c2 => ?_) (fun c2 => ?_)
        · repeat' k_caught0
          exact ⟨rfl, _, by rw [decide_eq_true c2]; rfl, .inl rfl⟩
        · repeat' k_caught0
          exact ⟨rfl, _, by rw [decide_eq_false c2]; rfl, .inl rfl⟩
end

section
variable {w : World} {mean : ExcName → Option Value} {mg mb : Str → Option Value} {base : Heap}
theorem t_near1 (hB : (hd.heap_1 w.params).In base) {k : Nat} (hk : 2 ≤ k) {t : D} {at' : Q} {a : Lau} {s : Int} (hs : s ≠ 0) (ha : a.2.length ≤ 50)
    (T : Tells (cx w mean mg mb base) k (.ref 299) [t, letD (0, [at', if 0 < s then (1, 1) else (-1, 1)]), .int 3] (fun d => d = lD a)) :
    Tells (cx w mean mg mb base) (k + 1) (.ref 313) [t, .str (Str.ofString "x"), qD at', .int s] (fun d => d = fbO a) := by
  refine' tells_def (names := ["t", "name", "at", "side"]) ?H rfl "" ?h
  case H => k_caughtB
  case h =>
    intro A g L O₀
    repeat' k_caught0
    refine if_t hs ?_
    repeat' k_caught0
    refine if_b (fun c => ?_) (fun c => ?_)
    · rw [if_pos c] at T
      repeat' k_caught0
      refine ⟨_, T.mono (Nat.le_refl _) (fun _ h => h), ?_⟩
      rintro _ rfl
      repeat' k_caught0
      refine ⟨_, (t_begin hB ha).mono hk (fun _ h => h), ?_⟩
      rintro _ rfl
      repeat' k_caught0
    · rw [if_neg c] at T
      repeat' k_caught0
      refine ⟨_, T.mono (Nat.le_refl _) (fun _ h => h), ?_⟩
      rintro _ rfl
      repeat' k_caught0
      refine ⟨_, (t_begin hB ha).mono hk (fun _ h => h), ?_⟩
      rintro _ rfl
      repeat' k_caught0
theorem t_near0 {k : Nat} {t : D} {at' d1 d2 r : D} {e : Bool} (T1 : Tells (cx w mean mg mb base) k (.ref 313) [t, .str (Str.ofString "x"), at', .int 1] (fun d => d = d1))
    (T2 : Tells (cx w mean mg mb base) k (.ref 313) [t, .str (Str.ofString "x"), at', .int (-1)] (fun d => d = d2)) (he : Op2 (.cmp .Eq) d1 d2 (.bool e)) (hr : r = if e = true then d1 else .none) :
    Tells (cx w mean mg mb base) (k + 1) (.ref 313) [t, .str (Str.ofString "x"), at', .int 0] (fun d => d = r) := by
  refine' tells_def (names := ["t", "name", "at", "side"]) ?H rfl "" ?h
  case H => k_caughtB
  case h =>
    intro A g L O₀
    repeat' k_caught0
    refine ⟨_, T1.mono (Nat.le_refl _) (fun _ h => h), ?_⟩
    rintro _ rfl
    repeat' k_caught0
    refine ⟨_, T2.mono (Nat.le_refl _) (fun _ h => h), ?_⟩
    rintro _ rfl
    repeat' k_caught0
    refine ⟨_, he, ?_⟩
    cases e with
    | true =>
      rw [if_pos rfl] at hr
      repeat' k_caught0
      exact ⟨rfl, _, hr.symm, .inl rfl⟩
    | false =>
      rw [if_neg Bool.false_ne_true] at hr
      repeat' k_caught0
      exact ⟨rfl, _, hr.symm, .inl rfl⟩
theorem t_told {k : Nat} {t at' s r : D} (T : Tells (cx w mean mg mb base) k (.ref 313) [t, .str (Str.ofString "x"), at', s] (fun d => d = r)) :
    Tells (cx w mean mg mb base) (k + 1) (.ref 328) [t, at', s] (fun d => d = r) := by
  refine' tells_def (names := ["term", "at", "side"]) ?H rfl "" ?h
  case H => k_caughtB
  case h =>
    intro A g L O₀
    repeat' k_caught0
    refine ⟨_, T.mono (Nat.le_refl _) (fun _ h => h), ?_⟩
    rintro _ rfl
    repeat' k_caught0
end

theorem noP3 (x : Int) : Builtin.divisionGoesByPylong x 3 = false := PyProof.noPylong_of_log2 (by decide +kernel)
/-- the box of the law's script -/
abbrev boxD (xs : List Int) (k : Nat) : List D := [.lst (xs.map D.int), .int k]
theorem fmod_of (a : Int) {m : Nat} (hm : 0 < m) : ∃ n : Nat, n < m ∧ a.fmod (m : Int) = n := by
  have h0 : (0 : Int) < m := by omega
  have h1 := Int.fmod_nonneg_of_pos a h0
  have h2 := Int.fmod_lt_of_pos a h0
  exact ⟨(a.fmod m).toNat, by omega, by omega⟩
section
variable {w : World} {mean : ExcName → Option Value} {mg mb : Str → Option Value} {base : Heap}
theorem t_take {xs : List Int} (hx : xs.length ≤ 12) {k m : Nat} (hk : k < 100) (hm : 0 < m) : TellsOwn (cx w mean mg mb base) 1 (.ref 321) (boxD xs k) (.int m) (fun d ds' => (∃ n : Nat, n < m ∧ d = .int n) ∧ ds' = boxD xs (k + 1)) := by
  refine' tellsOwn_def (a := "box") (b := "many") ?H (by decide) ?h
  case H => k_caughtB
  case h =>
    intro A g L O₀
    have hm0 : (m : Int) ≠ 0 := by omega
    repeat' k_caught0
    refine ⟨_, boxD xs (k + 1), rfl, by show (1 : Int) < ((2 : Nat) : Int); decide, rfl, ?_⟩
    repeat' k_caught0
    refine ⟨_, t_len (by simp <;> omega), ?_⟩
    rintro _ rfl
    repeat' k_caught0
    rw [List.length_map]
    refine if_b (fun c => ?_) (fun c => ?_)
    · repeat' k_caught0
      have hlt : k < xs.length := by omega
      have hit : ItemOf (.lst (xs.map D.int)) (.int (((k + 1 : Nat) : Int) - 1)) (.int xs[k]) := by
        refine ⟨_, _, .inr rfl, rfl, by omega, by omega, ?_⟩
        rw [List.getElem?_map]
        have e : (((k + 1 : Nat) : Int) - 1).toNat = k := by omega
        rw [e, List.getElem?_eq_getElem hlt]
        rfl
      refine ⟨_, hit, ?_⟩
      repeat' k_caught0
      refine ⟨_, o_mod hm0, ?_⟩
      obtain ⟨n, hn, e⟩ := fmod_of (if xs[k] < 0 then -xs[k] else xs[k]) hm
      rw [e]
      repeat' k_caught0
      exact ⟨_, _, rfl, ⟨⟨n, hn, rfl⟩, rfl⟩, rfl⟩
    · have hmu : IntMulOk 5 ((k + 1 : Nat) : Int) := IntMulOk.of_left (intBits_le_64 (by omega) (by omega))
      repeat' k_caught0
      refine ⟨_, o_fdiv (by decide) (noP3 _), ?_⟩
      repeat' k_caught0
      refine ⟨_, o_mod hm0, ?_⟩
      obtain ⟨n, hn, e⟩ := fmod_of (5 * ((k + 1 : Nat) : Int) + ((k + 1 : Nat) : Int).fdiv 3) hm
      rw [e]
      repeat' k_caught0
      exact ⟨_, _, rfl, ⟨⟨n, hn, rfl⟩, rfl⟩, rfl⟩
end

def apO (a way : Q) (m : Nat) : Option Lau := sumO m [symO (0, [a, way]) m, lplainO (0 - a.1, a.2) m]
def lineO (b4 slope : Int) (ap : Lau) (m : Nat) : Option Lau := (prodO m [lplainO (slope, 1) m, ap]).bind fun x => sumO m [lplainO (b4, 1) m, x]
def rtO (tw tp : Int) (bt : Nat) (ap ln : Lau) (m : Nat) : Option Lau := (powerO ap tw 1).bind fun x => (prodO m [x, ln]).bind fun y => powerO y tp bt
def termA (ap : Lau) (m2 tw tp : Int) (bt : Nat) (b4 slope number : Int) (m : Nat) : Option Lau := (lineO b4 slope ap m).bind fun ln => (rtO tw tp bt ap ln m).bind fun rt => (powerO ap m2 1).bind fun x => prodO m [lplainO (number, 1) m, x, rt]
def termO (a way : Q) (m2 tw tp : Int) (bt : Nat) (b4 slope number : Int) (m : Nat) : Option Lau := (apO a way m).bind fun ap => termA ap m2 tw tp bt b4 slope number m
def cubeO (a way : Q) (m : Nat) : Option Lau := (apO a way m).bind fun ap => (powerO ap 3 1).bind fun x => (powerO x 1 3).bind fun y => (powerO ap (-1) 1).bind fun z => prodO m [z, y]

/-- what from_begin tells, as data that can be compared -/
abbrev R := Q × Int
def codeD (c : R) : D := if c.2 = 0 then qD c.1 else infD (decide (0 < c.2))
def fbC (a : Lau) : R := match trim a.1 a.2 with
  | (low, l) => match l with
    | [] => ((0, 1), 0)
    | q :: _ => if 0 < low then ((0, 1), 0) else if low = 0 then (q, 0) else ((0, 1), if 0 < q.1 then 1 else -1)
def dueC (v : Q) (gap : Int) : R := if 0 < gap then ((0, 1), 0) else if gap = 0 then (v, 0) else ((0, 1), if 0 < v.1 then 1 else -1)
theorem fbC_D (a : Lau) : fbO a = codeD (fbC a) := by
  unfold fbO fbC
  generalize trim a.1 a.2 = z
  obtain ⟨low, l⟩ := z
  cases l with
  | nil => rfl
  | cons q t =>
    show (if 0 < low then qD (0, 1) else if low = 0 then qD q else infD (decide (0 < q.1))) = codeD (if 0 < low then ((0, 1), 0) else if low = 0 then (q, 0) else ((0, 1), if 0 < q.1 then 1 else -1))
    by_cases h1 : 0 < low
    · rw [if_pos h1, if_pos h1]; rfl
    · rw [if_neg h1, if_neg h1]
      by_cases h2 : low = 0
      · rw [if_pos h2, if_pos h2]; rfl
      · rw [if_neg h2, if_neg h2]
        by_cases h3 : 0 < q.1
        · rw [if_pos h3, decide_eq_true h3]; rfl
        · rw [if_neg h3, decide_eq_false h3]; rfl
theorem dueC_D (v : Q) (gap : Int) : dueO v gap = codeD (dueC v gap) := by
  unfold dueO dueC
  by_cases h1 : 0 < gap
  · rw [if_pos h1, if_pos h1]; rfl
  · rw [if_neg h1, if_neg h1]
    by_cases h2 : gap = 0
    · rw [if_pos h2, if_pos h2]; rfl
    · rw [if_neg h2, if_neg h2]
      by_cases h3 : 0 < v.1
      · rw [if_pos h3, decide_eq_true h3]; rfl
      · rw [if_neg h3, decide_eq_false h3]; rfl

abbrev As : List Q := [(0, 1), (2, 1), (-1, 1), (1, 2)]
abbrev Ms : List Int := [0, 1, -1, -2]
abbrev Ts : List (Int × Int × Nat) := [(2, 1, 2), (4, 1, 4), (2, 3, 2), (2, -1, 2), (4, 1, 2)]
abbrev Ss : List Int := [1, -1, 2]
abbrev Ns : List Int := [3, -5]
abbrev Ds : List Int := [1, -1]
def m2of (mm tp : Int) : Int := if tp = 3 then mm - 2 else mm
def expof (tp : Int) (bt : Nat) : Nat := ((4 * tp.natAbs) / bt)
def gapof (m2 tw tp : Int) (bt : Nat) : Int := m2 + (tw * tp).fdiv bt
def valof (number tp scale : Int) : Q := if 0 < tp then (number * scale, 1) else (number, scale)
def turnof (m2 : Int) (v : Q) : Q := (if m2.fmod 2 = 0 then v.1 else 0 - v.1, v.2)
/-- the series of x - a about a does not depend on a -/
def ap0 (way : Int) (m : Nat) : Lau := (0, (0, 1) :: (way, 1) :: List.replicate (m - 2) (0, 1))
def seen (way m2 tw tp : Int) (bt : Nat) (b4 slope number : Int) : Option R := (lauO (fun m => if m = 5 ∨ m = 7 then termA (ap0 way m) m2 tw tp bt b4 slope number m else none) 3 2).bind fun r => if r.2.length ≤ 50 then some (fbC r) else none
def okCase (mm : Int) (t : Int × Int × Nat) (n : Nat) (slope number : Int) : Bool :=
  let m2 := m2of mm t.2.1
  let begin' : Int := 1 + n
  let v := valof number t.2.1 (begin' ^ expof t.2.1 t.2.2)
  let gap := gapof m2 t.1 t.2.1 t.2.2
  seen 1 m2 t.1 t.2.1 t.2.2 (begin' ^ 4) slope number == some (dueC v gap) && seen (-1) m2 t.1 t.2.1 t.2.2 (begin' ^ 4) slope number == some (dueC (turnof m2 v) gap)
theorem ap_is : ∀ a ∈ As, ∀ m ∈ [5, 7], ∀ way ∈ Ds, apO a (way, 1) m = some (ap0 way m) := by decide +kernel
theorem ok_all : ∀ mm ∈ Ms, ∀ t ∈ Ts, ∀ n ∈ [0, 1], ∀ s ∈ Ss, ∀ k ∈ Ns, okCase mm t n s k = true := by decide +kernel

abbrev apT (a : Q) : D := sumT [symT, numT (0 - a.1) a.2]
abbrev lnT (b4 slope : Int) (ap : D) : D := sumT [numT b4 1, prodT [numT slope 1, ap]]
abbrev rtT (tw tp : Int) (bt : Nat) (ap ln : D) : D := powT (prodT [powT ap (numT tw 1), ln]) (numT tp bt)
abbrev tmT (a : Q) (m2 tw tp : Int) (bt : Nat) (b4 slope number : Int) : D := prodT [numT number 1, powT (apT a) (numT m2 1), rtT tw tp bt (apT a) (lnT b4 slope (apT a))]
abbrev cbT (a : Q) : D := prodT [powT (apT a) (numT (-1) 1), powT (powT (apT a) (numT 3 1)) (numT 1 3)]
section
variable {w : World} {mean : ExcName → Option Value} {mg mb : Str → Option Value} {base : Heap}
theorem t_two {c : Cx} {k : Nat} {fv l : D} {m : Int} {x y : D × Lau} (hx : Tells c k (.ref 292) [x.1, .int m, l] (fun d => d = lD x.2)) (hy : Tells c k (.ref 292) [y.1, .int m, l] (fun d => d = lD y.2)) : ∀ p ∈ [x, y], Tells c k (.ref 292) [p.1, .int m, l] (fun d => d = lD p.2) := by
  intro p hp
  rcases List.mem_cons.mp hp with rfl | hp
  · exact hx
  · rw [List.mem_singleton.mp hp]; exact hy
theorem t_ap (hB : (hd.heap_1 w.params).In base) {a way : Q} {m : Nat} {r : Lau} (h1 : 2 ≤ m) (h2 : m ≤ 50) (h : apO a way m = some r) : Tells (cx w mean mg mb base) 6 (.ref 292) [apT a, .int m, letD (0, [a, way])] (fun d => d = lD r) :=
  t_sum hB (k := 5) (Nat.le_refl _) (ts := [(symT, symO (0, [a, way]) m), (numT (0 - a.1) a.2, lplainO (0 - a.1, a.2) m)]) (by omega) h2
    (t_two (fv := .none) ((t_sym hB h1 h2).mono (by decide) fun _ h => h) ((t_num hB (by omega) h2 _).mono (by decide) fun _ h => h)) h
theorem t_powd (hB : (hd.heap_1 w.params).In base) {k : Nat} (hk : 8 ≤ k) {b l : D} {a r : Lau} {e : Int} {d : Nat} {m : Int} (T : Tells (cx w mean mg mb base) k (.ref 292) [b, .int m, l] (fun d => d = lD a)) (h : powerO a e d = some r) :
    Tells (cx w mean mg mb base) (k + 2) (.ref 292) [powT b (numT e d), .int m, l] (fun d => d = lD r) := t_pow (t_ofpower hB hk T h)
theorem t_line (hB : (hd.heap_1 w.params).In base) {b4 slope : Int} {ap r : Lau} {m : Nat} {l : D} {b : D} (h1 : 2 ≤ m) (h2 : m ≤ 50) (T : Tells (cx w mean mg mb base) 6 (.ref 292) [b, .int m, l] (fun d => d = lD ap)) (h : lineO b4 slope ap m = some r) :
    Tells (cx w mean mg mb base) 8 (.ref 292) [lnT b4 slope b, .int m, l] (fun d => d = lD r) := by
  obtain ⟨x, hx, h⟩ := Option.bind_eq_some_iff.mp h
  have A := t_prod hB (k := 6) (Nat.le_refl _) (ts := [(numT slope 1, lplainO (slope, 1) m), (b, ap)]) (by omega) h2 (t_two (fv := .none) ((t_num hB (by omega) h2 _).mono (by decide) fun _ h => h) T) hx
  exact t_sum hB (k := 7) (by decide) (ts := [(numT b4 1, lplainO (b4, 1) m), (prodT [numT slope 1, b], x)]) (by omega) h2 (t_two (fv := .none) ((t_num hB (by omega) h2 _).mono (by decide) fun _ h => h) A) h
theorem t_rt (hB : (hd.heap_1 w.params).In base) {tw tp : Int} {bt : Nat} {ap ln r : Lau} {m : Nat} {l b lb : D} (h1 : 2 ≤ m) (h2 : m ≤ 50) (T : Tells (cx w mean mg mb base) 8 (.ref 292) [b, .int m, l] (fun d => d = lD ap)) (Tl : Tells (cx w mean mg mb base) 8 (.ref 292) [lb, .int m, l] (fun d => d = lD ln))
    (h : rtO tw tp bt ap ln m = some r) : Tells (cx w mean mg mb base) 13 (.ref 292) [rtT tw tp bt b lb, .int m, l] (fun d => d = lD r) := by
  obtain ⟨x, hx, h⟩ := Option.bind_eq_some_iff.mp h
  obtain ⟨y, hy, h⟩ := Option.bind_eq_some_iff.mp h
  have A := t_powd hB (k := 8) (d := 1) (Nat.le_refl _) T hx
  have B := t_prod hB (k := 10) (by decide) (ts := [(powT b (numT tw 1), x), (lb, ln)]) (by omega) h2 (t_two (fv := .none) A (Tl.mono (by decide) fun _ h => h)) hy
  exact t_powd hB (k := 11) (by decide) B h
theorem t_term (hB : (hd.heap_1 w.params).In base) {a way : Q} {m2 tw tp : Int} {bt : Nat} {b4 slope number : Int} {m : Nat} {ap r : Lau} (h1 : 2 ≤ m) (h2 : m ≤ 50) (ha : apO a way m = some ap) (h : termA ap m2 tw tp bt b4 slope number m = some r) :
    Tells (cx w mean mg mb base) 14 (.ref 292) [tmT a m2 tw tp bt b4 slope number, .int m, letD (0, [a, way])] (fun d => d = lD r) := by
  obtain ⟨ln, hl, h⟩ := Option.bind_eq_some_iff.mp h
  obtain ⟨rt, hr, h⟩ := Option.bind_eq_some_iff.mp h
  obtain ⟨x, hx, h⟩ := Option.bind_eq_some_iff.mp h
  have T := t_ap hB h1 h2 ha (mean := mean) (mg := mg) (mb := mb)
  have Tl := t_line hB h1 h2 T hl
  have Tr := t_rt hB h1 h2 (T.mono (by decide) fun _ h => h) Tl hr
  have Tx := t_powd hB (k := 8) (d := 1) (Nat.le_refl _) (T.mono (by decide) fun _ h => h) hx
  exact t_prod hB (k := 13) (by decide) (ts := [(numT number 1, lplainO (number, 1) m), (powT (apT a) (numT m2 1), x), (rtT tw tp bt (apT a) (lnT b4 slope (apT a)), rt)]) (by omega) h2 (by
    intro p hp
    rcases List.mem_cons.mp hp with rfl | hp
    · exact (t_num hB (by omega) h2 _).mono (by decide) fun _ h => h
    rcases List.mem_cons.mp hp with rfl | hp
    · exact Tx.mono (by decide) fun _ h => h
    · rw [List.mem_singleton.mp hp]; exact Tr) h
theorem t_cubeP (hB : (hd.heap_1 w.params).In base) {a way : Q} {m : Nat} {r : Lau} (h1 : 2 ≤ m) (h2 : m ≤ 50) (h : cubeO a way m = some r) : Tells (cx w mean mg mb base) 14 (.ref 292) [cbT a, .int m, letD (0, [a, way])] (fun d => d = lD r) := by
  obtain ⟨ap, ha, h⟩ := Option.bind_eq_some_iff.mp h
  obtain ⟨x, hx, h⟩ := Option.bind_eq_some_iff.mp h
  obtain ⟨y, hy, h⟩ := Option.bind_eq_some_iff.mp h
  obtain ⟨z, hz, h⟩ := Option.bind_eq_some_iff.mp h
  have T := t_ap hB h1 h2 ha (mean := mean) (mg := mg) (mb := mb)
  have Tx := t_powd hB (k := 8) (d := 1) (Nat.le_refl _) (T.mono (by decide) fun _ h => h) hx
  have Ty := t_powd hB (k := 10) (d := 3) (by decide) Tx hy
  have Tz := t_powd hB (k := 8) (d := 1) (Nat.le_refl _) (T.mono (by decide) fun _ h => h) hz
  exact t_prod hB (k := 13) (by decide) (ts := [(powT (apT a) (numT (-1) 1), z), (powT (powT (apT a) (numT 3 1)) (numT 1 3), y)]) (by omega) h2 (t_two (fv := .none) (Tz.mono (by decide) fun _ h => h) (Ty.mono (by decide) fun _ h => h)) h

/-- what the law's calls of limit_near tell -/
theorem t_seen (hB : (hd.heap_1 w.params).In base) {a : Q} (hA : a ∈ As) {s : Int} (hs : s ∈ Ds) {m2 tw tp : Int} {bt : Nat} {b4 slope number : Int} {c : R} (h : seen s m2 tw tp bt b4 slope number = some c) :
    Tells (cx w mean mg mb base) 16 (.ref 313) [tmT a m2 tw tp bt b4 slope number, .str (Str.ofString "x"), qD a, .int s] (fun d => d = codeD c) := by
  obtain ⟨r, hr, h⟩ := Option.bind_eq_some_iff.mp h
  split at h
  · rename_i hl
    cases h
    rw [← fbC_D]
    have e : (if 0 < s then ((1 : Int), (1 : Int)) else (-1, 1)) = (s, 1) := by
      rcases List.mem_cons.mp hs with rfl | hs
      · rfl
      · rw [List.mem_singleton.mp hs]; rfl
    refine t_near1 hB (k := 15) (by decide) (by rcases List.mem_cons.mp hs with rfl | hs
                                                · decide
                                                · rw [List.mem_singleton.mp hs]; decide) hl ?_
    rw [e]
    refine t_laurent (k := 14) (fun m b hb hm1 hm2 => ?_) hr
    split at hb
    · rename_i hm
      refine t_term hB (by omega) (by omega) ?_ hb
      exact ap_is a hA m (by rcases hm with rfl | rfl <;> simp) s hs
    · cases hb
  · cases h
end

section
variable {w : World} {mean : ExcName → Option Value} {mg mb : Str → Option Value} {base : Heap}
theorem nsOk_of {K : Frag} {N : Addr} {oc : Value} {od : Option Addr} {es : Array DictEntry} {n : Nat} {sl : Array (Option Value)} (h : K.lookup N = some ⟨oc, od, .dict es n, sl⟩) (e : (es.all fun e => match e.key with | .str _ _ => true | _ => false) = true) : nsOkIn K N = true := by
  unfold nsOkIn
  rw [h]
  exact e
theorem kts_of {K : Frag} {C : Addr} {T : String} {nm qn : Str} {N : Addr} {bs bm : List Value} {hdct : Bool} {sn : List Str} {sub : List Value} {ab : Bool} {col : Option Bool} {dd : Option Addr} {k0 k1 k2 k3 k5 : Option Value} {newId : String}
    (h : K.lookup C = some (excClassObj nm qn C N bs bm hdct sn sub ab col dd k0 k1 k2 k3 k5 newId)) (e1 : bm.contains (.type "BaseException") = true) (e2 : bm.contains (.type T) = true) : ktsIn K C T = true := by
  unfold ktsIn
  rw [h]
  simp only [beq_self_eq_true, e1, e2, Bool.not_false, Bool.and_true]
theorem cas_cls (w : World) : ∃ nm qn bs sn sub ab col dd k0 k1 k2 k3 k5, List.lookup 31 (hd.heap_1 w.params) = some (excClassObj nm qn 31 30 bs excBm true sn sub ab col dd k0 k1 k2 k3 k5 "Exception.__new__") := by
  have h : ∃ o, List.lookup 31 (hd.heap_1 w.params) = some o ∧ ∃ nm qn bs sn sub ab col dd k0 k1 k2 k3 k5, o = excClassObj nm qn 31 30 bs excBm true sn sub ab col dd k0 k1 k2 k3 k5 "Exception.__new__" :=
    ⟨_, by k_is, _, _, _, _, _, _, _, _, _, _, _, _, _, rfl⟩
  obtain ⟨o, ho, nm, qn, bs, sn, sub, ab, col, dd, k0, k1, k2, k3, k5, rfl⟩ := h
  exact ⟨nm, qn, bs, sn, sub, ab, col, dd, k0, k1, k2, k3, k5, ho⟩
theorem cas_ok : CasK (cx w mean mg mb base) := by
  refine' ⟨?_, ?_, ?_, ?_, ?_, ?_, ?_, ?_, ?_, ?_, ?_, ?_, ?_, ?_⟩
  · exact cas_cls w
  · refine' nsOk_of ?h ?e
    case h => (show List.lookup 30 (hd.heap_1 w.params) = _; k_is)
    case e => kernel_rfl
  · (show nsIn (hd.heap_1 _) _ _ = _; k_is)
  · (show nsIn (hd.heap_1 _) _ _ = _; k_is)
  · (show nsIn (hd.heap_1 _) _ _ = _; k_is)
  · (show nsIn (hd.heap_1 _) _ _ = _; k_is)
  · (show nsIn (hd.heap_1 _) _ _ = _; k_is)
  · (show nsIn (hd.heap_1 _) _ _ = _; k_is)
  · have h : ∃ o, List.lookup 28 (hd.heap_1 w.params) = some o ∧ ∃ od dt sl, o = ⟨.type "function", od, dt, sl⟩ := ⟨_, by k_is, _, _, _, rfl⟩
    obtain ⟨o, ho, od, dt, sl, rfl⟩ := h
    exact ⟨_, ho, rfl⟩
  · (show nsIn (hd.heap_1 _) _ _ = _; k_is)
  · (show findCls (hd.heap_1 _) _ _ _ = _; k_is)
  · (show keepIn (hd.heap_1 _) _ = _; k_is)
  · (show nsIn (hd.heap_1 _) _ _ = _; k_is)
  · obtain ⟨nm, qn, bs, sn, sub, ab, col, dd, k0, k1, k2, k3, k5, ho⟩ := cas_cls w
    exact kts_of ho (by decide +kernel) (by decide +kernel)
theorem r_raise {A : Around} {fe env : Env} {g : Heap} {L : Addr} {O₀ : Led} {on : Str} {k : Nat} (hk : 2 ≤ k) {ρ : Rho} {os : Own} {kind text : Str} (hl1 : kind.length + (Str.ofString ": ").length ≤ sizeLine) (hl2 : (kind ++ Str.ofString ": ").length + text.length ≤ sizeLine)
    (hxf : env.kindOf ("CasFail" : Str) = some .globalImplicit) (hg : env.globals = mainGlobals) {p p1 p2 cpos pos : Pos} {j1 j2 : Nat} :
    RX { c := cx w mean mg mb base, A := A, fe := fe, env := env, h₀ := g, L := L, O₀ := O₀, on := on, k := k } (.Raise (some (.Call (.Name "CasFail" p) [.Constant (.str kind) j1 p1, .Constant (.str text) j2 p2] [] cpos)) none pos) ρ os kind := by
  refine' RX_raise cas_ok ?H hk ?hx ?he ?hs1 ?hs2 ?hsx ?hi hl1 hl2 hxf hg
  case H => k_caughtB
  case hx => rfl
  case he => exact fun _ => ⟨_, rfl⟩
  case hs1 => exact fun _ => rfl
  case hs2 => exact fun _ => rfl
  case hsx => exact fun _ => rfl
  case hi => exact fun _ => rfl
end

section
variable {w : World} {mean : ExcName → Option Value} {mg mb : Str → Option Value} {base : Heap}
theorem r_ofroot (hB : (hd.heap_1 w.params).In base) {a : Lau} {low : Int} {q : Q} {t : Ser} (hl : a.2.length ≤ 50) (ht : trim a.1 a.2 = (low, q :: t)) (hlow : low.natAbs < 1000) (hmod : (low * 1).fmod 3 = 0) (hq : q.1 ≤ 0) :
    Throws (cx w mean mg mb base) 5 (.ref 278) [lD a, qD (1, 3)] (Str.ofString "domain") := by
  have hm : IntMulOk low 1 := IntMulOk.of_left (intBits_le_64 (by omega) (by omega))
  have hlt := trim_len a.1 a.2
  rw [ht] at hlt
  refine' throws_def (names := ["told", "number"]) ?H rfl "" ?h
  case H => k_caughtB
  case h =>
    intro A g L O₀
    refine' RS_norm ?e (RS_skip ?_)
    case e => kd_subs
    repeat' k_caught0
    refine ⟨_, (t_ltrim hB hl).mono (Nat.le_of_ble_eq_true rfl) (fun _ h => h), ?_⟩
    rintro _ rfl
    rw [ht]
    refine ⟨_, _, rfl, ?_⟩
    refine ⟨rfl, ?_⟩
    refine' RS_norm ?e (RS_here (RX_if ?_))
    case e => kd_subs
    repeat' k_caught0
    refine ⟨_, t_len (by simp at hlt ⊢ <;> omega), ?_⟩
    rintro _ rfl
    repeat' k_caught0
    refine if_f (by simp <;> omega) ?_
    repeat' k_caught0
    refine ⟨_, o_mod (by decide), ?_⟩
    repeat' k_caught0
    refine if_f (fun e => e hmod) ?_
    repeat' k_caught0
    refine ⟨_, item_s (q := q) (by decide) (by decide) rfl, ?_⟩
    repeat' k_caught0
    refine if_t hq ?_
    repeat' k_caught0
    exact RS_here (r_raise (by decide) (by decide +kernel) (by decide +kernel) rfl rfl)
theorem r_ofpower (hB : (hd.heap_1 w.params).In base) {k : Nat} (hk : 5 ≤ k) {b : D} {a : Lau} {m : Int} {l : D} (T : Tells (cx w mean mg mb base) k (.ref 292) [b, .int m, l] (fun d => d = lD a))
    (R : Throws (cx w mean mg mb base) 5 (.ref 278) [lD a, qD (1, 3)] (Str.ofString "domain")) :
    Throws (cx w mean mg mb base) (k + 1) (.ref 285) [b, numT 1 3, .int m, l] (Str.ofString "domain") := by
  refine' throws_def (names := ["base", "exponent", "many", "letter"]) ?H rfl "" ?h
  case H => k_caughtB
  case h =>
    intro A g L O₀
    refine' RS_norm ?e (RS_skip ?_)
    case e => kd_subs
    repeat' k_caught0
    refine ⟨rfl, ?_⟩
    refine' RS_norm ?e (RS_skip ?_)
    case e => kd_subs
    repeat' k_caught0
    refine ⟨_, T.mono (Nat.le_refl _) (fun _ h => h), ?_⟩
    rintro _ rfl
    refine ⟨rfl, ?_⟩
    refine' RS_norm ?e (RS_skip ?_)
    case e => kd_subs
    repeat' k_caught0
    refine ⟨rfl, ?_⟩
    refine' RS_norm ?e (RS_here (RX_ret (RE_call ?hn ?hkeep rfl rfl rfl (by decide) ?_)))
    case e => kd_subs
    case hn => (show nsIn (hd.heap_1 _) _ _ = _; k_is)
    case hkeep => (show keepIn (hd.heap_1 _) _ = _; k_is)
    repeat' k_caught0
    exact R.mono hk
theorem r_pow {k : Nat} {b e : D} {m : Int} {l : D} {kind : Str} (R : Throws (cx w mean mg mb base) k (.ref 285) [b, e, .int m, l] kind) :
    Throws (cx w mean mg mb base) (k + 1) (.ref 292) [powT b e, .int m, l] kind := by
  refine' throws_def (names := ["t", "many", "letter"]) ?H rfl "" ?h
  case H => k_caughtB
  case h =>
    intro A g L O₀
    refine' RS_norm ?e (RS_skip ?_)
    case e => kd_subs
    repeat' k_caught0
    refine ⟨rfl, ?_⟩
    refine' RS_norm ?e (RS_skip ?_)
    case e => kd_subs
    repeat' k_caught0
    refine ⟨rfl, ?_⟩
    refine' RS_norm ?e (RS_here (RX_if ?_))
    case e => kd_subs
    repeat' k_caught0
    refine' RS_norm ?e (RS_here (RX_ret (RE_call ?hn ?hkeep rfl rfl rfl (by decide) ?_)))
    case e => kd_subs
    case hn => (show nsIn (hd.heap_1 _) _ _ = _; k_is)
    case hkeep => (show keepIn (hd.heap_1 _) _ = _; k_is)
    repeat' k_caught0
    exact R
theorem r_prod (hB : (hd.heap_1 w.params).In base) {k : Nat} (hk : 6 ≤ k) {x y : D} {z f : Lau} {m : Nat} (h1 : 1 ≤ m) (h2 : m ≤ 50) {l : D} {kind : Str} (T : Tells (cx w mean mg mb base) k (.ref 292) [x, .int m, l] (fun d => d = lD z))
    (hz : lmulO (lplainO (1, 1) m) z = some f) (R : Throws (cx w mean mg mb base) k (.ref 292) [y, .int m, l] kind) : Throws (cx w mean mg mb base) (k + 1) (.ref 292) [prodT [x, y], .int m, l] kind := by
  refine' throws_def (names := ["t", "many", "letter"]) ?H rfl "" ?h
  case H => k_caughtB
  case h =>
    intro A g L O₀
    refine' RS_norm ?e (RS_skip ?_)
    case e => kd_subs
    repeat' k_caught0
    refine ⟨rfl, ?_⟩
    refine' RS_norm ?e (RS_skip ?_)
    case e => kd_subs
    repeat' k_caught0
    refine ⟨rfl, ?_⟩
    refine' RS_norm ?e (RS_skip ?_)
    case e => kd_subs
    repeat' k_caught0
    refine ⟨rfl, ?_⟩
    refine' RS_norm ?e (RS_skip ?_)
    case e => kd_subs
    repeat' k_caught0
    refine ⟨rfl, ?_⟩
    refine' RS_norm ?e (RS_skip ?_)
    case e => kd_subs
    repeat' k_caught0
    refine ⟨_, o_notin (ys := [Str.ofString "sum", Str.ofString "prod"]), ?_⟩
    refine if_bf (by decide +kernel) ?_
    repeat' k_caught0
    refine ⟨rfl, ?_⟩
    refine' RS_norm ?e (RS_skip ?_)
    case e => kd_subs
    repeat' k_caught0
    refine ⟨_, (t_lplain hB (q := (1, 1)) h1 h2).mono (Nat.le_trans (Nat.le_of_ble_eq_true rfl) hk) (fun _ h => h), ?_⟩
    rintro _ rfl
    refine ⟨rfl, ?_⟩
    refine' RS_norm ?e (RS_here (RX_forTup rfl rfl ?_))
    case e => kd_subs
    repeat' k_caught0
    refine ⟨_, fun i ρ os => os = none ∧ ρ.lookup (Str.ofString "t") = some (prodT [x, y]) ∧ ρ.lookup (Str.ofString "many") = some (.int m) ∧ ρ.lookup (Str.ofString "letter") = some l ∧ (i = 0 ∧ ρ.lookup (Str.ofString "found") = some (lD (lplainO (1, 1) m)) ∨ i = 1), rfl, ⟨rfl, rfl, rfl, rfl, .inl ⟨rfl, rfl⟩⟩, ?_, ?_⟩
    · rintro O₁ i ρ os e he ⟨rfl, hT, hM, hL, hi⟩
      rcases hi with ⟨rfl, hF⟩ | rfl
      · have he' : x = e := by simpa using he
        subst he'
        refine .inl ?_
        repeat' k_caught0
        refine ⟨_, T.mono (Nat.le_refl _) (fun _ h => h), ?_⟩
        rintro _ rfl
        repeat' k_caught0
        refine ⟨_, (t_lmul hB hz).mono hk (fun _ h => h), ?_⟩
        rintro _ rfl
        repeat' k_caught0
        exact ⟨rfl, rfl, by ke_read, by ke_read, by ke_read, .inr rfl⟩
      · have he' : y = e := by simpa using he
        subst he'
        refine' .inr (RS_here (RX_assign (RE_call ?hn ?hkeep rfl rfl rfl (by decide) ?_)))
        case hn => (show nsIn (hd.heap_1 _) _ _ = _; k_is)
        case hkeep => (show keepIn (hd.heap_1 _) _ = _; k_is)
        repeat' k_caught0
        exact R
    · rintro ρ os ⟨_, _, _, _, hi⟩
      rcases hi with ⟨hi, _⟩ | hi
      · cases hi
      · cases hi
end

/-- from below the cube begins with a number below 0 -/
theorem below_is : ∃ c z f low q t, powerO (ap0 (-1) 5) 3 1 = some c ∧ powerO (ap0 (-1) 5) (-1) 1 = some z ∧ lmulO (lplainO (1, 1) 5) z = some f ∧ c.2.length ≤ 50 ∧ trim c.1 c.2 = (low, q :: t) ∧ low.natAbs < 1000 ∧ (low * 1).fmod 3 = 0 ∧ q.1 ≤ 0 := by
  have h1 : (powerO (ap0 (-1) 5) 3 1).isSome = true ∧ ((powerO (ap0 (-1) 5) (-1) 1).bind fun z => lmulO (lplainO (1, 1) 5) z).isSome = true := by decide +kernel
  have h2 : ((powerO (ap0 (-1) 5) 3 1).any fun c => decide (c.2.length ≤ 50) && (match (trim c.1 c.2).2 with | [] => false | q :: _ => decide ((trim c.1 c.2).1.natAbs < 1000) && decide (((trim c.1 c.2).1 * 1).fmod 3 = 0) && decide (q.1 ≤ 0))) = true := by decide +kernel
  obtain ⟨c, hc⟩ := Option.isSome_iff_exists.mp h1.1
  obtain ⟨f, hf⟩ := Option.isSome_iff_exists.mp h1.2
  obtain ⟨z, hz, hf⟩ := Option.bind_eq_some_iff.mp hf
  rw [hc] at h2
  simp only [Option.any_some, Bool.and_eq_true, decide_eq_true_eq] at h2
  obtain ⟨hl, h2⟩ := h2
  cases ht : (trim c.1 c.2).2 with
  | nil => rw [ht] at h2; cases h2
  | cons q t =>
    rw [ht] at h2
    simp only [Bool.and_eq_true, decide_eq_true_eq] at h2
    exact ⟨c, z, f, (trim c.1 c.2).1, q, t, hc, hz, hf, hl, by rw [← ht], h2.1.1, h2.1.2, h2.2⟩
section
variable {w : World} {mean : ExcName → Option Value} {mg mb : Str → Option Value} {base : Heap}
theorem r_cube (hB : (hd.heap_1 w.params).In base) {a : Q} (hA : a ∈ As) : Throws (cx w mean mg mb base) 13 (.ref 292) [cbT a, .int 5, letD (0, [a, (-1, 1)])] (Str.ofString "domain") := by
  obtain ⟨c, z, f, low, q, t, hc, hz, hf, hl, ht, hlow, hmod, hq⟩ := below_is
  have ha : apO a (-1, 1) 5 = some (ap0 (-1) 5) := ap_is a hA 5 (by simp) (-1) (by simp)
  have T := t_ap hB (by decide) (by decide) ha (mean := mean) (mg := mg) (mb := mb)
  have T3 := t_powd hB (k := 8) (d := 1) (Nat.le_refl _) (T.mono (by decide) fun _ h => h) hc
  have Tz := t_powd hB (k := 8) (d := 1) (Nat.le_refl _) (T.mono (by decide) fun _ h => h) hz
  have R := r_pow (r_ofpower hB (k := 10) (by decide) T3 (r_ofroot hB hl ht hlow hmod hq))
  exact r_prod hB (k := 12) (by decide) (m := 5) (by decide) (by decide) (Tz.mono (by decide) fun _ h => h) hf R
theorem r_laurent (hB : (hd.heap_1 w.params).In base) {k : Nat} {t l : D} (R : Throws (cx w mean mg mb base) k (.ref 292) [t, .int 5, l] (Str.ofString "domain")) :
    Throws (cx w mean mg mb base) (k + 1) (.ref 299) [t, l, .int 3] (Str.ofString "domain") := by
  refine' throws_def (names := ["t", "letter", "end"]) ?H rfl "" ?h
  case H => k_caughtB
  case h =>
    intro A g L O₀
    refine' RS_norm ?e (RS_skip ?_)
    case e => kd_subs
    repeat' k_caught0
    refine ⟨rfl, ?_⟩
    refine' RS_norm ?e (RS_here (RX_while ?_))
    case e => kd_subs
    repeat' k_caught0
    refine ⟨by decide, ?_⟩
    refine RS_here (RX_tryAgain cas_ok hB ?_ (by decide +kernel) rfl rfl rfl)
    refine' RS_here (RX_assign (RE_call ?hn ?hkeep rfl rfl rfl (by decide) ?_))
    case hn => (show nsIn (hd.heap_1 _) _ _ = _; k_is)
    case hkeep => (show keepIn (hd.heap_1 _) _ = _; k_is)
    repeat' k_caught0
    exact R
theorem r_near (hB : (hd.heap_1 w.params).In base) {k : Nat} {t : D} {a : Q} (R : Throws (cx w mean mg mb base) k (.ref 299) [t, letD (0, [a, (-1, 1)]), .int 3] (Str.ofString "domain")) :
    Throws (cx w mean mg mb base) (k + 1) (.ref 313) [t, .str (Str.ofString "x"), qD a, .int (-1)] (Str.ofString "domain") := by
  refine' throws_def (names := ["t", "name", "at", "side"]) ?H rfl "" ?h
  case H => k_caughtB
  case h =>
    intro A g L O₀
    refine' RS_norm ?e (RS_here (RX_if ?_))
    case e => kd_subs
    repeat' k_caught0
    refine if_t (by decide) ?_
    refine' RS_norm ?e (RS_skip ?_)
    case e => kd_subs
    repeat' k_caught0
    refine if_f (by decide) ?_
    repeat' k_caught0
    refine ⟨rfl, ?_⟩
    refine' RS_norm ?e (RS_here (RX_ret (RE_callArg ?hn ?hkeep rfl rfl rfl (by decide) (RE_call ?hn2 ?hkeep2 rfl rfl rfl (by decide) ?_))))
    case e => kd_subs
    case hn => (show nsIn (hd.heap_1 _) _ _ = _; k_is)
    case hkeep => (show keepIn (hd.heap_1 _) _ = _; k_is)
    case hn2 => (show nsIn (hd.heap_1 _) _ _ = _; k_is)
    case hkeep2 => (show keepIn (hd.heap_1 _) _ = _; k_is)
    repeat' k_caught0
    exact R
theorem t_down (hB : (hd.heap_1 w.params).In base) {a : Q} (hA : a ∈ As) : Tells1 (cx w mean mg mb base) 25 (.ref 328) [cbT a, qD a, .int (-1)] (fun d => d = .str (Str.ofString "domain")) := by
  refine (show Tells1 (cx w mean mg mb base) (15 + 1) (.ref 328) [cbT a, qD a, .int (-1)] (fun d => d = .str (Str.ofString "domain")) from ?_).mono (by decide)
  refine' told1 (names := ["term", "at", "side"]) cas_ok hB ?H rfl "" ?hn ?hxf ?h
  case H => k_caughtB
  case hn => rfl
  case hxf => rfl
  case h =>
    intro A g L O₀
    refine' RS_norm ?e (RS_here (RX_ret (RE_call ?hn ?hkeep rfl rfl rfl (by decide) ?_)))
    case e => kd_subs
    case hn => (show nsIn (hd.heap_1 _) _ _ = _; k_is)
    case hkeep => (show keepIn (hd.heap_1 _) _ = _; k_is)
    repeat' k_caught0
    exact r_near hB (r_laurent hB (r_cube hB hA))
end

theorem pick {α : Type} (f : α → D) (l : List α) {n : Nat} (h : n < l.length) (hl : l.length ≤ 100) : ∃ x, x ∈ l ∧ ItemOf (.lst (l.map f)) (.int n) (f x) :=
  ⟨l[n], List.getElem_mem h, _, n, .inr rfl, rfl, by omega, by omega, by
    have e : ((n : Int)).toNat = n := by omega
    rw [e, List.getElem?_map, List.getElem?_eq_getElem h]; rfl⟩
def tD (t : Int × Int × Nat) : D := .tup [.int t.1, .int t.2.1, .int t.2.2]
theorem Ts_facts : ∀ t ∈ Ts, t.1.natAbs < 1000 ∧ t.2.1.natAbs < 1000 ∧ t.2.2 ≠ 0 ∧ t.2.2 < 100 ∧ (4 * (if t.2.1 < 0 then -t.2.1 else t.2.1)).fdiv t.2.2 = (expof t.2.1 t.2.2 : Int) ∧ expof t.2.1 t.2.2 < 100 := by decide
theorem Ns_facts : ∀ k ∈ Ns, k.natAbs < 1000 := by decide
theorem powO_small (n e : Nat) (h : n < 2) (he : e < 100) : powO (1 + (n : Int)) e = some ((1 + (n : Int)) ^ e) := by unfold powO; rw [if_pos ⟨by omega, he⟩]
theorem o_neC {c : R} : Op2 (.cmp .NotEq) (codeD c) (codeD c) (.bool false) := by
  unfold codeD
  split
  · have h := @o_nep c.1.1 c.1.2 c.1.1 c.1.2
    have e : decide (¬(c.1.1 = c.1.1 ∧ c.1.2 = c.1.2)) = false := decide_eq_false (fun h => h ⟨rfl, rfl⟩)
    rw [e] at h
    exact h
  · have h := @o_nes (if (decide (0 < c.2)) = true then Str.ofString "inf" else Str.ofString "-inf") (if (decide (0 < c.2)) = true then Str.ofString "inf" else Str.ofString "-inf")
    have e : ∀ x : Str, decide (x ≠ x) = false := fun x => decide_eq_false (fun h => h rfl)
    rw [e] at h
    exact h
theorem o_neN : Op2 (.cmp .NotEq) D.none D.none (.bool false) := o_neD (x := .none) (y := .none) rfl rfl
theorem o_eqDue (v v' : Q) (gap : Int) : ∃ e : Bool, Op2 (.cmp .Eq) (codeD (dueC v gap)) (codeD (dueC v' gap)) (.bool e) := by
  unfold dueC
  by_cases h1 : 0 < gap
  · rw [if_pos h1, if_pos h1]; exact ⟨_, o_eqp⟩
  · rw [if_neg h1, if_neg h1]
    by_cases h2 : gap = 0
    · rw [if_pos h2, if_pos h2]; exact ⟨_, o_eqp⟩
    · rw [if_neg h2, if_neg h2]
      by_cases h3 : 0 < v.1 <;> by_cases h4 : 0 < v'.1
      · rw [if_pos h3, if_pos h4]; exact ⟨_, o_eqs⟩
      · rw [if_pos h3, if_neg h4]; exact ⟨_, o_eqs⟩
      · rw [if_neg h3, if_pos h4]; exact ⟨_, o_eqs⟩
      · rw [if_neg h3, if_neg h4]; exact ⟨_, o_eqs⟩
theorem cube_is : ∀ a ∈ As, ((lauO (fun m => if m = 5 ∨ m = 7 then cubeO a (1, 1) m else none) 3 2).bind fun r => if r.2.length ≤ 50 then some (fbC r) else none) = some ((1, 1), 0) := by decide +kernel
theorem if_joinB {c : Bool} {φ : Fx} {a b : Expr} {ρ : Rho} {os : Own} {Q : D → Own → Prop} (d1 d2 : D) (h1 : JE φ a ρ os (fun d o => d = d1 ∧ o = os)) (h2 : JE φ b ρ os (fun d o => d = d2 ∧ o = os))
    (h : ∀ d, d = (if c = true then d1 else d2) → Q d os) : if c = true then JE φ a ρ os Q else JE φ b ρ os Q := by
  cases c with
  | true => exact h1.mono fun d o ⟨e1, e2⟩ => by subst e2; exact h d e1
  | false => exact h2.mono fun d o ⟨e1, e2⟩ => by subst e2; exact h d e1
theorem o_neE {c : R} {e : Bool} : Op2 (.cmp .NotEq) (if e = true then codeD c else .none) (if e = true then codeD c else .none) (.bool false) := by
  cases e
  · exact o_neN
  · exact o_neC
section
variable {w : World} {mean : ExcName → Option Value} {mg mb : Str → Option Value} {base : Heap}
theorem t_cube1 (hB : (hd.heap_1 w.params).In base) {a : Q} (hA : a ∈ As) : Tells (cx w mean mg mb base) 16 (.ref 313) [cbT a, .str (Str.ofString "x"), qD a, .int 1] (fun d => d = qD (1, 1)) := by
  have h := cube_is a hA
  obtain ⟨r, hr, h⟩ := Option.bind_eq_some_iff.mp h
  split at h
  · rename_i hl
    have e : fbO r = qD (1, 1) := by rw [fbC_D, Option.some.inj h]; rfl
    rw [← e]
    refine t_near1 hB (k := 15) (by decide) (by decide) hl ?_
    refine t_laurent (k := 14) (fun m b hb hm1 hm2 => ?_) hr
    split at hb
    · exact t_cubeP hB (by omega) (by omega) hb
    · cases hb
  · cases h
end
theorem holds_of (dom : ∀ (w : World) (mean : ExcName → Option Value) (mg mb : Str → Option Value) (base : Heap), (hd.heap_1 w.params).In base → ∀ a ∈ As, Tells1 (cx w mean mg mb base) 25 (.ref 328) [cbT a, qD a, .int (-1)] (fun d => d = .str (Str.ofString "domain"))) : PySem.Challenge.rw_pq0194_01.Holds := by
  apply hd
  k_go0
  dsimp only
  rename (Frag.In _ _) => hB
  rename (Top _ _ _ _ _ _) => T0
  rename (Below _ _ _ _) => K0
  rename (Fr _ _ _ _) => F0
  rename (News _ _ _ _) => N0
  rename (Well _ _ _ _) => W0
  rename (IntsAre _ _) => I0
  rename (List Int) => xs
  rename World => w
  rename Shared => s1
  have hx : xs.length ≤ 63 := by omega
  refine' top_entry (xs := xs) hB T0 K0 F0 N0 W0 rfl rfl rfl (by decide) ?J ?Q
  case Q =>
    intro h' tk' m' F'
    exact goodW_bool F' (by assumption) (raisesW_false (by wrow_none_raised)) (by wrow_post) rfl
  case J =>
    intro hO
    repeat' k_caught0
    refine ⟨_, 12, rfl, rfl, by decide, by simp <;> omega, ?_⟩
    repeat' k_caught0
    have ei : (12 : Int).toNat = 12 := rfl
    rw [ei, ← List.map_take]
    have hy : (xs.take 12).length ≤ 12 := List.length_take_le 12 xs
    generalize xs.take 12 = ys at hy
    refine ⟨_, t_list (by simp <;> omega), ?_⟩
    rintro _ rfl
    repeat' k_caught0
    refine ⟨_, rfl, _, (t_take (xs := ys) (k := 0) (m := 4) hy (by decide) (by decide)).mono (Nat.le_of_ble_eq_true rfl) (fun _ _ h => h), ?_⟩
    rintro _ _ ⟨⟨n1, hn1, rfl⟩, rfl⟩
    repeat' k_caught0
    obtain ⟨a, hA, hit⟩ := pick qD As hn1 (by decide)
    refine ⟨_, hit, ?_⟩
    clear hit
    repeat' k_caught0
    refine ⟨_, rfl, _, (t_take (xs := ys) (k := 1) (m := 4) hy (by decide) (by decide)).mono (Nat.le_of_ble_eq_true rfl) (fun _ _ h => h), ?_⟩
    rintro _ _ ⟨⟨n2, hn2, rfl⟩, rfl⟩
    obtain ⟨mm, hM, hit⟩ := pick D.int Ms hn2 (by decide)
    refine ⟨_, hit, ?_⟩
    clear hit
    repeat' k_caught0
    refine ⟨_, rfl, _, (t_take (xs := ys) (k := 2) (m := 5) hy (by decide) (by decide)).mono (Nat.le_of_ble_eq_true rfl) (fun _ _ h => h), ?_⟩
    rintro _ _ ⟨⟨n3, hn3, rfl⟩, rfl⟩
    obtain ⟨t, hT, hit⟩ := pick tD Ts hn3 (by decide)
    refine ⟨_, hit, ?_⟩
    clear hit
    refine ⟨_, _, _, rfl, ?_⟩
    obtain ⟨tb1, tb2, tb3, tb4, tb5, tb6⟩ := Ts_facts t hT
    obtain ⟨tw, tp, bt⟩ := t
    simp only at tb1 tb2 tb3 tb4 tb5 tb6
    repeat' k_caught0
    refine if_join (.int (mm - 2)) (.int mm) ?_ ?_ ?_
    · repeat' k_caught0
      exact ⟨rfl, rfl⟩
    · repeat' k_caught0
      exact ⟨rfl, rfl⟩
    rintro _ rfl
    have em : (if tp = 3 then D.int (mm - 2) else D.int mm) = D.int (m2of mm tp) := by unfold m2of; split <;> rfl
    rw [em]
    repeat' k_caught0
    refine ⟨_, rfl, _, (t_take (xs := ys) (k := 3) (m := 2) hy (by decide) (by decide)).mono (Nat.le_of_ble_eq_true rfl) (fun _ _ h => h), ?_⟩
    rintro _ _ ⟨⟨n, hn, rfl⟩, rfl⟩
    repeat' k_caught0
    refine ⟨_, rfl, _, (t_take (xs := ys) (k := 4) (m := 3) hy (by decide) (by decide)).mono (Nat.le_of_ble_eq_true rfl) (fun _ _ h => h), ?_⟩
    rintro _ _ ⟨⟨n5, hn5, rfl⟩, rfl⟩
    obtain ⟨slope, hS, hit⟩ := pick D.int Ss hn5 (by decide)
    refine ⟨_, hit, ?_⟩
    clear hit
    repeat' k_caught0
    refine ⟨_, rfl, _, (t_take (xs := ys) (k := 5) (m := 2) hy (by decide) (by decide)).mono (Nat.le_of_ble_eq_true rfl) (fun _ _ h => h), ?_⟩
    rintro _ _ ⟨⟨n6, hn6, rfl⟩, rfl⟩
    obtain ⟨number, hN, hit⟩ := pick D.int Ns hn6 (by decide)
    refine ⟨_, hit, ?_⟩
    clear hit
    repeat' k_caught0
    refine ⟨_, rfl, _, (t_take (xs := ys) (k := 6) (m := 2) hy (by decide) (by decide)).mono (Nat.le_of_ble_eq_true rfl) (fun _ _ h => h), ?_⟩
    rintro _ _ ⟨⟨n7, hn7, rfl⟩, rfl⟩
    obtain ⟨s, hD, hit⟩ := pick D.int Ds hn7 (by decide)
    refine ⟨_, hit, ?_⟩
    clear hit
    repeat' k_caught0
    refine ⟨_, o_powO (powO_small n 4 hn (by decide)), ?_⟩
    repeat' k_caught0
    have hm1 : IntMulOk tw tp := IntMulOk.of_left (intBits_le_64 (by omega) (by omega))
    repeat' k_caught0
    refine ⟨_, o_fdiv (by omega) (noPsmall tb4 _), ?_⟩
    repeat' k_caught0
    have hm2 : IntMulOk 4 (if tp < 0 then -tp else tp) := IntMulOk.of_left (by decide)
    repeat' k_caught0
    refine ⟨_, o_fdiv (by omega) (noPsmall tb4 _), ?_⟩
    rw [tb5]
    refine ⟨_, o_powO (powO_small n (expof tp bt) hn tb6), ?_⟩
    repeat' k_caught0
    have hok := ok_all mm hM (tw, tp, bt) hT n (by have : n = 0 ∨ n = 1 := by omega
                                                   rcases this with rfl | rfl <;> simp) slope hS number hN
    unfold okCase at hok
    simp only [Bool.and_eq_true, beq_iff_eq] at hok
    obtain ⟨ok1, ok2⟩ := hok
    have hnum := Ns_facts number hN
    have hm3 : IntMulOk number ((1 + (n : Int)) ^ expof tp bt) := IntMulOk.of_left (intBits_le_64 (by omega) (by omega))
    refine if_join (qD (number * (1 + (n : Int)) ^ expof tp bt, 1)) (qD (number, (1 + (n : Int)) ^ expof tp bt)) ?_ ?_ ?_
    · repeat' k_caught0
      exact ⟨rfl, rfl⟩
    · repeat' k_caught0
      exact ⟨rfl, rfl⟩
    rintro _ rfl
    have ev : (if 0 < tp then qD (number * (1 + (n : Int)) ^ expof tp bt, 1) else qD (number, (1 + (n : Int)) ^ expof tp bt)) = qD (valof number tp ((1 + (n : Int)) ^ expof tp bt)) := by unfold valof; split <;> rfl
    rw [ev]
    have eg : m2of mm tp + (tw * tp).fdiv bt = gapof (m2of mm tp) tw tp bt := rfl
    rw [eg]
    generalize hv : valof number tp ((1 + (n : Int)) ^ expof tp bt) = v at ok1 ok2
    generalize hgap : gapof (m2of mm tp) tw tp bt = gap at ok1 ok2
    generalize hm2' : m2of mm tp = m2 at ok1 ok2
    repeat' k_caught0
    refine ⟨_, o_mod (by decide), ?_⟩
    repeat' k_caught0
    refine if_join (.int v.1) (.int (0 - v.1)) ?_ ?_ ?_
    · repeat' k_caught0
      exact ⟨rfl, rfl⟩
    · repeat' k_caught0
      exact ⟨rfl, rfl⟩
    rintro _ rfl
    have et : (if m2.fmod 2 = 0 then D.int v.1 else D.int (0 - v.1)) = .int (turnof m2 v).1 := by unfold turnof; split <;> rfl
    rw [et]
    repeat' k_caught0
    refine ⟨_, (t_due (v := v) (gap := gap)).mono (Nat.le_of_ble_eq_true rfl) (fun _ h => h), ?_⟩
    rintro _ rfl
    rw [dueC_D]
    repeat' k_caught0
    refine ⟨_, (t_due (v := turnof m2 v) (gap := gap)).mono (Nat.le_of_ble_eq_true rfl) (fun _ h => h), ?_⟩
    rintro _ rfl
    rw [dueC_D]
    have T1 := fun mean mg mb => t_seen (mean := mean) (mg := mg) (mb := mb) hB hA (s := 1) (by decide) ok1
    have T2 := fun mean mg mb => t_seen (mean := mean) (mg := mg) (mb := mb) hB hA (s := -1) (by decide) ok2
    obtain ⟨e, he⟩ := o_eqDue v (turnof m2 v) gap
    generalize dueC v gap = c1 at T1 he
    generalize dueC (turnof m2 v) gap = c2 at T2 he
    have T0 := fun mean mg mb => t_near0 (T1 mean mg mb) (T2 mean mg mb) he rfl
    have Ts' : ∀ mean mg mb, Tells (cx w mean mg mb s1.heap) 17 (.ref 328) [tmT a m2 tw tp bt ((1 + (n : Int)) ^ 4) slope number, qD a, .int s] (fun d => d = codeD (if s = 1 then c1 else c2)) := by
      intro mean mg mb
      rcases List.mem_cons.mp hD with rfl | hD'
      · rw [if_pos rfl]; exact t_told (T1 mean mg mb)
      · have := List.mem_singleton.mp hD'
        subst this
        rw [if_neg (by decide)]; exact t_told (T2 mean mg mb)
    repeat' k_caught0
    refine ⟨_, (Ts' _ _ _).mono (Nat.le_of_ble_eq_true rfl) (fun _ h => h), ?_⟩
    rintro _ rfl
    repeat' k_caught0
    refine if_join (codeD c1) (codeD c2) ?_ ?_ ?_
    · repeat' k_caught0
      exact ⟨rfl, rfl⟩
    · repeat' k_caught0
      exact ⟨rfl, rfl⟩
    rintro _ rfl
    have ec : (if s = 1 then codeD c1 else codeD c2) = codeD (if s = 1 then c1 else c2) := by split <;> rfl
    rw [ec]
    refine ⟨_, o_neC, ?_⟩
    repeat' k_caught0
    refine ⟨_, (t_told (T0 _ _ _)).mono (Nat.le_of_ble_eq_true rfl) (fun _ h => h), ?_⟩
    rintro _ rfl
    repeat' k_caught0
    refine ⟨_, he, ?_⟩
    refine if_joinB (codeD c1) .none ?_ ?_ ?_
    · repeat' k_caught0
      exact ⟨rfl, rfl⟩
    · repeat' k_caught0
      exact ⟨rfl, rfl⟩
    rintro _ rfl
    refine ⟨_, o_neE, ?_⟩
    repeat' k_caught0
    rcases List.mem_cons.mp hD with rfl | hD'
    · refine ⟨_, (t_told (t_cube1 hB hA)).one (Nat.le_of_ble_eq_true rfl), ?_⟩
      rintro _ rfl
      repeat' k_caught0
      refine ⟨_, o_eqp, ?_⟩
      exact ⟨_, by rw [decide_eq_true ⟨rfl, rfl⟩], rfl⟩
    · have := List.mem_singleton.mp hD'
      subst this
      refine ⟨_, (dom _ _ _ _ _ hB a hA).mono (Nat.le_of_ble_eq_true rfl), ?_⟩
      rintro _ rfl
      repeat' k_caught0
      refine' if_f ?c ?_
      case c => decide
      repeat' k_caught0
      exact ⟨_, by rw [decide_eq_true rfl], rfl⟩

end
end Mine

theorem PySem.Challenge.cw_pq0194_01_holds : PySem.Challenge.rw_pq0194_01.Holds :=
  Mine.holds_of fun _ _ _ _ _ hB _ hA => Mine.t_down hB hA
