import PyProof.Rows.All
import Wide.All
import Open.Line
import OpenK.KWalk
import PyProof.ExcBaseAll.Exception
import PySem.Challenge.RW_nn0028_01
set_option Elab.async false
set_option maxRecDepth 100000
set_option genSizeOf false
set_option genInjectivity false
set_option linter.unusedSimpArgs false
set_option linter.unusedVariables false
namespace Mine
section
open PySem PySem.W PyProof.Rows

/-- the pure values -/
inductive V where
  | int (i : Int)
  | bool (b : Bool)
  | str (s : Str)
  | list (xs : List Int)
  | pair (p q : V)
  | fn (x : Str)
  | box
  | rng (a b c : Int)
  | told (h n l : Int)

noncomputable abbrev FH := Addr → Option Obj
noncomputable abbrev Bx := Int × Int

noncomputable def isFn (x : Str) : Bool := (recsOf PySem.Challenge.pw_nn0028_01).any fun d => d.name == x

/-- the world at the call: the part of the heap that the top left, and what it says -/
structure Wd where
  prog : Program
  w : World
  H : Heap
  mg : Str → Option Value
  mb : Str → Option Value
  g : H.Ns mainGlobals mg
  b : H.Ns builtinsNs mb
  nolimit : H.NoLimit
  fn : ∀ d ∈ recsOf PySem.Challenge.pw_nn0028_01, ∃ a o pm code doc, mg d.name = some (.ref a) ∧ H.get? a = some o ∧ o.data = .func (Calls.docDef d.name d.params d.body d.scope pm code doc) ∧ H.CodeRec code d.name
  bi : ∀ x v, bootBuiltins x = some v → x ≠ "__name__" → mg x = none → mb x = some v
  nob : mg "len" = none ∧ mg "range" = none ∧ mg "min" = none ∧ mg "max" = none ∧ mg "abs" = none ∧ mg "repr" = none ∧ mg "isinstance" = none ∧ mg "list" = none ∧ mg "bool" = none ∧ mg "int" = none
  few : ∃ t, mg "FEW_LIMBS" = some (.int 3 t)
  told : Value → Int → Int → Int → FH → Prop
  told_mono : ∀ v h n l g g', (∀ a o, g a = some o → g' a = some o) → told v h n l g → told v h n l g'
  told_attr : ∀ {v : Value} {h n l : Int} {g : FH} {s : Shared} {A : Around} {Ex : Value → Shared → Prop} {Q : Value → Shared → Prop} (x : Str), told v h n l g → (∀ a o, g a = some o → s.heap.get? a = some o) → (∀ a o, H.get? a = some o → g a = some o) →
    (x = "halves" ∨ x = "newton" ∨ x = "least" ∨ x = "mul" ∨ x = "base") →
    (x = "halves" → ∀ t, Q (.int h t) { s with toks := s.toks + 1 }) → (x = "newton" → ∀ t, Q (.int n t) { s with toks := s.toks + 1 }) → (x = "least" → ∀ t, Q (.int l t) { s with toks := s.toks + 1 }) →
    (x = "mul" → ∀ a, mg "_law_times" = some (.ref a) → Q (.ref a) { s with toks := s.toks + 1 }) → (x = "base" → ∀ a, mg "_law_parts" = some (.ref a) → Q (.ref a) { s with toks := s.toks + 1 }) →
    wpAny (model prog w) A (getAttr v x true) Q Ex s
  dv : Addr
  dv_mg : mg "Dividing" = some (.ref dv)
  told_make : ∀ {h n l : Int} {t1 t2 t3 : Tok} {am ab : Addr} {s : Shared} {A : Around} {Ex : Value → Shared → Prop} {Q : Value → Shared → Prop}, (∀ a o, H.get? a = some o → s.heap.get? a = some o) →
    mg "_law_times" = some (.ref am) → mg "_law_parts" = some (.ref ab) → A.depth + 2 ≤ recursionLimit →
    (∀ h' tk x dx ox od, (∀ a o, s.heap.get? a = some o → h'.get? a = some o) → x ≠ dx → s.heap.get? x = none → s.heap.get? dx = none → h'.get? x = some ox → h'.get? dx = some od →
      (∀ g : FH, g x = some ox → g dx = some od → told (.ref x) h n l g) → Q (.ref x) { s with heap := h', toks := tk }) →
    wpAny (model prog w) A (PySem.call (.ref dv) [.int h t1, .int n t2, .int l t3, .ref am, .ref ab]) Q Ex s
  dv_keep : ∀ h : Heap, (∀ a o, H.get? a = some o → h.get? a = some o) → ∃ k, (k = Keeper.frame ∨ k = Keeper.machine ∨ k = Keeper.boundFrame) ∧ Looks (model prog w) h (keeperOf (.ref dv)) k

noncomputable abbrev Wd.M (W : Wd) : Model := model W.prog W.w

noncomputable def LsAt (g : FH) (a : Addr) (xs : List Int) : Prop :=
  ∃ o vs n, g a = some o ∧ o.cls = .type "list" ∧ o.data = .seq (vs : List Value).toArray n ∧ IntsAre vs xs ∧ xs.length ≤ sizeLine

noncomputable def Rep (W : Wd) (g : FH) (β : Option Addr) : Value → V → Prop
  | v, .int i => ∃ t, v = .int i t
  | v, .bool b => v = .bool b
  | v, .str x => ∃ t, v = .str x t
  | v, .list xs => ∃ a, v = .ref a ∧ LsAt g a xs
  | v, .pair p q => ∃ a o x y n, v = .ref a ∧ g a = some o ∧ o.cls = .type "tuple" ∧ o.data = .seq #[x, y] n ∧ Rep W g β x p ∧ Rep W g β y q
  | v, .fn x => ∃ a, v = .ref a ∧ W.mg x = some (.ref a) ∧ isFn x = true
  | v, .box => ∃ b, β = some b ∧ v = .ref b
  | v, .rng a b c => ∃ r t u x, v = .ref r ∧ g r = some { cls := .type "range", dict := none, data := .fields #[.int a t, .int b u, .int c x], slots := #[] }
  | v, .told h n l => W.told v h n l g

noncomputable def Reps (W : Wd) (g : FH) (β : Option Addr) : List Value → List V → Prop
  | [], [] => True
  | v :: vs, x :: xs => Rep W g β v x ∧ Reps W g β vs xs
  | _, _ => False

noncomputable def Sub (g g' : FH) : Prop := ∀ a o, g a = some o → g' a = some o
noncomputable def Base (W : Wd) (g : FH) : Prop := ∀ a o, W.H.get? a = some o → g a = some o
noncomputable def In (g : FH) (h : Heap) : Prop := ∀ a o, g a = some o → h.get? a = some o

theorem LsAt.mono {g g' : FH} (k : Sub g g') {a xs} (h : LsAt g a xs) : LsAt g' a xs := by
  obtain ⟨o, vs, n, h1, h2⟩ := h
  exact ⟨o, vs, n, k _ _ h1, h2⟩

theorem Rep.mono {W : Wd} {g g' : FH} {β} (k : Sub g g') : ∀ {x : V} {v : Value}, Rep W g β v x → Rep W g' β v x
  | .int _, _, h => h
  | .bool _, _, h => h
  | .str _, _, h => h
  | .list _, _, ⟨a, e, h⟩ => ⟨a, e, h.mono k⟩
  | .pair _ _, _, ⟨a, o, x, y, n, e, h1, h2, h3, h4, h5⟩ => ⟨a, o, x, y, n, e, k _ _ h1, h2, h3, Rep.mono k h4, Rep.mono k h5⟩
  | .fn _, _, h => h
  | .box, _, h => h
  | .rng _ _ _, _, ⟨r, t, u, x, e, h⟩ => ⟨r, t, u, x, e, k _ _ h⟩
  | .told _ _ _, _, h => W.told_mono _ _ _ _ _ _ k h


structure Ext (β : Option Addr) (g g' : FH) (s s' : Shared) : Prop where
  sh : ∃ h tk, s' = { s with heap := h, toks := tk }
  keep : ∀ a o, some a ≠ β → s.heap.get? a = some o → s'.heap.get? a = some o
  gg : Sub g g'
  gs : In g' s'.heap
  new : ∀ a o, g' a = some o → g a = some o ∨ (s.heap.get? a = none ∧ some a ≠ β)

theorem Ext.refl {β} {g : FH} {s : Shared} (h : In g s.heap) : Ext β g g s s := ⟨⟨s.heap, s.toks, rfl⟩, fun _ _ _ e => e, fun _ _ e => e, h, fun _ _ e => .inl e⟩
theorem Ext.trans {β} {g g1 g2 : FH} {s s1 s2 : Shared} (x : Ext β g g1 s s1) (y : Ext β g1 g2 s1 s2) : Ext β g g2 s s2 := by
  obtain ⟨h, tk, rfl⟩ := x.sh
  obtain ⟨h', tk', rfl⟩ := y.sh
  refine ⟨⟨h', tk', rfl⟩, fun a o hb e => y.keep a o hb (x.keep a o hb e), fun a o e => y.gg a o (x.gg a o e), y.gs, fun a o e => ?_⟩
  rcases y.new a o e with e | ⟨e, hb⟩
  · exact x.new a o e
  · refine .inr ⟨?_, hb⟩
    cases q : s.heap.get? a with
    | none => rfl
    | some o' => have := x.keep a o' hb q; simp only at e this; rw [e] at this; cases this

/-- nothing but the tokens and new objects, the frozen part as it was -/
theorem Ext.same {β} {g : FH} {s : Shared} {h' : Heap} {tk : Nat} (hg : In g s.heap) (k : ∀ a o, s.heap.get? a = some o → h'.get? a = some o) : Ext β g g s { s with heap := h', toks := tk } :=
  ⟨⟨h', tk, rfl⟩, fun a o _ e => k a o e, fun _ _ e => e, fun a o e => k a o (hg a o e), fun _ _ e => .inl e⟩

/-- one new object frozen -/
noncomputable def put (g : FH) (a : Addr) (o : Obj) : FH := fun b => if b = a then some o else g b
theorem put_self (g : FH) (a o) : put g a o a = some o := by simp [put]
theorem put_sub {g : FH} {a : Addr} {o : Obj} (h : g a = none) : Sub g (put g a o) := fun b x e => by
  by_cases q : b = a
  · subst q; rw [h] at e; cases e
  · simp only [put, if_neg q]; exact e
theorem Ext.put {β} {g : FH} {s : Shared} {h' : Heap} {tk : Nat} {a : Addr} {o : Obj} (hg : In g s.heap) (k : ∀ a o, s.heap.get? a = some o → h'.get? a = some o)
    (hn : s.heap.get? a = none) (ha : h'.get? a = some o) (hb : some a ≠ β) : Ext β g (put g a o) s { s with heap := h', toks := tk } := by
  have hga : g a = none := by
    cases q : g a with
    | none => rfl
    | some o' => have := hg a o' q; rw [hn] at this; cases this
  refine ⟨⟨h', tk, rfl⟩, fun a o _ e => k a o e, put_sub hga, fun b x e => ?_, fun b x e => ?_⟩
  · by_cases q : b = a
    · subst q; rw [put_self] at e; cases e; exact ha
    · simp only [Mine.put, if_neg q] at e; exact k _ _ (hg _ _ e)
  · by_cases q : b = a
    · subst q; exact .inr ⟨hn, hb⟩
    · simp only [Mine.put, if_neg q] at e; exact .inl e

/-- where the box lies -/
noncomputable def BoxAt (β : Option Addr) (σ : Bx) (g : FH) (s : Shared) : Prop :=
  ∀ b, β = some b → g b = none ∧ ∃ o vs n, s.heap.get? b = some o ∧ o.cls = .type "list" ∧ o.data = .seq (vs : List Value).toArray n ∧ IntsAre vs [σ.1, σ.2]

theorem BoxAt.ne {β σ g s} (h : BoxAt β σ g s) {a : Addr} (e : s.heap.get? a = none) : some a ≠ β := by
  rintro rfl
  obtain ⟨_, o, _, _, h1, _⟩ := h a rfl
  rw [e] at h1; cases h1
theorem BoxAt.keep {β σ} {g g' : FH} {s s' : Shared} (h : BoxAt β σ g s) (k : ∀ a o, s.heap.get? a = some o → s'.heap.get? a = some o) (hg : ∀ b, β = some b → g' b = none) : BoxAt β σ g' s' := fun b e => by
  obtain ⟨_, o, vs, n, h1, h2⟩ := h b e
  exact ⟨hg b e, o, vs, n, k _ _ h1, h2⟩

noncomputable def Post (W : Wd) (β : Option Addr) (g : FH) (s : Shared) (Q : V → Bx → Prop) (r : Value) (s' : Shared) : Prop :=
  ∃ g' x σ', Ext β g g' s s' ∧ BoxAt β σ' g' s' ∧ Rep W g' β r x ∧ Q x σ'

theorem Post.pre {W β g g1 s s1 Q r s'} (x : Ext β g g1 s s1) (h : Post W β g1 s1 Q r s') : Post W β g s Q r s' := by
  obtain ⟨g', v, σ', e, b, r, q⟩ := h
  exact ⟨g', v, σ', x.trans e, b, r, q⟩

/-- a value that needs nothing new -/
theorem Post.plain {W : Wd} {β g} {s : Shared} {Q : V → Bx → Prop} {r : Value} {x : V} {σ : Bx} {h' : Heap} {tk : Nat} (hg : In g s.heap) (k : ∀ a o, s.heap.get? a = some o → h'.get? a = some o)
    (hb : BoxAt β σ g s) (hr : Rep W g β r x) (hq : Q x σ) : Post W β g s Q r { s with heap := h', toks := tk } :=
  ⟨g, x, σ, .same hg k, hb.keep k (fun b e => (hb b e).1), hr, hq⟩

/-- a value in one new object -/
theorem Post.made {W : Wd} {β g} {s : Shared} {Q : V → Bx → Prop} {r : Value} {x : V} {σ : Bx} {h' : Heap} {tk : Nat} {a : Addr} {o : Obj} (hg : In g s.heap) (k : ∀ a o, s.heap.get? a = some o → h'.get? a = some o)
    (hn : s.heap.get? a = none) (ha : h'.get? a = some o) (hb : BoxAt β σ g s) (hr : Rep W (put g a o) β r x) (hq : Q x σ) : Post W β g s Q r { s with heap := h', toks := tk } :=
  have ne := hb.ne hn
  ⟨put g a o, x, σ, .put hg k hn ha ne, hb.keep k (fun b e => by
    have : b ≠ a := fun q => ne (by rw [e, q])
    simp only [put, if_neg this]; exact (hb b e).1), hr, hq⟩

/-- what a call of a def gives -/
noncomputable def Meets (W : Wd) (k : Nat) (f : Str) (vs : List V) (Q : V → Bx → Prop) (σ : Bx) : Prop :=
  ∀ (A : Around) (E : Value → Shared → Prop) (s : Shared) (g : FH) (β : Option Addr) (fa : Addr) (args : List Value),
    W.mg f = some (.ref fa) → Base W g → In g s.heap → A.handled = none → A.depth + k ≤ recursionLimit → A.units + 8 * k + 100 ≤ cLine → BoxAt β σ g s → Reps W g β args vs →
    wpAny W.M A (PySem.call (.ref fa) args) (Post W β g s Q) E s


end
section
open PySem PySem.W PyProof.Rows

inductive Bi where
  | len | range | min | max | abs | repr

noncomputable def Bi.nm : Bi → Str
  | .len => "len" | .range => "range" | .min => "min" | .max => "max" | .abs => "abs" | .repr => "repr"
noncomputable def Bi.val : Bi → Value
  | .len => .builtin "len" | .range => .type "range" | .min => .builtin "min" | .max => .builtin "max" | .abs => .builtin "abs" | .repr => .builtin "repr"

mutual
/-- the expressions of the program, by places of names -/
inductive E where
  | int (i : Int)
  | neg (i : Int)
  | bool (b : Bool)
  | var (i : Nat)
  | fn (x : Str)
  | few
  | bin (op : Operator) (l r : E)
  | cmp (op : CmpOp) (l r : E)
  | bo (op : BoolOp) (es : Es)
  | not (e : E)
  | ite (c t f : E)
  | call (f : E) (as : Es)
  | bi (b : Bi) (as : Es)
  | sub (e i : E)
  | from_ (e lo : E)
  | upto (e hi : E)
  | cut (e lo hi : E)
  | all (e : E)
  | rev (e : E)
  | list (es : Es)
  | pair (a b : E)
  | attr (e : E) (x : Str)
  | bits (e : E)
  | isl (i : Nat)
  | intsNe (i : Nat)
  | bndEq (i j : Nat)
  | make (es : Es)
inductive Es where
  | nil
  | cons (e : E) (es : Es)
end

mutual
/-- the statements -/
inductive S where
  | set (i : Nat) (e : E)
  | own (i : Nat)
  | swap (is : List Nat) (es : Es)
  | swapOwn (i : Nat) (is : List Nat) (es : Es)
  | swapRep (i : Nat) (n : E) (is : List Nat) (es : Es)
  | two (i j : Nat) (e : E)
  | aug (i : Nat) (op : Operator) (e : E)
  | app (i : Nat) (e : E)
  | box (i : Nat) (k : Bool) (e : E)
  | ite (c : E) (t f : Ss)
  | whl (c : E) (b : Ss)
  | for_ (i : Nat) (e : E) (b : Ss)
  | ret (e : E)
  | no
inductive Ss where
  | nil
  | cons (s : S) (ss : Ss)
end

inductive Fl where
  | next
  | ret (x : V)

noncomputable abbrev Row := List (Option V)
noncomputable abbrev Own := Option (Nat × List Int)

noncomputable def noOwn : Own → Nat → Prop
  | none, _ => True
  | some (j, _), i => j ≠ i

noncomputable def freeze (ρ : Row) : Own → Row
  | none => ρ
  | some (i, xs) => ρ.set i (some (.list xs))

noncomputable def setAll (ρ : Row) : List Nat → List V → Row
  | i :: is, x :: xs => (setAll ρ is xs).set i (some x)
  | _, _ => ρ

/-- what each operation gives; where it gives nothing: False -/
noncomputable def WBin (op : Operator) : V → V → (V → Bx → Prop) → Bx → Prop
  | .int a, .int b, Q, σ => match op with
    | .Add => Q (.int (a + b)) σ
    | .Sub => Q (.int (a - b)) σ
    | .Mult => (a.natAbs < 2 ^ 64 ∨ b.natAbs < 2 ^ 64 ∨ ∃ k, k ≤ 1000000 ∧ a.natAbs < 2 ^ k ∧ b.natAbs < 2 ^ k) ∧ Q (.int (a * b)) σ
    | .FloorDiv => b ≠ 0 ∧ (∃ k, k ≤ 8000 ∧ b.natAbs < 2 ^ k) ∧ Q (.int (a.fdiv b)) σ
    | .Mod => b ≠ 0 ∧ Q (.int (a.fmod b)) σ
    | .Pow => 0 ≤ b ∧ b ≤ 1000000 ∧ a.natAbs < 2 ^ 64 ∧ Q (.int (a ^ b.toNat)) σ
    | .LShift => 0 ≤ b ∧ b ≤ 1000000 ∧ a.natAbs < 2 ^ 64 ∧ Q (.int (a * 2 ^ b.toNat)) σ
    | .RShift => 0 ≤ b ∧ Q (.int (a.fdiv (2 ^ b.toNat))) σ
    | .BitAnd => Q (.int (Builtin.bitAnd a b)) σ
    | .BitOr => Q (.int (Builtin.bitOr a b)) σ
    | _ => False
  | .list xs, .list ys, Q, σ => match op with
    | .Add => xs.length + ys.length ≤ sizeLine ∧ Q (.list (xs ++ ys)) σ
    | _ => False
  | .list xs, .int n, Q, σ => match op with
    | .Mult => n < 2 ^ 62 ∧ -(2 ^ 62) < n ∧ xs.length * n.toNat ≤ sizeLine ∧ Q (.list (List.replicate n.toNat xs).flatten) σ
    | _ => False
  | _, _, _, _ => False

/-- as WBin, of the statements that turn a name's int -/
noncomputable def WAug (op : Operator) : V → V → (V → Bx → Prop) → Bx → Prop
  | .int a, .int b, Q, σ => match op with
    | .Add => Q (.int (a + b)) σ
    | .Sub => Q (.int (a - b)) σ
    | .RShift => 0 ≤ b ∧ Q (.int (a.fdiv (2 ^ b.toNat))) σ
    | .BitOr => Q (.int (Builtin.bitOr a b)) σ
    | _ => False
  | _, _, _, _ => False

noncomputable def WCmp (op : CmpOp) : V → V → (Bool → Bx → Prop) → Bx → Prop
  | .int a, .int b, Q, σ => match op with
    | .Eq => Q (decide (a = b)) σ
    | .NotEq => Q (!decide (a = b)) σ
    | .Lt => Q (decide (a < b)) σ
    | .LtE => Q (decide (a ≤ b)) σ
    | .Gt => Q (decide (b < a)) σ
    | .GtE => Q (decide (b ≤ a)) σ
    | _ => False
  | .list xs, .list ys, Q, σ => match op with
    | .Eq => Q (decide (xs = ys)) σ
    | .NotEq => Q (!decide (xs = ys)) σ
    | _ => False
  | .bool a, .bool b, Q, σ => match op with
    | .NotEq => Q (a != b) σ
    | _ => False
  | .str a, .str b, Q, σ => match op with
    | .NotEq => Q (a.cps.toList != b.cps.toList) σ
    | _ => False
  | _, _, _, _ => False

noncomputable def Small (n : Int) : Prop := -(2 ^ 62) ≤ n ∧ n < 2 ^ 62

noncomputable def WBi : Bi → List V → (V → Bx → Prop) → Bx → Prop
  | .len, [.list xs], Q, σ => Q (.int xs.length) σ
  | .range, [.int b], Q, σ => Small b ∧ Q (.rng 0 b 1) σ
  | .range, [.int a, .int b], Q, σ => Small a ∧ Small b ∧ Q (.rng a b 1) σ
  | .range, [.int a, .int b, .int c], Q, σ => Small a ∧ Small b ∧ c = -1 ∧ Q (.rng a b (-1)) σ
  | .min, [.int a, .int b], Q, σ => Q (.int (if b < a then b else a)) σ
  | .max, [.int a, .int b], Q, σ => Q (.int (if a < b then b else a)) σ
  | .abs, [.int a], Q, σ => Q (.int (if a < 0 then -a else a)) σ
  | .repr, [.bool b], Q, σ => Q (.str (if b then "True" else "False")) σ
  | _, _, _, _ => False

noncomputable def WSub : V → V → (V → Bx → Prop) → Bx → Prop
  | .list xs, .int i, Q, σ => (0 ≤ i ∧ i < xs.length ∧ Q (.int (xs.getD i.toNat 0)) σ) ∨ (i < 0 ∧ -(xs.length : Int) ≤ i ∧ Q (.int (xs.getD (i + xs.length).toNat 0)) σ)
  | .box, .int i, Q, σ => (i = 0 ∧ Q (.int σ.1) σ) ∨ (i = 1 ∧ Q (.int σ.2) σ)
  | _, _, _, _ => False

noncomputable def clip (n : Nat) (i : Int) : Nat := (max 0 (min (if i < 0 then i + n else i) n)).toNat

/-! what a value is asked to be -/
noncomputable def onV (o : Option (Option V)) (k : V → Prop) : Prop := match o with | some (some x) => k x | _ => False
noncomputable def onI (v : V) (k : Int → Prop) : Prop := match v with | .int i => k i | _ => False
noncomputable def onB (v : V) (k : Bool → Prop) : Prop := match v with | .bool b => k b | _ => False
noncomputable def onL (v : V) (k : List Int → Prop) : Prop := match v with | .list xs => k xs | _ => False
noncomputable def onFn (v : V) (k : Str → Prop) : Prop := match v with | .fn x => k x | _ => False
noncomputable def onP (v : V) (k : V → V → Prop) : Prop := match v with | .pair x y => k x y | _ => False
noncomputable def onBx (v : V) (k : Prop) : Prop := match v with | .box => k | _ => False
noncomputable def on5 (vs : List V) (k : Int → Int → Int → Prop) : Prop := match vs with | [.int h, .int n, .int l, .fn p, .fn q] => p = "_law_times" ∧ q = "_law_parts" ∧ k h n l | _ => False
noncomputable def onOwn (o : Own) (k : Nat → List Int → Prop) : Prop := match o with | some (j, xs) => k j xs | none => False
theorem onV_ {o : Option (Option V)} {k : V → Prop} (h : onV o k) : ∃ x, o = some (some x) ∧ k x := by
  rcases o with _ | _ | x <;> first | exact h.elim | exact ⟨_, rfl, h⟩
theorem onI_ {v : V} {k : Int → Prop} (h : onI v k) : ∃ i, v = .int i ∧ k i := by
  cases v <;> first | exact h.elim | exact ⟨_, rfl, h⟩
theorem onB_ {v : V} {k : Bool → Prop} (h : onB v k) : ∃ i, v = .bool i ∧ k i := by
  cases v <;> first | exact h.elim | exact ⟨_, rfl, h⟩
theorem onL_ {v : V} {k : List Int → Prop} (h : onL v k) : ∃ i, v = .list i ∧ k i := by
  cases v <;> first | exact h.elim | exact ⟨_, rfl, h⟩
theorem onP_ {v : V} {k : V → V → Prop} (h : onP v k) : ∃ x y, v = .pair x y ∧ k x y := by
  cases v <;> first | exact h.elim | exact ⟨_, _, rfl, h⟩
theorem onBx_ {v : V} {k : Prop} (h : onBx v k) : v = .box ∧ k := by
  cases v <;> first | exact h.elim | exact ⟨rfl, h⟩

noncomputable def WAttr (x : Str) : V → (V → Bx → Prop) → Bx → Prop
  | .told h n l, Q, σ =>
    if x = "halves" then Q (.int h) σ else if x = "newton" then Q (.int n) σ else if x = "least" then Q (.int l) σ
    else if x = "mul" then Q (.fn "_law_times") σ else if x = "base" then Q (.fn "_law_parts") σ else False
  | _, _, _ => False

section
variable (W : Wd) (k : Nat) (ρ : Row)
mutual
noncomputable def WE : E → (V → Bx → Prop) → Bx → Prop
  | .int i, Q, σ => Q (.int i) σ
  | .neg i, Q, σ => Q (.int (-i)) σ
  | .bool b, Q, σ => Q (.bool b) σ
  | .var i, Q, σ => onV ρ[i]? fun x => Q x σ
  | .fn x, Q, σ => Q (.fn x) σ
  | .few, Q, σ => Q (.int 3) σ
  | .bin op l r, Q, σ => WE l (fun a => WE r (fun b => WBin op a b Q)) σ
  | .cmp op l r, Q, σ => WE l (fun a => WE r (fun b => WCmp op a b (fun c => Q (.bool c)))) σ
  | .bo op es, Q, σ => WBo op es Q σ
  | .not e, Q, σ => WE e (fun v σ' => onB v fun b => Q (.bool !b) σ') σ
  | .ite c t f, Q, σ => WT c (fun b σ' => if b then WE t Q σ' else WE f Q σ') σ
  | .call f as, Q, σ => WE f (fun fv => WEs as (fun vs σ' => onFn fv fun x => Meets W k x vs Q σ')) σ
  | .bi b as, Q, σ => WEs as (fun vs => WBi b vs Q) σ
  | .sub e i, Q, σ => WE e (fun a => WE i (fun b => WSub a b Q)) σ
  | .from_ e lo, Q, σ => WE e (fun a => WE lo (fun b σ' => onL a fun xs => onI b fun i => Q (.list (xs.drop (clip xs.length i))) σ')) σ
  | .upto e hi, Q, σ => WE e (fun a => WE hi (fun b σ' => onL a fun xs => onI b fun i => Q (.list (xs.take (clip xs.length i))) σ')) σ
  | .cut e lo hi, Q, σ => WE e (fun a => WE lo (fun b => WE hi (fun c σ' => onL a fun xs => onI b fun i => onI c fun j =>
      Q (.list ((xs.drop (clip xs.length i)).take (clip xs.length j - clip xs.length i))) σ'))) σ
  | .all e, Q, σ => WE e (fun a σ' => onL a fun xs => Q (.list xs) σ') σ
  | .rev e, Q, σ => WE e (fun a σ' => onL a fun xs => Q (.list xs.reverse) σ') σ
  | .list es, Q, σ => WEs es (fun vs σ' => ∃ xs : List Int, vs = xs.map V.int ∧ xs.length ≤ 100 ∧ Q (.list xs) σ') σ
  | .pair a b, Q, σ => WE a (fun x => WE b (fun y => Q (.pair x y))) σ
  | .attr e x, Q, σ => WE e (fun a => WAttr x a Q) σ
  | .bits e, Q, σ => WE e (fun a σ' => onI a fun i => Q (.int (Builtin.Int.intBits i)) σ') σ
  | .isl i, Q, σ => onV ρ[i]? fun v => onL v fun _ => Q (.bool true) σ
  | .intsNe i, Q, σ => onV ρ[i]? fun v => onL v fun _ => Q (.bool false) σ
  | .bndEq i j, Q, σ => onV ρ[i]? fun v => onL v fun xs => onV ρ[j]? fun u => onI u fun w => 0 ≤ w ∧ w ≤ 1000000 ∧ (∀ x ∈ xs, 0 ≤ x ∧ x < 2 ^ w.toNat) ∧ Q (.bool true) σ
  | .make es, Q, σ => 2 ≤ k ∧ WEs es (fun vs σ' => on5 vs fun h n l => Q (.told h n l) σ') σ
noncomputable def WEs : Es → (List V → Bx → Prop) → Bx → Prop
  | .nil, Q, σ => Q [] σ
  | .cons e es, Q, σ => WE e (fun x => WEs es (fun xs => Q (x :: xs))) σ
noncomputable def WT : E → (Bool → Bx → Prop) → Bx → Prop
  | .not e, Q, σ => WT e (fun b => Q (!b)) σ
  | .bo op es, Q, σ => WTs op es Q σ
  | .ite c t f, Q, σ => WT c (fun b σ' => if b then WT t Q σ' else WT f Q σ') σ
  | .cmp op l r, Q, σ => WE l (fun a => WE r (fun b => WCmp op a b Q)) σ
  | .call f as, Q, σ => WE f (fun fv => WEs as (fun vs σ' => onFn fv fun x => Meets W k x vs (fun v σ'' => onB v fun b => Q b σ'') σ')) σ
  | .bool b, Q, σ => Q b σ
  | .isl i, Q, σ => onV ρ[i]? fun v => onL v fun _ => Q true σ
  | .intsNe i, Q, σ => onV ρ[i]? fun v => onL v fun _ => Q false σ
  | _, _, _ => False
noncomputable def WTs (op : BoolOp) : Es → (Bool → Bx → Prop) → Bx → Prop
  | .nil, Q, σ => Q (op == .And) σ
  | .cons e es, Q, σ => WT e (fun b σ' => if b = (op == .And) then WTs op es Q σ' else Q b σ') σ
noncomputable def WBo (op : BoolOp) : Es → (V → Bx → Prop) → Bx → Prop
  | .nil, _, _ => False
  | .cons e .nil, Q, σ => WE e Q σ
  | .cons e (.cons e' es), Q, σ => WE e (fun v σ' => onB v fun b => if b = (op == .And) then WBo op (.cons e' es) Q σ' else Q (.bool b) σ') σ
end
end

/-- the items that a loop takes -/
noncomputable def its : V → Option (List Int)
  | .list xs => some xs
  | .rng a b c => if c = 1 then some ((List.range (b - a).toNat).map fun i => a + (i : Nat)) else if c = -1 then some ((List.range (a - b).toNat).map fun i => a - (i : Nat)) else none
  | _ => none

noncomputable def itsOk : V → Prop
  | .rng a b _ => Small a ∧ Small b
  | _ => True

section
variable (W : Wd) (k : Nat)
noncomputable abbrev PS := Fl → Row → Own → Bx → Prop
mutual
noncomputable def WS : S → PS → Row → Own → Bx → Prop
  | .set i e, Q, ρ, o, σ => noOwn o i ∧ WE W k ρ e (fun x σ' => Q .next (ρ.set i (some x)) o σ') σ
  | .own i, Q, ρ, o, σ => o = none ∧ Q .next (ρ.set i none) (some (i, [])) σ
  | .swap is es, Q, ρ, o, σ => (∀ i ∈ is, noOwn o i) ∧ WEs W k ρ es (fun xs σ' => xs.length = is.length ∧ Q .next (setAll ρ is xs) o σ') σ
  | .swapOwn i is es, Q, ρ, o, σ => o = none ∧ WEs W k ρ es (fun xs σ' => xs.length = is.length ∧ Q .next ((setAll ρ is xs).set i none) (some (i, [])) σ') σ
  | .swapRep i n is es, Q, ρ, o, σ => o = none ∧ WE W k ρ n (fun v σ' => ∃ m : Nat, v = .int m ∧ m ≤ sizeLine ∧ WEs W k ρ es (fun xs σ'' => xs.length = is.length ∧ Q .next ((setAll ρ is xs).set i none) (some (i, List.replicate m 0)) σ'') σ') σ
  | .two i j e, Q, ρ, o, σ => noOwn o i ∧ noOwn o j ∧ WE W k ρ e (fun v σ' => onP v fun x y => Q .next ((ρ.set i (some x)).set j (some y)) o σ') σ
  | .aug i op e, Q, ρ, o, σ => noOwn o i ∧ onV ρ[i]? fun x => WE W k ρ e (fun v => WAug op x v (fun r σ' => Q .next (ρ.set i (some r)) o σ')) σ
  | .app i e, Q, ρ, o, σ => onOwn o fun j xs => j = i ∧ WE W k ρ e (fun v σ' => onI v fun n => xs.length < sizeLine ∧ Q .next ρ (some (j, xs ++ [n])) σ') σ
  | .box i b e, Q, ρ, o, σ => WE W k ρ e (fun v σ' => onI v fun n => onV ρ[i]? fun x => onBx x (Q .next ρ o (if b then (σ'.1, n) else (n, σ'.2)))) σ
  | .ite c t f, Q, ρ, o, σ => WT W k ρ c (fun b σ' => if b then WSs t Q ρ o σ' else WSs f Q ρ o σ') σ
  | .whl c b, Q, ρ, o, σ => ∃ I : Nat → Row → Own → Bx → Prop, (∃ n, I n ρ o σ) ∧ ∀ n ρ o σ, I n ρ o σ →
      WT W k ρ c (fun t σ' => if t then WSs b (fun fl ρ' o' σ'' => match fl with | .next => ∃ m, m < n ∧ I m ρ' o' σ'' | .ret x => Q (.ret x) ρ' o' σ'') ρ o σ' else Q .next ρ o σ') σ
  | .for_ i e b, Q, ρ, o, σ => WE W k ρ e (fun v σ' => ∃ xs, its v = some xs ∧ itsOk v ∧ ∃ I : Nat → Row → Own → Bx → Prop, I 0 ρ o σ' ∧
      (∀ n ρ o σ, I n ρ o σ → n < xs.length → noOwn o i ∧ WSs b (fun fl ρ' o' σ'' => match fl with | .next => I (n + 1) ρ' o' σ'' | .ret x => Q (.ret x) ρ' o' σ'') (ρ.set i (some (.int (xs.getD n 0)))) o σ) ∧
      ∀ ρ o σ, I xs.length ρ o σ → Q .next ρ o σ) σ
  | .ret e, Q, ρ, o, σ => WE W k (freeze ρ o) e (fun x σ' => Q (.ret x) (freeze ρ o) none σ') σ
  | .no, _, _, _, _ => False
noncomputable def WSs : Ss → PS → Row → Own → Bx → Prop
  | .nil, Q, ρ, o, σ => Q .next ρ o σ
  | .cons s ss, Q, ρ, o, σ => WS s (fun fl ρ' o' σ' => match fl with | .next => WSs ss Q ρ' o' σ' | .ret x => Q (.ret x) ρ' o' σ') ρ o σ
end
end

/-! the same, as rows to go by -/
section
variable {W : Wd} {k : Nat} {ρ : Row} {Q : V → Bx → Prop} {T : Bool → Bx → Prop}
theorem Za {x : V} {k : V → Prop} : onV (some (some x)) k = k x := rfl
theorem Zb {i : Int} {k : Int → Prop} : onI (.int i) k = k i := rfl
theorem Zc {b : Bool} {k : Bool → Prop} : onB (.bool b) k = k b := rfl
theorem Zd {xs : List Int} {k : List Int → Prop} : onL (.list xs) k = k xs := rfl
theorem Ze {x : Str} {k : Str → Prop} : onFn (.fn x) k = k x := rfl
theorem Zf {x y : V} {k : V → V → Prop} : onP (.pair x y) k = k x y := rfl
theorem Zg {k : Prop} : onBx .box k = k := rfl
theorem Zh {h n l : Int} {p q : Str} {k : Int → Int → Int → Prop} : on5 [.int h, .int n, .int l, .fn p, .fn q] k = (p = "_law_times" ∧ q = "_law_parts" ∧ k h n l) := rfl
theorem Zi {i : Int} : WE W k ρ (.int i) Q = Q (.int i) := rfl
theorem Zj {i : Int} : WE W k ρ (.neg i) Q = Q (.int (-i)) := rfl
theorem Zk {b : Bool} : WE W k ρ (.bool b) Q = Q (.bool b) := rfl
theorem Zl {i : Nat} : WE W k ρ (.var i) Q = fun σ => onV ρ[i]? fun x => Q x σ := rfl
theorem Zm {x : Str} : WE W k ρ (.fn x) Q = Q (.fn x) := rfl
theorem Zn : WE W k ρ .few Q = Q (.int 3) := rfl
theorem Zo {op : Operator} {l r : E} : WE W k ρ (.bin op l r) Q = WE W k ρ l (fun a => WE W k ρ r (fun b => WBin op a b Q)) := rfl
theorem Zp {op : CmpOp} {l r : E} : WE W k ρ (.cmp op l r) Q = WE W k ρ l (fun a => WE W k ρ r (fun b => WCmp op a b (fun c => Q (.bool c)))) := rfl
theorem Zq {op : BoolOp} {es : Es} : WE W k ρ (.bo op es) Q = WBo W k ρ op es Q := rfl
theorem Zr {e : E} : WE W k ρ (.not e) Q = WE W k ρ e (fun v σ' => onB v fun b => Q (.bool !b) σ') := rfl
theorem Zs {c t f : E} : WE W k ρ (.ite c t f) Q = WT W k ρ c (fun b σ' => if b then WE W k ρ t Q σ' else WE W k ρ f Q σ') := rfl
theorem Zt {f : E} {as : Es} : WE W k ρ (.call f as) Q = WE W k ρ f (fun fv => WEs W k ρ as (fun vs σ' => onFn fv fun x => Meets W k x vs Q σ')) := rfl
theorem Zu {b : Bi} {as : Es} : WE W k ρ (.bi b as) Q = WEs W k ρ as (fun vs => WBi b vs Q) := rfl
theorem Zv {e i : E} : WE W k ρ (.sub e i) Q = WE W k ρ e (fun a => WE W k ρ i (fun b => WSub a b Q)) := rfl
theorem Zw {e lo : E} : WE W k ρ (.from_ e lo) Q = WE W k ρ e (fun a => WE W k ρ lo (fun b σ' => onL a fun xs => onI b fun i => Q (.list (xs.drop (clip xs.length i))) σ')) := rfl
theorem Zx {e hi : E} : WE W k ρ (.upto e hi) Q = WE W k ρ e (fun a => WE W k ρ hi (fun b σ' => onL a fun xs => onI b fun i => Q (.list (xs.take (clip xs.length i))) σ')) := rfl
theorem Zy {e lo hi : E} : WE W k ρ (.cut e lo hi) Q = WE W k ρ e (fun a => WE W k ρ lo (fun b => WE W k ρ hi (fun c σ' => onL a fun xs => onI b fun i => onI c fun j => Q (.list ((xs.drop (clip xs.length i)).take (clip xs.length j - clip xs.length i))) σ'))) := rfl
theorem Zz {e : E} : WE W k ρ (.all e) Q = WE W k ρ e (fun a σ' => onL a fun xs => Q (.list xs) σ') := rfl
theorem ZA {e : E} : WE W k ρ (.rev e) Q = WE W k ρ e (fun a σ' => onL a fun xs => Q (.list xs.reverse) σ') := rfl
theorem ZB {es : Es} : WE W k ρ (.list es) Q = WEs W k ρ es (fun vs σ' => ∃ xs : List Int, vs = xs.map V.int ∧ xs.length ≤ 100 ∧ Q (.list xs) σ') := rfl
theorem ZC {a b : E} : WE W k ρ (.pair a b) Q = WE W k ρ a (fun x => WE W k ρ b (fun y => Q (.pair x y))) := rfl
theorem ZD {e : E} {x : Str} : WE W k ρ (.attr e x) Q = WE W k ρ e (fun a => WAttr x a Q) := rfl
theorem ZE {e : E} : WE W k ρ (.bits e) Q = WE W k ρ e (fun a σ' => onI a fun i => Q (.int (Builtin.Int.intBits i)) σ') := rfl
theorem ZF {i : Nat} : WE W k ρ (.isl i) Q = fun σ => onV ρ[i]? fun v => onL v fun _ => Q (.bool true) σ := rfl
theorem ZG {i : Nat} : WE W k ρ (.intsNe i) Q = fun σ => onV ρ[i]? fun v => onL v fun _ => Q (.bool false) σ := rfl
theorem ZH {i j : Nat} : WE W k ρ (.bndEq i j) Q = fun σ => onV ρ[i]? fun v => onL v fun xs => onV ρ[j]? fun u => onI u fun w => 0 ≤ w ∧ w ≤ 1000000 ∧ (∀ x ∈ xs, 0 ≤ x ∧ x < 2 ^ w.toNat) ∧ Q (.bool true) σ := rfl
theorem ZI {es : Es} : WE W k ρ (.make es) Q = fun σ => 2 ≤ k ∧ WEs W k ρ es (fun vs σ' => on5 vs fun h n l => Q (.told h n l) σ') σ := rfl
theorem ZJ {Q : List V → Bx → Prop} : WEs W k ρ .nil Q = Q [] := rfl
theorem ZK {e : E} {es : Es} {Q : List V → Bx → Prop} : WEs W k ρ (.cons e es) Q = WE W k ρ e (fun x => WEs W k ρ es (fun xs => Q (x :: xs))) := rfl
theorem ZL {e : E} : WT W k ρ (.not e) T = WT W k ρ e (fun b => T (!b)) := rfl
theorem ZM {op : BoolOp} {es : Es} : WT W k ρ (.bo op es) T = WTs W k ρ op es T := rfl
theorem ZN {c t f : E} : WT W k ρ (.ite c t f) T = WT W k ρ c (fun b σ' => if b then WT W k ρ t T σ' else WT W k ρ f T σ') := rfl
theorem ZO {op : CmpOp} {l r : E} : WT W k ρ (.cmp op l r) T = WE W k ρ l (fun a => WE W k ρ r (fun b => WCmp op a b T)) := rfl
theorem ZP {f : E} {as : Es} : WT W k ρ (.call f as) T = WE W k ρ f (fun fv => WEs W k ρ as (fun vs σ' => onFn fv fun x => Meets W k x vs (fun v σ'' => onB v fun b => T b σ'') σ')) := rfl
theorem ZQ {b : Bool} : WT W k ρ (.bool b) T = T b := rfl
theorem ZR {i : Nat} : WT W k ρ (.isl i) T = fun σ => onV ρ[i]? fun v => onL v fun _ => T true σ := rfl
theorem ZS {i : Nat} : WT W k ρ (.intsNe i) T = fun σ => onV ρ[i]? fun v => onL v fun _ => T false σ := rfl
theorem ZT {op : BoolOp} : WTs W k ρ op .nil T = T (op == .And) := rfl
theorem ZU {op : BoolOp} {e : E} {es : Es} : WTs W k ρ op (.cons e es) T = WT W k ρ e (fun b σ' => if b = (op == .And) then WTs W k ρ op es T σ' else T b σ') := rfl
theorem ZV {op : BoolOp} {e : E} : WBo W k ρ op (.cons e .nil) Q = WE W k ρ e Q := rfl
theorem ZW {op : BoolOp} {e e' : E} {es : Es} : WBo W k ρ op (.cons e (.cons e' es)) Q = WE W k ρ e (fun v σ' => onB v fun b => if b = (op == .And) then WBo W k ρ op (.cons e' es) Q σ' else Q (.bool b) σ') := rfl
theorem ZX {a b : Int} : WBin .Add (.int a) (.int b) Q = Q (.int (a + b)) := rfl
theorem ZY {a b : Int} : WBin .Sub (.int a) (.int b) Q = Q (.int (a - b)) := rfl
theorem ZZ {a b : Int} : WBin .Mult (.int a) (.int b) Q = fun σ => (a.natAbs < 2 ^ 64 ∨ b.natAbs < 2 ^ 64 ∨ ∃ k, k ≤ 1000000 ∧ a.natAbs < 2 ^ k ∧ b.natAbs < 2 ^ k) ∧ Q (.int (a * b)) σ := rfl
theorem Ya {a b : Int} : WBin .FloorDiv (.int a) (.int b) Q = fun σ => b ≠ 0 ∧ (∃ k, k ≤ 8000 ∧ b.natAbs < 2 ^ k) ∧ Q (.int (a.fdiv b)) σ := rfl
theorem Yb {a b : Int} : WBin .Mod (.int a) (.int b) Q = fun σ => b ≠ 0 ∧ Q (.int (a.fmod b)) σ := rfl
theorem Yc {a b : Int} : WBin .Pow (.int a) (.int b) Q = fun σ => 0 ≤ b ∧ b ≤ 1000000 ∧ a.natAbs < 2 ^ 64 ∧ Q (.int (a ^ b.toNat)) σ := rfl
theorem Yd {a b : Int} : WBin .LShift (.int a) (.int b) Q = fun σ => 0 ≤ b ∧ b ≤ 1000000 ∧ a.natAbs < 2 ^ 64 ∧ Q (.int (a * 2 ^ b.toNat)) σ := rfl
theorem Ye {a b : Int} : WBin .RShift (.int a) (.int b) Q = fun σ => 0 ≤ b ∧ Q (.int (a.fdiv (2 ^ b.toNat))) σ := rfl
theorem Yf {a b : Int} : WBin .BitAnd (.int a) (.int b) Q = Q (.int (Builtin.bitAnd a b)) := rfl
theorem Yg {a b : Int} : WBin .BitOr (.int a) (.int b) Q = Q (.int (Builtin.bitOr a b)) := rfl
theorem Yh {xs ys : List Int} : WBin .Add (.list xs) (.list ys) Q = fun σ => xs.length + ys.length ≤ sizeLine ∧ Q (.list (xs ++ ys)) σ := rfl
theorem Yi {xs : List Int} {n : Int} : WBin .Mult (.list xs) (.int n) Q = fun σ => n < 2 ^ 62 ∧ -(2 ^ 62) < n ∧ xs.length * n.toNat ≤ sizeLine ∧ Q (.list (List.replicate n.toNat xs).flatten) σ := rfl
theorem Yj {a b : Int} : WAug .Add (.int a) (.int b) Q = Q (.int (a + b)) := rfl
theorem Yk {a b : Int} : WAug .Sub (.int a) (.int b) Q = Q (.int (a - b)) := rfl
theorem Yl {a b : Int} : WAug .RShift (.int a) (.int b) Q = fun σ => 0 ≤ b ∧ Q (.int (a.fdiv (2 ^ b.toNat))) σ := rfl
theorem Ym {a b : Int} : WAug .BitOr (.int a) (.int b) Q = Q (.int (Builtin.bitOr a b)) := rfl
theorem Yn {a b : Int} : WCmp .Eq (.int a) (.int b) T = T (decide (a = b)) := rfl
theorem Yo {a b : Int} : WCmp .NotEq (.int a) (.int b) T = T (!decide (a = b)) := rfl
theorem Yp {a b : Int} : WCmp .Lt (.int a) (.int b) T = T (decide (a < b)) := rfl
theorem Yq {a b : Int} : WCmp .LtE (.int a) (.int b) T = T (decide (a ≤ b)) := rfl
theorem Yr {a b : Int} : WCmp .Gt (.int a) (.int b) T = T (decide (b < a)) := rfl
theorem Ys {a b : Int} : WCmp .GtE (.int a) (.int b) T = T (decide (b ≤ a)) := rfl
theorem Yt {xs ys : List Int} : WCmp .Eq (.list xs) (.list ys) T = T (decide (xs = ys)) := rfl
theorem Yu {xs ys : List Int} : WCmp .NotEq (.list xs) (.list ys) T = T (!decide (xs = ys)) := rfl
theorem Yv {a b : Bool} : WCmp .NotEq (.bool a) (.bool b) T = T (a != b) := rfl
theorem Yw {a b : Str} : WCmp .NotEq (.str a) (.str b) T = T (a.cps.toList != b.cps.toList) := rfl
theorem Yx {xs : List Int} : WBi .len [.list xs] Q = Q (.int xs.length) := rfl
theorem Yy {b : Int} : WBi .range [.int b] Q = fun σ => Small b ∧ Q (.rng 0 b 1) σ := rfl
theorem Yz {a b : Int} : WBi .range [.int a, .int b] Q = fun σ => Small a ∧ Small b ∧ Q (.rng a b 1) σ := rfl
theorem YA {a b c : Int} : WBi .range [.int a, .int b, .int c] Q = fun σ => Small a ∧ Small b ∧ c = -1 ∧ Q (.rng a b (-1)) σ := rfl
theorem YB {a b : Int} : WBi .min [.int a, .int b] Q = Q (.int (if b < a then b else a)) := rfl
theorem YC {a b : Int} : WBi .max [.int a, .int b] Q = Q (.int (if a < b then b else a)) := rfl
theorem YD {a : Int} : WBi .abs [.int a] Q = Q (.int (if a < 0 then -a else a)) := rfl
theorem YE {b : Bool} : WBi .repr [.bool b] Q = Q (.str (if b then "True" else "False")) := rfl
theorem YF {xs : List V} : setAll ρ [] xs = ρ := rfl
theorem YG {i : Nat} {is : List Nat} {x : V} {xs : List V} : setAll ρ (i :: is) (x :: xs) = (setAll ρ is xs).set i (some x) := rfl
theorem YH : freeze ρ none = ρ := rfl
theorem YI {i : Nat} {xs : List Int} : freeze ρ (some (i, xs)) = ρ.set i (some (.list xs)) := rfl
end
end
section
open PySem PySem.W PyProof.Rows

/-- a frame -/
structure Fm where
  nm : Str
  sc : Scope
  L : Addr
  a : Addr
  cd : Value
  ns : List Str

noncomputable def Fm.env (F : Fm) : Env := envOfC F.nm F.sc F.L F.a F.cd
noncomputable def Fm.cells (F : Fm) : List (Str × Addr) := cellsFrom (F.L + 1) F.sc.names []

noncomputable def slot (sc : Scope) (m cm : Str → Option Value) (x : Str) : Option Value :=
  match sc.names.lookup x with
  | some .local => m x
  | some .cell => cm x
  | _ => none

structure Fok (F : Fm) : Prop where
  kind : F.sc.kind = .function
  nodup : F.ns.Nodup

theorem cellsFrom_some {x : Str} : ∀ (r : List (Str × NameKind)) (n : Nat) (acc : List (Str × Addr)), (acc.lookup x).isSome = true ∨ r.lookup x = some .cell → ((cellsFrom n r acc).lookup x).isSome = true
  | [], n, acc, h => by
    rcases h with h | h
    · exact h
    · cases h
  | (y, k) :: r, n, acc, h => by
    unfold cellsFrom
    by_cases hy : x = y
    · subst hy
      split
      · exact cellsFrom_some r _ _ (.inl (by simp))
      · rename_i hk
        rcases h with h | h
        · exact cellsFrom_some r _ _ (.inl h)
        · simp only [List.lookup_cons, beq_self_eq_true, Option.some.injEq] at h
          subst h; exact absurd rfl hk
    · have hb : (x == y) = false := beq_eq_false_iff_ne.mpr hy
      have h' : (acc.lookup x).isSome = true ∨ r.lookup x = some .cell := by
        rcases h with h | h
        · exact .inl h
        · exact .inr (by simpa [List.lookup_cons, hb] using h)
      split
      · exact cellsFrom_some r _ _ (h'.imp (fun q => by simpa [List.lookup_cons, hb] using q) id)
      · exact cellsFrom_some r _ _ h'

theorem Fm.cell (F : Fm) {x : Str} (h : F.sc.names.lookup x = some .cell) : ∃ c, F.cells.lookup x = some c :=
  Option.isSome_iff_exists.mp (cellsFrom_some F.sc.names (F.L + 1) [] (.inr h))

noncomputable def OwnAt (β : Option Addr) (s₀ : Shared) (F : Fm) (hd : FH) (ρ : Row) (own : Own) (g : FH) (s : Shared) (m cm : Str → Option Value) : Prop :=
  match own with
  | none => True
  | some (i, xs) => (∀ x, ρ[i]? ≠ some (some x)) ∧ ∃ x oa vs, F.ns[i]? = some x ∧ slot F.sc m cm x = some (.ref oa) ∧ s.heap.PlainList oa (vs : List Value).toArray ∧ IntsAre vs xs ∧ xs.length ≤ sizeLine ∧
      g oa = none ∧ s₀.heap.get? oa = none ∧ oa ≠ F.L ∧ (∀ y c, F.cells.lookup y = some c → oa ≠ c) ∧ some oa ≠ β ∧ hd oa = none

structure Iv (W : Wd) (β : Option Addr) (s₀ : Shared) (g₀ : FH) (F : Fm) (hd : FH) (ρ : Row) (own : Own) (σ : Bx) (g : FH) (s : Shared) : Prop where
  ext : Ext β g₀ g s₀ s
  base : Base W g
  box : BoxAt β σ g s
  newL : s₀.heap.get? F.L = none
  newC : ∀ x c, F.cells.lookup x = some c → s₀.heap.get? c = none
  gL : g F.L = none
  gC : ∀ x c, F.cells.lookup x = some c → g c = none
  bL : some F.L ≠ β
  bC : ∀ x c, F.cells.lookup x = some c → some c ≠ β
  held : ∀ a o, hd a = some o → s.heap.get? a = some o ∧ g a = none ∧ s₀.heap.get? a = none ∧ a ≠ F.L ∧ (∀ x c, F.cells.lookup x = some c → a ≠ c) ∧ some a ≠ β
  vars : ∃ m cm, s.heap.Ns F.L m ∧ Cl F.L F.cells s.heap cm ∧ (∀ (i : Nat) (x : Str) (V : V), F.ns[i]? = some x → ρ[i]? = some (some V) → ∃ v, slot F.sc m cm x = some v ∧ Rep W g β v V) ∧ OwnAt β s₀ F hd ρ own g s m cm

section
variable {W : Wd} {β : Option Addr} {s₀ : Shared} {g₀ : FH} {F : Fm} {hd : FH} {ρ : Row} {own : Own} {σ : Bx} {g : FH} {s : Shared}

theorem none_of_ext {g g1 : FH} {s s1 : Shared} (x : Ext β g g1 s s1) {a : Addr} (h : g a = none) {o : Obj} (e : s.heap.get? a = some o) : g1 a = none := by
  cases q : g1 a with
  | none => rfl
  | some o' =>
    rcases x.new a o' q with e' | ⟨e', _⟩
    · rw [h] at e'; cases e'
    · rw [e] at e'; cases e'

/-- what an expression does keeps the frame -/
theorem Iv.step {g1 : FH} {s1 : Shared} {σ1 : Bx} (I : Iv W β s₀ g₀ F hd ρ own σ g s) (x : Ext β g g1 s s1) (b : BoxAt β σ1 g1 s1) : Iv W β s₀ g₀ F hd ρ own σ1 g1 s1 := by
  obtain ⟨m, cm, hn, hc, hv, ho⟩ := I.vars
  have kL : ∀ o, s.heap.get? F.L = some o → s1.heap.get? F.L = some o := fun o e => x.keep _ o I.bL e
  have kC : ∀ y c, F.cells.lookup y = some c → ∀ o, s.heap.get? c = some o → s1.heap.get? c = some o := fun y c e o => x.keep c o (I.bC y c e)
  obtain ⟨oL, es, ep, hL, hr⟩ := id hn
  refine ⟨I.ext.trans x, fun a o e => x.gg a o (I.base a o e), b, I.newL, I.newC, none_of_ext x I.gL hL, fun y c e => ?_, I.bL, I.bC, fun a o e => ?_, m, cm, ⟨oL, es, ep, kL _ hL, hr⟩, ⟨fun y c e => ?_, hc.apart, hc.above⟩, fun i y V h1 h2 => ?_, ?_⟩
  · obtain ⟨o, ho', _⟩ := hc.cell y c e
    exact none_of_ext x (I.gC y c e) ho'
  · obtain ⟨h1, h2, h3⟩ := I.held a o e
    exact ⟨x.keep a o h3.2.2.2 h1, none_of_ext x h2 h1, h3⟩
  · obtain ⟨o, ho', hd⟩ := hc.cell y c e
    exact ⟨o, kC y c e o ho', hd⟩
  · obtain ⟨v, h3, h4⟩ := hv i y V h1 h2
    exact ⟨v, h3, h4.mono x.gg⟩
  · cases own with
    | none => trivial
    | some p =>
      obtain ⟨h0, y, oa, vs, h1, h2, h3, h4, h5, h6, h7, h8, h9, h10, h11⟩ := ho
      obtain ⟨n, h3'⟩ := h3
      exact ⟨h0, y, oa, vs, h1, h2, ⟨n, x.keep _ _ h10 h3'⟩, h4, h5, none_of_ext x h6 h3', h7, h8, h9, h10, h11⟩


/-- a heap that differs at one object of the frame's -/
theorem ext_upd {b : Addr} {h' : Heap} {tk : Nat} (x : Ext β g₀ g s₀ s) (hs : Heap.SameBut b s.heap h') (h0 : s₀.heap.get? b = none) (hg : g b = none) : Ext β g₀ g s₀ { s with heap := h', toks := tk } := by
  obtain ⟨h1, tk1, rfl⟩ := x.sh
  refine ⟨⟨h', tk, rfl⟩, fun a o hb e => ?_, x.gg, fun a o e => ?_, x.new⟩
  · have : a ≠ b := by rintro rfl; rw [h0] at e; cases e
    exact (hs.2 a this).trans (x.keep a o hb e)
  · have : a ≠ b := by rintro rfl; rw [hg] at e; cases e
    exact (hs.2 a this).trans (x.gs a o e)
theorem box_upd {b : Addr} {h' : Heap} {tk : Nat} (x : BoxAt β σ g s) (hs : Heap.SameBut b s.heap h') (hb : some b ≠ β) : BoxAt β σ g { s with heap := h', toks := tk } := fun a e => by
  obtain ⟨h1, o, vs, n, h2, h3⟩ := x a e
  refine ⟨h1, o, vs, n, (hs.2 a ?_).trans h2, h3⟩
  rintro rfl; exact hb e.symm

theorem Cl.ne {L : Addr} {cs : List (Str × Addr)} {h : Heap} {cm : Str → Option Value} (X : Cl L cs h cm) {x y : Str} {c c' : Addr} (hx : cs.lookup x = some c) (hy : cs.lookup y = some c') (h : x ≠ y) : c ≠ c' :=
  fun q => h (name_of_addr X.apart (mem_of_lookup hx) (q ▸ mem_of_lookup hy))

theorem held_upd {b : Addr} {h' : Heap} (I : Iv W β s₀ g₀ F hd ρ own σ g s) (hs : Heap.SameBut b s.heap h') (hb : b = F.L ∨ ∃ y, F.cells.lookup y = some b) :
    ∀ a o, hd a = some o → h'.get? a = some o ∧ g a = none ∧ s₀.heap.get? a = none ∧ a ≠ F.L ∧ (∀ x c, F.cells.lookup x = some c → a ≠ c) ∧ some a ≠ β := fun a o e => by
  obtain ⟨h1, h2, h3, h4, h5, h6⟩ := I.held a o e
  refine ⟨(hs.2 a ?_).trans h1, h2, h3, h4, h5, h6⟩
  rcases hb with rfl | ⟨z, hz⟩
  · exact h4
  · exact h5 z b hz

/-- the names' part behind a store: «the new value at place i» -/
theorem vars_set {i : Nat} {x : Str} {m cm m' cm' : Str → Option Value} {v : Value} {X : V} (hF : Fok F) (hi : F.ns[i]? = some x) (h1 : slot F.sc m' cm' x = some v) (h2 : ∀ y, y ≠ x → slot F.sc m' cm' y = slot F.sc m cm y) (hr : Rep W g β v X)
    (hv : ∀ (i : Nat) (x : Str) (V : V), F.ns[i]? = some x → ρ[i]? = some (some V) → ∃ v, slot F.sc m cm x = some v ∧ Rep W g β v V) :
    ∀ (j : Nat) (y : Str) (V : V), F.ns[j]? = some y → (ρ.set i (some X))[j]? = some (some V) → ∃ v, slot F.sc m' cm' y = some v ∧ Rep W g β v V := by
  intro j y V hj hV
  by_cases q : i = j
  · subst q
    rw [hi] at hj; cases hj
    rw [List.getElem?_set] at hV
    simp only [if_true] at hV
    split at hV
    · cases hV; exact ⟨v, h1, hr⟩
    · cases hV
  · rw [List.getElem?_set_ne q] at hV
    have : y ≠ x := by
      rintro rfl
      have := (List.getElem?_inj (List.getElem?_eq_some_iff.mp hi).1 hF.nodup).mp (hi.trans hj.symm)
      exact q this
    obtain ⟨v', h3, h4⟩ := hv j y V hj hV
    exact ⟨v', (h2 y this).trans h3, h4⟩

theorem slot_local {sc : Scope} {m cm : Str → Option Value} {x : Str} (h : sc.names.lookup x = some .local) : slot sc m cm x = m x := by simp only [slot, h]
theorem slot_cell {sc : Scope} {m cm : Str → Option Value} {x : Str} (h : sc.names.lookup x = some .cell) : slot sc m cm x = cm x := by simp only [slot, h]

noncomputable def okVar (sc : Scope) (x : Str) : Bool := (sc.names.lookup x == some .local || sc.names.lookup x == some .cell) && x != "__debug__"

theorem okVar_ {sc : Scope} {x : Str} (h : okVar sc x = true) : (sc.names.lookup x = some .local ∨ sc.names.lookup x = some .cell) ∧ (x == ("__debug__" : Str)) = false := by
  simp only [okVar, Bool.and_eq_true, Bool.or_eq_true, beq_iff_eq] at h
  refine ⟨h.1, ?_⟩
  have := h.2
  simpa [bne] using this

variable {M : Model} {A : Around} {Ex : Value → Shared → Prop}

theorem Iv.load (hF : Fok F) (I : Iv W β s₀ g₀ F hd ρ own σ g s) {i : Nat} {x : Str} {X : V} (hi : F.ns[i]? = some x) (hX : ρ[i]? = some (some X)) (hx : okVar F.sc x = true) {Q : Value → Shared → Prop}
    (h : ∀ v, Rep W g β v X → Q v s) : wpAny M A (loadName F.env x) Q Ex s := by
  obtain ⟨m, cm, hn, hc, hv, _⟩ := I.vars
  obtain ⟨v, h1, h2⟩ := hv i x X hi hX
  rcases (okVar_ hx).1 with hk | hk
  · rw [slot_local hk] at h1
    exact wpAny_loadName_local hF.kind hk hn h1 (h v h2)
  · rw [slot_cell hk] at h1
    obtain ⟨c, hcx⟩ := F.cell hk
    exact wpAny_loadName_cell hF.kind hk hcx (h1 ▸ hc.cell x c hcx) (h v h2)


/-- a store, whatever is said of the value -/
theorem Iv.storeRaw (hF : Fok F) (I : Iv W β s₀ g₀ F hd ρ own σ g s) {x : Str} (hx : okVar F.sc x = true) {v : Value} {Q : Unit → Shared → Prop}
    (h : ∀ h' tk m cm m' cm' b, Ext β g₀ g s₀ { s with heap := h', toks := tk } → BoxAt β σ g { s with heap := h', toks := tk } → Heap.SameBut b s.heap h' → (b = F.L ∨ ∃ y, F.cells.lookup y = some b) →
      s.heap.Ns F.L m → Cl F.L F.cells s.heap cm → h'.Ns F.L m' → Cl F.L F.cells h' cm' →
      (∀ (i : Nat) (x : Str) (V : V), F.ns[i]? = some x → ρ[i]? = some (some V) → ∃ v, slot F.sc m cm x = some v ∧ Rep W g β v V) → OwnAt β s₀ F hd ρ own g s m cm →
      slot F.sc m' cm' x = some v → (∀ y, y ≠ x → slot F.sc m' cm' y = slot F.sc m cm y) → Q () { s with heap := h', toks := tk }) :
    wpAny M A (storeName F.env x v) Q Ex s := by
  obtain ⟨m, cm, hn, hc, hv, ho⟩ := I.vars
  rcases (okVar_ hx).1 with hk | hk
  · refine wpAny_storeName_local hk hn (fun h' hn' hs => ?_) (by show (F.sc.kind == .class || (F.sc.kind == .module && _)) = false; rw [hF.kind]; rfl)
    refine h h' _ m cm _ cm F.L (ext_upd I.ext hs I.newL I.gL) (box_upd I.box hs I.bL) hs (.inl rfl) hn hc hn' (hc.sameBut hs (Nat.le_refl _)) hv ho ?_ fun y hy => ?_
    · rw [slot_local hk]; simp
    · simp only [slot]
      split <;> simp [hy]
  · obtain ⟨c, hcx⟩ := F.cell hk
    refine wpAny_storeName_cell hF.kind hk hcx (hc.cell x c hcx) fun h' hv' hs => ?_
    have hLc : F.L < c := hc.above x c (mem_of_lookup hcx)
    refine h h' s.toks m cm m (fun y => if y = x then some v else cm y) c (ext_upd I.ext hs (I.newC x c hcx) (I.gC x c hcx)) (box_upd I.box hs (I.bC x c hcx)) hs (.inr ⟨x, hcx⟩) hn hc (hn.sameBut hs (Nat.ne_of_lt hLc)) ⟨fun y c' e => ?_, hc.apart, hc.above⟩ hv ho ?_ fun y hy => ?_
    · by_cases hy : y = x
      · subst hy; rw [hcx] at e; cases e; simpa using hv'
      · have : c' ≠ c := Cl.ne hc e hcx hy
        simpa [hy] using (hc.cell y c' e).sameBut hs this
    · rw [slot_cell hk]; simp
    · simp only [slot]
      split <;> simp [hy]

theorem OwnAt.keep {i : Nat} {x : Str} {o : Option V} {m cm m' cm' : Str → Option Value} {b : Addr} {h' : Heap} {tk : Nat} (hF : Fok F) (hi : F.ns[i]? = some x) (hs : Heap.SameBut b s.heap h') (hb : b = F.L ∨ ∃ y, F.cells.lookup y = some b)
    (h2 : ∀ y, y ≠ x → slot F.sc m' cm' y = slot F.sc m cm y) (ho : OwnAt β s₀ F hd ρ own g s m cm) (hno : noOwn own i) : OwnAt β s₀ F hd (ρ.set i o) own g { s with heap := h', toks := tk } m' cm' := by
  cases own with
  | none => trivial
  | some p =>
    obtain ⟨j, xs⟩ := p
    obtain ⟨h0, y, oa, vs, h1, hs2, ⟨n, h3⟩, h4, h5, h6, h7, h8, h9, h10, h11⟩ := ho
    have hji : i ≠ j := fun q => hno q.symm
    have hyx : y ≠ x := by
      rintro rfl
      exact hji ((List.getElem?_inj (List.getElem?_eq_some_iff.mp hi).1 hF.nodup).mp (hi.trans h1.symm))
    refine ⟨fun z => by rw [List.getElem?_set_ne hji]; exact h0 z, y, oa, vs, h1, (h2 y hyx).trans hs2, ⟨n, (hs.2 oa ?_).trans h3⟩, h4, h5, h6, h7, h8, h9, h10, h11⟩
    rcases hb with rfl | ⟨z, hz⟩
    · exact h8
    · exact h9 z b hz

theorem Iv.store (hF : Fok F) (I : Iv W β s₀ g₀ F hd ρ own σ g s) {i : Nat} {x : Str} {v : Value} {X : V} (hi : F.ns[i]? = some x) (hx : okVar F.sc x = true) (hno : noOwn own i) (hr : Rep W g β v X) {Q : Unit → Shared → Prop}
    (h : ∀ h' tk, Iv W β s₀ g₀ F hd (ρ.set i (some X)) own σ g { s with heap := h', toks := tk } → Q () { s with heap := h', toks := tk }) : wpAny M A (storeName F.env x v) Q Ex s :=
  I.storeRaw hF hx fun h' tk m cm m' cm' b e1 e2 hs hb hn hc hn' hc' hv ho h1 h2 => h h' tk
    ⟨e1, I.base, e2, I.newL, I.newC, I.gL, I.gC, I.bL, I.bC, held_upd I hs hb, m', cm', hn', hc', vars_set hF hi h1 h2 hr hv, ho.keep hF hi hs hb h2 hno⟩

/-- a fresh list laid into a name, to be grown -/
theorem Iv.storeOwn (hF : Fok F) (I : Iv W β s₀ g₀ F hd ρ none σ g s) {i : Nat} {x : Str} {oa : Addr} {vs : List Value} {xs : List Int} (hi : F.ns[i]? = some x) (hx : okVar F.sc x = true)
    (hp : s.heap.PlainList oa vs.toArray) (hvs : IntsAre vs xs) (hl : xs.length ≤ sizeLine) (hg : g oa = none) (h0 : s₀.heap.get? oa = none) (hL : oa ≠ F.L) (hC : ∀ y c, F.cells.lookup y = some c → oa ≠ c) (hb : some oa ≠ β) (hhd : hd oa = none) {Q : Unit → Shared → Prop}
    (h : ∀ h' tk, Iv W β s₀ g₀ F hd (ρ.set i none) (some (i, xs)) σ g { s with heap := h', toks := tk } → Q () { s with heap := h', toks := tk }) : wpAny M A (storeName F.env x (.ref oa)) Q Ex s :=
  I.storeRaw hF hx fun h' tk m cm m' cm' b e1 e2 hs hbb hn hc hn' hc' hv ho h1 h2 => h h' tk
    ⟨e1, I.base, e2, I.newL, I.newC, I.gL, I.gC, I.bL, I.bC, held_upd I hs hbb, m', cm', hn', hc', fun j y V hj hV => by
      by_cases q : i = j
      · subst q
        rw [List.getElem?_set] at hV
        simp only [if_true] at hV
        split at hV <;> cases hV
      · rw [List.getElem?_set_ne q] at hV
        have : y ≠ x := by
          rintro rfl
          exact q ((List.getElem?_inj (List.getElem?_eq_some_iff.mp hi).1 hF.nodup).mp (hi.trans hj.symm))
        obtain ⟨v', h3, h4⟩ := hv j y V hj hV
        exact ⟨v', (h2 y this).trans h3, h4⟩, by
      obtain ⟨n, hp⟩ := hp
      refine ⟨fun z => ?_, x, oa, vs, hi, h1, ⟨n, (hs.2 oa ?_).trans hp⟩, hvs, hl, hg, h0, hL, hC, hb, hhd⟩
      · rw [List.getElem?_set]
        simp only [if_true]
        split <;> simp
      · rcases hbb with rfl | ⟨z, hz⟩
        · exact hL
        · exact hC z b hz⟩
end
end
section
open PySem PySem.Spec PySem.W PyProof.Rows PyProof.V PySem.SeqAt

section
variable {prog : Program} {w : World} {A : Around} {E : Value → Shared → Prop} {s : Shared}

theorem addL {l b : Addr} {vs ws : List Value} {Q : Value → Shared → Prop} (hl : s.heap.IsList l vs.toArray) (hb : s.heap.IsList b ws.toArray)
    (h : Q (.ref s.heap.objs.size) { s with heap := s.heap.push { cls := .type "list", data := .seq (vs ++ ws).toArray } }) (hsz : vs.length + ws.length ≤ sizeLine) : wpAny (model prog w) A (binaryOp .Add (.ref l) (.ref b)) Q E s := by
  obtain ⟨⟨cls, dd, data, sl⟩, ho, hc, n, hd⟩ := id hl
  obtain ⟨⟨cls2, dd2, data2, sl2⟩, ho2, hc2, n2, hd2⟩ := id hb
  simp only at hc hd hc2 hd2
  subst hc hd hc2 hd2
  have e : vs.toArray ++ ws.toArray = (vs ++ ws).toArray := by simp
  refine concat_meets ⟨_, ho, rfl⟩ ⟨_, ho2, rfl⟩ noFill_list_add seq_list_add PySem.F.slot_list_add PySem.F.entry_list_add (PySem.F.args_list_add_2 _ _) (list_addW l b vs.toArray ws.toArray n n2 dd dd2 sl sl2 (by simpa using hsz)) ⟨ho, ho2, ?_⟩
  rw [e]
  exact h

theorem mulL {l : Addr} {vs : List Value} {x : Int} {u : Tok} {Q : Value → Shared → Prop} (hl : s.heap.IsList l vs.toArray)
    (hlo : -(2 ^ 63 : Int) ≤ x) (hhi : x < 2 ^ 63) (hsz : vs.length * x.toNat ≤ 2 ^ 24)
    (h : Q (.ref s.heap.objs.size) { s with heap := s.heap.push { cls := .type "list", data := .seq (List.replicate x.toNat vs).flatten.toArray } }) :
    wpAny (model prog w) A (binaryOp .Mult (.ref l) (.int x u)) Q E s := by
  obtain ⟨⟨cls, d, data, sl⟩, ho, hcl, k, hd⟩ := id hl
  simp only at hcl hd
  subst hcl hd
  have hsz' : vs.toArray.size * x.toNat ≤ 2 ^ 24 := by simpa using hsz
  refine wpAny_binaryOp_repeat_ref (T := "list") (U := "int") (by decide) ⟨_, ho, rfl⟩ (fun s' => typeIs_int s' x u) noFill_list_mul F.fills_int_mul F.slot_int_rmul repeat_list F.slot_int_index.lookup
    (PySem.call_meets F.slot_int_rmul (typeIs_int s x u) F.entry_int_rmul (F.args_int_rmul_2 _ _) (lm_int_rmul_list_any x u l vs.toArray k d sl)
      ⟨ho, rfl, ⟨_, ho, rfl⟩, PySem.call_meets F.slot_list_mul ⟨_, ho, rfl⟩ F.entry_list_mul (F.args_list_mul_2 _ _)
        (lm_list_mul_any l vs.toArray k d sl x u (by simp [Builtin.List.listFitsIndex]; omega) (by omega) (by simp [Builtin.List.listTooLong, sizeLine]; omega))
        ⟨ho, ?_⟩⟩)
  have e : List.foldl (fun x1 x2 => x1 ++ x2) #[] (List.replicate (if vs.toArray.isEmpty = true then 0 else x.toNat) vs.toArray) = (List.replicate x.toNat vs).flatten.toArray := listMul_foldl_if vs.toArray x.toNat
  rw [e]
  exact h
end

theorem readsInts {h : Heap} : ∀ {vs : List Value} {ns : List Int}, IntsAre vs ns → ReadsAll h vs (ns.map PyData.int) []
  | _, _, .nil => .nil
  | _, _, .cons k t r => by
    have := ReadsAll.cons (Reads.int (h := h) k t) (readsInts (h := h) r)
    simpa using this
theorem readsL {h : Heap} {a : Addr} {vs : List Value} {ns : List Int} (hl : h.IsList a vs.toArray) (hi : IntsAre vs ns) : Reads h (.ref a) (.list (ns.map PyData.int)) [a] := by
  obtain ⟨o, ho, hc, n, hd⟩ := hl
  exact Reads.list ho hc hd (by simpa using readsInts hi)
theorem canLayI : ∀ ns : List Int, PyData.canLayAll0 (ns.map PyData.int) = true
  | [] => by simp [PyData.canLayAll0]
  | n :: r => by simp [PyData.canLayAll0, PyData.canLay0, canLayI r]
theorem depthI : ∀ ns : List Int, PyData.depthAll (ns.map PyData.int) ≤ 1
  | [] => by simp [PyData.depthAll]
  | n :: r => by
    have := depthI r
    simp only [List.map_cons, PyData.depthAll, PyData.depth]
    omega
theorem shapedI (ns : List Int) : shaped (.list (ns.map PyData.int)) = true := by
  have h1 := depthI ns
  have h2 : PyData.depth (.list (ns.map PyData.int)) ≤ 64 := by simp only [PyData.depth]; omega
  show (PyData.canLay0 (.list (ns.map PyData.int)) && decide (PyData.depth (.list (ns.map PyData.int)) ≤ 64)) = true
  rw [Bool.and_eq_true]
  exact ⟨by simp only [PyData.canLay0]; exact canLayI ns, decide_eq_true h2⟩
theorem noMixI : ∀ ns ms : List Int, noMixAll (ns.map PyData.int) (ms.map PyData.int) = true
  | [], [] => by simp [noMixAll]
  | [], _ :: _ => by simp [noMixAll]
  | _ :: _, [] => by simp [noMixAll]
  | _ :: r, _ :: q => by simp [noMixAll, noMix, noMixI r q]
theorem sameI : ∀ ns ms : List Int, PySem.Spec.sameAll (ns.map PyData.int) (ms.map PyData.int) = decide (ns = ms)
  | [], [] => by simp [PySem.Spec.sameAll]
  | [], _ :: _ => by simp [PySem.Spec.sameAll]
  | _ :: _, [] => by simp [PySem.Spec.sameAll]
  | n :: r, k :: q => by
    simp only [List.map_cons, PySem.Spec.sameAll, PySem.Spec.same, sameI r q]
    by_cases h : n = k <;> simp [h]

section
variable {prog : Program} {w : World} {A : Around} {E : Value → Shared → Prop} {s : Shared}
theorem eqL {a b : Addr} {vs us : List Value} {ns ms : List Int} {Q : Value → Shared → Prop} (hl : s.heap.IsList a vs.toArray) (hi : IntsAre vs ns) (hl' : s.heap.IsList b us.toArray) (hi' : IntsAre us ms) (hu : A.units + 64 < cLine)
    (h : Q (.bool (decide (ns = ms))) s) : wpAny (model prog w) A (compareOp .Eq (.ref a) (.ref b)) Q E s :=
  eq_dataH_same (readsL hl hi) (readsL hl' hi') (shapedI ns) (shapedI ms) hu (by simp only [noMix]; exact noMixI ns ms) (by simp only [PySem.Spec.same]; rw [sameI]; exact h)
theorem neL {a b : Addr} {vs us : List Value} {ns ms : List Int} {Q : Value → Shared → Prop} (hl : s.heap.IsList a vs.toArray) (hi : IntsAre vs ns) (hl' : s.heap.IsList b us.toArray) (hi' : IntsAre us ms) (hu : A.units + 64 < cLine)
    (h : Q (.bool (!decide (ns = ms))) s) : wpAny (model prog w) A (compareOp .NotEq (.ref a) (.ref b)) Q E s :=
  ne_dataH_same (readsL hl hi) (readsL hl' hi') (shapedI ns) (shapedI ms) hu (by simp only [noMix]; exact noMixI ns ms) (by simp only [PySem.Spec.same]; rw [sameI]; exact h)
end

theorem LsAt.isList {g : FH} {h : Heap} {a : Addr} {xs : List Int} (k : In g h) (x : LsAt g a xs) : ∃ vs : List Value, h.IsList a vs.toArray ∧ IntsAre vs xs ∧ vs.length = xs.length ∧ xs.length ≤ sizeLine := by
  obtain ⟨o, vs, n, h1, h2, h3, h4, h5⟩ := x
  exact ⟨vs, ⟨o, k _ _ h1, h2, n, h3⟩, h4, h4.length, h5⟩

theorem lsAt_put {g : FH} {a : Addr} {vs : List Value} {xs : List Int} (hi : IntsAre vs xs) (hl : xs.length ≤ sizeLine) : LsAt (put g a { cls := .type "list", data := .seq vs.toArray }) a xs :=
  ⟨_, vs, 0, put_self .., rfl, rfl, hi, hl⟩

theorem size_none (h : Heap) : h.get? h.objs.size = none := by
  cases q : h.get? h.objs.size with
  | none => rfl
  | some o => exact absurd (Heap.lt_size q) (Nat.lt_irrefl _)

theorem intsAre_rep {vs : List Value} {ns : List Int} (h : IntsAre vs ns) : ∀ k : Nat, IntsAre (List.replicate k vs).flatten (List.replicate k ns).flatten
  | 0 => .nil
  | k + 1 => by
    simp only [List.replicate_succ, List.flatten_cons]
    exact h.append (intsAre_rep h k)

theorem log2_lt {n k : Nat} (h : n < 2 ^ k) (hk : 0 < k) : n.log2 < k := by
  by_cases h0 : n = 0
  · subst h0; simpa using hk
  · exact (Nat.log2_lt h0).mpr h

theorem intBits_lt {a : Int} {k : Nat} (h : a.natAbs < 2 ^ k) : Builtin.Int.intBits a ≤ k := by
  unfold Builtin.Int.intBits
  split
  · exact Nat.zero_le _
  · rename_i h0
    have h0' : a.natAbs ≠ 0 := fun q => h0 (by simpa using q)
    have := (Nat.log2_lt h0').mpr h
    omega

theorem mulOk {a b : Int} (h : a.natAbs < 2 ^ 64 ∨ b.natAbs < 2 ^ 64 ∨ ∃ k, k ≤ 1000000 ∧ a.natAbs < 2 ^ k ∧ b.natAbs < 2 ^ k) : IntMulOk a b := by
  rcases h with h | h | ⟨k, hk, ha, hb⟩
  · exact .of_left (intBits_lt h)
  · exact .of_right (intBits_lt h)
  · have h1 := intBits_lt ha
    have h2 := intBits_lt hb
    unfold IntMulOk Builtin.Int.intTooBig
    have : decide (((Builtin.Int.intBits a + Builtin.Int.intBits b : Nat) : Int) > (bitsLine : Int)) = false := decide_eq_false (by
      have : bitsLine = 134217728 := rfl
      omega)
    intro q
    simp only [Bool.and_eq_true] at q
    have q2 := q.2
    simp only [Int.natCast_add] at this
    rw [this] at q2
    cases q2

section
variable {W : Wd} {β : Option Addr} {g : FH} {s : Shared} {σ : Bx} {A : Around} {Ex : Value → Shared → Prop}

/-- a new list of ints handed back -/
theorem Post.lst {Q : V → Bx → Prop} {vs : List Value} {xs : List Int} {tk : Nat} (hg : In g s.heap) (hb : BoxAt β σ g s) (hi : IntsAre vs xs) (hl : xs.length ≤ sizeLine) (hq : Q (.list xs) σ) :
    Post W β g s Q (.ref s.heap.objs.size) { s with heap := s.heap.push { cls := .type "list", data := .seq vs.toArray }, toks := tk } :=
  Post.made (x := .list xs) hg (fun _ _ e => Heap.get?_push_of_some _ e) (size_none _) (Heap.get?_push_size _ rfl) hb ⟨_, rfl, lsAt_put hi hl⟩ hq

theorem Post.tok {Q : V → Bx → Prop} {r : Value} {x : V} {tk : Nat} (hg : In g s.heap) (hb : BoxAt β σ g s) (hr : Rep W g β r x) (hq : Q x σ) : Post W β g s Q r { s with toks := tk } :=
  Post.plain (h' := s.heap) hg (fun _ _ e => e) hb hr hq

theorem WBin_sound {op : Operator} {x y : V} {a b : Value} {Q : V → Bx → Prop} (hg : In g s.heap) (hb : BoxAt β σ g s) (ha : Rep W g β a x) (hb' : Rep W g β b y) (h : WBin op x y Q σ) :
    wpAny W.M A (binaryOp op a b) (Post W β g s Q) Ex s := by
  cases x <;> first | exact h.elim | skip
  all_goals (cases y <;> first | exact h.elim | skip)
  case int.int i j =>
    obtain ⟨t, rfl⟩ := ha
    obtain ⟨u, rfl⟩ := hb'
    have T : ∀ k, Q (.int k) σ → Post W β g s Q (.int k s.toks) { s with toks := s.toks + 1 } := fun k q => Post.tok (x := .int k) hg hb ⟨_, rfl⟩ q
    cases op <;> first | exact h.elim | skip
    · exact PyProof.Rows.add_int (T _ h)
    · exact PyProof.Rows.sub_int (T _ h)
    · exact PySem.P.mul_int (T _ h.2) (mulOk h.1)
    · exact PyProof.Rows.mod_int h.1 (T _ h.2)
    · exact PyProof.Rows.pow_int_small h.1 h.2.1 h.2.2.1 (T _ h.2.2.2)
    · exact PyProof.Rows.lshift_int_small h.1 h.2.1 h.2.2.1 (T _ h.2.2.2)
    · exact PyProof.Rows.rshift_int h.1 (T _ h.2)
    · exact PyProof.Rows.or_int (T _ h)
    · exact PyProof.Rows.and_int (T _ h)
    · obtain ⟨h1, ⟨k, hk, h2⟩, h3⟩ := h
      refine PyProof.Rows.floordiv_int h1 (T _ h3) (.inl (PyProof.noPylong_of_log2 ?_))
      by_cases h0 : 0 < k
      · have := log2_lt h2 h0; omega
      · have : k = 0 := by omega
        subst this
        have : j.natAbs = 0 := by simpa using h2
        rw [this]; decide +kernel
  case list.int xs n =>
    obtain ⟨l, rfl, hl⟩ := ha
    obtain ⟨u, rfl⟩ := hb'
    cases op <;> first | exact h.elim | skip
    obtain ⟨h1, h2, h3, h4⟩ := h
    obtain ⟨vs, h5, h6, h7, h8⟩ := hl.isList hg
    refine mulL h5 (by omega) (by omega) (by rw [h7]; exact h3) (Post.lst hg hb (intsAre_rep h6 _) ?_ h4)
    have : (List.replicate n.toNat xs).flatten.length = n.toNat * xs.length := by simp
    rw [this, Nat.mul_comm]; exact h3
  case list.list xs ys =>
    obtain ⟨l, rfl, hl⟩ := ha
    obtain ⟨l', rfl, hl'⟩ := hb'
    cases op <;> first | exact h.elim | skip
    obtain ⟨vs, h5, h6, h7, h8⟩ := hl.isList hg
    obtain ⟨us, h5', h6', h7', h8'⟩ := hl'.isList hg
    exact addL h5 h5' (Post.lst hg hb (h6.append h6') (by simpa using h.1) h.2) (by rw [h7, h7']; exact h.1)

theorem WAug_sound {op : Operator} {x y : V} {a b : Value} {Q : V → Bx → Prop} (hg : In g s.heap) (hb : BoxAt β σ g s) (ha : Rep W g β a x) (hb' : Rep W g β b y) (h : WAug op x y Q σ) :
    wpAny W.M A (inplaceOp op a b) (Post W β g s Q) Ex s := by
  cases x <;> first | exact h.elim | skip
  all_goals (cases y <;> first | exact h.elim | skip)
  obtain ⟨t, rfl⟩ := ha
  obtain ⟨u, rfl⟩ := hb'
  have T : ∀ k, Q (.int k) σ → Post W β g s Q (.int k s.toks) { s with toks := s.toks + 1 } := fun k q => Post.tok (x := .int k) hg hb ⟨_, rfl⟩ q
  cases op <;> first | exact h.elim | skip
  · exact PyProof.Rows.iadd_int (T _ h)
  · exact PyProof.Rows.isub_int (T _ h)
  · exact PyProof.Rows.irshift_int h.1 (T _ h.2)
  · exact PyProof.Rows.ior_int (T _ h)

theorem WCmp_sound {op : CmpOp} {x y : V} {a b : Value} {Q : Bool → Bx → Prop} {P : Value → Shared → Prop} (hg : In g s.heap) (hu : A.units + 64 < cLine) (ha : Rep W g β a x) (hb' : Rep W g β b y) (h : WCmp op x y Q σ)
    (hP : ∀ c, Q c σ → P (.bool c) s) : wpAny W.M A (compareOp op a b) P Ex s := by
  cases x <;> first | exact h.elim | skip
  all_goals (cases y <;> first | exact h.elim | skip)
  case int.int i j =>
    obtain ⟨t, rfl⟩ := ha
    obtain ⟨u, rfl⟩ := hb'
    cases op <;> first | exact h.elim | skip
    · exact PyProof.Rows.eq_int (hP _ h)
    · exact PyProof.Rows.ne_int (hP _ h)
    · exact PySem.P.lt_int (hP _ h)
    · exact PySem.P.le_int (hP _ h)
    · exact PySem.P.gt_int (hP _ h)
    · exact PySem.P.ge_int (hP _ h)
  case bool.bool c d =>
    subst ha hb'
    cases op <;> first | exact h.elim | skip
    exact PyProof.Rows.ne_bool (hP _ h)
  case str.str c d =>
    obtain ⟨t, rfl⟩ := ha
    obtain ⟨u, rfl⟩ := hb'
    cases op <;> first | exact h.elim | skip
    exact PySem.P.ne_str (hP _ h)
  case list.list xs ys =>
    obtain ⟨l, rfl, hl⟩ := ha
    obtain ⟨l', rfl, hl'⟩ := hb'
    obtain ⟨vs, h5, h6, h7, h8⟩ := hl.isList hg
    obtain ⟨us, h5', h6', h7', h8'⟩ := hl'.isList hg
    cases op <;> first | exact h.elim | skip
    · exact eqL h5 h6 h5' h6' hu (hP _ h)
    · exact neL h5 h6 h5' h6' hu (hP _ h)
end
end
section
open PySem PySem.Spec PySem.W PyProof.Rows PyProof.V PySem.SeqAt

section
variable {prog : Program} {w : World} {A : Around} {E : Value → Shared → Prop} {s : Shared}
theorem subscripted_any {slice : Expr} {o i : Value} {Q : Value → Shared → Prop} (h : wpAny (model prog w) A (getItem o i) Q E s) : wpAny (model prog w) A (subscripted slice false o i) Q E s := by
  unfold subscripted
  split
  · exact wpAny_operating h
  · rename_i h1; cases h1
  · exact wpAny_operating h

theorem subTail {value slice : Expr} {o i : Value} {T id : String} {Q : Value → Shared → Prop} (hT : s.TypeIs o T)
    (hl : typeLookup (.type T) "__getitem__" = pure (some (.builtin id))) (h : wpAny (model prog w) A (getItem o i) Q E s) :
    wpAny (model prog w) A (subscriptTail value slice o i) Q E s := by
  unfold subscriptTail
  refine wpAny_bind ?_
  rw [getitemInPython_of_ne hT.not_modules]
  refine wpAny_bind (wpAny_specialOf hT hl ?_)
  have fin : wpAny (model prog w) A (subscripted slice false o i) (fun r s₃ => wpAny (model prog w) A (letTemporaryGo value o r >>= fun _ => pure r) Q E s₃) E s :=
    subscripted_any (wpAny_mono h (fun r s₃ h₃ => wpAny_bind (wpAny_letTemporaryGo (wpAny_pure h₃))) fun _ _ x => x)
  first
    | exact wpAny_pure (wpAny_bind fin)
    | exact wpAny_bind (wpAny_pure (wpAny_bind fin))
    | exact wpAny_bind fin
end

theorem intsItem {vs : List Value} {xs : List Int} (h : IntsAre vs xs) : ∀ i : Nat, i < xs.length → ∃ t, vs[i]? = some (.int (xs.getD i 0) t) := by
  induction h with
  | nil => intro i hi; exact absurd hi (Nat.not_lt_zero _)
  | cons n t r ih =>
    intro i hi
    cases i with
    | zero => exact ⟨t, rfl⟩
    | succ j =>
      obtain ⟨t', e⟩ := ih j (by simpa using hi)
      exact ⟨t', by simpa using e⟩

theorem sizeLine_n : sizeLine = 16777216 := rfl
theorem p63 : (2 : Int) ^ 63 = 9223372036854775808 := rfl

section
variable {W : Wd} {β : Option Addr} {g : FH} {s : Shared} {σ : Bx} {A : Around} {Ex : Value → Shared → Prop}

theorem WSub_sound {value slice : Expr} {x y : V} {a b : Value} {Q : V → Bx → Prop} (hg : In g s.heap) (hb : BoxAt β σ g s) (ha : Rep W g β a x) (hb' : Rep W g β b y) (h : WSub x y Q σ) :
    wpAny W.M A (subscriptTail value slice a b) (Post W β g s Q) Ex s := by
  cases x <;> first | exact h.elim | skip
  all_goals (cases y <;> first | exact h.elim | skip)
  case list.int xs i =>
    obtain ⟨l, rfl, hl⟩ := ha
    obtain ⟨u, rfl⟩ := hb'
    obtain ⟨vs, h5, h6, h7, h8⟩ := hl.isList hg
    rw [sizeLine_n] at h8
    refine subTail h5.typeIs slot_list_getitem.lookup ?_
    rcases h with ⟨h0, h1, h2⟩ | ⟨h0, h1, h2⟩
    · obtain ⟨t, e⟩ := intsItem h6 i.toNat (by omega)
      exact wpAny_getItem_list h5 h0 (by rw [p63]; omega) (by simpa using e) (Post.tok (tk := s.toks) (x := .int _) hg hb ⟨_, rfl⟩ h2)
    · obtain ⟨t, e⟩ := intsItem h6 (i + xs.length).toNat (by omega)
      exact wpAny_getItem_list_neg h5 h0 (by simpa [h7] using h1) (by rw [p63]; omega) (by simpa [h7] using e) (Post.tok (tk := s.toks) (x := .int _) hg hb ⟨_, rfl⟩ h2)
  case box.int i =>
    obtain ⟨bx, rfl, rfl⟩ := ha
    obtain ⟨u, rfl⟩ := hb'
    obtain ⟨_, o, vs, n, h1, h2, h3, h4⟩ := id hb bx rfl
    have hl : s.heap.IsList bx vs.toArray := ⟨o, h1, h2, n, h3⟩
    refine subTail hl.typeIs slot_list_getitem.lookup ?_
    rcases h with ⟨rfl, h2⟩ | ⟨rfl, h2⟩
    · obtain ⟨t, e⟩ := intsItem h4 0 (show 0 < 2 by decide)
      exact wpAny_getItem_list hl (by omega) (by rw [p63]; omega) (by simpa using e) (Post.tok (tk := s.toks) (x := .int _) hg hb ⟨_, rfl⟩ h2)
    · obtain ⟨t, e⟩ := intsItem h4 1 (show 1 < 2 by decide)
      exact wpAny_getItem_list hl (by omega) (by rw [p63]; omega) (by simpa using e) (Post.tok (tk := s.toks) (x := .int _) hg hb ⟨_, rfl⟩ h2)

theorem Post.rng {Q : V → Bx → Prop} {a b c : Int} {t u v : Tok} {tk : Nat} (hg : In g s.heap) (hb : BoxAt β σ g s) (hq : Q (.rng a b c) σ) :
    Post W β g s Q (.ref s.heap.objs.size) { s with heap := s.heap.push { cls := .type "range", data := .fields #[.int a t, .int b u, .int c v] }, toks := tk } :=
  Post.made (x := .rng a b c) hg (fun _ _ e => Heap.get?_push_of_some _ e) (size_none _) (Heap.get?_push_size _ rfl) hb ⟨_, t, u, v, rfl, put_self ..⟩ hq

theorem Reps.one {vs : List Value} {x : V} (h : Reps W g β vs [x]) : ∃ v, vs = [v] ∧ Rep W g β v x := by
  cases vs with
  | nil => exact h.elim
  | cons v r => cases r with
    | nil => exact ⟨v, rfl, h.1⟩
    | cons _ _ => exact h.2.elim
theorem Reps.two {vs : List Value} {x y : V} (h : Reps W g β vs [x, y]) : ∃ v u, vs = [v, u] ∧ Rep W g β v x ∧ Rep W g β u y := by
  cases vs with
  | nil => exact h.elim
  | cons v r =>
    obtain ⟨u, rfl, h'⟩ := Reps.one h.2
    exact ⟨v, u, rfl, h.1, h'⟩
theorem Reps.three {vs : List Value} {x y z : V} (h : Reps W g β vs [x, y, z]) : ∃ v u t, vs = [v, u, t] ∧ Rep W g β v x ∧ Rep W g β u y ∧ Rep W g β t z := by
  cases vs with
  | nil => exact h.elim
  | cons v r =>
    obtain ⟨u, t, rfl, h', h''⟩ := Reps.two h.2
    exact ⟨v, u, t, rfl, h.1, h', h''⟩

theorem len_sound {x : V} {vs : List Value} {Q : V → Bx → Prop} (hg : In g s.heap) (hb : BoxAt β σ g s) (ha : Reps W g β vs [x]) (h : WBi .len [x] Q σ) :
    wpAny W.M A (PySem.call (.builtin "len") vs) (Post W β g s Q) Ex s := by
  obtain ⟨v, rfl, hv⟩ := Reps.one ha
  cases x <;> first | exact h.elim | skip
  rename_i xs
  obtain ⟨l, rfl, hl⟩ := hv
  obtain ⟨vs, h5, h6, h7, h8⟩ := hl.isList hg
  rw [sizeLine_n] at h8
  have e : (vs.toArray.size : Int) = xs.length := by simp [h7]
  refine PyProof.Rows.len_list h5 (by rw [e, p63]; omega) ?_
  rw [e]
  exact Post.tok (x := .int _) hg hb ⟨_, rfl⟩ h
theorem range1_sound {x : V} {vs : List Value} {Q : V → Bx → Prop} (hg : In g s.heap) (hb : BoxAt β σ g s) (ha : Reps W g β vs [x]) (h : WBi .range [x] Q σ) :
    wpAny W.M A (PySem.call (.type "range") vs) (Post W β g s Q) Ex s := by
  obtain ⟨v, rfl, hv⟩ := Reps.one ha
  cases x <;> first | exact h.elim | skip
  obtain ⟨u, rfl⟩ := hv
  exact call_range_1 (Post.rng hg hb h.2)
theorem range2_sound {x y : V} {vs : List Value} {Q : V → Bx → Prop} (hg : In g s.heap) (hb : BoxAt β σ g s) (ha : Reps W g β vs [x, y]) (h : WBi .range [x, y] Q σ) :
    wpAny W.M A (PySem.call (.type "range") vs) (Post W β g s Q) Ex s := by
  obtain ⟨v, v', rfl, hv, hv'⟩ := Reps.two ha
  cases x <;> first | exact h.elim | skip
  all_goals (cases y <;> first | exact h.elim | skip)
  obtain ⟨u, rfl⟩ := hv
  obtain ⟨u', rfl⟩ := hv'
  exact call_range_2 (Post.rng hg hb h.2.2)
theorem range3_sound {a b c : Int} {vs : List Value} {Q : V → Bx → Prop} (hg : In g s.heap) (hb : BoxAt β σ g s) (ha : Reps W g β vs [.int a, .int b, .int c]) (h : WBi .range [.int a, .int b, .int c] Q σ) :
    wpAny W.M A (PySem.call (.type "range") vs) (Post W β g s Q) Ex s := by
  obtain ⟨v, v', v'', rfl, ⟨u, rfl⟩, ⟨u', rfl⟩, ⟨u'', rfl⟩⟩ := Reps.three ha
  obtain ⟨h1, h2, rfl, h3⟩ := h
  exact call_range_3 (by decide) (Post.rng hg hb h3) (.inl (PyProof.noPylong_small (by decide)))
theorem min_sound {x y : V} {vs : List Value} {Q : V → Bx → Prop} (hg : In g s.heap) (hb : BoxAt β σ g s) (hh : A.handled = none) (ha : Reps W g β vs [x, y]) (h : WBi .min [x, y] Q σ) :
    wpAny W.M A (PySem.call (.builtin "min") vs) (Post W β g s Q) Ex s := by
  obtain ⟨v, v', rfl, hv, hv'⟩ := Reps.two ha
  cases x <;> first | exact h.elim | skip
  all_goals (cases y <;> first | exact h.elim | skip)
  rename_i a b
  obtain ⟨u, rfl⟩ := hv
  obtain ⟨u', rfl⟩ := hv'
  refine min_two_ints hh fun h' tk k => ?_
  refine Post.plain hg k hb (x := .int (if b < a then b else a)) ?_ h
  split
  · exact ⟨_, rfl⟩
  · exact ⟨_, rfl⟩
theorem max_sound {x y : V} {vs : List Value} {Q : V → Bx → Prop} (hg : In g s.heap) (hb : BoxAt β σ g s) (hh : A.handled = none) (ha : Reps W g β vs [x, y]) (h : WBi .max [x, y] Q σ) :
    wpAny W.M A (PySem.call (.builtin "max") vs) (Post W β g s Q) Ex s := by
  obtain ⟨v, v', rfl, hv, hv'⟩ := Reps.two ha
  cases x <;> first | exact h.elim | skip
  all_goals (cases y <;> first | exact h.elim | skip)
  rename_i a b
  obtain ⟨u, rfl⟩ := hv
  obtain ⟨u', rfl⟩ := hv'
  refine max_two_ints hh fun h' tk k => ?_
  refine Post.plain hg k hb (x := .int (if a < b then b else a)) ?_ h
  by_cases q : b > a
  · rw [if_pos q, if_pos (show a < b from q)]; exact ⟨_, rfl⟩
  · rw [if_neg q, if_neg (show ¬ a < b from q)]; exact ⟨_, rfl⟩
theorem abs_sound {x : V} {vs : List Value} {Q : V → Bx → Prop} (hg : In g s.heap) (hb : BoxAt β σ g s) (ha : Reps W g β vs [x]) (h : WBi .abs [x] Q σ) :
    wpAny W.M A (PySem.call (.builtin "abs") vs) (Post W β g s Q) Ex s := by
  obtain ⟨v, rfl, hv⟩ := Reps.one ha
  cases x <;> first | exact h.elim | skip
  obtain ⟨u, rfl⟩ := hv
  exact PyProof.Rows.call_abs_int fun u tk => Post.tok (x := .int _) hg hb ⟨_, rfl⟩ h
theorem repr_sound {x : V} {vs : List Value} {Q : V → Bx → Prop} (hg : In g s.heap) (hb : BoxAt β σ g s) (ha : Reps W g β vs [x]) (h : WBi .repr [x] Q σ) :
    wpAny W.M A (PySem.call (.builtin "repr") vs) (Post W β g s Q) Ex s := by
  obtain ⟨v, rfl, hv⟩ := Reps.one ha
  cases x <;> first | exact h.elim | skip
  cases hv
  exact P.repr_of_bool (Post.tok (x := .str _) hg hb ⟨_, rfl⟩ h)

theorem WBi_sound {b : Bi} {xs : List V} {vs : List Value} {Q : V → Bx → Prop} (hg : In g s.heap) (hb : BoxAt β σ g s) (hh : A.handled = none) (ha : Reps W g β vs xs) (h : WBi b xs Q σ) :
    wpAny W.M A (PySem.call b.val vs) (Post W β g s Q) Ex s := by
  cases b
  case len =>
    rcases xs with _ | ⟨x, _ | ⟨y, r⟩⟩
    · exact h.elim
    · exact len_sound hg hb ha h
    · cases x <;> exact h.elim
  case range =>
    rcases xs with _ | ⟨x, _ | ⟨y, _ | ⟨z, _ | ⟨u, r⟩⟩⟩⟩
    · exact h.elim
    · exact range1_sound hg hb ha h
    · exact range2_sound hg hb ha h
    · cases x <;> first | exact h.elim | skip
      cases y <;> first | exact h.elim | skip
      cases z <;> first | exact h.elim | skip
      exact range3_sound hg hb ha h
    · cases x <;> first | exact h.elim | skip
      cases y <;> first | exact h.elim | skip
      cases z <;> exact h.elim
  case min =>
    rcases xs with _ | ⟨x, _ | ⟨y, _ | ⟨z, r⟩⟩⟩
    · exact h.elim
    · cases x <;> exact h.elim
    · exact min_sound hg hb hh ha h
    · cases x <;> first | exact h.elim | skip
      cases y <;> exact h.elim
  case max =>
    rcases xs with _ | ⟨x, _ | ⟨y, _ | ⟨z, r⟩⟩⟩
    · exact h.elim
    · cases x <;> exact h.elim
    · exact max_sound hg hb hh ha h
    · cases x <;> first | exact h.elim | skip
      cases y <;> exact h.elim
  case abs =>
    rcases xs with _ | ⟨x, _ | ⟨y, r⟩⟩
    · exact h.elim
    · exact abs_sound hg hb ha h
    · cases x <;> exact h.elim
  case repr =>
    rcases xs with _ | ⟨x, _ | ⟨y, r⟩⟩
    · exact h.elim
    · exact repr_sound hg hb ha h
    · cases x <;> exact h.elim

/-- a cut of a list, once its object stands -/
theorem cut_sound {value slice : Expr} {l sl : Addr} {xs ys : List Int} {vl vu vt : Value} {lo hi st : Option Int} {Q : V → Bx → Prop} (hg : In g s.heap) (hb : BoxAt β σ g s) (hl : LsAt g l xs)
    (hs : s.heap.IsSliceOf sl vl vu vt) (pl : IsPart vl lo) (pu : IsPart vu hi) (ps : IsPart vt st) (h0 : st ≠ some 0)
    (hy : ∀ vs : List Value, vs.length = xs.length → IntsAre vs xs → IntsAre (slicePick vs.toArray lo hi st).toList ys) (hn : ys.length ≤ xs.length) (hq : Q (.list ys) σ) :
    wpAny W.M A (subscriptTail value slice (.ref l) (.ref sl)) (Post W β g s Q) Ex s := by
  obtain ⟨vs, h5, h6, h7, h8⟩ := hl.isList hg
  refine subTail h5.typeIs slot_list_getitem.lookup (wpAny_getItem_list_slice h5 hs pl pu ps h0 ?_ (by simpa [h7] using h8))
  have e : slicePick vs.toArray lo hi st = (slicePick vs.toArray lo hi st).toList.toArray := by simp
  rw [e]
  exact Post.lst (tk := s.toks) hg hb (hy vs h7 h6) (Nat.le_trans hn h8) hq


theorem pick_plain {xs : List Int} {lo hi : Option Int} : ∀ vs : List Value, vs.length = xs.length → IntsAre vs xs →
    IntsAre (slicePick vs.toArray lo hi none).toList ((xs.drop (lo.elim 0 (clip xs.length))).take (hi.elim xs.length (clip xs.length) - lo.elim 0 (clip xs.length))) := fun vs h7 h6 => by
  rw [slicePick_plain]
  simp only [List.size_toArray, h7]
  exact (h6.drop _).take _
end

end
section
open PySem PySem.Spec PySem.W PyProof.Rows PyProof.V PySem.SeqAt

noncomputable def onCons {α : Type} (e : List α) (k : α → List α → Bool) : Bool := match e with | a :: r => k a r | [] => false
theorem onCons_ {α : Type} {e : List α} {k : α → List α → Bool} (h : onCons e k = true) : ∃ a r, e = a :: r ∧ k a r = true := by
  cases e <;> first | exact (Bool.false_ne_true h).elim | exact ⟨_, _, rfl, h⟩
noncomputable def onOne {α : Type} (e : List α) (k : α → Bool) : Bool := onCons e fun a r => r.isEmpty && k a
theorem onOne_ {α : Type} {e : List α} {k : α → Bool} (h : onOne e k = true) : ∃ a, e = [a] ∧ k a = true := by
  obtain ⟨a, r, rfl, h⟩ := onCons_ h
  cases r <;> first | exact (Bool.false_ne_true h).elim | exact ⟨_, rfl, h⟩
noncomputable def onTwo {α : Type} (e : List α) (k : α → α → Bool) : Bool := onCons e fun a r => onOne r fun b => k a b
theorem onTwo_ {α : Type} {e : List α} {k : α → α → Bool} (h : onTwo e k = true) : ∃ a b, e = [a, b] ∧ k a b = true := by
  obtain ⟨a, r, rfl, h⟩ := onCons_ h
  obtain ⟨b, rfl, h⟩ := onOne_ h
  exact ⟨_, _, rfl, h⟩
noncomputable def onSome {α : Type} (e : Option α) (k : α → Bool) : Bool := match e with | some a => k a | none => false
theorem onSome_ {α : Type} {e : Option α} {k : α → Bool} (h : onSome e k = true) : ∃ a, e = some a ∧ k a = true := by
  cases e <;> first | exact (Bool.false_ne_true h).elim | exact ⟨_, rfl, h⟩
noncomputable def onBo (e : PySem.Expr) (k : BoolOp → List PySem.Expr → Pos → Bool) : Bool := if h : e.ctorIdx = 0 then PySem.Expr.BoolOp.elim (motive_1 := fun _ => Bool) e h (fun o vs p => k o vs p) else false
theorem onBo_ {e : PySem.Expr} {k : BoolOp → List PySem.Expr → Pos → Bool} (h : onBo e k = true) : ∃ o vs p, e = .BoolOp o vs p ∧ k o vs p = true := by
  by_cases hi : e.ctorIdx = 0
  · exact PySem.Expr.BoolOp.elim (motive_1 := fun e => onBo e k = true → ∃ o vs p, e = .BoolOp o vs p ∧ k o vs p = true) e hi (fun o vs p h => ⟨o, vs, p, rfl, h⟩) h
  · exact ((dif_neg hi).symm.trans h |> Bool.false_ne_true).elim
noncomputable def onBin (e : PySem.Expr) (k : PySem.Expr → Operator → PySem.Expr → Pos → Bool) : Bool := if h : e.ctorIdx = 2 then PySem.Expr.BinOp.elim (motive_1 := fun _ => Bool) e h (fun a o b p => k a o b p) else false
theorem onBin_ {e : PySem.Expr} {k : PySem.Expr → Operator → PySem.Expr → Pos → Bool} (h : onBin e k = true) : ∃ a o b p, e = .BinOp a o b p ∧ k a o b p = true := by
  by_cases hi : e.ctorIdx = 2
  · exact PySem.Expr.BinOp.elim (motive_1 := fun e => onBin e k = true → ∃ a o b p, e = .BinOp a o b p ∧ k a o b p = true) e hi (fun a o b p h => ⟨a, o, b, p, rfl, h⟩) h
  · exact ((dif_neg hi).symm.trans h |> Bool.false_ne_true).elim
noncomputable def onUn (e : PySem.Expr) (k : UnaryOp → PySem.Expr → Pos → Bool) : Bool := if h : e.ctorIdx = 3 then PySem.Expr.UnaryOp.elim (motive_1 := fun _ => Bool) e h (fun o a p => k o a p) else false
theorem onUn_ {e : PySem.Expr} {k : UnaryOp → PySem.Expr → Pos → Bool} (h : onUn e k = true) : ∃ o a p, e = .UnaryOp o a p ∧ k o a p = true := by
  by_cases hi : e.ctorIdx = 3
  · exact PySem.Expr.UnaryOp.elim (motive_1 := fun e => onUn e k = true → ∃ o a p, e = .UnaryOp o a p ∧ k o a p = true) e hi (fun o a p h => ⟨o, a, p, rfl, h⟩) h
  · exact ((dif_neg hi).symm.trans h |> Bool.false_ne_true).elim
noncomputable def onLam (e : PySem.Expr) (k : Arguments → PySem.Expr → Scope → Pos → Bool) : Bool := if h : e.ctorIdx = 4 then PySem.Expr.Lambda.elim (motive_1 := fun _ => Bool) e h (fun v b sc p => k v b sc p) else false
theorem onLam_ {e : PySem.Expr} {k : Arguments → PySem.Expr → Scope → Pos → Bool} (h : onLam e k = true) : ∃ v b sc p, e = .Lambda v b sc p ∧ k v b sc p = true := by
  by_cases hi : e.ctorIdx = 4
  · exact PySem.Expr.Lambda.elim (motive_1 := fun e => onLam e k = true → ∃ v b sc p, e = .Lambda v b sc p ∧ k v b sc p = true) e hi (fun v b sc p h => ⟨v, b, sc, p, rfl, h⟩) h
  · exact ((dif_neg hi).symm.trans h |> Bool.false_ne_true).elim
noncomputable def onIf (e : PySem.Expr) (k : PySem.Expr → PySem.Expr → PySem.Expr → Pos → Bool) : Bool := if h : e.ctorIdx = 5 then PySem.Expr.IfExp.elim (motive_1 := fun _ => Bool) e h (fun a b d p => k a b d p) else false
theorem onIf_ {e : PySem.Expr} {k : PySem.Expr → PySem.Expr → PySem.Expr → Pos → Bool} (h : onIf e k = true) : ∃ a b d p, e = .IfExp a b d p ∧ k a b d p = true := by
  by_cases hi : e.ctorIdx = 5
  · exact PySem.Expr.IfExp.elim (motive_1 := fun e => onIf e k = true → ∃ a b d p, e = .IfExp a b d p ∧ k a b d p = true) e hi (fun a b d p h => ⟨a, b, d, p, rfl, h⟩) h
  · exact ((dif_neg hi).symm.trans h |> Bool.false_ne_true).elim
noncomputable def onComp (e : PySem.Expr) (k : PySem.Expr → List Comprehension → Scope → Pos → Bool) : Bool := if h : e.ctorIdx = 8 then PySem.Expr.ListComp.elim (motive_1 := fun _ => Bool) e h (fun v gs sc p => k v gs sc p) else false
theorem onComp_ {e : PySem.Expr} {k : PySem.Expr → List Comprehension → Scope → Pos → Bool} (h : onComp e k = true) : ∃ v gs sc p, e = .ListComp v gs sc p ∧ k v gs sc p = true := by
  by_cases hi : e.ctorIdx = 8
  · exact PySem.Expr.ListComp.elim (motive_1 := fun e => onComp e k = true → ∃ v gs sc p, e = .ListComp v gs sc p ∧ k v gs sc p = true) e hi (fun v gs sc p h => ⟨v, gs, sc, p, rfl, h⟩) h
  · exact ((dif_neg hi).symm.trans h |> Bool.false_ne_true).elim
noncomputable def onCmps (e : PySem.Expr) (k : PySem.Expr → List CmpOp → List PySem.Expr → Pos → Bool) : Bool := if h : e.ctorIdx = 15 then PySem.Expr.Compare.elim (motive_1 := fun _ => Bool) e h (fun a os bs p => k a os bs p) else false
theorem onCmps_ {e : PySem.Expr} {k : PySem.Expr → List CmpOp → List PySem.Expr → Pos → Bool} (h : onCmps e k = true) : ∃ a os bs p, e = .Compare a os bs p ∧ k a os bs p = true := by
  by_cases hi : e.ctorIdx = 15
  · exact PySem.Expr.Compare.elim (motive_1 := fun e => onCmps e k = true → ∃ a os bs p, e = .Compare a os bs p ∧ k a os bs p = true) e hi (fun a os bs p h => ⟨a, os, bs, p, rfl, h⟩) h
  · exact ((dif_neg hi).symm.trans h |> Bool.false_ne_true).elim
noncomputable def onCallK (e : PySem.Expr) (k : PySem.Expr → List PySem.Expr → List Keyword → Pos → Bool) : Bool := if h : e.ctorIdx = 16 then PySem.Expr.Call.elim (motive_1 := fun _ => Bool) e h (fun f as kw p => k f as kw p) else false
theorem onCallK_ {e : PySem.Expr} {k : PySem.Expr → List PySem.Expr → List Keyword → Pos → Bool} (h : onCallK e k = true) : ∃ f as kw p, e = .Call f as kw p ∧ k f as kw p = true := by
  by_cases hi : e.ctorIdx = 16
  · exact PySem.Expr.Call.elim (motive_1 := fun e => onCallK e k = true → ∃ f as kw p, e = .Call f as kw p ∧ k f as kw p = true) e hi (fun f as kw p h => ⟨f, as, kw, p, rfl, h⟩) h
  · exact ((dif_neg hi).symm.trans h |> Bool.false_ne_true).elim
noncomputable def onConst (e : PySem.Expr) (k : Const → Nat → Pos → Bool) : Bool := if h : e.ctorIdx = 19 then PySem.Expr.Constant.elim (motive_1 := fun _ => Bool) e h (fun c n p => k c n p) else false
theorem onConst_ {e : PySem.Expr} {k : Const → Nat → Pos → Bool} (h : onConst e k = true) : ∃ c n p, e = .Constant c n p ∧ k c n p = true := by
  by_cases hi : e.ctorIdx = 19
  · exact PySem.Expr.Constant.elim (motive_1 := fun e => onConst e k = true → ∃ c n p, e = .Constant c n p ∧ k c n p = true) e hi (fun c n p h => ⟨c, n, p, rfl, h⟩) h
  · exact ((dif_neg hi).symm.trans h |> Bool.false_ne_true).elim
noncomputable def onAttr (e : PySem.Expr) (k : PySem.Expr → Str → Pos → Bool) : Bool := if h : e.ctorIdx = 20 then PySem.Expr.Attribute.elim (motive_1 := fun _ => Bool) e h (fun v m p => k v m p) else false
theorem onAttr_ {e : PySem.Expr} {k : PySem.Expr → Str → Pos → Bool} (h : onAttr e k = true) : ∃ v m p, e = .Attribute v m p ∧ k v m p = true := by
  by_cases hi : e.ctorIdx = 20
  · exact PySem.Expr.Attribute.elim (motive_1 := fun e => onAttr e k = true → ∃ v m p, e = .Attribute v m p ∧ k v m p = true) e hi (fun v m p h => ⟨v, m, p, rfl, h⟩) h
  · exact ((dif_neg hi).symm.trans h |> Bool.false_ne_true).elim
noncomputable def onSub (e : PySem.Expr) (k : PySem.Expr → PySem.Expr → Pos → Bool) : Bool := if h : e.ctorIdx = 21 then PySem.Expr.Subscript.elim (motive_1 := fun _ => Bool) e h (fun a j p => k a j p) else false
theorem onSub_ {e : PySem.Expr} {k : PySem.Expr → PySem.Expr → Pos → Bool} (h : onSub e k = true) : ∃ a j p, e = .Subscript a j p ∧ k a j p = true := by
  by_cases hi : e.ctorIdx = 21
  · exact PySem.Expr.Subscript.elim (motive_1 := fun e => onSub e k = true → ∃ a j p, e = .Subscript a j p ∧ k a j p = true) e hi (fun a j p h => ⟨a, j, p, rfl, h⟩) h
  · exact ((dif_neg hi).symm.trans h |> Bool.false_ne_true).elim
noncomputable def onName (e : PySem.Expr) (k : Str → Pos → Bool) : Bool := if h : e.ctorIdx = 23 then PySem.Expr.Name.elim (motive_1 := fun _ => Bool) e h (fun x p => k x p) else false
theorem onName_ {e : PySem.Expr} {k : Str → Pos → Bool} (h : onName e k = true) : ∃ x p, e = .Name x p ∧ k x p = true := by
  by_cases hi : e.ctorIdx = 23
  · exact PySem.Expr.Name.elim (motive_1 := fun e => onName e k = true → ∃ x p, e = .Name x p ∧ k x p = true) e hi (fun x p h => ⟨x, p, rfl, h⟩) h
  · exact ((dif_neg hi).symm.trans h |> Bool.false_ne_true).elim
noncomputable def onList (e : PySem.Expr) (k : List PySem.Expr → Pos → Bool) : Bool := if h : e.ctorIdx = 24 then PySem.Expr.List.elim (motive_1 := fun _ => Bool) e h (fun vs p => k vs p) else false
theorem onList_ {e : PySem.Expr} {k : List PySem.Expr → Pos → Bool} (h : onList e k = true) : ∃ vs p, e = .List vs p ∧ k vs p = true := by
  by_cases hi : e.ctorIdx = 24
  · exact PySem.Expr.List.elim (motive_1 := fun e => onList e k = true → ∃ vs p, e = .List vs p ∧ k vs p = true) e hi (fun vs p h => ⟨vs, p, rfl, h⟩) h
  · exact ((dif_neg hi).symm.trans h |> Bool.false_ne_true).elim
noncomputable def onTup (e : PySem.Expr) (k : List PySem.Expr → Nat → Pos → Bool) : Bool := if h : e.ctorIdx = 25 then PySem.Expr.Tuple.elim (motive_1 := fun _ => Bool) e h (fun vs n p => k vs n p) else false
theorem onTup_ {e : PySem.Expr} {k : List PySem.Expr → Nat → Pos → Bool} (h : onTup e k = true) : ∃ vs n p, e = .Tuple vs n p ∧ k vs n p = true := by
  by_cases hi : e.ctorIdx = 25
  · exact PySem.Expr.Tuple.elim (motive_1 := fun e => onTup e k = true → ∃ vs n p, e = .Tuple vs n p ∧ k vs n p = true) e hi (fun vs n p h => ⟨vs, n, p, rfl, h⟩) h
  · exact ((dif_neg hi).symm.trans h |> Bool.false_ne_true).elim
noncomputable def onSlice (e : PySem.Expr) (k : Option PySem.Expr → Option PySem.Expr → Option PySem.Expr → Pos → Bool) : Bool := if h : e.ctorIdx = 26 then PySem.Expr.Slice.elim (motive_1 := fun _ => Bool) e h (fun l u t p => k l u t p) else false
theorem onSlice_ {e : PySem.Expr} {k : Option PySem.Expr → Option PySem.Expr → Option PySem.Expr → Pos → Bool} (h : onSlice e k = true) : ∃ l u t p, e = .Slice l u t p ∧ k l u t p = true := by
  by_cases hi : e.ctorIdx = 26
  · exact PySem.Expr.Slice.elim (motive_1 := fun e => onSlice e k = true → ∃ l u t p, e = .Slice l u t p ∧ k l u t p = true) e hi (fun l u t p h => ⟨l, u, t, p, rfl, h⟩) h
  · exact ((dif_neg hi).symm.trans h |> Bool.false_ne_true).elim
noncomputable def onRets (e : PySem.Stmt) (k : Option PySem.Expr → Pos → Bool) : Bool := if h : e.ctorIdx = 3 then PySem.Stmt.Return.elim (motive_2 := fun _ => Bool) e h (fun v p => k v p) else false
theorem onRets_ {e : PySem.Stmt} {k : Option PySem.Expr → Pos → Bool} (h : onRets e k = true) : ∃ v p, e = .Return v p ∧ k v p = true := by
  by_cases hi : e.ctorIdx = 3
  · exact PySem.Stmt.Return.elim (motive_2 := fun e => onRets e k = true → ∃ v p, e = .Return v p ∧ k v p = true) e hi (fun v p h => ⟨v, p, rfl, h⟩) h
  · exact ((dif_neg hi).symm.trans h |> Bool.false_ne_true).elim
noncomputable def onAssigns (e : PySem.Stmt) (k : List PySem.Expr → PySem.Expr → Pos → Bool) : Bool := if h : e.ctorIdx = 5 then PySem.Stmt.Assign.elim (motive_2 := fun _ => Bool) e h (fun ts v p => k ts v p) else false
theorem onAssigns_ {e : PySem.Stmt} {k : List PySem.Expr → PySem.Expr → Pos → Bool} (h : onAssigns e k = true) : ∃ ts v p, e = .Assign ts v p ∧ k ts v p = true := by
  by_cases hi : e.ctorIdx = 5
  · exact PySem.Stmt.Assign.elim (motive_2 := fun e => onAssigns e k = true → ∃ ts v p, e = .Assign ts v p ∧ k ts v p = true) e hi (fun ts v p h => ⟨ts, v, p, rfl, h⟩) h
  · exact ((dif_neg hi).symm.trans h |> Bool.false_ne_true).elim
noncomputable def onAug (e : PySem.Stmt) (k : PySem.Expr → Operator → PySem.Expr → Pos → Bool) : Bool := if h : e.ctorIdx = 7 then PySem.Stmt.AugAssign.elim (motive_2 := fun _ => Bool) e h (fun t o v p => k t o v p) else false
theorem onAug_ {e : PySem.Stmt} {k : PySem.Expr → Operator → PySem.Expr → Pos → Bool} (h : onAug e k = true) : ∃ t o v p, e = .AugAssign t o v p ∧ k t o v p = true := by
  by_cases hi : e.ctorIdx = 7
  · exact PySem.Stmt.AugAssign.elim (motive_2 := fun e => onAug e k = true → ∃ t o v p, e = .AugAssign t o v p ∧ k t o v p = true) e hi (fun t o v p h => ⟨t, o, v, p, rfl, h⟩) h
  · exact ((dif_neg hi).symm.trans h |> Bool.false_ne_true).elim
noncomputable def onForE (e : PySem.Stmt) (k : PySem.Expr → PySem.Expr → List PySem.Stmt → List PySem.Stmt → Pos → Bool) : Bool := if h : e.ctorIdx = 9 then PySem.Stmt.For.elim (motive_2 := fun _ => Bool) e h (fun t a b d p => k t a b d p) else false
theorem onForE_ {e : PySem.Stmt} {k : PySem.Expr → PySem.Expr → List PySem.Stmt → List PySem.Stmt → Pos → Bool} (h : onForE e k = true) : ∃ t a b d p, e = .For t a b d p ∧ k t a b d p = true := by
  by_cases hi : e.ctorIdx = 9
  · exact PySem.Stmt.For.elim (motive_2 := fun e => onForE e k = true → ∃ t a b d p, e = .For t a b d p ∧ k t a b d p = true) e hi (fun t a b d p h => ⟨t, a, b, d, p, rfl, h⟩) h
  · exact ((dif_neg hi).symm.trans h |> Bool.false_ne_true).elim
noncomputable def onWhileE (e : PySem.Stmt) (k : PySem.Expr → List PySem.Stmt → List PySem.Stmt → Pos → Bool) : Bool := if h : e.ctorIdx = 11 then PySem.Stmt.While.elim (motive_2 := fun _ => Bool) e h (fun a b d p => k a b d p) else false
theorem onWhileE_ {e : PySem.Stmt} {k : PySem.Expr → List PySem.Stmt → List PySem.Stmt → Pos → Bool} (h : onWhileE e k = true) : ∃ a b d p, e = .While a b d p ∧ k a b d p = true := by
  by_cases hi : e.ctorIdx = 11
  · exact PySem.Stmt.While.elim (motive_2 := fun e => onWhileE e k = true → ∃ a b d p, e = .While a b d p ∧ k a b d p = true) e hi (fun a b d p h => ⟨a, b, d, p, rfl, h⟩) h
  · exact ((dif_neg hi).symm.trans h |> Bool.false_ne_true).elim
noncomputable def onIfS (e : PySem.Stmt) (k : PySem.Expr → List PySem.Stmt → List PySem.Stmt → Pos → Bool) : Bool := if h : e.ctorIdx = 12 then PySem.Stmt.If.elim (motive_2 := fun _ => Bool) e h (fun a b d p => k a b d p) else false
theorem onIfS_ {e : PySem.Stmt} {k : PySem.Expr → List PySem.Stmt → List PySem.Stmt → Pos → Bool} (h : onIfS e k = true) : ∃ a b d p, e = .If a b d p ∧ k a b d p = true := by
  by_cases hi : e.ctorIdx = 12
  · exact PySem.Stmt.If.elim (motive_2 := fun e => onIfS e k = true → ∃ a b d p, e = .If a b d p ∧ k a b d p = true) e hi (fun a b d p h => ⟨a, b, d, p, rfl, h⟩) h
  · exact ((dif_neg hi).symm.trans h |> Bool.false_ne_true).elim
noncomputable def onRaiseO (e : PySem.Stmt) (k : Option PySem.Expr → Option PySem.Expr → Pos → Bool) : Bool := if h : e.ctorIdx = 16 then PySem.Stmt.Raise.elim (motive_2 := fun _ => Bool) e h (fun v c p => k v c p) else false
theorem onRaiseO_ {e : PySem.Stmt} {k : Option PySem.Expr → Option PySem.Expr → Pos → Bool} (h : onRaiseO e k = true) : ∃ v c p, e = .Raise v c p ∧ k v c p = true := by
  by_cases hi : e.ctorIdx = 16
  · exact PySem.Stmt.Raise.elim (motive_2 := fun e => onRaiseO e k = true → ∃ v c p, e = .Raise v c p ∧ k v c p = true) e hi (fun v c p h => ⟨v, c, p, rfl, h⟩) h
  · exact ((dif_neg hi).symm.trans h |> Bool.false_ne_true).elim
noncomputable def onTryF (e : PySem.Stmt) (k : List PySem.Stmt → List ExceptHandler → List PySem.Stmt → List PySem.Stmt → Pos → Bool) : Bool := if h : e.ctorIdx = 17 then PySem.Stmt.Try.elim (motive_2 := fun _ => Bool) e h (fun b hs d f p => k b hs d f p) else false
theorem onTryF_ {e : PySem.Stmt} {k : List PySem.Stmt → List ExceptHandler → List PySem.Stmt → List PySem.Stmt → Pos → Bool} (h : onTryF e k = true) : ∃ b hs d f p, e = .Try b hs d f p ∧ k b hs d f p = true := by
  by_cases hi : e.ctorIdx = 17
  · exact PySem.Stmt.Try.elim (motive_2 := fun e => onTryF e k = true → ∃ b hs d f p, e = .Try b hs d f p ∧ k b hs d f p = true) e hi (fun b hs d f p h => ⟨b, hs, d, f, p, rfl, h⟩) h
  · exact ((dif_neg hi).symm.trans h |> Bool.false_ne_true).elim
noncomputable def onExpr (e : PySem.Stmt) (k : PySem.Expr → Pos → Bool) : Bool := if h : e.ctorIdx = 24 then PySem.Stmt.Expr.elim (motive_2 := fun _ => Bool) e h (fun v p => k v p) else false
theorem onExpr_ {e : PySem.Stmt} {k : PySem.Expr → Pos → Bool} (h : onExpr e k = true) : ∃ v p, e = .Expr v p ∧ k v p = true := by
  by_cases hi : e.ctorIdx = 24
  · exact PySem.Stmt.Expr.elim (motive_2 := fun e => onExpr e k = true → ∃ v p, e = .Expr v p ∧ k v p = true) e hi (fun v p h => ⟨v, p, rfl, h⟩) h
  · exact ((dif_neg hi).symm.trans h |> Bool.false_ne_true).elim
noncomputable def onCall (e : PySem.Expr) (k : PySem.Expr → List PySem.Expr → Pos → Bool) : Bool := onCallK e fun f as kw p => kw.isEmpty && k f as p
theorem onCall_ {e : PySem.Expr} {k : PySem.Expr → List PySem.Expr → Pos → Bool} (h : onCall e k = true) : ∃ f as p, e = .Call f as [] p ∧ k f as p = true := by
  obtain ⟨f, as, kw, p, rfl, h⟩ := onCallK_ h
  cases kw <;> first | exact (Bool.false_ne_true h).elim | exact ⟨_, _, _, rfl, h⟩
noncomputable def onCmp (e : PySem.Expr) (k : PySem.Expr → CmpOp → PySem.Expr → Bool) : Bool := onCmps e fun a os bs _ => onOne os fun o => onOne bs fun b => k a o b
theorem onCmp_ {e : PySem.Expr} {k : PySem.Expr → CmpOp → PySem.Expr → Bool} (h : onCmp e k = true) : ∃ a o b p, e = .Compare a [o] [b] p ∧ k a o b = true := by
  obtain ⟨a, os, bs, p, rfl, h⟩ := onCmps_ h
  obtain ⟨o, rfl, h⟩ := onOne_ h
  obtain ⟨b, rfl, h⟩ := onOne_ h
  exact ⟨_, _, _, _, rfl, h⟩
noncomputable def onInt (e : PySem.Expr) (k : Int → Bool) : Bool := onConst e fun c _ _ => match c with | .int j => k j | _ => false
theorem onInt_ {e : PySem.Expr} {k : Int → Bool} (h : onInt e k = true) : ∃ j n p, e = .Constant (.int j) n p ∧ k j = true := by
  obtain ⟨c, n, p, rfl, h⟩ := onConst_ h
  cases c <;> first | exact (Bool.false_ne_true h).elim | exact ⟨_, _, _, rfl, h⟩
noncomputable def onBool (e : PySem.Expr) (k : Bool → Bool) : Bool := onConst e fun c _ _ => match c with | .bool j => k j | _ => false
theorem onBool_ {e : PySem.Expr} {k : Bool → Bool} (h : onBool e k = true) : ∃ j n p, e = .Constant (.bool j) n p ∧ k j = true := by
  obtain ⟨c, n, p, rfl, h⟩ := onConst_ h
  cases c <;> first | exact (Bool.false_ne_true h).elim | exact ⟨_, _, _, rfl, h⟩
noncomputable def isStr (e : PySem.Expr) : Bool := onConst e fun c _ _ => match c with | .str _ => true | _ => false
theorem isStr_ {e : PySem.Expr} (h : isStr e = true) : ∃ j n p, e = .Constant (.str j) n p := by
  obtain ⟨c, n, p, rfl, h⟩ := onConst_ h
  cases c <;> first | exact (Bool.false_ne_true h).elim | exact ⟨_, _, _, rfl⟩
noncomputable def onRet (e : PySem.Stmt) (k : PySem.Expr → Bool) : Bool := onRets e fun v _ => onSome v k
theorem onRet_ {e : PySem.Stmt} {k : PySem.Expr → Bool} (h : onRet e k = true) : ∃ v p, e = .Return (some v) p ∧ k v = true := by
  obtain ⟨v, p, rfl, h⟩ := onRets_ h
  obtain ⟨v, rfl, h⟩ := onSome_ h
  exact ⟨_, _, rfl, h⟩
noncomputable def onAssign (e : PySem.Stmt) (k : PySem.Expr → PySem.Expr → Bool) : Bool := onAssigns e fun ts v _ => onOne ts fun t => k t v
theorem onAssign_ {e : PySem.Stmt} {k : PySem.Expr → PySem.Expr → Bool} (h : onAssign e k = true) : ∃ t v p, e = .Assign [t] v p ∧ k t v = true := by
  obtain ⟨ts, v, p, rfl, h⟩ := onAssigns_ h
  obtain ⟨t, rfl, h⟩ := onOne_ h
  exact ⟨_, _, _, rfl, h⟩
noncomputable def onFor (e : PySem.Stmt) (k : PySem.Expr → PySem.Expr → List PySem.Stmt → Bool) : Bool := onForE e fun t a b d _ => d.isEmpty && k t a b
theorem onFor_ {e : PySem.Stmt} {k : PySem.Expr → PySem.Expr → List PySem.Stmt → Bool} (h : onFor e k = true) : ∃ t a b p, e = .For t a b [] p ∧ k t a b = true := by
  obtain ⟨t, a, b, d, p, rfl, h⟩ := onForE_ h
  cases d <;> first | exact (Bool.false_ne_true h).elim | exact ⟨_, _, _, _, rfl, h⟩
noncomputable def onWhile (e : PySem.Stmt) (k : PySem.Expr → List PySem.Stmt → Bool) : Bool := onWhileE e fun a b d _ => d.isEmpty && k a b
theorem onWhile_ {e : PySem.Stmt} {k : PySem.Expr → List PySem.Stmt → Bool} (h : onWhile e k = true) : ∃ a b p, e = .While a b [] p ∧ k a b = true := by
  obtain ⟨a, b, d, p, rfl, h⟩ := onWhileE_ h
  cases d <;> first | exact (Bool.false_ne_true h).elim | exact ⟨_, _, _, rfl, h⟩
noncomputable def onRaise (e : PySem.Stmt) (k : PySem.Expr → Bool) : Bool := onRaiseO e fun v c _ => c.isNone && onSome v k
theorem onRaise_ {e : PySem.Stmt} {k : PySem.Expr → Bool} (h : onRaise e k = true) : ∃ v p, e = .Raise (some v) none p ∧ k v = true := by
  obtain ⟨v, c, p, rfl, h⟩ := onRaiseO_ h
  cases c <;> first | exact (Bool.false_ne_true h).elim | skip
  have h : onSome _ k = true := h
  obtain ⟨v, rfl, h⟩ := onSome_ h
  exact ⟨_, _, rfl, h⟩
noncomputable def onTry (e : PySem.Stmt) (k : List PySem.Stmt → List ExceptHandler → Bool) : Bool := onTryF e fun b hs d f _ => d.isEmpty && (f.isEmpty && k b hs)
theorem onTry_ {e : PySem.Stmt} {k : List PySem.Stmt → List ExceptHandler → Bool} (h : onTry e k = true) : ∃ b hs p, e = .Try b hs [] [] p ∧ k b hs = true := by
  obtain ⟨b, hs, d, f, p, rfl, h⟩ := onTryF_ h
  cases d <;> first | exact (Bool.false_ne_true h).elim | skip
  cases f <;> first | exact (Bool.false_ne_true h).elim | exact ⟨_, _, _, rfl, h⟩
noncomputable def onExc (e : ExceptHandler) (k : PySem.Expr → List PySem.Stmt → Bool) : Bool := match e with | .ExceptHandler t n b _ => n.isNone && onSome t fun t => k t b
theorem onExc_ {e : ExceptHandler} {k : PySem.Expr → List PySem.Stmt → Bool} (h : onExc e k = true) : ∃ t b p, e = .ExceptHandler (some t) none b p ∧ k t b = true := by
  obtain ⟨t, n, b, p⟩ := e
  cases n <;> first | exact (Bool.false_ne_true h).elim | skip
  have h : onSome _ (fun t => k t b) = true := h
  obtain ⟨t, rfl, h⟩ := onSome_ h
  exact ⟨_, _, _, rfl, h⟩

end
section
open PySem PySem.Spec PySem.W PyProof.Rows PyProof.V PySem.SeqAt

theorem rev_idx {α : Type} (xs : List α) : ((List.range xs.length).map fun k => xs.length - 1 - k).filterMap (xs[·]?) = xs.reverse := by
  apply List.ext_getElem?
  intro i
  have key : ∀ js : List Nat, (∀ j ∈ js, j < xs.length) → ∀ i : Nat, (js.filterMap (xs[·]?))[i]? = js[i]?.bind (xs[·]?) := by
    intro js
    induction js with
    | nil => intro _ i; simp
    | cons j r ih =>
      intro hj i
      have h1 : j < xs.length := hj j (.head _)
      rw [List.filterMap_cons, List.getElem?_eq_getElem h1]
      cases i with
      | zero => simp [List.getElem?_eq_getElem h1]
      | succ i => simpa using ih (fun x hx => hj x (.tail _ hx)) i
  rw [key _ (fun j hj => by
    obtain ⟨k, hk, rfl⟩ := List.mem_map.mp hj
    have := List.mem_range.mp hk
    omega)]
  by_cases h : i < xs.length
  · rw [List.getElem?_map, List.getElem?_range h, List.getElem?_reverse h]
    rfl
  · have h1 : xs.reverse[i]? = none := List.getElem?_eq_none (by simpa using h)
    have h2 : ((List.range xs.length).map fun k => xs.length - 1 - k)[i]? = none := List.getElem?_eq_none (by simpa using h)
    rw [h1, h2]; rfl

theorem pick_rev (vs : List Value) : (slicePick vs.toArray none none (some (-1))).toList = vs.reverse := by
  have e : sliceBounds none none (some (-1)) vs.toArray.size = ((vs.length : Int) - 1, -1, -1) := by
    simp [sliceBounds]
  have e2 : sliceRange ((vs.length : Int) - 1) (-1) (-1) = (List.range vs.length).map fun k => vs.length - 1 - k := by
    unfold sliceRange
    by_cases h : vs.length = 0
    · simp [h]
    · have h1 : ((vs.length : Int) - 1 - -1 - (-1) - 1) = vs.length := by omega
      have h2 : (vs.length : Int) - 1 > -1 := by omega
      simp only [show ¬ ((-1 : Int) > 0) by decide, if_false, h2, if_true, h1, Int.neg_neg, Int.ediv_one, Int.toNat_natCast]
      apply List.map_congr_left
      intro k hk
      have := List.mem_range.mp hk
      omega
  unfold slicePick
  rw [e]
  simp only [e2]
  have := rev_idx vs
  simpa using this

/-- a name of the text's defs, read in a def -/
noncomputable def okGlob (sc : Scope) (x : Str) : Bool := sc.names.lookup x == some .globalImplicit && x != "__debug__"
theorem okGlob_ {sc : Scope} {x : Str} (h : okGlob sc x = true) : sc.names.lookup x = some .globalImplicit ∧ (x == ("__debug__" : Str)) = false := by
  simp only [okGlob, Bool.and_eq_true, beq_iff_eq] at h
  exact ⟨h.1, by simpa [bne] using h.2⟩

noncomputable def nmInts : List (Str × NameKind) := [((".0" : Str), NameKind.local), (("one" : Str), .local), (("isinstance" : Str), .globalImplicit), (("bool" : Str), .globalImplicit), (("int" : Str), .globalImplicit)]
noncomputable def nmBnd : List (Str × NameKind) := [((".0" : Str), NameKind.local), (("one" : Str), .local), (("w" : Str), .free)]
theorem and_ {a b : Bool} (h : (a && b) = true) : a = true ∧ b = true := Bool.and_eq_true_iff.mp h

/-- isinstance(y, t) -/
noncomputable def okIsi (e : Expr) (y t : Str) : Bool := onCall e fun f as _ => onName f fun f _ => f == "isinstance" && onTwo as fun a b => onName a fun a _ => a == y && onName b fun b _ => b == t
theorem okIsi_ {e : Expr} {y t : Str} (h : okIsi e y t = true) : ∃ p1 p2 p3 p4, e = .Call (.Name "isinstance" p1) [.Name y p2, .Name t p3] [] p4 := by
  obtain ⟨f, as, p4, rfl, j1⟩ := onCall_ h
  clear h
  obtain ⟨f, p1, rfl, j2⟩ := onName_ j1
  clear j1
  obtain ⟨hf, j3⟩ := and_ j2
  clear j2
  obtain ⟨a, b, rfl, j4⟩ := onTwo_ j3
  clear j3
  obtain ⟨a, p2, rfl, j5⟩ := onName_ j4
  clear j4
  obtain ⟨ha, j6⟩ := and_ j5
  clear j5
  obtain ⟨b, p3, rfl, j7⟩ := onName_ j6
  clear j6
  obtain rfl := eq_of_beq hf
  obtain rfl := eq_of_beq ha
  obtain rfl := eq_of_beq j7
  exact ⟨p1, p2, p3, p4, rfl⟩
noncomputable def okNil (e : Expr) : Bool := onList e fun vs _ => vs.isEmpty
theorem okNil_ {e : Expr} (h : okNil e = true) : ∃ p, e = .List [] p := by
  obtain ⟨vs, p, rfl, j1⟩ := onList_ h
  clear h
  cases vs <;> first | exact (Bool.false_ne_true j1).elim | exact ⟨p, rfl⟩
/-- [one for one in x if c] -/
noncomputable def okLc (e : Expr) (k : Str → Expr → Scope → Bool) : Bool := onComp e fun _ gs csc _ => onOne gs fun g => onName g.target fun y _ => y == "one" && g.is_async == 0 && onName g.iter fun x _ => onOne g.ifs fun c => csc.kind == .function && k x c csc
theorem okLc_ {e : Expr} {k : Str → Expr → Scope → Bool} (h : okLc e k = true) : ∃ elt x c csc p1 p2 p, e = .ListComp elt [⟨.Name "one" p1, .Name x p2, [c], 0⟩] csc p ∧ csc.kind = .function ∧ k x c csc = true := by
  obtain ⟨elt, gs, csc, p, rfl, j1⟩ := onComp_ h
  clear h
  obtain ⟨g, rfl, j2⟩ := onOne_ j1
  clear j1
  obtain ⟨g1, g2, g3, g4⟩ := g
  obtain ⟨y, p1, e1, j3⟩ := onName_ j2
  clear j2
  obtain ⟨hy, j4⟩ := and_ j3
  clear j3
  obtain ⟨x, p2, e2, j5⟩ := onName_ j4
  clear j4
  obtain ⟨c, e3, j6⟩ := onOne_ j5
  clear j5
  obtain ⟨hk, j7⟩ := and_ j6
  clear j6
  obtain ⟨hy, hz⟩ := and_ hy
  obtain rfl := eq_of_beq hy
  obtain rfl : g1 = _ := e1
  obtain rfl : g2 = _ := e2
  obtain rfl : g3 = _ := e3
  obtain rfl : g4 = 0 := eq_of_beq hz
  exact ⟨elt, x, c, csc, p1, p2, p, rfl, eq_of_beq hk, j7⟩
/-- what is no int -/
noncomputable def okNot (c : Expr) : Bool := onBo c fun o vs _ => o == .Or && onTwo vs fun c1 c2 => okIsi c1 "one" "bool" && onUn c2 fun o a _ => o == .Not && okIsi a "one" "int"
theorem okNot_ {c : Expr} (h : okNot c = true) : ∃ p1 p2 p3 p4 q1 q2 q3 q4 p5 p6, c = .BoolOp .Or [.Call (.Name "isinstance" p1) [.Name "one" p2, .Name "bool" p3] [] p4, .UnaryOp .Not (.Call (.Name "isinstance" q1) [.Name "one" q2, .Name "int" q3] [] q4) p5] p6 := by
  obtain ⟨o, vs, p6, rfl, j1⟩ := onBo_ h
  clear h
  obtain ⟨ho, j2⟩ := and_ j1
  clear j1
  obtain ⟨c1, c2, rfl, j3⟩ := onTwo_ j2
  clear j2
  obtain ⟨h1, j4⟩ := and_ j3
  clear j3
  obtain ⟨o2, a, p5, rfl, j5⟩ := onUn_ j4
  clear j4
  obtain ⟨ho2, j6⟩ := and_ j5
  clear j5
  obtain ⟨p1, p2, p3, p4, rfl⟩ := okIsi_ h1
  obtain ⟨q1, q2, q3, q4, rfl⟩ := okIsi_ j6
  clear j6
  obtain rfl := eq_of_beq ho
  obtain rfl := eq_of_beq ho2
  exact ⟨p1, p2, p3, p4, q1, q2, q3, q4, p5, p6, rfl⟩
/-- what is out of its bound -/
noncomputable def okOut (c : Expr) : Bool := onUn c fun o a _ => o == .Not && onCmps a fun z os bs _ => decide (os = [.LtE, .Lt]) && onInt z fun z => z == 0 && onTwo bs fun b1 b2 => onName b1 fun y _ => y == "one" &&
  onBin b2 fun two o v _ => o == .Pow && onInt two fun two => two == 2 && onName v fun v _ => v == "w"
theorem okOut_ {c : Expr} (h : okOut c = true) : ∃ n1 p1 p2 n2 p3 p4 p5 p6 p7, c = .UnaryOp .Not (.Compare (.Constant (.int 0) n1 p1) [.LtE, .Lt] [.Name "one" p2, .BinOp (.Constant (.int 2) n2 p3) .Pow (.Name "w" p4) p5] p6) p7 := by
  obtain ⟨o, a, p7, rfl, j1⟩ := onUn_ h
  clear h
  obtain ⟨ho, j2⟩ := and_ j1
  clear j1
  obtain ⟨z, os, bs, p6, rfl, j3⟩ := onCmps_ j2
  clear j2
  obtain ⟨hos, j4⟩ := and_ j3
  clear j3
  obtain ⟨z, n1, p1, rfl, j5⟩ := onInt_ j4
  clear j4
  obtain ⟨hz, j6⟩ := and_ j5
  clear j5
  obtain ⟨b1, b2, rfl, j7⟩ := onTwo_ j6
  clear j6
  obtain ⟨y, p2, rfl, j8⟩ := onName_ j7
  clear j7
  obtain ⟨hy, j9⟩ := and_ j8
  clear j8
  obtain ⟨two, o2, v, p5, rfl, j10⟩ := onBin_ j9
  clear j9
  obtain ⟨ho2, j11⟩ := and_ j10
  clear j10
  obtain ⟨two, n2, p3, rfl, j12⟩ := onInt_ j11
  clear j11
  obtain ⟨ht, j13⟩ := and_ j12
  clear j12
  obtain ⟨v, p4, rfl, j14⟩ := onName_ j13
  clear j13
  obtain rfl := eq_of_beq ho
  obtain rfl := of_decide_eq_true hos
  obtain rfl := eq_of_beq hz
  obtain rfl := eq_of_beq hy
  obtain rfl := eq_of_beq ho2
  obtain rfl := eq_of_beq ht
  obtain rfl := eq_of_beq j14
  exact ⟨n1, p1, p2, n2, p3, p4, p5, p6, p7, rfl⟩

section
variable (sc : Scope) (ns : List Str)
mutual
noncomputable def okE : E → Expr → Bool
  | .int i, e => onInt e fun j => i == j
  | .neg i, e => onUn e fun o a _ => o == .USub && onInt a fun j => i == j
  | .bool b, e => onBool e fun c => b == c
  | .var i, e => onName e fun x _ => ns[i]? == some x && okVar sc x
  | .fn x, e => onName e fun y _ => x == y && (okGlob sc x && isFn x)
  | .few, e => onName e fun y _ => y == "FEW_LIMBS" && okGlob sc y
  | .bin op l r, e => onBin e fun a o b _ => o == op && (okE l a && okE r b)
  | .cmp op l r, e => onCmp e fun a o b => o == op && (!behindInMarks o b && (okE l a && okE r b))
  | .bo op es, e => onBo e fun o vs _ => o == op && okEs es vs
  | .not x, e => onUn e fun o a _ => o == .Not && okE x a
  | .ite c t f, e => onIf e fun a b d _ => okE c a && (okE t b && okE f d)
  | .call f as, e => onCall e fun g vs _ => onName g fun _ _ => onCons vs fun _ _ => okE f g && okEs as vs
  | .bi b as, e => onCall e fun g vs _ => onName g fun x _ => onCons vs fun _ _ => x == b.nm && (okGlob sc x && okEs as vs)
  | .sub x i, e => onSub e fun a j _ => okE x a && okE i j
  | .from_ x lo, e => onSub e fun a s _ => onSlice s fun l u t _ => onSome l fun l => u.isNone && (t.isNone && (okE x a && okE lo l))
  | .upto x hi, e => onSub e fun a s _ => onSlice s fun l u t _ => onSome u fun u => l.isNone && (t.isNone && (okE x a && okE hi u))
  | .cut x lo hi, e => onSub e fun a s _ => onSlice s fun l u t _ => onSome l fun l => onSome u fun u => t.isNone && (okE x a && (okE lo l && okE hi u))
  | .all x, e => onSub e fun a s _ => onSlice s fun l u t _ => l.isNone && (u.isNone && (t.isNone && okE x a))
  | .rev x, e => onSub e fun a s _ => onSlice s fun l u t _ => l.isNone && (u.isNone && onSome t fun t => onUn t fun o j _ => o == .USub && onInt j fun j => j == 1 && okE x a)
  | .list es, e => onList e fun vs _ => okEs es vs
  | .pair x y, e => onTup e fun vs _ _ => onTwo vs fun a b => okE x a && okE y b
  | .attr x n, e => onAttr e fun a m _ => onName a fun _ _ => n == m && okE x a
  | .bits x, e => onCall e fun f as q => onAttr f fun a m p => as.isEmpty && (m == "bit_length" && (p.endLine == q.line && (okE x a && onSub a fun _ _ _ => true)))
  | .isl i, e => onCall e fun f as _ => onName f fun f _ => onTwo as fun a b => onName a fun x _ => onName b fun t _ => f == "isinstance" && (t == "list" && (okGlob sc f && (okGlob sc t && (ns[i]? == some x && okVar sc x))))
  | .intsNe i, e => onCmp e fun a o b => o == .NotEq && (okNil b && okLc a fun x c csc => okNot c && (ns[i]? == some x && (okVar sc x && decide (csc.names = nmInts))))
  | .bndEq i j, e => onCmp e fun a o b => o == .Eq && (okNil b && okLc a fun x c csc => okOut c && (ns[i]? == some x && (okVar sc x && (decide (csc.names = nmBnd) && (ns[j]? == some ("w" : Str) && sc.names.lookup ("w" : Str) == some .cell)))))
  | .make es, e => onCall e fun g vs _ => onName g fun x _ => onCons vs fun _ _ => x == "Dividing" && (okGlob sc x && okEs es vs)
noncomputable def okEs : Es → List Expr → Bool
  | .nil, vs => vs.isEmpty
  | .cons e es, vs => onCons vs fun a r => okE e a && okEs es r
end
end

/-- what may stand in the text -/
noncomputable def plainE : Expr → Bool
  | .Starred .. => false
  | .Slice .. => false
  | .ListComp .. => false
  | .SetComp .. => false
  | .DictComp .. => false
  | .GeneratorExp .. => false
  | .Set .. => false
  | .Await .. => false
  | .NamedExpr .. => false
  | _ => true
theorem ok_plain {sc : Scope} {ns : List Str} {x : E} {e : Expr} (h : okE sc ns x e = true) : plainE e = true := by
  cases x
  case int => obtain ⟨_, _, _, rfl, _⟩ := onInt_ h; rfl
  case neg => obtain ⟨_, _, _, rfl, _⟩ := onUn_ h; rfl
  case bool => obtain ⟨_, _, _, rfl, _⟩ := onBool_ h; rfl
  case var => obtain ⟨_, _, rfl, _⟩ := onName_ h; rfl
  case fn => obtain ⟨_, _, rfl, _⟩ := onName_ h; rfl
  case few => obtain ⟨_, _, rfl, _⟩ := onName_ h; rfl
  case bin => obtain ⟨_, _, _, _, rfl, _⟩ := onBin_ h; rfl
  case cmp => obtain ⟨_, _, _, _, rfl, _⟩ := onCmp_ h; rfl
  case bo => obtain ⟨_, _, _, rfl, _⟩ := onBo_ h; rfl
  case not => obtain ⟨_, _, _, rfl, _⟩ := onUn_ h; rfl
  case ite => obtain ⟨_, _, _, _, rfl, _⟩ := onIf_ h; rfl
  case call => obtain ⟨_, _, _, rfl, _⟩ := onCall_ h; rfl
  case bi => obtain ⟨_, _, _, rfl, _⟩ := onCall_ h; rfl
  case sub => obtain ⟨_, _, _, rfl, _⟩ := onSub_ h; rfl
  case from_ => obtain ⟨_, _, _, rfl, _⟩ := onSub_ h; rfl
  case upto => obtain ⟨_, _, _, rfl, _⟩ := onSub_ h; rfl
  case cut => obtain ⟨_, _, _, rfl, _⟩ := onSub_ h; rfl
  case all => obtain ⟨_, _, _, rfl, _⟩ := onSub_ h; rfl
  case rev => obtain ⟨_, _, _, rfl, _⟩ := onSub_ h; rfl
  case list => obtain ⟨_, _, rfl, _⟩ := onList_ h; rfl
  case pair => obtain ⟨_, _, _, rfl, _⟩ := onTup_ h; rfl
  case attr => obtain ⟨_, _, _, rfl, _⟩ := onAttr_ h; rfl
  case bits => obtain ⟨_, _, _, rfl, _⟩ := onCall_ h; rfl
  case isl => obtain ⟨_, _, _, rfl, _⟩ := onCall_ h; rfl
  case intsNe => obtain ⟨_, _, _, _, rfl, _⟩ := onCmp_ h; rfl
  case bndEq => obtain ⟨_, _, _, _, rfl, _⟩ := onCmp_ h; rfl
  case make => obtain ⟨_, _, _, rfl, _⟩ := onCall_ h; rfl

theorem okEs_nil {sc : Scope} {ns : List Str} {vs : List Expr} (h : okEs sc ns .nil vs = true) : vs = [] := List.isEmpty_iff.mp h
theorem okEs_cons {sc : Scope} {ns : List Str} {e : E} {es : Es} {vs : List Expr} (h : okEs sc ns (.cons e es) vs = true) : ∃ a r, vs = a :: r ∧ okE sc ns e a = true ∧ okEs sc ns es r = true := by
  obtain ⟨a, r, rfl, h⟩ := onCons_ h
  clear h
  exact ⟨a, r, rfl, and_ h⟩
theorem star_cons {a : Expr} (h : plainE a = true) (r : List Expr) (env : Env) : starEach (a :: r) env = (false, eval a env) :: starEach r env := by
  cases a <;> first | rfl | exact (Bool.false_ne_true h).elim
theorem starEach_ok {sc : Scope} {ns : List Str} {env : Env} : ∀ {es : Es} {vs : List Expr}, okEs sc ns es vs = true → starEach vs env = vs.map fun e => (false, eval e env)
  | .nil, _, h => by
    obtain rfl := okEs_nil h
    rfl
  | .cons e es, _, h => by
    obtain ⟨a, r, rfl, h1, h2⟩ := okEs_cons h
    rw [List.map_cons, ← starEach_ok (env := env) h2]
    exact star_cons (ok_plain h1) r env
theorem backTo_plain (pos : Pos) (vs : List Expr) (env : Env) : backTo pos (vs.map fun e => (false, eval e env)) = vs.map fun e => (false, eval e env) := by
  simp [backTo]
theorem evalEach_map (env : Env) : ∀ vs : List Expr, evalEach vs env = vs.map fun e => eval e env
  | [] => rfl
  | _ :: r => by rw [List.map_cons, ← evalEach_map env r]; rfl
theorem any_plain (vs : List Expr) (env : Env) : (vs.map fun e => (false, eval e env)).any (·.1) = false := by simp
end
section
open PySem PySem.Spec PySem.W PyProof.Rows PyProof.V PySem.SeqAt

structure Ok (k : Nat) (A : Around) : Prop where
  hh : A.handled = none
  hd : A.depth + k ≤ recursionLimit
  hu : A.units + 8 * k + 100 ≤ cLine

section
variable {W : Wd} {β : Option Addr} {s₀ : Shared} {g₀ : FH} {F : Fm} {hd : FH} {ρ : Row} {own : Own} {A : Around} {Ex : Value → Shared → Prop}


noncomputable def Posts (W : Wd) (β : Option Addr) (g : FH) (s : Shared) (Q : List V → Bx → Prop) (rs : List Value) (s' : Shared) : Prop :=
  ∃ g' xs σ', Ext β g g' s s' ∧ BoxAt β σ' g' s' ∧ Reps W g' β rs xs ∧ Q xs σ'

noncomputable def PostT (β : Option Addr) (g : FH) (s : Shared) (Q : Bool → Bx → Prop) (c : Bool) (s' : Shared) : Prop :=
  ∃ g' σ', Ext β g g' s s' ∧ BoxAt β σ' g' s' ∧ Q c σ'
theorem wpE {W : Wd} {β : Option Addr} {A : Around} {Ex : Value → Shared → Prop} {t : Sem Value} {R : Value → Shared → Prop} {Q : V → Bx → Prop} {g : FH} {s0 s : Shared} (h : wpAny W.M A t (Post W β g s0 Q) Ex s)
    (k : ∀ v s1 g1 x σ1, Ext β g g1 s0 s1 → BoxAt β σ1 g1 s1 → Rep W g1 β v x → Q x σ1 → R v s1) : wpAny W.M A t R Ex s := wpAny_mono h (fun v s1 ⟨g1, x, σ1, a, b, c, d⟩ => k v s1 g1 x σ1 a b c d) fun _ _ e => e
theorem wpEs {W : Wd} {β : Option Addr} {A : Around} {Ex : Value → Shared → Prop} {t : Sem (List Value)} {R : List Value → Shared → Prop} {Q : List V → Bx → Prop} {g : FH} {s0 s : Shared} (h : wpAny W.M A t (Posts W β g s0 Q) Ex s)
    (k : ∀ v s1 g1 x σ1, Ext β g g1 s0 s1 → BoxAt β σ1 g1 s1 → Reps W g1 β v x → Q x σ1 → R v s1) : wpAny W.M A t R Ex s := wpAny_mono h (fun v s1 ⟨g1, x, σ1, a, b, c, d⟩ => k v s1 g1 x σ1 a b c d) fun _ _ e => e
theorem wpT {W : Wd} {β : Option Addr} {A : Around} {Ex : Value → Shared → Prop} {t : Sem Bool} {R : Bool → Shared → Prop} {Q : Bool → Bx → Prop} {g : FH} {s0 s : Shared} (h : wpAny W.M A t (PostT β g s0 Q) Ex s)
    (k : ∀ v s1 g1 σ1, Ext β g g1 s0 s1 → BoxAt β σ1 g1 s1 → Q v σ1 → R v s1) : wpAny W.M A t R Ex s := wpAny_mono h (fun v s1 ⟨g1, σ1, a, b, d⟩ => k v s1 g1 σ1 a b d) fun _ _ e => e
theorem PostT.pre {β g g1 s s1 Q c s'} (x : Ext β g g1 s s1) (h : PostT β g1 s1 Q c s') : PostT β g s Q c s' := by
  obtain ⟨g', σ', e, b, q⟩ := h
  exact ⟨g', σ', x.trans e, b, q⟩




theorem Iv.gs {σ : Bx} {g : FH} {s : Shared} (I : Iv W β s₀ g₀ F hd ρ own σ g s) : In g s.heap := I.ext.gs
theorem Iv.hk {σ : Bx} {g : FH} {s : Shared} (I : Iv W β s₀ g₀ F hd ρ own σ g s) : ∀ b o, W.H.get? b = some o → s.heap.get? b = some o := fun b o e => I.gs b o (I.base b o e)

/-- the object of a def's name -/
theorem Wd.def (W : Wd) {x : Str} (h : isFn x = true) : ∃ a o fd, W.mg x = some (.ref a) ∧ W.H.get? a = some o ∧ o.data = .func fd := by
  unfold isFn at h
  obtain ⟨d, hd, hx⟩ := List.any_eq_true.mp h
  obtain ⟨a, o, pm, code, doc, h1, h2, h3, _⟩ := W.fn d hd
  rw [beq_iff_eq] at hx
  subst hx
  exact ⟨a, o, _, h1, h2, h3⟩

theorem glob_fn (hF : Fok F) {σ : Bx} {g : FH} {s : Shared} (I : Iv W β s₀ g₀ F hd ρ own σ g s) {x : Str} {p : Pos} (h1 : okGlob F.sc x = true) (h2 : isFn x = true) {Q : Value → Shared → Prop}
    (h : ∀ a, W.mg x = some (.ref a) → Q (.ref a) s) : wpAny W.M A (eval (.Name x p) F.env) Q Ex s := by
  obtain ⟨a, o, fd, h3, _⟩ := W.def h2
  exact Calls.Name_function_global (env := F.env) hF.kind (okGlob_ h1).1 (Calls.loadGlobal_global (env := F.env) (W.g.keeps I.hk) h3 (h a h3)) (okGlob_ h1).2

theorem Bi.boot (b : Bi) : bootBuiltins b.nm = some b.val := by cases b <;> decide +kernel
theorem Bi.name (b : Bi) : b.nm ≠ "__name__" := by cases b <;> decide +kernel
theorem Wd.noBi (W : Wd) (b : Bi) : W.mg b.nm = none := by
  obtain ⟨h1, h2, h3, h4, h5, h6, _⟩ := W.nob
  cases b
  · exact h1
  · exact h2
  · exact h3
  · exact h4
  · exact h5
  · exact h6

theorem glob_bi (hF : Fok F) {σ : Bx} {g : FH} {s : Shared} (I : Iv W β s₀ g₀ F hd ρ own σ g s) {b : Bi} {p : Pos} (h1 : okGlob F.sc b.nm = true) {Q : Value → Shared → Prop}
    (h : Q b.val s) : wpAny W.M A (eval (.Name b.nm p) F.env) Q Ex s :=
  Calls.Name_function_global (env := F.env) hF.kind (okGlob_ h1).1 (Calls.loadGlobal_builtin (env := F.env) (W.g.keeps I.hk) (W.noBi b) (W.b.keeps I.hk) (W.bi _ _ b.boot b.name (W.noBi b)) h) (okGlob_ h1).2

theorem callWith_bi {b : Bi} {pos : Pos} {a : Expr} {args : List Expr} {env : Env} {Q : Value → Shared → Prop} {s : Shared}
    (h : wpAny W.M A (spliced ((a :: args).map fun e => (false, eval e env))) (fun vs s1 => wpAny W.M A (PySem.call b.val vs) Q Ex s1) Ex s) :
    wpAny W.M A (callWith pos b.val [] ((a :: args).map fun e => (false, eval e env)) []) Q Ex s := by
  have h' := Calls.evalArgs_plain (f := b.val) (Q := fun x s1 => wpAny W.M A (PySem.call b.val ([] ++ x.pos) x.kw) Q Ex s1) h
  cases b
  case range => exact PySem.callWith_type (any_plain (a :: args) env) h'
  all_goals exact Calls.callWith_builtin (any_plain (a :: args) env) h'

theorem ints_of_reps {g : FH} : ∀ {vs : List Value} {xs : List Int}, Reps W g β vs (xs.map V.int) → IntsAre vs xs
  | [], [], _ => .nil
  | v :: vs, x :: xs, h => by
    obtain ⟨⟨t, rfl⟩, h2⟩ := h
    exact .cons x t (ints_of_reps h2)
  | [], _ :: _, h => h.elim
  | _ :: _, [], h => h.elim

/-- a cut's tail, its object made -/
theorem cut_tail {value slice : Expr} {xs ys : List Int} {r vl vu vt : Value} {lo hi st : Option Int} {Q : V → Bx → Prop} {σ : Bx} {g : FH} {s : Shared} (I : Iv W β s₀ g₀ F hd ρ own σ g s) (hr : Rep W g β r (.list xs))
    (pl : IsPart vl lo) (pu : IsPart vu hi) (ps : IsPart vt st) (h0 : st ≠ some 0)
    (hy : ∀ vs : List Value, vs.length = xs.length → IntsAre vs xs → IntsAre (slicePick vs.toArray lo hi st).toList ys) (hn : ys.length ≤ xs.length) (hq : Q (.list ys) σ) :
    wpAny W.M A (subscriptTail value slice r (.ref s.heap.objs.size)) (Post W β g s Q) Ex { s with heap := s.heap.push { cls := .type "slice", data := .fields #[vl, vu, vt] } } := by
  obtain ⟨l, rfl, hl⟩ := hr
  have k : ∀ a o, s.heap.get? a = some o → (s.heap.push { cls := .type "slice", data := .fields #[vl, vu, vt] }).get? a = some o := fun a o e => Heap.get?_push_of_some _ e
  have e : Ext β g g s { s with heap := s.heap.push { cls := .type "slice", data := .fields #[vl, vu, vt] }, toks := s.toks } := .same I.gs k
  refine wpAny_mono (cut_sound (σ := σ) (β := β) e.gs (I.box.keep k fun b e => (I.box b e).1) hl (Heap.IsSliceOf.new ..) pl pu ps h0 hy hn hq) (fun _ _ h => h.pre e) fun _ _ e => e
end
end
section
open PySem PySem.Spec PySem.W PyProof.Rows PyProof.V PySem.SeqAt

section
variable {W : Wd} {β : Option Addr} {s₀ : Shared} {g₀ : FH} {F : Fm} {hd : FH} {ρ : Row} {own : Own} {A : Around} {Ex : Value → Shared → Prop}

/-- a call of isinstance on two names -/
theorem call_isi {env : Env} {s : Shared} {f y t : Str} {pf py pt pos : Pos} {v : Value} {T : String} {Q : Value → Shared → Prop}
    (hf : ∀ {Q : Value → Shared → Prop}, Q (.builtin "isinstance") s → wpAny W.M A (eval (.Name f pf) env) Q Ex s) (hy : ∀ {Q : Value → Shared → Prop}, Q v s → wpAny W.M A (eval (.Name y py) env) Q Ex s)
    (ht : ∀ {Q : Value → Shared → Prop}, Q (.type T) s → wpAny W.M A (eval (.Name t pt) env) Q Ex s) (h : wpAny W.M A (PySem.call (.builtin "isinstance") [v, .type T]) Q Ex s) :
    wpAny W.M A (eval (.Call (.Name f pf) [.Name y py, .Name t pt] [] pos) env) Q Ex s := by
  refine Call_ (hf ?_)
  have hs : starEach [.Name y py, .Name t pt] env = [.Name y py, .Name t pt].map fun e => (false, eval e env) := rfl
  rw [hs, backTo_plain]
  refine Calls.callWith_builtin (any_plain [.Name y py, .Name t pt] env) (Calls.evalArgs_plain (f := .builtin "isinstance") (Q := fun x s1 => wpAny W.M A (PySem.call (.builtin "isinstance") ([] ++ x.pos) x.kw) Q Ex s1) ?_)
  exact Calls.spliced_cons (hy (Calls.spliced_cons (ht (Calls.spliced_nil h))))

/-- a comprehension of which nothing passes the test -/
theorem comp_nil (hF : Fok F) (hA : A.handled = none) {xs : List Int} {elt c : Expr} {x y : Str} {i : Nat} {px py pos : Pos} {csc : Scope} {cl : List (Str × Addr)} {Q : V → Bx → Prop} {σ : Bx} {g : FH} {s : Shared}
    (I : Iv W β s₀ g₀ F hd ρ own σ g s) (hi : F.ns[i]? = some x) (hX : ρ[i]? = some (some (.list xs))) (hx : okVar F.sc x = true)
    (hclos : closureFor csc F.env = pure cl) (hcell : ∀ y ∈ csc.names, y.2 ≠ .cell) (hkind : csc.kind = .function) (hnames : ∀ y ∈ csc.names, y.2 = .local → csc.names.lookup y.1 = some .local) (hy : csc.names.lookup y = some .local)
    (ht : ∀ C n t s3 m3 E', n ∈ xs → s3.heap.Ns C m3 → m3 y = some (.int n t) → (∀ b o, s.heap.get? b = some o → s3.heap.get? b = some o) →
      wpAny W.M A (isTrue c (compEnvC csc cl C F.env) (eval c (compEnvC csc cl C F.env))) (fun ok s4 => ok = false ∧ Keeps s3 s4) E' s3)
    (hq : Q (.list []) σ) : wpAny W.M A (eval (.ListComp elt [⟨.Name y py, .Name x px, [c], 0⟩] csc pos) F.env) (Post W β g s Q) Ex s := by
  refine wpAny_ListComp_free (fun _ => false) (fun _ _ => True) hclos hcell hkind hnames hy ?_ (fun _ => rfl)
  refine wpAny_Name (I.load hF hi hX hx fun v hv => ?_) (okVar_ hx).2
  obtain ⟨l, rfl, o, vs, nn, z1, z2, z3, z4, z5⟩ := hv
  have hl : s.heap.IsList l vs.toArray := ⟨o, I.gs _ _ z1, z2, nn, z3⟩
  have hlt : l < s.heap.objs.size := Heap.lt_size (I.gs _ _ z1)
  have up : ∀ (s₃ : Shared), (∀ b o, b ∉ [s.heap.objs.size] → (s.heap.push { cls := .type "list_iterator", data := .fields #[.ref l, .int 0 0] }).get? b = some o → s₃.heap.get? b = some o) → ∀ b o, s.heap.get? b = some o → s₃.heap.get? b = some o :=
    fun s₃ hk b o e => hk b o (fun hm => by rcases List.mem_cons.mp hm with rfl | hm; exact Nat.lt_irrefl _ (Heap.lt_size e); cases hm) (Heap.get?_push_of_some _ e)
  refine wpAny_pyIter_list hl ⟨s.heap.objs.size, [s.heap.objs.size, l], [s.heap.objs.size], vs.toArray.size, _, _, rfl, Walks.list hA _ _ (Nat.ne_of_lt hlt) vs.toArray, (by rw [List.size_toArray, z4.length]; exact z5), ⟨⟨_, Heap.get?_push_size _ rfl, rfl, rfl⟩, hl.push _⟩, ?_, ⟨?_, ?_⟩, ?_⟩
  · intro b hb
    show b < (s.heap.push _).objs.size
    rw [Heap.size_push]
    rcases List.mem_cons.mp hb with rfl | hb
    · exact Nat.lt_succ_self _
    · rcases List.mem_cons.mp hb with rfl | hb
      · exact Nat.lt_succ_of_lt hlt
      · cases hb
  · intro C j v s₃ m₃ E' _ hP hn hm hk _
    have hv' : vs[j]? = some v := by simpa using hP
    obtain ⟨t, rfl⟩ := IntsAre.int_at z4 j v hv'
    have hjl : j < vs.length := (List.getElem?_eq_some_iff.mp hv').1
    have hmem : xs.getD j 0 ∈ xs := by
      have hjx : j < xs.length := by rw [← z4.length]; exact hjl
      rw [List.getD_eq_getElem?_getD, List.getElem?_eq_getElem hjx]
      exact List.getElem_mem hjx
    exact wpAny_tests_one (ht C _ t s₃ m₃ E' hmem hn hm (up s₃ hk))
  · intro C j v s₃ m₃ E' _ _ hp
    cases hp
  · intro D h' tk ys vs' hnew hlD hpl hlen hP hFp hk
    have keep : ∀ b o, s.heap.get? b = some o → h'.get? b = some o := up { s with heap := h' } hk
    have hys : ys = #[] := by
      have := hFp.length
      rw [List.filter_eq_nil_iff.mpr (by simp)] at this
      apply Array.eq_empty_of_size_eq_zero
      rw [← Array.length_toList]; exact this.symm
    subst hys
    obtain ⟨n, hD⟩ := hpl
    have hnD : s.heap.get? D = none := by
      cases e : s.heap.get? D with
      | none => rfl
      | some o' => have := Heap.get?_push_of_some { cls := .type "list_iterator", data := .fields #[.ref l, .int 0 0] } e; rw [hnew] at this; cases this
    exact Post.made (x := .list []) I.gs keep hnD hD I.box ⟨D, rfl, _, [], n, put_self .., rfl, rfl, .nil, Nat.zero_le _⟩ hq

theorem not_lookup_free {env : Env} {sc : Scope} (h : ∀ x ∈ sc.names, x.2 ≠ .free) : relabel sc env = sc := by
  unfold relabel
  have : (sc.names.map fun (n, k) => if (k == NameKind.free && env.scope.kind == .function && env.kindOf n == some .cell) then (n, NameKind.cell) else (n, k)) = sc.names := by
    refine map_eq_self fun x hx => ?_
    obtain ⟨n, k⟩ := x
    have := h _ hx
    cases k <;> first | rfl | exact absurd rfl this
  rw [this]

theorem mk_list_nil (hA : A.handled = none) {p : Pos} {Q : V → Bx → Prop} {σ : Bx} {g : FH} {s : Shared} (I : Iv W β s₀ g₀ F hd ρ own σ g s) (hq : Q (.list []) σ) : wpAny W.M A (eval (.List [] p) F.env) (Post W β g s Q) Ex s := by
  rw [arm_eval_List]
  refine wpAny_bind (wpAny_standAt (wpAny_bind (Calls.spliced_nil (wpAny_newList ?_ (Nat.zero_le _)))))
  exact Post.made (x := .list []) I.gs (fun _ _ e => Heap.get?_push_of_some _ e) (size_none _) (Heap.get?_push_size _ rfl) I.box ⟨_, rfl, lsAt_put .nil (Nat.zero_le _)⟩ hq
end
end
section
open PySem PySem.Spec PySem.W PyProof.Rows PyProof.V PySem.SeqAt

section
variable {W : Wd} {β : Option Addr} {s₀ : Shared} {g₀ : FH} {F : Fm} {hd : FH} {ρ : Row} {own : Own} {A : Around} {Ex : Value → Shared → Prop} {k : Nat}

theorem wpm {α : Type} {P R : α → Shared → Prop} {t : Sem α} {s : Shared} (h : wpAny W.M A t P Ex s) (hf : ∀ r s1, P r s1 → R r s1) : wpAny W.M A t R Ex s := wpAny_mono h hf fun _ _ e => e
theorem boot_isi : bootBuiltins "isinstance" = some (.builtin "isinstance") := by decide +kernel
theorem boot_list : bootBuiltins "list" = some (.type "list") := by decide +kernel
theorem boot_bool : bootBuiltins "bool" = some (.type "bool") := by decide +kernel
theorem boot_int : bootBuiltins "int" = some (.type "int") := by decide +kernel

/-- a builtin's name, in a function of the text -/
theorem glob_b {env : Env} {x : Str} {v : Value} {p : Pos} {s : Shared} (hH : ∀ b o, W.H.get? b = some o → s.heap.get? b = some o) (hk : env.scope.kind = .function) (hx : env.kindOf x = some .globalImplicit) (hd : (x == ("__debug__" : Str)) = false)
    (hg : env.globals = mainGlobals) (hbn : env.builtins = builtinsNs) (hm : W.mg x = none) (hv : bootBuiltins x = some v) (hn : x ≠ "__name__") {Q : Value → Shared → Prop} (h : Q v s) : wpAny W.M A (eval (.Name x p) env) Q Ex s :=
  Calls.Name_function_global (env := env) hk hx (Calls.loadGlobal_builtin (env := env) (by rw [hg]; exact W.g.keeps hH) hm (by rw [hbn]; exact W.b.keeps hH) (W.bi _ _ hv hn hm) h) hd

/-- a list under a name -/
theorem WE_isl {i : Nat} {Q : V → Bx → Prop} {σ : Bx} (hw : WE W k ρ (.isl i) Q σ) : ∃ xs, ρ[i]? = some (some (.list xs)) ∧ Q (.bool true) σ := by
  obtain ⟨_, h1, hw⟩ := onV_ hw
  obtain ⟨xs, rfl, hw⟩ := onL_ hw
  exact ⟨xs, h1, hw⟩
theorem WE_ints {i : Nat} {Q : V → Bx → Prop} {σ : Bx} (hw : WE W k ρ (.intsNe i) Q σ) : ∃ xs, ρ[i]? = some (some (.list xs)) ∧ Q (.bool false) σ := by
  obtain ⟨_, h1, hw⟩ := onV_ hw
  obtain ⟨xs, rfl, hw⟩ := onL_ hw
  exact ⟨xs, h1, hw⟩
theorem WT_isl {i : Nat} {Q : Bool → Bx → Prop} {σ : Bx} (hw : WT W k ρ (.isl i) Q σ) : WE W k ρ (.isl i) (fun v σ' => v = .bool true ∧ Q true σ') σ := by
  obtain ⟨_, h1, hw⟩ := onV_ hw
  obtain ⟨xs, rfl, hw⟩ := onL_ hw
  rw [ZF, h1]
  exact ⟨rfl, hw⟩
theorem WT_ints {i : Nat} {Q : Bool → Bx → Prop} {σ : Bx} (hw : WT W k ρ (.intsNe i) Q σ) : ∃ xs, ρ[i]? = some (some (.list xs)) ∧ Q false σ := by
  obtain ⟨_, h1, hw⟩ := onV_ hw
  obtain ⟨xs, rfl, hw⟩ := onL_ hw
  exact ⟨xs, h1, hw⟩

theorem on5_ {vs : List V} {k : Int → Int → Int → Prop} (h : on5 vs k) : ∃ a b c, vs = [.int a, .int b, .int c, .fn "_law_times", .fn "_law_parts"] ∧ k a b c := by
  rcases vs with _ | ⟨x, vs⟩ <;> first | exact h.elim | skip
  cases x <;> first | exact h.elim | skip
  rcases vs with _ | ⟨x, vs⟩ <;> first | exact h.elim | skip
  cases x <;> first | exact h.elim | skip
  rcases vs with _ | ⟨x, vs⟩ <;> first | exact h.elim | skip
  cases x <;> first | exact h.elim | skip
  rcases vs with _ | ⟨x, vs⟩ <;> first | exact h.elim | skip
  cases x <;> first | exact h.elim | skip
  rcases vs with _ | ⟨x, vs⟩ <;> first | exact h.elim | skip
  cases x <;> first | exact h.elim | skip
  rcases vs with _ | ⟨x, vs⟩ <;> first | exact h.elim | skip
  obtain ⟨rfl, rfl, h⟩ := h
  exact ⟨_, _, _, rfl, h⟩

theorem isl_sound (hF : Fok F) {i : Nat} {x : Expr} {Q : V → Bx → Prop} {σ : Bx} {g : FH} {s : Shared} (h : okE F.sc F.ns (.isl i) x = true) (I : Iv W β s₀ g₀ F hd ρ own σ g s) (hw : WE W k ρ (.isl i) Q σ) :
    wpAny W.M A (eval x F.env) (Post W β g s Q) Ex s := by
  obtain ⟨f, as, p, rfl, j1⟩ := onCall_ h
  clear h
  obtain ⟨f, p1, rfl, j2⟩ := onName_ j1
  clear j1
  obtain ⟨a, b, rfl, j3⟩ := onTwo_ j2
  clear j2
  obtain ⟨y, p2, rfl, j4⟩ := onName_ j3
  clear j3
  obtain ⟨t, p3, rfl, j5⟩ := onName_ j4
  clear j4
  obtain ⟨hf, j6⟩ := and_ j5
  clear j5
  obtain ⟨ht, j7⟩ := and_ j6
  clear j6
  obtain ⟨h1, j8⟩ := and_ j7
  clear j7
  obtain ⟨h2, j9⟩ := and_ j8
  clear j8
  obtain ⟨h3, h4⟩ := and_ j9
  clear j9
  obtain rfl := eq_of_beq hf
  obtain rfl := eq_of_beq ht
  replace h3 := eq_of_beq h3
  obtain ⟨xs, hX, hq⟩ := WE_isl hw
  clear hw
  obtain ⟨n1, n2, n3, n4, n5, n6, n7, n8, n9, n10⟩ := W.nob
  obtain ⟨m, cm, hn, hc, hv, _⟩ := I.vars
  obtain ⟨v, hsl, hr⟩ := hv i _ _ h3 hX
  obtain ⟨l, rfl, o, vs, nn, z1, z2, z3, z4, z5⟩ := hr
  refine call_isi (v := .ref l) (fun q => glob_b (env := F.env) I.hk hF.kind (okGlob_ h1).1 (okGlob_ h1).2 rfl rfl n7 boot_isi (by decide) q) (fun q => ?_)
    (fun q => glob_b (env := F.env) I.hk hF.kind (okGlob_ h2).1 (okGlob_ h2).2 rfl rfl n8 boot_list (by decide) q) (PySem.IsiPair.list_list (I.gs _ _ z1) z2 ?_)
  · refine wpAny_Name ?_ (okVar_ h4).2
    rcases (okVar_ h4).1 with hk | hk
    · rw [slot_local hk] at hsl
      exact wpAny_loadName_local hF.kind hk hn hsl q
    · rw [slot_cell hk] at hsl
      obtain ⟨c, hcx⟩ := F.cell hk
      exact wpAny_loadName_cell hF.kind hk hcx (hsl ▸ hc.cell _ c hcx) q
  · exact Post.tok (tk := s.toks) (x := .bool true) I.gs I.box rfl hq

theorem ok_ints {sc : Scope} {ns : List Str} {i : Nat} {x : Expr} (h : okE sc ns (.intsNe i) x = true) : ∃ elt y c csc p1 p2 p p3 p4, x = .Compare (.ListComp elt [⟨.Name "one" p1, .Name y p2, [c], 0⟩] csc p) [.NotEq] [.List [] p3] p4 ∧
    ns[i]? = some y ∧ okVar sc y = true ∧ okNot c = true ∧ csc.kind = .function ∧ csc.names = nmInts := by
  obtain ⟨a, o, b, p4, rfl, j1⟩ := onCmp_ h
  clear h
  obtain ⟨ho, j2⟩ := and_ j1
  clear j1
  obtain ⟨hb, j3⟩ := and_ j2
  clear j2
  obtain ⟨elt, y, c, csc, p1, p2, p, rfl, hk, j4⟩ := okLc_ j3
  clear j3
  obtain ⟨hc, j5⟩ := and_ j4
  clear j4
  obtain ⟨h1, j6⟩ := and_ j5
  clear j5
  obtain ⟨h2, h3⟩ := and_ j6
  clear j6
  obtain ⟨p3, rfl⟩ := okNil_ hb
  obtain rfl := eq_of_beq ho
  exact ⟨elt, y, c, csc, p1, p2, p, p3, p4, rfl, eq_of_beq h1, h2, hc, hk, of_decide_eq_true h3⟩
theorem ok_bnd {sc : Scope} {ns : List Str} {i j : Nat} {x : Expr} (h : okE sc ns (.bndEq i j) x = true) : ∃ elt y c csc p1 p2 p p3 p4, x = .Compare (.ListComp elt [⟨.Name "one" p1, .Name y p2, [c], 0⟩] csc p) [.Eq] [.List [] p3] p4 ∧
    ns[i]? = some y ∧ okVar sc y = true ∧ okOut c = true ∧ csc.kind = .function ∧ csc.names = nmBnd ∧ ns[j]? = some ("w" : Str) ∧ sc.names.lookup ("w" : Str) = some .cell := by
  obtain ⟨a, o, b, p4, rfl, j1⟩ := onCmp_ h
  clear h
  obtain ⟨ho, j2⟩ := and_ j1
  clear j1
  obtain ⟨hb, j3⟩ := and_ j2
  clear j2
  obtain ⟨elt, y, c, csc, p1, p2, p, rfl, hk, j4⟩ := okLc_ j3
  clear j3
  obtain ⟨hc, j5⟩ := and_ j4
  clear j4
  obtain ⟨h1, j6⟩ := and_ j5
  clear j5
  obtain ⟨h2, j7⟩ := and_ j6
  clear j6
  obtain ⟨h3, j8⟩ := and_ j7
  clear j7
  obtain ⟨h4, h5⟩ := and_ j8
  clear j8
  obtain ⟨p3, rfl⟩ := okNil_ hb
  obtain rfl := eq_of_beq ho
  exact ⟨elt, y, c, csc, p1, p2, p, p3, p4, rfl, eq_of_beq h1, h2, hc, hk, of_decide_eq_true h3, eq_of_beq h4, eq_of_beq h5⟩

/-- the row's comprehension of what is no int -/
theorem ints_comp (hF : Fok F) (hA : Ok k A) {elt c : Expr} {x : Str} {i : Nat} {p1 p2 p : Pos} {csc : Scope} {xs : List Int} {σ : Bx} {g : FH} {s : Shared} (I : Iv W β s₀ g₀ F hd ρ own σ g s) (h1 : F.ns[i]? = some x) (h2 : okVar F.sc x = true) (hX : ρ[i]? = some (some (.list xs)))
    (hc : okNot c = true) (hk : csc.kind = .function) (hnm : csc.names = nmInts) :
    wpAny W.M A (eval (.ListComp elt [⟨.Name "one" p1, .Name x p2, [c], 0⟩] csc p) F.env) (Post W β g s fun v σ' => v = .list [] ∧ σ' = σ) Ex s := by
  obtain ⟨n1, n2, n3, n4, n5, n6, n7, n8, n9, n10⟩ := W.nob
  have hfree : ∀ x ∈ csc.names, x.2 ≠ .free := by rw [hnm]; decide
  have hrel : relabel csc F.env = csc := not_lookup_free hfree
  obtain ⟨_, _, _, _, _, _, _, _, _, _, rfl⟩ := okNot_ hc
  refine comp_nil (y := "one") hF hA.hh I h1 hX h2 (cl := []) (closureFor_none hfree) (by rw [hnm]; decide) hk (by rw [hnm]; decide) (by rw [hnm]; decide) ?_ ⟨rfl, rfl⟩
  intro C n t s3 m3 E' hmem hn3 hm3 hk3
  have hH : ∀ b o, W.H.get? b = some o → s3.heap.get? b = some o := fun b o e => hk3 b o (I.hk b o e)
  have hks : (compEnvC csc [] C F.env).scope.kind = .function := hk
  have kd : ∀ y z, csc.names.lookup y = some z → (compEnvC csc [] C F.env).kindOf y = some z := fun y z e => by
    show (relabel csc F.env).names.lookup y = some z
    rw [hrel]; exact e
  have k1 := kd "one" .local (by rw [hnm]; decide)
  have ki := kd "isinstance" .globalImplicit (by rw [hnm]; decide)
  have kb := kd "bool" .globalImplicit (by rw [hnm]; decide)
  have kt := kd "int" .globalImplicit (by rw [hnm]; decide)
  have one : ∀ {s4 : Shared} {p : Pos} {E4 : Value → Shared → Prop} {Q4 : Value → Shared → Prop}, s4.heap = s3.heap → Q4 (.int n t) s4 → wpAny W.M A (eval (.Name "one" p) (compEnvC csc [] C F.env)) Q4 E4 s4 := fun e q =>
    wpAny_Name (wpAny_loadName_local hks k1 (by rw [e]; exact hn3) hm3 q)
  refine wpAny_isTrue_BoolOp ?_
  refine wpAny_bind (m := isTrue _ _ (eval _ _)) (isTrue_plain (call_isi (T := "bool") (fun q => glob_b (env := compEnvC csc [] C F.env) hH hks ki (by decide) rfl rfl n7 boot_isi (by decide) q) (one rfl)
    (fun q => glob_b (env := compEnvC csc [] C F.env) hH hks kb (by decide) rfl rfl n9 boot_bool (by decide) q) (PySem.IsiPair.int_bool (wpAny_truthy_bool ?_))))
  refine wpAny_bind (m := isTrue _ _ (eval _ _)) (wpAny_isTrue_Not (isTrue_plain (call_isi (T := "int") (fun q => glob_b (env := compEnvC csc [] C F.env) (s := { s3 with toks := s3.toks + 1 }) hH hks ki (by decide) rfl rfl n7 boot_isi (by decide) q) (one rfl)
    (fun q => glob_b (env := compEnvC csc [] C F.env) (s := { s3 with toks := s3.toks + 1 }) hH hks kt (by decide) rfl rfl n10 boot_int (by decide) q) (PySem.IsiPair.int_int (wpAny_truthy_bool ?_)))))
  exact wpAny_pure ⟨rfl, s3.heap, _, rfl, fun _ _ e => e⟩
theorem ints_sound (hF : Fok F) (hA : Ok k A) {i : Nat} {x : Expr} {Q : V → Bx → Prop} {σ : Bx} {g : FH} {s : Shared} (h : okE F.sc F.ns (.intsNe i) x = true) (I : Iv W β s₀ g₀ F hd ρ own σ g s) (hw : WE W k ρ (.intsNe i) Q σ) :
    wpAny W.M A (eval x F.env) (Post W β g s Q) Ex s := by
  obtain ⟨elt, y, c, csc, p1, p2, p, p3, p4, rfl, h1, h2, hc, hk, hnm⟩ := ok_ints h
  obtain ⟨xs, hX, hq⟩ := WE_ints hw
  clear h hw
  refine wpAny_Compare1 (wpm (ints_comp hF hA I h1 h2 hX hc hk hnm) ?_)
  rintro v s1 ⟨g1, X, σ1, e1, b1, r1, rfl, rfl⟩
  have I1 := I.step e1 b1
  refine wpm (mk_list_nil hA.hh I1 (Q := fun v σ' => v = .list [] ∧ σ' = σ1) ⟨rfl, rfl⟩) ?_
  rintro u s2 ⟨g2, Y, σ2, e2, b2, r2, rfl, rfl⟩
  have I2 := I1.step e2 b2
  exact WCmp_sound (σ := σ2) (op := .NotEq) I2.gs (by have := hA.hu; omega) (r1.mono e2.gg) r2 (Q := fun c σ' => c = false ∧ σ' = σ2) ⟨rfl, rfl⟩ fun c q => Post.pre e1 (Post.pre e2 (Post.tok (tk := s2.toks) (x := .bool _) I2.gs I2.box rfl (by rw [q.1]; exact hq)))
theorem ints_true (hF : Fok F) (hA : Ok k A) {i : Nat} {x : Expr} {Q : Bool → Bx → Prop} {σ : Bx} {g : FH} {s : Shared} (h : okE F.sc F.ns (.intsNe i) x = true) (I : Iv W β s₀ g₀ F hd ρ own σ g s) (hw : WT W k ρ (.intsNe i) Q σ) :
    wpAny W.M A (isTrue x F.env (eval x F.env)) (PostT β g s Q) Ex s := by
  obtain ⟨elt, y, c, csc, p1, p2, p, p3, p4, rfl, h1, h2, hc, hk, hnm⟩ := ok_ints h
  obtain ⟨xs, hX, hq⟩ := WT_ints hw
  clear h hw
  refine wpAny_isTrue_Compare1 (wpm (ints_comp hF hA I h1 h2 hX hc hk hnm) ?_)
  rintro v s1 ⟨g1, X, σ1, e1, b1, r1, rfl, rfl⟩
  have I1 := I.step e1 b1
  refine wpm (mk_list_nil hA.hh I1 (Q := fun v σ' => v = .list [] ∧ σ' = σ1) ⟨rfl, rfl⟩) ?_
  rintro u s2 ⟨g2, Y, σ2, e2, b2, r2, rfl, rfl⟩
  have I2 := I1.step e2 b2
  exact WCmp_sound (σ := σ2) (op := .NotEq) I2.gs (by have := hA.hu; omega) (r1.mono e2.gg) r2 (Q := fun c σ' => c = false ∧ σ' = σ2) ⟨rfl, rfl⟩ fun c q => wpAny_truthy_bool ⟨g2, σ2, e1.trans e2, b2, by rw [q.1]; exact hq⟩
theorem closure_bnd {env : Env} {csc : Scope} {c : Addr} (hn : csc.names = nmBnd) (hc : env.cells.lookup ("w" : Str) = some c) : closureFor csc env = pure [(("w" : Str), c)] := by
  unfold closureFor
  rw [hn]
  simp only [nmBnd, List.forIn_cons, List.forIn_nil]
  have : cellOf env "w" = pure c := by unfold cellOf; rw [hc]
  rw [this]
  rfl

theorem rel_bnd {env : Env} {csc : Scope} (hn : csc.names = nmBnd) (hk : env.scope.kind = .function) (hw : env.kindOf "w" = some .cell) : (relabel csc env).names = [((".0" : Str), NameKind.local), (("one" : Str), .local), (("w" : Str), .cell)] := by
  unfold relabel
  rw [hn]
  simp only [nmBnd, List.map_cons, List.map_nil, hk, hw]
  rfl

theorem bnd_sound (hF : Fok F) (hA : Ok k A) {i j : Nat} {x : Expr} {Q : V → Bx → Prop} {σ : Bx} {g : FH} {s : Shared} (h : okE F.sc F.ns (.bndEq i j) x = true) (I : Iv W β s₀ g₀ F hd ρ own σ g s) (hw : WE W k ρ (.bndEq i j) Q σ) :
    wpAny W.M A (eval x F.env) (Post W β g s Q) Ex s := by
  obtain ⟨elt, y, c0, csc, p1, p2, p, p3, p4, rfl, h1, h2, hc0, hk, hnm, h3, hkc⟩ := ok_bnd h
  obtain ⟨_, _, _, _, _, _, _, _, _, rfl⟩ := okOut_ hc0
  clear h
  obtain ⟨_, hX, q1⟩ := onV_ hw
  clear hw
  obtain ⟨xs, rfl, q2⟩ := onL_ q1
  clear q1
  obtain ⟨_, hY, q3⟩ := onV_ q2
  clear q2
  obtain ⟨wv, rfl, hw⟩ := onI_ q3
  clear q3
  · skip
    obtain ⟨w0, w1, hall, hw⟩ := hw
    obtain ⟨m, cm, hn, hc, hv, _⟩ := I.vars
    obtain ⟨v, hsl, tw, rfl⟩ := hv j _ _ h3 hY
    rw [slot_cell hkc] at hsl
    obtain ⟨c, hcx⟩ := F.cell hkc
    obtain ⟨oc, hoc, hdc⟩ := hc.cell _ c hcx
    rw [hsl] at hdc
    have hlk := rel_bnd (env := F.env) hnm hF.kind hkc
    refine wpAny_Compare1 (wpm (comp_nil (y := "one") hF hA.hh I h1 hX h2 (cl := [("w", c)]) (closure_bnd hnm hcx) (by rw [hnm]; decide) hk (by rw [hnm]; decide) (by rw [hnm]; decide) ?_ (Q := fun v σ' => v = .list [] ∧ σ' = σ) ⟨rfl, rfl⟩) ?_)
    · intro C n t s3 m3 E' hmem hn3 hm3 hk3
      have hks : (compEnvC csc [("w", c)] C F.env).scope.kind = .function := hk
      have kd : ∀ y z, List.lookup y [((".0" : Str), NameKind.local), (("one" : Str), .local), (("w" : Str), .cell)] = some z → (compEnvC csc [("w", c)] C F.env).kindOf y = some z := fun y z e => by
        show (relabel csc F.env).names.lookup y = some z
        rw [hlk]; exact e
      have k1 := kd "one" .local (by decide)
      have kw := kd "w" .cell (by decide)
      obtain ⟨b0, b1⟩ := hall n hmem
      refine wpAny_isTrue_Not (isTrue_chain (wpAny_Constant_int (test_link ?_)))
      refine wpAny_Name (wpAny_loadName_local hks k1 hn3 hm3 ?_)
      refine PySem.P.le_int (wpAny_truthy_bool ?_)
      rw [decide_eq_true b0, if_pos rfl]
      refine test_last (wpAny_BinOp (wpAny_Constant_int ?_))
      refine wpAny_Name (wpAny_loadName_cell (c := c) hks kw (by rfl) ⟨oc, hk3 _ _ hoc, hdc⟩ ?_)
      refine pow_int_small w0 w1 (by decide) ?_
      refine PySem.P.lt_int (wpAny_truthy_bool ?_)
      rw [decide_eq_true b1]
      exact ⟨rfl, s3.heap, _, rfl, fun _ _ e => e⟩
    · rintro v s1 ⟨g1, X, σ1, e1, b1, r1, rfl, rfl⟩
      have I1 := I.step e1 b1
      refine wpm (mk_list_nil hA.hh I1 (Q := fun v σ' => v = .list [] ∧ σ' = σ1) ⟨rfl, rfl⟩) ?_
      rintro u s2 ⟨g2, Y, σ2, e2, b2, r2, rfl, rfl⟩
      have I2 := I1.step e2 b2
      exact WCmp_sound (σ := σ2) (op := .Eq) I2.gs (by have := hA.hu; omega) (r1.mono e2.gg) r2 (Q := fun c σ' => c = true ∧ σ' = σ2) ⟨rfl, rfl⟩ fun c q => Post.pre e1 (Post.pre e2 (Post.tok (tk := s2.toks) (x := .bool _) I2.gs I2.box rfl (by rw [q.1]; exact hw)))

/-- a new object of the text's class -/
theorem make_sound (hF : Fok F) (hA : Ok k A) {as : Es}
    (Has : ∀ {xs : List Expr} {Q : List V → Bx → Prop} {σ : Bx} {g : FH} {s : Shared}, okEs F.sc F.ns as xs = true → Iv W β s₀ g₀ F hd ρ own σ g s → WEs W k ρ as Q σ → wpAny W.M A (spliced (xs.map fun e => (false, eval e F.env))) (Posts W β g s Q) Ex s)
    {x : Expr} {Q : V → Bx → Prop} {σ : Bx} {g : FH} {s : Shared} (h : okE F.sc F.ns (.make as) x = true) (I : Iv W β s₀ g₀ F hd ρ own σ g s) (hw : WE W k ρ (.make as) Q σ) : wpAny W.M A (eval x F.env) (Post W β g s Q) Ex s := by
  obtain ⟨f, vs0, pos, rfl, j1⟩ := onCall_ h
  clear h
  obtain ⟨x0, px, rfl, j2⟩ := onName_ j1
  clear j1
  obtain ⟨a, args, rfl, j3⟩ := onCons_ j2
  clear j2
  obtain ⟨hx0, j4⟩ := and_ j3
  clear j3
  obtain ⟨h1, h2⟩ := and_ j4
  clear j4
  obtain rfl := eq_of_beq hx0
  obtain ⟨hk2, hw⟩ := hw
  refine Call_ (Calls.Name_function_global (env := F.env) hF.kind (okGlob_ h1).1 (Calls.loadGlobal_global (env := F.env) (W.g.keeps I.hk) W.dv_mg ?_) (okGlob_ h1).2)
  rw [starEach_ok h2, backTo_plain]
  refine callWith_of (P := fun h => ∀ a o, W.H.get? a = some o → h.get? a = some o) (first := []) (by rw [any_plain (a :: args) F.env]; rfl) W.dv_keep (Calls.evalArgs_plain (wpEs (Has h2 I hw) fun vs s2 g2 xs σ2 e b rs q => ?_))
  have I2 := I.step e b
  refine ⟨I2.hk, ?_⟩
  obtain ⟨hh, nn, ll, rfl, hq⟩ := on5_ q
  rcases vs with _ | ⟨v1, vs⟩
  · exact rs.elim
  obtain ⟨⟨t1, rfl⟩, rs⟩ := rs
  rcases vs with _ | ⟨v2, vs⟩
  · exact rs.elim
  obtain ⟨⟨t2, rfl⟩, rs⟩ := rs
  rcases vs with _ | ⟨v3, vs⟩
  · exact rs.elim
  obtain ⟨⟨t3, rfl⟩, rs⟩ := rs
  rcases vs with _ | ⟨v4, vs⟩
  · exact rs.elim
  obtain ⟨⟨am, rfl, hm, _⟩, rs⟩ := rs
  rcases vs with _ | ⟨v5, vs⟩
  · exact rs.elim
  obtain ⟨⟨ab, rfl, hb, _⟩, rs⟩ := rs
  rcases vs with _ | ⟨v6, vs⟩
  · refine W.told_make I2.hk hm hb (by have := hA.hd; omega) fun h' tk x dx ox od kp hne n1 n2 e1 e2 ht => ?_
    have nx := I2.box.ne n1
    have nd := I2.box.ne n2
    have gx : g2 x = none := by
      cases q : g2 x with
      | none => rfl
      | some o => have := I2.gs _ _ q; rw [n1] at this; cases this
    have gd : g2 dx = none := by
      cases q : g2 dx with
      | none => rfl
      | some o => have := I2.gs _ _ q; rw [n2] at this; cases this
    have gd' : put g2 x ox dx = none := by simp only [put, if_neg (Ne.symm hne)]; exact gd
    have pv : ∀ a o, put (put g2 x ox) dx od a = some o → a = dx ∧ o = od ∨ a ≠ dx ∧ a = x ∧ o = ox ∨ a ≠ dx ∧ a ≠ x ∧ g2 a = some o := fun a o q => by
      by_cases q1 : a = dx
      · subst q1; rw [put_self] at q; cases q; exact .inl ⟨rfl, rfl⟩
      · simp only [put, if_neg q1] at q
        by_cases q2 : a = x
        · subst q2; rw [if_pos rfl] at q; cases q; exact .inr (.inl ⟨q1, rfl, rfl⟩)
        · rw [if_neg q2] at q; exact .inr (.inr ⟨q1, q2, q⟩)
    refine Post.pre e ⟨put (put g2 x ox) dx od, .told hh nn ll, σ2, ⟨⟨h', tk, rfl⟩, fun a o _ e => kp a o e, fun a o q => put_sub gd' a o (put_sub gx a o q), fun a o q => ?_, fun a o q => ?_⟩, I2.box.keep kp fun b hb' => ?_, ht _ ?_ ?_, hq⟩
    · rcases pv a o q with ⟨rfl, rfl⟩ | ⟨_, rfl, rfl⟩ | ⟨_, _, q⟩
      · exact e2
      · exact e1
      · exact kp _ _ (I2.gs _ _ q)
    · rcases pv a o q with ⟨rfl, rfl⟩ | ⟨_, rfl, rfl⟩ | ⟨_, _, q⟩
      · exact .inr ⟨n2, nd⟩
      · exact .inr ⟨n1, nx⟩
      · exact .inl q
    · have h1 : b ≠ x := fun q => nx (by rw [hb', q])
      have h2 : b ≠ dx := fun q => nd (by rw [hb', q])
      simp only [put, if_neg h1, if_neg h2]
      exact (I2.box b hb').1
    · simp only [put, if_neg hne, if_pos]
    · exact put_self ..
  · exact rs.elim
end
end
section
open PySem PySem.Spec PySem.W PyProof.Rows PyProof.V PySem.SeqAt

section
variable {W : Wd} {β : Option Addr} {s₀ : Shared} {g₀ : FH} {F : Fm} {hd : FH} {ρ : Row} {own : Own} {A : Around} {Ex : Value → Shared → Prop} {k : Nat}

theorem isFn_times : isFn "_law_times" = true := by decide +kernel
theorem isFn_parts : isFn "_law_parts" = true := by decide +kernel

theorem wp_m {α : Type} {P R : α → Shared → Prop} {t : Sem α} {s : Shared} (h : wpAny W.M A t P Ex s) (hf : ∀ r s1, P r s1 → R r s1) : wpAny W.M A t R Ex s := wpAny_mono h hf fun _ _ e => e

theorem noCall {pos : Pos} {f : Value} {a : Expr} {args : List Expr} {env : Env} {R : Value → Shared → Prop} {g : FH} {s : Shared}
    (h : wpAny W.M A (spliced ((a :: args).map fun e => (false, eval e env))) (Posts W β g s fun _ _ => False) Ex s) : wpAny W.M A (callWith pos f [] ((a :: args).map fun e => (false, eval e env)) []) R Ex s := by
  unfold callWith
  exact wpAny_bind (wpAny_holding (wpAny_mono (Calls.evalArgs_plain (Q := fun _ _ => False) (wpAny_mono h (fun _ _ ⟨_, _, _, _, _, _, q⟩ => q) fun _ _ e => e)) (fun _ _ q => q.elim) fun _ _ e => e))

/-- the call of a def, its parts being sound -/
theorem call_sound (hA : Ok k A) {f : E} {as : Es}
    (Hf : ∀ {x : Expr} {Q : V → Bx → Prop} {σ : Bx} {g : FH} {s : Shared}, okE F.sc F.ns f x = true → Iv W β s₀ g₀ F hd ρ own σ g s → WE W k ρ f Q σ → wpAny W.M A (eval x F.env) (Post W β g s Q) Ex s)
    (Has : ∀ {xs : List Expr} {Q : List V → Bx → Prop} {σ : Bx} {g : FH} {s : Shared}, okEs F.sc F.ns as xs = true → Iv W β s₀ g₀ F hd ρ own σ g s → WEs W k ρ as Q σ → wpAny W.M A (spliced (xs.map fun e => (false, eval e F.env))) (Posts W β g s Q) Ex s)
    {x : Expr} {Q : V → Bx → Prop} {σ : Bx} {g : FH} {s : Shared} (h : okE F.sc F.ns (.call f as) x = true) (I : Iv W β s₀ g₀ F hd ρ own σ g s) (hw : WE W k ρ (.call f as) Q σ) : wpAny W.M A (eval x F.env) (Post W β g s Q) Ex s := by
  obtain ⟨f0, vs0, pos, rfl, j1⟩ := onCall_ h
  clear h
  obtain ⟨y, p, rfl, j2⟩ := onName_ j1
  clear j1
  obtain ⟨a, args, rfl, j3⟩ := onCons_ j2
  clear j2
  obtain ⟨h1, h2⟩ := and_ j3
  clear j3
  refine Call_ (wpE (Hf h1 I hw) fun v s1 g1 x σ1 e1 b1 hx hw1 => ?_)
  have I1 := I.step e1 b1
  rw [starEach_ok h2, backTo_plain]
  have hs := Has h2 I1 hw1
  cases x
  case fn z =>
    obtain ⟨fa, rfl, hz, hz'⟩ := hx
    obtain ⟨fa', o, fd, q1, q2, q3⟩ := W.def hz'
    rw [hz] at q1; cases q1
    refine Calls.callWith_function (o := o) (fd := fd) (Calls.evalArgs_plain (wpEs hs fun vs s2 g2 xs σ2 e b rs q => ?_))
    have I2 := I1.step e b
    exact ⟨⟨I2.hk _ _ q2, q3⟩, wpAny_mono (q A Ex s2 g2 β fa vs hz I2.base I2.gs hA.hh hA.hd hA.hu I2.box rs) (fun _ _ h => (h.pre e).pre e1) fun _ _ e => e⟩
  all_goals exact noCall hs

mutual
theorem WE_sound (hF : Fok F) (hA : Ok k A) : ∀ (e : E) {x : Expr} {Q : V → Bx → Prop} {σ : Bx} {g : FH} {s : Shared}, okE F.sc F.ns e x = true → Iv W β s₀ g₀ F hd ρ own σ g s → WE W k ρ e Q σ →
    wpAny W.M A (eval x F.env) (Post W β g s Q) Ex s
  | .int i, x, Q, σ, g, s, h, I, hw => by
    obtain ⟨_, _, _, rfl, j1⟩ := onInt_ h
    clear h
    obtain rfl := eq_of_beq j1
    exact wpAny_Constant_int (Post.tok (x := .int _) I.gs I.box ⟨_, rfl⟩ hw)
  | .neg i, x, Q, σ, g, s, h, I, hw => by
    obtain ⟨_, _, _, rfl, j1⟩ := onUn_ h
    clear h
    obtain ⟨ho, j2⟩ := and_ j1
    clear j1
    obtain ⟨_, _, _, rfl, j3⟩ := onInt_ j2
    clear j2
    obtain rfl := eq_of_beq ho
    obtain rfl := eq_of_beq j3
    rw [arm_eval_UnaryOp]
    refine wpAny_bind (wpAny_Constant_int (wpAny_bind (wpAny_standAt (wpAny_holding (P.neg_int ?_)))))
    exact Post.tok (x := .int (-_)) I.gs I.box ⟨_, rfl⟩ hw
  | .bool b, x, Q, σ, g, s, h, I, hw => by
    obtain ⟨_, _, _, rfl, j1⟩ := onBool_ h
    clear h
    obtain rfl := eq_of_beq j1
    exact wpAny_pure (Post.tok (tk := s.toks) (x := .bool _) I.gs I.box rfl hw)
  | .var i, x, Q, σ, g, s, h, I, hw => by
    obtain ⟨_, _, rfl, j1⟩ := onName_ h
    clear h
    obtain ⟨h1, h2⟩ := and_ j1
    clear j1
    obtain ⟨y, q, hw⟩ := onV_ hw
    exact wpAny_Name (I.load hF (eq_of_beq h1) q h2 fun v hv => Post.tok (tk := s.toks) I.gs I.box hv hw) (okVar_ h2).2
  | .fn y, x, Q, σ, g, s, h, I, hw => by
    obtain ⟨_, _, rfl, j1⟩ := onName_ h
    clear h
    obtain ⟨h0, j2⟩ := and_ j1
    clear j1
    obtain ⟨h1, h2⟩ := and_ j2
    clear j2
    obtain rfl := eq_of_beq h0
    exact glob_fn hF I h1 h2 fun a e => Post.tok (tk := s.toks) (x := .fn _) I.gs I.box ⟨a, rfl, e, h2⟩ hw
  | .few, x, Q, σ, g, s, h, I, hw => by
    obtain ⟨_, _, rfl, j1⟩ := onName_ h
    clear h
    obtain ⟨h0, h1⟩ := and_ j1
    clear j1
    obtain rfl := eq_of_beq h0
    obtain ⟨t, ht⟩ := W.few
    exact Calls.Name_function_global (env := F.env) hF.kind (okGlob_ h1).1 (Calls.loadGlobal_global (env := F.env) (W.g.keeps I.hk) ht (Post.tok (tk := s.toks) (x := .int 3) I.gs I.box ⟨t, rfl⟩ hw)) (okGlob_ h1).2
  | .bin op l r, x, Q, σ, g, s, h, I, hw => by
    obtain ⟨_, _, _, _, rfl, j1⟩ := onBin_ h
    clear h
    obtain ⟨h0, j2⟩ := and_ j1
    clear j1
    obtain ⟨h1, h2⟩ := and_ j2
    clear j2
    obtain rfl := eq_of_beq h0
    refine wpAny_BinOp (wpE (WE_sound hF hA l h1 I hw) fun v s1 g1 x σ1 e1 b1 hx hw1 => ?_)
    have I1 := I.step e1 b1
    refine wpE (WE_sound hF hA r h2 I1 hw1) fun u s2 g2 y σ2 e2 b2 hy hw2 => ?_
    have I2 := I1.step e2 b2
    exact wp_m (WBin_sound I2.gs I2.box (hx.mono e2.gg) hy hw2) fun _ _ h => (h.pre e2).pre e1
  | .cmp op l r, x, Q, σ, g, s, h, I, hw => by
    obtain ⟨_, _, _, _, rfl, j1⟩ := onCmp_ h
    clear h
    obtain ⟨h0, j2⟩ := and_ j1
    clear j1
    obtain ⟨hm, j3⟩ := and_ j2
    clear j2
    obtain ⟨h1, h2⟩ := and_ j3
    clear j3
    obtain rfl := eq_of_beq h0
    replace hm := (Bool.not_eq_true' _).mp hm
    refine wpAny_Compare1 (wpE (WE_sound hF hA l h1 I hw) fun v s1 g1 x σ1 e1 b1 hx hw1 => ?_) hm
    have I1 := I.step e1 b1
    refine wpE (WE_sound hF hA r h2 I1 hw1) fun u s2 g2 y σ2 e2 b2 hy hw2 => ?_
    have I2 := I1.step e2 b2
    exact WCmp_sound I2.gs (by have := hA.hu; omega) (hx.mono e2.gg) hy hw2 fun c q => Post.pre e1 (Post.pre e2 (Post.tok (tk := s2.toks) (x := .bool _) I2.gs I2.box rfl q))
  | .bo op es, x, Q, σ, g, s, h, I, hw => by
    obtain ⟨_, _, _, rfl, j1⟩ := onBo_ h
    clear h
    obtain ⟨h0, h1⟩ := and_ j1
    clear j1
    obtain rfl := eq_of_beq h0
    rw [arm_eval_BoolOp, evalEach_map]
    exact WBo_sound hF hA es h1 I hw
  | .not e, x, Q, σ, g, s, h, I, hw => by
    obtain ⟨_, _, _, rfl, j1⟩ := onUn_ h
    clear h
    obtain ⟨h0, h1⟩ := and_ j1
    clear j1
    obtain rfl := eq_of_beq h0
    rw [arm_eval_UnaryOp]
    refine wpAny_bind (wpE (WE_sound hF hA e h1 I hw) fun v s1 g1 x σ1 e1 b1 hx hw1 => ?_)
    have I1 := I.step e1 b1
    refine wpAny_bind (wpAny_standAt (wpAny_holding (not_value ?_)))
    obtain ⟨_, rfl, q⟩ := onB_ hw1
    clear hw1
    cases hx
    exact wpAny_truthy_bool (Post.pre e1 (Post.tok (tk := s1.toks) (x := .bool _) I1.gs I1.box rfl q))
  | .ite c t f, x, Q, σ, g, s, h, I, hw => by
    obtain ⟨_, _, _, _, rfl, j1⟩ := onIf_ h
    clear h
    obtain ⟨h1, j2⟩ := and_ j1
    clear j1
    obtain ⟨h2, h3⟩ := and_ j2
    clear j2
    refine IfExp_ (wpT (WT_sound hF hA c h1 I hw) fun b s1 g1 σ1 e bx q => ?_)
    have I1 := I.step e bx
    cases b with
    | true => exact wpAny_mono (WE_sound hF hA t h2 I1 q) (fun _ _ h => h.pre e) fun _ _ e => e
    | false => exact wpAny_mono (WE_sound hF hA f h3 I1 q) (fun _ _ h => h.pre e) fun _ _ e => e
  | .call f as, x, Q, σ, g, s, h, I, hw => call_sound hA (fun h I hw => WE_sound hF hA f h I hw) (fun h I hw => WEs_sound hF hA as h I hw) h I hw
  | .bi b as, x, Q, σ, g, s, h, I, hw => by
    obtain ⟨_, vs0, _, rfl, j1⟩ := onCall_ h
    clear h
    obtain ⟨_, _, rfl, j2⟩ := onName_ j1
    clear j1
    obtain ⟨_, _, rfl, j3⟩ := onCons_ j2
    clear j2
    obtain ⟨h0, j4⟩ := and_ j3
    clear j3
    obtain ⟨h1, h2⟩ := and_ j4
    clear j4
    obtain rfl := eq_of_beq h0
    refine Call_ (glob_bi hF I h1 ?_)
    rw [starEach_ok h2, backTo_plain]
    refine callWith_bi (wpEs (WEs_sound hF hA as h2 I hw) fun vs s2 g2 xs σ2 e b' rs q => ?_)
    have I2 := I.step e b'
    exact wpAny_mono (WBi_sound I2.gs I2.box hA.hh rs q) (fun _ _ h => h.pre e) fun _ _ e => e
  | .sub e i, x, Q, σ, g, s, h, I, hw => by
    obtain ⟨_, _, _, rfl, j1⟩ := onSub_ h
    clear h
    obtain ⟨h1, h2⟩ := and_ j1
    clear j1
    refine Subscript_ (wpE (WE_sound hF hA e h1 I hw) fun v s1 g1 x σ1 e1 b1 hx hw1 => ?_)
    have I1 := I.step e1 b1
    refine wpE (WE_sound hF hA i h2 I1 hw1) fun u s2 g2 y σ2 e2 b2 hy hw2 => ?_
    have I2 := I1.step e2 b2
    exact wp_m (WSub_sound I2.gs I2.box (hx.mono e2.gg) hy hw2) fun _ _ h => (h.pre e2).pre e1
  | .from_ e lo, x, Q, σ, g, s, h, I, hw => by
    obtain ⟨_, _, _, rfl, j1⟩ := onSub_ h
    clear h
    obtain ⟨_, _, _, _, rfl, j2⟩ := onSlice_ j1
    clear j1
    obtain ⟨_, rfl, j3⟩ := onSome_ j2
    clear j2
    obtain ⟨n1, j4⟩ := and_ j3
    clear j3
    obtain ⟨n2, j5⟩ := and_ j4
    clear j4
    obtain ⟨h1, h2⟩ := and_ j5
    clear j5
    obtain rfl := Option.isNone_iff_eq_none.mp n1
    obtain rfl := Option.isNone_iff_eq_none.mp n2
    refine Subscript_ (wpE (WE_sound hF hA e h1 I hw) fun v s1 g1 x σ1 e1 b1 hx hw1 => wpAny_Slice ?_)
    have I1 := I.step e1 b1
    refine wpE (WE_sound hF hA lo h2 I1 hw1) fun u s2 g2 y σ2 e2 b2 hy hw2 => ?_
    have I2 := I1.step e2 b2
    rw [evalPart_none]
    refine wpAny_pure (wpAny_pure ?_)
    obtain ⟨_, rfl, q1⟩ := onL_ hw2
    clear hw2
    obtain ⟨_, rfl, hw2⟩ := onI_ q1
    clear q1
    obtain ⟨t, rfl⟩ := hy
    refine wp_m ?_ fun _ _ h => (Post.pre e2 h).pre e1
    exact cut_tail I2 (hx.mono e2.gg) (.int _ t) .none .none (by simp) (lo := some _) (hi := none) (st := none) (pick_plain (lo := some _) (hi := none)) (by simp only [List.length_take, List.length_drop]; omega) (by
      have e : ∀ (xs : List Int) (a : Nat), (xs.drop a).take (xs.length - a) = xs.drop a := fun xs a => List.take_of_length_le (by simp)
      simpa [Option.elim, e] using hw2)
  | .upto e hi, x, Q, σ, g, s, h, I, hw => by
    obtain ⟨_, _, _, rfl, j1⟩ := onSub_ h
    clear h
    obtain ⟨_, _, _, _, rfl, j2⟩ := onSlice_ j1
    clear j1
    obtain ⟨_, rfl, j3⟩ := onSome_ j2
    clear j2
    obtain ⟨n1, j4⟩ := and_ j3
    clear j3
    obtain ⟨n2, j5⟩ := and_ j4
    clear j4
    obtain ⟨h1, h2⟩ := and_ j5
    clear j5
    obtain rfl := Option.isNone_iff_eq_none.mp n1
    obtain rfl := Option.isNone_iff_eq_none.mp n2
    refine Subscript_ (wpE (WE_sound hF hA e h1 I hw) fun v s1 g1 x σ1 e1 b1 hx hw1 => wpAny_Slice ?_)
    have I1 := I.step e1 b1
    rw [evalPart_none]
    refine wpAny_pure ?_
    refine wpE (WE_sound hF hA hi h2 I1 hw1) fun u s2 g2 y σ2 e2 b2 hy hw2 => ?_
    have I2 := I1.step e2 b2
    refine wpAny_pure ?_
    obtain ⟨_, rfl, q1⟩ := onL_ hw2
    clear hw2
    obtain ⟨_, rfl, hw2⟩ := onI_ q1
    clear q1
    obtain ⟨t, rfl⟩ := hy
    refine wp_m ?_ fun _ _ h => (Post.pre e2 h).pre e1
    exact cut_tail I2 (hx.mono e2.gg) .none (.int _ t) .none (by simp) (lo := none) (hi := some _) (st := none) (pick_plain (lo := none) (hi := some _)) (by simp only [List.length_take, List.length_drop]; omega) (by
      simpa [Option.elim] using hw2)
  | .cut e lo hi, x, Q, σ, g, s, h, I, hw => by
    obtain ⟨_, _, _, rfl, j1⟩ := onSub_ h
    clear h
    obtain ⟨_, _, _, _, rfl, j2⟩ := onSlice_ j1
    clear j1
    obtain ⟨_, rfl, j3⟩ := onSome_ j2
    clear j2
    obtain ⟨_, rfl, j4⟩ := onSome_ j3
    clear j3
    obtain ⟨n1, j5⟩ := and_ j4
    clear j4
    obtain ⟨h1, j6⟩ := and_ j5
    clear j5
    obtain ⟨h2, h3⟩ := and_ j6
    clear j6
    obtain rfl := Option.isNone_iff_eq_none.mp n1
    refine Subscript_ (wpE (WE_sound hF hA e h1 I hw) fun v s1 g1 x σ1 e1 b1 hx hw1 => wpAny_Slice ?_)
    have I1 := I.step e1 b1
    refine wpE (WE_sound hF hA lo h2 I1 hw1) fun u s2 g2 y σ2 e2 b2 hy hw2 => ?_
    have I2 := I1.step e2 b2
    refine wpE (WE_sound hF hA hi h3 I2 hw2) fun t s3 g3 z σ3 e3 b3 hz hw3 => ?_
    have I3 := I2.step e3 b3
    rw [evalPart_none]
    refine wpAny_pure ?_
    obtain ⟨_, rfl, q1⟩ := onL_ hw3
    clear hw3
    obtain ⟨_, rfl, q2⟩ := onI_ q1
    clear q1
    obtain ⟨_, rfl, hw3⟩ := onI_ q2
    clear q2
    obtain ⟨t1, rfl⟩ := hy
    obtain ⟨t2, rfl⟩ := hz
    refine wp_m ?_ fun _ _ h => (Post.pre e2 (Post.pre e3 h)).pre e1
    exact cut_tail I3 ((hx.mono e2.gg).mono e3.gg) (.int _ t1) (.int _ t2) .none (by simp) (lo := some _) (hi := some _) (st := none) (pick_plain (lo := some _) (hi := some _)) (by simp only [List.length_take, List.length_drop]; omega) (by
      simpa [Option.elim] using hw3)
  | .all e, x, Q, σ, g, s, h, I, hw => by
    obtain ⟨_, _, _, rfl, j1⟩ := onSub_ h
    clear h
    obtain ⟨_, _, _, _, rfl, j2⟩ := onSlice_ j1
    clear j1
    obtain ⟨n1, j3⟩ := and_ j2
    clear j2
    obtain ⟨n2, j4⟩ := and_ j3
    clear j3
    obtain ⟨n3, h1⟩ := and_ j4
    clear j4
    obtain rfl := Option.isNone_iff_eq_none.mp n1
    obtain rfl := Option.isNone_iff_eq_none.mp n2
    obtain rfl := Option.isNone_iff_eq_none.mp n3
    refine Subscript_ (wpE (WE_sound hF hA e h1 I hw) fun v s1 g1 x σ1 e1 b1 hx hw1 => wpAny_Slice ?_)
    have I1 := I.step e1 b1
    rw [evalPart_none]
    refine wpAny_pure (wpAny_pure (wpAny_pure ?_))
    obtain ⟨_, rfl, q⟩ := onL_ hw1
    clear hw1
    refine wp_m ?_ fun _ _ h => Post.pre e1 h
    exact cut_tail I1 hx .none .none .none (by simp) (lo := none) (hi := none) (st := none) (pick_plain (lo := none) (hi := none)) (by simp only [List.length_take, List.length_drop]; omega) (by
      simpa [Option.elim] using q)
  | .rev e, x, Q, σ, g, s, h, I, hw => by
    obtain ⟨_, _, _, rfl, j1⟩ := onSub_ h
    clear h
    obtain ⟨_, _, _, _, rfl, j2⟩ := onSlice_ j1
    clear j1
    obtain ⟨n1, j3⟩ := and_ j2
    clear j2
    obtain ⟨n2, j4⟩ := and_ j3
    clear j3
    obtain ⟨_, rfl, j5⟩ := onSome_ j4
    clear j4
    obtain ⟨_, _, _, rfl, j6⟩ := onUn_ j5
    clear j5
    obtain ⟨n3, j7⟩ := and_ j6
    clear j6
    obtain ⟨_, _, _, rfl, j8⟩ := onInt_ j7
    clear j7
    obtain ⟨n4, h1⟩ := and_ j8
    clear j8
    obtain rfl := Option.isNone_iff_eq_none.mp n1
    obtain rfl := Option.isNone_iff_eq_none.mp n2
    obtain rfl := eq_of_beq n3
    obtain rfl := eq_of_beq n4
    refine Subscript_ (wpE (WE_sound hF hA e h1 I hw) fun v s1 g1 x σ1 e1 b1 hx hw1 => wpAny_Slice ?_)
    have I1 := I.step e1 b1
    rw [evalPart_none]
    refine wpAny_pure (wpAny_pure ?_)
    rw [evalPart_some, arm_eval_UnaryOp]
    refine wpAny_bind (wpAny_Constant_int (wpAny_bind (wpAny_standAt (wpAny_holding (P.neg_int ?_)))))
    obtain ⟨_, rfl, q⟩ := onL_ hw1
    clear hw1
    have e2 : Ext β g1 g1 s1 { s1 with heap := s1.heap, toks := s1.toks + 1 + 1 } := .same I1.gs fun _ _ e => e
    refine wpAny_mono (cut_tail (I1.step e2 (I1.box.keep (fun _ _ e => e) fun b e => (I1.box b e).1)) (hx.mono e2.gg) .none .none (.int _ _) (by decide) (lo := none) (hi := none) (st := some (-1)) (ys := List.reverse _) (fun vs _ hi => by rw [pick_rev]; exact PyProof.Rows.IntsAre.reverse hi) (by simp) q) (fun _ _ h => (h.pre e2).pre e1) fun _ _ e => e
  | .list es, x, Q, σ, g, s, h, I, hw => by
    obtain ⟨_, _, rfl, h1⟩ := onList_ h
    clear h
    rw [arm_eval_List, starEach_ok h1, backTo_plain]
    refine wpAny_bind (wpAny_standAt (wpAny_bind (wpEs (WEs_sound hF hA es h1 I hw) fun vs s1 g1 xs σ1 e b rs q0 => ?_)))
    obtain ⟨ys, q1, q2, q3⟩ := q0
    subst q1
    have hi := ints_of_reps rs
    have I1 := I.step e b
    refine wpAny_newList ?_ (by rw [sizeLine_n, hi.length]; omega)
    exact Post.pre e (Post.lst (tk := s1.toks) I1.gs I1.box hi (by rw [sizeLine_n]; omega) q3)
  | .pair a b, x, Q, σ, g, s, h, I, hw => by
    obtain ⟨_, kk, pos, rfl, j1⟩ := onTup_ h
    clear h
    obtain ⟨ea, eb, rfl, j2⟩ := onTwo_ j1
    clear j1
    obtain ⟨h1, h2⟩ := and_ j2
    clear j2
    rw [arm_eval_Tuple]
    refine wpAny_bind (wpAny_standAt (wpAny_bind ?_))
    have hs : starEach [ea, eb] F.env = [ea, eb].map fun e => (false, eval e F.env) := (star_cons (ok_plain h1) _ _).trans (congrArg _ (star_cons (ok_plain h2) _ _))
    rw [hs, backTo_plain]
    refine Calls.spliced_cons (wpE (WE_sound hF hA a h1 I hw) fun v s1 g1 x1 σ1 e1 b1 r1 q1 => ?_)
    have I1 := I.step e1 b1
    refine Calls.spliced_cons (wpE (WE_sound hF hA b h2 I1 q1) fun u s2 g2 x2 σ2 e2 b2 r2 q2 => ?_)
    have I2 := I1.step e2 b2
    refine Calls.spliced_nil (wpAny_newTuple ?_ (by rw [sizeLine_n]; simp only [List.length_cons, List.length_nil]; omega))
    refine Post.pre e1 (Post.pre e2 (Post.made (tk := s2.toks) (x := .pair x1 x2) I2.gs (fun _ _ e => Heap.get?_push_of_some _ e) (size_none _) (Heap.get?_push_size _ rfl) I2.box ?_ q2))
    have hn : g2 s2.heap.objs.size = none := by
      cases q : g2 s2.heap.objs.size with
      | none => rfl
      | some o => have := I2.gs _ _ q; rw [size_none] at this; cases this
    exact ⟨_, _, v, u, 0, rfl, put_self .., rfl, rfl, (r1.mono e2.gg).mono (put_sub hn), r2.mono (put_sub hn)⟩
  | .attr e n, x, Q, σ, g, s, h, I, hw => by
    obtain ⟨_, _, _, rfl, j1⟩ := onAttr_ h
    clear h
    obtain ⟨_, _, rfl, j2⟩ := onName_ j1
    clear j1
    obtain ⟨h0, h1⟩ := and_ j2
    clear j2
    obtain rfl := eq_of_beq h0
    rw [arm_eval_Attribute]
    refine wpAny_bind ?_
    refine wpE (WE_sound hF hA e h1 I hw) fun v s1 g1 x σ1 e1 b1 hx hw1 => ?_
    have I1 := I.step e1 b1
    refine wpAny_bind (wpAny_standAt (wpAny_bind (wpAny_holding ?_)))
    have T : ∀ {bs : Expr} (r : Value), Post W β g1 s1 Q r { s1 with toks := s1.toks + 1 } → wpAny W.M A (letTemporaryGo bs v r >>= fun _ => pure r) (Post W β g s Q) Ex { s1 with toks := s1.toks + 1 } := fun r hr => wpAny_bind (wpAny_letTemporaryGo (wpAny_pure (hr.pre e1)))
    cases x <;> first | exact hw1.elim | skip
    rename_i hh nn ll
    dsimp only [WAttr] at hw1
    have I' : ∀ {c : Int} (t : Tok), Q (.int c) σ1 → Post W β g1 s1 Q (.int c t) { s1 with toks := s1.toks + 1 } := fun t q => Post.tok (tk := s1.toks + 1) (x := .int _) I1.gs I1.box ⟨t, rfl⟩ q
    refine W.told_attr n hx I1.gs I1.base ?_ ?_ ?_ ?_ ?_ ?_
    · by_cases q1 : n = "halves"
      · exact .inl q1
      · rw [if_neg q1] at hw1
        by_cases q2 : n = "newton"
        · exact .inr (.inl q2)
        · rw [if_neg q2] at hw1
          by_cases q3 : n = "least"
          · exact .inr (.inr (.inl q3))
          · rw [if_neg q3] at hw1
            by_cases q4 : n = "mul"
            · exact .inr (.inr (.inr (.inl q4)))
            · rw [if_neg q4] at hw1
              by_cases q5 : n = "base"
              · exact .inr (.inr (.inr (.inr q5)))
              · rw [if_neg q5] at hw1; exact hw1.elim
    · rintro rfl t
      exact T _ (I' t (by simpa using hw1))
    · rintro rfl t
      exact T _ (I' t (by rw [if_neg (by decide), if_pos rfl] at hw1; exact hw1))
    · rintro rfl t
      exact T _ (I' t (by rw [if_neg (by decide), if_neg (by decide), if_pos rfl] at hw1; exact hw1))
    · rintro rfl a ha
      exact T _ (Post.tok (tk := s1.toks + 1) (x := .fn "_law_times") I1.gs I1.box ⟨a, rfl, ha, isFn_times⟩ (by rw [if_neg (by decide), if_neg (by decide), if_neg (by decide), if_pos rfl] at hw1; exact hw1))
    · rintro rfl a ha
      exact T _ (Post.tok (tk := s1.toks + 1) (x := .fn "_law_parts") I1.gs I1.box ⟨a, rfl, ha, isFn_parts⟩ (by rw [if_neg (by decide), if_neg (by decide), if_neg (by decide), if_neg (by decide), if_pos rfl] at hw1; exact hw1))
  | .bits e, x, Q, σ, g, s, h, I, hw => by
    obtain ⟨_, _, _, rfl, j1⟩ := onCall_ h
    clear h
    obtain ⟨_, _, _, rfl, j2⟩ := onAttr_ j1
    clear j1
    obtain ⟨h0, j3⟩ := and_ j2
    clear j2
    obtain ⟨h2, j4⟩ := and_ j3
    clear j3
    obtain ⟨hl, j5⟩ := and_ j4
    clear j4
    obtain ⟨h1, hsub⟩ := and_ j5
    clear j5
    obtain ⟨_, _, _, rfl, _⟩ := onSub_ hsub
    clear hsub
    obtain rfl := List.isEmpty_iff.mp h0
    obtain rfl := eq_of_beq h2
    rw [arm_eval_Call]
    refine wpAny_bind ?_
    refine wpE (WE_sound hF hA e h1 I hw) fun v s1 g1 x σ1 e1 b1 hx hw1 => ?_
    have I1 := I.step e1 b1
    obtain ⟨_, rfl, q⟩ := onI_ hw1
    clear hw1
    obtain ⟨t, rfl⟩ := hx
    refine wpAny_bind (wpAny_standAt ?_)
    unfold methodCall
    refine wpAny_bind (wpAny_holding ?_)
    refine PyProof.Rows.getMethod_int_bit_length ?_
    refine wpAny_bind (m := methodCallPos true _ _ _ _) ?_
    unfold methodCallPos
    rw [hl]
    simp only [Bool.not_true, beq_self_eq_true, Bool.or_true, if_true]
    refine wpAny_pure (Calls.callWith_builtin rfl (PySem.evalArgs_none ?_))
    exact PyProof.Rows.call_int_bit_length (Post.pre e1 (Post.tok (x := .int _) I1.gs I1.box ⟨_, rfl⟩ q))
  | .isl _, _, _, _, _, _, h, I, hw => isl_sound hF h I hw
  | .intsNe _, _, _, _, _, _, h, I, hw => ints_sound hF hA h I hw
  | .bndEq _ _, _, _, _, _, _, h, I, hw => bnd_sound hF hA h I hw
  | .make es, _, _, _, _, _, h, I, hw => make_sound hF hA (fun h I hw => WEs_sound hF hA es h I hw) h I hw
theorem WEs_sound (hF : Fok F) (hA : Ok k A) : ∀ (es : Es) {xs : List Expr} {Q : List V → Bx → Prop} {σ : Bx} {g : FH} {s : Shared}, okEs F.sc F.ns es xs = true → Iv W β s₀ g₀ F hd ρ own σ g s → WEs W k ρ es Q σ →
    wpAny W.M A (spliced (xs.map fun e => (false, eval e F.env))) (Posts W β g s Q) Ex s
  | .nil, xs, Q, σ, g, s, h, I, hw => by
    obtain rfl := okEs_nil h
    exact Calls.spliced_nil ⟨g, [], σ, .refl I.gs, I.box, trivial, hw⟩
  | .cons e es, xs, Q, σ, g, s, h, I, hw => by
    obtain ⟨a, r, rfl, h1, h2⟩ := okEs_cons h
    refine Calls.spliced_cons (wpE (WE_sound hF hA e h1 I hw) fun v s1 g1 x1 σ1 e1 b1 r1 q1 => ?_)
    refine wpEs (WEs_sound hF hA es h2 (I.step e1 b1) q1) fun vs s2 g2 x2 σ2 e2 b2 r2 q2 => ?_
    exact ⟨g2, x1 :: x2, σ2, e1.trans e2, b2, ⟨r1.mono e2.gg, r2⟩, q2⟩
theorem WT_sound (hF : Fok F) (hA : Ok k A) : ∀ (e : E) {x : Expr} {Q : Bool → Bx → Prop} {σ : Bx} {g : FH} {s : Shared}, okE F.sc F.ns e x = true → Iv W β s₀ g₀ F hd ρ own σ g s → WT W k ρ e Q σ →
    wpAny W.M A (isTrue x F.env (eval x F.env)) (PostT β g s Q) Ex s
  | .not e, x, Q, σ, g, s, h, I, hw => by
    obtain ⟨_, _, _, rfl, j1⟩ := onUn_ h
    clear h
    obtain ⟨h0, h1⟩ := and_ j1
    clear j1
    obtain rfl := eq_of_beq h0
    exact isTrue_not (wp_m (WT_sound hF hA e h1 I hw) fun b s1 h => h)
  | .bo op es, x, Q, σ, g, s, h, I, hw => by
    obtain ⟨_, _, _, rfl, j1⟩ := onBo_ h
    clear h
    obtain ⟨h0, h1⟩ := and_ j1
    clear j1
    obtain rfl := eq_of_beq h0
    exact WTs_sound hF hA es h1 I hw
  | .ite c t f, x, Q, σ, g, s, h, I, hw => by
    obtain ⟨_, _, _, _, rfl, j1⟩ := onIf_ h
    clear h
    obtain ⟨h1, j2⟩ := and_ j1
    clear j1
    obtain ⟨h2, h3⟩ := and_ j2
    clear j2
    refine isTrue_IfExp (wpT (WT_sound hF hA c h1 I hw) fun b s1 g1 σ1 e bx q => ?_)
    have I1 := I.step e bx
    cases b with
    | true => exact wp_m (WT_sound hF hA t h2 I1 q) fun _ _ h => h.pre e
    | false => exact wp_m (WT_sound hF hA f h3 I1 q) fun _ _ h => h.pre e
  | .cmp op l r, x, Q, σ, g, s, h, I, hw => by
    obtain ⟨_, _, _, _, rfl, j1⟩ := onCmp_ h
    clear h
    obtain ⟨h0, j2⟩ := and_ j1
    clear j1
    obtain ⟨hm, j3⟩ := and_ j2
    clear j2
    obtain ⟨h1, h2⟩ := and_ j3
    clear j3
    obtain rfl := eq_of_beq h0
    replace hm := (Bool.not_eq_true' _).mp hm
    refine wpAny_isTrue_Compare1 (wpE (WE_sound hF hA l h1 I hw) fun v s1 g1 x σ1 e1 b1 hx hw1 => ?_) hm
    have I1 := I.step e1 b1
    refine wpE (WE_sound hF hA r h2 I1 hw1) fun u s2 g2 y σ2 e2 b2 hy hw2 => ?_
    have I2 := I1.step e2 b2
    exact WCmp_sound I2.gs (by have := hA.hu; omega) (hx.mono e2.gg) hy hw2 fun c q => wpAny_truthy_bool ⟨g2, σ2, e1.trans e2, b2, q⟩
  | .call f as, x, Q, σ, g, s, h, I, hw => by
    obtain ⟨_, _, _, rfl, _⟩ := onCall_ h
    refine isTrue_plain (wpE (call_sound hA (fun h I hw => WE_sound hF hA f h I hw) (fun h I hw => WEs_sound hF hA as h I hw) (Q := fun v σ' => onB v fun b => Q b σ') h I hw) fun v s1 g1 x σ1 e1 b1 hx hw1 => ?_)
    · obtain ⟨_, rfl, q⟩ := onB_ hw1
      clear hw1
      cases hx
      exact wpAny_truthy_bool ⟨g1, σ1, e1, b1, q⟩
  | .bool b, x, Q, σ, g, s, h, I, hw => by
    obtain ⟨_, _, _, rfl, j1⟩ := onBool_ h
    clear h
    obtain rfl := eq_of_beq j1
    exact isTrue_plain (wpAny_pure (wpAny_truthy_bool ⟨g, σ, .refl I.gs, I.box, hw⟩))
  | .isl i, x, Q, σ, g, s, h, I, hw => by
    obtain ⟨_, _, _, rfl, _⟩ := onCall_ h
    refine isTrue_plain (wpE (isl_sound hF (k := k) h I (WT_isl hw)) fun v s1 g1 x σ1 e1 b1 hx q0 => ?_)
    obtain ⟨hv, hw1⟩ := q0
    subst hv
    cases hx
    exact wpAny_truthy_bool ⟨g1, σ1, e1, b1, hw1⟩
  | .intsNe i, x, Q, σ, g, s, h, I, hw => ints_true hF hA h I hw
  | .bndEq _ _, _, _, _, _, _, _, _, hw => False.elim hw
  | .make _, _, _, _, _, _, _, _, hw => False.elim hw
  | .int _, _, _, _, _, _, _, _, hw => False.elim hw
  | .neg _, _, _, _, _, _, _, _, hw => False.elim hw
  | .var _, _, _, _, _, _, _, _, hw => False.elim hw
  | .fn _, _, _, _, _, _, _, _, hw => False.elim hw
  | .few, _, _, _, _, _, _, _, hw => False.elim hw
  | .bin _ _ _, _, _, _, _, _, _, _, hw => False.elim hw
  | .bi _ _, _, _, _, _, _, _, _, hw => False.elim hw
  | .sub _ _, _, _, _, _, _, _, _, hw => False.elim hw
  | .from_ _ _, _, _, _, _, _, _, _, hw => False.elim hw
  | .upto _ _, _, _, _, _, _, _, _, hw => False.elim hw
  | .cut _ _ _, _, _, _, _, _, _, _, hw => False.elim hw
  | .all _, _, _, _, _, _, _, _, hw => False.elim hw
  | .rev _, _, _, _, _, _, _, _, hw => False.elim hw
  | .list _, _, _, _, _, _, _, _, hw => False.elim hw
  | .pair _ _, _, _, _, _, _, _, _, hw => False.elim hw
  | .attr _ _, _, _, _, _, _, _, _, hw => False.elim hw
  | .bits _, _, _, _, _, _, _, _, hw => False.elim hw
theorem WTs_sound (hF : Fok F) (hA : Ok k A) {op : BoolOp} : ∀ (es : Es) {xs : List Expr} {Q : Bool → Bx → Prop} {σ : Bx} {g : FH} {s : Shared}, okEs F.sc F.ns es xs = true → Iv W β s₀ g₀ F hd ρ own σ g s → WTs W k ρ op es Q σ →
    wpAny W.M A (allTrue op xs F.env) (PostT β g s Q) Ex s
  | .nil, xs, Q, σ, g, s, h, I, hw => by
    obtain rfl := okEs_nil h
    exact wpAny_pure ⟨g, σ, .refl I.gs, I.box, hw⟩
  | .cons e es, xs, Q, σ, g, s, h, I, hw => by
    obtain ⟨a, r, rfl, h1, h2⟩ := okEs_cons h
    refine wpAny_bind (m := isTrue a F.env (eval a F.env)) (wpT (WT_sound hF hA e h1 I hw) fun b s1 g1 σ1 e1 b1 q => ?_)
    have I1 := I.step e1 b1
    cases op <;> cases b
    · exact wpAny_pure ⟨g1, σ1, e1, b1, q⟩
    · exact wp_m (WTs_sound hF hA es h2 I1 q) fun _ _ h => h.pre e1
    · exact wp_m (WTs_sound hF hA es h2 I1 q) fun _ _ h => h.pre e1
    · exact wpAny_pure ⟨g1, σ1, e1, b1, q⟩
theorem WBo_sound (hF : Fok F) (hA : Ok k A) {op : BoolOp} {pos : Pos} : ∀ (es : Es) {xs : List Expr} {Q : V → Bx → Prop} {σ : Bx} {g : FH} {s : Shared}, okEs F.sc F.ns es xs = true → Iv W β s₀ g₀ F hd ρ own σ g s → WBo W k ρ op es Q σ →
    wpAny W.M A (boolOp pos op (xs.map fun e => eval e F.env)) (Post W β g s Q) Ex s
  | .nil, xs, Q, σ, g, s, h, I, hw => False.elim hw
  | .cons e .nil, xs, Q, σ, g, s, h, I, hw => by
    obtain ⟨a, r, rfl, h1, h2⟩ := okEs_cons h
    obtain rfl := okEs_nil h2
    exact WE_sound hF hA e h1 I hw
  | .cons e (.cons e' es), xs, Q, σ, g, s, h, I, hw => by
    obtain ⟨a, r0, rfl, h1, h2⟩ := okEs_cons h
    obtain ⟨b, r, rfl, _⟩ := okEs_cons h2
    clear h
    refine wpAny_bind (m := eval a F.env) (wpE (WE_sound hF hA e h1 I hw) fun v s1 g1 x σ1 e1 b1 hx hw1 => ?_)
    have I1 := I.step e1 b1
    refine wpAny_bind (wpAny_standAt (wpAny_bind (wpAny_holding ?_)))
    obtain ⟨c, rfl, q⟩ := onB_ hw1
    clear hw1
    cases hx
    refine wpAny_truthy_bool ?_
    cases op <;> cases c
    · exact wpAny_pure (Post.pre e1 (Post.tok (tk := s1.toks) (x := .bool _) I1.gs I1.box rfl q))
    · exact wp_m (WBo_sound hF hA (.cons e' es) h2 I1 q) fun _ _ h => Post.pre e1 h
    · exact wp_m (WBo_sound hF hA (.cons e' es) h2 I1 q) fun _ _ h => Post.pre e1 h
    · exact wpAny_pure (Post.pre e1 (Post.tok (tk := s1.toks) (x := .bool _) I1.gs I1.box rfl q))
end
end
end
section
open PySem PySem.Spec PySem.W PyProof.Rows PyProof.V PySem.SeqAt

noncomputable def isStarE : Expr → Bool | .Starred .. => true | _ => false
noncomputable def swName (sc : Scope) (line : Nat) : Expr → Option Str
  | .Name id pos => if sc.names.lookup id == some .local && pos.line == line then some id else none
  | _ => none
/-- the compiler's swapped stores -/
noncomputable def swOk (sc : Scope) (ts vs : List Expr) (names : List Str) : Bool :=
  (ts.length == 2 || ts.length == 3) && vs.length == ts.length && !vs.any isStarE && ts.filterMap (swName sc ((ts.head?.map (·.pos.line)).getD 0)) == names &&
  names.length == ts.length && names.eraseDups.length == names.length && !vs.all (foldedForSure 8) && !vs.all (constantsAlone 8)

theorem sw_key {ts vs : List Expr} {names X : List Str} (hX : X = names) (h5 : names.length = ts.length) (h6 : names.eraseDups.length = names.length) (h7 : vs.all (foldedForSure 8) = false) (h8 : vs.all (constantsAlone 8) = false) :
    (if (X.length != ts.length || X.eraseDups.length != X.length) = true then (pure none : Sem (Option (List Str)))
      else if vs.all (foldedForSure 8) = true then pure none
      else if vs.all (constantsAlone 8) = true then do
        unsupported "assign.tuple-of-constant-expressions:order-of-the-stores"
        pure (some X)
      else pure (some X)) = pure (some names) := by
  subst hX
  rw [if_neg (by rw [h5, ← h5, h6]; simp), if_neg (by rw [h7]; simp), if_neg (by rw [h8]; simp)]

theorem swapped_ok {F : Fm} (hk : F.sc.kind = .function) {ts vs : List Expr} {names : List Str} {k k' : Nat} {p p' : Pos} (h : swOk F.sc ts vs names = true) :
    swappedStores [.Tuple ts k p] (.Tuple vs k' p') F.env = pure (some names) := by
  simp only [swOk, Bool.and_eq_true, beq_iff_eq, Bool.not_eq_true'] at h
  obtain ⟨⟨⟨⟨⟨⟨⟨h1, h2⟩, h3⟩, h4⟩, h5⟩, h6⟩, h7⟩, h8⟩ := h
  have hb : F.env.blockKind = .function := by
    unfold Env.blockKind
    show (if F.sc.kind.isAnnotationScope = true then _ else F.sc.kind) = _
    rw [hk]; rfl
  unfold swappedStores
  dsimp only
  rw [hb]
  rw [if_neg (by rw [h1, h2]; simp)]
  refine (if_neg (fun q => Bool.false_ne_true (h3.symm.trans q))).trans ?_
  exact sw_key h4 h5 h6 h7 h8

/-- the row is a value that is no comprehension -/
theorem plain_comp {v : Expr} (h : plainE v = true) (t : Option Expr) (l : Nat) (env : Env) : swapsWith v t l env = pure false := by
  cases v <;> first | rfl | exact (Bool.false_ne_true h).elim
theorem plain_set {v : Expr} (h : plainE v = true) (env : Env) (x : Value) : foldedSetIterable v env x = pure x := by
  cases v <;> first | rfl | exact (Bool.false_ne_true h).elim
theorem notComp {sc : Scope} {ns : List Str} {e : E} {v : Expr} (h : okE sc ns e v = true) (t : Option Expr) (l : Nat) (env : Env) : swapsWith v t l env = pure false := plain_comp (ok_plain h) t l env
theorem notSet {sc : Scope} {ns : List Str} {e : E} {v : Expr} (h : okE sc ns e v = true) (env : Env) (x : Value) : foldedSetIterable v env x = pure x := plain_set (ok_plain h) env x

/-- a value that may stand behind two names -/
noncomputable def okTwo (e : Expr) (cell : Bool) : Bool := onCall e (fun _ _ _ => true) || (onName e (fun _ _ => true) || (onTup e (fun _ _ _ => true) && cell))
theorem short {f : Expr → Option Str} {a b : Expr} (h : f a = none) : ((List.filterMap f [a, b]).length != [a, b].length) = true := by
  rw [List.filterMap_cons_none h]
  cases hb : f b <;> simp [List.filterMap, hb]
theorem unswapped {env : Env} {y z : Str} {py pz p p' : Pos} {k k' : Nat} {vs : List Expr} (hy : env.kindOf y = some .cell) : swappedStores [.Tuple [.Name y py, .Name z pz] k p] (.Tuple vs k' p') env = pure none := by
  unfold swappedStores
  dsimp only
  split
  · rfl
  · split
    · rfl
    · exact if_pos (by rw [Bool.or_eq_true]; exact .inl (short (by simp [hy])))

section
variable (sc : Scope) (ns : List Str)
noncomputable def okAt (i : Nat) (y : Str) : Bool := ns[i]? == some y && okVar sc y
noncomputable def okAts : List Nat → List Str → Bool
  | [], [] => true
  | i :: is, y :: ys => okAt sc ns i y && okAts is ys
  | _, _ => false
noncomputable def namesAt (is : List Nat) : List Str := is.filterMap (ns[·]?)
mutual
noncomputable def okS : S → Stmt → Bool
  | .set i e, x => onAssign x fun t v => onName t fun y _ => okAt sc ns i y && okE sc ns e v
  | .own i, x => onAssign x fun t v => onName t fun y _ => okNil v && okAt sc ns i y
  | .swap is es, x => onAssign x fun t v => onTup t fun ts _ _ => onTup v fun vs _ _ => swOk sc ts vs (namesAt ns is) && (okAts sc ns is (namesAt ns is) && okEs sc ns es vs)
  | .swapOwn i is es, x => onAssign x fun t v => onTup t fun ts _ _ => onTup v fun vs _ _ => onCons vs fun l r => okNil l && (swOk sc ts vs (namesAt ns (i :: is)) && (okAts sc ns (i :: is) (namesAt ns (i :: is)) && okEs sc ns es r))
  | .swapRep i n is es, x => onAssign x fun t v => onTup t fun ts _ _ => onTup v fun vs _ _ => onCons vs fun l r => onBin l fun z o nx _ => onList z fun zs _ => onOne zs fun z => onInt z fun j =>
      j == 0 && (o == .Mult && (swOk sc ts vs (namesAt ns (i :: is)) && (okAts sc ns (i :: is) (namesAt ns (i :: is)) && (okE sc ns n nx && okEs sc ns es r))))
  | .two i j e, x => onAssign x fun t v => onTup t fun ts _ _ => onTwo ts fun a b => onName a fun y _ => onName b fun z _ => okAt sc ns i y && (okAt sc ns j z && (okE sc ns e v && okTwo v (sc.names.lookup y == some .cell)))
  | .aug i op e, x => onAug x fun t o v _ => onName t fun y _ => okAt sc ns i y && (o == op && okE sc ns e v)
  | .app i e, x => onExpr x fun c _ => onCall c fun f as cp => onAttr f fun a m ap => onName a fun y _ => onOne as fun v => m == "append" && (ap.endLine == cp.line && (okAt sc ns i y && okE sc ns e v))
  | .box i k e, x => onAssign x fun t v => onSub t fun a c _ => onName a fun y _ => onInt c fun j => j == (if k then 1 else 0) && (okAt sc ns i y && okE sc ns e v)
  | .ite c t f, x => onIfS x fun a b d _ => okE sc ns c a && (okSs t b && okSs f d)
  | .whl c b, x => onWhile x fun a d => okE sc ns c a && okSs b d
  | .for_ i e b, x => onFor x fun t it d => onName t fun y _ => okAt sc ns i y && (okE sc ns e it && okSs b d)
  | .ret e, x => onRet x fun v => okE sc ns e v
  | .no, _ => true
noncomputable def okSs : Ss → List Stmt → Bool
  | .nil, xs => xs.isEmpty
  | .cons s ss, xs => onCons xs fun x r => okS s x && okSs ss r
end
end

theorem okAt_ {sc : Scope} {ns : List Str} {i : Nat} {y : Str} (h : okAt sc ns i y = true) : ns[i]? = some y ∧ okVar sc y = true := by
  simpa [okAt] using h

noncomputable def Off (F : Fm) (a : Addr) : Prop := a ≠ F.L ∧ ∀ y c, F.cells.lookup y = some c → a ≠ c

section
variable {W : Wd} {β : Option Addr} {s₀ : Shared} {g₀ : FH} {F : Fm} {hd : FH} {A : Around} {Ex : Value → Shared → Prop} {k : Nat}

noncomputable def PostS (W : Wd) (β : Option Addr) (s₀ : Shared) (g₀ : FH) (F : Fm) (hd : FH) (g : FH) (Q : PS) (fl : Flow) (s' : Shared) : Prop :=
  match fl with
  | .next => ∃ g' ρ own σ, Sub g g' ∧ Iv W β s₀ g₀ F hd ρ own σ g' s' ∧ Q .next ρ own σ
  | .ret v => ∃ g' ρ own σ x, Sub g g' ∧ Iv W β s₀ g₀ F hd ρ own σ g' s' ∧ Rep W g' β v x ∧ Q (.ret x) ρ own σ
  | _ => False

theorem PostS.pre {g g1 : FH} {Q : PS} {fl : Flow} {s' : Shared} (h : Sub g g1) (x : PostS W β s₀ g₀ F hd g1 Q fl s') : PostS W β s₀ g₀ F hd g Q fl s' := by
  cases fl with
  | next => obtain ⟨g', ρ, own, σ, h1, h2⟩ := x; exact ⟨g', ρ, own, σ, fun a o e => h1 a o (h a o e), h2⟩
  | ret v => obtain ⟨g', ρ, own, σ, y, h1, h2⟩ := x; exact ⟨g', ρ, own, σ, y, fun a o e => h1 a o (h a o e), h2⟩
  | brk => exact x
  | cont => exact x

theorem Iv.store' (hF : Fok F) {ρ : Row} {own : Own} {σ : Bx} {g : FH} {s : Shared} (I : Iv W β s₀ g₀ F hd ρ own σ g s) {i : Nat} {x : Str} {v : Value} {X : V} (hi : F.ns[i]? = some x) (hx : okVar F.sc x = true) (hno : noOwn own i) (hr : Rep W g β v X) {Q : Unit → Shared → Prop}
    (h : ∀ h' tk, Iv W β s₀ g₀ F hd (ρ.set i (some X)) own σ g { s with heap := h', toks := tk } → (∀ a, Off F a → h'.get? a = s.heap.get? a) → Q () { s with heap := h', toks := tk }) : wpAny W.M A (storeName F.env x v) Q Ex s :=
  I.storeRaw hF hx fun h' tk m cm m' cm' b e1 e2 hs hb hn hc hn' hc' hv ho h1 h2 => h h' tk
    ⟨e1, I.base, e2, I.newL, I.newC, I.gL, I.gC, I.bL, I.bC, held_upd I hs hb, m', cm', hn', hc', vars_set hF hi h1 h2 hr hv, ho.keep hF hi hs hb h2 hno⟩
    fun a ha => hs.2 a (by
      rcases hb with rfl | ⟨z, hz⟩
      · exact ha.1
      · exact ha.2 z b hz)

/-- one store behind another -/
noncomputable def Chain (W : Wd) (A : Around) (Ex : Value → Shared → Prop) : List (Value → Sem Unit) → List Value → (Shared → Prop) → Shared → Prop
  | f :: fs, v :: vs, Q, s => wpAny W.M A (f v) (fun _ s1 => Chain W A Ex fs vs Q s1) Ex s
  | [], [], Q, s => Q s
  | _, _, _, _ => False
theorem Chain.wp : ∀ {fs : List (Value → Sem Unit)} {vs : List Value} {Q : Shared → Prop} {s : Shared}, Chain W A Ex fs vs Q s → wpAny W.M A (assignInOrder fs vs) (fun _ s1 => Q s1) Ex s
  | [], [], _, _, h => wpAny_pure h
  | [], _ :: _, _, _, h => h.elim
  | _ :: _, [], _, _, h => h.elim
  | f :: fs, v :: vs, Q, s, h => wpAny_bind (m := holding vs (f v)) (wpAny_holding (wpAny_mono h (fun _ _ q => Chain.wp q) fun _ _ e => e))
theorem Chain.snoc {f : Value → Sem Unit} {v : Value} {Q : Shared → Prop} : ∀ {fs : List (Value → Sem Unit)} {vs : List Value} {s : Shared}, Chain W A Ex fs vs (fun s1 => wpAny W.M A (f v) (fun _ s2 => Q s2) Ex s1) s →
    Chain W A Ex (fs ++ [f]) (vs ++ [v]) Q s
  | [], [], _, h => h
  | [], _ :: _, _, h => h.elim
  | _ :: _, [], _, h => h.elim
  | _ :: _, _ :: _, _, h => wpAny_mono h (fun _ _ q => Chain.snoc q) fun _ _ e => e

theorem storeAll (hF : Fok F) : ∀ (is : List Nat) {nms : List Str} {vs : List Value} {xs : List V} {ρ : Row} {own : Own} {σ : Bx} {g : FH} {s : Shared} {Q : Shared → Prop}, okAts F.sc F.ns is nms = true → vs.length = is.length → Reps W g β vs xs →
    (∀ i ∈ is, noOwn own i) → Iv W β s₀ g₀ F hd ρ own σ g s →
    (∀ h' tk, Iv W β s₀ g₀ F hd (setAll ρ is xs) own σ g { s with heap := h', toks := tk } → (∀ a, Off F a → h'.get? a = s.heap.get? a) → Q { s with heap := h', toks := tk }) →
    Chain W A Ex (nms.reverse.map fun n => bindName F.env n) vs.reverse Q s
  | [], nms, vs, xs, ρ, own, σ, g, s, Q, hn, hl, hr, hno, I, h => by
    cases nms with
    | cons _ _ => simp [okAts] at hn
    | nil =>
      cases vs with
      | cons _ _ => simp at hl
      | nil => exact h s.heap s.toks I fun _ _ => rfl
  | i :: is, nms, vs, xs, ρ, own, σ, g, s, Q, hn, hl, hr, hno, I, h => by
    cases nms with
    | nil => simp [okAts] at hn
    | cons y ys =>
      cases vs with
      | nil => simp at hl
      | cons v vs =>
        cases xs with
        | nil => exact hr.elim
        | cons X xs =>
          simp only [okAts, Bool.and_eq_true] at hn
          rw [List.reverse_cons, List.map_append, List.reverse_cons]
          refine Chain.snoc (storeAll hF is hn.2 (by simpa using hl) hr.2 (fun j hj => hno j (.tail _ hj)) I fun h1 tk1 I1 k1 => ?_)
          refine wpAny_bindName (I1.store' hF (okAt_ hn.1).1 (okAt_ hn.1).2 (hno i (.head _)) hr.1 fun h2 tk2 I2 k2 => ?_)
          exact h h2 tk2 I2 fun a ha => (k2 a ha).trans (k1 a ha)

theorem Reps.length {g : FH} : ∀ {vs : List Value} {xs : List V}, Reps W g β vs xs → vs.length = xs.length
  | [], [], _ => rfl
  | _ :: _, _ :: _, h => congrArg Nat.succ (Reps.length h.2)
  | [], _ :: _, h => h.elim
  | _ :: _, [], h => h.elim

/-- the tuple made, its parts handed out -/
theorem unpack_tuple {t : Addr} {vs : List Value} {n : Nat} {names : List Str} {Q : Shared → Prop} {s : Shared} (hA : A.handled = none) (ht : s.heap.IsTuple t vs.toArray) (hn : n = vs.length)
    (h : ∀ h', (∀ a o, s.heap.get? a = some o → h'.get? a = some o) → Chain W A Ex (names.reverse.map fun n => bindName F.env n) vs.reverse Q { s with heap := h' }) :
    wpAny W.M A (unpackItems (.ref t) n none) (fun items s2 => wpAny W.M A (assignInOrder (names.reverse.map fun n => bindName F.env n) items.reverse) (fun _ s3 => Q s3) Ex s2) Ex s := by
  have e : n = vs.toArray.size := by simp [hn]
  subst e
  refine wpAny_unpackItems_tuple hA ht fun h' he => ?_
  have := h h' fun a o q => he a o (Nat.ne_of_lt (Heap.lt_size q)) q
  simpa using Chain.wp this

theorem okAts_len {sc : Scope} {ns : List Str} : ∀ {is : List Nat} {ys : List Str}, okAts sc ns is ys = true → is.length = ys.length
  | [], [], _ => rfl
  | [], _ :: _, h => by simp [okAts] at h
  | _ :: _, [], h => by simp [okAts] at h
  | _ :: _, _ :: _, h => by
    simp only [okAts, Bool.and_eq_true] at h
    simp [okAts_len h.2]
end
end
section
open PySem PySem.Spec PySem.W PyProof.Rows PyProof.V PySem.SeqAt

section
variable {W : Wd} {β : Option Addr} {s₀ : Shared} {g₀ : FH} {F : Fm} {hd : FH} {A : Around} {Ex : Value → Shared → Prop} {k : Nat} {ρ : Row} {own : Own} {σ : Bx} {g : FH} {s : Shared}

theorem fresh_facts (I : Iv W β s₀ g₀ F hd ρ own σ g s) {a : Addr} (h : s.heap.get? a = none) : g a = none ∧ s₀.heap.get? a = none ∧ Off F a ∧ some a ≠ β ∧ hd a = none := by
  have hb : some a ≠ β := I.box.ne h
  obtain ⟨m, cm, ⟨oL, es, ep, hL, _⟩, hc, _⟩ := I.vars
  refine ⟨?_, ?_, ⟨?_, fun y c e => ?_⟩, hb, ?_⟩
  · cases q : g a with
    | none => rfl
    | some o => have := I.gs a o q; rw [h] at this; cases this
  · cases q : s₀.heap.get? a with
    | none => rfl
    | some o => have := I.ext.keep a o hb q; rw [h] at this; cases this
  · rintro rfl; rw [h] at hL; cases hL
  · rintro rfl
    obtain ⟨o, ho, _⟩ := hc.cell y _ e
    rw [h] at ho; cases ho
  · cases q : hd a with
    | none => rfl
    | some o => have := (I.held a o q).1; rw [h] at this; cases this

theorem Iv.grow (I : Iv W β s₀ g₀ F hd ρ own σ g s) {h' : Heap} {tk : Nat} (k : ∀ a o, s.heap.get? a = some o → h'.get? a = some o) : Iv W β s₀ g₀ F hd ρ own σ g { s with heap := h', toks := tk } :=
  I.step (.same I.gs k) (I.box.keep k fun b e => (I.box b e).1)

theorem set_sound (hF : Fok F) (hA : Ok k A) {i : Nat} {e : E} {x : Stmt} {Q : PS} (h : okS F.sc F.ns (.set i e) x = true) (I : Iv W β s₀ g₀ F hd ρ own σ g s) (hw : WS W k (.set i e) Q ρ own σ) :
    wpAny W.M A (exec x F.env) (PostS W β s₀ g₀ F hd g Q) Ex s := by
  obtain ⟨_, _, _, rfl, j1⟩ := onAssign_ h
  clear h
  obtain ⟨_, _, rfl, j2⟩ := onName_ j1
  clear j1
  obtain ⟨h1, h2⟩ := and_ j2
  clear j2
  refine wpAny_Assign_Name (wpE (WE_sound hF hA e h2 I hw.2) fun v s1 g1 X σ1 e1 b1 hx q => ?_) (notComp h2 _ _ _)
  exact (I.step e1 b1).store hF (okAt_ h1).1 (okAt_ h1).2 hw.1 hx fun h' tk I2 => ⟨g1, _, _, _, e1.gg, I2, q⟩

theorem own_sound (hF : Fok F) {i : Nat} {x : Stmt} {Q : PS} (h : okS F.sc F.ns (.own i) x = true) (I : Iv W β s₀ g₀ F hd ρ own σ g s) (hw : WS W k (.own i) Q ρ own σ) :
    wpAny W.M A (exec x F.env) (PostS W β s₀ g₀ F hd g Q) Ex s := by
  obtain ⟨_, _, _, rfl, j1⟩ := onAssign_ h
  clear h
  obtain ⟨_, _, rfl, j2⟩ := onName_ j1
  clear j1
  obtain ⟨h0, h1⟩ := and_ j2
  clear j2
  obtain ⟨_, rfl⟩ := okNil_ h0
  clear h0
  obtain ⟨rfl, hq⟩ := hw
  refine wpAny_Assign_Name ?_ rfl
  rw [arm_eval_List]
  refine wpAny_bind (wpAny_standAt (wpAny_bind (Calls.spliced_nil (wpAny_newList ?_ (Nat.zero_le _)))))
  obtain ⟨f1, f2, f3, f4, f5⟩ := fresh_facts I (size_none s.heap)
  have I1 := I.grow (h' := s.heap.push { cls := .type "list", data := .seq ([] : List Value).toArray }) (tk := s.toks) fun a o e => Heap.get?_push_of_some _ e
  exact I1.storeOwn hF (okAt_ h1).1 (okAt_ h1).2 (vs := []) (xs := []) ⟨0, Heap.get?_push_size _ rfl⟩ .nil (Nat.zero_le _) f1 f2 f3.1 f3.2 f4 f5 fun h' tk I2 => ⟨g, _, _, _, fun _ _ e => e, I2, hq⟩

theorem swOk_len {sc : Scope} {ts vs : List Expr} {names : List Str} (h : swOk sc ts vs names = true) : names.length ≤ 3 := by
  simp only [swOk, Bool.and_eq_true, Bool.or_eq_true, beq_iff_eq] at h
  have h1 := h.1.1.1.1.1.1.1
  have h5 := h.1.1.1.2
  omega

/-- a tuple of values laid into names -/
theorem tuple_stores (hF : Fok F) (hA : Ok k A) {is : List Nat} {names : List Str} {rs : List Value} {xs : List V} {Q : Shared → Prop} (I : Iv W β s₀ g₀ F hd ρ own σ g s) (h2 : okAts F.sc F.ns is names = true) (hr : Reps W g β rs xs) (hl : xs.length = is.length)
    (hno : ∀ i ∈ is, noOwn own i) (h3 : is.length ≤ 3) (h : ∀ h' tk, Iv W β s₀ g₀ F hd (setAll ρ is xs) own σ g { s with heap := h', toks := tk } → Q { s with heap := h', toks := tk }) :
    wpAny W.M A (newTuple rs) (fun v s₁ => wpAny W.M A (unpackItems v names.length none) (fun items s₂ => wpAny W.M A (assignInOrder (names.reverse.map fun n => bindName F.env n) items.reverse) (fun _ s3 => Q s3) Ex s₂) Ex s₁) Ex s := by
  have hlen : rs.length = is.length := (Reps.length hr).trans hl
  refine wpAny_newTuple ?_ (by rw [sizeLine_n]; omega)
  have I2 := I.grow (h' := s.heap.push { cls := .type "tuple", data := .seq rs.toArray }) (tk := s.toks) fun a o e => Heap.get?_push_of_some _ e
  refine unpack_tuple hA.hh ⟨_, Heap.get?_push_size _ rfl, rfl, 0, rfl⟩ ((okAts_len h2).symm.trans hlen.symm) fun h' k' => ?_
  exact storeAll hF is h2 hlen hr hno (I2.grow (tk := s.toks) k') fun h2 tk2 I3 _ => h h2 tk2 I3

theorem swap_sound (hF : Fok F) (hA : Ok k A) {is : List Nat} {es : Es} {x : Stmt} {Q : PS} (h : okS F.sc F.ns (.swap is es) x = true) (I : Iv W β s₀ g₀ F hd ρ own σ g s) (hw : WS W k (.swap is es) Q ρ own σ) :
    wpAny W.M A (exec x F.env) (PostS W β s₀ g₀ F hd g Q) Ex s := by
  obtain ⟨_, _, _, rfl, j1⟩ := onAssign_ h
  clear h
  obtain ⟨_, _, _, rfl, j2⟩ := onTup_ j1
  clear j1
  obtain ⟨_, _, _, rfl, j3⟩ := onTup_ j2
  clear j2
  obtain ⟨h1, j4⟩ := and_ j3
  clear j3
  obtain ⟨h2, h3⟩ := and_ j4
  clear j4
  refine Assign_Tuple_swapped ?_ rfl (swapped_ok hF.kind h1)
  rw [arm_eval_Tuple, starEach_ok h3, backTo_plain]
  refine wpAny_bind (wpAny_standAt (wpAny_bind (wpEs (WEs_sound hF hA es h3 I hw.2) fun rs s1 g1 xs σ1 e1 b1 hr q0 => ?_)))
  obtain ⟨hl, q⟩ := q0
  have h4 := swOk_len h1
  have h5 := okAts_len h2
  exact tuple_stores hF hA (I.step e1 b1) h2 hr hl hw.1 (by omega) fun h' tk I3 => ⟨g1, _, _, _, e1.gg, I3, q⟩

/-- the same with a fresh list ahead, that is to be grown -/
theorem tuple_storesOwn (hF : Fok F) (hA : Ok k A) {i : Nat} {is : List Nat} {names : List Str} {rs : List Value} {xs : List V} {oa : Addr} {vs : List Value} {ys : List Int} {Q : Shared → Prop} (I : Iv W β s₀ g₀ F hd ρ none σ g s) (h2 : okAts F.sc F.ns (i :: is) names = true) (hr : Reps W g β rs xs) (hl : xs.length = is.length)
    (h3 : is.length ≤ 3) (hp : s.heap.PlainList oa vs.toArray) (hvs : IntsAre vs ys) (hys : ys.length ≤ sizeLine) (f1 : g oa = none) (f2 : s₀.heap.get? oa = none) (f3 : Off F oa) (f4 : some oa ≠ β) (f5 : hd oa = none)
    (h : ∀ h' tk, Iv W β s₀ g₀ F hd ((setAll ρ is xs).set i none) (some (i, ys)) σ g { s with heap := h', toks := tk } → Q { s with heap := h', toks := tk }) :
    wpAny W.M A (newTuple (.ref oa :: rs)) (fun v s₁ => wpAny W.M A (unpackItems v names.length none) (fun items s₂ => wpAny W.M A (assignInOrder (names.reverse.map fun n => bindName F.env n) items.reverse) (fun _ s3 => Q s3) Ex s₂) Ex s₁) Ex s := by
  have hlen : rs.length = is.length := (Reps.length hr).trans hl
  cases names with
  | nil => simp [okAts] at h2
  | cons y ys' =>
    refine wpAny_newTuple ?_ (by rw [sizeLine_n, List.length_cons]; omega)
    have I2 := I.grow (h' := s.heap.push { cls := .type "tuple", data := .seq (.ref oa :: rs).toArray }) (tk := s.toks) fun a o e => Heap.get?_push_of_some _ e
    refine unpack_tuple hA.hh ⟨_, Heap.get?_push_size _ rfl, rfl, 0, rfl⟩ (by rw [← okAts_len h2, List.length_cons, List.length_cons, hlen]) fun h' k' => ?_
    simp only [okAts, Bool.and_eq_true] at h2
    rw [List.reverse_cons, List.map_append, List.reverse_cons]
    refine Chain.snoc (storeAll (own := none) hF is h2.2 hlen hr (fun _ _ => trivial) (I2.grow (tk := s.toks) k') fun h1 tk1 I3 k1 => ?_)
    obtain ⟨n, hp⟩ := hp
    have hp' : h1.PlainList oa vs.toArray := ⟨n, (k1 oa f3).trans (k' _ _ (Heap.get?_push_of_some _ hp))⟩
    exact wpAny_bindName (I3.storeOwn hF (okAt_ h2.1).1 (okAt_ h2.1).2 hp' hvs hys f1 f2 f3.1 f3.2 f4 f5 fun h2 tk2 I4 => h h2 tk2 I4)

theorem swapOwn_sound (hF : Fok F) (hA : Ok k A) {i : Nat} {is : List Nat} {es : Es} {x : Stmt} {Q : PS} (h : okS F.sc F.ns (.swapOwn i is es) x = true) (I : Iv W β s₀ g₀ F hd ρ own σ g s) (hw : WS W k (.swapOwn i is es) Q ρ own σ) :
    wpAny W.M A (exec x F.env) (PostS W β s₀ g₀ F hd g Q) Ex s := by
  obtain ⟨_, _, pos, rfl, j1⟩ := onAssign_ h
  clear h
  obtain ⟨ts, kk, tp, rfl, j2⟩ := onTup_ j1
  clear j1
  obtain ⟨_, k', vp, rfl, j3⟩ := onTup_ j2
  clear j2
  obtain ⟨_, vs, rfl, j4⟩ := onCons_ j3
  clear j3
  obtain ⟨h0, j5⟩ := and_ j4
  clear j4
  obtain ⟨lp, rfl⟩ := okNil_ h0
  obtain ⟨h1, j6⟩ := and_ j5
  clear j5
  obtain ⟨h2, h3⟩ := and_ j6
  clear j6
  clear h0
  obtain ⟨rfl, hw⟩ := hw
  refine Assign_Tuple_swapped ?_ rfl (swapped_ok hF.kind h1)
  have hs : starEach (.List [] lp :: vs) F.env = (false, eval (.List [] lp) F.env) :: vs.map fun e => (false, eval e F.env) := by
    show (false, eval (.List [] lp) F.env) :: starEach vs F.env = _
    rw [starEach_ok h3]
  have hs' : backTo vp (starEach (.List [] lp :: vs) F.env) = (false, eval (.List [] lp) F.env) :: vs.map fun e => (false, eval e F.env) := by
    rw [hs]; simp [backTo]
  rw [arm_eval_Tuple, hs']
  refine wpAny_bind (wpAny_standAt (wpAny_bind (Calls.spliced_cons ?_)))
  rw [arm_eval_List]
  refine wpAny_bind (wpAny_standAt (wpAny_bind (Calls.spliced_nil (wpAny_newList ?_ (Nat.zero_le _)))))
  obtain ⟨f1, f2, f3, f4, f5⟩ := fresh_facts I (size_none s.heap)
  have I1 := I.grow (h' := s.heap.push { cls := .type "list", data := .seq ([] : List Value).toArray }) (tk := s.toks) fun a o e => Heap.get?_push_of_some _ e
  have p1 := Heap.get?_push_size (h := s.heap) (o := { cls := .type "list", data := .seq ([] : List Value).toArray }) rfl
  refine wpEs (WEs_sound hF hA es h3 I1 hw) fun rs s1 g1 xs σ1 e1 b1 hr q0 => ?_
  obtain ⟨hl, q⟩ := q0
  have h4 := swOk_len h1
  have h5 := okAts_len h2
  rw [List.length_cons] at h5
  exact tuple_storesOwn hF hA (I1.step e1 b1) h2 hr hl (by omega) (vs := []) (ys := []) ⟨0, e1.keep _ _ f4 p1⟩ .nil (Nat.zero_le _) (none_of_ext e1 f1 p1) f2 f3 f4 f5 fun h' tk I3 => ⟨g1, _, _, _, e1.gg, I3, q⟩

theorem flat_rep0 : ∀ m : Nat, (List.replicate m [(0 : Int)]).flatten = List.replicate m 0
  | 0 => rfl
  | m + 1 => by
    rw [List.replicate_succ, List.flatten_cons, flat_rep0 m, List.replicate_succ]; rfl

theorem swapRep_sound (hF : Fok F) (hA : Ok k A) {i : Nat} {n : E} {is : List Nat} {es : Es} {x : Stmt} {Q : PS} (h : okS F.sc F.ns (.swapRep i n is es) x = true) (I : Iv W β s₀ g₀ F hd ρ own σ g s) (hw : WS W k (.swapRep i n is es) Q ρ own σ) :
    wpAny W.M A (exec x F.env) (PostS W β s₀ g₀ F hd g Q) Ex s := by
  obtain ⟨_, _, pos, rfl, j1⟩ := onAssign_ h
  clear h
  obtain ⟨ts, kk, tp, rfl, j2⟩ := onTup_ j1
  clear j1
  obtain ⟨_, k', vp, rfl, j3⟩ := onTup_ j2
  clear j2
  obtain ⟨_, vs, rfl, j4⟩ := onCons_ j3
  clear j3
  obtain ⟨_, _, nx, bp, rfl, j5⟩ := onBin_ j4
  clear j4
  obtain ⟨_, lp, rfl, j6⟩ := onList_ j5
  clear j5
  obtain ⟨_, rfl, j7⟩ := onOne_ j6
  clear j6
  obtain ⟨j, kc, cp, rfl, j8⟩ := onInt_ j7
  clear j7
  obtain ⟨h0, j9⟩ := and_ j8
  clear j8
  obtain ⟨ho, j10⟩ := and_ j9
  clear j9
  obtain ⟨h1, j11⟩ := and_ j10
  clear j10
  obtain ⟨h2, j12⟩ := and_ j11
  clear j11
  obtain ⟨h6, h3⟩ := and_ j12
  clear j12
  obtain rfl := eq_of_beq h0
  obtain rfl := eq_of_beq ho
  obtain ⟨rfl, hw⟩ := hw
  refine Assign_Tuple_swapped ?_ rfl (swapped_ok hF.kind h1)
  have hs' : backTo vp (starEach (.BinOp (.List [.Constant (.int 0) kc cp] lp) .Mult nx bp :: vs) F.env) = (false, eval (.BinOp (.List [.Constant (.int 0) kc cp] lp) .Mult nx bp) F.env) :: vs.map fun e => (false, eval e F.env) := by
    show backTo vp ((false, eval (.BinOp (.List [.Constant (.int 0) kc cp] lp) .Mult nx bp) F.env) :: starEach vs F.env) = _
    rw [starEach_ok h3]; simp [backTo]
  rw [arm_eval_Tuple, hs']
  refine wpAny_bind (wpAny_standAt (wpAny_bind (Calls.spliced_cons (wpAny_BinOp ?_))))
  rw [arm_eval_List]
  refine wpAny_bind (wpAny_standAt (wpAny_bind (m := spliced [(false, eval (.Constant (.int 0) kc cp) F.env)]) (Calls.spliced_cons (wpAny_Constant_int (Calls.spliced_nil ?_)))))
  refine wpAny_newList ?_ (by rw [sizeLine_n]; exact (show 1 ≤ 16777216 by decide))
  have I1 := I.grow (h' := s.heap.push { cls := .type "list", data := .seq [Value.int 0 s.toks].toArray }) (tk := s.toks + 1) fun a o e => Heap.get?_push_of_some _ e
  have l1 : (s.heap.push { cls := .type "list", data := .seq [Value.int 0 s.toks].toArray }).IsList s.heap.objs.size [Value.int 0 s.toks].toArray := ⟨_, Heap.get?_push_size _ rfl, rfl, 0, rfl⟩
  refine wpE (WE_sound hF hA n h6 I1 hw) fun v s1 g1 X σ1 e1 b1 hx q0 => ?_
  obtain ⟨m, hX, hm, hq⟩ := q0
  subst hX
  obtain ⟨t, rfl⟩ := hx
  have I2 := I1.step e1 b1
  rw [sizeLine_n] at hm
  have f4 : some s.heap.objs.size ≠ β := (fresh_facts I (size_none s.heap)).2.2.2.1
  obtain ⟨o1, ho1, hc1, nn, hd1⟩ := l1
  refine mulL (vs := [Value.int 0 s.toks]) ⟨o1, e1.keep _ _ f4 ho1, hc1, nn, hd1⟩ (by omega) (by rw [p63]; omega) (by simp; omega) ?_
  obtain ⟨f1, f2, f3, f4, f5⟩ := fresh_facts I2 (size_none s1.heap)
  rw [show ((m : Nat) : Int).toNat = m from Int.toNat_natCast m]
  have I3 := I2.grow (h' := s1.heap.push { cls := .type "list", data := .seq (List.replicate m [Value.int 0 s.toks]).flatten.toArray }) (tk := s1.toks) fun a o e => Heap.get?_push_of_some _ e
  have p1 := Heap.get?_push_size (h := s1.heap) (o := { cls := .type "list", data := .seq (List.replicate m [Value.int 0 s.toks]).flatten.toArray }) rfl
  refine wpEs (WEs_sound hF hA es h3 I3 hq) fun rs s2 g2 xs σ2 e2 b2 hr q0 => ?_
  obtain ⟨hl, q⟩ := q0
  have h4 := swOk_len h1
  have h5 := okAts_len h2
  rw [List.length_cons] at h5
  refine tuple_storesOwn hF hA (I3.step e2 b2) h2 hr hl (by omega) (vs := (List.replicate m [Value.int 0 s.toks]).flatten) (ys := List.replicate m 0) ⟨0, e2.keep _ _ f4 p1⟩ ?_ (by rw [List.length_replicate, sizeLine_n]; exact hm) (none_of_ext e2 f1 p1) f2 f3 f4 f5 fun h' tk I3 => ⟨g2, _, _, _, fun a o e => e2.gg a o (e1.gg a o e), I3, q⟩
  have := intsAre_rep (IntsAre.cons 0 s.toks .nil) m
  rwa [flat_rep0] at this

theorem two_sound (hF : Fok F) (hA : Ok k A) {i j : Nat} {e : E} {x : Stmt} {Q : PS} (h : okS F.sc F.ns (.two i j e) x = true) (I : Iv W β s₀ g₀ F hd ρ own σ g s) (hw : WS W k (.two i j e) Q ρ own σ) :
    wpAny W.M A (exec x F.env) (PostS W β s₀ g₀ F hd g Q) Ex s := by
  obtain ⟨_, v, pos, rfl, j1⟩ := onAssign_ h
  clear h
  obtain ⟨_, kk, tp, rfl, j2⟩ := onTup_ j1
  clear j1
  obtain ⟨_, _, rfl, j3⟩ := onTwo_ j2
  clear j2
  obtain ⟨y, py, rfl, j4⟩ := onName_ j3
  clear j3
  obtain ⟨z, pz, rfl, j5⟩ := onName_ j4
  clear j4
  obtain ⟨h1, j6⟩ := and_ j5
  clear j5
  obtain ⟨h2, j7⟩ := and_ j6
  clear j6
  obtain ⟨h3, h4⟩ := and_ j7
  clear j7
  obtain ⟨n1, n2, hw⟩ := hw
  refine Assign_Tuple (wpE (WE_sound hF hA e h3 I hw) fun r s1 g1 X σ1 e1 b1 hx q => ?_) ?_ ?_
  · have I1 := I.step e1 b1
    obtain ⟨_, _, rfl, q⟩ := onP_ q
    obtain ⟨a, o, u, w, n, rfl, ha, hc, hdd, hu, hw'⟩ := hx
    show wpAny W.M A (do standAt tp; unpack (.ref a) (assignEach [.Name y py, .Name z pz] F.env)) _ _ _
    refine wpAny_bind (wpAny_standAt (wpAny_unpack_tuple hA.hh ⟨o, I1.gs _ _ ha, hc, n, hdd⟩ rfl rfl fun h' he => ?_))
    have I2 := I1.grow (h' := h') (tk := s1.toks) fun b o q => he b o (Nat.ne_of_lt (Heap.lt_size q)) q
    show wpAny W.M A (do holding [w] (assign (.Name y py) F.env u); assignInOrder [assign (.Name z pz) F.env] [w]) _ _ _
    refine wpAny_bind (wpAny_holding (wpAny_assign_Name (I2.store hF (okAt_ h1).1 (okAt_ h1).2 n1 hu fun h2' tk2 I3 => ?_)))
    show wpAny W.M A (do holding [] (assign (.Name z pz) F.env w); assignInOrder [] []) _ _ _
    refine wpAny_bind (wpAny_holding (wpAny_assign_Name (I3.store hF (okAt_ h2).1 (okAt_ h2).2 n2 hw' fun h3' tk3 I4 => wpAny_pure ?_)))
    exact ⟨g1, _, _, _, e1.gg, I4, q⟩
  · exact notComp h3 (some (.Tuple [.Name y py, .Name z pz] kk tp)) pos.line F.env
  · rcases Bool.or_eq_true_iff.mp h4 with h4 | h4
    · obtain ⟨_, _, _, rfl, _⟩ := onCall_ h4
      rfl
    · rcases Bool.or_eq_true_iff.mp h4 with h4 | h4
      · obtain ⟨_, _, rfl, _⟩ := onName_ h4
        rfl
      · obtain ⟨h4, h5⟩ := and_ h4
        obtain ⟨_, _, _, rfl, _⟩ := onTup_ h4
        exact unswapped (env := F.env) (eq_of_beq h5)

theorem aug_sound (hF : Fok F) (hA : Ok k A) {i : Nat} {op : Operator} {e : E} {x : Stmt} {Q : PS} (h : okS F.sc F.ns (.aug i op e) x = true) (I : Iv W β s₀ g₀ F hd ρ own σ g s) (hw : WS W k (.aug i op e) Q ρ own σ) :
    wpAny W.M A (exec x F.env) (PostS W β s₀ g₀ F hd g Q) Ex s := by
  obtain ⟨_, _, _, _, rfl, j1⟩ := onAug_ h
  clear h
  obtain ⟨_, _, rfl, j2⟩ := onName_ j1
  clear j1
  obtain ⟨h1, j3⟩ := and_ j2
  clear j2
  obtain ⟨h0, h3⟩ := and_ j3
  clear j3
  obtain rfl := eq_of_beq h0
  obtain ⟨n1, hw⟩ := hw
  obtain ⟨X, hX, hw⟩ := onV_ hw
  refine wpAny_AugAssign_Name (I.load hF (okAt_ h1).1 hX (okAt_ h1).2 fun old ho => ?_)
  refine wpE (WE_sound hF hA e h3 I hw) fun v s1 g1 Y σ1 e1 b1 hy q => ?_
  have I1 := I.step e1 b1
  refine wpE (WAug_sound I1.gs I1.box (ho.mono e1.gg) hy q) fun r s2 g2 Z σ2 e2 b2 hz q2 => ?_
  exact (I1.step e2 b2).store hF (okAt_ h1).1 (okAt_ h1).2 n1 hz fun h' tk I3 => ⟨g2, _, _, _, fun a o e => e2.gg a o (e1.gg a o e), I3, q2⟩

/-- a list that was grown is let be -/
theorem Iv.freeze {i : Nat} {xs : List Int} (hF : Fok F) (I : Iv W β s₀ g₀ F hd ρ (some (i, xs)) σ g s) : ∃ g', Sub g g' ∧ Iv W β s₀ g₀ F hd (ρ.set i (some (.list xs))) none σ g' s := by
  obtain ⟨m, cm, hn, hc, hv, h0, y, oa, vs, h1, h2, ⟨n, h3⟩, h4, h5, h6, h7, h8, h9, h10, h11⟩ := id I.vars
  have hsub := put_sub (o := { cls := .type "list", data := .seq vs.toArray n }) h6
  have pe : ∀ a, a ≠ oa → put g oa { cls := .type "list", data := .seq vs.toArray n } a = g a := fun a ha => by simp [put, ha]
  refine ⟨put g oa { cls := .type "list", data := .seq vs.toArray n }, hsub, ⟨I.ext.sh, I.ext.keep, fun a o e => hsub a o (I.ext.gg a o e), fun a o e => ?_, fun a o e => ?_⟩, fun a o e => hsub a o (I.base a o e), fun b e => ?_, I.newL, I.newC, ?_, fun z c e => ?_, I.bL, I.bC, fun a o e => ?_,
    m, cm, hn, hc, vars_set hF h1 h2 (fun _ _ => rfl) ⟨oa, rfl, _, vs, n, put_self .., rfl, rfl, h4, h5⟩ fun j z V hj hV => ?_, trivial⟩
  · by_cases q : a = oa
    · subst q; rw [put_self] at e; cases e; exact h3
    · rw [pe a q] at e; exact I.gs a o e
  · by_cases q : a = oa
    · subst q; exact .inr ⟨h7, h10⟩
    · rw [pe a q] at e; exact I.ext.new a o e
  · obtain ⟨q1, q2⟩ := I.box b e
    refine ⟨?_, q2⟩
    rw [pe b (by rintro rfl; exact h10 e.symm)]
    exact q1
  · rw [pe _ (Ne.symm h8)]; exact I.gL
  · rw [pe _ (Ne.symm (h9 z c e))]; exact I.gC z c e
  · obtain ⟨q1, q2, q3⟩ := I.held a o e
    refine ⟨q1, ?_, q3⟩
    rw [pe a (by rintro rfl; rw [h11] at e; cases e)]
    exact q2
  · obtain ⟨v, q1, q2⟩ := hv j z V hj hV
    exact ⟨v, q1, q2.mono hsub⟩

theorem Iv.freezeAny (hF : Fok F) (I : Iv W β s₀ g₀ F hd ρ own σ g s) : ∃ g', Sub g g' ∧ Iv W β s₀ g₀ F hd (Mine.freeze ρ own) none σ g' s := by
  cases own with
  | none => exact ⟨g, fun _ _ e => e, I⟩
  | some p => exact I.freeze hF

theorem ret_sound (hF : Fok F) (hA : Ok k A) {e : E} {x : Stmt} {Q : PS} (h : okS F.sc F.ns (.ret e) x = true) (I : Iv W β s₀ g₀ F hd ρ own σ g s) (hw : WS W k (.ret e) Q ρ own σ) :
    wpAny W.M A (exec x F.env) (PostS W β s₀ g₀ F hd g Q) Ex s := by
  obtain ⟨_, _, rfl, h1⟩ := onRet_ h
  clear h
  obtain ⟨g', hs, I'⟩ := I.freezeAny hF
  refine wpAny_Return_some (wpE (WE_sound hF hA e h1 I' hw) fun v s1 g1 X σ1 e1 b1 hx q => ?_)
  exact ⟨g1, _, _, _, X, fun a o q => e1.gg a o (hs a o q), I'.step e1 b1, hx, q⟩

/-- where a name's list lies -/
noncomputable def OwnRef (F : Fm) (s : Shared) (x : Str) (oa : Addr) : Prop := ∃ m cm, s.heap.Ns F.L m ∧ Cl F.L F.cells s.heap cm ∧ slot F.sc m cm x = some (.ref oa)

theorem Ns.uniq {h : Heap} {L : Addr} {m m' : Str → Option Value} (a : h.Ns L m) (b : h.Ns L m') (x : Str) : m x = m' x := by
  obtain ⟨o, es, ep, h1, h2, _, h3⟩ := a
  obtain ⟨o', es', ep', h1', h2', _, h3'⟩ := b
  rw [h1] at h1'; cases h1'
  rw [h2] at h2'; cases h2'
  rw [← h3, ← h3']
theorem slot_uniq {s : Shared} {m cm m' cm' : Str → Option Value} {x : Str} (hx : okVar F.sc x = true) (a : s.heap.Ns F.L m) (b : s.heap.Ns F.L m') (c : Cl F.L F.cells s.heap cm) (d : Cl F.L F.cells s.heap cm') : slot F.sc m cm x = slot F.sc m' cm' x := by
  rcases (okVar_ hx).1 with hk | hk
  · rw [slot_local hk, slot_local hk]; exact Ns.uniq a b x
  · rw [slot_cell hk, slot_cell hk]
    obtain ⟨z, hz⟩ := F.cell hk
    obtain ⟨o, h1, h2⟩ := c.cell x z hz
    obtain ⟨o', h1', h2'⟩ := d.cell x z hz
    rw [h1] at h1'; cases h1'
    rw [h2] at h2'
    exact Data.cell.inj h2'

theorem OwnRef.step (I : Iv W β s₀ g₀ F hd ρ own σ g s) {g1 : FH} {s1 : Shared} (e : Ext β g g1 s s1) {x : Str} {oa : Addr} (h : OwnRef F s x oa) : OwnRef F s1 x oa := by
  obtain ⟨m, cm, ⟨o, es, ep, h1, h2⟩, hc, h3⟩ := h
  exact ⟨m, cm, ⟨o, es, ep, e.keep _ _ I.bL h1, h2⟩, ⟨fun y c q => let ⟨o, ho, hd⟩ := hc.cell y c q; ⟨o, e.keep _ _ (I.bC y c q) ho, hd⟩, hc.apart, hc.above⟩, h3⟩

theorem Iv.loadOwn' (hF : Fok F) {i : Nat} {xs : List Int} (I : Iv W β s₀ g₀ F hd ρ (some (i, xs)) σ g s) {x : Str} (hi : F.ns[i]? = some x) (hx : okVar F.sc x = true) {Q : Value → Shared → Prop}
    (h : ∀ oa vs, OwnRef F s x oa → s.heap.PlainList oa (vs : List Value).toArray → Q (.ref oa) s) : wpAny W.M A (loadName F.env x) Q Ex s := by
  obtain ⟨m, cm, hn, hc, hv, _, y, oa, vs, h1, h2, h3, h4, _⟩ := I.vars
  rw [hi] at h1; cases h1
  have hh := h oa vs ⟨m, cm, hn, hc, h2⟩ h3
  rcases (okVar_ hx).1 with hk | hk
  · rw [slot_local hk] at h2
    exact wpAny_loadName_local hF.kind hk hn h2 hh
  · rw [slot_cell hk] at h2
    obtain ⟨c, hcx⟩ := F.cell hk
    exact wpAny_loadName_cell hF.kind hk hcx (h2 ▸ hc.cell x c hcx) hh

theorem Iv.append {i : Nat} {xs : List Int} {n : Int} {t : Tok} {oa : Addr} (I : Iv W β s₀ g₀ F hd ρ (some (i, xs)) σ g s) {x : Str} (hi : F.ns[i]? = some x) (hx : okVar F.sc x = true) (ho : OwnRef F s x oa) (hl : xs.length < sizeLine) {Q : Value → Shared → Prop}
    (h : ∀ h' tk, Iv W β s₀ g₀ F hd ρ (some (i, xs ++ [n])) σ g { s with heap := h', toks := tk } → Q .none { s with heap := h', toks := tk }) :
    wpAny W.M A (PySem.call (.builtin "list.append") [.ref oa, .int n t]) Q Ex s := by
  obtain ⟨m, cm, hn, hc, hv, h0, y, oa', vs, h1, h2, h3, h4, h5, h6, h7, h8, h9, h10, h11⟩ := id I.vars
  rw [hi] at h1; cases h1
  obtain ⟨m', cm', hn', hc', h2'⟩ := ho
  have e : oa' = oa := by
    have := slot_uniq hx hn hn' hc hc'
    rw [h2, h2'] at this
    cases this; rfl
  subst e
  refine wpAny_list_append_plain h3 (fun h' hp hs => ?_) (by rw [List.size_toArray, h4.length]; omega)
  refine h h' s.toks ⟨ext_upd I.ext hs h7 h6, I.base, box_upd I.box hs h10, I.newL, I.newC, I.gL, I.gC, I.bL, I.bC, fun a o e => ?_, m, cm, hn.sameBut hs (Ne.symm h8), ⟨fun y c e => (hc.cell y c e).sameBut hs (Ne.symm (h9 y c e)), hc.apart, hc.above⟩, hv,
    h0, x, oa', vs ++ [.int n t], hi, h2, by simpa using hp, h4.append (.cons n t .nil), by rw [List.length_append, List.length_singleton]; omega, h6, h7, h8, h9, h10, h11⟩
  obtain ⟨q1, q2⟩ := I.held a o e
  exact ⟨(hs.2 a (by rintro rfl; rw [h11] at e; cases e)).trans q1, q2⟩

theorem app_sound (hF : Fok F) (hA : Ok k A) {i : Nat} {e : E} {x : Stmt} {Q : PS} (h : okS F.sc F.ns (.app i e) x = true) (I : Iv W β s₀ g₀ F hd ρ own σ g s) (hw : WS W k (.app i e) Q ρ own σ) :
    wpAny W.M A (exec x F.env) (PostS W β s₀ g₀ F hd g Q) Ex s := by
  obtain ⟨_, pos, rfl, j1⟩ := onExpr_ h
  clear h
  obtain ⟨_, _, cp, rfl, j2⟩ := onCall_ j1
  clear j1
  obtain ⟨_, _, ap, rfl, j3⟩ := onAttr_ j2
  clear j2
  obtain ⟨y, np, rfl, j4⟩ := onName_ j3
  clear j3
  obtain ⟨v, rfl, j5⟩ := onOne_ j4
  clear j4
  obtain ⟨h0, j6⟩ := and_ j5
  clear j5
  obtain ⟨h1, j7⟩ := and_ j6
  clear j6
  obtain ⟨h2, h3⟩ := and_ j7
  clear j7
  obtain rfl := eq_of_beq h0
  replace h1 := eq_of_beq h1
  rcases own with _ | ⟨j, xs⟩
  · exact hw.elim
  obtain ⟨rfl, hw⟩ := hw
  have hb : backTo cp (starEach [v] F.env) = [(false, eval v F.env)] := by
    rw [star_cons (ok_plain h3)]; exact backTo_plain cp [v] F.env
  refine wpAny_Expr ?_ (by show (F.sc.kind == .module && _) = false; rw [hF.kind]; rfl) rfl
  refine wpAny_Call_append rfl (by rw [hb]; rfl) (by rw [h1]; exact beq_self_eq_true _) hb ?_
  refine wpAny_Name (I.loadOwn' hF (okAt_ h2).1 (okAt_ h2).2 fun oa vs ho hp => ?_) (okVar_ (okAt_ h2).2).2
  obtain ⟨nn, hp⟩ := hp
  refine ⟨oa, vs.toArray, rfl, ⟨_, nn, hp, rfl, rfl, rfl⟩, ?_⟩
  refine wpE (WE_sound hF hA e h3 I hw) fun u s1 g1 X σ1 e1 b1 hx q => ?_
  obtain ⟨_, rfl, q⟩ := onI_ q
  obtain ⟨t, rfl⟩ := hx
  exact (I.step e1 b1).append (okAt_ h2).1 (okAt_ h2).2 (ho.step I e1) q.1 fun h' tk I2 => ⟨g1, _, _, _, e1.gg, I2, q.2⟩

theorem box_sound (hF : Fok F) (hA : Ok k A) {i : Nat} {b : Bool} {e : E} {x : Stmt} {Q : PS} (h : okS F.sc F.ns (.box i b e) x = true) (I : Iv W β s₀ g₀ F hd ρ own σ g s) (hw : WS W k (.box i b e) Q ρ own σ) :
    wpAny W.M A (exec x F.env) (PostS W β s₀ g₀ F hd g Q) Ex s := by
  obtain ⟨_, v, pos, rfl, j1⟩ := onAssign_ h
  clear h
  obtain ⟨_, _, sp, rfl, j2⟩ := onSub_ j1
  clear j1
  obtain ⟨y, np, rfl, j3⟩ := onName_ j2
  clear j2
  obtain ⟨j, kk, cp, rfl, j4⟩ := onInt_ j3
  clear j3
  obtain ⟨h1, j5⟩ := and_ j4
  clear j4
  obtain ⟨h2, h3⟩ := and_ j5
  clear j5
  replace h1 := eq_of_beq h1
  refine wpAny_Assign_Subscript (wpE (WE_sound hF hA e h3 I hw) fun u s1 g1 X σ1 e1 b1 hx q => ?_) (notComp h3 _ _ _)
  have I1 := I.step e1 b1
  obtain ⟨n, rfl, q⟩ := onI_ q
  obtain ⟨_, hX, q⟩ := onV_ q
  obtain ⟨rfl, q⟩ := onBx_ q
  obtain ⟨t, rfl⟩ := hx
  refine wpAny_Name (I1.load hF (okAt_ h2).1 hX (okAt_ h2).2 fun ov ho => ?_) (okVar_ (okAt_ h2).2).2
  obtain ⟨bx, rfl, rfl⟩ := ho
  refine wpAny_Constant_int ?_
  have I2 := I1.grow (h' := s1.heap) (tk := s1.toks + 1) fun _ _ e => e
  obtain ⟨q1, o, vs, nn, q2, q3, q4, q5⟩ := I2.box bx rfl
  have hl : ({ s1 with heap := s1.heap, toks := s1.toks + 1 } : Shared).heap.IsList bx vs.toArray := ⟨o, q2, q3, nn, q4⟩
  have hlen : vs.length = 2 := q5.length
  refine wpAny_setItem_list hl (by rw [h1]; split <;> decide) (by rw [h1, p63]; split <;> decide) (by rw [h1, List.size_toArray, hlen]; split <;> decide) fun h' hl' hs => ?_
  refine ⟨g1, _, _, _, e1.gg, ⟨⟨?_, fun a o ha e => ?_, I2.ext.gg, fun a o e => ?_, I2.ext.new⟩, I2.base, fun c ec => ?_, I2.newL, I2.newC, I2.gL, I2.gC, I2.bL, I2.bC, fun a o e => ?_, ?_⟩, q⟩
  · obtain ⟨hh, tk, e⟩ := I1.ext.sh
    refine ⟨h', s1.toks + 1, ?_⟩
    rw [e]
  · exact (hs.2 a (by rintro rfl; exact ha rfl)).trans (I2.ext.keep a o ha e)
  · exact (hs.2 a (by rintro rfl; rw [q1] at e; cases e)).trans (I2.gs a o e)
  · cases ec
    obtain ⟨o', w1, w2, n', w3⟩ := hl'
    have : (vs.toArray.setIfInBounds j.toNat (.int n t)) = (vs.set j.toNat (.int n t)).toArray := by simp
    rw [this] at w3
    refine ⟨q1, o', _, n', w1, w2, w3, ?_⟩
    cases q5 with
    | cons a1 t1 r1 => cases r1 with
      | cons a2 t2 r2 => cases r2 with
        | nil =>
          subst h1
          cases b
          · exact .cons _ _ (.cons _ _ .nil)
          · exact .cons _ _ (.cons _ _ .nil)
  · obtain ⟨w1, w2⟩ := I2.held a o e
    exact ⟨(hs.2 a (by rintro rfl; exact w2.2.2.2.2 rfl)).trans w1, w2⟩
  · obtain ⟨m, cm, hn, hc, hv, ho⟩ := I2.vars
    refine ⟨m, cm, hn.sameBut hs (by rintro rfl; exact I2.bL rfl), ⟨fun z c e => (hc.cell z c e).sameBut hs (by rintro rfl; exact I2.bC z _ e rfl), hc.apart, hc.above⟩, hv, ?_⟩
    cases own with
    | none => trivial
    | some p =>
      obtain ⟨h0, z, oa, us, w1, w2, ⟨nz, w3⟩, w4, w5, w6, w7, w8, w9, w10, w11⟩ := ho
      exact ⟨h0, z, oa, us, w1, w2, ⟨nz, (hs.2 oa (by rintro rfl; exact w10 rfl)).trans w3⟩, w4, w5, w6, w7, w8, w9, w10, w11⟩
end
end
section
open PySem PySem.Spec PySem.W PyProof.Rows PyProof.V PySem.SeqAt

section
variable {W : Wd} {β : Option Addr} {s₀ : Shared} {g₀ : FH} {F : Fm} {A : Around} {k : Nat} {ρ : Row} {own : Own} {σ : Bx} {g : FH} {s : Shared}

/-- what changes at the held object alone -/
theorem Iv.turn {hd : FH} {a : Addr} {o : Obj} {h' : Heap} {tk : Nat} (I : Iv W β s₀ g₀ F (put hd a o) ρ own σ g s) (ha : hd a = none) (kp : ∀ b x, b ≠ a → s.heap.get? b = some x → h'.get? b = some x) :
    Iv W β s₀ g₀ F hd ρ own σ g { s with heap := h', toks := tk } ∧ ∀ o', h'.get? a = some o' → Iv W β s₀ g₀ F (put hd a o') ρ own σ g { s with heap := h', toks := tk } := by
  obtain ⟨p1, p2, p3, p4, p5, p6⟩ := I.held a o (put_self ..)
  have pe : ∀ (o : Obj) b, b ≠ a → put hd a o b = hd b := fun o b hb => by simp [put, hb]
  have ext : Ext β g₀ g s₀ { s with heap := h', toks := tk } := by
    obtain ⟨h1, tk1, e⟩ := I.ext.sh
    refine ⟨⟨h', tk, by rw [e]⟩, fun b x hb e => ?_, I.ext.gg, fun b x e => ?_, I.ext.new⟩
    · exact kp b x (by rintro rfl; rw [p3] at e; cases e) (I.ext.keep b x hb e)
    · exact kp b x (by rintro rfl; rw [p2] at e; cases e) (I.gs b x e)
  have box : BoxAt β σ g { s with heap := h', toks := tk } := fun b e => by
    obtain ⟨q1, x, vs, n, q2, q3⟩ := I.box b e
    exact ⟨q1, x, vs, n, kp b x (by rintro rfl; exact p6 e.symm) q2, q3⟩
  obtain ⟨m, cm, ⟨oL, es, ep, hL, hn⟩, hc, hv, ho⟩ := I.vars
  have ns : h'.Ns F.L m := ⟨oL, es, ep, kp _ _ (Ne.symm p4) hL, hn⟩
  have cl : Cl F.L F.cells h' cm := ⟨fun y c e => let ⟨x, q1, q2⟩ := hc.cell y c e; ⟨x, kp c x (Ne.symm (p5 y c e)) q1, q2⟩, hc.apart, hc.above⟩
  have ow : ∀ hd' : FH, (∀ b, b ≠ a → hd' b = hd b) → OwnAt β s₀ F hd' ρ own g { s with heap := h', toks := tk } m cm := fun hd' hh => by
    cases own with
    | none => trivial
    | some p =>
      obtain ⟨h0, z, oa, us, w1, w2, ⟨nz, w3⟩, w4, w5, w6, w7, w8, w9, w10, w11⟩ := ho
      have hne : oa ≠ a := by rintro rfl; rw [put_self] at w11; cases w11
      exact ⟨h0, z, oa, us, w1, w2, ⟨nz, kp oa _ hne w3⟩, w4, w5, w6, w7, w8, w9, w10, by rw [hh oa hne, ← pe o oa hne]; exact w11⟩
  have held : ∀ b x, b ≠ a → hd b = some x → h'.get? b = some x ∧ g b = none ∧ s₀.heap.get? b = none ∧ b ≠ F.L ∧ (∀ x c, F.cells.lookup x = some c → b ≠ c) ∧ some b ≠ β := fun b x hb e => by
    obtain ⟨q1, q2⟩ := I.held b x ((pe o b hb).trans e)
    exact ⟨kp b x hb q1, q2⟩
  refine ⟨⟨ext, I.base, box, I.newL, I.newC, I.gL, I.gC, I.bL, I.bC, fun b x e => held b x (by rintro rfl; rw [ha] at e; cases e) e, m, cm, ns, cl, hv, ow hd fun _ _ => rfl⟩, fun o' e' => ?_⟩
  refine ⟨ext, I.base, box, I.newL, I.newC, I.gL, I.gC, I.bL, I.bC, fun b x e => ?_, m, cm, ns, cl, hv, ow _ fun b hb => pe o' b hb⟩
  by_cases q : b = a
  · subst q
    rw [put_self] at e; cases e
    exact ⟨e', p2, p3, p4, p5, p6⟩
  · exact held b x q ((pe o' b q).symm.trans e)

/-- a new object held -/
theorem Iv.hold {hd : FH} {a : Addr} {o : Obj} {h' : Heap} {tk : Nat} (I : Iv W β s₀ g₀ F hd ρ own σ g s) (ha : s.heap.get? a = none) (kp : ∀ b x, s.heap.get? b = some x → h'.get? b = some x) (ho : h'.get? a = some o) :
    hd a = none ∧ Iv W β s₀ g₀ F (put hd a o) ρ own σ g { s with heap := h', toks := tk } := by
  obtain ⟨f1, f2, f3, f4, f5⟩ := fresh_facts I ha
  have I1 := I.grow (tk := tk) kp
  refine ⟨f5, ⟨I1.ext, I1.base, I1.box, I1.newL, I1.newC, I1.gL, I1.gC, I1.bL, I1.bC, fun b x e => ?_, ?_⟩⟩
  · by_cases q : b = a
    · subst q
      rw [put_self] at e; cases e
      exact ⟨ho, f1, f2, f3.1, f3.2, f4⟩
    · simp only [put, if_neg q] at e
      exact I1.held b x e
  · obtain ⟨m, cm, hn, hc, hv, hw0⟩ := I.vars
    refine ⟨m, cm, hn.keeps kp, hc.keeps kp, hv, ?_⟩
    cases own with
    | none => trivial
    | some p =>
      obtain ⟨h0, z, oa, us, w1, w2, ⟨nz, w3⟩, w4, w5, w6, w7, w8, w9, w10, w11⟩ := hw0
      have hne : oa ≠ a := by rintro rfl; rw [ha] at w3; cases w3
      refine ⟨h0, z, oa, us, w1, w2, ⟨nz, kp _ _ w3⟩, w4, w5, w6, w7, w8, w9, w10, ?_⟩
      simp only [put, if_neg hne]
      exact w11
end
end
section
open PySem PySem.Spec PySem.W PyProof.Rows PyProof.V PySem.SeqAt

section
variable {W : Wd} {β : Option Addr} {s₀ : Shared} {g₀ : FH} {F : Fm} {A : Around} {k : Nat}

theorem Sub.trans {g g1 g2 : FH} (a : Sub g g1) (b : Sub g1 g2) : Sub g g2 := fun x o e => b x o (a x o e)

/-- a loop over what a walk hands out -/
theorem forWalk (hF : Fok F) {I : Addr} {fp : List Addr} {n : Nat} {P : Nat → Value → Prop} {St : Nat → Heap → Prop} {xs : List Int} {b : Ss} {i : Nat} {y : Str} {py : Pos} {body : List Stmt} {hd : FH} {Q : PS} {Ip : Nat → Row → Own → Bx → Prop} {Ex : Value → Shared → Prop} {g : FH}
    (Wk : Walks W.prog W.w A I fp [I] n P St) (hob : ∀ j h, St j h → ∃ o, h.get? I = some o) (hP : ∀ j v, j < n → P j v → ∃ t, v = .int (xs.getD j 0) t) (hn : n = xs.length) (hfp : ∀ b ∈ fp, b = I ∨ ∃ o, g b = some o) (hI : hd I = none)
    (hy : okAt F.sc F.ns i y = true)
    (hb : ∀ {Ex : Value → Shared → Prop} {hd : FH} {Q : PS} {ρ : Row} {own : Own} {σ : Bx} {g : FH} {s : Shared}, Iv W β s₀ g₀ F hd ρ own σ g s → WSs W k b Q ρ own σ → wpAny W.M A (execs body F.env) (PostS W β s₀ g₀ F hd g Q) Ex s)
    (step : ∀ n ρ o σ, Ip n ρ o σ → n < xs.length → noOwn o i ∧ WSs W k b (fun fl ρ' o' σ'' => match fl with | .next => Ip (n + 1) ρ' o' σ'' | .ret x => Q (.ret x) ρ' o' σ'') (ρ.set i (some (.int (xs.getD n 0)))) o σ)
    (fin : ∀ ρ o σ, Ip xs.length ρ o σ → Q .next ρ o σ)
    {ρ : Row} {own : Own} {σ : Bx} {s : Shared} {o : Obj} (I0 : Iv W β s₀ g₀ F (put hd I o) ρ own σ g s) (st : St 0 s.heap) (h0 : Ip 0 ρ own σ) :
    codeAny W.M A (.forLoop (.Name y py) (.ref I) body [] F.env) (fun r s' => match r with | .ok f => PostS W β s₀ g₀ F hd g Q f s' | .error e => cameBackBy W.M A F.env Ex e s') s := by
  refine codeAny_forLoop_any (fun m s' => ∃ j gk ρk ok σk o, j ≤ n ∧ m = n - j ∧ Sub g gk ∧ Iv W β s₀ g₀ F (put hd I o) ρk ok σk gk s' ∧ St j s'.heap ∧ Ip j ρk ok σk) ?_ n ⟨0, g, ρ, own, σ, o, Nat.zero_le _, rfl, fun _ _ e => e, I0, st, h0⟩
  rintro m s1 ⟨j, gk, ρk, ok, σk, o1, hj, rfl, hs, I1, st1, hp⟩
  by_cases hjn : j < n
  · refine Wk.item j s1 _ _ hjn st1 fun v h' tk hv st2 kp => ?_
    obtain ⟨o2, ho2⟩ := hob _ _ st2
    have I2 := (I1.turn (tk := tk) hI fun b x hb e => kp b x (by simp [hb]) e).2 o2 ho2
    obtain ⟨t, rfl⟩ := hP j v hjn hv
    obtain ⟨n1, hw⟩ := step j ρk ok σk hp (hn ▸ hjn)
    refine wpAny_pure (wpAny_assign_Name (I2.store hF (okAt_ hy).1 (okAt_ hy).2 n1 (X := .int _) ⟨t, rfl⟩ fun h3 tk3 I3 => ?_))
    refine wp_m (hb I3 hw) fun fl s4 h4 => ?_
    cases fl with
    | next =>
      obtain ⟨g4, ρ4, ow4, σ4, hs4, I4, q4⟩ := h4
      refine ⟨n - (j + 1), by omega, j + 1, g4, ρ4, ow4, σ4, o2, hjn, rfl, hs.trans hs4, I4, ?_, q4⟩
      refine Wk.frame _ _ _ st2 fun b hb' ob eb => ?_
      rcases hfp b hb' with hbI | ⟨oo, eo⟩
      · subst hbI
        rw [ho2] at eb; cases eb
        exact (I4.held b o2 (put_self ..)).1
      · have q9 : h'.get? b = some oo := I2.gs b oo (hs b oo eo)
        exact (q9.symm.trans eb) ▸ I4.gs b oo (hs4 b oo (hs b oo eo))
    | ret v =>
      obtain ⟨g4, ρ4, ow4, σ4, x, hs4, I4, r4, q4⟩ := h4
      obtain ⟨o4, ho4⟩ : ∃ o, s4.heap.get? I = some o := ⟨o2, (I4.held I o2 (put_self ..)).1⟩
      have I5 := (I4.turn (h' := s4.heap) (tk := s4.toks) hI fun b x hb e => e).1
      exact ⟨g4, ρ4, ow4, σ4, x, hs.trans hs4, I5, r4, q4⟩
    | brk => exact h4.elim
    | cont => exact h4.elim
  · have hj' : j = n := by omega
    subst hj'
    refine Wk.done s1 _ _ st1 fun h' tk kp => ?_
    have I2 := (I1.turn (tk := tk) hI fun b x hb e => kp b x (by simp [hb]) e).1
    exact wpAny_execs_nil ⟨gk, ρk, ok, σk, hs, I2, fin _ _ _ (hn ▸ hp)⟩

theorem rangeSize_neg (a b : Int) : Builtin.Range.rangeSize a b (-1) = if b < a then a - b else 0 := by
  unfold Builtin.Range.rangeSize
  simp only [show ¬ ((-1 : Int) > 0) by decide, if_false, Int.neg_neg, Int.ediv_one]
  split <;> omega

theorem small_neg {a b : Int} (ha : Small a) (hb : Small b) : Builtin.Range.small a b (-1) = true := by
  obtain ⟨h1, h2⟩ := ha
  obtain ⟨h3, h4⟩ := hb
  unfold Builtin.Range.small
  rw [rangeSize_neg]
  simp only [Builtin.Range.rangeFitsLong, Bool.and_eq_true, Bool.or_eq_true, decide_eq_true_eq, beq_iff_eq, show ¬ ((-1 : Int) > 0) by decide, if_false]
  split <;> omega

theorem for_sound (hF : Fok F) (hA : Ok k A) {i : Nat} {e : E} {b : Ss} {x : Stmt} {Q : PS}
    (Hb : ∀ {body : List Stmt} {Ex : Value → Shared → Prop} {hd : FH} {Q : PS} {ρ : Row} {own : Own} {σ : Bx} {g : FH} {s : Shared}, okSs F.sc F.ns b body = true → Iv W β s₀ g₀ F hd ρ own σ g s → WSs W k b Q ρ own σ → wpAny W.M A (execs body F.env) (PostS W β s₀ g₀ F hd g Q) Ex s)
    {Ex : Value → Shared → Prop} {hd : FH} {ρ : Row} {own : Own} {σ : Bx} {g : FH} {s : Shared}
    (h : okS F.sc F.ns (.for_ i e b) x = true) (I : Iv W β s₀ g₀ F hd ρ own σ g s) (hw : WS W k (.for_ i e b) Q ρ own σ) :
    wpAny W.M A (exec x F.env) (PostS W β s₀ g₀ F hd g Q) Ex s := by
  obtain ⟨_, it0, d0, pos0, rfl, j1⟩ := onFor_ h
  clear h
  obtain ⟨y0, py0, rfl, j2⟩ := onName_ j1
  clear j1
  obtain ⟨h1, j3⟩ := and_ j2
  clear j2
  obtain ⟨h2, h3⟩ := and_ j3
  clear j3
  refine wpAny_For (wpE (WE_sound hF hA e h2 I hw) fun v s1 g1 X σ1 e1 b1 hx q0 => ?_) (notSet h2 _)
  obtain ⟨xs, q1, q2, Ip, i0, stp, fin⟩ := q0
  have I1 := I.step e1 b1
  cases X <;> first | (simp [its] at q1; done) | skip
  · -- a list
    rename_i ys
    simp only [its, Option.some.injEq] at q1
    subst q1
    obtain ⟨l, rfl, o, vs, nn, z1, z2, z3, z4, z5⟩ := hx
    have hl : s1.heap.IsList l vs.toArray := ⟨o, I1.gs _ _ z1, z2, nn, z3⟩
    have hlt : l ≠ s1.heap.objs.size := Nat.ne_of_lt (Heap.lt_size (I1.gs _ _ z1))
    refine wpAny_pyIter_list hl ?_
    obtain ⟨hn0, I2⟩ := I1.hold (tk := s1.toks) (o := { cls := .type "list_iterator", data := .fields #[.ref l, .int 0 0] }) (size_none s1.heap) (fun _ _ e => Heap.get?_push_of_some _ e) (Heap.get?_push_size _ rfl)
    refine codeAny_mono (forWalk (Ex := Ex) hF (Walks.list hA.hh s1.heap.objs.size l hlt vs.toArray) (fun j h st => ?_) (fun j v hj hv => ?_) (by simp [z4.length]) (fun b hb => ?_) hn0 h1 (fun I w => Hb h3 I w) stp fin I2 ?_ i0) fun r s' hr => ?_
    · obtain ⟨⟨o, ho, _⟩, _⟩ := st
      exact ⟨o, ho⟩
    · have hv' : vs[j]? = some v := by simpa using hv
      exact IntsAre.int_at z4 j v hv'
    · simp only [List.mem_cons, List.not_mem_nil, or_false] at hb
      rcases hb with rfl | rfl
      · exact .inl rfl
      · exact .inr ⟨o, z1⟩
    · exact ⟨⟨_, Heap.get?_push_size _ rfl, rfl, rfl⟩, hl.push _⟩
    · cases r with
      | ok f => exact PostS.pre e1.gg hr
      | error e => exact hr
  · -- a range
    rename_i a c d
    obtain ⟨r, t, u, z, rfl, z1⟩ := hx
    obtain ⟨qa, qc⟩ := q2
    have hlt : r ≠ s1.heap.objs.size := Nat.ne_of_lt (Heap.lt_size (I1.gs _ _ z1))
    have gen : ∀ (d' : Int) (nn : Nat), d = d' → Builtin.Range.small a c d' = true → Builtin.Range.rangeSize a c d' = nn → xs.length = nn → (∀ j, j < nn → xs.getD j 0 = a + j * d') →
        wpAny W.M A (pyIter (.ref r)) (fun it s₂ => codeAny W.M A (.forLoop (.Name y0 py0) it d0 [] F.env) (fun r s' => match r with | .ok f => PostS W β s₀ g₀ F hd g Q f s' | .error e => cameBackBy W.M A F.env Ex e s') s₂) Ex s1 := by
      rintro d' nn rfl hsm hsz hlen hat
      refine wpAny_pyIter_range (I1.gs _ _ z1) hsm ?_
      obtain ⟨hn0, I2⟩ := I1.hold (tk := s1.toks) (o := { cls := .type "range_iterator", data := .fields #[rawInt a, rawInt (Builtin.Range.rangeSize a c d), rawInt d] }) (size_none s1.heap) (fun _ _ e => Heap.get?_push_of_some _ e) (Heap.get?_push_size _ rfl)
      refine codeAny_mono (forWalk (Ex := Ex) hF (Walks.range hA.hh s1.heap.objs.size a d nn) (fun j h st => ⟨_, st⟩) (fun j v hj hv => ?_) hlen.symm (fun b hb => ?_) hn0 h1 (fun I w => Hb h3 I w) stp fin I2 ?_ i0) fun r s' hr => ?_
      · obtain ⟨t, rfl⟩ := hv
        exact ⟨t, by rw [hat j hj]⟩
      · simp only [List.mem_cons, List.not_mem_nil, or_false] at hb
        exact .inl hb
      · have e0 : a + ((0 : Nat) : Int) * d = a := by simp
        have e2 : (nn : Int) - ((0 : Nat) : Int) = Builtin.Range.rangeSize a c d := by rw [hsz]; simp
        rw [e0, e2]
        exact Heap.get?_push_size _ rfl
      · cases r with
        | ok f => exact PostS.pre e1.gg hr
        | error e => exact hr
    simp only [its] at q1
    by_cases d1 : d = 1
    · subst d1
      simp only [if_true, Option.some.injEq] at q1
      subst q1
      refine gen 1 (c - a).toNat rfl (small_one qa.1 qa.2 qc.1 qc.2) (by rw [rangeSize_one]; split <;> omega) (by simp) fun j hj => ?_
      simp [List.getD_eq_getElem?_getD, hj]
    · rw [if_neg d1] at q1
      by_cases d2 : d = -1
      · subst d2
        simp only [if_true, Option.some.injEq] at q1
        subst q1
        refine gen (-1) (a - c).toNat rfl (small_neg qa qc) (by rw [rangeSize_neg]; split <;> omega) (by simp) fun j hj => ?_
        simp [List.getD_eq_getElem?_getD, hj]
        omega
      · rw [if_neg d2] at q1; cases q1

theorem whl_sound (hF : Fok F) (hA : Ok k A) {c : E} {b : Ss} {x : Stmt} {Q : PS}
    (Hb : ∀ {body : List Stmt} {Ex : Value → Shared → Prop} {hd : FH} {Q : PS} {ρ : Row} {own : Own} {σ : Bx} {g : FH} {s : Shared}, okSs F.sc F.ns b body = true → Iv W β s₀ g₀ F hd ρ own σ g s → WSs W k b Q ρ own σ → wpAny W.M A (execs body F.env) (PostS W β s₀ g₀ F hd g Q) Ex s)
    {Ex : Value → Shared → Prop} {hd : FH} {ρ : Row} {own : Own} {σ : Bx} {g : FH} {s : Shared}
    (h : okS F.sc F.ns (.whl c b) x = true) (I : Iv W β s₀ g₀ F hd ρ own σ g s) (hw : WS W k (.whl c b) Q ρ own σ) :
    wpAny W.M A (exec x F.env) (PostS W β s₀ g₀ F hd g Q) Ex s := by
  obtain ⟨_, _, _, rfl, j1⟩ := onWhile_ h
  clear h
  obtain ⟨h1, h2⟩ := and_ j1
  clear j1
  obtain ⟨Ip, ⟨n, h0⟩, stp⟩ := hw
  refine wpAny_While (codeAny_whileLoop (fun m s' => ∃ gk ρk ok σk, Sub g gk ∧ Iv W β s₀ g₀ F hd ρk ok σk gk s' ∧ Ip m ρk ok σk) ?_ n ⟨g, ρ, own, σ, fun _ _ e => e, I, h0⟩)
  rintro m s1 ⟨gk, ρk, ok, σk, hs, I1, hp⟩
  refine wpT (WT_sound hF hA c h1 I1 (stp _ _ _ _ hp)) fun t s2 g2 σ2 e2 b2 q => ?_
  have I2 := I1.step e2 b2
  cases t with
  | false => exact wpAny_execs_nil ⟨g2, _, _, _, hs.trans e2.gg, I2, q⟩
  | true =>
    refine wp_m (Hb h2 I2 q) fun fl s3 h3 => ?_
    cases fl with
    | next =>
      obtain ⟨g3, ρ3, ow3, σ3, hs3, I3, m', hm, q3⟩ := h3
      exact ⟨m', hm, g3, ρ3, ow3, σ3, (hs.trans e2.gg).trans hs3, I3, q3⟩
    | ret v =>
      exact PostS.pre (hs.trans e2.gg) h3
    | brk => exact h3.elim
    | cont => exact h3.elim

end

section
variable {W : Wd} {β : Option Addr} {s₀ : Shared} {g₀ : FH} {F : Fm} {A : Around} {k : Nat}
mutual
theorem WS_sound (hF : Fok F) (hA : Ok k A) : ∀ (c : S) {x : Stmt} {Ex : Value → Shared → Prop} {hd : FH} {Q : PS} {ρ : Row} {own : Own} {σ : Bx} {g : FH} {s : Shared}, okS F.sc F.ns c x = true → Iv W β s₀ g₀ F hd ρ own σ g s → WS W k c Q ρ own σ →
    wpAny W.M A (exec x F.env) (PostS W β s₀ g₀ F hd g Q) Ex s
  | .set .., _, _, _, _, _, _, _, _, _, h, I, hw => set_sound hF hA h I hw
  | .own .., _, _, _, _, _, _, _, _, _, h, I, hw => own_sound hF h I hw
  | .swap .., _, _, _, _, _, _, _, _, _, h, I, hw => swap_sound hF hA h I hw
  | .swapOwn .., _, _, _, _, _, _, _, _, _, h, I, hw => swapOwn_sound hF hA h I hw
  | .swapRep .., _, _, _, _, _, _, _, _, _, h, I, hw => swapRep_sound hF hA h I hw
  | .two .., _, _, _, _, _, _, _, _, _, h, I, hw => two_sound hF hA h I hw
  | .aug .., _, _, _, _, _, _, _, _, _, h, I, hw => aug_sound hF hA h I hw
  | .app .., _, _, _, _, _, _, _, _, _, h, I, hw => app_sound hF hA h I hw
  | .box .., _, _, _, _, _, _, _, _, _, h, I, hw => box_sound hF hA h I hw
  | .ite c t f, x, Ex, hd, Q, ρ, own, σ, g, s, h, I, hw => by
    obtain ⟨_, _, _, _, rfl, j1⟩ := onIfS_ h
    clear h
    obtain ⟨h1, j2⟩ := and_ j1
    clear j1
    obtain ⟨h2, h3⟩ := and_ j2
    clear j2
    refine wpAny_If (wpT (WT_sound hF hA c h1 I hw) fun b s1 g1 σ1 e1 b1 q => ?_)
    have I1 := I.step e1 b1
    cases b with
    | true => exact wp_m (WSs_sound hF hA t h2 I1 q) fun _ _ h => PostS.pre e1.gg h
    | false => exact wp_m (WSs_sound hF hA f h3 I1 q) fun _ _ h => PostS.pre e1.gg h
  | .whl c b, _, _, _, _, _, _, _, _, _, h, I, hw => whl_sound hF hA (fun h I w => WSs_sound hF hA b h I w) h I hw
  | .for_ i e b, _, _, _, _, _, _, _, _, _, h, I, hw => for_sound hF hA (fun h I w => WSs_sound hF hA b h I w) h I hw
  | .ret .., _, _, _, _, _, _, _, _, _, h, I, hw => ret_sound hF hA h I hw
  | .no, _, _, _, _, _, _, _, _, _, h, I, hw => False.elim hw
theorem WSs_sound (hF : Fok F) (hA : Ok k A) : ∀ (b : Ss) {body : List Stmt} {Ex : Value → Shared → Prop} {hd : FH} {Q : PS} {ρ : Row} {own : Own} {σ : Bx} {g : FH} {s : Shared}, okSs F.sc F.ns b body = true → Iv W β s₀ g₀ F hd ρ own σ g s → WSs W k b Q ρ own σ →
    wpAny W.M A (execs body F.env) (PostS W β s₀ g₀ F hd g Q) Ex s
  | .nil, body, Ex, hd, Q, ρ, own, σ, g, s, h, I, hw => by
    obtain rfl := List.isEmpty_iff.mp h
    exact wpAny_execs_nil ⟨g, _, _, _, fun _ _ e => e, I, hw⟩
  | .cons c r, body, Ex, hd, Q, ρ, own, σ, g, s, h, I, hw => by
    obtain ⟨_, _, rfl, j1⟩ := onCons_ h
    clear h
    obtain ⟨h1, h2⟩ := and_ j1
    clear j1
    refine wpAny_execs_cons (wp_m (WS_sound hF hA c h1 I hw) fun fl s1 q0 => ?_)
    cases fl with
    | next =>
      obtain ⟨g1, ρ1, ow1, σ1, hs1, I1, q1⟩ := q0
      exact wp_m (WSs_sound hF hA r h2 I1 q1) fun _ _ h => PostS.pre hs1 h
    | ret v => exact q0
    | brk => exact q0.elim
    | cont => exact q0.elim
end
end
end
section
open PySem PySem.Spec PySem.W PyProof.Rows PyProof.V PySem.SeqAt

theorem lookup_zip {y : Str} {v : Value} : ∀ {ps : List Str} {args : List Value}, ps.Nodup → (y, v) ∈ ps.zip args → (ps.zip args).lookup y = some v
  | [], _, _, h => by simp at h
  | _ :: _, [], _, h => by simp at h
  | p :: ps, a :: args, hn, h => by
    simp only [List.zip_cons_cons, List.mem_cons, Prod.mk.injEq] at h
    rw [List.zip_cons_cons, List.lookup_cons]
    rcases h with ⟨rfl, rfl⟩ | h
    · simp
    · have hm := (List.of_mem_zip h).1
      have : (y == p) = false := beq_eq_false_iff_ne.mpr (by rintro rfl; exact (List.nodup_cons.mp hn).1 hm)
      rw [this]
      exact lookup_zip (List.nodup_cons.mp hn).2 h

theorem binds_zip : ∀ {ps : List Str} {args : List Value}, ps.Nodup → ps.length = args.length → ∀ {L : List (Str × Value)}, (∀ y v, (y, v) ∈ ps.zip args → L.lookup y = some v) →
    (ps.filterMap fun n => (L.lookup n).map (n, ·)) = ps.zip args ∧ (ps.filter fun n => (L.lookup n).isNone) = []
  | [], [], _, _, _, _ => by simp
  | [], _ :: _, _, h, _, _ => by simp at h
  | _ :: _, [], _, h, _, _ => by simp at h
  | p :: ps, a :: args, hn, hl, L, hL => by
    have h1 := hL p a (by simp)
    obtain ⟨i1, i2⟩ := binds_zip (List.nodup_cons.mp hn).2 (by simpa using hl) (L := L) fun y v h => hL y v (by simp [h])
    simp [h1, i1, i2]

theorem bindArgs_plain {name : Str} {ps : List Arg} {body : List Stmt} {scope : Scope} {pm cd doc : Value} {args : List Value} (hn : (ps.map (·.arg)).Nodup) (hl : (ps.map (·.arg)).length = args.length) :
    bindArgs (Calls.docDef name ⟨[], ps, none, [], [], none, []⟩ body scope pm cd doc) ⟨args, []⟩ = pure ((ps.map (·.arg)).zip args) := by
  obtain ⟨h1, h2⟩ := binds_zip hn hl (L := (ps.map (·.arg)).zip args) fun y v h => lookup_zip hn h
  refine Eq.trans (b := @ite _ ((decide (args.length > (ps.map (·.arg)).length) && true) = true) _ _ _) rfl ?_
  rw [if_neg (by rw [hl]; simp)]
  have hd : ∀ n, List.drop n (((none : Option (Array Value)).getD #[]).toList) = [] := fun n => List.drop_nil
  simp only [hd]
  refine (if_neg (fun q => ?_)).trans ?_
  · refine Bool.false_ne_true (Eq.trans ?_ q)
    refine Eq.trans (b := !(((ps.map (·.arg)).take ((ps.map (·.arg)).length)).filter fun n => (((ps.map (·.arg)).zip args).lookup n).isNone).isEmpty) ?_ rfl
    rw [List.take_length, h2]
    rfl
  · simp only [List.zip_nil_right]
    refine Eq.trans (b := pure ((List.map (fun (x : Arg) => x.arg) ps ++ []).filterMap fun n => (((List.map (fun (x : Arg) => x.arg) ps).zip args).lookup n).map (n, ·))) rfl ?_
    rw [List.append_nil, h1]

theorem bindL_not {k : Str → Option NameKind} {y : Str} : ∀ {binds : List (Str × Value)} {m : Str → Option Value}, (∀ v, (y, v) ∉ binds) → bindL k binds m y = m y
  | [], _, _ => rfl
  | (n, v) :: r, m, h => by
    have hy : y ≠ n := by rintro rfl; exact h v (.head _)
    unfold bindL
    rw [bindL_not fun v hv => h v (.tail _ hv)]
    split <;> simp [hy]
theorem bindC_not {k : Str → Option NameKind} {y : Str} : ∀ {binds : List (Str × Value)} {m : Str → Option Value}, (∀ v, (y, v) ∉ binds) → bindC k binds m y = m y
  | [], _, _ => rfl
  | (n, v) :: r, m, h => by
    have hy : y ≠ n := by rintro rfl; exact h v (.head _)
    unfold bindC
    rw [bindC_not fun v hv => h v (.tail _ hv)]
    split <;> simp [hy]
theorem not_zip {y : Str} {ps : List Str} {args : List Value} (h : y ∉ ps) : ∀ v, (y, v) ∉ ps.zip args := fun _ q => h (List.of_mem_zip q).1
theorem bindL_zip {k : Str → Option NameKind} {y : Str} {v : Value} (hk : k y = some .local) : ∀ {ps : List Str} {args : List Value} {m : Str → Option Value}, ps.Nodup → (y, v) ∈ ps.zip args → bindL k (ps.zip args) m y = some v
  | [], _, _, _, h => by simp at h
  | _ :: _, [], _, _, h => by simp at h
  | p :: ps, a :: args, m, hn, h => by
    simp only [List.zip_cons_cons, List.mem_cons, Prod.mk.injEq] at h
    rw [List.zip_cons_cons]
    unfold bindL
    rcases h with ⟨rfl, rfl⟩ | h
    · rw [bindL_not (not_zip (List.nodup_cons.mp hn).1), if_pos hk]; simp
    · exact bindL_zip hk (List.nodup_cons.mp hn).2 h
theorem bindC_zip {k : Str → Option NameKind} {y : Str} {v : Value} (hk : k y = some .cell) : ∀ {ps : List Str} {args : List Value} {m : Str → Option Value}, ps.Nodup → (y, v) ∈ ps.zip args → bindC k (ps.zip args) m y = some v
  | [], _, _, _, h => by simp at h
  | _ :: _, [], _, _, h => by simp at h
  | p :: ps, a :: args, m, hn, h => by
    simp only [List.zip_cons_cons, List.mem_cons, Prod.mk.injEq] at h
    rw [List.zip_cons_cons]
    unfold bindC
    rcases h with ⟨rfl, rfl⟩ | h
    · rw [bindC_not (not_zip (List.nodup_cons.mp hn).1), if_neg (by rw [hk]; decide)]; simp
    · exact bindC_zip hk (List.nodup_cons.mp hn).2 h

/-- the words of a def without frills -/
theorem plainP {p : Arguments} (h : (p.posonlyargs.isEmpty && p.vararg.isNone && p.kwonlyargs.isEmpty && p.kw_defaults.isEmpty && p.kwarg.isNone && p.defaults.isEmpty) = true) : p = ⟨[], p.args, none, [], [], none, []⟩ := by
  obtain ⟨po, pa, pv, pk, pkd, pkw, pd⟩ := p
  obtain ⟨h1, e1⟩ := and_ h
  obtain ⟨h2, e2⟩ := and_ h1
  obtain ⟨h3, e3⟩ := and_ h2
  obtain ⟨h4, e4⟩ := and_ h3
  obtain ⟨e6, e5⟩ := and_ h4
  clear h h1 h2 h3 h4
  obtain rfl : po = [] := List.isEmpty_iff.mp e6
  obtain rfl : pv = none := Option.isNone_iff_eq_none.mp e5
  obtain rfl : pk = [] := List.isEmpty_iff.mp e4
  obtain rfl : pkd = [] := List.isEmpty_iff.mp e3
  obtain rfl : pkw = none := Option.isNone_iff_eq_none.mp e2
  obtain rfl : pd = [] := List.isEmpty_iff.mp e1
  rfl
/-- what is looked up of a def -/
noncomputable def chkD (d : DefRec) (ps ns : List Str) (b : Ss) : Bool :=
  d.params.posonlyargs.isEmpty && d.params.vararg.isNone && d.params.kwonlyargs.isEmpty && d.params.kw_defaults.isEmpty && d.params.kwarg.isNone && d.params.defaults.isEmpty && d.params.args.map (·.arg) == ps &&
  d.scope.kind == .function && !d.scope.isCoroutine && !d.scope.isGenerator && decide ns.Nodup && ns.take ps.length == ps && ps.all (okVar d.scope) && okSs d.scope ns b d.body
noncomputable def chk (x : Str) (ps ns : List Str) (b : Ss) : Bool :=
  match (recsOf PySem.Challenge.pw_nn0028_01).find? (·.name == x) with
  | some d => chkD d ps ns b
  | none => false

theorem rows_start {W : Wd} {g : FH} {β : Option Addr} : ∀ {args : List Value} {vs : List V}, Reps W g β args vs → ∀ (i : Nat) (X : V), vs[i]? = some X → ∃ v, args[i]? = some v ∧ Rep W g β v X
  | [], [], _, i, X, e => by simp at e
  | a :: as, x :: xs, h, 0, X, e => by
    simp only [List.getElem?_cons_zero, Option.some.injEq] at e
    subst e; exact ⟨a, rfl, h.1⟩
  | a :: as, x :: xs, h, i + 1, X, e => by
    simp only [List.getElem?_cons_succ] at e ⊢
    exact rows_start h.2 i X e
  | [], _ :: _, h, _, _, _ => h.elim
  | _ :: _, [], h, _, _, _ => h.elim

noncomputable def row₀ (ns : List Str) (vs : List V) : Row := vs.map some ++ List.replicate (ns.length - vs.length) none

theorem meets {W : Wd} {k : Nat} {x : Str} {ps ns : List Str} {b : Ss} {vs : List V} {Q : V → Bx → Prop} {σ : Bx} (hc : chk x ps ns b = true) (hl : vs.length = ps.length)
    (hw : WSs W k b (fun fl _ _ σ' => match fl with | .ret v => Q v σ' | .next => False) (row₀ ns vs) none σ) : Meets W (k + 1) x vs Q σ := by
  unfold chk at hc
  split at hc
  · rename_i d hfd
    have hmem := List.mem_of_find?_eq_some hfd
    have hnm : d.name = x := by have := List.find?_some hfd; simpa using this
    subst hnm
    obtain ⟨c1, hok⟩ := and_ hc
    obtain ⟨c2, hps⟩ := and_ c1
    obtain ⟨c3, htk⟩ := and_ c2
    obtain ⟨c4, hnd⟩ := and_ c3
    obtain ⟨c5, hge⟩ := and_ c4
    obtain ⟨c6, hco⟩ := and_ c5
    obtain ⟨c7, hk⟩ := and_ c6
    obtain ⟨c8, hpa⟩ := and_ c7
    clear hc c1 c2 c3 c4 c5 c6 c7
    have hpar := plainP c8
    clear c8
    obtain rfl := eq_of_beq hpa
    clear hpa
    replace htk := eq_of_beq htk
    replace hnd := of_decide_eq_true hnd
    replace hge := (Bool.not_eq_true' _).mp hge
    replace hco := (Bool.not_eq_true' _).mp hco
    replace hk := eq_of_beq hk
    intro A E s g β fa args hf hb hg hh hd hu hx hr
    obtain ⟨a, o, pm, code, doc, h1, h2, h3, h4⟩ := W.fn _ hmem
    rw [hf] at h1; cases h1
    rw [hpar] at h3
    have hH : ∀ b o, W.H.get? b = some o → s.heap.get? b = some o := fun b o e => hg b o (hb b o e)
    have hpn : (d.params.args.map (·.arg)).Nodup := by
      rw [← htk]
      exact hnd.sublist (List.take_sublist ..)
    have hal : args.length = vs.length := Reps.length hr
    have hpl : (d.params.args.map (·.arg)).length = args.length := by rw [hal, hl]
    have hkind : ∀ y ∈ (d.params.args.map (·.arg)).zip args, d.scope.names.lookup y.1 = some .local ∨ (d.scope.names.lookup y.1 = some .cell ∧ ((cellsFrom (s.heap.objs.size + 1) d.scope.names []).lookup y.1).isSome = true) := fun y hy => by
      have := List.all_eq_true.mp hps y.1 (List.of_mem_zip hy).1
      rcases (okVar_ this).1 with q | q
      · exact .inl q
      · exact .inr ⟨q, cellsFrom_some _ _ _ (.inr q)⟩
    have nlim : s.heap.NoLimit := W.nolimit.keeps hH
    refine wpAny_call (call_cells_ret (by omega) (hH _ _ h2) h3 nlim (h4.keeps hH) (bindArgs_plain hpn hpl) hkind (fun h₁ tk fr cl => ?_) hco hge hk)
    let F : Fm := ⟨d.name, d.scope, s.heap.objs.size, fa, code, ns⟩
    have hA : Ok k (A.deeper (envOfC d.name d.scope s.heap.objs.size fa code)) := ⟨hh, by show A.depth + 1 + k ≤ _; omega, by show A.units + 3 + 8 * k + 100 ≤ _; omega⟩
    have hs0 : ∀ c, s.heap.objs.size ≤ c → s.heap.get? c = none := fun c hc => by
      cases q : s.heap.get? c with
      | none => rfl
      | some o => exact absurd (Heap.lt_size q) (Nat.not_lt.mpr hc)
    have hg0 : ∀ c, s.heap.objs.size ≤ c → g c = none := fun c hc => by
      cases q : g c with
      | none => rfl
      | some o => have := hg c o q; rw [hs0 c hc] at this; cases this
    have hcl : ∀ y c, F.cells.lookup y = some c → s.heap.objs.size ≤ c := fun y c e => Nat.le_of_lt (cl.above y c (mem_of_lookup e))
    have I : Iv W β s g F (fun _ => none) (row₀ ns vs) none σ g { s with heap := h₁, toks := tk } := by
      refine ⟨.same hg fr.keep, hb, hx.keep fr.keep fun b e => (hx b e).1, hs0 _ (Nat.le_refl _), fun y c e => hs0 c (hcl y c e), hg0 _ (Nat.le_refl _), fun y c e => hg0 c (hcl y c e), hx.ne (hs0 _ (Nat.le_refl _)), fun y c e => hx.ne (hs0 c (hcl y c e)),
        (fun a o e => nomatch e), _, _, fr.ns, cl, fun i y X hy hX => ?_, trivial⟩
      have hX' : vs[i]? = some X := by
        unfold row₀ at hX
        rw [List.getElem?_append] at hX
        split at hX
        · rw [List.getElem?_map] at hX
          cases q : vs[i]? with
          | none => rw [q] at hX; cases hX
          | some z => rw [q] at hX; simpa using hX
        · rw [List.getElem?_replicate] at hX
          split at hX <;> cases hX
      obtain ⟨v, hv, hrep⟩ := rows_start hr i X hX'
      have hil : i < (d.params.args.map (·.arg)).length := by rw [hpl]; exact (List.getElem?_eq_some_iff.mp hv).1
      have hyp : (d.params.args.map (·.arg))[i]? = some y := by
        rw [← htk, List.getElem?_take, if_pos hil]; exact hy
      have hz : (y, v) ∈ (d.params.args.map (·.arg)).zip args := by
        refine List.mem_of_getElem? (i := i) ?_
        rw [List.getElem?_zip_eq_some]
        exact ⟨hyp, hv⟩
      refine ⟨v, ?_, hrep⟩
      have hoy := List.all_eq_true.mp hps y (List.mem_of_getElem? hyp)
      rcases (okVar_ hoy).1 with q | q
      · rw [slot_local q]; exact bindL_zip q hpn hz
      · rw [slot_cell q]; exact bindC_zip q hpn hz
    have hF : Fok F := ⟨hk, hnd⟩
    refine wp_m (WSs_sound hF hA b hok I hw) fun fl s' h => ?_
    cases fl with
    | next => obtain ⟨_, _, _, _, _, _, q⟩ := h; exact q.elim
    | ret v =>
      obtain ⟨g', ρ', ow', σ', X, _, I', r', q'⟩ := h
      exact ⟨g', X, σ', I'.ext, I'.box, r', q'⟩
    | brk => exact h.elim
    | cont => exact h.elim
  · cases hc
end
section
open PySem PySem.W PyProof.Rows

/-- normal(a): 0=a 1=end -/
noncomputable def b_normal : Ss := .cons (.set 1 (.bi .len (.cons (.var 0) (.nil)))) (.cons (.whl (.bo .And (.cons (.cmp .Gt (.var 1) (.int 0)) (.cons (.cmp .Eq (.sub (.var 0) (.bin .Sub (.var 1) (.int 1))) (.int 0)) (.nil)))) (.cons (.aug 1 .Sub (.int 1)) (.nil))) (.cons (.ret (.upto (.var 0) (.var 1))) (.nil)))
theorem c_normal : chk "normal" ["a"] ["a", "end"] b_normal = true := by decide +kernel

/-- compare(a, b): 0=a 1=b 2=at -/
noncomputable def b_compare : Ss := .cons (.ite (.cmp .NotEq (.bi .len (.cons (.var 0) (.nil))) (.bi .len (.cons (.var 1) (.nil)))) (.cons (.ret (.ite (.cmp .Lt (.bi .len (.cons (.var 0) (.nil))) (.bi .len (.cons (.var 1) (.nil)))) (.neg 1) (.int 1))) (.nil)) (.nil)) (.cons (.for_ 2 (.bi .range (.cons (.bin .Sub (.bi .len (.cons (.var 0) (.nil))) (.int 1)) (.cons (.neg 1) (.cons (.neg 1) (.nil))))) (.cons (.ite (.cmp .NotEq (.sub (.var 0) (.var 2)) (.sub (.var 1) (.var 2))) (.cons (.ret (.ite (.cmp .Lt (.sub (.var 0) (.var 2)) (.sub (.var 1) (.var 2))) (.neg 1) (.int 1))) (.nil)) (.nil)) (.nil))) (.cons (.ret (.int 0)) (.nil)))
theorem c_compare : chk "compare" ["a", "b"] ["a", "b", "at"] b_compare = true := by decide +kernel

/-- add(a, b, w): 0=a 1=b 2=w 3=found 4=carry 5=mask 6=at -/
noncomputable def b_add : Ss := .cons (.ite (.cmp .Lt (.bi .len (.cons (.var 0) (.nil))) (.bi .len (.cons (.var 1) (.nil)))) (.cons (.swap [0, 1] (.cons (.var 1) (.cons (.var 0) (.nil)))) (.nil)) (.nil)) (.cons (.swapOwn 3 [4, 5] (.cons (.int 0) (.cons (.bin .Sub (.bin .LShift (.int 1) (.var 2)) (.int 1)) (.nil)))) (.cons (.for_ 6 (.bi .range (.cons (.bi .len (.cons (.var 1) (.nil))) (.nil))) (.cons (.aug 4 .Add (.bin .Add (.sub (.var 0) (.var 6)) (.sub (.var 1) (.var 6)))) (.cons (.app 3 (.bin .BitAnd (.var 4) (.var 5))) (.cons (.aug 4 .RShift (.var 2)) (.nil))))) (.cons (.for_ 6 (.bi .range (.cons (.bi .len (.cons (.var 1) (.nil))) (.cons (.bi .len (.cons (.var 0) (.nil))) (.nil)))) (.cons (.aug 4 .Add (.sub (.var 0) (.var 6))) (.cons (.app 3 (.bin .BitAnd (.var 4) (.var 5))) (.cons (.aug 4 .RShift (.var 2)) (.nil))))) (.cons (.ite (.cmp .Gt (.var 4) (.int 0)) (.cons (.app 3 (.var 4)) (.nil)) (.nil)) (.cons (.ret (.var 3)) (.nil))))))
theorem c_add : chk "add" ["a", "b", "w"] ["a", "b", "w", "found", "carry", "mask", "at"] b_add = true := by decide +kernel

/-- sub(a, b, w): 0=a 1=b 2=w 3=found 4=borrow 5=base 6=at 7=limb -/
noncomputable def b_sub : Ss := .cons (.ite (.cmp .Lt (.call (.fn "compare") (.cons (.var 0) (.cons (.var 1) (.nil)))) (.int 0)) (.cons (.no) (.nil)) (.nil)) (.cons (.swapOwn 3 [4, 5] (.cons (.int 0) (.cons (.bin .LShift (.int 1) (.var 2)) (.nil)))) (.cons (.for_ 6 (.bi .range (.cons (.bi .len (.cons (.var 0) (.nil))) (.nil))) (.cons (.set 7 (.bin .Sub (.bin .Sub (.sub (.var 0) (.var 6)) (.var 4)) (.ite (.cmp .Lt (.var 6) (.bi .len (.cons (.var 1) (.nil)))) (.sub (.var 1) (.var 6)) (.int 0)))) (.cons (.set 4 (.ite (.cmp .Lt (.var 7) (.int 0)) (.int 1) (.int 0))) (.cons (.app 3 (.ite (.cmp .Lt (.var 7) (.int 0)) (.bin .Add (.var 7) (.var 5)) (.var 7))) (.nil))))) (.cons (.ret (.call (.fn "normal") (.cons (.var 3) (.nil)))) (.nil))))
theorem c_sub : chk "sub" ["a", "b", "w"] ["a", "b", "w", "found", "borrow", "base", "at", "limb"] b_sub = true := by decide +kernel

/-- lifted(a, spot): 0=a 1=spot -/
noncomputable def b_lifted : Ss := .cons (.ret (.ite (.cmp .Gt (.bi .len (.cons (.var 0) (.nil))) (.int 0)) (.bin .Add (.bin .Mult (.list (.cons (.int 0) (.nil))) (.var 1)) (.var 0)) (.list (.nil)))) (.nil)
theorem c_lifted : chk "lifted" ["a", "spot"] ["a", "spot"] b_lifted = true := by decide +kernel

/-- shift_left(a, n, w): 0=a 1=n 2=w 3=spots 4=few 5=found 6=carry 7=mask 8=one -/
noncomputable def b_shift_left : Ss := .cons (.ite (.cmp .Eq (.bi .len (.cons (.var 0) (.nil))) (.int 0)) (.cons (.ret (.list (.nil))) (.nil)) (.nil)) (.cons (.swap [3, 4] (.cons (.bin .FloorDiv (.var 1) (.var 2)) (.cons (.bin .Mod (.var 1) (.var 2)) (.nil)))) (.cons (.swapRep 5 (.var 3) [6, 7] (.cons (.int 0) (.cons (.bin .Sub (.bin .LShift (.int 1) (.var 2)) (.int 1)) (.nil)))) (.cons (.for_ 8 (.var 0) (.cons (.aug 6 .BitOr (.bin .LShift (.var 8) (.var 4))) (.cons (.app 5 (.bin .BitAnd (.var 6) (.var 7))) (.cons (.aug 6 .RShift (.var 2)) (.nil))))) (.cons (.ite (.cmp .Gt (.var 6) (.int 0)) (.cons (.app 5 (.var 6)) (.nil)) (.nil)) (.cons (.ret (.var 5)) (.nil))))))
theorem c_shift_left : chk "shift_left" ["a", "n", "w"] ["a", "n", "w", "spots", "few", "found", "carry", "mask", "one"] b_shift_left = true := by decide +kernel

/-- shift_right(a, n, w): 0=a 1=n 2=w 3=spots 4=few 5=found 6=mask 7=at 8=above -/
noncomputable def b_shift_right : Ss := .cons (.swap [3, 4] (.cons (.bin .FloorDiv (.var 1) (.var 2)) (.cons (.bin .Mod (.var 1) (.var 2)) (.nil)))) (.cons (.swapOwn 5 [6] (.cons (.bin .Sub (.bin .LShift (.int 1) (.var 2)) (.int 1)) (.nil))) (.cons (.for_ 7 (.bi .range (.cons (.var 3) (.cons (.bi .len (.cons (.var 0) (.nil))) (.nil)))) (.cons (.set 8 (.ite (.cmp .Lt (.bin .Add (.var 7) (.int 1)) (.bi .len (.cons (.var 0) (.nil)))) (.sub (.var 0) (.bin .Add (.var 7) (.int 1))) (.int 0))) (.cons (.app 5 (.bin .BitAnd (.bin .BitOr (.bin .RShift (.sub (.var 0) (.var 7)) (.var 4)) (.bin .LShift (.var 8) (.bin .Sub (.var 2) (.var 4)))) (.var 6))) (.nil)))) (.cons (.ret (.call (.fn "normal") (.cons (.var 5) (.nil)))) (.nil))))
theorem c_shift_right : chk "shift_right" ["a", "n", "w"] ["a", "n", "w", "spots", "few", "found", "mask", "at", "above"] b_shift_right = true := by decide +kernel

/-- bits(a, w): 0=a 1=w -/
noncomputable def b_bits : Ss := .cons (.ret (.ite (.cmp .Gt (.bi .len (.cons (.var 0) (.nil))) (.int 0)) (.bin .Add (.bin .Mult (.bin .Sub (.bi .len (.cons (.var 0) (.nil))) (.int 1)) (.var 1)) (.bits (.sub (.var 0) (.neg 1)))) (.int 0))) (.nil)
theorem c_bits : chk "bits" ["a", "w"] ["a", "w"] b_bits = true := by decide +kernel

/-- split(a, spot): 0=a 1=spot -/
noncomputable def b_split : Ss := .cons (.ret (.pair (.call (.fn "normal") (.cons (.upto (.var 0) (.var 1)) (.nil))) (.from_ (.var 0) (.var 1)))) (.nil)
theorem c_split : chk "split" ["a", "spot"] ["a", "spot"] b_split = true := by decide +kernel

/-- down(a, spot): 0=a 1=spot -/
noncomputable def b_down : Ss := .cons (.ret (.from_ (.var 0) (.var 1))) (.nil)
theorem c_down : chk "down" ["a", "spot"] ["a", "spot"] b_down = true := by decide +kernel

/-- lowest(a, spot): 0=a 1=spot -/
noncomputable def b_lowest : Ss := .cons (.ret (.call (.fn "normal") (.cons (.upto (.var 0) (.var 1)) (.nil)))) (.nil)
theorem c_lowest : chk "lowest" ["a", "spot"] ["a", "spot"] b_lowest = true := by decide +kernel

/-- all_ones(many, w): 0=many 1=w -/
noncomputable def b_all_ones : Ss := .cons (.ret (.bin .Mult (.list (.cons (.bin .Sub (.bin .LShift (.int 1) (.var 1)) (.int 1)) (.nil))) (.var 0))) (.nil)
theorem c_all_ones : chk "all_ones" ["many", "w"] ["many", "w"] b_all_ones = true := by decide +kernel

/-- halves_size(size, least): 0=size 1=least 2=doublings -/
noncomputable def b_halves_size : Ss := .cons (.set 2 (.int 0)) (.cons (.whl (.cmp .Gt (.var 0) (.var 1)) (.cons (.set 0 (.bin .FloorDiv (.bin .Add (.var 0) (.int 1)) (.int 2))) (.cons (.aug 2 .Add (.int 1)) (.nil)))) (.cons (.ret (.bin .LShift (.var 0) (.var 2))) (.nil)))
theorem c_halves_size : chk "halves_size" ["size", "least"] ["size", "least", "doublings"] b_halves_size = true := by decide +kernel

/-- three_halves(a, b, half, w, least, mul, base): 0=a 1=b 2=half 3=w 4=least 5=mul 6=base 7=b_low 8=b_high 9=a_high 10=quotient 11=rest 12=wanted -/
noncomputable def b_three_halves : Ss := .cons (.two 7 8 (.call (.fn "split") (.cons (.var 1) (.cons (.var 2) (.nil))))) (.cons (.set 9 (.call (.fn "down") (.cons (.var 0) (.cons (.var 2) (.nil))))) (.cons (.ite (.cmp .Lt (.call (.fn "compare") (.cons (.call (.fn "down") (.cons (.var 0) (.cons (.bin .Mult (.int 2) (.var 2)) (.nil)))) (.cons (.var 8) (.nil)))) (.int 0)) (.cons (.two 10 11 (.call (.fn "two_halves") (.cons (.var 9) (.cons (.var 8) (.cons (.var 2) (.cons (.var 3) (.cons (.var 4) (.cons (.var 5) (.cons (.var 6) (.nil)))))))))) (.nil)) (.cons (.set 10 (.call (.fn "all_ones") (.cons (.var 2) (.cons (.var 3) (.nil))))) (.cons (.set 11 (.call (.fn "add") (.cons (.call (.fn "sub") (.cons (.var 9) (.cons (.call (.fn "lifted") (.cons (.var 8) (.cons (.var 2) (.nil)))) (.cons (.var 3) (.nil))))) (.cons (.var 8) (.cons (.var 3) (.nil)))))) (.nil)))) (.cons (.set 12 (.call (.var 5) (.cons (.var 10) (.cons (.var 7) (.cons (.var 3) (.nil)))))) (.cons (.set 11 (.call (.fn "add") (.cons (.call (.fn "lifted") (.cons (.var 11) (.cons (.var 2) (.nil)))) (.cons (.call (.fn "lowest") (.cons (.var 0) (.cons (.var 2) (.nil)))) (.cons (.var 3) (.nil)))))) (.cons (.whl (.cmp .Lt (.call (.fn "compare") (.cons (.var 11) (.cons (.var 12) (.nil)))) (.int 0)) (.cons (.set 11 (.call (.fn "add") (.cons (.var 11) (.cons (.var 1) (.cons (.var 3) (.nil)))))) (.cons (.set 10 (.call (.fn "sub") (.cons (.var 10) (.cons (.list (.cons (.int 1) (.nil))) (.cons (.var 3) (.nil)))))) (.nil)))) (.cons (.ret (.pair (.var 10) (.call (.fn "sub") (.cons (.var 11) (.cons (.var 12) (.cons (.var 3) (.nil))))))) (.nil)))))))
theorem c_three_halves : chk "three_halves" ["a", "b", "half", "w", "least", "mul", "base"] ["a", "b", "half", "w", "least", "mul", "base", "b_low", "b_high", "a_high", "quotient", "rest", "wanted"] b_three_halves = true := by decide +kernel

/-- two_halves(a, b, size, w, least, mul, base): 0=a 1=b 2=size 3=w 4=least 5=mul 6=base 7=half 8=high 9=rest 10=low -/
noncomputable def b_two_halves : Ss := .cons (.ite (.bo .Or (.cons (.cmp .Eq (.bin .Mod (.var 2) (.int 2)) (.int 1)) (.cons (.cmp .LtE (.var 2) (.var 4)) (.nil)))) (.cons (.ret (.call (.var 6) (.cons (.var 0) (.cons (.var 1) (.cons (.var 3) (.nil)))))) (.nil)) (.nil)) (.cons (.set 7 (.bin .FloorDiv (.var 2) (.int 2))) (.cons (.two 8 9 (.call (.fn "three_halves") (.cons (.call (.fn "down") (.cons (.var 0) (.cons (.var 7) (.nil)))) (.cons (.var 1) (.cons (.var 7) (.cons (.var 3) (.cons (.var 4) (.cons (.var 5) (.cons (.var 6) (.nil)))))))))) (.cons (.two 10 9 (.call (.fn "three_halves") (.cons (.call (.fn "add") (.cons (.call (.fn "lifted") (.cons (.var 9) (.cons (.var 7) (.nil)))) (.cons (.call (.fn "lowest") (.cons (.var 0) (.cons (.var 7) (.nil)))) (.cons (.var 3) (.nil))))) (.cons (.var 1) (.cons (.var 7) (.cons (.var 3) (.cons (.var 4) (.cons (.var 5) (.cons (.var 6) (.nil)))))))))) (.cons (.ret (.pair (.call (.fn "add") (.cons (.call (.fn "lifted") (.cons (.var 8) (.cons (.var 7) (.nil)))) (.cons (.var 10) (.cons (.var 3) (.nil))))) (.var 9))) (.nil)))))
theorem c_two_halves : chk "two_halves" ["a", "b", "size", "w", "least", "mul", "base"] ["a", "b", "size", "w", "least", "mul", "base", "half", "high", "rest", "low"] b_two_halves = true := by decide +kernel

/-- divrem_halves(a, b, w, least, mul, base): 0=a 1=b 2=w 3=least 4=mul 5=base 6=size 7=shift 8=divisor 9=number 10=block 11=quotient 12=rest 13=at 14=piece 15=digit -/
noncomputable def b_divrem_halves : Ss := .cons (.ite (.cmp .Eq (.bi .len (.cons (.var 1) (.nil))) (.int 0)) (.cons (.no) (.nil)) (.nil)) (.cons (.ite (.cmp .Lt (.call (.fn "compare") (.cons (.var 0) (.cons (.var 1) (.nil)))) (.int 0)) (.cons (.ret (.pair (.list (.nil)) (.all (.var 0)))) (.nil)) (.nil)) (.cons (.set 6 (.call (.fn "halves_size") (.cons (.bi .len (.cons (.var 1) (.nil))) (.cons (.var 3) (.nil))))) (.cons (.set 7 (.bin .Sub (.bin .Mult (.var 2) (.var 6)) (.call (.fn "bits") (.cons (.var 1) (.cons (.var 2) (.nil)))))) (.cons (.swap [8, 9] (.cons (.call (.fn "shift_left") (.cons (.var 1) (.cons (.var 7) (.cons (.var 2) (.nil))))) (.cons (.call (.fn "shift_left") (.cons (.var 0) (.cons (.var 7) (.cons (.var 2) (.nil))))) (.nil)))) (.cons (.set 10 (.bin .FloorDiv (.bi .len (.cons (.var 9) (.nil))) (.var 6))) (.cons (.swap [11, 12] (.cons (.list (.nil)) (.cons (.call (.fn "down") (.cons (.var 9) (.cons (.bin .Mult (.var 6) (.var 10)) (.nil)))) (.nil)))) (.cons (.for_ 13 (.bi .range (.cons (.bin .Sub (.var 10) (.int 1)) (.cons (.neg 1) (.cons (.neg 1) (.nil))))) (.cons (.set 14 (.call (.fn "normal") (.cons (.cut (.var 9) (.bin .Mult (.var 6) (.var 13)) (.bin .Add (.bin .Mult (.var 6) (.var 13)) (.var 6))) (.nil)))) (.cons (.two 15 12 (.call (.fn "two_halves") (.cons (.call (.fn "add") (.cons (.call (.fn "lifted") (.cons (.var 12) (.cons (.var 6) (.nil)))) (.cons (.var 14) (.cons (.var 2) (.nil))))) (.cons (.var 8) (.cons (.var 6) (.cons (.var 2) (.cons (.var 3) (.cons (.var 4) (.cons (.var 5) (.nil)))))))))) (.cons (.set 11 (.call (.fn "add") (.cons (.call (.fn "lifted") (.cons (.var 11) (.cons (.var 6) (.nil)))) (.cons (.var 15) (.cons (.var 2) (.nil)))))) (.nil))))) (.cons (.ret (.pair (.var 11) (.call (.fn "shift_right") (.cons (.var 12) (.cons (.var 7) (.cons (.var 2) (.nil))))))) (.nil)))))))))
theorem c_divrem_halves : chk "divrem_halves" ["a", "b", "w", "least", "mul", "base"] ["a", "b", "w", "least", "mul", "base", "size", "shift", "divisor", "number", "block", "quotient", "rest", "at", "piece", "digit"] b_divrem_halves = true := by decide +kernel

/-- bits_of_quotient(rest, b, many, w): 0=rest 1=b 2=many 3=w 4=quotient 5=turn -/
noncomputable def b_bits_of_quotient : Ss := .cons (.set 4 (.list (.nil))) (.cons (.for_ 5 (.bi .range (.cons (.var 2) (.nil))) (.cons (.set 0 (.call (.fn "shift_left") (.cons (.var 0) (.cons (.int 1) (.cons (.var 3) (.nil)))))) (.cons (.set 4 (.call (.fn "shift_left") (.cons (.var 4) (.cons (.int 1) (.cons (.var 3) (.nil)))))) (.cons (.ite (.cmp .GtE (.call (.fn "compare") (.cons (.var 0) (.cons (.var 1) (.nil)))) (.int 0)) (.cons (.set 0 (.call (.fn "sub") (.cons (.var 0) (.cons (.var 1) (.cons (.var 3) (.nil)))))) (.cons (.set 4 (.call (.fn "add") (.cons (.var 4) (.cons (.list (.cons (.int 1) (.nil))) (.cons (.var 3) (.nil)))))) (.nil))) (.nil)) (.nil))))) (.cons (.ret (.var 4)) (.nil)))
theorem c_bits_of_quotient : chk "bits_of_quotient" ["rest", "b", "many", "w"] ["rest", "b", "many", "w", "quotient", "turn"] b_bits_of_quotient = true := by decide +kernel

/-- whole_of_power(b, n, w): 0=b 1=n 2=w 3=first -/
noncomputable def b_whole_of_power : Ss := .cons (.set 3 (.call (.fn "lifted") (.cons (.list (.cons (.int 1) (.nil))) (.cons (.bin .Sub (.bi .len (.cons (.var 0) (.nil))) (.int 1)) (.nil))))) (.cons (.ite (.cmp .Eq (.call (.fn "compare") (.cons (.var 3) (.cons (.var 0) (.nil)))) (.int 0)) (.cons (.ret (.call (.fn "lifted") (.cons (.list (.cons (.int 1) (.nil))) (.cons (.bin .Add (.bin .Sub (.var 1) (.bi .len (.cons (.var 0) (.nil)))) (.int 1)) (.nil))))) (.nil)) (.nil)) (.cons (.ret (.call (.fn "bits_of_quotient") (.cons (.var 3) (.cons (.var 0) (.cons (.bin .Mult (.var 2) (.bin .Add (.bin .Sub (.var 1) (.bi .len (.cons (.var 0) (.nil)))) (.int 1))) (.cons (.var 2) (.nil))))))) (.nil)))
theorem c_whole_of_power : chk "whole_of_power" ["b", "n", "w"] ["b", "n", "w", "first"] b_whole_of_power = true := by decide +kernel

/-- corrected(guess, b, n, w, mul): 0=guess 1=b 2=n 3=w 4=mul 5=one 6=told 7=rest -/
noncomputable def b_corrected : Ss := .cons (.swap [5, 6] (.cons (.call (.fn "lifted") (.cons (.list (.cons (.int 1) (.nil))) (.cons (.var 2) (.nil)))) (.cons (.call (.var 4) (.cons (.var 0) (.cons (.var 1) (.cons (.var 3) (.nil))))) (.nil)))) (.cons (.whl (.cmp .Gt (.call (.fn "compare") (.cons (.var 6) (.cons (.var 5) (.nil)))) (.int 0)) (.cons (.set 0 (.call (.fn "sub") (.cons (.var 0) (.cons (.list (.cons (.int 1) (.nil))) (.cons (.var 3) (.nil)))))) (.cons (.set 6 (.call (.fn "sub") (.cons (.var 6) (.cons (.var 1) (.cons (.var 3) (.nil)))))) (.nil)))) (.cons (.set 7 (.call (.fn "sub") (.cons (.var 5) (.cons (.var 6) (.cons (.var 3) (.nil)))))) (.cons (.whl (.cmp .GtE (.call (.fn "compare") (.cons (.var 7) (.cons (.var 1) (.nil)))) (.int 0)) (.cons (.set 0 (.call (.fn "add") (.cons (.var 0) (.cons (.list (.cons (.int 1) (.nil))) (.cons (.var 3) (.nil)))))) (.cons (.set 7 (.call (.fn "sub") (.cons (.var 7) (.cons (.var 1) (.cons (.var 3) (.nil)))))) (.nil)))) (.cons (.ret (.var 0)) (.nil)))))
theorem c_corrected : chk "corrected" ["guess", "b", "n", "w", "mul"] ["guess", "b", "n", "w", "mul", "one", "told", "rest"] b_corrected = true := by decide +kernel

/-- newton_step(guess, b, n, w, mul): 0=guess 1=b 2=n 3=w 4=mul 5=one 6=told -/
noncomputable def b_newton_step : Ss := .cons (.swap [5, 6] (.cons (.call (.fn "lifted") (.cons (.list (.cons (.int 1) (.nil))) (.cons (.var 2) (.nil)))) (.cons (.call (.var 4) (.cons (.var 0) (.cons (.var 1) (.cons (.var 3) (.nil))))) (.nil)))) (.cons (.ite (.cmp .Gt (.call (.fn "compare") (.cons (.var 6) (.cons (.var 5) (.nil)))) (.int 0)) (.cons (.ret (.call (.fn "sub") (.cons (.var 0) (.cons (.call (.fn "down") (.cons (.call (.var 4) (.cons (.var 0) (.cons (.call (.fn "sub") (.cons (.var 6) (.cons (.var 5) (.cons (.var 3) (.nil))))) (.cons (.var 3) (.nil))))) (.cons (.var 2) (.nil)))) (.cons (.var 3) (.nil)))))) (.nil)) (.nil)) (.cons (.ret (.call (.fn "add") (.cons (.var 0) (.cons (.call (.fn "down") (.cons (.call (.var 4) (.cons (.var 0) (.cons (.call (.fn "sub") (.cons (.var 5) (.cons (.var 6) (.cons (.var 3) (.nil))))) (.cons (.var 3) (.nil))))) (.cons (.var 2) (.nil)))) (.cons (.var 3) (.nil)))))) (.nil)))
theorem c_newton_step : chk "newton_step" ["guess", "b", "n", "w", "mul"] ["guess", "b", "n", "w", "mul", "one", "told"] b_newton_step = true := by decide +kernel

/-- reciprocal(b, n, w, mul): 0=b 1=n 2=w 3=mul 4=many 5=kept 6=high 7=right 8=guess -/
noncomputable def b_reciprocal : Ss := .cons (.ite (.cmp .Eq (.bi .len (.cons (.var 0) (.nil))) (.int 0)) (.cons (.no) (.nil)) (.nil)) (.cons (.set 4 (.bin .Add (.bin .Sub (.var 1) (.bi .len (.cons (.var 0) (.nil)))) (.int 1))) (.cons (.ite (.cmp .LtE (.var 4) (.int 0)) (.cons (.ret (.ite (.cmp .GtE (.call (.fn "compare") (.cons (.call (.fn "lifted") (.cons (.list (.cons (.int 1) (.nil))) (.cons (.var 1) (.nil)))) (.cons (.var 0) (.nil)))) (.int 0)) (.list (.cons (.int 1) (.nil))) (.list (.nil)))) (.nil)) (.nil)) (.cons (.ite (.cmp .LtE (.var 4) (.few)) (.cons (.set 5 (.bi .min (.cons (.bi .len (.cons (.var 0) (.nil))) (.cons (.bin .Add (.var 4) (.int 2)) (.nil))))) (.cons (.set 6 (.call (.fn "down") (.cons (.var 0) (.cons (.bin .Sub (.bi .len (.cons (.var 0) (.nil))) (.var 5)) (.nil))))) (.cons (.ret (.call (.fn "corrected") (.cons (.call (.fn "whole_of_power") (.cons (.var 6) (.cons (.bin .Sub (.bin .Add (.var 5) (.var 4)) (.int 1)) (.cons (.var 2) (.nil))))) (.cons (.var 0) (.cons (.var 1) (.cons (.var 2) (.cons (.var 3) (.nil)))))))) (.nil)))) (.nil)) (.cons (.set 7 (.bin .FloorDiv (.bin .Add (.var 4) (.int 1)) (.int 2))) (.cons (.set 5 (.bi .min (.cons (.bi .len (.cons (.var 0) (.nil))) (.cons (.bin .Add (.var 7) (.int 1)) (.nil))))) (.cons (.set 6 (.call (.fn "down") (.cons (.var 0) (.cons (.bin .Sub (.bi .len (.cons (.var 0) (.nil))) (.var 5)) (.nil))))) (.cons (.set 8 (.call (.fn "lifted") (.cons (.call (.fn "reciprocal") (.cons (.var 6) (.cons (.bin .Add (.var 5) (.var 7)) (.cons (.var 2) (.cons (.var 3) (.nil)))))) (.cons (.bin .Sub (.bin .Sub (.var 4) (.var 7)) (.int 1)) (.nil))))) (.cons (.ret (.call (.fn "corrected") (.cons (.call (.fn "newton_step") (.cons (.var 8) (.cons (.var 0) (.cons (.var 1) (.cons (.var 2) (.cons (.var 3) (.nil))))))) (.cons (.var 0) (.cons (.var 1) (.cons (.var 2) (.cons (.var 3) (.nil)))))))) (.nil)))))))))
theorem c_reciprocal : chk "reciprocal" ["b", "n", "w", "mul"] ["b", "n", "w", "mul", "many", "kept", "high", "right", "guess"] b_reciprocal = true := by decide +kernel

/-- divrem_newton(a, b, w, mul): 0=a 1=b 2=w 3=mul 4=quotient 5=rest -/
noncomputable def b_divrem_newton : Ss := .cons (.ite (.cmp .Eq (.bi .len (.cons (.var 1) (.nil))) (.int 0)) (.cons (.no) (.nil)) (.nil)) (.cons (.ite (.cmp .Lt (.call (.fn "compare") (.cons (.var 0) (.cons (.var 1) (.nil)))) (.int 0)) (.cons (.ret (.pair (.list (.nil)) (.all (.var 0)))) (.nil)) (.nil)) (.cons (.set 4 (.call (.fn "down") (.cons (.call (.var 3) (.cons (.var 0) (.cons (.call (.fn "reciprocal") (.cons (.var 1) (.cons (.bi .len (.cons (.var 0) (.nil))) (.cons (.var 2) (.cons (.var 3) (.nil)))))) (.cons (.var 2) (.nil))))) (.cons (.bi .len (.cons (.var 0) (.nil))) (.nil))))) (.cons (.set 5 (.call (.fn "sub") (.cons (.var 0) (.cons (.call (.var 3) (.cons (.var 4) (.cons (.var 1) (.cons (.var 2) (.nil))))) (.cons (.var 2) (.nil)))))) (.cons (.whl (.cmp .GtE (.call (.fn "compare") (.cons (.var 5) (.cons (.var 1) (.nil)))) (.int 0)) (.cons (.set 4 (.call (.fn "add") (.cons (.var 4) (.cons (.list (.cons (.int 1) (.nil))) (.cons (.var 2) (.nil)))))) (.cons (.set 5 (.call (.fn "sub") (.cons (.var 5) (.cons (.var 1) (.cons (.var 2) (.nil)))))) (.nil)))) (.cons (.ret (.pair (.var 4) (.var 5))) (.nil))))))
theorem c_divrem_newton : chk "divrem_newton" ["a", "b", "w", "mul"] ["a", "b", "w", "mul", "quotient", "rest"] b_divrem_newton = true := by decide +kernel

/-- divide_any(a, b, w, told): 0=a 1=b 2=w 3=told 4=mul 5=base 6=least -/
noncomputable def b_divide_any : Ss := .cons (.swap [4, 5] (.cons (.attr (.var 3) "mul") (.cons (.attr (.var 3) "base") (.nil)))) (.cons (.set 6 (.bi .min (.cons (.bi .len (.cons (.var 1) (.nil))) (.cons (.bi .max (.cons (.bin .Sub (.bi .len (.cons (.var 0) (.nil))) (.bi .len (.cons (.var 1) (.nil)))) (.cons (.int 0) (.nil)))) (.nil))))) (.cons (.ite (.cmp .Lt (.var 6) (.attr (.var 3) "halves")) (.cons (.ret (.call (.var 5) (.cons (.var 0) (.cons (.var 1) (.cons (.var 2) (.nil)))))) (.nil)) (.nil)) (.cons (.ite (.cmp .Lt (.var 6) (.attr (.var 3) "newton")) (.cons (.ret (.call (.fn "divrem_halves") (.cons (.var 0) (.cons (.var 1) (.cons (.var 2) (.cons (.attr (.var 3) "least") (.cons (.var 4) (.cons (.var 5) (.nil))))))))) (.nil)) (.nil)) (.cons (.ret (.call (.fn "divrem_newton") (.cons (.var 0) (.cons (.var 1) (.cons (.var 2) (.cons (.var 4) (.nil))))))) (.nil)))))
theorem c_divide_any : chk "divide_any" ["a", "b", "w", "told"] ["a", "b", "w", "told", "mul", "base", "least"] b_divide_any = true := by decide +kernel

/-- quotient_of(a, b, w, told): 0=a 1=b 2=w 3=told 4=found 5=rest -/
noncomputable def b_quotient_of : Ss := .cons (.two 4 5 (.call (.fn "divide_any") (.cons (.var 0) (.cons (.var 1) (.cons (.var 2) (.cons (.var 3) (.nil))))))) (.cons (.ret (.var 4)) (.nil))
theorem c_quotient_of : chk "quotient_of" ["a", "b", "w", "told"] ["a", "b", "w", "told", "found", "rest"] b_quotient_of = true := by decide +kernel

/-- rest_of(a, b, w, told): 0=a 1=b 2=w 3=told 4=found 5=rest -/
noncomputable def b_rest_of : Ss := .cons (.two 4 5 (.call (.fn "divide_any") (.cons (.var 0) (.cons (.var 1) (.cons (.var 2) (.cons (.var 3) (.nil))))))) (.cons (.ret (.var 5)) (.nil))
theorem c_rest_of : chk "rest_of" ["a", "b", "w", "told"] ["a", "b", "w", "told", "found", "rest"] b_rest_of = true := by decide +kernel

/-- quotient_up(a, b, w, told): 0=a 1=b 2=w 3=told 4=found 5=rest -/
noncomputable def b_quotient_up : Ss := .cons (.two 4 5 (.call (.fn "divide_any") (.cons (.var 0) (.cons (.var 1) (.cons (.var 2) (.cons (.var 3) (.nil))))))) (.cons (.ret (.ite (.cmp .Eq (.bi .len (.cons (.var 5) (.nil))) (.int 0)) (.var 4) (.call (.fn "add") (.cons (.var 4) (.cons (.list (.cons (.int 1) (.nil))) (.cons (.var 2) (.nil))))))) (.nil))
theorem c_quotient_up : chk "quotient_up" ["a", "b", "w", "told"] ["a", "b", "w", "told", "found", "rest"] b_quotient_up = true := by decide +kernel

/-- quotient_near(a, b, w, told): 0=a 1=b 2=w 3=told 4=found 5=rest 6=order -/
noncomputable def b_quotient_near : Ss := .cons (.two 4 5 (.call (.fn "divide_any") (.cons (.var 0) (.cons (.var 1) (.cons (.var 2) (.cons (.var 3) (.nil))))))) (.cons (.set 6 (.call (.fn "compare") (.cons (.call (.fn "shift_left") (.cons (.var 5) (.cons (.int 1) (.cons (.var 2) (.nil))))) (.cons (.var 1) (.nil))))) (.cons (.ite (.bo .Or (.cons (.cmp .Gt (.var 6) (.int 0)) (.cons (.bo .And (.cons (.cmp .Eq (.var 6) (.int 0)) (.cons (.cmp .Gt (.bi .len (.cons (.var 4) (.nil))) (.int 0)) (.cons (.cmp .Eq (.bin .Mod (.sub (.var 4) (.int 0)) (.int 2)) (.int 1)) (.nil))))) (.nil)))) (.cons (.ret (.call (.fn "add") (.cons (.var 4) (.cons (.list (.cons (.int 1) (.nil))) (.cons (.var 2) (.nil)))))) (.nil)) (.nil)) (.cons (.ret (.var 4)) (.nil))))
theorem c_quotient_near : chk "quotient_near" ["a", "b", "w", "told"] ["a", "b", "w", "told", "found", "rest", "order"] b_quotient_near = true := by decide +kernel

/-- divides(b, a, w, told): 0=b 1=a 2=w 3=told -/
noncomputable def b_divides : Ss := .cons (.ite (.cmp .Eq (.bi .len (.cons (.var 0) (.nil))) (.int 0)) (.cons (.ret (.cmp .Eq (.bi .len (.cons (.var 1) (.nil))) (.int 0))) (.nil)) (.nil)) (.cons (.ret (.cmp .Eq (.bi .len (.cons (.call (.fn "rest_of") (.cons (.var 1) (.cons (.var 0) (.cons (.var 2) (.cons (.var 3) (.nil)))))) (.nil))) (.int 0))) (.nil))
theorem c_divides : chk "divides" ["b", "a", "w", "told"] ["b", "a", "w", "told"] b_divides = true := by decide +kernel

/-- _law_take(box, many): 0=box 1=many 2=digit -/
noncomputable def b_law_take : Ss := .cons (.box 0 true (.bin .Add (.sub (.var 0) (.int 1)) (.int 1))) (.cons (.ite (.cmp .Gt (.sub (.var 0) (.int 0)) (.int 0)) (.cons (.set 2 (.bin .Mod (.sub (.var 0) (.int 0)) (.var 1))) (.cons (.box 0 false (.bin .FloorDiv (.sub (.var 0) (.int 0)) (.var 1))) (.cons (.ret (.var 2)) (.nil)))) (.nil)) (.cons (.ret (.bin .Mod (.bin .Add (.bin .Mult (.sub (.var 0) (.int 1)) (.int 7)) (.bin .FloorDiv (.sub (.var 0) (.int 1)) (.int 5))) (.var 1))) (.nil)))
theorem c_law_take : chk "_law_take" ["box", "many"] ["box", "many", "digit"] b_law_take = true := by decide +kernel

/-- _law_total(script): 0=script 1=great 2=one -/
noncomputable def b_law_total : Ss := .cons (.set 1 (.int 0)) (.cons (.for_ 2 (.rev (.upto (.var 0) (.int 24))) (.cons (.set 1 (.bin .Add (.bin .Mult (.var 1) (.int 65536)) (.bin .Mod (.bi .abs (.cons (.var 2) (.nil))) (.int 65536)))) (.nil))) (.cons (.ret (.var 1)) (.nil)))
theorem c_law_total : chk "_law_total" ["script"] ["script", "great", "one"] b_law_total = true := by decide +kernel

/-- _law_row(value, w): 0=value 1=w 2=found -/
noncomputable def b_law_row : Ss := .cons (.own 2) (.cons (.whl (.cmp .Gt (.var 0) (.int 0)) (.cons (.app 2 (.bin .Mod (.var 0) (.bin .Pow (.int 2) (.var 1)))) (.cons (.set 0 (.bin .FloorDiv (.var 0) (.bin .Pow (.int 2) (.var 1)))) (.nil)))) (.cons (.ret (.var 2)) (.nil)))
theorem c_law_row : chk "_law_row" ["value", "w"] ["value", "w", "found"] b_law_row = true := by decide +kernel

/-- _law_whole(row, w): 0=row 1=w 2=value 3=limb -/
noncomputable def b_law_whole : Ss := .cons (.set 2 (.int 0)) (.cons (.for_ 3 (.rev (.var 0)) (.cons (.set 2 (.bin .Add (.bin .Mult (.var 2) (.bin .Pow (.int 2) (.var 1))) (.var 3))) (.nil))) (.cons (.ret (.var 2)) (.nil)))
theorem c_law_whole : chk "_law_whole" ["row", "w"] ["row", "w", "value", "limb"] b_law_whole = true := by decide +kernel

/-- _law_times(one, other, w): 0=one 1=other 2=w -/
noncomputable def b_law_times : Ss := .cons (.ret (.call (.fn "_law_row") (.cons (.bin .Mult (.call (.fn "_law_whole") (.cons (.var 0) (.cons (.var 2) (.nil)))) (.call (.fn "_law_whole") (.cons (.var 1) (.cons (.var 2) (.nil))))) (.cons (.var 2) (.nil))))) (.nil)
theorem c_law_times : chk "_law_times" ["one", "other", "w"] ["one", "other", "w"] b_law_times = true := by decide +kernel

/-- _law_parts(one, other, w): 0=one 1=other 2=w 3=here 4=there -/
noncomputable def b_law_parts : Ss := .cons (.swap [3, 4] (.cons (.call (.fn "_law_whole") (.cons (.var 0) (.cons (.var 2) (.nil)))) (.cons (.call (.fn "_law_whole") (.cons (.var 1) (.cons (.var 2) (.nil)))) (.nil)))) (.cons (.ret (.pair (.call (.fn "_law_row") (.cons (.bin .FloorDiv (.var 3) (.var 4)) (.cons (.var 2) (.nil)))) (.call (.fn "_law_row") (.cons (.bin .Mod (.var 3) (.var 4)) (.cons (.var 2) (.nil)))))) (.nil))
theorem c_law_parts : chk "_law_parts" ["one", "other", "w"] ["one", "other", "w", "here", "there"] b_law_parts = true := by decide +kernel

/-- _law_drawn(box, w, most): 0=box 1=w 2=most 3=size 4=form 5=value 6=turn -/
noncomputable def b_law_drawn : Ss := .cons (.swap [3, 4] (.cons (.bin .Add (.int 1) (.call (.fn "_law_take") (.cons (.var 0) (.cons (.var 2) (.nil))))) (.cons (.call (.fn "_law_take") (.cons (.var 0) (.cons (.int 4) (.nil)))) (.nil)))) (.cons (.ite (.cmp .Eq (.var 4) (.int 0)) (.cons (.ret (.bin .Sub (.bin .Pow (.int 2) (.bin .Mult (.var 1) (.var 3))) (.int 1))) (.nil)) (.nil)) (.cons (.ite (.cmp .Eq (.var 4) (.int 1)) (.cons (.ret (.bin .Pow (.int 2) (.bin .Mult (.var 1) (.bin .Sub (.var 3) (.int 1))))) (.nil)) (.nil)) (.cons (.set 5 (.int 0)) (.cons (.for_ 6 (.bi .range (.cons (.var 3) (.nil))) (.cons (.set 5 (.bin .Add (.bin .Mult (.var 5) (.bin .Pow (.int 2) (.var 1))) (.sub (.list (.cons (.call (.fn "_law_take") (.cons (.var 0) (.cons (.bin .Pow (.int 2) (.var 1)) (.nil)))) (.cons (.bin .Sub (.bin .Pow (.int 2) (.var 1)) (.int 1)) (.cons (.int 0) (.nil))))) (.call (.fn "_law_take") (.cons (.var 0) (.cons (.int 3) (.nil))))))) (.nil))) (.cons (.ret (.bin .Add (.var 5) (.int 1))) (.nil))))))
theorem c_law_drawn : chk "_law_drawn" ["box", "w", "most"] ["box", "w", "most", "size", "form", "value", "turn"] b_law_drawn = true := by decide +kernel

/-- _law_shares(box, w): 0=box 1=w 2=b 3=q 4=r -/
noncomputable def b_law_shares : Ss := .cons (.set 2 (.call (.fn "_law_drawn") (.cons (.var 0) (.cons (.var 1) (.cons (.int 6) (.nil)))))) (.cons (.set 3 (.call (.fn "_law_drawn") (.cons (.var 0) (.cons (.var 1) (.cons (.int 6) (.nil)))))) (.cons (.set 4 (.sub (.list (.cons (.int 0) (.cons (.bin .Sub (.var 2) (.int 1)) (.cons (.call (.fn "_law_take") (.cons (.var 0) (.cons (.var 2) (.nil)))) (.nil))))) (.call (.fn "_law_take") (.cons (.var 0) (.cons (.int 3) (.nil)))))) (.cons (.ret (.pair (.var 2) (.bin .Add (.bin .Mult (.var 2) (.var 3)) (.var 4)))) (.nil))))
theorem c_law_shares : chk "_law_shares" ["box", "w"] ["box", "w", "b", "q", "r"] b_law_shares = true := by decide +kernel

/-- _law_right(told, a, b, w): 0=told 1=a 2=b 3=w 4=quotient 5=rest -/
noncomputable def b_law_right : Ss := .cons (.two 4 5 (.var 0)) (.cons (.ite (.bo .Or (.cons (.not (.call (.fn "_law_is_row") (.cons (.var 4) (.cons (.var 3) (.nil))))) (.cons (.not (.call (.fn "_law_is_row") (.cons (.var 5) (.cons (.var 3) (.nil))))) (.nil)))) (.cons (.ret (.bool false)) (.nil)) (.nil)) (.cons (.ret (.bo .And (.cons (.cmp .Eq (.call (.fn "_law_whole") (.cons (.var 4) (.cons (.var 3) (.nil)))) (.bin .FloorDiv (.var 1) (.var 2))) (.cons (.cmp .Eq (.call (.fn "_law_whole") (.cons (.var 5) (.cons (.var 3) (.nil)))) (.bin .Mod (.var 1) (.var 2))) (.nil))))) (.nil)))
theorem c_law_right : chk "_law_right" ["told", "a", "b", "w"] ["told", "a", "b", "w", "quotient", "rest"] b_law_right = true := by decide +kernel

/-- _law_all_right(box, w, a, b, told): 0=box 1=w 2=a 3=b 4=told 5=here 6=there 7=twice 8=half 9=due -/
noncomputable def b_law_all_right : Ss := .cons (.swap [5, 6] (.cons (.call (.fn "_law_row") (.cons (.var 2) (.cons (.var 1) (.nil)))) (.cons (.call (.fn "_law_row") (.cons (.var 3) (.cons (.var 1) (.nil)))) (.nil)))) (.cons (.ite (.not (.call (.fn "_law_right") (.cons (.call (.fn "divide_any") (.cons (.var 5) (.cons (.var 6) (.cons (.var 1) (.cons (.var 4) (.nil)))))) (.cons (.var 2) (.cons (.var 3) (.cons (.var 1) (.nil))))))) (.cons (.ret (.bool false)) (.nil)) (.nil)) (.cons (.ite (.bo .Or (.cons (.cmp .NotEq (.call (.fn "quotient_of") (.cons (.var 5) (.cons (.var 6) (.cons (.var 1) (.cons (.var 4) (.nil)))))) (.call (.fn "_law_row") (.cons (.bin .FloorDiv (.var 2) (.var 3)) (.cons (.var 1) (.nil))))) (.cons (.cmp .NotEq (.call (.fn "rest_of") (.cons (.var 5) (.cons (.var 6) (.cons (.var 1) (.cons (.var 4) (.nil)))))) (.call (.fn "_law_row") (.cons (.bin .Mod (.var 2) (.var 3)) (.cons (.var 1) (.nil))))) (.nil)))) (.cons (.ret (.bool false)) (.nil)) (.nil)) (.cons (.ite (.cmp .NotEq (.call (.fn "_law_whole") (.cons (.call (.fn "quotient_up") (.cons (.var 5) (.cons (.var 6) (.cons (.var 1) (.cons (.var 4) (.nil)))))) (.cons (.var 1) (.nil)))) (.bin .Sub (.int 0) (.bin .FloorDiv (.bin .Sub (.int 0) (.var 2)) (.var 3)))) (.cons (.ret (.bool false)) (.nil)) (.nil)) (.cons (.swap [7, 8] (.cons (.bin .Mult (.int 2) (.bin .Mod (.var 2) (.var 3))) (.cons (.bin .FloorDiv (.var 2) (.var 3)) (.nil)))) (.cons (.set 9 (.ite (.bo .Or (.cons (.cmp .Gt (.var 7) (.var 3)) (.cons (.bo .And (.cons (.cmp .Eq (.var 7) (.var 3)) (.cons (.cmp .Eq (.bin .Mod (.var 8) (.int 2)) (.int 1)) (.nil)))) (.nil)))) (.bin .Add (.var 8) (.int 1)) (.var 8))) (.cons (.ite (.cmp .NotEq (.call (.fn "_law_whole") (.cons (.call (.fn "quotient_near") (.cons (.var 5) (.cons (.var 6) (.cons (.var 1) (.cons (.var 4) (.nil)))))) (.cons (.var 1) (.nil)))) (.var 9)) (.cons (.ret (.bool false)) (.nil)) (.nil)) (.cons (.ite (.bo .Or (.cons (.cmp .NotEq (.bi .repr (.cons (.call (.fn "divides") (.cons (.var 6) (.cons (.var 5) (.cons (.var 1) (.cons (.var 4) (.nil)))))) (.nil))) (.bi .repr (.cons (.cmp .Eq (.bin .Mod (.var 2) (.var 3)) (.int 0)) (.nil)))) (.cons (.cmp .NotEq (.call (.fn "divides") (.cons (.list (.nil)) (.cons (.var 5) (.cons (.var 1) (.cons (.var 4) (.nil)))))) (.cmp .Eq (.var 2) (.int 0))) (.nil)))) (.cons (.ret (.bool false)) (.nil)) (.nil)) (.cons (.ret (.bo .And (.cons (.cmp .Eq (.var 5) (.call (.fn "_law_row") (.cons (.var 2) (.cons (.var 1) (.nil))))) (.cons (.cmp .Eq (.var 6) (.call (.fn "_law_row") (.cons (.var 3) (.cons (.var 1) (.nil))))) (.nil))))) (.nil)))))))))
theorem c_law_all_right : chk "_law_all_right" ["box", "w", "a", "b", "told"] ["box", "w", "a", "b", "told", "here", "there", "twice", "half", "due"] b_law_all_right = true := by decide +kernel

end
section

/-! rows of limbs to the base B: what they are -/

noncomputable def dig (B x i : Nat) : Nat := x / B ^ i % B
noncomputable def low (B n x : Nat) : List Int := (List.range n).map fun i => (dig B x i : Int)
noncomputable def len (B x : Nat) : Nat := if h : x = 0 ∨ B < 2 then 0 else len B (x / B) + 1
termination_by x
decreasing_by
  have h1 : ¬ (x = 0 ∨ B < 2) := h
  exact Nat.div_lt_self (by omega) (by omega)
noncomputable def row (B x : Nat) : List Int := low B (len B x) x

theorem len_zero (B : Nat) : len B 0 = 0 := by unfold len; simp
theorem len_pos {B x : Nat} (hB : 2 ≤ B) (h : 0 < x) : len B x = len B (x / B) + 1 := by
  rw [len]; rw [dif_neg (by omega)]

theorem lt_len {B : Nat} (hB : 2 ≤ B) : ∀ x : Nat, x < B ^ len B x := by
  intro x
  induction x using Nat.strongRecOn with
  | ind x ih =>
    by_cases h : x = 0
    · subst h; rw [len_zero]; simp
    · have h0 : 0 < x := by (clear ih hB; omega)
      rw [len_pos hB h0, Nat.pow_succ]
      have := ih (x / B) (Nat.div_lt_self h0 (by omega))
      exact (Nat.div_lt_iff_lt_mul (by (clear this h0 h ih; omega))).mp this

theorem len_le {B : Nat} (hB : 2 ≤ B) : ∀ (n x : Nat), x < B ^ n → len B x ≤ n
  | 0, x, h => by
    have : x = 0 := by simpa using h
    subst this; rw [len_zero]; exact Nat.le_refl _
  | n + 1, x, h => by
    by_cases h0 : x = 0
    · subst h0; rw [len_zero]; (clear h hB; omega)
    · rw [len_pos hB (by (clear h hB; omega))]
      have : x / B < B ^ n := (Nat.div_lt_iff_lt_mul (by omega)).mpr (by rw [Nat.pow_succ] at h; exact h)
      have := len_le hB n _ this
      (clear h0 h hB; omega)

theorem pow_len {B x n : Nat} (hB : 2 ≤ B) (h : n < len B x) : B ^ n ≤ x := by
  rcases Nat.lt_or_ge x (B ^ n) with q | q
  · have := len_le hB n x q; (clear q hB; omega)
  · exact q
theorem len_gt {B x n : Nat} (hB : 2 ≤ B) (h : B ^ n ≤ x) : n < len B x := by
  rcases Nat.lt_or_ge n (len B x) with q | q
  · exact q
  · have h1 := lt_len hB x
    have h2 := Nat.pow_le_pow_right (n := B) (by omega) q
    (clear q hB; omega)
theorem len_eq {B x n : Nat} (hB : 2 ≤ B) (h1 : x < B ^ n) (h2 : n = 0 ∨ B ^ (n - 1) ≤ x) : len B x = n := by
  have a := len_le hB n x h1
  rcases h2 with rfl | h2
  · (clear h1 hB; omega)
  · have := len_gt hB h2; (clear h2 h1 hB; omega)
theorem len_eq_zero {B x : Nat} (hB : 2 ≤ B) (h : len B x = 0) : x = 0 := by
  have := lt_len hB x
  rw [h] at this; simpa using this
theorem len_mono {B x y : Nat} (hB : 2 ≤ B) (h : x ≤ y) : len B x ≤ len B y := len_le hB _ _ (Nat.lt_of_le_of_lt h (lt_len hB y))

theorem low_length (B n x : Nat) : (low B n x).length = n := by simp [low]
theorem row_length (B x : Nat) : (row B x).length = len B x := low_length ..
theorem dig_lt {B : Nat} (hB : 2 ≤ B) (x i : Nat) : dig B x i < B := Nat.mod_lt _ (by omega)
theorem dig_zero {B x i : Nat} (h : x < B ^ i) : dig B x i = 0 := by unfold dig; rw [Nat.div_eq_of_lt h]; simp
theorem low_getD (B x : Nat) {n i : Nat} (h : i < n) : (low B n x).getD i 0 = (dig B x i : Int) := by
  simp [low, h, List.getD_eq_getElem?_getD]
theorem low_getD' (B x : Nat) {n : Nat} (i : Nat) : (low B n x).getD i 0 = if i < n then (dig B x i : Int) else 0 := by
  by_cases h : i < n
  · rw [if_pos h, low_getD B x h]
  · rw [if_neg h, List.getD_eq_getElem?_getD, List.getElem?_eq_none (by rw [low_length]; omega)]; rfl
theorem row_getD {B : Nat} (hB : 2 ≤ B) (x i : Nat) : (row B x).getD i 0 = (dig B x i : Int) := by
  unfold row
  rw [low_getD']
  split
  · rfl
  · rename_i h
    rw [dig_zero]; · rfl
    exact Nat.lt_of_lt_of_le (lt_len hB x) (Nat.pow_le_pow_right (by omega) (by (clear hB; omega)))

theorem low_zero (B x : Nat) : low B 0 x = [] := rfl
theorem low_succ (B n x : Nat) : low B (n + 1) x = low B n x ++ [(dig B x n : Int)] := by simp [low, List.range_succ]
theorem low_ext {B n x y : Nat} (h : ∀ i, i < n → dig B x i = dig B y i) : low B n x = low B n y := by
  unfold low
  apply List.map_congr_left
  intro i hi
  rw [h i (List.mem_range.mp hi)]

/-- a digit, of the number's low part -/
theorem dig_mod {B x n i : Nat} (h : i < n) : dig B (x % B ^ n) i = dig B x i := by
  unfold dig
  have e : B ^ n = B ^ i * B ^ (n - i) := by rw [← Nat.pow_add]; congr 1; omega
  rw [e, Nat.mod_mul_right_div_self]
  have : B ∣ B ^ (n - i) := ⟨B ^ (n - i - 1), by rw [← Nat.pow_succ']; congr 1; (clear e; omega)⟩
  exact Nat.mod_mod_of_dvd _ this
theorem low_mod {B x n : Nat} : low B n (x % B ^ n) = low B n x := low_ext fun _ h => dig_mod h
/-- what is added above -/
theorem low_add (B n x d : Nat) : low B n (x + d * B ^ n) = low B n x := by
  rw [← low_mod, Nat.add_mul_mod_self_right, low_mod]
theorem dig_add {B : Nat} (hB : 2 ≤ B) (n x d : Nat) : dig B (x + d * B ^ n) n = (x / B ^ n + d) % B := by
  unfold dig
  rw [Nat.add_mul_div_right _ _ (Nat.pow_pos (by omega))]
theorem low_step {B : Nat} (hB : 2 ≤ B) (n x d : Nat) : low B (n + 1) (x + d * B ^ n) = low B n x ++ [(((x / B ^ n + d) % B : Nat) : Int)] := by
  rw [low_succ, low_add, dig_add hB]
theorem div_step {B : Nat} (hB : 2 ≤ B) (n x d : Nat) : (x + d * B ^ n) / B ^ (n + 1) = (x / B ^ n + d) / B := by
  rw [Nat.pow_succ, ← Nat.div_div_eq_div_mul, Nat.add_mul_div_right _ _ (Nat.pow_pos (by omega))]

theorem row_of {B x n : Nat} (hB : 2 ≤ B) (h1 : x < B ^ n) (h2 : n = 0 ∨ B ^ (n - 1) ≤ x) : row B x = low B n x := by
  unfold row; rw [len_eq hB h1 h2]
theorem row_zero (B : Nat) : row B 0 = [] := by unfold row; rw [len_zero]; rfl
theorem row_nil {B x : Nat} (hB : 2 ≤ B) : row B x = [] ↔ x = 0 := by
  constructor
  · intro h
    have := congrArg List.length h
    rw [row_length] at this
    exact len_eq_zero hB this
  · rintro rfl; exact row_zero B

/-- the number's low part, a limb more -/
theorem mod_succ {B : Nat} (x n : Nat) : x % B ^ (n + 1) = x % B ^ n + dig B x n * B ^ n := by
  unfold dig
  rw [Nat.pow_succ, Nat.mod_mul, Nat.mul_comm]
theorem dig_top {B x n : Nat} (hB : 2 ≤ B) (h : x < B ^ (n + 1)) : dig B x n = x / B ^ n := by
  unfold dig
  apply Nat.mod_eq_of_lt
  rw [Nat.div_lt_iff_lt_mul (Nat.pow_pos (by omega)), Nat.mul_comm, ← Nat.pow_succ]
  exact h
theorem div_succ (B x n : Nat) : x / B ^ n = x / B ^ (n + 1) * B + dig B x n := by
  unfold dig
  rw [Nat.pow_succ, ← Nat.div_div_eq_div_mul]
  have := Nat.div_add_mod (x / B ^ n) B
  rw [Nat.mul_comm] at this
  exact this.symm


/-- moved up by limbs -/
theorem dig_mul_ge {B : Nat} (hB : 2 ≤ B) (x s i : Nat) : dig B (x * B ^ s) (s + i) = dig B x i := by
  unfold dig
  rw [Nat.pow_add, Nat.mul_comm x, Nat.mul_div_mul_left _ _ (Nat.pow_pos (by omega))]
theorem dig_mul_lt {B : Nat} (hB : 2 ≤ B) (x : Nat) {s i : Nat} (h : i < s) : dig B (x * B ^ s) i = 0 := by
  unfold dig
  have : B ^ s = B ^ (s - i - 1) * B * B ^ i := by rw [← Nat.pow_succ, ← Nat.pow_add]; congr 1; (clear hB; omega)
  rw [this, ← Nat.mul_assoc, Nat.mul_div_cancel _ (Nat.pow_pos (by (clear this h; omega))), ← Nat.mul_assoc, Nat.mul_mod_left]
theorem len_shift {B x : Nat} (hB : 2 ≤ B) (h : 0 < x) (s : Nat) : len B (x * B ^ s) = len B x + s := by
  apply len_eq hB
  · rw [Nat.pow_add]; exact Nat.mul_lt_mul_of_pos_right (lt_len hB x) (Nat.pow_pos (by omega))
  · right
    have h1 : 0 < len B x := by rw [len_pos hB h]; (clear h hB; omega)
    have : len B x + s - 1 = (len B x - 1) + s := by (clear h hB; omega)
    rw [this, Nat.pow_add]
    exact Nat.mul_le_mul_right _ (pow_len hB (by (clear this h hB; omega)))
theorem low_shift {B : Nat} (hB : 2 ≤ B) (x s : Nat) : ∀ n, low B (s + n) (x * B ^ s) = List.replicate s 0 ++ low B n x
  | 0 => by
    rw [low_zero, List.append_nil, Nat.add_zero]
    apply List.ext_getElem
    · simp [low_length]
    · intro i h1 h2
      have hi : i < s := by simpa using h2
      simp [low, dig_mul_lt hB x hi]
  | n + 1 => by rw [← Nat.add_assoc, low_succ, low_shift hB x s n, low_succ, List.append_assoc, dig_mul_ge hB]
theorem row_shift {B x : Nat} (hB : 2 ≤ B) (h : 0 < x) (s : Nat) : row B (x * B ^ s) = List.replicate s 0 ++ row B x := by
  unfold row
  rw [len_shift hB h, Nat.add_comm, low_shift hB]

theorem low_drop {B : Nat} (x : Nat) {s n : Nat} (h : s ≤ n) : (low B n x).drop s = low B (n - s) (x / B ^ s) := by
  apply List.ext_getElem
  · simp [low_length]
  · intro i h1 h2
    simp only [low_length] at h2
    simp only [low, List.getElem_drop, List.getElem_map, List.getElem_range, dig, Nat.div_div_eq_div_mul, Nat.pow_add]
theorem len_div {B x : Nat} (hB : 2 ≤ B) (s : Nat) : len B (x / B ^ s) = len B x - s := by
  rcases Nat.lt_or_ge x (B ^ s) with h | h
  · rw [Nat.div_eq_of_lt h, len_zero]
    have := len_le hB s x h; (clear h hB; omega)
  · have h1 := len_gt hB h
    apply len_eq hB
    · rw [Nat.div_lt_iff_lt_mul (Nat.pow_pos (by omega)), ← Nat.pow_add]
      have : len B x - s + s = len B x := by (clear h hB; omega)
      rw [this]; exact lt_len hB x
    · right
      rw [Nat.le_div_iff_mul_le (Nat.pow_pos (by omega)), ← Nat.pow_add]
      exact pow_len hB (by (clear h hB; omega))
theorem row_drop {B : Nat} (hB : 2 ≤ B) (x s : Nat) : (row B x).drop s = row B (x / B ^ s) := by
  unfold row
  rw [len_div hB]
  rcases Nat.le_total s (len B x) with h | h
  · exact low_drop x h
  · rw [List.drop_eq_nil_of_le (by rw [low_length]; exact h)]
    have : len B x - s = 0 := by (clear hB; omega)
    rw [this]; rfl
theorem low_take {B : Nat} (x s n : Nat) : (low B n x).take s = low B (min s n) x := by
  unfold low
  rw [List.map_take.symm, List.take_range]

theorem row_ones {B : Nat} (hB : 2 ≤ B) (h : Nat) : List.replicate h ((B : Int) - 1) = row B (B ^ h - 1) := by
  have hp : 0 < B ^ h := Nat.pow_pos (by omega)
  rw [row_of hB (n := h) (by (clear hB; omega)) ?_]
  · apply List.ext_getElem
    · simp [low_length]
    · intro i h1 h2
      simp only [List.length_replicate] at h1
      simp only [List.getElem_replicate, low, List.getElem_map, List.getElem_range]
      have : dig B (B ^ h - 1) i = B - 1 := by
        unfold dig
        have e : B ^ h - 1 = (B ^ i - 1) + (B ^ (h - i) - 1) * B ^ i := by
          have e1 : B ^ h = B ^ (h - i) * B ^ i := by rw [← Nat.pow_add]; congr 1; (clear h2 hp hB; omega)
          have p1 : 0 < B ^ i := Nat.pow_pos (by (clear e1; clear h1; clear h2; clear h1; clear hp; omega))
          have p2 : B ^ i ≤ B ^ (h - i) * B ^ i := Nat.le_mul_of_pos_left _ (Nat.pow_pos (by (clear p1; clear e1; clear h1; clear h2; clear h1; clear hp; omega)))
          rw [e1, Nat.sub_mul]; (clear h1; clear h2; clear h1; clear hB; omega)
        rw [e, Nat.add_mul_div_right _ _ (Nat.pow_pos (by (clear e; clear h1; clear h2; clear h1; clear hp; omega))), Nat.div_eq_of_lt (by have := Nat.pow_pos (n := i) (show 0 < B by (clear e; clear h1; clear h2; clear h1; clear hp; omega)); (clear e; clear h1; clear h2; clear h1; clear hp; clear hB; omega)), Nat.zero_add]
        have e2 : B ^ (h - i) - 1 = (B - 1) + (B ^ (h - i - 1) - 1) * B := by
          have e1 : B ^ (h - i) = B ^ (h - i - 1) * B := by rw [← Nat.pow_succ]; congr 1; (clear e h2 hp hB; omega)
          have p2 : B ≤ B ^ (h - i - 1) * B := Nat.le_mul_of_pos_left _ (Nat.pow_pos (by (clear e1; clear e; clear h1; clear h2; clear h1; clear hp; omega)))
          rw [e1, Nat.sub_mul]; (clear e; clear h1; clear h2; clear h1; clear hp; omega)
        rw [e2, Nat.add_mul_mod_self_right, Nat.mod_eq_of_lt (by (clear e2; clear e; clear h1; clear h2; clear h1; clear hp; omega))]
      rw [this]; (clear this; clear h1; clear h2; clear h1; clear hp; omega)
  · rcases Nat.eq_zero_or_pos h with q | q
    · exact .inl q
    · right
      have e1 : B ^ h = B ^ (h - 1) * B := by rw [← Nat.pow_succ]; congr 1; (clear hp hB; omega)
      have p2 : B ^ (h - 1) * 2 ≤ B ^ (h - 1) * B := Nat.mul_le_mul_left _ hB
      have := Nat.pow_pos (n := h - 1) (show 0 < B by (clear p2 e1 q hp; omega))
      (clear this q hB; omega)
end
section
open PySem PySem.W PyProof.Rows

section
variable {W : Wd} {k : Nat} {ss : Ss} {Q : PS} {ρ : Row} {o : Own} {σ : Bx}
theorem WSs.nil (h : Q .next ρ o σ) : WSs W k .nil Q ρ o σ := h
theorem WSs.set {i : Nat} {e : E} (h : WE W k ρ e (fun x σ' => WSs W k ss Q (ρ.set i (some x)) o σ') σ) (h1 : noOwn o i := by first | exact trivial | (show (_ ≠ _); decide)) : WSs W k (.cons (.set i e) ss) Q ρ o σ := by
  exact ⟨h1, h⟩
theorem WSs.own {i : Nat} (h : WSs W k ss Q (ρ.set i none) (some (i, [])) σ) : WSs W k (.cons (.own i) ss) Q ρ none σ := by
  exact ⟨rfl, h⟩
theorem WSs.swap {is : List Nat} {es : Es} (h : WEs W k ρ es (fun xs σ' => xs.length = is.length ∧ WSs W k ss Q (setAll ρ is xs) o σ') σ) (h1 : ∀ i ∈ is, noOwn o i := by first | exact fun _ _ => trivial | (intro i hi; show (_ ≠ _); simp at hi; omega)) : WSs W k (.cons (.swap is es) ss) Q ρ o σ := by
  exact ⟨h1, h⟩
theorem WSs.swapOwn {i : Nat} {is : List Nat} {es : Es} (h : WEs W k ρ es (fun xs σ' => xs.length = is.length ∧ WSs W k ss Q ((setAll ρ is xs).set i none) (some (i, [])) σ') σ) : WSs W k (.cons (.swapOwn i is es) ss) Q ρ none σ := by
  exact ⟨rfl, h⟩
theorem WSs.swapRep {i : Nat} {n : E} {is : List Nat} {es : Es} (h : WE W k ρ n (fun v σ' => ∃ m : Nat, v = .int m ∧ m ≤ sizeLine ∧ WEs W k ρ es (fun xs σ'' => xs.length = is.length ∧ WSs W k ss Q ((setAll ρ is xs).set i none) (some (i, List.replicate m 0)) σ'') σ') σ) :
    WSs W k (.cons (.swapRep i n is es) ss) Q ρ none σ := by
  exact ⟨rfl, h⟩
theorem WSs.two {i j : Nat} {e : E} (h : WE W k ρ e (fun v σ' => onP v fun x y => WSs W k ss Q ((ρ.set i (some x)).set j (some y)) o σ') σ) (h1 : noOwn o i := by first | exact trivial | (show (_ ≠ _); decide)) (h2 : noOwn o j := by first | exact trivial | (show (_ ≠ _); decide)) :
    WSs W k (.cons (.two i j e) ss) Q ρ o σ := by
  exact ⟨h1, h2, h⟩
theorem WSs.aug {i : Nat} {op : Operator} {e : E} {x : V} (hx : ρ[i]? = some (some x)) (h : WE W k ρ e (fun v => WAug op x v (fun r σ' => WSs W k ss Q (ρ.set i (some r)) o σ')) σ) (h1 : noOwn o i := by first | exact trivial | (show (_ ≠ _); decide)) :
    WSs W k (.cons (.aug i op e) ss) Q ρ o σ := by
  dsimp only [WSs, WS]; rw [hx]; exact ⟨h1, h⟩
theorem WSs.app {i : Nat} {e : E} {xs : List Int} (h : WE W k ρ e (fun v σ' => onI v fun n => xs.length < sizeLine ∧ WSs W k ss Q ρ (some (i, xs ++ [n])) σ') σ) : WSs W k (.cons (.app i e) ss) Q ρ (some (i, xs)) σ := by
  exact ⟨rfl, h⟩
theorem WSs.box {i : Nat} {b : Bool} {e : E} (h : WE W k ρ e (fun v σ' => onI v fun n => onV ρ[i]? fun x => onBx x (WSs W k ss Q ρ o (if b then (σ'.1, n) else (n, σ'.2)))) σ) : WSs W k (.cons (.box i b e) ss) Q ρ o σ := by
  exact h
theorem WSs.ite {c : E} {t f : Ss} (h : WT W k ρ c (fun b σ' => if b then WSs W k t (fun fl ρ' o' σ' => match fl with | .next => WSs W k ss Q ρ' o' σ' | .ret x => Q (.ret x) ρ' o' σ') ρ o σ' else
    WSs W k f (fun fl ρ' o' σ' => match fl with | .next => WSs W k ss Q ρ' o' σ' | .ret x => Q (.ret x) ρ' o' σ') ρ o σ') σ) : WSs W k (.cons (.ite c t f) ss) Q ρ o σ := by
  exact h
theorem WSs.whl {c : E} {b : Ss} (I : Nat → Row → Own → Bx → Prop) (h0 : ∃ n, I n ρ o σ) (h : ∀ n ρ o σ, I n ρ o σ →
      WT W k ρ c (fun t σ' => if t then WSs W k b (fun fl ρ' o' σ'' => match fl with | .next => ∃ m, m < n ∧ I m ρ' o' σ'' | .ret x => Q (.ret x) ρ' o' σ'') ρ o σ' else WSs W k ss Q ρ o σ') σ) : WSs W k (.cons (.whl c b) ss) Q ρ o σ := by
  exact ⟨I, h0, h⟩
/-- what a loop over xs needs -/
noncomputable def ForQ (W : Wd) (k : Nat) (i : Nat) (b ss : Ss) (Q : PS) (ρ : Row) (o : Own) (σ : Bx) (xs : List Int) : Prop := ∃ I : Nat → Row → Own → Bx → Prop, I 0 ρ o σ ∧
      (∀ n ρ o σ, I n ρ o σ → n < xs.length → noOwn o i ∧ WSs W k b (fun fl ρ' o' σ'' => match fl with | .next => I (n + 1) ρ' o' σ'' | .ret x => Q (.ret x) ρ' o' σ'') (ρ.set i (some (.int (xs.getD n 0)))) o σ) ∧
      ∀ ρ o σ, I xs.length ρ o σ → WSs W k ss Q ρ o σ
theorem ForQ.mk {i : Nat} {b : Ss} {xs : List Int} (I : Nat → Row → Own → Bx → Prop) (h0 : I 0 ρ o σ)
    (h : ∀ n ρ o σ, I n ρ o σ → n < xs.length → noOwn o i ∧ WSs W k b (fun fl ρ' o' σ'' => match fl with | .next => I (n + 1) ρ' o' σ'' | .ret x => Q (.ret x) ρ' o' σ'') (ρ.set i (some (.int (xs.getD n 0)))) o σ)
    (hf : ∀ ρ o σ, I xs.length ρ o σ → WSs W k ss Q ρ o σ) : ForQ W k i b ss Q ρ o σ xs := ⟨I, h0, h, hf⟩
theorem WSs.for_ {i : Nat} {e : E} {b : Ss} (h : WE W k ρ e (fun v σ' => ∃ xs, its v = some xs ∧ itsOk v ∧ ForQ W k i b ss Q ρ o σ' xs) σ) : WSs W k (.cons (.for_ i e b) ss) Q ρ o σ := by
  exact h
theorem WSs.ret {e : E} (h : WE W k (freeze ρ o) e (fun x σ' => Q (.ret x) (freeze ρ o) none σ') σ) : WSs W k (.cons (.ret e) ss) Q ρ o σ := by
  exact h
end

/-! ints that are naturals -/
theorem fdiv_nat (a b : Nat) : (a : Int).fdiv (b : Int) = ((a / b : Nat) : Int) := by
  rw [Int.fdiv_eq_ediv_of_nonneg _ (Int.natCast_nonneg b)]; simp
theorem fmod_nat (a b : Nat) : (a : Int).fmod (b : Int) = ((a % b : Nat) : Int) := by
  rw [Int.fmod_eq_emod_of_nonneg _ (Int.natCast_nonneg b)]; simp
theorem two_pow (w : Nat) : (2 : Int) ^ ((w : Int).toNat) = ((2 ^ w : Nat) : Int) := by simp
theorem one_shl (w : Nat) : (1 : Int) * 2 ^ ((w : Int).toNat) = ((2 ^ w : Nat) : Int) := by simp
theorem shr (a w : Nat) : (a : Int).fdiv (2 ^ ((w : Int).toNat)) = ((a / 2 ^ w : Nat) : Int) := by rw [two_pow, fdiv_nat]
theorem shl (a w : Nat) : (a : Int) * (2 ^ ((w : Int).toNat)) = ((a * 2 ^ w : Nat) : Int) := by simp
theorem and_mask (c w : Nat) : Builtin.bitAnd (c : Int) (((2 ^ w : Nat) : Int) - 1) = ((c % 2 ^ w : Nat) : Int) := by
  have h : 0 < 2 ^ w := Nat.pow_pos (by decide)
  have e : (((2 ^ w : Nat) : Int) - 1) = ((2 ^ w - 1 : Nat) : Int) := by omega
  rw [e]
  unfold Builtin.bitAnd
  simp only [Int.natCast_nonneg, decide_true, Int.toNat_natCast, Nat.and_two_pow_sub_one_eq_mod]
theorem or_nat (a b : Nat) : Builtin.bitOr (a : Int) (b : Int) = ((a ||| b : Nat) : Int) := by
  unfold Builtin.bitOr Builtin.bitAnd
  have n1 : ∀ a : Nat, Builtin.bitNot (a : Int) < 0 := fun a => by unfold Builtin.bitNot; omega
  have n2 : ∀ a : Int, Builtin.bitNot (Builtin.bitNot a) = a := fun a => by unfold Builtin.bitNot; omega
  rw [decide_eq_false (by have := n1 a; omega), decide_eq_false (by have := n1 b; omega)]
  simp only [n2, Int.toNat_natCast]
theorem or_add {a f : Nat} (b : Nat) (h : a < 2 ^ f) : Builtin.bitOr (a : Int) ((b * 2 ^ f : Nat) : Int) = ((a + b * 2 ^ f : Nat) : Int) := by
  rw [or_nat, Nat.or_comm, ← Nat.shiftLeft_eq, ← Nat.shiftLeft_add_eq_or_of_lt h, Nat.shiftLeft_eq, Nat.add_comm]
theorem clip_nat (n i : Nat) : clip n (i : Int) = min i n := by unfold clip; rw [if_neg (by omega)]; omega

theorem orAnd : (BoolOp.Or == BoolOp.And) = false := rfl
theorem andAnd : (BoolOp.And == BoolOp.And) = true := rfl

end
section
open PySem PySem.W PyProof.Rows


theorem WSub_at {xs : List Int} {i : Int} (j : Nat) {Q : V → Bx → Prop} {σ : Bx} (e : i = (j : Int)) (h : j < xs.length) (hQ : Q (.int (xs.getD j 0)) σ) : WSub (.list xs) (.int i) Q σ := by
  subst e
  exact .inl ⟨by omega, by omega, by simpa using hQ⟩

theorem m_normal {W : Wd} {k B n z : Nat} {Q : V → Bx → Prop} {σ : Bx} (hB : 2 ≤ B) (hz : z < B ^ n) (hQ : Q (.list (row B z)) σ) : Meets W (k + 1) "normal" [.list (low B n z)] Q σ := by
  refine meets c_normal rfl ?_
  refine WSs.set ?_
  try simp only [orAnd,andAnd,Za,Zb,Zc,Zd,Ze,Zf,Zg,Zh,Zi,Zj,Zk,Zl,Zm,Zn,Zo,Zp,Zq,Zr,Zs,Zt,Zu,Zv,Zw,Zx,Zy,Zz,ZA,ZB,ZC,ZD,ZE,ZF,ZG,ZH,ZI,ZJ,ZK,ZL,ZM,ZN,ZO,ZP,ZQ,ZR,ZS,ZT,ZU,ZV,ZW,ZX,ZY,ZZ,Ya,Yb,Yc,Yd,Ye,Yf,Yg,Yh,Yi,Yj,Yk,Yl,Ym,Yn,Yo,Yp,Yq,Yr,Ys,Yt,Yu,Yv,Yw,Yx,Yy,Yz,YA,YB,YC,YD,YE,YF,YG,YH,YI,row₀,List.getElem?_cons_zero,List.getElem?_cons_succ,List.set_cons_zero,List.set_cons_succ,List.map_cons,List.map_nil,List.length_cons,List.length_nil,List.replicate,List.cons_append,List.nil_append,Nat.reduceAdd,Nat.reduceSub,List.mem_cons,List.not_mem_nil,or_false,forall_eq_or_imp,forall_eq,implies_true,true_and,and_true,if_true,if_false,Bool.false_eq_true,decide_eq_true_eq,Bool.not_eq_true',decide_eq_false_iff_not,Bool.not_eq_eq_eq_not,Bool.not_true,Bool.not_false,beq_self_eq_true,reduceCtorEq,beq_iff_eq,low_length,row_length,fdiv_nat,fmod_nat,two_pow,one_shl,shr,shl,and_mask,clip_nat,Int.one_mul]
  refine WSs.whl (fun m ρ o σ' => ρ = [some (.list (low B n z)), some (.int (m : Nat))] ∧ o = none ∧ σ = σ' ∧ m ≤ n ∧ z < B ^ m) ⟨n, rfl, rfl, rfl, Nat.le_refl _, hz⟩ ?_
  rintro m _ _ _ ⟨rfl, rfl, rfl, hm, hzm⟩
  try simp only [orAnd,andAnd,Za,Zb,Zc,Zd,Ze,Zf,Zg,Zh,Zi,Zj,Zk,Zl,Zm,Zn,Zo,Zp,Zq,Zr,Zs,Zt,Zu,Zv,Zw,Zx,Zy,Zz,ZA,ZB,ZC,ZD,ZE,ZF,ZG,ZH,ZI,ZJ,ZK,ZL,ZM,ZN,ZO,ZP,ZQ,ZR,ZS,ZT,ZU,ZV,ZW,ZX,ZY,ZZ,Ya,Yb,Yc,Yd,Ye,Yf,Yg,Yh,Yi,Yj,Yk,Yl,Ym,Yn,Yo,Yp,Yq,Yr,Ys,Yt,Yu,Yv,Yw,Yx,Yy,Yz,YA,YB,YC,YD,YE,YF,YG,YH,YI,row₀,List.getElem?_cons_zero,List.getElem?_cons_succ,List.set_cons_zero,List.set_cons_succ,List.map_cons,List.map_nil,List.length_cons,List.length_nil,List.replicate,List.cons_append,List.nil_append,Nat.reduceAdd,Nat.reduceSub,List.mem_cons,List.not_mem_nil,or_false,forall_eq_or_imp,forall_eq,implies_true,true_and,and_true,if_true,if_false,Bool.false_eq_true,decide_eq_true_eq,Bool.not_eq_true',decide_eq_false_iff_not,Bool.not_eq_eq_eq_not,Bool.not_true,Bool.not_false,beq_self_eq_true,reduceCtorEq,beq_iff_eq,low_length,row_length,fdiv_nat,fmod_nat,two_pow,one_shl,shr,shl,and_mask,clip_nat,Int.one_mul]
  by_cases h0 : (0 : Int) < m
  · rw [if_pos h0]
    obtain ⟨j, rfl⟩ : ∃ j, m = j + 1 := ⟨m - 1, by omega⟩
    refine WSub_at j (by omega) (by rw [low_length]; omega) ?_
    rw [low_getD _ _ (by omega)]
    have ht := dig_top hB hzm
    by_cases h1 : dig B z j = 0
    · try simp only [orAnd,andAnd,Za,Zb,Zc,Zd,Ze,Zf,Zg,Zh,Zi,Zj,Zk,Zl,Zm,Zn,Zo,Zp,Zq,Zr,Zs,Zt,Zu,Zv,Zw,Zx,Zy,Zz,ZA,ZB,ZC,ZD,ZE,ZF,ZG,ZH,ZI,ZJ,ZK,ZL,ZM,ZN,ZO,ZP,ZQ,ZR,ZS,ZT,ZU,ZV,ZW,ZX,ZY,ZZ,Ya,Yb,Yc,Yd,Ye,Yf,Yg,Yh,Yi,Yj,Yk,Yl,Ym,Yn,Yo,Yp,Yq,Yr,Ys,Yt,Yu,Yv,Yw,Yx,Yy,Yz,YA,YB,YC,YD,YE,YF,YG,YH,YI,row₀,List.getElem?_cons_zero,List.getElem?_cons_succ,List.set_cons_zero,List.set_cons_succ,List.map_cons,List.map_nil,List.length_cons,List.length_nil,List.replicate,List.cons_append,List.nil_append,Nat.reduceAdd,Nat.reduceSub,List.mem_cons,List.not_mem_nil,or_false,forall_eq_or_imp,forall_eq,implies_true,true_and,and_true,if_true,if_false,Bool.false_eq_true,decide_eq_true_eq,Bool.not_eq_true',decide_eq_false_iff_not,Bool.not_eq_eq_eq_not,Bool.not_true,Bool.not_false,beq_self_eq_true,reduceCtorEq,beq_iff_eq,low_length,row_length,fdiv_nat,fmod_nat,two_pow,one_shl,shr,shl,and_mask,clip_nat,Int.one_mul]
      rw [if_pos (by omega)]
      refine WSs.aug rfl ?_
      try simp only [orAnd,andAnd,Za,Zb,Zc,Zd,Ze,Zf,Zg,Zh,Zi,Zj,Zk,Zl,Zm,Zn,Zo,Zp,Zq,Zr,Zs,Zt,Zu,Zv,Zw,Zx,Zy,Zz,ZA,ZB,ZC,ZD,ZE,ZF,ZG,ZH,ZI,ZJ,ZK,ZL,ZM,ZN,ZO,ZP,ZQ,ZR,ZS,ZT,ZU,ZV,ZW,ZX,ZY,ZZ,Ya,Yb,Yc,Yd,Ye,Yf,Yg,Yh,Yi,Yj,Yk,Yl,Ym,Yn,Yo,Yp,Yq,Yr,Ys,Yt,Yu,Yv,Yw,Yx,Yy,Yz,YA,YB,YC,YD,YE,YF,YG,YH,YI,row₀,List.getElem?_cons_zero,List.getElem?_cons_succ,List.set_cons_zero,List.set_cons_succ,List.map_cons,List.map_nil,List.length_cons,List.length_nil,List.replicate,List.cons_append,List.nil_append,Nat.reduceAdd,Nat.reduceSub,List.mem_cons,List.not_mem_nil,or_false,forall_eq_or_imp,forall_eq,implies_true,true_and,and_true,if_true,if_false,Bool.false_eq_true,decide_eq_true_eq,Bool.not_eq_true',decide_eq_false_iff_not,Bool.not_eq_eq_eq_not,Bool.not_true,Bool.not_false,beq_self_eq_true,reduceCtorEq,beq_iff_eq,low_length,row_length,fdiv_nat,fmod_nat,two_pow,one_shl,shr,shl,and_mask,clip_nat,Int.one_mul]
      refine WSs.nil ⟨j, by omega, by simp, rfl, rfl, by omega, ?_⟩
      rw [ht, Nat.div_eq_zero_iff] at h1
      have := Nat.pow_pos (n := j) (show 0 < B by omega)
      omega
    · try simp only [orAnd,andAnd,Za,Zb,Zc,Zd,Ze,Zf,Zg,Zh,Zi,Zj,Zk,Zl,Zm,Zn,Zo,Zp,Zq,Zr,Zs,Zt,Zu,Zv,Zw,Zx,Zy,Zz,ZA,ZB,ZC,ZD,ZE,ZF,ZG,ZH,ZI,ZJ,ZK,ZL,ZM,ZN,ZO,ZP,ZQ,ZR,ZS,ZT,ZU,ZV,ZW,ZX,ZY,ZZ,Ya,Yb,Yc,Yd,Ye,Yf,Yg,Yh,Yi,Yj,Yk,Yl,Ym,Yn,Yo,Yp,Yq,Yr,Ys,Yt,Yu,Yv,Yw,Yx,Yy,Yz,YA,YB,YC,YD,YE,YF,YG,YH,YI,row₀,List.getElem?_cons_zero,List.getElem?_cons_succ,List.set_cons_zero,List.set_cons_succ,List.map_cons,List.map_nil,List.length_cons,List.length_nil,List.replicate,List.cons_append,List.nil_append,Nat.reduceAdd,Nat.reduceSub,List.mem_cons,List.not_mem_nil,or_false,forall_eq_or_imp,forall_eq,implies_true,true_and,and_true,if_true,if_false,Bool.false_eq_true,decide_eq_true_eq,Bool.not_eq_true',decide_eq_false_iff_not,Bool.not_eq_eq_eq_not,Bool.not_true,Bool.not_false,beq_self_eq_true,reduceCtorEq,beq_iff_eq,low_length,row_length,fdiv_nat,fmod_nat,two_pow,one_shl,shr,shl,and_mask,clip_nat,Int.one_mul]
      rw [if_neg (by omega), if_neg (by omega)]
      refine WSs.ret ?_
      try simp only [orAnd,andAnd,Za,Zb,Zc,Zd,Ze,Zf,Zg,Zh,Zi,Zj,Zk,Zl,Zm,Zn,Zo,Zp,Zq,Zr,Zs,Zt,Zu,Zv,Zw,Zx,Zy,Zz,ZA,ZB,ZC,ZD,ZE,ZF,ZG,ZH,ZI,ZJ,ZK,ZL,ZM,ZN,ZO,ZP,ZQ,ZR,ZS,ZT,ZU,ZV,ZW,ZX,ZY,ZZ,Ya,Yb,Yc,Yd,Ye,Yf,Yg,Yh,Yi,Yj,Yk,Yl,Ym,Yn,Yo,Yp,Yq,Yr,Ys,Yt,Yu,Yv,Yw,Yx,Yy,Yz,YA,YB,YC,YD,YE,YF,YG,YH,YI,row₀,List.getElem?_cons_zero,List.getElem?_cons_succ,List.set_cons_zero,List.set_cons_succ,List.map_cons,List.map_nil,List.length_cons,List.length_nil,List.replicate,List.cons_append,List.nil_append,Nat.reduceAdd,Nat.reduceSub,List.mem_cons,List.not_mem_nil,or_false,forall_eq_or_imp,forall_eq,implies_true,true_and,and_true,if_true,if_false,Bool.false_eq_true,decide_eq_true_eq,Bool.not_eq_true',decide_eq_false_iff_not,Bool.not_eq_eq_eq_not,Bool.not_true,Bool.not_false,beq_self_eq_true,reduceCtorEq,beq_iff_eq,low_length,row_length,fdiv_nat,fmod_nat,two_pow,one_shl,shr,shl,and_mask,clip_nat,Int.one_mul]
      rw [low_take, show min (min (j + 1) n) n = j + 1 by omega, ← row_of hB hzm (.inr ?_)]
      · exact hQ
      · rw [ht] at h1
        rcases Nat.lt_or_ge z (B ^ j) with q | q
        · exact absurd (Nat.div_eq_of_lt q) h1
        · exact q
  · rw [if_neg h0, if_neg h0]
    have : m = 0 := by omega
    subst this
    refine WSs.ret ?_
    try simp only [orAnd,andAnd,Za,Zb,Zc,Zd,Ze,Zf,Zg,Zh,Zi,Zj,Zk,Zl,Zm,Zn,Zo,Zp,Zq,Zr,Zs,Zt,Zu,Zv,Zw,Zx,Zy,Zz,ZA,ZB,ZC,ZD,ZE,ZF,ZG,ZH,ZI,ZJ,ZK,ZL,ZM,ZN,ZO,ZP,ZQ,ZR,ZS,ZT,ZU,ZV,ZW,ZX,ZY,ZZ,Ya,Yb,Yc,Yd,Ye,Yf,Yg,Yh,Yi,Yj,Yk,Yl,Ym,Yn,Yo,Yp,Yq,Yr,Ys,Yt,Yu,Yv,Yw,Yx,Yy,Yz,YA,YB,YC,YD,YE,YF,YG,YH,YI,row₀,List.getElem?_cons_zero,List.getElem?_cons_succ,List.set_cons_zero,List.set_cons_succ,List.map_cons,List.map_nil,List.length_cons,List.length_nil,List.replicate,List.cons_append,List.nil_append,Nat.reduceAdd,Nat.reduceSub,List.mem_cons,List.not_mem_nil,or_false,forall_eq_or_imp,forall_eq,implies_true,true_and,and_true,if_true,if_false,Bool.false_eq_true,decide_eq_true_eq,Bool.not_eq_true',decide_eq_false_iff_not,Bool.not_eq_eq_eq_not,Bool.not_true,Bool.not_false,beq_self_eq_true,reduceCtorEq,beq_iff_eq,low_length,row_length,fdiv_nat,fmod_nat,two_pow,one_shl,shr,shl,and_mask,clip_nat,Int.one_mul]
    have : z = 0 := by simpa using hzm
    subst this
    rw [row_zero] at hQ
    simpa using hQ

end
section
open PySem PySem.W PyProof.Rows
set_option exponentiation.threshold 5000

/-- what the numbers keep below -/
noncomputable def Bd (x : Nat) : Prop := x < 2 ^ 4000
theorem Bd.len {B x : Nat} (hB : 2 ≤ B) (h : Bd x) : len B x ≤ 4000 := len_le hB _ _ (Nat.lt_of_lt_of_le h (Nat.pow_le_pow_left hB 4000))
theorem Bd.le {x y : Nat} (h : Bd y) (hx : x ≤ y) : Bd x := Nat.lt_of_le_of_lt hx h
theorem Bd.of {x n : Nat} (h : x < 2 ^ n) (hn : n ≤ 4000) : Bd x := Nat.lt_of_lt_of_le h (Nat.pow_le_pow_right (by decide) hn)

theorem Small.of {a : Int} (h1 : -4000000 ≤ a) (h2 : a ≤ 4000000) : Small a := ⟨by omega, by omega⟩

theorem rng_up {P : List Int → Prop} {a b : Int} (n : Nat) (hn : (b - a).toNat = n) (ha : Small a) (hb : Small b) (h : ∀ xs : List Int, xs.length = n → (∀ j : Nat, j < n → xs.getD j 0 = a + j) → P xs) : ∃ xs, its (.rng a b 1) = some xs ∧ itsOk (.rng a b 1) ∧ P xs := by
  refine ⟨_, rfl, ⟨ha, hb⟩, h _ (by simpa using hn) fun j hj => ?_⟩
  subst hn
  simp [List.getD_eq_getElem?_getD, hj]
theorem rng_down {P : List Int → Prop} {a b : Int} (n : Nat) (hn : (a - b).toNat = n) (ha : Small a) (hb : Small b) (h : ∀ xs : List Int, xs.length = n → (∀ j : Nat, j < n → xs.getD j 0 = a - j) → P xs) : ∃ xs, its (.rng a b (-1)) = some xs ∧ itsOk (.rng a b (-1)) ∧ P xs := by
  refine ⟨_, rfl, ⟨ha, hb⟩, h _ (by simpa using hn) fun j hj => ?_⟩
  subst hn
  simp [List.getD_eq_getElem?_getD, hj]

noncomputable def cmp3 (x y : Nat) : Int := if x < y then -1 else if x = y then 0 else 1

theorem cmp3_lt (x y : Nat) : cmp3 x y < 0 ↔ x < y := by unfold cmp3; split <;> (try split) <;> omega
theorem cmp3_gt (x y : Nat) : 0 < cmp3 x y ↔ y < x := by unfold cmp3; split <;> (try split) <;> omega
theorem cmp3_ge (x y : Nat) : 0 ≤ cmp3 x y ↔ y ≤ x := by unfold cmp3; split <;> (try split) <;> omega
theorem cmp3_eq (x y : Nat) : cmp3 x y = 0 ↔ x = y := by unfold cmp3; split <;> (try split) <;> omega

section
variable {W : Wd} {k B : Nat} {Q : V → Bx → Prop} {σ : Bx}

theorem m_compare {x y : Nat} (hB : 2 ≤ B) (hx : Bd x) (hy : Bd y) (hQ : Q (.int (cmp3 x y)) σ) : Meets W (k + 1) "compare" [.list (row B x), .list (row B y)] Q σ := by
  have lx := hx.len hB
  have ly := hy.len hB
  refine meets c_compare rfl ?_
  refine WSs.ite ?_
  try simp only [orAnd,andAnd,Za,Zb,Zc,Zd,Ze,Zf,Zg,Zh,Zi,Zj,Zk,Zl,Zm,Zn,Zo,Zp,Zq,Zr,Zs,Zt,Zu,Zv,Zw,Zx,Zy,Zz,ZA,ZB,ZC,ZD,ZE,ZF,ZG,ZH,ZI,ZJ,ZK,ZL,ZM,ZN,ZO,ZP,ZQ,ZR,ZS,ZT,ZU,ZV,ZW,ZX,ZY,ZZ,Ya,Yb,Yc,Yd,Ye,Yf,Yg,Yh,Yi,Yj,Yk,Yl,Ym,Yn,Yo,Yp,Yq,Yr,Ys,Yt,Yu,Yv,Yw,Yx,Yy,Yz,YA,YB,YC,YD,YE,YF,YG,YH,YI,row₀,List.getElem?_cons_zero,List.getElem?_cons_succ,List.set_cons_zero,List.set_cons_succ,List.map_cons,List.map_nil,List.length_cons,List.length_nil,List.replicate,List.cons_append,List.nil_append,Nat.reduceAdd,Nat.reduceSub,List.mem_cons,List.not_mem_nil,or_false,forall_eq_or_imp,forall_eq,implies_true,true_and,and_true,if_true,if_false,Bool.false_eq_true,decide_eq_true_eq,Bool.not_eq_true',decide_eq_false_iff_not,Bool.not_eq_eq_eq_not,Bool.not_true,Bool.not_false,beq_self_eq_true,reduceCtorEq,beq_iff_eq,low_length,row_length,fdiv_nat,fmod_nat,two_pow,one_shl,shr,shl,and_mask,clip_nat,Int.one_mul]
  by_cases hl : len B x = len B y
  · rw [if_neg (by (clear ly lx hQ hy hx hB; (first | omega | (simp; done) | (simp; omega))))]
    refine WSs.nil ?_
    refine WSs.for_ ?_
    try simp only [orAnd,andAnd,Za,Zb,Zc,Zd,Ze,Zf,Zg,Zh,Zi,Zj,Zk,Zl,Zm,Zn,Zo,Zp,Zq,Zr,Zs,Zt,Zu,Zv,Zw,Zx,Zy,Zz,ZA,ZB,ZC,ZD,ZE,ZF,ZG,ZH,ZI,ZJ,ZK,ZL,ZM,ZN,ZO,ZP,ZQ,ZR,ZS,ZT,ZU,ZV,ZW,ZX,ZY,ZZ,Ya,Yb,Yc,Yd,Ye,Yf,Yg,Yh,Yi,Yj,Yk,Yl,Ym,Yn,Yo,Yp,Yq,Yr,Ys,Yt,Yu,Yv,Yw,Yx,Yy,Yz,YA,YB,YC,YD,YE,YF,YG,YH,YI,row₀,List.getElem?_cons_zero,List.getElem?_cons_succ,List.set_cons_zero,List.set_cons_succ,List.map_cons,List.map_nil,List.length_cons,List.length_nil,List.replicate,List.cons_append,List.nil_append,Nat.reduceAdd,Nat.reduceSub,List.mem_cons,List.not_mem_nil,or_false,forall_eq_or_imp,forall_eq,implies_true,true_and,and_true,if_true,if_false,Bool.false_eq_true,decide_eq_true_eq,Bool.not_eq_true',decide_eq_false_iff_not,Bool.not_eq_eq_eq_not,Bool.not_true,Bool.not_false,beq_self_eq_true,reduceCtorEq,beq_iff_eq,low_length,row_length,fdiv_nat,fmod_nat,two_pow,one_shl,shr,shl,and_mask,clip_nat,Int.one_mul]
    refine ⟨.of (by omega) (by omega), .of (by (clear hl ly lx hQ hy hx hB; omega)) (by (clear hl ly lx hQ hy hx hB; omega)), rng_down (len B x) (by (clear lx hQ hy hx hB; omega)) (.of (by omega) (by omega)) (.of (by (clear hl ly lx hQ hy hx hB; omega)) (by (clear hl ly lx hQ hy hx hB; omega))) fun xs hxs hat => ?_⟩
    refine ForQ.mk (fun n ρ o σ' => ∃ q, ρ = [some (.list (row B x)), some (.list (row B y)), q] ∧ o = none ∧ σ = σ' ∧ x / B ^ (len B x - n) = y / B ^ (len B x - n)) ⟨none, rfl, rfl, rfl, ?_⟩ ?_ ?_
    · rw [Nat.sub_zero, Nat.div_eq_of_lt (lt_len hB x), hl, Nat.div_eq_of_lt (lt_len hB y)]
    · rintro n _ _ _ ⟨q, rfl, rfl, rfl, hq⟩ hn
      rw [hxs] at hn
      rw [hat n hn]
      refine ⟨trivial, ?_⟩
      obtain ⟨j, hj⟩ : ∃ j, len B x - n = j + 1 := ⟨len B x - n - 1, by (clear hq hat ly lx hQ hy hx hB; omega)⟩
      have hj' : len B x - (n + 1) = j := by (clear hq hat ly lx hQ hy hx hB; omega)
      have d1 := div_succ B x j
      have d2 := div_succ B y j
      rw [hj] at hq
      rw [hq] at d1
      have p : 0 < B ^ j := Nat.pow_pos (by (clear d2 d1 hj' hj hq hn hat hxs hl ly lx hQ hy hx; omega))
      have dx := dig_lt hB x j
      have dy := dig_lt hB y j
      refine WSs.ite ?_
      try simp only [orAnd,andAnd,Za,Zb,Zc,Zd,Ze,Zf,Zg,Zh,Zi,Zj,Zk,Zl,Zm,Zn,Zo,Zp,Zq,Zr,Zs,Zt,Zu,Zv,Zw,Zx,Zy,Zz,ZA,ZB,ZC,ZD,ZE,ZF,ZG,ZH,ZI,ZJ,ZK,ZL,ZM,ZN,ZO,ZP,ZQ,ZR,ZS,ZT,ZU,ZV,ZW,ZX,ZY,ZZ,Ya,Yb,Yc,Yd,Ye,Yf,Yg,Yh,Yi,Yj,Yk,Yl,Ym,Yn,Yo,Yp,Yq,Yr,Ys,Yt,Yu,Yv,Yw,Yx,Yy,Yz,YA,YB,YC,YD,YE,YF,YG,YH,YI,row₀,List.getElem?_cons_zero,List.getElem?_cons_succ,List.set_cons_zero,List.set_cons_succ,List.map_cons,List.map_nil,List.length_cons,List.length_nil,List.replicate,List.cons_append,List.nil_append,Nat.reduceAdd,Nat.reduceSub,List.mem_cons,List.not_mem_nil,or_false,forall_eq_or_imp,forall_eq,implies_true,true_and,and_true,if_true,if_false,Bool.false_eq_true,decide_eq_true_eq,Bool.not_eq_true',decide_eq_false_iff_not,Bool.not_eq_eq_eq_not,Bool.not_true,Bool.not_false,beq_self_eq_true,reduceCtorEq,beq_iff_eq,low_length,row_length,fdiv_nat,fmod_nat,two_pow,one_shl,shr,shl,and_mask,clip_nat,Int.one_mul]
      refine WSub_at j (by (clear dy dx p d2 d1 hj hq hat ly lx hQ hy hx hB; omega)) (by rw [row_length]; (clear dy dx p d2 d1 hj hq hat ly lx hQ hy hx hB; omega)) ?_
      rw [row_getD hB]
      refine WSub_at j (by omega) (by rw [row_length]; (clear dy dx p d2 d1 hj hq hat ly lx hQ hy hx hB; omega)) ?_
      rw [row_getD hB]
      try simp only [orAnd,andAnd,Za,Zb,Zc,Zd,Ze,Zf,Zg,Zh,Zi,Zj,Zk,Zl,Zm,Zn,Zo,Zp,Zq,Zr,Zs,Zt,Zu,Zv,Zw,Zx,Zy,Zz,ZA,ZB,ZC,ZD,ZE,ZF,ZG,ZH,ZI,ZJ,ZK,ZL,ZM,ZN,ZO,ZP,ZQ,ZR,ZS,ZT,ZU,ZV,ZW,ZX,ZY,ZZ,Ya,Yb,Yc,Yd,Ye,Yf,Yg,Yh,Yi,Yj,Yk,Yl,Ym,Yn,Yo,Yp,Yq,Yr,Ys,Yt,Yu,Yv,Yw,Yx,Yy,Yz,YA,YB,YC,YD,YE,YF,YG,YH,YI,row₀,List.getElem?_cons_zero,List.getElem?_cons_succ,List.set_cons_zero,List.set_cons_succ,List.map_cons,List.map_nil,List.length_cons,List.length_nil,List.replicate,List.cons_append,List.nil_append,Nat.reduceAdd,Nat.reduceSub,List.mem_cons,List.not_mem_nil,or_false,forall_eq_or_imp,forall_eq,implies_true,true_and,and_true,if_true,if_false,Bool.false_eq_true,decide_eq_true_eq,Bool.not_eq_true',decide_eq_false_iff_not,Bool.not_eq_eq_eq_not,Bool.not_true,Bool.not_false,beq_self_eq_true,reduceCtorEq,beq_iff_eq,low_length,row_length,fdiv_nat,fmod_nat,two_pow,one_shl,shr,shl,and_mask,clip_nat,Int.one_mul]
      by_cases hd : dig B x j = dig B y j
      · rw [if_neg (by (clear dy dx p d2 d1 hj' hj hq hn hat hxs hl ly lx hQ hy hx hB; (first | omega | (simp; done) | (simp; omega))))]
        refine WSs.nil (WSs.nil ⟨_, rfl, rfl, rfl, ?_⟩)
        rw [hj', d1, d2, hd]
      · rw [if_pos (by (clear dy dx p d2 d1 hj' hj hq hn hat hxs hl ly lx hQ hy hx hB; (first | omega | (simp; done) | (simp; omega))))]
        refine WSs.ret ?_
        try simp only [orAnd,andAnd,Za,Zb,Zc,Zd,Ze,Zf,Zg,Zh,Zi,Zj,Zk,Zl,Zm,Zn,Zo,Zp,Zq,Zr,Zs,Zt,Zu,Zv,Zw,Zx,Zy,Zz,ZA,ZB,ZC,ZD,ZE,ZF,ZG,ZH,ZI,ZJ,ZK,ZL,ZM,ZN,ZO,ZP,ZQ,ZR,ZS,ZT,ZU,ZV,ZW,ZX,ZY,ZZ,Ya,Yb,Yc,Yd,Ye,Yf,Yg,Yh,Yi,Yj,Yk,Yl,Ym,Yn,Yo,Yp,Yq,Yr,Ys,Yt,Yu,Yv,Yw,Yx,Yy,Yz,YA,YB,YC,YD,YE,YF,YG,YH,YI,row₀,List.getElem?_cons_zero,List.getElem?_cons_succ,List.set_cons_zero,List.set_cons_succ,List.map_cons,List.map_nil,List.length_cons,List.length_nil,List.replicate,List.cons_append,List.nil_append,Nat.reduceAdd,Nat.reduceSub,List.mem_cons,List.not_mem_nil,or_false,forall_eq_or_imp,forall_eq,implies_true,true_and,and_true,if_true,if_false,Bool.false_eq_true,decide_eq_true_eq,Bool.not_eq_true',decide_eq_false_iff_not,Bool.not_eq_eq_eq_not,Bool.not_true,Bool.not_false,beq_self_eq_true,reduceCtorEq,beq_iff_eq,low_length,row_length,fdiv_nat,fmod_nat,two_pow,one_shl,shr,shl,and_mask,clip_nat,Int.one_mul]
        refine WSub_at j (by omega) (by rw [row_length]; omega) ?_
        rw [row_getD hB]
        refine WSub_at j (by omega) (by rw [row_length]; omega) ?_
        rw [row_getD hB]
        try simp only [orAnd,andAnd,Za,Zb,Zc,Zd,Ze,Zf,Zg,Zh,Zi,Zj,Zk,Zl,Zm,Zn,Zo,Zp,Zq,Zr,Zs,Zt,Zu,Zv,Zw,Zx,Zy,Zz,ZA,ZB,ZC,ZD,ZE,ZF,ZG,ZH,ZI,ZJ,ZK,ZL,ZM,ZN,ZO,ZP,ZQ,ZR,ZS,ZT,ZU,ZV,ZW,ZX,ZY,ZZ,Ya,Yb,Yc,Yd,Ye,Yf,Yg,Yh,Yi,Yj,Yk,Yl,Ym,Yn,Yo,Yp,Yq,Yr,Ys,Yt,Yu,Yv,Yw,Yx,Yy,Yz,YA,YB,YC,YD,YE,YF,YG,YH,YI,row₀,List.getElem?_cons_zero,List.getElem?_cons_succ,List.set_cons_zero,List.set_cons_succ,List.map_cons,List.map_nil,List.length_cons,List.length_nil,List.replicate,List.cons_append,List.nil_append,Nat.reduceAdd,Nat.reduceSub,List.mem_cons,List.not_mem_nil,or_false,forall_eq_or_imp,forall_eq,implies_true,true_and,and_true,if_true,if_false,Bool.false_eq_true,decide_eq_true_eq,Bool.not_eq_true',decide_eq_false_iff_not,Bool.not_eq_eq_eq_not,Bool.not_true,Bool.not_false,beq_self_eq_true,reduceCtorEq,beq_iff_eq,low_length,row_length,fdiv_nat,fmod_nat,two_pow,one_shl,shr,shl,and_mask,clip_nat,Int.one_mul]
        by_cases hlt : dig B x j < dig B y j
        · rw [if_pos (by (clear hd dy dx p d2 d1 hj' hj hq hn hat hxs hl ly lx hQ hy hx hB; omega))]
          have : x < y := by
            have h3 : x / B ^ j < y / B ^ j := by (clear hd dy dx p hj' hj hq hn hat hxs hl ly lx hQ hy hx hB; omega)
            rcases Nat.lt_or_ge x y with q | q
            · exact q
            · have := Nat.div_le_div_right (c := B ^ j) q; (clear q h3 hd dy dx p hj' hj hq hn hat hxs hl ly lx hQ hy hx hB; omega)
          unfold cmp3 at hQ; rw [if_pos this] at hQ; exact hQ
        · rw [if_neg (by (clear hd dy dx p d2 d1 hj' hj hq hn hat hxs hl ly lx hQ hy hx hB; omega))]
          have : y < x := by
            have h3 : y / B ^ j < x / B ^ j := by (clear dy dx p hj' hj hq hn hat hxs hl ly lx hQ hy hx hB; omega)
            rcases Nat.lt_or_ge y x with q | q
            · exact q
            · have := Nat.div_le_div_right (c := B ^ j) q; (clear q hlt hd dy dx p hj' hj hq hn hat hxs hl ly lx hQ hy hx hB; omega)
          unfold cmp3 at hQ; rw [if_neg (by (clear hlt hd dy dx p d2 d1 hj' hj hq hn hat hxs hl ly lx hQ hy hx hB; omega)), if_neg (by (clear hlt hd dy dx p d2 d1 hj' hj hq hn hat hxs hl ly lx hQ hy hx hB; omega))] at hQ; exact hQ
    · rintro _ _ _ ⟨q, rfl, rfl, rfl, hq⟩
      rw [hxs, Nat.sub_self] at hq
      refine WSs.ret ?_
      try simp only [orAnd,andAnd,Za,Zb,Zc,Zd,Ze,Zf,Zg,Zh,Zi,Zj,Zk,Zl,Zm,Zn,Zo,Zp,Zq,Zr,Zs,Zt,Zu,Zv,Zw,Zx,Zy,Zz,ZA,ZB,ZC,ZD,ZE,ZF,ZG,ZH,ZI,ZJ,ZK,ZL,ZM,ZN,ZO,ZP,ZQ,ZR,ZS,ZT,ZU,ZV,ZW,ZX,ZY,ZZ,Ya,Yb,Yc,Yd,Ye,Yf,Yg,Yh,Yi,Yj,Yk,Yl,Ym,Yn,Yo,Yp,Yq,Yr,Ys,Yt,Yu,Yv,Yw,Yx,Yy,Yz,YA,YB,YC,YD,YE,YF,YG,YH,YI,row₀,List.getElem?_cons_zero,List.getElem?_cons_succ,List.set_cons_zero,List.set_cons_succ,List.map_cons,List.map_nil,List.length_cons,List.length_nil,List.replicate,List.cons_append,List.nil_append,Nat.reduceAdd,Nat.reduceSub,List.mem_cons,List.not_mem_nil,or_false,forall_eq_or_imp,forall_eq,implies_true,true_and,and_true,if_true,if_false,Bool.false_eq_true,decide_eq_true_eq,Bool.not_eq_true',decide_eq_false_iff_not,Bool.not_eq_eq_eq_not,Bool.not_true,Bool.not_false,beq_self_eq_true,reduceCtorEq,beq_iff_eq,low_length,row_length,fdiv_nat,fmod_nat,two_pow,one_shl,shr,shl,and_mask,clip_nat,Int.one_mul]
      have : x = y := by simpa using hq
      unfold cmp3 at hQ; rw [if_neg (by (clear hq hat hxs hl ly lx hQ hy hx hB; omega)), if_pos this] at hQ; exact hQ
  · rw [if_pos (by (clear ly lx hQ hy hx hB; (first | omega | (simp; done) | (simp; omega))))]
    refine WSs.ret ?_
    try simp only [orAnd,andAnd,Za,Zb,Zc,Zd,Ze,Zf,Zg,Zh,Zi,Zj,Zk,Zl,Zm,Zn,Zo,Zp,Zq,Zr,Zs,Zt,Zu,Zv,Zw,Zx,Zy,Zz,ZA,ZB,ZC,ZD,ZE,ZF,ZG,ZH,ZI,ZJ,ZK,ZL,ZM,ZN,ZO,ZP,ZQ,ZR,ZS,ZT,ZU,ZV,ZW,ZX,ZY,ZZ,Ya,Yb,Yc,Yd,Ye,Yf,Yg,Yh,Yi,Yj,Yk,Yl,Ym,Yn,Yo,Yp,Yq,Yr,Ys,Yt,Yu,Yv,Yw,Yx,Yy,Yz,YA,YB,YC,YD,YE,YF,YG,YH,YI,row₀,List.getElem?_cons_zero,List.getElem?_cons_succ,List.set_cons_zero,List.set_cons_succ,List.map_cons,List.map_nil,List.length_cons,List.length_nil,List.replicate,List.cons_append,List.nil_append,Nat.reduceAdd,Nat.reduceSub,List.mem_cons,List.not_mem_nil,or_false,forall_eq_or_imp,forall_eq,implies_true,true_and,and_true,if_true,if_false,Bool.false_eq_true,decide_eq_true_eq,Bool.not_eq_true',decide_eq_false_iff_not,Bool.not_eq_eq_eq_not,Bool.not_true,Bool.not_false,beq_self_eq_true,reduceCtorEq,beq_iff_eq,low_length,row_length,fdiv_nat,fmod_nat,two_pow,one_shl,shr,shl,and_mask,clip_nat,Int.one_mul]
    by_cases hlt : len B x < len B y
    · rw [if_pos (by (clear hl ly lx hQ hy hx hB; omega))]
      have : x < y := by
        rcases Nat.lt_or_ge x y with q | q
        · exact q
        · have := len_mono hB q; (clear q hl ly lx hQ hy hx hB; omega)
      unfold cmp3 at hQ; rw [if_pos this] at hQ; exact hQ
    · rw [if_neg (by (clear hl ly lx hQ hy hx hB; omega))]
      have : y < x := by
        rcases Nat.lt_or_ge y x with q | q
        · exact q
        · have := len_mono hB q; (clear q ly lx hQ hy hx hB; omega)
      unfold cmp3 at hQ; rw [if_neg (by (clear hlt hl ly lx hQ hy hx hB; omega)), if_neg (by (clear hlt hl ly lx hQ hy hx hB; omega))] at hQ; exact hQ

theorem m_down {x s : Nat} (hB : 2 ≤ B) (hQ : Q (.list (row B (x / B ^ s))) σ) : Meets W (k + 1) "down" [.list (row B x), .int s] Q σ := by
  refine meets c_down rfl ?_
  refine WSs.ret ?_
  try simp only [orAnd,andAnd,Za,Zb,Zc,Zd,Ze,Zf,Zg,Zh,Zi,Zj,Zk,Zl,Zm,Zn,Zo,Zp,Zq,Zr,Zs,Zt,Zu,Zv,Zw,Zx,Zy,Zz,ZA,ZB,ZC,ZD,ZE,ZF,ZG,ZH,ZI,ZJ,ZK,ZL,ZM,ZN,ZO,ZP,ZQ,ZR,ZS,ZT,ZU,ZV,ZW,ZX,ZY,ZZ,Ya,Yb,Yc,Yd,Ye,Yf,Yg,Yh,Yi,Yj,Yk,Yl,Ym,Yn,Yo,Yp,Yq,Yr,Ys,Yt,Yu,Yv,Yw,Yx,Yy,Yz,YA,YB,YC,YD,YE,YF,YG,YH,YI,row₀,List.getElem?_cons_zero,List.getElem?_cons_succ,List.set_cons_zero,List.set_cons_succ,List.map_cons,List.map_nil,List.length_cons,List.length_nil,List.replicate,List.cons_append,List.nil_append,Nat.reduceAdd,Nat.reduceSub,List.mem_cons,List.not_mem_nil,or_false,forall_eq_or_imp,forall_eq,implies_true,true_and,and_true,if_true,if_false,Bool.false_eq_true,decide_eq_true_eq,Bool.not_eq_true',decide_eq_false_iff_not,Bool.not_eq_eq_eq_not,Bool.not_true,Bool.not_false,beq_self_eq_true,reduceCtorEq,beq_iff_eq,low_length,row_length,fdiv_nat,fmod_nat,two_pow,one_shl,shr,shl,and_mask,clip_nat,Int.one_mul]
  rw [← row_drop hB] at hQ
  have : (row B x).drop (min s (len B x)) = (row B x).drop s := by
    rcases Nat.le_total s (len B x) with h | h
    · rw [Nat.min_eq_left h]
    · rw [Nat.min_eq_right h, List.drop_eq_nil_of_le (by rw [row_length]; exact Nat.le_refl _), List.drop_eq_nil_of_le (by rw [row_length]; exact h)]
  rw [this]; exact hQ

theorem take_low {x s : Nat} : (row B x).take (min s (len B x)) = low B (min s (len B x)) x := by
  unfold row; rw [low_take, Nat.min_eq_left (Nat.min_le_right ..)]
theorem mod_min {x s : Nat} (hB : 2 ≤ B) : x % B ^ min s (len B x) = x % B ^ s := by
  rcases Nat.le_total s (len B x) with h | h
  · rw [Nat.min_eq_left h]
  · rw [Nat.min_eq_right h, Nat.mod_eq_of_lt (lt_len hB x), Nat.mod_eq_of_lt (Nat.lt_of_lt_of_le (lt_len hB x) (Nat.pow_le_pow_right (by omega) h))]
theorem m_normal' {x s : Nat} (hB : 2 ≤ B) (hQ : Q (.list (row B (x % B ^ s))) σ) : Meets W (k + 1) "normal" [.list ((row B x).take (min s (len B x)))] Q σ := by
  rw [take_low, ← low_mod]
  refine m_normal hB (Nat.mod_lt _ (Nat.pow_pos (by omega))) ?_
  rw [mod_min hB]; exact hQ

theorem m_lowest {x s : Nat} (hB : 2 ≤ B) (hQ : Q (.list (row B (x % B ^ s))) σ) : Meets W (k + 2) "lowest" [.list (row B x), .int s] Q σ := by
  refine meets c_lowest rfl ?_
  refine WSs.ret ?_
  try simp only [orAnd,andAnd,Za,Zb,Zc,Zd,Ze,Zf,Zg,Zh,Zi,Zj,Zk,Zl,Zm,Zn,Zo,Zp,Zq,Zr,Zs,Zt,Zu,Zv,Zw,Zx,Zy,Zz,ZA,ZB,ZC,ZD,ZE,ZF,ZG,ZH,ZI,ZJ,ZK,ZL,ZM,ZN,ZO,ZP,ZQ,ZR,ZS,ZT,ZU,ZV,ZW,ZX,ZY,ZZ,Ya,Yb,Yc,Yd,Ye,Yf,Yg,Yh,Yi,Yj,Yk,Yl,Ym,Yn,Yo,Yp,Yq,Yr,Ys,Yt,Yu,Yv,Yw,Yx,Yy,Yz,YA,YB,YC,YD,YE,YF,YG,YH,YI,row₀,List.getElem?_cons_zero,List.getElem?_cons_succ,List.set_cons_zero,List.set_cons_succ,List.map_cons,List.map_nil,List.length_cons,List.length_nil,List.replicate,List.cons_append,List.nil_append,Nat.reduceAdd,Nat.reduceSub,List.mem_cons,List.not_mem_nil,or_false,forall_eq_or_imp,forall_eq,implies_true,true_and,and_true,if_true,if_false,Bool.false_eq_true,decide_eq_true_eq,Bool.not_eq_true',decide_eq_false_iff_not,Bool.not_eq_eq_eq_not,Bool.not_true,Bool.not_false,beq_self_eq_true,reduceCtorEq,beq_iff_eq,low_length,row_length,fdiv_nat,fmod_nat,two_pow,one_shl,shr,shl,and_mask,clip_nat,Int.one_mul]
  exact m_normal' hB hQ

theorem m_split {x s : Nat} (hB : 2 ≤ B) (hQ : Q (.pair (.list (row B (x % B ^ s))) (.list (row B (x / B ^ s)))) σ) : Meets W (k + 2) "split" [.list (row B x), .int s] Q σ := by
  refine meets c_split rfl ?_
  refine WSs.ret ?_
  try simp only [orAnd,andAnd,Za,Zb,Zc,Zd,Ze,Zf,Zg,Zh,Zi,Zj,Zk,Zl,Zm,Zn,Zo,Zp,Zq,Zr,Zs,Zt,Zu,Zv,Zw,Zx,Zy,Zz,ZA,ZB,ZC,ZD,ZE,ZF,ZG,ZH,ZI,ZJ,ZK,ZL,ZM,ZN,ZO,ZP,ZQ,ZR,ZS,ZT,ZU,ZV,ZW,ZX,ZY,ZZ,Ya,Yb,Yc,Yd,Ye,Yf,Yg,Yh,Yi,Yj,Yk,Yl,Ym,Yn,Yo,Yp,Yq,Yr,Ys,Yt,Yu,Yv,Yw,Yx,Yy,Yz,YA,YB,YC,YD,YE,YF,YG,YH,YI,row₀,List.getElem?_cons_zero,List.getElem?_cons_succ,List.set_cons_zero,List.set_cons_succ,List.map_cons,List.map_nil,List.length_cons,List.length_nil,List.replicate,List.cons_append,List.nil_append,Nat.reduceAdd,Nat.reduceSub,List.mem_cons,List.not_mem_nil,or_false,forall_eq_or_imp,forall_eq,implies_true,true_and,and_true,if_true,if_false,Bool.false_eq_true,decide_eq_true_eq,Bool.not_eq_true',decide_eq_false_iff_not,Bool.not_eq_eq_eq_not,Bool.not_true,Bool.not_false,beq_self_eq_true,reduceCtorEq,beq_iff_eq,low_length,row_length,fdiv_nat,fmod_nat,two_pow,one_shl,shr,shl,and_mask,clip_nat,Int.one_mul]
  refine m_normal' hB ?_
  rw [← row_drop hB] at hQ
  have : (row B x).drop (min s (len B x)) = (row B x).drop s := by
    rcases Nat.le_total s (len B x) with h | h
    · rw [Nat.min_eq_left h]
    · rw [Nat.min_eq_right h, List.drop_eq_nil_of_le (by rw [row_length]; exact Nat.le_refl _), List.drop_eq_nil_of_le (by rw [row_length]; exact h)]
  rw [this]; exact hQ

theorem flat_rep (x : Int) : ∀ n : Nat, (List.replicate n [x]).flatten = List.replicate n x
  | 0 => rfl
  | n + 1 => by simp [List.replicate_succ, flat_rep x n]

theorem m_all_ones {w h : Nat} (hw : 1 ≤ w) (hh : h ≤ 4000000) (hQ : Q (.list (row (2 ^ w) ((2 ^ w) ^ h - 1))) σ) (hw9 : w ≤ 9) : Meets W (k + 1) "all_ones" [.int h, .int w] Q σ := by
  have hB : 2 ≤ 2 ^ w := Nat.pow_le_pow_right (n := 2) (by decide) hw
  refine meets c_all_ones rfl ?_
  refine WSs.ret ?_
  try simp only [orAnd,andAnd,Za,Zb,Zc,Zd,Ze,Zf,Zg,Zh,Zi,Zj,Zk,Zl,Zm,Zn,Zo,Zp,Zq,Zr,Zs,Zt,Zu,Zv,Zw,Zx,Zy,Zz,ZA,ZB,ZC,ZD,ZE,ZF,ZG,ZH,ZI,ZJ,ZK,ZL,ZM,ZN,ZO,ZP,ZQ,ZR,ZS,ZT,ZU,ZV,ZW,ZX,ZY,ZZ,Ya,Yb,Yc,Yd,Ye,Yf,Yg,Yh,Yi,Yj,Yk,Yl,Ym,Yn,Yo,Yp,Yq,Yr,Ys,Yt,Yu,Yv,Yw,Yx,Yy,Yz,YA,YB,YC,YD,YE,YF,YG,YH,YI,row₀,List.getElem?_cons_zero,List.getElem?_cons_succ,List.set_cons_zero,List.set_cons_succ,List.map_cons,List.map_nil,List.length_cons,List.length_nil,List.replicate,List.cons_append,List.nil_append,Nat.reduceAdd,Nat.reduceSub,List.mem_cons,List.not_mem_nil,or_false,forall_eq_or_imp,forall_eq,implies_true,true_and,and_true,if_true,if_false,Bool.false_eq_true,decide_eq_true_eq,Bool.not_eq_true',decide_eq_false_iff_not,Bool.not_eq_eq_eq_not,Bool.not_true,Bool.not_false,beq_self_eq_true,reduceCtorEq,beq_iff_eq,low_length,row_length,fdiv_nat,fmod_nat,two_pow,one_shl,shr,shl,and_mask,clip_nat,Int.one_mul]
  refine ⟨by omega, by omega, by decide, [((2 ^ w : Nat) : Int) - 1], rfl, by simp, by (clear hB hw9 hQ hw; omega), by (clear hB hw9 hQ hw; omega), ?_, ?_⟩
  · have : sizeLine = 2 ^ 24 := by rw [sizeLine_n]
    rw [this]; simp; (clear this hB hw9 hQ hw; omega)
  · rw [Int.toNat_natCast, flat_rep, row_ones hB]; exact hQ

theorem m_lifted {x s : Nat} (hB : 2 ≤ B) (hx : Bd x) (hs : s ≤ 4000000) (hQ : Q (.list (row B (x * B ^ s))) σ) : Meets W (k + 1) "lifted" [.list (row B x), .int s] Q σ := by
  have lx := hx.len hB
  refine meets c_lifted rfl ?_
  refine WSs.ret ?_
  try simp only [orAnd,andAnd,Za,Zb,Zc,Zd,Ze,Zf,Zg,Zh,Zi,Zj,Zk,Zl,Zm,Zn,Zo,Zp,Zq,Zr,Zs,Zt,Zu,Zv,Zw,Zx,Zy,Zz,ZA,ZB,ZC,ZD,ZE,ZF,ZG,ZH,ZI,ZJ,ZK,ZL,ZM,ZN,ZO,ZP,ZQ,ZR,ZS,ZT,ZU,ZV,ZW,ZX,ZY,ZZ,Ya,Yb,Yc,Yd,Ye,Yf,Yg,Yh,Yi,Yj,Yk,Yl,Ym,Yn,Yo,Yp,Yq,Yr,Ys,Yt,Yu,Yv,Yw,Yx,Yy,Yz,YA,YB,YC,YD,YE,YF,YG,YH,YI,row₀,List.getElem?_cons_zero,List.getElem?_cons_succ,List.set_cons_zero,List.set_cons_succ,List.map_cons,List.map_nil,List.length_cons,List.length_nil,List.replicate,List.cons_append,List.nil_append,Nat.reduceAdd,Nat.reduceSub,List.mem_cons,List.not_mem_nil,or_false,forall_eq_or_imp,forall_eq,implies_true,true_and,and_true,if_true,if_false,Bool.false_eq_true,decide_eq_true_eq,Bool.not_eq_true',decide_eq_false_iff_not,Bool.not_eq_eq_eq_not,Bool.not_true,Bool.not_false,beq_self_eq_true,reduceCtorEq,beq_iff_eq,low_length,row_length,fdiv_nat,fmod_nat,two_pow,one_shl,shr,shl,and_mask,clip_nat,Int.one_mul]
  by_cases h0 : x = 0
  · subst h0
    rw [len_zero, if_neg (by decide)]
    rw [Nat.zero_mul, row_zero] at hQ
    exact ⟨[], rfl, by decide, hQ⟩
  · have : 0 < len B x := by
      rcases Nat.eq_zero_or_pos (len B x) with q | q
      · exact absurd (len_eq_zero hB q) h0
      · exact q
    rw [if_pos (by (clear h0 hQ hs hx hB; omega))]
    have sz : sizeLine = 2 ^ 24 := by rw [sizeLine_n]
    refine ⟨[0], rfl, by decide, by (clear sz this h0 lx hQ hx hB; omega), by (clear sz this h0 lx hQ hx hB; omega), by rw [sz]; simp; (clear sz this h0 lx hQ hx hB; omega), ?_⟩

    rw [Int.toNat_natCast, flat_rep, ← row_shift hB (by (clear sz this lx hQ hs hx hB; omega))]
    refine ⟨by rw [sz]; simp; (clear sz h0 hQ hx hB; omega), hQ⟩
end
end
section
open PySem PySem.W PyProof.Rows
set_option exponentiation.threshold 5000

noncomputable def tl : Ss → Ss | .cons _ s => s | .nil => .nil

theorem sz_n : sizeLine = 2 ^ 24 := by rw [sizeLine_n]

section
variable {W : Wd} {k w : Nat} {σ : Bx}

theorem w_pow (hw : 1 ≤ w) : 2 ≤ 2 ^ w := Nat.pow_le_pow_right (n := 2) (by decide) hw

theorem add_tail {x y : Nat} {Q : PS} (hw : 1 ≤ w) (hw9 : w ≤ 9) (hx : Bd x) (hy : Bd y) (hl : len (2 ^ w) y ≤ len (2 ^ w) x) (hQ : ∀ ρ o, Q (.ret (.list (row (2 ^ w) (x + y)))) ρ o σ) :
    WSs W k (tl b_add) Q [some (.list (row (2 ^ w) x)), some (.list (row (2 ^ w) y)), some (.int w), none, none, none, none] none σ := by
  have hB := w_pow hw
  have lx := hx.len hB
  unfold b_add tl
  refine WSs.swapOwn ?_
  try simp only [orAnd,andAnd,Za,Zb,Zc,Zd,Ze,Zf,Zg,Zh,Zi,Zj,Zk,Zl,Zm,Zn,Zo,Zp,Zq,Zr,Zs,Zt,Zu,Zv,Zw,Zx,Zy,Zz,ZA,ZB,ZC,ZD,ZE,ZF,ZG,ZH,ZI,ZJ,ZK,ZL,ZM,ZN,ZO,ZP,ZQ,ZR,ZS,ZT,ZU,ZV,ZW,ZX,ZY,ZZ,Ya,Yb,Yc,Yd,Ye,Yf,Yg,Yh,Yi,Yj,Yk,Yl,Ym,Yn,Yo,Yp,Yq,Yr,Ys,Yt,Yu,Yv,Yw,Yx,Yy,Yz,YA,YB,YC,YD,YE,YF,YG,YH,YI,row₀,List.getElem?_cons_zero,List.getElem?_cons_succ,List.set_cons_zero,List.set_cons_succ,List.map_cons,List.map_nil,List.length_cons,List.length_nil,List.replicate,List.cons_append,List.nil_append,Nat.reduceAdd,Nat.reduceSub,List.mem_cons,List.not_mem_nil,or_false,forall_eq_or_imp,forall_eq,implies_true,true_and,and_true,if_true,if_false,Bool.false_eq_true,decide_eq_true_eq,Bool.not_eq_true',decide_eq_false_iff_not,Bool.not_eq_eq_eq_not,Bool.not_true,Bool.not_false,beq_self_eq_true,reduceCtorEq,beq_iff_eq,low_length,row_length,fdiv_nat,fmod_nat,two_pow,one_shl,shr,shl,and_mask,clip_nat,Int.one_mul]
  refine ⟨by omega, by omega, by decide, ?_⟩
  refine WSs.for_ ?_
  try simp only [orAnd,andAnd,Za,Zb,Zc,Zd,Ze,Zf,Zg,Zh,Zi,Zj,Zk,Zl,Zm,Zn,Zo,Zp,Zq,Zr,Zs,Zt,Zu,Zv,Zw,Zx,Zy,Zz,ZA,ZB,ZC,ZD,ZE,ZF,ZG,ZH,ZI,ZJ,ZK,ZL,ZM,ZN,ZO,ZP,ZQ,ZR,ZS,ZT,ZU,ZV,ZW,ZX,ZY,ZZ,Ya,Yb,Yc,Yd,Ye,Yf,Yg,Yh,Yi,Yj,Yk,Yl,Ym,Yn,Yo,Yp,Yq,Yr,Ys,Yt,Yu,Yv,Yw,Yx,Yy,Yz,YA,YB,YC,YD,YE,YF,YG,YH,YI,row₀,List.getElem?_cons_zero,List.getElem?_cons_succ,List.set_cons_zero,List.set_cons_succ,List.map_cons,List.map_nil,List.length_cons,List.length_nil,List.replicate,List.cons_append,List.nil_append,Nat.reduceAdd,Nat.reduceSub,List.mem_cons,List.not_mem_nil,or_false,forall_eq_or_imp,forall_eq,implies_true,true_and,and_true,if_true,if_false,Bool.false_eq_true,decide_eq_true_eq,Bool.not_eq_true',decide_eq_false_iff_not,Bool.not_eq_eq_eq_not,Bool.not_true,Bool.not_false,beq_self_eq_true,reduceCtorEq,beq_iff_eq,low_length,row_length,fdiv_nat,fmod_nat,two_pow,one_shl,shr,shl,and_mask,clip_nat,Int.one_mul]
  refine ⟨.of (by (clear lx hB hQ hl hy hx hw9 hw; omega)) (by (clear hB hQ hy hx hw9 hw; omega)), rng_up (len (2 ^ w) y) (by (clear lx hB hQ hl hy hx hw9 hw; omega)) (.of (by (clear lx hB hQ hl hy hx hw9 hw; omega)) (by (clear lx hB hQ hl hy hx hw9 hw; omega))) (.of (by (clear lx hB hQ hl hy hx hw9 hw; omega)) (by omega)) fun xs hxs hat => ?_⟩
  generalize hBB : 2 ^ w = B at *
  refine ForQ.mk (fun n ρ o σ' => ∃ q, ρ = [some (.list (row B x)), some (.list (row B y)), some (.int w), none, some (.int ((x % B ^ n + y % B ^ n) / B ^ n : Nat)), some (.int ((B : Int) - 1)), q] ∧ o = some (3, low B n (x % B ^ n + y % B ^ n)) ∧ σ = σ')
    ⟨none, ?_, rfl, rfl⟩ ?_ ?_
  · simp [Nat.mod_one]
  · rintro n _ _ _ ⟨q, rfl, rfl, rfl⟩ hn
    rw [hxs] at hn
    rw [hat n hn]
    refine ⟨by show (3 : Nat) ≠ 6; decide, ?_⟩
    refine WSs.aug rfl ?_
    try simp only [orAnd,andAnd,Za,Zb,Zc,Zd,Ze,Zf,Zg,Zh,Zi,Zj,Zk,Zl,Zm,Zn,Zo,Zp,Zq,Zr,Zs,Zt,Zu,Zv,Zw,Zx,Zy,Zz,ZA,ZB,ZC,ZD,ZE,ZF,ZG,ZH,ZI,ZJ,ZK,ZL,ZM,ZN,ZO,ZP,ZQ,ZR,ZS,ZT,ZU,ZV,ZW,ZX,ZY,ZZ,Ya,Yb,Yc,Yd,Ye,Yf,Yg,Yh,Yi,Yj,Yk,Yl,Ym,Yn,Yo,Yp,Yq,Yr,Ys,Yt,Yu,Yv,Yw,Yx,Yy,Yz,YA,YB,YC,YD,YE,YF,YG,YH,YI,row₀,List.getElem?_cons_zero,List.getElem?_cons_succ,List.set_cons_zero,List.set_cons_succ,List.map_cons,List.map_nil,List.length_cons,List.length_nil,List.replicate,List.cons_append,List.nil_append,Nat.reduceAdd,Nat.reduceSub,List.mem_cons,List.not_mem_nil,or_false,forall_eq_or_imp,forall_eq,implies_true,true_and,and_true,if_true,if_false,Bool.false_eq_true,decide_eq_true_eq,Bool.not_eq_true',decide_eq_false_iff_not,Bool.not_eq_eq_eq_not,Bool.not_true,Bool.not_false,beq_self_eq_true,reduceCtorEq,beq_iff_eq,low_length,row_length,fdiv_nat,fmod_nat,two_pow,one_shl,shr,shl,and_mask,clip_nat,Int.one_mul]
    refine WSub_at n (by (clear hn hat hxs lx hB hQ hl hBB hy hx hw9 hw; omega)) (by rw [row_length]; (clear hat lx hB hQ hBB hy hx hw9 hw; omega)) ?_
    rw [row_getD hB]
    refine WSub_at n (by (clear hn hat hxs lx hB hQ hl hBB hy hx hw9 hw; omega)) (by rw [row_length]; (clear hat lx hB hQ hl hBB hy hx hw9 hw; omega)) ?_
    rw [row_getD hB]
    try simp only [orAnd,andAnd,Za,Zb,Zc,Zd,Ze,Zf,Zg,Zh,Zi,Zj,Zk,Zl,Zm,Zn,Zo,Zp,Zq,Zr,Zs,Zt,Zu,Zv,Zw,Zx,Zy,Zz,ZA,ZB,ZC,ZD,ZE,ZF,ZG,ZH,ZI,ZJ,ZK,ZL,ZM,ZN,ZO,ZP,ZQ,ZR,ZS,ZT,ZU,ZV,ZW,ZX,ZY,ZZ,Ya,Yb,Yc,Yd,Ye,Yf,Yg,Yh,Yi,Yj,Yk,Yl,Ym,Yn,Yo,Yp,Yq,Yr,Ys,Yt,Yu,Yv,Yw,Yx,Yy,Yz,YA,YB,YC,YD,YE,YF,YG,YH,YI,row₀,List.getElem?_cons_zero,List.getElem?_cons_succ,List.set_cons_zero,List.set_cons_succ,List.map_cons,List.map_nil,List.length_cons,List.length_nil,List.replicate,List.cons_append,List.nil_append,Nat.reduceAdd,Nat.reduceSub,List.mem_cons,List.not_mem_nil,or_false,forall_eq_or_imp,forall_eq,implies_true,true_and,and_true,if_true,if_false,Bool.false_eq_true,decide_eq_true_eq,Bool.not_eq_true',decide_eq_false_iff_not,Bool.not_eq_eq_eq_not,Bool.not_true,Bool.not_false,beq_self_eq_true,reduceCtorEq,beq_iff_eq,low_length,row_length,fdiv_nat,fmod_nat,two_pow,one_shl,shr,shl,and_mask,clip_nat,Int.one_mul]
    rw [← Int.natCast_add, ← Int.natCast_add]
    refine WSs.app ?_
    subst hBB
    try simp only [orAnd,andAnd,Za,Zb,Zc,Zd,Ze,Zf,Zg,Zh,Zi,Zj,Zk,Zl,Zm,Zn,Zo,Zp,Zq,Zr,Zs,Zt,Zu,Zv,Zw,Zx,Zy,Zz,ZA,ZB,ZC,ZD,ZE,ZF,ZG,ZH,ZI,ZJ,ZK,ZL,ZM,ZN,ZO,ZP,ZQ,ZR,ZS,ZT,ZU,ZV,ZW,ZX,ZY,ZZ,Ya,Yb,Yc,Yd,Ye,Yf,Yg,Yh,Yi,Yj,Yk,Yl,Ym,Yn,Yo,Yp,Yq,Yr,Ys,Yt,Yu,Yv,Yw,Yx,Yy,Yz,YA,YB,YC,YD,YE,YF,YG,YH,YI,row₀,List.getElem?_cons_zero,List.getElem?_cons_succ,List.set_cons_zero,List.set_cons_succ,List.map_cons,List.map_nil,List.length_cons,List.length_nil,List.replicate,List.cons_append,List.nil_append,Nat.reduceAdd,Nat.reduceSub,List.mem_cons,List.not_mem_nil,or_false,forall_eq_or_imp,forall_eq,implies_true,true_and,and_true,if_true,if_false,Bool.false_eq_true,decide_eq_true_eq,Bool.not_eq_true',decide_eq_false_iff_not,Bool.not_eq_eq_eq_not,Bool.not_true,Bool.not_false,beq_self_eq_true,reduceCtorEq,beq_iff_eq,low_length,row_length,fdiv_nat,fmod_nat,two_pow,one_shl,shr,shl,and_mask,clip_nat,Int.one_mul]
    refine ⟨by rw [sz_n]; (clear hat hB hQ hy hx hw9 hw; omega), ?_⟩
    refine WSs.aug rfl ?_
    try simp only [orAnd,andAnd,Za,Zb,Zc,Zd,Ze,Zf,Zg,Zh,Zi,Zj,Zk,Zl,Zm,Zn,Zo,Zp,Zq,Zr,Zs,Zt,Zu,Zv,Zw,Zx,Zy,Zz,ZA,ZB,ZC,ZD,ZE,ZF,ZG,ZH,ZI,ZJ,ZK,ZL,ZM,ZN,ZO,ZP,ZQ,ZR,ZS,ZT,ZU,ZV,ZW,ZX,ZY,ZZ,Ya,Yb,Yc,Yd,Ye,Yf,Yg,Yh,Yi,Yj,Yk,Yl,Ym,Yn,Yo,Yp,Yq,Yr,Ys,Yt,Yu,Yv,Yw,Yx,Yy,Yz,YA,YB,YC,YD,YE,YF,YG,YH,YI,row₀,List.getElem?_cons_zero,List.getElem?_cons_succ,List.set_cons_zero,List.set_cons_succ,List.map_cons,List.map_nil,List.length_cons,List.length_nil,List.replicate,List.cons_append,List.nil_append,Nat.reduceAdd,Nat.reduceSub,List.mem_cons,List.not_mem_nil,or_false,forall_eq_or_imp,forall_eq,implies_true,true_and,and_true,if_true,if_false,Bool.false_eq_true,decide_eq_true_eq,Bool.not_eq_true',decide_eq_false_iff_not,Bool.not_eq_eq_eq_not,Bool.not_true,Bool.not_false,beq_self_eq_true,reduceCtorEq,beq_iff_eq,low_length,row_length,fdiv_nat,fmod_nat,two_pow,one_shl,shr,shl,and_mask,clip_nat,Int.one_mul]
    refine ⟨by (clear hn hat hxs lx hB hQ hl hy hx; omega), WSs.nil ⟨some (.int (0 + (n : Int))), ?_, ?_, rfl⟩⟩
    · rw [mod_succ x, mod_succ y]
      rw [show x % (2 ^ w) ^ n + dig (2 ^ w) x n * (2 ^ w) ^ n + (y % (2 ^ w) ^ n + dig (2 ^ w) y n * (2 ^ w) ^ n) = (x % (2 ^ w) ^ n + y % (2 ^ w) ^ n) + (dig (2 ^ w) x n + dig (2 ^ w) y n) * (2 ^ w) ^ n by rw [Nat.add_mul]; (clear hn hat hxs lx hB hQ hl hy hx hw9 hw; omega)]
      rw [div_step hB]
    · rw [mod_succ x, mod_succ y]
      rw [show x % (2 ^ w) ^ n + dig (2 ^ w) x n * (2 ^ w) ^ n + (y % (2 ^ w) ^ n + dig (2 ^ w) y n * (2 ^ w) ^ n) = (x % (2 ^ w) ^ n + y % (2 ^ w) ^ n) + (dig (2 ^ w) x n + dig (2 ^ w) y n) * (2 ^ w) ^ n by rw [Nat.add_mul]; (clear hn hat hxs lx hB hQ hl hy hx hw9 hw; omega)]
      rw [low_step hB]
  · rintro _ _ _ ⟨q, rfl, rfl, rfl⟩
    rw [hxs]
    clear hat hxs xs
    refine WSs.for_ ?_
    try simp only [orAnd,andAnd,Za,Zb,Zc,Zd,Ze,Zf,Zg,Zh,Zi,Zj,Zk,Zl,Zm,Zn,Zo,Zp,Zq,Zr,Zs,Zt,Zu,Zv,Zw,Zx,Zy,Zz,ZA,ZB,ZC,ZD,ZE,ZF,ZG,ZH,ZI,ZJ,ZK,ZL,ZM,ZN,ZO,ZP,ZQ,ZR,ZS,ZT,ZU,ZV,ZW,ZX,ZY,ZZ,Ya,Yb,Yc,Yd,Ye,Yf,Yg,Yh,Yi,Yj,Yk,Yl,Ym,Yn,Yo,Yp,Yq,Yr,Ys,Yt,Yu,Yv,Yw,Yx,Yy,Yz,YA,YB,YC,YD,YE,YF,YG,YH,YI,row₀,List.getElem?_cons_zero,List.getElem?_cons_succ,List.set_cons_zero,List.set_cons_succ,List.map_cons,List.map_nil,List.length_cons,List.length_nil,List.replicate,List.cons_append,List.nil_append,Nat.reduceAdd,Nat.reduceSub,List.mem_cons,List.not_mem_nil,or_false,forall_eq_or_imp,forall_eq,implies_true,true_and,and_true,if_true,if_false,Bool.false_eq_true,decide_eq_true_eq,Bool.not_eq_true',decide_eq_false_iff_not,Bool.not_eq_eq_eq_not,Bool.not_true,Bool.not_false,beq_self_eq_true,reduceCtorEq,beq_iff_eq,low_length,row_length,fdiv_nat,fmod_nat,two_pow,one_shl,shr,shl,and_mask,clip_nat,Int.one_mul]
    refine ⟨.of (by (clear lx hB hQ hl hBB hy hx hw9 hw; omega)) (by (clear hB hQ hBB hy hx hw9 hw; omega)), .of (by (clear hB hQ hl hBB hy hx hw9 hw; omega)) (by (clear hB hQ hl hBB hy hx hw9 hw; omega)), rng_up (len B x - len B y) (by (clear lx hB hQ hBB hy hx hw9 hw; omega)) (.of (by (clear lx hB hQ hl hBB hy hx hw9 hw; omega)) (by (clear hB hQ hBB hy hx hw9 hw; omega))) (.of (by (clear hB hQ hl hBB hy hx hw9 hw; omega)) (by (clear hB hQ hl hBB hy hx hw9 hw; omega))) fun xs hxs hat => ?_⟩
    have ym : ∀ n, y % B ^ (len B y + n) = y := fun n => Nat.mod_eq_of_lt (Nat.lt_of_lt_of_le (lt_len hB y) (Nat.pow_le_pow_right (by (clear hat hxs lx hQ hl hBB hy hx hw9 hw; omega)) (by (clear hat hxs lx hB hQ hl hBB hy hx hw9 hw; omega))))
    refine ForQ.mk (fun n ρ o σ' => ∃ q, ρ = [some (.list (row B x)), some (.list (row B y)), some (.int w), none, some (.int ((x % B ^ (len B y + n) + y) / B ^ (len B y + n) : Nat)), some (.int ((B : Int) - 1)), q] ∧ o = some (3, low B (len B y + n) (x % B ^ (len B y + n) + y)) ∧ σ = σ')
      ⟨q, ?_, ?_, rfl⟩ ?_ ?_
    · have := ym 0
      rw [Nat.add_zero] at this ⊢
      rw [this]
    · have := ym 0
      rw [Nat.add_zero] at this ⊢
      rw [this]
    · rintro n _ _ _ ⟨q, rfl, rfl, rfl⟩ hn
      rw [hxs] at hn
      rw [hat n hn]
      refine ⟨by show (3 : Nat) ≠ 6; decide, ?_⟩
      refine WSs.aug rfl ?_
      try simp only [orAnd,andAnd,Za,Zb,Zc,Zd,Ze,Zf,Zg,Zh,Zi,Zj,Zk,Zl,Zm,Zn,Zo,Zp,Zq,Zr,Zs,Zt,Zu,Zv,Zw,Zx,Zy,Zz,ZA,ZB,ZC,ZD,ZE,ZF,ZG,ZH,ZI,ZJ,ZK,ZL,ZM,ZN,ZO,ZP,ZQ,ZR,ZS,ZT,ZU,ZV,ZW,ZX,ZY,ZZ,Ya,Yb,Yc,Yd,Ye,Yf,Yg,Yh,Yi,Yj,Yk,Yl,Ym,Yn,Yo,Yp,Yq,Yr,Ys,Yt,Yu,Yv,Yw,Yx,Yy,Yz,YA,YB,YC,YD,YE,YF,YG,YH,YI,row₀,List.getElem?_cons_zero,List.getElem?_cons_succ,List.set_cons_zero,List.set_cons_succ,List.map_cons,List.map_nil,List.length_cons,List.length_nil,List.replicate,List.cons_append,List.nil_append,Nat.reduceAdd,Nat.reduceSub,List.mem_cons,List.not_mem_nil,or_false,forall_eq_or_imp,forall_eq,implies_true,true_and,and_true,if_true,if_false,Bool.false_eq_true,decide_eq_true_eq,Bool.not_eq_true',decide_eq_false_iff_not,Bool.not_eq_eq_eq_not,Bool.not_true,Bool.not_false,beq_self_eq_true,reduceCtorEq,beq_iff_eq,low_length,row_length,fdiv_nat,fmod_nat,two_pow,one_shl,shr,shl,and_mask,clip_nat,Int.one_mul]
      refine WSub_at (len B y + n) (by (clear hn ym hat hxs lx hB hQ hl hBB hy hx hw9 hw; omega)) (by rw [row_length]; (clear ym hat hxs lx hB hQ hBB hy hx hw9 hw; omega)) ?_
      rw [row_getD hB]
      try simp only [orAnd,andAnd,Za,Zb,Zc,Zd,Ze,Zf,Zg,Zh,Zi,Zj,Zk,Zl,Zm,Zn,Zo,Zp,Zq,Zr,Zs,Zt,Zu,Zv,Zw,Zx,Zy,Zz,ZA,ZB,ZC,ZD,ZE,ZF,ZG,ZH,ZI,ZJ,ZK,ZL,ZM,ZN,ZO,ZP,ZQ,ZR,ZS,ZT,ZU,ZV,ZW,ZX,ZY,ZZ,Ya,Yb,Yc,Yd,Ye,Yf,Yg,Yh,Yi,Yj,Yk,Yl,Ym,Yn,Yo,Yp,Yq,Yr,Ys,Yt,Yu,Yv,Yw,Yx,Yy,Yz,YA,YB,YC,YD,YE,YF,YG,YH,YI,row₀,List.getElem?_cons_zero,List.getElem?_cons_succ,List.set_cons_zero,List.set_cons_succ,List.map_cons,List.map_nil,List.length_cons,List.length_nil,List.replicate,List.cons_append,List.nil_append,Nat.reduceAdd,Nat.reduceSub,List.mem_cons,List.not_mem_nil,or_false,forall_eq_or_imp,forall_eq,implies_true,true_and,and_true,if_true,if_false,Bool.false_eq_true,decide_eq_true_eq,Bool.not_eq_true',decide_eq_false_iff_not,Bool.not_eq_eq_eq_not,Bool.not_true,Bool.not_false,beq_self_eq_true,reduceCtorEq,beq_iff_eq,low_length,row_length,fdiv_nat,fmod_nat,two_pow,one_shl,shr,shl,and_mask,clip_nat,Int.one_mul]
      rw [← Int.natCast_add]
      refine WSs.app ?_
      subst hBB
      try simp only [orAnd,andAnd,Za,Zb,Zc,Zd,Ze,Zf,Zg,Zh,Zi,Zj,Zk,Zl,Zm,Zn,Zo,Zp,Zq,Zr,Zs,Zt,Zu,Zv,Zw,Zx,Zy,Zz,ZA,ZB,ZC,ZD,ZE,ZF,ZG,ZH,ZI,ZJ,ZK,ZL,ZM,ZN,ZO,ZP,ZQ,ZR,ZS,ZT,ZU,ZV,ZW,ZX,ZY,ZZ,Ya,Yb,Yc,Yd,Ye,Yf,Yg,Yh,Yi,Yj,Yk,Yl,Ym,Yn,Yo,Yp,Yq,Yr,Ys,Yt,Yu,Yv,Yw,Yx,Yy,Yz,YA,YB,YC,YD,YE,YF,YG,YH,YI,row₀,List.getElem?_cons_zero,List.getElem?_cons_succ,List.set_cons_zero,List.set_cons_succ,List.map_cons,List.map_nil,List.length_cons,List.length_nil,List.replicate,List.cons_append,List.nil_append,Nat.reduceAdd,Nat.reduceSub,List.mem_cons,List.not_mem_nil,or_false,forall_eq_or_imp,forall_eq,implies_true,true_and,and_true,if_true,if_false,Bool.false_eq_true,decide_eq_true_eq,Bool.not_eq_true',decide_eq_false_iff_not,Bool.not_eq_eq_eq_not,Bool.not_true,Bool.not_false,beq_self_eq_true,reduceCtorEq,beq_iff_eq,low_length,row_length,fdiv_nat,fmod_nat,two_pow,one_shl,shr,shl,and_mask,clip_nat,Int.one_mul]
      refine ⟨by rw [sz_n]; (clear ym hat hxs hB hQ hy hx hw9 hw; omega), ?_⟩
      refine WSs.aug rfl ?_
      try simp only [orAnd,andAnd,Za,Zb,Zc,Zd,Ze,Zf,Zg,Zh,Zi,Zj,Zk,Zl,Zm,Zn,Zo,Zp,Zq,Zr,Zs,Zt,Zu,Zv,Zw,Zx,Zy,Zz,ZA,ZB,ZC,ZD,ZE,ZF,ZG,ZH,ZI,ZJ,ZK,ZL,ZM,ZN,ZO,ZP,ZQ,ZR,ZS,ZT,ZU,ZV,ZW,ZX,ZY,ZZ,Ya,Yb,Yc,Yd,Ye,Yf,Yg,Yh,Yi,Yj,Yk,Yl,Ym,Yn,Yo,Yp,Yq,Yr,Ys,Yt,Yu,Yv,Yw,Yx,Yy,Yz,YA,YB,YC,YD,YE,YF,YG,YH,YI,row₀,List.getElem?_cons_zero,List.getElem?_cons_succ,List.set_cons_zero,List.set_cons_succ,List.map_cons,List.map_nil,List.length_cons,List.length_nil,List.replicate,List.cons_append,List.nil_append,Nat.reduceAdd,Nat.reduceSub,List.mem_cons,List.not_mem_nil,or_false,forall_eq_or_imp,forall_eq,implies_true,true_and,and_true,if_true,if_false,Bool.false_eq_true,decide_eq_true_eq,Bool.not_eq_true',decide_eq_false_iff_not,Bool.not_eq_eq_eq_not,Bool.not_true,Bool.not_false,beq_self_eq_true,reduceCtorEq,beq_iff_eq,low_length,row_length,fdiv_nat,fmod_nat,two_pow,one_shl,shr,shl,and_mask,clip_nat,Int.one_mul]
      have e : x % (2 ^ w) ^ (len (2 ^ w) y + (n + 1)) + y = (x % (2 ^ w) ^ (len (2 ^ w) y + n) + y) + (dig (2 ^ w) x (len (2 ^ w) y + n)) * (2 ^ w) ^ (len (2 ^ w) y + n) := by
        rw [← Nat.add_assoc, mod_succ x]; (clear hn ym hat hxs lx hB hQ hl hy hx hw9 hw; omega)
      refine ⟨by (clear e hn ym hat hxs lx hB hQ hl hy hx; omega), WSs.nil ⟨some (.int ((len (2 ^ w) y : Int) + (n : Int))), ?_, ?_, rfl⟩⟩
      · rw [e, ← Nat.add_assoc, div_step hB]
      · rw [e, ← Nat.add_assoc, low_step hB]
    · rintro _ _ _ ⟨q, rfl, rfl, rfl⟩
      rw [hxs]
      clear hat hxs xs
      have el : len B y + (len B x - len B y) = len B x := by (clear ym lx hB hQ hBB hy hx hw9 hw; omega)
      rw [el, Nat.mod_eq_of_lt (lt_len hB x)]
      have h1 := lt_len hB x
      have h2 := Nat.lt_of_lt_of_le (lt_len hB y) (Nat.pow_le_pow_right (n := B) (by (clear h1 el ym lx hQ hl hBB hy hx hw9 hw; omega)) hl)
      refine WSs.ite ?_
      try simp only [orAnd,andAnd,Za,Zb,Zc,Zd,Ze,Zf,Zg,Zh,Zi,Zj,Zk,Zl,Zm,Zn,Zo,Zp,Zq,Zr,Zs,Zt,Zu,Zv,Zw,Zx,Zy,Zz,ZA,ZB,ZC,ZD,ZE,ZF,ZG,ZH,ZI,ZJ,ZK,ZL,ZM,ZN,ZO,ZP,ZQ,ZR,ZS,ZT,ZU,ZV,ZW,ZX,ZY,ZZ,Ya,Yb,Yc,Yd,Ye,Yf,Yg,Yh,Yi,Yj,Yk,Yl,Ym,Yn,Yo,Yp,Yq,Yr,Ys,Yt,Yu,Yv,Yw,Yx,Yy,Yz,YA,YB,YC,YD,YE,YF,YG,YH,YI,row₀,List.getElem?_cons_zero,List.getElem?_cons_succ,List.set_cons_zero,List.set_cons_succ,List.map_cons,List.map_nil,List.length_cons,List.length_nil,List.replicate,List.cons_append,List.nil_append,Nat.reduceAdd,Nat.reduceSub,List.mem_cons,List.not_mem_nil,or_false,forall_eq_or_imp,forall_eq,implies_true,true_and,and_true,if_true,if_false,Bool.false_eq_true,decide_eq_true_eq,Bool.not_eq_true',decide_eq_false_iff_not,Bool.not_eq_eq_eq_not,Bool.not_true,Bool.not_false,beq_self_eq_true,reduceCtorEq,beq_iff_eq,low_length,row_length,fdiv_nat,fmod_nat,two_pow,one_shl,shr,shl,and_mask,clip_nat,Int.one_mul]
      by_cases hc : 0 < (x + y) / B ^ len B x
      · rw [if_pos (by (clear h2 h1 el ym lx hB hQ hl hBB hy hx hw9 hw; omega))]
        refine WSs.app ?_
        try simp only [orAnd,andAnd,Za,Zb,Zc,Zd,Ze,Zf,Zg,Zh,Zi,Zj,Zk,Zl,Zm,Zn,Zo,Zp,Zq,Zr,Zs,Zt,Zu,Zv,Zw,Zx,Zy,Zz,ZA,ZB,ZC,ZD,ZE,ZF,ZG,ZH,ZI,ZJ,ZK,ZL,ZM,ZN,ZO,ZP,ZQ,ZR,ZS,ZT,ZU,ZV,ZW,ZX,ZY,ZZ,Ya,Yb,Yc,Yd,Ye,Yf,Yg,Yh,Yi,Yj,Yk,Yl,Ym,Yn,Yo,Yp,Yq,Yr,Ys,Yt,Yu,Yv,Yw,Yx,Yy,Yz,YA,YB,YC,YD,YE,YF,YG,YH,YI,row₀,List.getElem?_cons_zero,List.getElem?_cons_succ,List.set_cons_zero,List.set_cons_succ,List.map_cons,List.map_nil,List.length_cons,List.length_nil,List.replicate,List.cons_append,List.nil_append,Nat.reduceAdd,Nat.reduceSub,List.mem_cons,List.not_mem_nil,or_false,forall_eq_or_imp,forall_eq,implies_true,true_and,and_true,if_true,if_false,Bool.false_eq_true,decide_eq_true_eq,Bool.not_eq_true',decide_eq_false_iff_not,Bool.not_eq_eq_eq_not,Bool.not_true,Bool.not_false,beq_self_eq_true,reduceCtorEq,beq_iff_eq,low_length,row_length,fdiv_nat,fmod_nat,two_pow,one_shl,shr,shl,and_mask,clip_nat,Int.one_mul]
        refine ⟨by rw [sz_n]; (clear hc h2 h1 ym hB hQ hl hBB hy hx hw9 hw; omega), WSs.nil (WSs.ret ?_)⟩
        try simp only [orAnd,andAnd,Za,Zb,Zc,Zd,Ze,Zf,Zg,Zh,Zi,Zj,Zk,Zl,Zm,Zn,Zo,Zp,Zq,Zr,Zs,Zt,Zu,Zv,Zw,Zx,Zy,Zz,ZA,ZB,ZC,ZD,ZE,ZF,ZG,ZH,ZI,ZJ,ZK,ZL,ZM,ZN,ZO,ZP,ZQ,ZR,ZS,ZT,ZU,ZV,ZW,ZX,ZY,ZZ,Ya,Yb,Yc,Yd,Ye,Yf,Yg,Yh,Yi,Yj,Yk,Yl,Ym,Yn,Yo,Yp,Yq,Yr,Ys,Yt,Yu,Yv,Yw,Yx,Yy,Yz,YA,YB,YC,YD,YE,YF,YG,YH,YI,row₀,List.getElem?_cons_zero,List.getElem?_cons_succ,List.set_cons_zero,List.set_cons_succ,List.map_cons,List.map_nil,List.length_cons,List.length_nil,List.replicate,List.cons_append,List.nil_append,Nat.reduceAdd,Nat.reduceSub,List.mem_cons,List.not_mem_nil,or_false,forall_eq_or_imp,forall_eq,implies_true,true_and,and_true,if_true,if_false,Bool.false_eq_true,decide_eq_true_eq,Bool.not_eq_true',decide_eq_false_iff_not,Bool.not_eq_eq_eq_not,Bool.not_true,Bool.not_false,beq_self_eq_true,reduceCtorEq,beq_iff_eq,low_length,row_length,fdiv_nat,fmod_nat,two_pow,one_shl,shr,shl,and_mask,clip_nat,Int.one_mul]
        have h3 : x + y < B ^ (len B x + 1) := by
          rw [Nat.pow_succ]
          have := Nat.mul_le_mul_left (B ^ len B x) hB
          (clear hc el ym lx hB hQ hl hBB hy hx hw9 hw; omega)
        have h4 : B ^ len B x ≤ x + y := by
          rcases Nat.lt_or_ge (x + y) (B ^ len B x) with q | q
          · rw [Nat.div_eq_of_lt q] at hc; (clear q h3 h2 h1 el ym lx hB hQ hl hBB hy hx hw9 hw; omega)
          · exact q
        have := hQ
        rw [row_of hB h3 (.inr h4), low_succ, dig_top hB h3] at this
        exact this _ _
      · rw [if_neg (by (clear h2 h1 el ym lx hB hQ hl hBB hy hx hw9 hw; omega))]
        refine WSs.nil (WSs.ret ?_)
        try simp only [orAnd,andAnd,Za,Zb,Zc,Zd,Ze,Zf,Zg,Zh,Zi,Zj,Zk,Zl,Zm,Zn,Zo,Zp,Zq,Zr,Zs,Zt,Zu,Zv,Zw,Zx,Zy,Zz,ZA,ZB,ZC,ZD,ZE,ZF,ZG,ZH,ZI,ZJ,ZK,ZL,ZM,ZN,ZO,ZP,ZQ,ZR,ZS,ZT,ZU,ZV,ZW,ZX,ZY,ZZ,Ya,Yb,Yc,Yd,Ye,Yf,Yg,Yh,Yi,Yj,Yk,Yl,Ym,Yn,Yo,Yp,Yq,Yr,Ys,Yt,Yu,Yv,Yw,Yx,Yy,Yz,YA,YB,YC,YD,YE,YF,YG,YH,YI,row₀,List.getElem?_cons_zero,List.getElem?_cons_succ,List.set_cons_zero,List.set_cons_succ,List.map_cons,List.map_nil,List.length_cons,List.length_nil,List.replicate,List.cons_append,List.nil_append,Nat.reduceAdd,Nat.reduceSub,List.mem_cons,List.not_mem_nil,or_false,forall_eq_or_imp,forall_eq,implies_true,true_and,and_true,if_true,if_false,Bool.false_eq_true,decide_eq_true_eq,Bool.not_eq_true',decide_eq_false_iff_not,Bool.not_eq_eq_eq_not,Bool.not_true,Bool.not_false,beq_self_eq_true,reduceCtorEq,beq_iff_eq,low_length,row_length,fdiv_nat,fmod_nat,two_pow,one_shl,shr,shl,and_mask,clip_nat,Int.one_mul]
        have h4 : x + y < B ^ len B x := by
          rcases Nat.lt_or_ge (x + y) (B ^ len B x) with q | q
          · exact q
          · have := Nat.div_pos q (Nat.pow_pos (by (clear q hc h2 h1 el ym lx hQ hl hBB hy hx hw9 hw; omega))); (clear q h2 h1 el ym lx hB hQ hl hBB hy hx hw9 hw; omega)
        have := hQ
        rw [row_of hB h4 ?_] at this
        · exact this _ _
        · rcases Nat.eq_zero_or_pos (len B x) with q | q
          · exact .inl q
          · exact .inr (Nat.le_trans (pow_len hB (by (clear this h4 hc h2 h1 ym hB hQ hl hBB hy hx hw9 hw; omega))) (Nat.le_add_right ..))

theorem m_add {x y : Nat} {Q : V → Bx → Prop} (hw : 1 ≤ w) (hw9 : w ≤ 9) (hx : Bd x) (hy : Bd y) (hQ : Q (.list (row (2 ^ w) (x + y))) σ) : Meets W (k + 1) "add" [.list (row (2 ^ w) x), .list (row (2 ^ w) y), .int w] Q σ := by
  refine meets c_add rfl ?_
  refine WSs.ite ?_
  try simp only [orAnd,andAnd,Za,Zb,Zc,Zd,Ze,Zf,Zg,Zh,Zi,Zj,Zk,Zl,Zm,Zn,Zo,Zp,Zq,Zr,Zs,Zt,Zu,Zv,Zw,Zx,Zy,Zz,ZA,ZB,ZC,ZD,ZE,ZF,ZG,ZH,ZI,ZJ,ZK,ZL,ZM,ZN,ZO,ZP,ZQ,ZR,ZS,ZT,ZU,ZV,ZW,ZX,ZY,ZZ,Ya,Yb,Yc,Yd,Ye,Yf,Yg,Yh,Yi,Yj,Yk,Yl,Ym,Yn,Yo,Yp,Yq,Yr,Ys,Yt,Yu,Yv,Yw,Yx,Yy,Yz,YA,YB,YC,YD,YE,YF,YG,YH,YI,row₀,List.getElem?_cons_zero,List.getElem?_cons_succ,List.set_cons_zero,List.set_cons_succ,List.map_cons,List.map_nil,List.length_cons,List.length_nil,List.replicate,List.cons_append,List.nil_append,Nat.reduceAdd,Nat.reduceSub,List.mem_cons,List.not_mem_nil,or_false,forall_eq_or_imp,forall_eq,implies_true,true_and,and_true,if_true,if_false,Bool.false_eq_true,decide_eq_true_eq,Bool.not_eq_true',decide_eq_false_iff_not,Bool.not_eq_eq_eq_not,Bool.not_true,Bool.not_false,beq_self_eq_true,reduceCtorEq,beq_iff_eq,low_length,row_length,fdiv_nat,fmod_nat,two_pow,one_shl,shr,shl,and_mask,clip_nat,Int.one_mul]
  by_cases hl : len (2 ^ w) x < len (2 ^ w) y
  · rw [if_pos (by (clear hQ hy hx hw9 hw; omega))]
    refine WSs.swap ?_
    try simp only [orAnd,andAnd,Za,Zb,Zc,Zd,Ze,Zf,Zg,Zh,Zi,Zj,Zk,Zl,Zm,Zn,Zo,Zp,Zq,Zr,Zs,Zt,Zu,Zv,Zw,Zx,Zy,Zz,ZA,ZB,ZC,ZD,ZE,ZF,ZG,ZH,ZI,ZJ,ZK,ZL,ZM,ZN,ZO,ZP,ZQ,ZR,ZS,ZT,ZU,ZV,ZW,ZX,ZY,ZZ,Ya,Yb,Yc,Yd,Ye,Yf,Yg,Yh,Yi,Yj,Yk,Yl,Ym,Yn,Yo,Yp,Yq,Yr,Ys,Yt,Yu,Yv,Yw,Yx,Yy,Yz,YA,YB,YC,YD,YE,YF,YG,YH,YI,row₀,List.getElem?_cons_zero,List.getElem?_cons_succ,List.set_cons_zero,List.set_cons_succ,List.map_cons,List.map_nil,List.length_cons,List.length_nil,List.replicate,List.cons_append,List.nil_append,Nat.reduceAdd,Nat.reduceSub,List.mem_cons,List.not_mem_nil,or_false,forall_eq_or_imp,forall_eq,implies_true,true_and,and_true,if_true,if_false,Bool.false_eq_true,decide_eq_true_eq,Bool.not_eq_true',decide_eq_false_iff_not,Bool.not_eq_eq_eq_not,Bool.not_true,Bool.not_false,beq_self_eq_true,reduceCtorEq,beq_iff_eq,low_length,row_length,fdiv_nat,fmod_nat,two_pow,one_shl,shr,shl,and_mask,clip_nat,Int.one_mul]
    refine WSs.nil (add_tail hw hw9 hy hx (by (clear hQ hy hx hw9 hw; omega)) fun _ _ => ?_)
    rw [Nat.add_comm]; exact hQ
  · rw [if_neg (by (clear hQ hy hx hw9 hw; omega))]
    exact WSs.nil (add_tail hw hw9 hx hy (by (clear hQ hy hx hw9 hw; omega)) fun _ _ => hQ)

theorem m_sub {x y : Nat} {Q : V → Bx → Prop} (hw : 1 ≤ w) (hw9 : w ≤ 9) (hx : Bd x) (hxy : y ≤ x) (hQ : Q (.list (row (2 ^ w) (x - y))) σ) : Meets W (k + 2) "sub" [.list (row (2 ^ w) x), .list (row (2 ^ w) y), .int w] Q σ := by
  have hB := w_pow hw
  have lx := hx.len hB
  have hy := hx.le hxy
  refine meets c_sub rfl ?_
  refine WSs.ite ?_
  try simp only [orAnd,andAnd,Za,Zb,Zc,Zd,Ze,Zf,Zg,Zh,Zi,Zj,Zk,Zl,Zm,Zn,Zo,Zp,Zq,Zr,Zs,Zt,Zu,Zv,Zw,Zx,Zy,Zz,ZA,ZB,ZC,ZD,ZE,ZF,ZG,ZH,ZI,ZJ,ZK,ZL,ZM,ZN,ZO,ZP,ZQ,ZR,ZS,ZT,ZU,ZV,ZW,ZX,ZY,ZZ,Ya,Yb,Yc,Yd,Ye,Yf,Yg,Yh,Yi,Yj,Yk,Yl,Ym,Yn,Yo,Yp,Yq,Yr,Ys,Yt,Yu,Yv,Yw,Yx,Yy,Yz,YA,YB,YC,YD,YE,YF,YG,YH,YI,row₀,List.getElem?_cons_zero,List.getElem?_cons_succ,List.set_cons_zero,List.set_cons_succ,List.map_cons,List.map_nil,List.length_cons,List.length_nil,List.replicate,List.cons_append,List.nil_append,Nat.reduceAdd,Nat.reduceSub,List.mem_cons,List.not_mem_nil,or_false,forall_eq_or_imp,forall_eq,implies_true,true_and,and_true,if_true,if_false,Bool.false_eq_true,decide_eq_true_eq,Bool.not_eq_true',decide_eq_false_iff_not,Bool.not_eq_eq_eq_not,Bool.not_true,Bool.not_false,beq_self_eq_true,reduceCtorEq,beq_iff_eq,low_length,row_length,fdiv_nat,fmod_nat,two_pow,one_shl,shr,shl,and_mask,clip_nat,Int.one_mul]
  refine m_compare hB hx hy ?_
  try simp only [orAnd,andAnd,Za,Zb,Zc,Zd,Ze,Zf,Zg,Zh,Zi,Zj,Zk,Zl,Zm,Zn,Zo,Zp,Zq,Zr,Zs,Zt,Zu,Zv,Zw,Zx,Zy,Zz,ZA,ZB,ZC,ZD,ZE,ZF,ZG,ZH,ZI,ZJ,ZK,ZL,ZM,ZN,ZO,ZP,ZQ,ZR,ZS,ZT,ZU,ZV,ZW,ZX,ZY,ZZ,Ya,Yb,Yc,Yd,Ye,Yf,Yg,Yh,Yi,Yj,Yk,Yl,Ym,Yn,Yo,Yp,Yq,Yr,Ys,Yt,Yu,Yv,Yw,Yx,Yy,Yz,YA,YB,YC,YD,YE,YF,YG,YH,YI,row₀,List.getElem?_cons_zero,List.getElem?_cons_succ,List.set_cons_zero,List.set_cons_succ,List.map_cons,List.map_nil,List.length_cons,List.length_nil,List.replicate,List.cons_append,List.nil_append,Nat.reduceAdd,Nat.reduceSub,List.mem_cons,List.not_mem_nil,or_false,forall_eq_or_imp,forall_eq,implies_true,true_and,and_true,if_true,if_false,Bool.false_eq_true,decide_eq_true_eq,Bool.not_eq_true',decide_eq_false_iff_not,Bool.not_eq_eq_eq_not,Bool.not_true,Bool.not_false,beq_self_eq_true,reduceCtorEq,beq_iff_eq,low_length,row_length,fdiv_nat,fmod_nat,two_pow,one_shl,shr,shl,and_mask,clip_nat,Int.one_mul]
  rw [if_neg (by rw [cmp3_lt]; (clear hy lx hB hQ hx hw9 hw; omega))]
  refine WSs.nil ?_
  refine WSs.swapOwn ?_
  try simp only [orAnd,andAnd,Za,Zb,Zc,Zd,Ze,Zf,Zg,Zh,Zi,Zj,Zk,Zl,Zm,Zn,Zo,Zp,Zq,Zr,Zs,Zt,Zu,Zv,Zw,Zx,Zy,Zz,ZA,ZB,ZC,ZD,ZE,ZF,ZG,ZH,ZI,ZJ,ZK,ZL,ZM,ZN,ZO,ZP,ZQ,ZR,ZS,ZT,ZU,ZV,ZW,ZX,ZY,ZZ,Ya,Yb,Yc,Yd,Ye,Yf,Yg,Yh,Yi,Yj,Yk,Yl,Ym,Yn,Yo,Yp,Yq,Yr,Ys,Yt,Yu,Yv,Yw,Yx,Yy,Yz,YA,YB,YC,YD,YE,YF,YG,YH,YI,row₀,List.getElem?_cons_zero,List.getElem?_cons_succ,List.set_cons_zero,List.set_cons_succ,List.map_cons,List.map_nil,List.length_cons,List.length_nil,List.replicate,List.cons_append,List.nil_append,Nat.reduceAdd,Nat.reduceSub,List.mem_cons,List.not_mem_nil,or_false,forall_eq_or_imp,forall_eq,implies_true,true_and,and_true,if_true,if_false,Bool.false_eq_true,decide_eq_true_eq,Bool.not_eq_true',decide_eq_false_iff_not,Bool.not_eq_eq_eq_not,Bool.not_true,Bool.not_false,beq_self_eq_true,reduceCtorEq,beq_iff_eq,low_length,row_length,fdiv_nat,fmod_nat,two_pow,one_shl,shr,shl,and_mask,clip_nat,Int.one_mul]
  refine ⟨by omega, by (clear hy lx hB hQ hxy hx; omega), by decide, ?_⟩
  refine WSs.for_ ?_
  try simp only [orAnd,andAnd,Za,Zb,Zc,Zd,Ze,Zf,Zg,Zh,Zi,Zj,Zk,Zl,Zm,Zn,Zo,Zp,Zq,Zr,Zs,Zt,Zu,Zv,Zw,Zx,Zy,Zz,ZA,ZB,ZC,ZD,ZE,ZF,ZG,ZH,ZI,ZJ,ZK,ZL,ZM,ZN,ZO,ZP,ZQ,ZR,ZS,ZT,ZU,ZV,ZW,ZX,ZY,ZZ,Ya,Yb,Yc,Yd,Ye,Yf,Yg,Yh,Yi,Yj,Yk,Yl,Ym,Yn,Yo,Yp,Yq,Yr,Ys,Yt,Yu,Yv,Yw,Yx,Yy,Yz,YA,YB,YC,YD,YE,YF,YG,YH,YI,row₀,List.getElem?_cons_zero,List.getElem?_cons_succ,List.set_cons_zero,List.set_cons_succ,List.map_cons,List.map_nil,List.length_cons,List.length_nil,List.replicate,List.cons_append,List.nil_append,Nat.reduceAdd,Nat.reduceSub,List.mem_cons,List.not_mem_nil,or_false,forall_eq_or_imp,forall_eq,implies_true,true_and,and_true,if_true,if_false,Bool.false_eq_true,decide_eq_true_eq,Bool.not_eq_true',decide_eq_false_iff_not,Bool.not_eq_eq_eq_not,Bool.not_true,Bool.not_false,beq_self_eq_true,reduceCtorEq,beq_iff_eq,low_length,row_length,fdiv_nat,fmod_nat,two_pow,one_shl,shr,shl,and_mask,clip_nat,Int.one_mul]
  refine ⟨.of (by (clear hy hB hQ hxy hx hw9 hw; omega)) (by (clear hy hB hQ hxy hx hw9 hw; omega)), rng_up (len (2 ^ w) x) (by (clear hy hB hQ hxy hx hw9 hw; omega)) (.of (by (clear hy lx hB hQ hxy hx hw9 hw; omega)) (by (clear hy lx hB hQ hxy hx hw9 hw; omega))) (.of (by (clear hy hB hQ hxy hx hw9 hw; omega)) (by (clear hy hB hQ hxy hx hw9 hw; omega))) fun xs hxs hat => ?_⟩
  generalize hBB : 2 ^ w = B at *
  refine ForQ.mk (fun n ρ o σ' => ∃ q q' b D, b ≤ 1 ∧ x % B ^ n + b * B ^ n = y % B ^ n + D ∧ D < B ^ n ∧ ρ = [some (.list (row B x)), some (.list (row B y)), some (.int w), none, some (.int (b : Nat)), some (.int B), q, q'] ∧ o = some (3, low B n D) ∧ σ = σ')
    ⟨none, none, 0, 0, by (clear hat hxs lx hB hQ hBB hy hxy hx hw9 hw; omega), by simp [Nat.mod_one], by simp, rfl, rfl, rfl⟩ ?_ ?_
  · rintro n _ _ _ ⟨q, q', b, D, hb, hD, hD', rfl, rfl, rfl⟩ hn
    rw [hxs] at hn
    rw [hat n hn]
    refine ⟨by show (3 : Nat) ≠ 6; decide, ?_⟩
    refine WSs.set ?_
    try simp only [orAnd,andAnd,Za,Zb,Zc,Zd,Ze,Zf,Zg,Zh,Zi,Zj,Zk,Zl,Zm,Zn,Zo,Zp,Zq,Zr,Zs,Zt,Zu,Zv,Zw,Zx,Zy,Zz,ZA,ZB,ZC,ZD,ZE,ZF,ZG,ZH,ZI,ZJ,ZK,ZL,ZM,ZN,ZO,ZP,ZQ,ZR,ZS,ZT,ZU,ZV,ZW,ZX,ZY,ZZ,Ya,Yb,Yc,Yd,Ye,Yf,Yg,Yh,Yi,Yj,Yk,Yl,Ym,Yn,Yo,Yp,Yq,Yr,Ys,Yt,Yu,Yv,Yw,Yx,Yy,Yz,YA,YB,YC,YD,YE,YF,YG,YH,YI,row₀,List.getElem?_cons_zero,List.getElem?_cons_succ,List.set_cons_zero,List.set_cons_succ,List.map_cons,List.map_nil,List.length_cons,List.length_nil,List.replicate,List.cons_append,List.nil_append,Nat.reduceAdd,Nat.reduceSub,List.mem_cons,List.not_mem_nil,or_false,forall_eq_or_imp,forall_eq,implies_true,true_and,and_true,if_true,if_false,Bool.false_eq_true,decide_eq_true_eq,Bool.not_eq_true',decide_eq_false_iff_not,Bool.not_eq_eq_eq_not,Bool.not_true,Bool.not_false,beq_self_eq_true,reduceCtorEq,beq_iff_eq,low_length,row_length,fdiv_nat,fmod_nat,two_pow,one_shl,shr,shl,and_mask,clip_nat,Int.one_mul]
    refine WSub_at n (by (clear hn hD' hD hb hat hxs lx hB hQ hBB hy hxy hx hw9 hw; omega)) (by rw [row_length]; (clear hD' hD hb hat lx hB hQ hBB hy hxy hx hw9 hw; omega)) ?_
    rw [row_getD hB]
    try simp only [orAnd,andAnd,Za,Zb,Zc,Zd,Ze,Zf,Zg,Zh,Zi,Zj,Zk,Zl,Zm,Zn,Zo,Zp,Zq,Zr,Zs,Zt,Zu,Zv,Zw,Zx,Zy,Zz,ZA,ZB,ZC,ZD,ZE,ZF,ZG,ZH,ZI,ZJ,ZK,ZL,ZM,ZN,ZO,ZP,ZQ,ZR,ZS,ZT,ZU,ZV,ZW,ZX,ZY,ZZ,Ya,Yb,Yc,Yd,Ye,Yf,Yg,Yh,Yi,Yj,Yk,Yl,Ym,Yn,Yo,Yp,Yq,Yr,Ys,Yt,Yu,Yv,Yw,Yx,Yy,Yz,YA,YB,YC,YD,YE,YF,YG,YH,YI,row₀,List.getElem?_cons_zero,List.getElem?_cons_succ,List.set_cons_zero,List.set_cons_succ,List.map_cons,List.map_nil,List.length_cons,List.length_nil,List.replicate,List.cons_append,List.nil_append,Nat.reduceAdd,Nat.reduceSub,List.mem_cons,List.not_mem_nil,or_false,forall_eq_or_imp,forall_eq,implies_true,true_and,and_true,if_true,if_false,Bool.false_eq_true,decide_eq_true_eq,Bool.not_eq_true',decide_eq_false_iff_not,Bool.not_eq_eq_eq_not,Bool.not_true,Bool.not_false,beq_self_eq_true,reduceCtorEq,beq_iff_eq,low_length,row_length,fdiv_nat,fmod_nat,two_pow,one_shl,shr,shl,and_mask,clip_nat,Int.one_mul]
    have dx := dig_lt hB x n
    have dy := dig_lt hB y n
    have key : ∀ (v : Int), v = (dig B x n : Int) - b - dig B y n → WSs W (k + 1) (.cons (.set 4 (.ite (.cmp .Lt (.var 7) (.int 0)) (.int 1) (.int 0))) (.cons (.app 3 (.ite (.cmp .Lt (.var 7) (.int 0)) (.bin .Add (.var 7) (.var 5)) (.var 7))) (.nil)))
        (fun fl ρ' o' σ'' => match fl with | .next => ∃ q q' b D, b ≤ 1 ∧ x % B ^ (n + 1) + b * B ^ (n + 1) = y % B ^ (n + 1) + D ∧ D < B ^ (n + 1) ∧ ρ' = [some (.list (row B x)), some (.list (row B y)), some (.int w), none, some (.int (b : Nat)), some (.int B), q, q'] ∧ o' = some (3, low B (n + 1) D) ∧ σ = σ'' | .ret x => Q x σ'')
        [some (.list (row B x)), some (.list (row B y)), some (.int w), none, some (.int (b : Nat)), some (.int B), some (.int (0 + (n : Int))), some (.int v)] (some (3, low B n D)) σ := by
      rintro v rfl
      have hp : 0 < B ^ n := Nat.pow_pos (by (clear dy dx hn hD' hD hb hat hxs lx hQ hBB hy hxy hx hw9 hw; omega))
      refine WSs.set ?_
      try simp only [orAnd,andAnd,Za,Zb,Zc,Zd,Ze,Zf,Zg,Zh,Zi,Zj,Zk,Zl,Zm,Zn,Zo,Zp,Zq,Zr,Zs,Zt,Zu,Zv,Zw,Zx,Zy,Zz,ZA,ZB,ZC,ZD,ZE,ZF,ZG,ZH,ZI,ZJ,ZK,ZL,ZM,ZN,ZO,ZP,ZQ,ZR,ZS,ZT,ZU,ZV,ZW,ZX,ZY,ZZ,Ya,Yb,Yc,Yd,Ye,Yf,Yg,Yh,Yi,Yj,Yk,Yl,Ym,Yn,Yo,Yp,Yq,Yr,Ys,Yt,Yu,Yv,Yw,Yx,Yy,Yz,YA,YB,YC,YD,YE,YF,YG,YH,YI,row₀,List.getElem?_cons_zero,List.getElem?_cons_succ,List.set_cons_zero,List.set_cons_succ,List.map_cons,List.map_nil,List.length_cons,List.length_nil,List.replicate,List.cons_append,List.nil_append,Nat.reduceAdd,Nat.reduceSub,List.mem_cons,List.not_mem_nil,or_false,forall_eq_or_imp,forall_eq,implies_true,true_and,and_true,if_true,if_false,Bool.false_eq_true,decide_eq_true_eq,Bool.not_eq_true',decide_eq_false_iff_not,Bool.not_eq_eq_eq_not,Bool.not_true,Bool.not_false,beq_self_eq_true,reduceCtorEq,beq_iff_eq,low_length,row_length,fdiv_nat,fmod_nat,two_pow,one_shl,shr,shl,and_mask,clip_nat,Int.one_mul]
      by_cases hneg : (dig B x n : Int) - b - dig B y n < 0
      · rw [if_pos hneg]
        refine WSs.app ?_
        try simp only [orAnd,andAnd,Za,Zb,Zc,Zd,Ze,Zf,Zg,Zh,Zi,Zj,Zk,Zl,Zm,Zn,Zo,Zp,Zq,Zr,Zs,Zt,Zu,Zv,Zw,Zx,Zy,Zz,ZA,ZB,ZC,ZD,ZE,ZF,ZG,ZH,ZI,ZJ,ZK,ZL,ZM,ZN,ZO,ZP,ZQ,ZR,ZS,ZT,ZU,ZV,ZW,ZX,ZY,ZZ,Ya,Yb,Yc,Yd,Ye,Yf,Yg,Yh,Yi,Yj,Yk,Yl,Ym,Yn,Yo,Yp,Yq,Yr,Ys,Yt,Yu,Yv,Yw,Yx,Yy,Yz,YA,YB,YC,YD,YE,YF,YG,YH,YI,row₀,List.getElem?_cons_zero,List.getElem?_cons_succ,List.set_cons_zero,List.set_cons_succ,List.map_cons,List.map_nil,List.length_cons,List.length_nil,List.replicate,List.cons_append,List.nil_append,Nat.reduceAdd,Nat.reduceSub,List.mem_cons,List.not_mem_nil,or_false,forall_eq_or_imp,forall_eq,implies_true,true_and,and_true,if_true,if_false,Bool.false_eq_true,decide_eq_true_eq,Bool.not_eq_true',decide_eq_false_iff_not,Bool.not_eq_eq_eq_not,Bool.not_true,Bool.not_false,beq_self_eq_true,reduceCtorEq,beq_iff_eq,low_length,row_length,fdiv_nat,fmod_nat,two_pow,one_shl,shr,shl,and_mask,clip_nat,Int.one_mul]
        rw [if_pos hneg]
        refine ⟨by rw [sz_n]; (clear hneg hp dy dx hD' hD hb hat hB hQ hBB hy hxy hx hw9 hw; omega), WSs.nil ?_⟩
        obtain ⟨d, hd⟩ : ∃ d : Nat, dig B x n + B = b + dig B y n + d := ⟨dig B x n + B - (b + dig B y n), by (clear hneg hp dx hn hD' hD hat hxs lx hB hQ hBB hy hxy hx hw9 hw; omega)⟩
        refine ⟨_, _, 1, D + d * B ^ n, by (clear hd hneg hp dy dx hn hD' hD hb hat hxs lx hB hQ hBB hy hxy hx hw9 hw; omega), ?_, ?_, rfl, ?_, rfl⟩
        · rw [mod_succ, mod_succ, Nat.pow_succ]
          have := congrArg (· * B ^ n) hd
          simp only [Nat.add_mul] at this
          have e : B ^ n * B = B * B ^ n := Nat.mul_comm ..
          (clear hd hneg hp dy dx hn hD' hb hat hxs lx hB hQ hBB hy hxy hx hw9 hw; omega)
        · rw [Nat.pow_succ]
          have : (d + 1) * B ^ n ≤ B * B ^ n := Nat.mul_le_mul_right _ (by (clear hp dy dx hn hD' hD hb hat hxs lx hB hQ hBB hy hxy hx hw9 hw; omega))
          rw [Nat.add_mul, Nat.mul_comm B] at this
          (clear hd hneg hp dy dx hn hD hb hat hxs lx hB hQ hBB hy hxy hx hw9 hw; omega)
        · rw [low_step hB, Nat.div_eq_of_lt hD', Nat.zero_add, Nat.mod_eq_of_lt (show d < B by (clear hp dy dx hn hD' hD hb hat hxs lx hB hQ hBB hy hxy hx hw9 hw; omega))]
          congr 4
          (clear hneg hp dy dx hn hD' hD hb hat hxs lx hB hQ hBB hy hxy hx hw9 hw; omega)
      · rw [if_neg hneg]
        refine WSs.app ?_
        try simp only [orAnd,andAnd,Za,Zb,Zc,Zd,Ze,Zf,Zg,Zh,Zi,Zj,Zk,Zl,Zm,Zn,Zo,Zp,Zq,Zr,Zs,Zt,Zu,Zv,Zw,Zx,Zy,Zz,ZA,ZB,ZC,ZD,ZE,ZF,ZG,ZH,ZI,ZJ,ZK,ZL,ZM,ZN,ZO,ZP,ZQ,ZR,ZS,ZT,ZU,ZV,ZW,ZX,ZY,ZZ,Ya,Yb,Yc,Yd,Ye,Yf,Yg,Yh,Yi,Yj,Yk,Yl,Ym,Yn,Yo,Yp,Yq,Yr,Ys,Yt,Yu,Yv,Yw,Yx,Yy,Yz,YA,YB,YC,YD,YE,YF,YG,YH,YI,row₀,List.getElem?_cons_zero,List.getElem?_cons_succ,List.set_cons_zero,List.set_cons_succ,List.map_cons,List.map_nil,List.length_cons,List.length_nil,List.replicate,List.cons_append,List.nil_append,Nat.reduceAdd,Nat.reduceSub,List.mem_cons,List.not_mem_nil,or_false,forall_eq_or_imp,forall_eq,implies_true,true_and,and_true,if_true,if_false,Bool.false_eq_true,decide_eq_true_eq,Bool.not_eq_true',decide_eq_false_iff_not,Bool.not_eq_eq_eq_not,Bool.not_true,Bool.not_false,beq_self_eq_true,reduceCtorEq,beq_iff_eq,low_length,row_length,fdiv_nat,fmod_nat,two_pow,one_shl,shr,shl,and_mask,clip_nat,Int.one_mul]
        rw [if_neg hneg]
        refine ⟨by rw [sz_n]; (clear hneg hp dy dx hD' hD hb hat hB hQ hBB hy hxy hx hw9 hw; omega), WSs.nil ?_⟩
        obtain ⟨d, hd⟩ : ∃ d : Nat, dig B x n = b + dig B y n + d := ⟨dig B x n - (b + dig B y n), by (clear hp dy dx hn hD' hD hb hat hxs lx hB hQ hBB hy hxy hx hw9 hw; omega)⟩
        refine ⟨_, _, 0, D + d * B ^ n, by (clear hd hneg hp dy dx hn hD' hD hb hat hxs lx hB hQ hBB hy hxy hx hw9 hw; omega), ?_, ?_, rfl, ?_, rfl⟩
        · rw [mod_succ, mod_succ]
          have := congrArg (· * B ^ n) hd
          simp only [Nat.add_mul] at this
          (clear hd hneg hp dy dx hn hD' hb hat hxs lx hB hQ hBB hy hxy hx hw9 hw; omega)
        · rw [Nat.pow_succ]
          have : (d + 1) * B ^ n ≤ B * B ^ n := Nat.mul_le_mul_right _ (by (clear hneg hp dy hn hD' hD hat hxs lx hB hQ hBB hy hxy hx hw9 hw; omega))
          rw [Nat.add_mul, Nat.mul_comm B] at this
          (clear hd hneg hp dy dx hn hD hb hat hxs lx hB hQ hBB hy hxy hx hw9 hw; omega)
        · rw [low_step hB, Nat.div_eq_of_lt hD', Nat.zero_add, Nat.mod_eq_of_lt (show d < B by (clear hneg hp dy hn hD' hD hat hxs lx hB hQ hBB hy hxy hx hw9 hw; omega))]
          congr 4
          (clear hneg hp dy dx hn hD' hD hb hat hxs lx hB hQ hBB hy hxy hx hw9 hw; omega)
    by_cases hny : n < len B y
    · rw [if_pos (by (clear key dy dx hn hD' hD hb hat hxs lx hB hQ hBB hy hxy hx hw9 hw; omega))]
      refine WSub_at n (by (clear hny key dy dx hn hD' hD hb hat hxs lx hB hQ hBB hy hxy hx hw9 hw; omega)) (by rw [row_length]; (clear key dy dx hn hD' hD hb hat hxs lx hB hQ hBB hy hxy hx hw9 hw; omega)) ?_
      rw [row_getD hB]
      exact key _ rfl
    · rw [if_neg (by (clear key dy dx hn hD' hD hb hat hxs lx hB hQ hBB hy hxy hx hw9 hw; omega))]
      have : dig B y n = 0 := dig_zero (Nat.lt_of_lt_of_le (lt_len hB y) (Nat.pow_le_pow_right (by (clear hny key dy dx hn hD' hD hb hat hxs lx hQ hBB hy hxy hx hw9 hw; omega)) (by (clear key dy dx hn hD' hD hb hat hxs lx hB hQ hBB hy hxy hx hw9 hw; omega))))
      exact key _ (by rw [this]; rfl)
  · rintro _ _ _ ⟨q, q', b, D, hb, hD, hD', rfl, rfl, rfl⟩
    rw [hxs] at *
    clear hat hxs xs
    have h1 := lt_len hB x
    rw [Nat.mod_eq_of_lt h1, Nat.mod_eq_of_lt (Nat.lt_of_le_of_lt hxy h1)] at hD
    have hb0 : b = 0 := by
      rcases Nat.eq_zero_or_pos b with q | q
      · exact q
      · have : b = 1 := by (clear h1 hD' hD lx hB hQ hBB hy hxy hx hw9 hw; omega)
        subst this; (clear q hb h1 lx hB hQ hBB hy hx hw9 hw; omega)
    subst hb0
    have : D = x - y := by (clear hb h1 hD' lx hB hQ hBB hy hxy hx hw9 hw; omega)
    subst this
    refine WSs.ret ?_
    try simp only [orAnd,andAnd,Za,Zb,Zc,Zd,Ze,Zf,Zg,Zh,Zi,Zj,Zk,Zl,Zm,Zn,Zo,Zp,Zq,Zr,Zs,Zt,Zu,Zv,Zw,Zx,Zy,Zz,ZA,ZB,ZC,ZD,ZE,ZF,ZG,ZH,ZI,ZJ,ZK,ZL,ZM,ZN,ZO,ZP,ZQ,ZR,ZS,ZT,ZU,ZV,ZW,ZX,ZY,ZZ,Ya,Yb,Yc,Yd,Ye,Yf,Yg,Yh,Yi,Yj,Yk,Yl,Ym,Yn,Yo,Yp,Yq,Yr,Ys,Yt,Yu,Yv,Yw,Yx,Yy,Yz,YA,YB,YC,YD,YE,YF,YG,YH,YI,row₀,List.getElem?_cons_zero,List.getElem?_cons_succ,List.set_cons_zero,List.set_cons_succ,List.map_cons,List.map_nil,List.length_cons,List.length_nil,List.replicate,List.cons_append,List.nil_append,Nat.reduceAdd,Nat.reduceSub,List.mem_cons,List.not_mem_nil,or_false,forall_eq_or_imp,forall_eq,implies_true,true_and,and_true,if_true,if_false,Bool.false_eq_true,decide_eq_true_eq,Bool.not_eq_true',decide_eq_false_iff_not,Bool.not_eq_eq_eq_not,Bool.not_true,Bool.not_false,beq_self_eq_true,reduceCtorEq,beq_iff_eq,low_length,row_length,fdiv_nat,fmod_nat,two_pow,one_shl,shr,shl,and_mask,clip_nat,Int.one_mul]
    exact m_normal hB hD' hQ
end
end
section
open PySem PySem.W PyProof.Rows
set_option exponentiation.threshold 5000

section
variable {W : Wd} {k w : Nat} {σ : Bx} {Q : V → Bx → Prop}

theorem natAbs_dig {B : Nat} (hB : 2 ≤ B) (h : B ≤ 512) (x n : Nat) : (dig B x n : Int).natAbs < 2 ^ 64 := by
  have := dig_lt hB x n
  rw [Int.natAbs_natCast]; omega
theorem pow9 (h : w ≤ 9) : 2 ^ w ≤ 512 := Nat.pow_le_pow_right (n := 2) (by decide) h

theorem m_shift_left {x n : Nat} (hw : 1 ≤ w) (hw9 : w ≤ 9) (hx : Bd x) (hn : n ≤ 4000000) (hQ : Q (.list (row (2 ^ w) (x * 2 ^ n))) σ) : Meets W (k + 1) "shift_left" [.list (row (2 ^ w) x), .int n, .int w] Q σ := by
  have hB := w_pow hw
  have hB9 := pow9 hw9
  have lx := hx.len hB
  refine meets c_shift_left rfl ?_
  refine WSs.ite ?_
  try simp only [orAnd,andAnd,Za,Zb,Zc,Zd,Ze,Zf,Zg,Zh,Zi,Zj,Zk,Zl,Zm,Zn,Zo,Zp,Zq,Zr,Zs,Zt,Zu,Zv,Zw,Zx,Zy,Zz,ZA,ZB,ZC,ZD,ZE,ZF,ZG,ZH,ZI,ZJ,ZK,ZL,ZM,ZN,ZO,ZP,ZQ,ZR,ZS,ZT,ZU,ZV,ZW,ZX,ZY,ZZ,Ya,Yb,Yc,Yd,Ye,Yf,Yg,Yh,Yi,Yj,Yk,Yl,Ym,Yn,Yo,Yp,Yq,Yr,Ys,Yt,Yu,Yv,Yw,Yx,Yy,Yz,YA,YB,YC,YD,YE,YF,YG,YH,YI,row₀,List.getElem?_cons_zero,List.getElem?_cons_succ,List.set_cons_zero,List.set_cons_succ,List.map_cons,List.map_nil,List.length_cons,List.length_nil,List.replicate,List.cons_append,List.nil_append,Nat.reduceAdd,Nat.reduceSub,List.mem_cons,List.not_mem_nil,or_false,forall_eq_or_imp,forall_eq,implies_true,true_and,and_true,if_true,if_false,Bool.false_eq_true,decide_eq_true_eq,Bool.not_eq_true',decide_eq_false_iff_not,Bool.not_eq_eq_eq_not,Bool.not_true,Bool.not_false,beq_self_eq_true,reduceCtorEq,beq_iff_eq,low_length,row_length,fdiv_nat,fmod_nat,two_pow,one_shl,shr,shl,and_mask,clip_nat,Int.one_mul]
  by_cases h0 : len (2 ^ w) x = 0
  · rw [if_pos (by (clear lx hB9 hB hQ hn hx hw9 hw; omega))]
    have := len_eq_zero hB h0
    subst this
    rw [Nat.zero_mul, row_zero] at hQ
    refine WSs.ret ?_
    try simp only [orAnd,andAnd,Za,Zb,Zc,Zd,Ze,Zf,Zg,Zh,Zi,Zj,Zk,Zl,Zm,Zn,Zo,Zp,Zq,Zr,Zs,Zt,Zu,Zv,Zw,Zx,Zy,Zz,ZA,ZB,ZC,ZD,ZE,ZF,ZG,ZH,ZI,ZJ,ZK,ZL,ZM,ZN,ZO,ZP,ZQ,ZR,ZS,ZT,ZU,ZV,ZW,ZX,ZY,ZZ,Ya,Yb,Yc,Yd,Ye,Yf,Yg,Yh,Yi,Yj,Yk,Yl,Ym,Yn,Yo,Yp,Yq,Yr,Ys,Yt,Yu,Yv,Yw,Yx,Yy,Yz,YA,YB,YC,YD,YE,YF,YG,YH,YI,row₀,List.getElem?_cons_zero,List.getElem?_cons_succ,List.set_cons_zero,List.set_cons_succ,List.map_cons,List.map_nil,List.length_cons,List.length_nil,List.replicate,List.cons_append,List.nil_append,Nat.reduceAdd,Nat.reduceSub,List.mem_cons,List.not_mem_nil,or_false,forall_eq_or_imp,forall_eq,implies_true,true_and,and_true,if_true,if_false,Bool.false_eq_true,decide_eq_true_eq,Bool.not_eq_true',decide_eq_false_iff_not,Bool.not_eq_eq_eq_not,Bool.not_true,Bool.not_false,beq_self_eq_true,reduceCtorEq,beq_iff_eq,low_length,row_length,fdiv_nat,fmod_nat,two_pow,one_shl,shr,shl,and_mask,clip_nat,Int.one_mul]
    exact ⟨[], rfl, by decide, hQ⟩
  · rw [if_neg (by (clear lx hB9 hB hQ hn hx hw9 hw; omega))]
    refine WSs.nil (WSs.swap ?_)
    try simp only [orAnd,andAnd,Za,Zb,Zc,Zd,Ze,Zf,Zg,Zh,Zi,Zj,Zk,Zl,Zm,Zn,Zo,Zp,Zq,Zr,Zs,Zt,Zu,Zv,Zw,Zx,Zy,Zz,ZA,ZB,ZC,ZD,ZE,ZF,ZG,ZH,ZI,ZJ,ZK,ZL,ZM,ZN,ZO,ZP,ZQ,ZR,ZS,ZT,ZU,ZV,ZW,ZX,ZY,ZZ,Ya,Yb,Yc,Yd,Ye,Yf,Yg,Yh,Yi,Yj,Yk,Yl,Ym,Yn,Yo,Yp,Yq,Yr,Ys,Yt,Yu,Yv,Yw,Yx,Yy,Yz,YA,YB,YC,YD,YE,YF,YG,YH,YI,row₀,List.getElem?_cons_zero,List.getElem?_cons_succ,List.set_cons_zero,List.set_cons_succ,List.map_cons,List.map_nil,List.length_cons,List.length_nil,List.replicate,List.cons_append,List.nil_append,Nat.reduceAdd,Nat.reduceSub,List.mem_cons,List.not_mem_nil,or_false,forall_eq_or_imp,forall_eq,implies_true,true_and,and_true,if_true,if_false,Bool.false_eq_true,decide_eq_true_eq,Bool.not_eq_true',decide_eq_false_iff_not,Bool.not_eq_eq_eq_not,Bool.not_true,Bool.not_false,beq_self_eq_true,reduceCtorEq,beq_iff_eq,low_length,row_length,fdiv_nat,fmod_nat,two_pow,one_shl,shr,shl,and_mask,clip_nat,Int.one_mul]
    refine ⟨by (clear h0 lx hB9 hB hQ hn hx; omega), ⟨64, by decide, by rw [Int.natAbs_natCast]; omega⟩, by (clear h0 lx hB9 hB hQ hn hx; omega), ?_⟩
    have hwm := Nat.mod_lt n hw
    have hdm : n / w ≤ n := Nat.div_le_self ..
    refine WSs.swapRep ?_
    try simp only [orAnd,andAnd,Za,Zb,Zc,Zd,Ze,Zf,Zg,Zh,Zi,Zj,Zk,Zl,Zm,Zn,Zo,Zp,Zq,Zr,Zs,Zt,Zu,Zv,Zw,Zx,Zy,Zz,ZA,ZB,ZC,ZD,ZE,ZF,ZG,ZH,ZI,ZJ,ZK,ZL,ZM,ZN,ZO,ZP,ZQ,ZR,ZS,ZT,ZU,ZV,ZW,ZX,ZY,ZZ,Ya,Yb,Yc,Yd,Ye,Yf,Yg,Yh,Yi,Yj,Yk,Yl,Ym,Yn,Yo,Yp,Yq,Yr,Ys,Yt,Yu,Yv,Yw,Yx,Yy,Yz,YA,YB,YC,YD,YE,YF,YG,YH,YI,row₀,List.getElem?_cons_zero,List.getElem?_cons_succ,List.set_cons_zero,List.set_cons_succ,List.map_cons,List.map_nil,List.length_cons,List.length_nil,List.replicate,List.cons_append,List.nil_append,Nat.reduceAdd,Nat.reduceSub,List.mem_cons,List.not_mem_nil,or_false,forall_eq_or_imp,forall_eq,implies_true,true_and,and_true,if_true,if_false,Bool.false_eq_true,decide_eq_true_eq,Bool.not_eq_true',decide_eq_false_iff_not,Bool.not_eq_eq_eq_not,Bool.not_true,Bool.not_false,beq_self_eq_true,reduceCtorEq,beq_iff_eq,low_length,row_length,fdiv_nat,fmod_nat,two_pow,one_shl,shr,shl,and_mask,clip_nat,Int.one_mul]
    refine ⟨n / w, rfl, by rw [sz_n]; (clear hwm h0 lx hB9 hB hQ hx hw9 hw; omega), by (clear hdm hwm h0 lx hB9 hB hQ hn hx; omega), by (clear hdm hwm h0 lx hB9 hB hQ hn hx; omega), by decide, ?_⟩
    refine WSs.for_ ?_
    try simp only [orAnd,andAnd,Za,Zb,Zc,Zd,Ze,Zf,Zg,Zh,Zi,Zj,Zk,Zl,Zm,Zn,Zo,Zp,Zq,Zr,Zs,Zt,Zu,Zv,Zw,Zx,Zy,Zz,ZA,ZB,ZC,ZD,ZE,ZF,ZG,ZH,ZI,ZJ,ZK,ZL,ZM,ZN,ZO,ZP,ZQ,ZR,ZS,ZT,ZU,ZV,ZW,ZX,ZY,ZZ,Ya,Yb,Yc,Yd,Ye,Yf,Yg,Yh,Yi,Yj,Yk,Yl,Ym,Yn,Yo,Yp,Yq,Yr,Ys,Yt,Yu,Yv,Yw,Yx,Yy,Yz,YA,YB,YC,YD,YE,YF,YG,YH,YI,row₀,List.getElem?_cons_zero,List.getElem?_cons_succ,List.set_cons_zero,List.set_cons_succ,List.map_cons,List.map_nil,List.length_cons,List.length_nil,List.replicate,List.cons_append,List.nil_append,Nat.reduceAdd,Nat.reduceSub,List.mem_cons,List.not_mem_nil,or_false,forall_eq_or_imp,forall_eq,implies_true,true_and,and_true,if_true,if_false,Bool.false_eq_true,decide_eq_true_eq,Bool.not_eq_true',decide_eq_false_iff_not,Bool.not_eq_eq_eq_not,Bool.not_true,Bool.not_false,beq_self_eq_true,reduceCtorEq,beq_iff_eq,low_length,row_length,fdiv_nat,fmod_nat,two_pow,one_shl,shr,shl,and_mask,clip_nat,Int.one_mul]
    refine ⟨row (2 ^ w) x, rfl, trivial, ?_⟩
    have hfew : 2 ^ (n % w) ≤ 2 ^ w := Nat.pow_le_pow_right (by decide) (by (clear hdm h0 lx hB9 hB hQ hn hx hw9 hw; omega))
    have hn' : 2 ^ n = 2 ^ (n % w) * (2 ^ w) ^ (n / w) := by
      rw [← Nat.pow_mul, ← Nat.pow_add]
      congr 1
      exact (Nat.mod_add_div n w).symm
    generalize hf : n % w = f at *
    generalize hs : n / w = s at *
    generalize hBB : 2 ^ w = B at *
    refine ForQ.mk (fun j ρ o σ' => ∃ q, ρ = [some (.list (row B x)), some (.int n), some (.int w), some (.int (s : Nat)), some (.int (f : Nat)), none, some (.int ((x % B ^ j * 2 ^ f) / B ^ j : Nat)), some (.int ((B : Int) - 1)), q] ∧
      o = some (5, List.replicate s 0 ++ low B j (x % B ^ j * 2 ^ f)) ∧ σ = σ') ⟨none, ?_, ?_, rfl⟩ ?_ ?_
    · simp [Nat.mod_one]
    · simp [low_zero]
    · rintro j _ _ _ ⟨q, rfl, rfl, rfl⟩ hj
      rw [row_length] at hj
      rw [row_getD hB]
      refine ⟨by show (5 : Nat) ≠ 8; decide, ?_⟩
      refine WSs.aug rfl ?_
      try simp only [orAnd,andAnd,Za,Zb,Zc,Zd,Ze,Zf,Zg,Zh,Zi,Zj,Zk,Zl,Zm,Zn,Zo,Zp,Zq,Zr,Zs,Zt,Zu,Zv,Zw,Zx,Zy,Zz,ZA,ZB,ZC,ZD,ZE,ZF,ZG,ZH,ZI,ZJ,ZK,ZL,ZM,ZN,ZO,ZP,ZQ,ZR,ZS,ZT,ZU,ZV,ZW,ZX,ZY,ZZ,Ya,Yb,Yc,Yd,Ye,Yf,Yg,Yh,Yi,Yj,Yk,Yl,Ym,Yn,Yo,Yp,Yq,Yr,Ys,Yt,Yu,Yv,Yw,Yx,Yy,Yz,YA,YB,YC,YD,YE,YF,YG,YH,YI,row₀,List.getElem?_cons_zero,List.getElem?_cons_succ,List.set_cons_zero,List.set_cons_succ,List.map_cons,List.map_nil,List.length_cons,List.length_nil,List.replicate,List.cons_append,List.nil_append,Nat.reduceAdd,Nat.reduceSub,List.mem_cons,List.not_mem_nil,or_false,forall_eq_or_imp,forall_eq,implies_true,true_and,and_true,if_true,if_false,Bool.false_eq_true,decide_eq_true_eq,Bool.not_eq_true',decide_eq_false_iff_not,Bool.not_eq_eq_eq_not,Bool.not_true,Bool.not_false,beq_self_eq_true,reduceCtorEq,beq_iff_eq,low_length,row_length,fdiv_nat,fmod_nat,two_pow,one_shl,shr,shl,and_mask,clip_nat,Int.one_mul]
      refine ⟨by (clear hj hn' hfew h0 lx hB9 hB hQ hBB hdm hs hwm hn hx hw9 hw; omega), by (clear hj hn' hfew h0 lx hB9 hB hQ hBB hdm hs hf hn hx; omega), natAbs_dig hB hB9 _ _, ?_⟩
      have hc : x % B ^ j * 2 ^ f / B ^ j < 2 ^ f := by
        rw [Nat.div_lt_iff_lt_mul (Nat.pow_pos (by (clear hj hn' hfew h0 lx hQ hBB hdm hs hwm hf hn hx hw9 hw; omega))), Nat.mul_comm]
        exact Nat.mul_lt_mul_of_pos_left (Nat.mod_lt _ (Nat.pow_pos (by (clear hj hn' hfew h0 lx hQ hBB hdm hs hwm hf hn hx hw9 hw; omega)))) (Nat.pow_pos (by (clear hj hn' hfew h0 lx hB9 hB hQ hBB hdm hs hwm hf hn hx hw9 hw; omega)))
      rw [← Int.natCast_mul, or_add _ hc]
      refine WSs.app ?_
      subst hBB
      try simp only [orAnd,andAnd,Za,Zb,Zc,Zd,Ze,Zf,Zg,Zh,Zi,Zj,Zk,Zl,Zm,Zn,Zo,Zp,Zq,Zr,Zs,Zt,Zu,Zv,Zw,Zx,Zy,Zz,ZA,ZB,ZC,ZD,ZE,ZF,ZG,ZH,ZI,ZJ,ZK,ZL,ZM,ZN,ZO,ZP,ZQ,ZR,ZS,ZT,ZU,ZV,ZW,ZX,ZY,ZZ,Ya,Yb,Yc,Yd,Ye,Yf,Yg,Yh,Yi,Yj,Yk,Yl,Ym,Yn,Yo,Yp,Yq,Yr,Ys,Yt,Yu,Yv,Yw,Yx,Yy,Yz,YA,YB,YC,YD,YE,YF,YG,YH,YI,row₀,List.getElem?_cons_zero,List.getElem?_cons_succ,List.set_cons_zero,List.set_cons_succ,List.map_cons,List.map_nil,List.length_cons,List.length_nil,List.replicate,List.cons_append,List.nil_append,Nat.reduceAdd,Nat.reduceSub,List.mem_cons,List.not_mem_nil,or_false,forall_eq_or_imp,forall_eq,implies_true,true_and,and_true,if_true,if_false,Bool.false_eq_true,decide_eq_true_eq,Bool.not_eq_true',decide_eq_false_iff_not,Bool.not_eq_eq_eq_not,Bool.not_true,Bool.not_false,beq_self_eq_true,reduceCtorEq,beq_iff_eq,low_length,row_length,fdiv_nat,fmod_nat,two_pow,one_shl,shr,shl,and_mask,clip_nat,Int.one_mul]
      refine ⟨by rw [sz_n]; simp [low_length]; (clear hc hn' hfew h0 hB9 hB hQ hs hwm hf hx hw9 hw; omega), ?_⟩
      refine WSs.aug rfl ?_
      try simp only [orAnd,andAnd,Za,Zb,Zc,Zd,Ze,Zf,Zg,Zh,Zi,Zj,Zk,Zl,Zm,Zn,Zo,Zp,Zq,Zr,Zs,Zt,Zu,Zv,Zw,Zx,Zy,Zz,ZA,ZB,ZC,ZD,ZE,ZF,ZG,ZH,ZI,ZJ,ZK,ZL,ZM,ZN,ZO,ZP,ZQ,ZR,ZS,ZT,ZU,ZV,ZW,ZX,ZY,ZZ,Ya,Yb,Yc,Yd,Ye,Yf,Yg,Yh,Yi,Yj,Yk,Yl,Ym,Yn,Yo,Yp,Yq,Yr,Ys,Yt,Yu,Yv,Yw,Yx,Yy,Yz,YA,YB,YC,YD,YE,YF,YG,YH,YI,row₀,List.getElem?_cons_zero,List.getElem?_cons_succ,List.set_cons_zero,List.set_cons_succ,List.map_cons,List.map_nil,List.length_cons,List.length_nil,List.replicate,List.cons_append,List.nil_append,Nat.reduceAdd,Nat.reduceSub,List.mem_cons,List.not_mem_nil,or_false,forall_eq_or_imp,forall_eq,implies_true,true_and,and_true,if_true,if_false,Bool.false_eq_true,decide_eq_true_eq,Bool.not_eq_true',decide_eq_false_iff_not,Bool.not_eq_eq_eq_not,Bool.not_true,Bool.not_false,beq_self_eq_true,reduceCtorEq,beq_iff_eq,low_length,row_length,fdiv_nat,fmod_nat,two_pow,one_shl,shr,shl,and_mask,clip_nat,Int.one_mul]
      have e : x % (2 ^ w) ^ (j + 1) * 2 ^ f = x % (2 ^ w) ^ j * 2 ^ f + (dig (2 ^ w) x j * 2 ^ f) * (2 ^ w) ^ j := by
        rw [mod_succ x, Nat.add_mul]
        congr 1
        rw [Nat.mul_right_comm]
      refine ⟨by (clear e hc hj hn' hfew h0 lx hB9 hB hQ hdm hs hwm hf hn hx; omega), WSs.nil ⟨some (.int (dig (2 ^ w) x j : Nat)), ?_, ?_, rfl⟩⟩
      · rw [e, div_step hB]
      · rw [e, low_step hB, List.append_assoc]
    · rintro _ _ _ ⟨q, rfl, rfl, rfl⟩
      rw [row_length, Nat.mod_eq_of_lt (lt_len hB x)]
      have h1 := lt_len hB x
      have hx0 : 0 < x := by
        rcases Nat.eq_zero_or_pos x with q | q
        · subst q; rw [len_zero] at h0; (clear h1 lx hQ hx hn' hfew hB9 hB hBB hdm hs hwm hf hn hw9 hw; omega)
        · exact q
      have hf0 : 0 < 2 ^ f := Nat.pow_pos (by decide)
      have hTp : 0 < x * 2 ^ f := Nat.mul_pos hx0 hf0
      have hT : x * 2 ^ n = x * 2 ^ f * B ^ s := by rw [hn', Nat.mul_assoc]
      rw [hT, row_shift hB hTp] at hQ
      refine WSs.ite ?_
      try simp only [orAnd,andAnd,Za,Zb,Zc,Zd,Ze,Zf,Zg,Zh,Zi,Zj,Zk,Zl,Zm,Zn,Zo,Zp,Zq,Zr,Zs,Zt,Zu,Zv,Zw,Zx,Zy,Zz,ZA,ZB,ZC,ZD,ZE,ZF,ZG,ZH,ZI,ZJ,ZK,ZL,ZM,ZN,ZO,ZP,ZQ,ZR,ZS,ZT,ZU,ZV,ZW,ZX,ZY,ZZ,Ya,Yb,Yc,Yd,Ye,Yf,Yg,Yh,Yi,Yj,Yk,Yl,Ym,Yn,Yo,Yp,Yq,Yr,Ys,Yt,Yu,Yv,Yw,Yx,Yy,Yz,YA,YB,YC,YD,YE,YF,YG,YH,YI,row₀,List.getElem?_cons_zero,List.getElem?_cons_succ,List.set_cons_zero,List.set_cons_succ,List.map_cons,List.map_nil,List.length_cons,List.length_nil,List.replicate,List.cons_append,List.nil_append,Nat.reduceAdd,Nat.reduceSub,List.mem_cons,List.not_mem_nil,or_false,forall_eq_or_imp,forall_eq,implies_true,true_and,and_true,if_true,if_false,Bool.false_eq_true,decide_eq_true_eq,Bool.not_eq_true',decide_eq_false_iff_not,Bool.not_eq_eq_eq_not,Bool.not_true,Bool.not_false,beq_self_eq_true,reduceCtorEq,beq_iff_eq,low_length,row_length,fdiv_nat,fmod_nat,two_pow,one_shl,shr,shl,and_mask,clip_nat,Int.one_mul]
      by_cases hc : 0 < x * 2 ^ f / B ^ len B x
      · rw [if_pos (by (clear hT hTp hf0 hx0 h1 hn' hfew h0 lx hB9 hB hQ hBB hdm hs hwm hf hn hx hw9 hw; omega))]
        refine WSs.app ?_
        try simp only [orAnd,andAnd,Za,Zb,Zc,Zd,Ze,Zf,Zg,Zh,Zi,Zj,Zk,Zl,Zm,Zn,Zo,Zp,Zq,Zr,Zs,Zt,Zu,Zv,Zw,Zx,Zy,Zz,ZA,ZB,ZC,ZD,ZE,ZF,ZG,ZH,ZI,ZJ,ZK,ZL,ZM,ZN,ZO,ZP,ZQ,ZR,ZS,ZT,ZU,ZV,ZW,ZX,ZY,ZZ,Ya,Yb,Yc,Yd,Ye,Yf,Yg,Yh,Yi,Yj,Yk,Yl,Ym,Yn,Yo,Yp,Yq,Yr,Ys,Yt,Yu,Yv,Yw,Yx,Yy,Yz,YA,YB,YC,YD,YE,YF,YG,YH,YI,row₀,List.getElem?_cons_zero,List.getElem?_cons_succ,List.set_cons_zero,List.set_cons_succ,List.map_cons,List.map_nil,List.length_cons,List.length_nil,List.replicate,List.cons_append,List.nil_append,Nat.reduceAdd,Nat.reduceSub,List.mem_cons,List.not_mem_nil,or_false,forall_eq_or_imp,forall_eq,implies_true,true_and,and_true,if_true,if_false,Bool.false_eq_true,decide_eq_true_eq,Bool.not_eq_true',decide_eq_false_iff_not,Bool.not_eq_eq_eq_not,Bool.not_true,Bool.not_false,beq_self_eq_true,reduceCtorEq,beq_iff_eq,low_length,row_length,fdiv_nat,fmod_nat,two_pow,one_shl,shr,shl,and_mask,clip_nat,Int.one_mul]
        refine ⟨by rw [sz_n]; simp [low_length]; (clear hc hT hTp hf0 hx0 h1 hn' hfew h0 hB9 hB hQ hBB hs hwm hf hx hw9 hw; omega), WSs.nil (WSs.ret ?_)⟩
        try simp only [orAnd,andAnd,Za,Zb,Zc,Zd,Ze,Zf,Zg,Zh,Zi,Zj,Zk,Zl,Zm,Zn,Zo,Zp,Zq,Zr,Zs,Zt,Zu,Zv,Zw,Zx,Zy,Zz,ZA,ZB,ZC,ZD,ZE,ZF,ZG,ZH,ZI,ZJ,ZK,ZL,ZM,ZN,ZO,ZP,ZQ,ZR,ZS,ZT,ZU,ZV,ZW,ZX,ZY,ZZ,Ya,Yb,Yc,Yd,Ye,Yf,Yg,Yh,Yi,Yj,Yk,Yl,Ym,Yn,Yo,Yp,Yq,Yr,Ys,Yt,Yu,Yv,Yw,Yx,Yy,Yz,YA,YB,YC,YD,YE,YF,YG,YH,YI,row₀,List.getElem?_cons_zero,List.getElem?_cons_succ,List.set_cons_zero,List.set_cons_succ,List.map_cons,List.map_nil,List.length_cons,List.length_nil,List.replicate,List.cons_append,List.nil_append,Nat.reduceAdd,Nat.reduceSub,List.mem_cons,List.not_mem_nil,or_false,forall_eq_or_imp,forall_eq,implies_true,true_and,and_true,if_true,if_false,Bool.false_eq_true,decide_eq_true_eq,Bool.not_eq_true',decide_eq_false_iff_not,Bool.not_eq_eq_eq_not,Bool.not_true,Bool.not_false,beq_self_eq_true,reduceCtorEq,beq_iff_eq,low_length,row_length,fdiv_nat,fmod_nat,two_pow,one_shl,shr,shl,and_mask,clip_nat,Int.one_mul]
        have h3 : x * 2 ^ f < B ^ (len B x + 1) := by
          rw [Nat.pow_succ]
          exact Nat.lt_of_lt_of_le (Nat.mul_lt_mul_of_pos_right h1 hf0) (Nat.mul_le_mul_left _ hfew)
        have h4 : B ^ len B x ≤ x * 2 ^ f := by
          rcases Nat.lt_or_ge (x * 2 ^ f) (B ^ len B x) with q | q
          · rw [Nat.div_eq_of_lt q] at hc; (clear q h3 hT hTp hf0 hx0 h1 hn' hfew h0 lx hB9 hB hQ hBB hdm hs hwm hf hn hx hw9 hw; omega)
          · exact q
        rw [row_of hB h3 (.inr h4), low_succ, dig_top hB h3, ← List.append_assoc] at hQ
        exact hQ
      · rw [if_neg (by (clear hT hTp hf0 hx0 h1 hn' hfew h0 lx hB9 hB hQ hBB hdm hs hwm hf hn hx hw9 hw; omega))]
        refine WSs.nil (WSs.ret ?_)
        try simp only [orAnd,andAnd,Za,Zb,Zc,Zd,Ze,Zf,Zg,Zh,Zi,Zj,Zk,Zl,Zm,Zn,Zo,Zp,Zq,Zr,Zs,Zt,Zu,Zv,Zw,Zx,Zy,Zz,ZA,ZB,ZC,ZD,ZE,ZF,ZG,ZH,ZI,ZJ,ZK,ZL,ZM,ZN,ZO,ZP,ZQ,ZR,ZS,ZT,ZU,ZV,ZW,ZX,ZY,ZZ,Ya,Yb,Yc,Yd,Ye,Yf,Yg,Yh,Yi,Yj,Yk,Yl,Ym,Yn,Yo,Yp,Yq,Yr,Ys,Yt,Yu,Yv,Yw,Yx,Yy,Yz,YA,YB,YC,YD,YE,YF,YG,YH,YI,row₀,List.getElem?_cons_zero,List.getElem?_cons_succ,List.set_cons_zero,List.set_cons_succ,List.map_cons,List.map_nil,List.length_cons,List.length_nil,List.replicate,List.cons_append,List.nil_append,Nat.reduceAdd,Nat.reduceSub,List.mem_cons,List.not_mem_nil,or_false,forall_eq_or_imp,forall_eq,implies_true,true_and,and_true,if_true,if_false,Bool.false_eq_true,decide_eq_true_eq,Bool.not_eq_true',decide_eq_false_iff_not,Bool.not_eq_eq_eq_not,Bool.not_true,Bool.not_false,beq_self_eq_true,reduceCtorEq,beq_iff_eq,low_length,row_length,fdiv_nat,fmod_nat,two_pow,one_shl,shr,shl,and_mask,clip_nat,Int.one_mul]
        have h4 : x * 2 ^ f < B ^ len B x := by
          rcases Nat.lt_or_ge (x * 2 ^ f) (B ^ len B x) with q | q
          · exact q
          · have := Nat.div_pos q (Nat.pow_pos (by (clear q hc hT hTp hf0 hx0 h1 hn' hfew h0 lx hQ hBB hdm hs hwm hf hn hx hw9 hw; omega))); (clear q hT hTp hf0 hx0 h1 hn' hfew h0 lx hB9 hB hQ hBB hdm hs hwm hf hn hx hw9 hw; omega)
        rw [row_of hB h4 ?_] at hQ
        · exact hQ
        · exact .inr (Nat.le_trans (pow_len hB (by (clear h4 hc hT hTp hf0 hx0 h1 hn' hfew hB9 hB hQ hBB hdm hs hwm hf hn hx hw9 hw; omega))) (Nat.le_mul_of_pos_right _ hf0))

theorem m_shift_right {x n : Nat} (hw : 1 ≤ w) (hw9 : w ≤ 9) (hx : Bd x) (hn : n ≤ 4000000) (hQ : Q (.list (row (2 ^ w) (x / 2 ^ n))) σ) : Meets W (k + 2) "shift_right" [.list (row (2 ^ w) x), .int n, .int w] Q σ := by
  have hB := w_pow hw
  have hB9 := pow9 hw9
  have lx := hx.len hB
  refine meets c_shift_right rfl ?_
  refine WSs.swap ?_
  try simp only [orAnd,andAnd,Za,Zb,Zc,Zd,Ze,Zf,Zg,Zh,Zi,Zj,Zk,Zl,Zm,Zn,Zo,Zp,Zq,Zr,Zs,Zt,Zu,Zv,Zw,Zx,Zy,Zz,ZA,ZB,ZC,ZD,ZE,ZF,ZG,ZH,ZI,ZJ,ZK,ZL,ZM,ZN,ZO,ZP,ZQ,ZR,ZS,ZT,ZU,ZV,ZW,ZX,ZY,ZZ,Ya,Yb,Yc,Yd,Ye,Yf,Yg,Yh,Yi,Yj,Yk,Yl,Ym,Yn,Yo,Yp,Yq,Yr,Ys,Yt,Yu,Yv,Yw,Yx,Yy,Yz,YA,YB,YC,YD,YE,YF,YG,YH,YI,row₀,List.getElem?_cons_zero,List.getElem?_cons_succ,List.set_cons_zero,List.set_cons_succ,List.map_cons,List.map_nil,List.length_cons,List.length_nil,List.replicate,List.cons_append,List.nil_append,Nat.reduceAdd,Nat.reduceSub,List.mem_cons,List.not_mem_nil,or_false,forall_eq_or_imp,forall_eq,implies_true,true_and,and_true,if_true,if_false,Bool.false_eq_true,decide_eq_true_eq,Bool.not_eq_true',decide_eq_false_iff_not,Bool.not_eq_eq_eq_not,Bool.not_true,Bool.not_false,beq_self_eq_true,reduceCtorEq,beq_iff_eq,low_length,row_length,fdiv_nat,fmod_nat,two_pow,one_shl,shr,shl,and_mask,clip_nat,Int.one_mul]
  refine ⟨by (clear lx hB9 hB hQ hn hx; omega), ⟨64, by decide, by rw [Int.natAbs_natCast]; omega⟩, by (clear lx hB9 hB hQ hn hx; omega), ?_⟩
  have hwm := Nat.mod_lt n hw
  have hdm : n / w ≤ n := Nat.div_le_self ..
  refine WSs.swapOwn ?_
  try simp only [orAnd,andAnd,Za,Zb,Zc,Zd,Ze,Zf,Zg,Zh,Zi,Zj,Zk,Zl,Zm,Zn,Zo,Zp,Zq,Zr,Zs,Zt,Zu,Zv,Zw,Zx,Zy,Zz,ZA,ZB,ZC,ZD,ZE,ZF,ZG,ZH,ZI,ZJ,ZK,ZL,ZM,ZN,ZO,ZP,ZQ,ZR,ZS,ZT,ZU,ZV,ZW,ZX,ZY,ZZ,Ya,Yb,Yc,Yd,Ye,Yf,Yg,Yh,Yi,Yj,Yk,Yl,Ym,Yn,Yo,Yp,Yq,Yr,Ys,Yt,Yu,Yv,Yw,Yx,Yy,Yz,YA,YB,YC,YD,YE,YF,YG,YH,YI,row₀,List.getElem?_cons_zero,List.getElem?_cons_succ,List.set_cons_zero,List.set_cons_succ,List.map_cons,List.map_nil,List.length_cons,List.length_nil,List.replicate,List.cons_append,List.nil_append,Nat.reduceAdd,Nat.reduceSub,List.mem_cons,List.not_mem_nil,or_false,forall_eq_or_imp,forall_eq,implies_true,true_and,and_true,if_true,if_false,Bool.false_eq_true,decide_eq_true_eq,Bool.not_eq_true',decide_eq_false_iff_not,Bool.not_eq_eq_eq_not,Bool.not_true,Bool.not_false,beq_self_eq_true,reduceCtorEq,beq_iff_eq,low_length,row_length,fdiv_nat,fmod_nat,two_pow,one_shl,shr,shl,and_mask,clip_nat,Int.one_mul]
  refine ⟨by (clear hdm hwm lx hB9 hB hQ hn hx; omega), by (clear hdm hwm lx hB9 hB hQ hn hx; omega), by decide, ?_⟩
  have hn' : 2 ^ n = 2 ^ (n % w) * (2 ^ w) ^ (n / w) := by
    rw [← Nat.pow_mul, ← Nat.pow_add]
    congr 1
    exact (Nat.mod_add_div n w).symm
  generalize hf : n % w = f at *
  generalize hs : n / w = s at *
  refine WSs.for_ ?_
  try simp only [orAnd,andAnd,Za,Zb,Zc,Zd,Ze,Zf,Zg,Zh,Zi,Zj,Zk,Zl,Zm,Zn,Zo,Zp,Zq,Zr,Zs,Zt,Zu,Zv,Zw,Zx,Zy,Zz,ZA,ZB,ZC,ZD,ZE,ZF,ZG,ZH,ZI,ZJ,ZK,ZL,ZM,ZN,ZO,ZP,ZQ,ZR,ZS,ZT,ZU,ZV,ZW,ZX,ZY,ZZ,Ya,Yb,Yc,Yd,Ye,Yf,Yg,Yh,Yi,Yj,Yk,Yl,Ym,Yn,Yo,Yp,Yq,Yr,Ys,Yt,Yu,Yv,Yw,Yx,Yy,Yz,YA,YB,YC,YD,YE,YF,YG,YH,YI,row₀,List.getElem?_cons_zero,List.getElem?_cons_succ,List.set_cons_zero,List.set_cons_succ,List.map_cons,List.map_nil,List.length_cons,List.length_nil,List.replicate,List.cons_append,List.nil_append,Nat.reduceAdd,Nat.reduceSub,List.mem_cons,List.not_mem_nil,or_false,forall_eq_or_imp,forall_eq,implies_true,true_and,and_true,if_true,if_false,Bool.false_eq_true,decide_eq_true_eq,Bool.not_eq_true',decide_eq_false_iff_not,Bool.not_eq_eq_eq_not,Bool.not_true,Bool.not_false,beq_self_eq_true,reduceCtorEq,beq_iff_eq,low_length,row_length,fdiv_nat,fmod_nat,two_pow,one_shl,shr,shl,and_mask,clip_nat,Int.one_mul]
  refine ⟨.of (by (clear hn' hdm hs hwm hf lx hB9 hB hQ hn hx hw9 hw; omega)) (by (clear hn' hs hwm hf lx hB9 hB hQ hx hw9 hw; omega)), .of (by (clear hn' hdm hs hwm hf hB9 hB hQ hn hx hw9 hw; omega)) (by (clear hn' hdm hs hwm hf hB9 hB hQ hn hx hw9 hw; omega)), rng_up (len (2 ^ w) x - s) (by (clear hn' hdm hs hwm hf lx hB9 hB hQ hn hx hw9 hw; omega)) (.of (by (clear hn' hdm hs hwm hf lx hB9 hB hQ hn hx hw9 hw; omega)) (by (clear hn' hs hwm hf lx hB9 hB hQ hx hw9 hw; omega))) (.of (by (clear hn' hdm hs hwm hf hB9 hB hQ hn hx hw9 hw; omega)) (by (clear hn' hdm hs hwm hf hB9 hB hQ hn hx hw9 hw; omega))) fun xs hxs hat => ?_⟩
  have hBf : 2 ^ w = 2 ^ f * 2 ^ (w - f) := by rw [← Nat.pow_add]; congr 1; (clear hat hxs hn' hdm hs hf lx hB9 hB hQ hn hx hw9 hw; omega)
  refine ForQ.mk (fun j ρ o σ' => ∃ q q', ρ = [some (.list (row (2 ^ w) x)), some (.int n), some (.int w), some (.int (s : Nat)), some (.int (f : Nat)), none, some (.int (((2 ^ w : Nat) : Int) - 1)), q, q'] ∧
      o = some (5, low (2 ^ w) j (x / 2 ^ n)) ∧ σ = σ') ⟨none, none, rfl, rfl, rfl⟩ ?_ ?_
  · rintro j _ _ _ ⟨q, q', rfl, rfl, rfl⟩ hj
    rw [hxs] at hj
    rw [hat j hj]
    refine ⟨by show (5 : Nat) ≠ 7; decide, ?_⟩
    have d1 := dig_lt hB x (s + j)
    have key : ∀ v : Int, v = (dig (2 ^ w) x (s + j + 1) : Nat) → WSs W (k + 1) (.cons (.app 5 (.bin .BitAnd (.bin .BitOr (.bin .RShift (.sub (.var 0) (.var 7)) (.var 4)) (.bin .LShift (.var 8) (.bin .Sub (.var 2) (.var 4)))) (.var 6))) (.nil))
        (fun fl ρ' o' σ'' => match fl with | .next => ∃ q q', ρ' = [some (.list (row (2 ^ w) x)), some (.int n), some (.int w), some (.int (s : Nat)), some (.int (f : Nat)), none, some (.int (((2 ^ w : Nat) : Int) - 1)), q, q'] ∧ o' = some (5, low (2 ^ w) (j + 1) (x / 2 ^ n)) ∧ σ = σ'' | .ret x => Q x σ'')
        [some (.list (row (2 ^ w) x)), some (.int n), some (.int w), some (.int (s : Nat)), some (.int (f : Nat)), none, some (.int (((2 ^ w : Nat) : Int) - 1)), some (.int ((s : Int) + (j : Int))), some (.int v)] (some (5, low (2 ^ w) j (x / 2 ^ n))) σ := by
      rintro v rfl
      refine WSs.app ?_
      try simp only [orAnd,andAnd,Za,Zb,Zc,Zd,Ze,Zf,Zg,Zh,Zi,Zj,Zk,Zl,Zm,Zn,Zo,Zp,Zq,Zr,Zs,Zt,Zu,Zv,Zw,Zx,Zy,Zz,ZA,ZB,ZC,ZD,ZE,ZF,ZG,ZH,ZI,ZJ,ZK,ZL,ZM,ZN,ZO,ZP,ZQ,ZR,ZS,ZT,ZU,ZV,ZW,ZX,ZY,ZZ,Ya,Yb,Yc,Yd,Ye,Yf,Yg,Yh,Yi,Yj,Yk,Yl,Ym,Yn,Yo,Yp,Yq,Yr,Ys,Yt,Yu,Yv,Yw,Yx,Yy,Yz,YA,YB,YC,YD,YE,YF,YG,YH,YI,row₀,List.getElem?_cons_zero,List.getElem?_cons_succ,List.set_cons_zero,List.set_cons_succ,List.map_cons,List.map_nil,List.length_cons,List.length_nil,List.replicate,List.cons_append,List.nil_append,Nat.reduceAdd,Nat.reduceSub,List.mem_cons,List.not_mem_nil,or_false,forall_eq_or_imp,forall_eq,implies_true,true_and,and_true,if_true,if_false,Bool.false_eq_true,decide_eq_true_eq,Bool.not_eq_true',decide_eq_false_iff_not,Bool.not_eq_eq_eq_not,Bool.not_true,Bool.not_false,beq_self_eq_true,reduceCtorEq,beq_iff_eq,low_length,row_length,fdiv_nat,fmod_nat,two_pow,one_shl,shr,shl,and_mask,clip_nat,Int.one_mul]
      refine WSub_at (s + j) (by (clear d1 hj hBf hat hxs hn' hdm hs hwm hf lx hB9 hB hQ hn hx hw9 hw; omega)) (by rw [row_length]; (clear d1 hBf hat hxs hn' hdm hs hwm hf lx hB9 hB hQ hn hx hw9 hw; omega)) ?_
      rw [row_getD hB]
      try simp only [orAnd,andAnd,Za,Zb,Zc,Zd,Ze,Zf,Zg,Zh,Zi,Zj,Zk,Zl,Zm,Zn,Zo,Zp,Zq,Zr,Zs,Zt,Zu,Zv,Zw,Zx,Zy,Zz,ZA,ZB,ZC,ZD,ZE,ZF,ZG,ZH,ZI,ZJ,ZK,ZL,ZM,ZN,ZO,ZP,ZQ,ZR,ZS,ZT,ZU,ZV,ZW,ZX,ZY,ZZ,Ya,Yb,Yc,Yd,Ye,Yf,Yg,Yh,Yi,Yj,Yk,Yl,Ym,Yn,Yo,Yp,Yq,Yr,Ys,Yt,Yu,Yv,Yw,Yx,Yy,Yz,YA,YB,YC,YD,YE,YF,YG,YH,YI,row₀,List.getElem?_cons_zero,List.getElem?_cons_succ,List.set_cons_zero,List.set_cons_succ,List.map_cons,List.map_nil,List.length_cons,List.length_nil,List.replicate,List.cons_append,List.nil_append,Nat.reduceAdd,Nat.reduceSub,List.mem_cons,List.not_mem_nil,or_false,forall_eq_or_imp,forall_eq,implies_true,true_and,and_true,if_true,if_false,Bool.false_eq_true,decide_eq_true_eq,Bool.not_eq_true',decide_eq_false_iff_not,Bool.not_eq_eq_eq_not,Bool.not_true,Bool.not_false,beq_self_eq_true,reduceCtorEq,beq_iff_eq,low_length,row_length,fdiv_nat,fmod_nat,two_pow,one_shl,shr,shl,and_mask,clip_nat,Int.one_mul]
      rw [show (w : Int) - (f : Int) = ((w - f : Nat) : Int) by (clear d1 hj hBf hat hxs hn' hdm hs hf lx hB9 hB hQ hn hx hw9 hw; omega)]
      try simp only [orAnd,andAnd,Za,Zb,Zc,Zd,Ze,Zf,Zg,Zh,Zi,Zj,Zk,Zl,Zm,Zn,Zo,Zp,Zq,Zr,Zs,Zt,Zu,Zv,Zw,Zx,Zy,Zz,ZA,ZB,ZC,ZD,ZE,ZF,ZG,ZH,ZI,ZJ,ZK,ZL,ZM,ZN,ZO,ZP,ZQ,ZR,ZS,ZT,ZU,ZV,ZW,ZX,ZY,ZZ,Ya,Yb,Yc,Yd,Ye,Yf,Yg,Yh,Yi,Yj,Yk,Yl,Ym,Yn,Yo,Yp,Yq,Yr,Ys,Yt,Yu,Yv,Yw,Yx,Yy,Yz,YA,YB,YC,YD,YE,YF,YG,YH,YI,row₀,List.getElem?_cons_zero,List.getElem?_cons_succ,List.set_cons_zero,List.set_cons_succ,List.map_cons,List.map_nil,List.length_cons,List.length_nil,List.replicate,List.cons_append,List.nil_append,Nat.reduceAdd,Nat.reduceSub,List.mem_cons,List.not_mem_nil,or_false,forall_eq_or_imp,forall_eq,implies_true,true_and,and_true,if_true,if_false,Bool.false_eq_true,decide_eq_true_eq,Bool.not_eq_true',decide_eq_false_iff_not,Bool.not_eq_eq_eq_not,Bool.not_true,Bool.not_false,beq_self_eq_true,reduceCtorEq,beq_iff_eq,low_length,row_length,fdiv_nat,fmod_nat,two_pow,one_shl,shr,shl,and_mask,clip_nat,Int.one_mul]
      refine ⟨by (clear d1 hj hBf hat hxs hn' hdm hs hwm lx hB9 hB hQ hn hx hw9 hw; omega), by (clear d1 hj hBf hat hxs hn' hdm hs hwm hf lx hB9 hB hQ hn hx hw9 hw; omega), by (clear d1 hj hBf hat hxs hn' hdm hs lx hB9 hB hQ hn hx; omega), natAbs_dig hB hB9 _ _, ?_⟩
      have hlt : dig (2 ^ w) x (s + j) / 2 ^ f < 2 ^ (w - f) := by
        rw [Nat.div_lt_iff_lt_mul (Nat.pow_pos (by decide)), Nat.mul_comm, ← hBf]; exact d1
      rw [← Int.natCast_mul, or_add _ hlt]
      try simp only [orAnd,andAnd,Za,Zb,Zc,Zd,Ze,Zf,Zg,Zh,Zi,Zj,Zk,Zl,Zm,Zn,Zo,Zp,Zq,Zr,Zs,Zt,Zu,Zv,Zw,Zx,Zy,Zz,ZA,ZB,ZC,ZD,ZE,ZF,ZG,ZH,ZI,ZJ,ZK,ZL,ZM,ZN,ZO,ZP,ZQ,ZR,ZS,ZT,ZU,ZV,ZW,ZX,ZY,ZZ,Ya,Yb,Yc,Yd,Ye,Yf,Yg,Yh,Yi,Yj,Yk,Yl,Ym,Yn,Yo,Yp,Yq,Yr,Ys,Yt,Yu,Yv,Yw,Yx,Yy,Yz,YA,YB,YC,YD,YE,YF,YG,YH,YI,row₀,List.getElem?_cons_zero,List.getElem?_cons_succ,List.set_cons_zero,List.set_cons_succ,List.map_cons,List.map_nil,List.length_cons,List.length_nil,List.replicate,List.cons_append,List.nil_append,Nat.reduceAdd,Nat.reduceSub,List.mem_cons,List.not_mem_nil,or_false,forall_eq_or_imp,forall_eq,implies_true,true_and,and_true,if_true,if_false,Bool.false_eq_true,decide_eq_true_eq,Bool.not_eq_true',decide_eq_false_iff_not,Bool.not_eq_eq_eq_not,Bool.not_true,Bool.not_false,beq_self_eq_true,reduceCtorEq,beq_iff_eq,low_length,row_length,fdiv_nat,fmod_nat,two_pow,one_shl,shr,shl,and_mask,clip_nat,Int.one_mul]
      refine ⟨by rw [sz_n]; (clear hlt d1 hBf hat hxs hn' hs hwm hf hB9 hB hQ hx hw9 hw; omega), WSs.nil ⟨_, _, rfl, ?_, rfl⟩⟩
      rw [low_succ]
      congr 4
      unfold dig
      rw [hn', Nat.div_div_eq_div_mul, Nat.mul_assoc, ← Nat.pow_add, Nat.pow_succ, Nat.mul_comm (2 ^ f), ← Nat.div_div_eq_div_mul x, ← Nat.div_div_eq_div_mul x]
      generalize x / (2 ^ w) ^ (s + j) = y
      have hM : 0 < 2 ^ (w - f) := Nat.pow_pos (by decide)
      have hF : 0 < 2 ^ f := Nat.pow_pos (by decide)
      have e1 : y / 2 ^ f = y / 2 ^ w * 2 ^ (w - f) + y % 2 ^ w / 2 ^ f := by
        conv => lhs; rw [← Nat.div_add_mod y (2 ^ w)]
        rw [hBf, Nat.mul_assoc, Nat.add_comm, Nat.add_mul_div_left _ _ hF, Nat.add_comm, Nat.mul_comm]
      rw [e1, Nat.add_comm, Nat.add_mod, Nat.mod_mul_mod, ← Nat.add_mod]
    refine WSs.set ?_
    try simp only [orAnd,andAnd,Za,Zb,Zc,Zd,Ze,Zf,Zg,Zh,Zi,Zj,Zk,Zl,Zm,Zn,Zo,Zp,Zq,Zr,Zs,Zt,Zu,Zv,Zw,Zx,Zy,Zz,ZA,ZB,ZC,ZD,ZE,ZF,ZG,ZH,ZI,ZJ,ZK,ZL,ZM,ZN,ZO,ZP,ZQ,ZR,ZS,ZT,ZU,ZV,ZW,ZX,ZY,ZZ,Ya,Yb,Yc,Yd,Ye,Yf,Yg,Yh,Yi,Yj,Yk,Yl,Ym,Yn,Yo,Yp,Yq,Yr,Ys,Yt,Yu,Yv,Yw,Yx,Yy,Yz,YA,YB,YC,YD,YE,YF,YG,YH,YI,row₀,List.getElem?_cons_zero,List.getElem?_cons_succ,List.set_cons_zero,List.set_cons_succ,List.map_cons,List.map_nil,List.length_cons,List.length_nil,List.replicate,List.cons_append,List.nil_append,Nat.reduceAdd,Nat.reduceSub,List.mem_cons,List.not_mem_nil,or_false,forall_eq_or_imp,forall_eq,implies_true,true_and,and_true,if_true,if_false,Bool.false_eq_true,decide_eq_true_eq,Bool.not_eq_true',decide_eq_false_iff_not,Bool.not_eq_eq_eq_not,Bool.not_true,Bool.not_false,beq_self_eq_true,reduceCtorEq,beq_iff_eq,low_length,row_length,fdiv_nat,fmod_nat,two_pow,one_shl,shr,shl,and_mask,clip_nat,Int.one_mul]
    by_cases hc : s + j + 1 < len (2 ^ w) x
    · rw [if_pos (by (clear key d1 hj hBf hat hxs hn' hdm hs hwm hf lx hB9 hB hQ hn hx hw9 hw; omega))]
      refine WSub_at (s + j + 1) (by (clear hc key d1 hj hBf hat hxs hn' hdm hs hwm hf lx hB9 hB hQ hn hx hw9 hw; omega)) (by rw [row_length]; (clear key d1 hj hBf hat hxs hn' hdm hs hwm hf lx hB9 hB hQ hn hx hw9 hw; omega)) ?_
      rw [row_getD hB]
      exact key _ rfl
    · rw [if_neg (by (clear key d1 hj hBf hat hxs hn' hdm hs hwm hf lx hB9 hB hQ hn hx hw9 hw; omega))]
      exact key _ (by rw [dig_zero (Nat.lt_of_lt_of_le (lt_len hB x) (Nat.pow_le_pow_right (by (clear hc key d1 hj hat hxs hn' hdm hs hwm hf lx hQ hn hx hw9 hw; omega)) (by (clear key d1 hj hBf hat hxs hn' hdm hs hwm hf lx hB9 hB hQ hn hx hw9 hw; omega))))]; rfl)
  · rintro _ _ _ ⟨q, q', rfl, rfl, rfl⟩
    rw [hxs]
    refine WSs.ret ?_
    try simp only [orAnd,andAnd,Za,Zb,Zc,Zd,Ze,Zf,Zg,Zh,Zi,Zj,Zk,Zl,Zm,Zn,Zo,Zp,Zq,Zr,Zs,Zt,Zu,Zv,Zw,Zx,Zy,Zz,ZA,ZB,ZC,ZD,ZE,ZF,ZG,ZH,ZI,ZJ,ZK,ZL,ZM,ZN,ZO,ZP,ZQ,ZR,ZS,ZT,ZU,ZV,ZW,ZX,ZY,ZZ,Ya,Yb,Yc,Yd,Ye,Yf,Yg,Yh,Yi,Yj,Yk,Yl,Ym,Yn,Yo,Yp,Yq,Yr,Ys,Yt,Yu,Yv,Yw,Yx,Yy,Yz,YA,YB,YC,YD,YE,YF,YG,YH,YI,row₀,List.getElem?_cons_zero,List.getElem?_cons_succ,List.set_cons_zero,List.set_cons_succ,List.map_cons,List.map_nil,List.length_cons,List.length_nil,List.replicate,List.cons_append,List.nil_append,Nat.reduceAdd,Nat.reduceSub,List.mem_cons,List.not_mem_nil,or_false,forall_eq_or_imp,forall_eq,implies_true,true_and,and_true,if_true,if_false,Bool.false_eq_true,decide_eq_true_eq,Bool.not_eq_true',decide_eq_false_iff_not,Bool.not_eq_eq_eq_not,Bool.not_true,Bool.not_false,beq_self_eq_true,reduceCtorEq,beq_iff_eq,low_length,row_length,fdiv_nat,fmod_nat,two_pow,one_shl,shr,shl,and_mask,clip_nat,Int.one_mul]
    refine m_normal hB ?_ hQ
    have h1 := lt_len hB (x / (2 ^ w) ^ s)
    rw [len_div hB] at h1
    refine Nat.lt_of_le_of_lt ?_ h1
    rw [hn', Nat.mul_comm, ← Nat.div_div_eq_div_mul]
    exact Nat.div_le_self ..

theorem m_bits {x : Nat} (hw : 1 ≤ w) (hw9 : w ≤ 9) (hx : Bd x) (h0 : 0 < x) (hQ : ∀ r : Nat, 1 ≤ r → 2 ^ (r - 1) ≤ x → x < 2 ^ r → Q (.int r) σ) : Meets W (k + 1) "bits" [.list (row (2 ^ w) x), .int w] Q σ := by
  have hB := w_pow hw
  have lx := hx.len hB
  have hl : 0 < len (2 ^ w) x := by rw [len_pos hB h0]; (clear lx hB hQ h0 hx hw9 hw; omega)
  refine meets c_bits rfl ?_
  refine WSs.ret ?_
  try simp only [orAnd,andAnd,Za,Zb,Zc,Zd,Ze,Zf,Zg,Zh,Zi,Zj,Zk,Zl,Zm,Zn,Zo,Zp,Zq,Zr,Zs,Zt,Zu,Zv,Zw,Zx,Zy,Zz,ZA,ZB,ZC,ZD,ZE,ZF,ZG,ZH,ZI,ZJ,ZK,ZL,ZM,ZN,ZO,ZP,ZQ,ZR,ZS,ZT,ZU,ZV,ZW,ZX,ZY,ZZ,Ya,Yb,Yc,Yd,Ye,Yf,Yg,Yh,Yi,Yj,Yk,Yl,Ym,Yn,Yo,Yp,Yq,Yr,Ys,Yt,Yu,Yv,Yw,Yx,Yy,Yz,YA,YB,YC,YD,YE,YF,YG,YH,YI,row₀,List.getElem?_cons_zero,List.getElem?_cons_succ,List.set_cons_zero,List.set_cons_succ,List.map_cons,List.map_nil,List.length_cons,List.length_nil,List.replicate,List.cons_append,List.nil_append,Nat.reduceAdd,Nat.reduceSub,List.mem_cons,List.not_mem_nil,or_false,forall_eq_or_imp,forall_eq,implies_true,true_and,and_true,if_true,if_false,Bool.false_eq_true,decide_eq_true_eq,Bool.not_eq_true',decide_eq_false_iff_not,Bool.not_eq_eq_eq_not,Bool.not_true,Bool.not_false,beq_self_eq_true,reduceCtorEq,beq_iff_eq,low_length,row_length,fdiv_nat,fmod_nat,two_pow,one_shl,shr,shl,and_mask,clip_nat,Int.one_mul]
  rw [if_pos (by (clear hB hQ h0 hx hw9 hw; omega))]
  obtain ⟨j, hj⟩ : ∃ j, len (2 ^ w) x = j + 1 := ⟨len (2 ^ w) x - 1, by (clear hB hQ h0 hx hw9 hw; omega)⟩
  refine ⟨.inr (.inl (by rw [Int.natAbs_natCast]; omega)), ?_⟩
  unfold WSub
  refine .inr ⟨by decide, by rw [row_length]; (clear hB hQ h0 hx hw9 hw; omega), ?_⟩
  rw [row_length, show (-1 + (len (2 ^ w) x : Int)).toNat = j by (clear hB hQ h0 hx hw9 hw; omega), row_getD hB]
  have h1 := lt_len hB x
  rw [hj] at h1
  have h2 := pow_len hB (show j < len (2 ^ w) x by (clear h1 hl lx hB hQ h0 hx hw9 hw; omega))
  have ht := dig_top hB h1
  have hd : 0 < dig (2 ^ w) x j := by rw [ht]; exact Nat.div_pos h2 (Nat.pow_pos (by (clear ht h2 h1 hj hl lx hQ h0 hx hw9 hw; omega)))
  have e : Builtin.Int.intBits (dig (2 ^ w) x j : Int) = (dig (2 ^ w) x j).log2 + 1 := by
    unfold Builtin.Int.intBits
    rw [if_neg (by simp; (clear h2 h1 hj hl lx hB hQ h0 hx hw9 hw; omega))]
    simp
  try simp only [orAnd,andAnd,Za,Zb,Zc,Zd,Ze,Zf,Zg,Zh,Zi,Zj,Zk,Zl,Zm,Zn,Zo,Zp,Zq,Zr,Zs,Zt,Zu,Zv,Zw,Zx,Zy,Zz,ZA,ZB,ZC,ZD,ZE,ZF,ZG,ZH,ZI,ZJ,ZK,ZL,ZM,ZN,ZO,ZP,ZQ,ZR,ZS,ZT,ZU,ZV,ZW,ZX,ZY,ZZ,Ya,Yb,Yc,Yd,Ye,Yf,Yg,Yh,Yi,Yj,Yk,Yl,Ym,Yn,Yo,Yp,Yq,Yr,Ys,Yt,Yu,Yv,Yw,Yx,Yy,Yz,YA,YB,YC,YD,YE,YF,YG,YH,YI,row₀,List.getElem?_cons_zero,List.getElem?_cons_succ,List.set_cons_zero,List.set_cons_succ,List.map_cons,List.map_nil,List.length_cons,List.length_nil,List.replicate,List.cons_append,List.nil_append,Nat.reduceAdd,Nat.reduceSub,List.mem_cons,List.not_mem_nil,or_false,forall_eq_or_imp,forall_eq,implies_true,true_and,and_true,if_true,if_false,Bool.false_eq_true,decide_eq_true_eq,Bool.not_eq_true',decide_eq_false_iff_not,Bool.not_eq_eq_eq_not,Bool.not_true,Bool.not_false,beq_self_eq_true,reduceCtorEq,beq_iff_eq,low_length,row_length,fdiv_nat,fmod_nat,two_pow,one_shl,shr,shl,and_mask,clip_nat,Int.one_mul]
  rw [e]
  have := hQ (j * w + ((dig (2 ^ w) x j).log2 + 1)) (by (clear e hd ht h2 h1 hj hl lx hB hQ h0 hx hw9 hw; omega)) ?_ ?_
  · rw [hj]
    have e2 : (((j + 1 : Nat) : Int) - 1) * (w : Int) + (((dig (2 ^ w) x j).log2 + 1 : Nat) : Int) = ((j * w + ((dig (2 ^ w) x j).log2 + 1) : Nat) : Int) := by
      rw [show (((j + 1 : Nat) : Int) - 1) = (j : Int) by (clear this e hd ht h2 h1 hj hl lx hB hQ h0 hx hw9 hw; omega)]
      push_cast; rfl
    rw [e2]; exact this
  · rw [show j * w + ((dig (2 ^ w) x j).log2 + 1) - 1 = (dig (2 ^ w) x j).log2 + w * j by rw [Nat.mul_comm w]; (clear e hd ht h2 h1 hj hl lx hB hQ h0 hx hw9 hw; omega), Nat.pow_add, Nat.pow_mul]
    have := Nat.log2_self_le (Nat.ne_of_gt hd)
    refine Nat.le_trans (Nat.mul_le_mul_right _ this) ?_
    rw [ht]
    exact Nat.div_mul_le_self ..
  · rw [show j * w + ((dig (2 ^ w) x j).log2 + 1) = ((dig (2 ^ w) x j).log2 + 1) + w * j by rw [Nat.mul_comm w]; (clear e hd ht h2 h1 hj hl lx hB hQ h0 hx hw9 hw; omega), Nat.pow_add, Nat.pow_mul]
    have := Nat.lt_log2_self (n := dig (2 ^ w) x j)
    rw [ht] at this ⊢
    rw [← Nat.div_lt_iff_lt_mul (Nat.pow_pos (by (clear this e hd ht h2 h1 hj hl lx hQ h0 hx hw9 hw; omega)))]
    exact this

theorem m_halves_size {size least : Nat} (h1 : 1 ≤ size) (h2 : size ≤ 4000) (h3 : 1 ≤ least) (hQ : ∀ s : Nat, size ≤ s → s ≤ 3 * size → Q (.int s) σ) : Meets W (k + 1) "halves_size" [.int size, .int least] Q σ := by
  refine meets c_halves_size rfl ?_
  refine WSs.set ?_
  try simp only [orAnd,andAnd,Za,Zb,Zc,Zd,Ze,Zf,Zg,Zh,Zi,Zj,Zk,Zl,Zm,Zn,Zo,Zp,Zq,Zr,Zs,Zt,Zu,Zv,Zw,Zx,Zy,Zz,ZA,ZB,ZC,ZD,ZE,ZF,ZG,ZH,ZI,ZJ,ZK,ZL,ZM,ZN,ZO,ZP,ZQ,ZR,ZS,ZT,ZU,ZV,ZW,ZX,ZY,ZZ,Ya,Yb,Yc,Yd,Ye,Yf,Yg,Yh,Yi,Yj,Yk,Yl,Ym,Yn,Yo,Yp,Yq,Yr,Ys,Yt,Yu,Yv,Yw,Yx,Yy,Yz,YA,YB,YC,YD,YE,YF,YG,YH,YI,row₀,List.getElem?_cons_zero,List.getElem?_cons_succ,List.set_cons_zero,List.set_cons_succ,List.map_cons,List.map_nil,List.length_cons,List.length_nil,List.replicate,List.cons_append,List.nil_append,Nat.reduceAdd,Nat.reduceSub,List.mem_cons,List.not_mem_nil,or_false,forall_eq_or_imp,forall_eq,implies_true,true_and,and_true,if_true,if_false,Bool.false_eq_true,decide_eq_true_eq,Bool.not_eq_true',decide_eq_false_iff_not,Bool.not_eq_eq_eq_not,Bool.not_true,Bool.not_false,beq_self_eq_true,reduceCtorEq,beq_iff_eq,low_length,row_length,fdiv_nat,fmod_nat,two_pow,one_shl,shr,shl,and_mask,clip_nat,Int.one_mul]
  refine WSs.whl (fun m ρ o σ' => ∃ d : Nat, ρ = [some (.int (m : Nat)), some (.int least), some (.int (d : Nat))] ∧ o = none ∧ σ = σ' ∧ 1 ≤ m ∧ size ≤ m * 2 ^ d ∧ (m - 1) * 2 ^ d < size ∧ 2 ^ d ≤ 2 * size) ⟨size, 0, rfl, rfl, rfl, h1, by omega, by omega, by omega⟩ ?_
  rintro m _ _ _ ⟨d, rfl, rfl, rfl, hm, i1, i2, i3⟩
  try simp only [orAnd,andAnd,Za,Zb,Zc,Zd,Ze,Zf,Zg,Zh,Zi,Zj,Zk,Zl,Zm,Zn,Zo,Zp,Zq,Zr,Zs,Zt,Zu,Zv,Zw,Zx,Zy,Zz,ZA,ZB,ZC,ZD,ZE,ZF,ZG,ZH,ZI,ZJ,ZK,ZL,ZM,ZN,ZO,ZP,ZQ,ZR,ZS,ZT,ZU,ZV,ZW,ZX,ZY,ZZ,Ya,Yb,Yc,Yd,Ye,Yf,Yg,Yh,Yi,Yj,Yk,Yl,Ym,Yn,Yo,Yp,Yq,Yr,Ys,Yt,Yu,Yv,Yw,Yx,Yy,Yz,YA,YB,YC,YD,YE,YF,YG,YH,YI,row₀,List.getElem?_cons_zero,List.getElem?_cons_succ,List.set_cons_zero,List.set_cons_succ,List.map_cons,List.map_nil,List.length_cons,List.length_nil,List.replicate,List.cons_append,List.nil_append,Nat.reduceAdd,Nat.reduceSub,List.mem_cons,List.not_mem_nil,or_false,forall_eq_or_imp,forall_eq,implies_true,true_and,and_true,if_true,if_false,Bool.false_eq_true,decide_eq_true_eq,Bool.not_eq_true',decide_eq_false_iff_not,Bool.not_eq_eq_eq_not,Bool.not_true,Bool.not_false,beq_self_eq_true,reduceCtorEq,beq_iff_eq,low_length,row_length,fdiv_nat,fmod_nat,two_pow,one_shl,shr,shl,and_mask,clip_nat,Int.one_mul]
  have hd : d < 2 ^ d := Nat.lt_two_pow_self
  by_cases hc : least < m
  · rw [if_pos (by (clear hd i3 i2 i1 hm hQ h3 h2 h1; omega))]
    refine WSs.set ?_
    try simp only [orAnd,andAnd,Za,Zb,Zc,Zd,Ze,Zf,Zg,Zh,Zi,Zj,Zk,Zl,Zm,Zn,Zo,Zp,Zq,Zr,Zs,Zt,Zu,Zv,Zw,Zx,Zy,Zz,ZA,ZB,ZC,ZD,ZE,ZF,ZG,ZH,ZI,ZJ,ZK,ZL,ZM,ZN,ZO,ZP,ZQ,ZR,ZS,ZT,ZU,ZV,ZW,ZX,ZY,ZZ,Ya,Yb,Yc,Yd,Ye,Yf,Yg,Yh,Yi,Yj,Yk,Yl,Ym,Yn,Yo,Yp,Yq,Yr,Ys,Yt,Yu,Yv,Yw,Yx,Yy,Yz,YA,YB,YC,YD,YE,YF,YG,YH,YI,row₀,List.getElem?_cons_zero,List.getElem?_cons_succ,List.set_cons_zero,List.set_cons_succ,List.map_cons,List.map_nil,List.length_cons,List.length_nil,List.replicate,List.cons_append,List.nil_append,Nat.reduceAdd,Nat.reduceSub,List.mem_cons,List.not_mem_nil,or_false,forall_eq_or_imp,forall_eq,implies_true,true_and,and_true,if_true,if_false,Bool.false_eq_true,decide_eq_true_eq,Bool.not_eq_true',decide_eq_false_iff_not,Bool.not_eq_eq_eq_not,Bool.not_true,Bool.not_false,beq_self_eq_true,reduceCtorEq,beq_iff_eq,low_length,row_length,fdiv_nat,fmod_nat,two_pow,one_shl,shr,shl,and_mask,clip_nat,Int.one_mul]
    refine ⟨by decide, ⟨64, by decide, by decide⟩, ?_⟩
    refine WSs.aug rfl ?_
    try simp only [orAnd,andAnd,Za,Zb,Zc,Zd,Ze,Zf,Zg,Zh,Zi,Zj,Zk,Zl,Zm,Zn,Zo,Zp,Zq,Zr,Zs,Zt,Zu,Zv,Zw,Zx,Zy,Zz,ZA,ZB,ZC,ZD,ZE,ZF,ZG,ZH,ZI,ZJ,ZK,ZL,ZM,ZN,ZO,ZP,ZQ,ZR,ZS,ZT,ZU,ZV,ZW,ZX,ZY,ZZ,Ya,Yb,Yc,Yd,Ye,Yf,Yg,Yh,Yi,Yj,Yk,Yl,Ym,Yn,Yo,Yp,Yq,Yr,Ys,Yt,Yu,Yv,Yw,Yx,Yy,Yz,YA,YB,YC,YD,YE,YF,YG,YH,YI,row₀,List.getElem?_cons_zero,List.getElem?_cons_succ,List.set_cons_zero,List.set_cons_succ,List.map_cons,List.map_nil,List.length_cons,List.length_nil,List.replicate,List.cons_append,List.nil_append,Nat.reduceAdd,Nat.reduceSub,List.mem_cons,List.not_mem_nil,or_false,forall_eq_or_imp,forall_eq,implies_true,true_and,and_true,if_true,if_false,Bool.false_eq_true,decide_eq_true_eq,Bool.not_eq_true',decide_eq_false_iff_not,Bool.not_eq_eq_eq_not,Bool.not_true,Bool.not_false,beq_self_eq_true,reduceCtorEq,beq_iff_eq,low_length,row_length,fdiv_nat,fmod_nat,two_pow,one_shl,shr,shl,and_mask,clip_nat,Int.one_mul]
    have hp : 0 < 2 ^ d := Nat.pow_pos (by decide)
    have j1 : 2 ^ d ≤ (m - 1) * 2 ^ d := Nat.le_mul_of_pos_left _ (by (clear hp hd i3 i2 i1 hQ h2 h1; omega))
    refine WSs.nil ⟨(m + 1) / 2, by (clear j1 hp hd i3 i2 i1 hm hQ h2 h1; omega), d + 1, ?_, rfl, rfl, by (clear j1 hp hd i3 i2 i1 hm hQ h2 h1; omega), ?_, ?_, ?_⟩
    · have e1 : ((m : Int) + 1).fdiv 2 = (((m + 1) / 2 : Nat) : Int) := by
        have := fdiv_nat (m + 1) 2
        push_cast at this ⊢
        exact this
      rw [e1]
      simp
    · rw [Nat.pow_succ, Nat.mul_comm (2 ^ d), ← Nat.mul_assoc]
      exact Nat.le_trans i1 (Nat.mul_le_mul_right _ (by (clear j1 hp hc hd i3 i2 i1 hm hQ h3 h2 h1; omega)))
    · rw [Nat.pow_succ, Nat.mul_comm (2 ^ d), ← Nat.mul_assoc]
      exact Nat.lt_of_le_of_lt (Nat.mul_le_mul_right _ (by (clear j1 hp hc hd i3 i2 i1 hQ h3 h2 h1; omega))) i2
    · rw [Nat.pow_succ]; (clear hp hc hd i3 i1 hm hQ h3 h2 h1; omega)
  · rw [if_neg (by (clear hd i3 i2 i1 hm hQ h3 h2 h1; omega))]
    refine WSs.ret ?_
    try simp only [orAnd,andAnd,Za,Zb,Zc,Zd,Ze,Zf,Zg,Zh,Zi,Zj,Zk,Zl,Zm,Zn,Zo,Zp,Zq,Zr,Zs,Zt,Zu,Zv,Zw,Zx,Zy,Zz,ZA,ZB,ZC,ZD,ZE,ZF,ZG,ZH,ZI,ZJ,ZK,ZL,ZM,ZN,ZO,ZP,ZQ,ZR,ZS,ZT,ZU,ZV,ZW,ZX,ZY,ZZ,Ya,Yb,Yc,Yd,Ye,Yf,Yg,Yh,Yi,Yj,Yk,Yl,Ym,Yn,Yo,Yp,Yq,Yr,Ys,Yt,Yu,Yv,Yw,Yx,Yy,Yz,YA,YB,YC,YD,YE,YF,YG,YH,YI,row₀,List.getElem?_cons_zero,List.getElem?_cons_succ,List.set_cons_zero,List.set_cons_succ,List.map_cons,List.map_nil,List.length_cons,List.length_nil,List.replicate,List.cons_append,List.nil_append,Nat.reduceAdd,Nat.reduceSub,List.mem_cons,List.not_mem_nil,or_false,forall_eq_or_imp,forall_eq,implies_true,true_and,and_true,if_true,if_false,Bool.false_eq_true,decide_eq_true_eq,Bool.not_eq_true',decide_eq_false_iff_not,Bool.not_eq_eq_eq_not,Bool.not_true,Bool.not_false,beq_self_eq_true,reduceCtorEq,beq_iff_eq,low_length,row_length,fdiv_nat,fmod_nat,two_pow,one_shl,shr,shl,and_mask,clip_nat,Int.one_mul]
    have hms : m ≤ m * 2 ^ d := Nat.le_mul_of_pos_right _ (Nat.pow_pos (by decide))
    have hup : m * 2 ^ d ≤ 3 * size := by
      have : m * 2 ^ d = (m - 1) * 2 ^ d + 2 ^ d := by
        rw [← Nat.succ_mul]; congr 1; (clear hms hc hd i3 i2 i1 hQ h3 h2 h1; omega)
      (clear hms hc hd i1 hm hQ h3 h2 h1; omega)
    refine ⟨by (clear hup hms hc hd i3 i2 i1 hm hQ h3 h2 h1; omega), by (clear hup hms hc i2 i1 hm hQ h3; omega), by rw [Int.natAbs_natCast]; omega, hQ _ i1 hup⟩
end
end
section
open PySem PySem.W PyProof.Rows
set_option exponentiation.threshold 5000

section
variable {W : Wd} {k w : Nat} {σ : Bx} {Q : V → Bx → Prop}

theorem m_law_row {x : Nat} (hw : 1 ≤ w) (hw9 : w ≤ 9) (hx : Bd x) (hQ : Q (.list (row (2 ^ w) x)) σ) : Meets W (k + 1) "_law_row" [.int x, .int w] Q σ := by
  have hB := w_pow hw
  have hB9 := pow9 hw9
  have lx := hx.len hB
  refine meets c_law_row rfl ?_
  refine WSs.own ?_
  try simp only [orAnd,andAnd,Za,Zb,Zc,Zd,Ze,Zf,Zg,Zh,Zi,Zj,Zk,Zl,Zm,Zn,Zo,Zp,Zq,Zr,Zs,Zt,Zu,Zv,Zw,Zx,Zy,Zz,ZA,ZB,ZC,ZD,ZE,ZF,ZG,ZH,ZI,ZJ,ZK,ZL,ZM,ZN,ZO,ZP,ZQ,ZR,ZS,ZT,ZU,ZV,ZW,ZX,ZY,ZZ,Ya,Yb,Yc,Yd,Ye,Yf,Yg,Yh,Yi,Yj,Yk,Yl,Ym,Yn,Yo,Yp,Yq,Yr,Ys,Yt,Yu,Yv,Yw,Yx,Yy,Yz,YA,YB,YC,YD,YE,YF,YG,YH,YI,row₀,List.getElem?_cons_zero,List.getElem?_cons_succ,List.set_cons_zero,List.set_cons_succ,List.map_cons,List.map_nil,List.length_cons,List.length_nil,List.replicate,List.cons_append,List.nil_append,Nat.reduceAdd,Nat.reduceSub,List.mem_cons,List.not_mem_nil,or_false,forall_eq_or_imp,forall_eq,implies_true,true_and,and_true,if_true,if_false,Bool.false_eq_true,decide_eq_true_eq,Bool.not_eq_true',decide_eq_false_iff_not,Bool.not_eq_eq_eq_not,Bool.not_true,Bool.not_false,beq_self_eq_true,reduceCtorEq,beq_iff_eq,low_length,row_length,fdiv_nat,fmod_nat,two_pow,one_shl,shr,shl,and_mask,clip_nat,Int.one_mul]
  refine WSs.whl (fun m ρ o σ' => ∃ n : Nat, ρ = [some (.int (m : Nat)), some (.int w), none] ∧ o = some (2, low (2 ^ w) n x) ∧ σ = σ' ∧ m = x / (2 ^ w) ^ n ∧ (n = 0 ∨ (2 ^ w) ^ (n - 1) ≤ x)) ⟨x, 0, rfl, rfl, rfl, by simp, .inl rfl⟩ ?_
  rintro m _ _ _ ⟨n, rfl, rfl, rfl, hm, hn⟩
  try simp only [orAnd,andAnd,Za,Zb,Zc,Zd,Ze,Zf,Zg,Zh,Zi,Zj,Zk,Zl,Zm,Zn,Zo,Zp,Zq,Zr,Zs,Zt,Zu,Zv,Zw,Zx,Zy,Zz,ZA,ZB,ZC,ZD,ZE,ZF,ZG,ZH,ZI,ZJ,ZK,ZL,ZM,ZN,ZO,ZP,ZQ,ZR,ZS,ZT,ZU,ZV,ZW,ZX,ZY,ZZ,Ya,Yb,Yc,Yd,Ye,Yf,Yg,Yh,Yi,Yj,Yk,Yl,Ym,Yn,Yo,Yp,Yq,Yr,Ys,Yt,Yu,Yv,Yw,Yx,Yy,Yz,YA,YB,YC,YD,YE,YF,YG,YH,YI,row₀,List.getElem?_cons_zero,List.getElem?_cons_succ,List.set_cons_zero,List.set_cons_succ,List.map_cons,List.map_nil,List.length_cons,List.length_nil,List.replicate,List.cons_append,List.nil_append,Nat.reduceAdd,Nat.reduceSub,List.mem_cons,List.not_mem_nil,or_false,forall_eq_or_imp,forall_eq,implies_true,true_and,and_true,if_true,if_false,Bool.false_eq_true,decide_eq_true_eq,Bool.not_eq_true',decide_eq_false_iff_not,Bool.not_eq_eq_eq_not,Bool.not_true,Bool.not_false,beq_self_eq_true,reduceCtorEq,beq_iff_eq,low_length,row_length,fdiv_nat,fmod_nat,two_pow,one_shl,shr,shl,and_mask,clip_nat,Int.one_mul]
  by_cases hc : 0 < m
  · rw [if_pos (by (clear hn lx hB9 hB hQ hx hw9 hw; omega))]
    have hle : (2 ^ w) ^ n ≤ x := by
      rcases Nat.lt_or_ge x ((2 ^ w) ^ n) with q | q
      · rw [Nat.div_eq_of_lt q] at hm; (clear q hn lx hB9 hB hQ hx hw9 hw; omega)
      · exact q
    have hnl := len_gt hB hle
    refine WSs.app ?_
    try simp only [orAnd,andAnd,Za,Zb,Zc,Zd,Ze,Zf,Zg,Zh,Zi,Zj,Zk,Zl,Zm,Zn,Zo,Zp,Zq,Zr,Zs,Zt,Zu,Zv,Zw,Zx,Zy,Zz,ZA,ZB,ZC,ZD,ZE,ZF,ZG,ZH,ZI,ZJ,ZK,ZL,ZM,ZN,ZO,ZP,ZQ,ZR,ZS,ZT,ZU,ZV,ZW,ZX,ZY,ZZ,Ya,Yb,Yc,Yd,Ye,Yf,Yg,Yh,Yi,Yj,Yk,Yl,Ym,Yn,Yo,Yp,Yq,Yr,Ys,Yt,Yu,Yv,Yw,Yx,Yy,Yz,YA,YB,YC,YD,YE,YF,YG,YH,YI,row₀,List.getElem?_cons_zero,List.getElem?_cons_succ,List.set_cons_zero,List.set_cons_succ,List.map_cons,List.map_nil,List.length_cons,List.length_nil,List.replicate,List.cons_append,List.nil_append,Nat.reduceAdd,Nat.reduceSub,List.mem_cons,List.not_mem_nil,or_false,forall_eq_or_imp,forall_eq,implies_true,true_and,and_true,if_true,if_false,Bool.false_eq_true,decide_eq_true_eq,Bool.not_eq_true',decide_eq_false_iff_not,Bool.not_eq_eq_eq_not,Bool.not_true,Bool.not_false,beq_self_eq_true,reduceCtorEq,beq_iff_eq,low_length,row_length,fdiv_nat,fmod_nat,two_pow,one_shl,shr,shl,and_mask,clip_nat,Int.one_mul]
    refine ⟨by (clear hnl hle hc hn hm lx hB9 hB hQ hx; omega), by (clear hnl hle hc hn hm lx hB9 hB hQ hx; omega), by decide, by (clear hnl hle hc hn hm lx hQ hx hw9 hw; omega), by rw [sz_n]; (clear hle hc hn hm hB9 hB hQ hx hw9 hw; omega), ?_⟩
    refine WSs.set ?_
    try simp only [orAnd,andAnd,Za,Zb,Zc,Zd,Ze,Zf,Zg,Zh,Zi,Zj,Zk,Zl,Zm,Zn,Zo,Zp,Zq,Zr,Zs,Zt,Zu,Zv,Zw,Zx,Zy,Zz,ZA,ZB,ZC,ZD,ZE,ZF,ZG,ZH,ZI,ZJ,ZK,ZL,ZM,ZN,ZO,ZP,ZQ,ZR,ZS,ZT,ZU,ZV,ZW,ZX,ZY,ZZ,Ya,Yb,Yc,Yd,Ye,Yf,Yg,Yh,Yi,Yj,Yk,Yl,Ym,Yn,Yo,Yp,Yq,Yr,Ys,Yt,Yu,Yv,Yw,Yx,Yy,Yz,YA,YB,YC,YD,YE,YF,YG,YH,YI,row₀,List.getElem?_cons_zero,List.getElem?_cons_succ,List.set_cons_zero,List.set_cons_succ,List.map_cons,List.map_nil,List.length_cons,List.length_nil,List.replicate,List.cons_append,List.nil_append,Nat.reduceAdd,Nat.reduceSub,List.mem_cons,List.not_mem_nil,or_false,forall_eq_or_imp,forall_eq,implies_true,true_and,and_true,if_true,if_false,Bool.false_eq_true,decide_eq_true_eq,Bool.not_eq_true',decide_eq_false_iff_not,Bool.not_eq_eq_eq_not,Bool.not_true,Bool.not_false,beq_self_eq_true,reduceCtorEq,beq_iff_eq,low_length,row_length,fdiv_nat,fmod_nat,two_pow,one_shl,shr,shl,and_mask,clip_nat,Int.one_mul]
    refine ⟨by (clear hnl hle hc hn hm lx hB9 hB hQ hx; omega), by (clear hnl hle hc hn hm lx hB9 hB hQ hx; omega), by decide, by (clear hnl hle hc hn hm lx hQ hx hw9 hw; omega), ⟨64, by decide, by rw [Int.natAbs_natCast]; (clear hnl hle hc hn hm lx hQ hx hw9 hw; omega)⟩, ?_⟩
    refine WSs.nil ⟨m / 2 ^ w, Nat.div_lt_self hc (by (clear hnl hle hc hn hm lx hQ hx hw9 hw; omega)), n + 1, rfl, ?_, rfl, ?_, .inr hle⟩
    · rw [low_succ, hm]; rfl
    · rw [hm, Nat.div_div_eq_div_mul, ← Nat.pow_succ]
  · rw [if_neg (by (clear hn lx hB9 hB hQ hx hw9 hw; omega))]
    refine WSs.ret ?_
    try simp only [orAnd,andAnd,Za,Zb,Zc,Zd,Ze,Zf,Zg,Zh,Zi,Zj,Zk,Zl,Zm,Zn,Zo,Zp,Zq,Zr,Zs,Zt,Zu,Zv,Zw,Zx,Zy,Zz,ZA,ZB,ZC,ZD,ZE,ZF,ZG,ZH,ZI,ZJ,ZK,ZL,ZM,ZN,ZO,ZP,ZQ,ZR,ZS,ZT,ZU,ZV,ZW,ZX,ZY,ZZ,Ya,Yb,Yc,Yd,Ye,Yf,Yg,Yh,Yi,Yj,Yk,Yl,Ym,Yn,Yo,Yp,Yq,Yr,Ys,Yt,Yu,Yv,Yw,Yx,Yy,Yz,YA,YB,YC,YD,YE,YF,YG,YH,YI,row₀,List.getElem?_cons_zero,List.getElem?_cons_succ,List.set_cons_zero,List.set_cons_succ,List.map_cons,List.map_nil,List.length_cons,List.length_nil,List.replicate,List.cons_append,List.nil_append,Nat.reduceAdd,Nat.reduceSub,List.mem_cons,List.not_mem_nil,or_false,forall_eq_or_imp,forall_eq,implies_true,true_and,and_true,if_true,if_false,Bool.false_eq_true,decide_eq_true_eq,Bool.not_eq_true',decide_eq_false_iff_not,Bool.not_eq_eq_eq_not,Bool.not_true,Bool.not_false,beq_self_eq_true,reduceCtorEq,beq_iff_eq,low_length,row_length,fdiv_nat,fmod_nat,two_pow,one_shl,shr,shl,and_mask,clip_nat,Int.one_mul]
    have : x < (2 ^ w) ^ n := by
      have h0 : x / (2 ^ w) ^ n = 0 := by (clear hn lx hB9 hB hQ hx hw9 hw; omega)
      rw [Nat.div_eq_zero_iff] at h0
      have := Nat.pow_pos (n := n) (show 0 < 2 ^ w by (clear h0 hc hn hm lx hQ hx hw9 hw; omega))
      (clear hc hn hm lx hB9 hB hQ hx hw9 hw; omega)
    rw [row_of hB this hn] at hQ
    exact hQ

theorem rev_getD {xs : List Int} {n : Nat} (h : n < xs.length) : xs.reverse.getD n 0 = xs.getD (xs.length - 1 - n) 0 := by
  rw [List.getD_eq_getElem?_getD, List.getElem?_reverse h, List.getD_eq_getElem?_getD]

theorem m_law_whole {x : Nat} (hw : 1 ≤ w) (hw9 : w ≤ 9) (hQ : Q (.int x) σ) : Meets W (k + 1) "_law_whole" [.list (row (2 ^ w) x), .int w] Q σ := by
  have hB := w_pow hw
  have hB9 := pow9 hw9
  refine meets c_law_whole rfl ?_
  refine WSs.set ?_
  try simp only [orAnd,andAnd,Za,Zb,Zc,Zd,Ze,Zf,Zg,Zh,Zi,Zj,Zk,Zl,Zm,Zn,Zo,Zp,Zq,Zr,Zs,Zt,Zu,Zv,Zw,Zx,Zy,Zz,ZA,ZB,ZC,ZD,ZE,ZF,ZG,ZH,ZI,ZJ,ZK,ZL,ZM,ZN,ZO,ZP,ZQ,ZR,ZS,ZT,ZU,ZV,ZW,ZX,ZY,ZZ,Ya,Yb,Yc,Yd,Ye,Yf,Yg,Yh,Yi,Yj,Yk,Yl,Ym,Yn,Yo,Yp,Yq,Yr,Ys,Yt,Yu,Yv,Yw,Yx,Yy,Yz,YA,YB,YC,YD,YE,YF,YG,YH,YI,row₀,List.getElem?_cons_zero,List.getElem?_cons_succ,List.set_cons_zero,List.set_cons_succ,List.map_cons,List.map_nil,List.length_cons,List.length_nil,List.replicate,List.cons_append,List.nil_append,Nat.reduceAdd,Nat.reduceSub,List.mem_cons,List.not_mem_nil,or_false,forall_eq_or_imp,forall_eq,implies_true,true_and,and_true,if_true,if_false,Bool.false_eq_true,decide_eq_true_eq,Bool.not_eq_true',decide_eq_false_iff_not,Bool.not_eq_eq_eq_not,Bool.not_true,Bool.not_false,beq_self_eq_true,reduceCtorEq,beq_iff_eq,low_length,row_length,fdiv_nat,fmod_nat,two_pow,one_shl,shr,shl,and_mask,clip_nat,Int.one_mul]
  refine WSs.for_ ?_
  try simp only [orAnd,andAnd,Za,Zb,Zc,Zd,Ze,Zf,Zg,Zh,Zi,Zj,Zk,Zl,Zm,Zn,Zo,Zp,Zq,Zr,Zs,Zt,Zu,Zv,Zw,Zx,Zy,Zz,ZA,ZB,ZC,ZD,ZE,ZF,ZG,ZH,ZI,ZJ,ZK,ZL,ZM,ZN,ZO,ZP,ZQ,ZR,ZS,ZT,ZU,ZV,ZW,ZX,ZY,ZZ,Ya,Yb,Yc,Yd,Ye,Yf,Yg,Yh,Yi,Yj,Yk,Yl,Ym,Yn,Yo,Yp,Yq,Yr,Ys,Yt,Yu,Yv,Yw,Yx,Yy,Yz,YA,YB,YC,YD,YE,YF,YG,YH,YI,row₀,List.getElem?_cons_zero,List.getElem?_cons_succ,List.set_cons_zero,List.set_cons_succ,List.map_cons,List.map_nil,List.length_cons,List.length_nil,List.replicate,List.cons_append,List.nil_append,Nat.reduceAdd,Nat.reduceSub,List.mem_cons,List.not_mem_nil,or_false,forall_eq_or_imp,forall_eq,implies_true,true_and,and_true,if_true,if_false,Bool.false_eq_true,decide_eq_true_eq,Bool.not_eq_true',decide_eq_false_iff_not,Bool.not_eq_eq_eq_not,Bool.not_true,Bool.not_false,beq_self_eq_true,reduceCtorEq,beq_iff_eq,low_length,row_length,fdiv_nat,fmod_nat,two_pow,one_shl,shr,shl,and_mask,clip_nat,Int.one_mul]
  refine ⟨(row (2 ^ w) x).reverse, rfl, trivial, ?_⟩
  refine ForQ.mk (fun n ρ o σ' => ∃ q, ρ = [some (.list (row (2 ^ w) x)), some (.int w), some (.int (x / (2 ^ w) ^ (len (2 ^ w) x - n) : Nat)), q] ∧ o = none ∧ σ = σ') ⟨none, ?_, rfl, rfl⟩ ?_ ?_
  · rw [Nat.sub_zero, Nat.div_eq_of_lt (lt_len hB x)]; rfl
  · rintro n _ _ _ ⟨q, rfl, rfl, rfl⟩ hn
    rw [List.length_reverse, row_length] at hn
    rw [rev_getD (by rw [row_length]; exact hn), row_length, row_getD hB]
    obtain ⟨j, hj⟩ : ∃ j, len (2 ^ w) x - n = j + 1 := ⟨len (2 ^ w) x - n - 1, by (clear hB9 hB hQ hw9 hw; omega)⟩
    rw [show len (2 ^ w) x - 1 - n = j by (clear hB9 hB hQ hw9 hw; omega)]
    refine ⟨trivial, WSs.set ?_⟩
    try simp only [orAnd,andAnd,Za,Zb,Zc,Zd,Ze,Zf,Zg,Zh,Zi,Zj,Zk,Zl,Zm,Zn,Zo,Zp,Zq,Zr,Zs,Zt,Zu,Zv,Zw,Zx,Zy,Zz,ZA,ZB,ZC,ZD,ZE,ZF,ZG,ZH,ZI,ZJ,ZK,ZL,ZM,ZN,ZO,ZP,ZQ,ZR,ZS,ZT,ZU,ZV,ZW,ZX,ZY,ZZ,Ya,Yb,Yc,Yd,Ye,Yf,Yg,Yh,Yi,Yj,Yk,Yl,Ym,Yn,Yo,Yp,Yq,Yr,Ys,Yt,Yu,Yv,Yw,Yx,Yy,Yz,YA,YB,YC,YD,YE,YF,YG,YH,YI,row₀,List.getElem?_cons_zero,List.getElem?_cons_succ,List.set_cons_zero,List.set_cons_succ,List.map_cons,List.map_nil,List.length_cons,List.length_nil,List.replicate,List.cons_append,List.nil_append,Nat.reduceAdd,Nat.reduceSub,List.mem_cons,List.not_mem_nil,or_false,forall_eq_or_imp,forall_eq,implies_true,true_and,and_true,if_true,if_false,Bool.false_eq_true,decide_eq_true_eq,Bool.not_eq_true',decide_eq_false_iff_not,Bool.not_eq_eq_eq_not,Bool.not_true,Bool.not_false,beq_self_eq_true,reduceCtorEq,beq_iff_eq,low_length,row_length,fdiv_nat,fmod_nat,two_pow,one_shl,shr,shl,and_mask,clip_nat,Int.one_mul]
    refine ⟨by (clear hj hn hB9 hB hQ; omega), by (clear hj hn hB9 hB hQ; omega), by decide, .inr (.inl (by rw [Int.natAbs_natCast]; (clear hj hn hQ hw9 hw; omega))), WSs.nil ⟨some (.int (dig (2 ^ w) x j : Nat)), ?_, rfl, rfl⟩⟩
    rw [show len (2 ^ w) x - (n + 1) = j by (clear hB9 hB hQ hw9 hw; omega), hj, div_succ (2 ^ w) x j]
    push_cast
    rfl
  · rintro _ _ _ ⟨q, rfl, rfl, rfl⟩
    rw [List.length_reverse, row_length, Nat.sub_self]
    refine WSs.ret ?_
    try simp only [orAnd,andAnd,Za,Zb,Zc,Zd,Ze,Zf,Zg,Zh,Zi,Zj,Zk,Zl,Zm,Zn,Zo,Zp,Zq,Zr,Zs,Zt,Zu,Zv,Zw,Zx,Zy,Zz,ZA,ZB,ZC,ZD,ZE,ZF,ZG,ZH,ZI,ZJ,ZK,ZL,ZM,ZN,ZO,ZP,ZQ,ZR,ZS,ZT,ZU,ZV,ZW,ZX,ZY,ZZ,Ya,Yb,Yc,Yd,Ye,Yf,Yg,Yh,Yi,Yj,Yk,Yl,Ym,Yn,Yo,Yp,Yq,Yr,Ys,Yt,Yu,Yv,Yw,Yx,Yy,Yz,YA,YB,YC,YD,YE,YF,YG,YH,YI,row₀,List.getElem?_cons_zero,List.getElem?_cons_succ,List.set_cons_zero,List.set_cons_succ,List.map_cons,List.map_nil,List.length_cons,List.length_nil,List.replicate,List.cons_append,List.nil_append,Nat.reduceAdd,Nat.reduceSub,List.mem_cons,List.not_mem_nil,or_false,forall_eq_or_imp,forall_eq,implies_true,true_and,and_true,if_true,if_false,Bool.false_eq_true,decide_eq_true_eq,Bool.not_eq_true',decide_eq_false_iff_not,Bool.not_eq_eq_eq_not,Bool.not_true,Bool.not_false,beq_self_eq_true,reduceCtorEq,beq_iff_eq,low_length,row_length,fdiv_nat,fmod_nat,two_pow,one_shl,shr,shl,and_mask,clip_nat,Int.one_mul]
    simpa using hQ

theorem m_law_times {x y : Nat} (hw : 1 ≤ w) (hw9 : w ≤ 9) (hx : Bd x) (hy : Bd y) (hxy : Bd (x * y)) (hQ : Q (.list (row (2 ^ w) (x * y))) σ) : Meets W (k + 2) "_law_times" [.list (row (2 ^ w) x), .list (row (2 ^ w) y), .int w] Q σ := by
  refine meets c_law_times rfl ?_
  refine WSs.ret ?_
  try simp only [orAnd,andAnd,Za,Zb,Zc,Zd,Ze,Zf,Zg,Zh,Zi,Zj,Zk,Zl,Zm,Zn,Zo,Zp,Zq,Zr,Zs,Zt,Zu,Zv,Zw,Zx,Zy,Zz,ZA,ZB,ZC,ZD,ZE,ZF,ZG,ZH,ZI,ZJ,ZK,ZL,ZM,ZN,ZO,ZP,ZQ,ZR,ZS,ZT,ZU,ZV,ZW,ZX,ZY,ZZ,Ya,Yb,Yc,Yd,Ye,Yf,Yg,Yh,Yi,Yj,Yk,Yl,Ym,Yn,Yo,Yp,Yq,Yr,Ys,Yt,Yu,Yv,Yw,Yx,Yy,Yz,YA,YB,YC,YD,YE,YF,YG,YH,YI,row₀,List.getElem?_cons_zero,List.getElem?_cons_succ,List.set_cons_zero,List.set_cons_succ,List.map_cons,List.map_nil,List.length_cons,List.length_nil,List.replicate,List.cons_append,List.nil_append,Nat.reduceAdd,Nat.reduceSub,List.mem_cons,List.not_mem_nil,or_false,forall_eq_or_imp,forall_eq,implies_true,true_and,and_true,if_true,if_false,Bool.false_eq_true,decide_eq_true_eq,Bool.not_eq_true',decide_eq_false_iff_not,Bool.not_eq_eq_eq_not,Bool.not_true,Bool.not_false,beq_self_eq_true,reduceCtorEq,beq_iff_eq,low_length,row_length,fdiv_nat,fmod_nat,two_pow,one_shl,shr,shl,and_mask,clip_nat,Int.one_mul]
  refine m_law_whole hw hw9 ?_
  refine m_law_whole hw hw9 ?_
  try simp only [orAnd,andAnd,Za,Zb,Zc,Zd,Ze,Zf,Zg,Zh,Zi,Zj,Zk,Zl,Zm,Zn,Zo,Zp,Zq,Zr,Zs,Zt,Zu,Zv,Zw,Zx,Zy,Zz,ZA,ZB,ZC,ZD,ZE,ZF,ZG,ZH,ZI,ZJ,ZK,ZL,ZM,ZN,ZO,ZP,ZQ,ZR,ZS,ZT,ZU,ZV,ZW,ZX,ZY,ZZ,Ya,Yb,Yc,Yd,Ye,Yf,Yg,Yh,Yi,Yj,Yk,Yl,Ym,Yn,Yo,Yp,Yq,Yr,Ys,Yt,Yu,Yv,Yw,Yx,Yy,Yz,YA,YB,YC,YD,YE,YF,YG,YH,YI,row₀,List.getElem?_cons_zero,List.getElem?_cons_succ,List.set_cons_zero,List.set_cons_succ,List.map_cons,List.map_nil,List.length_cons,List.length_nil,List.replicate,List.cons_append,List.nil_append,Nat.reduceAdd,Nat.reduceSub,List.mem_cons,List.not_mem_nil,or_false,forall_eq_or_imp,forall_eq,implies_true,true_and,and_true,if_true,if_false,Bool.false_eq_true,decide_eq_true_eq,Bool.not_eq_true',decide_eq_false_iff_not,Bool.not_eq_eq_eq_not,Bool.not_true,Bool.not_false,beq_self_eq_true,reduceCtorEq,beq_iff_eq,low_length,row_length,fdiv_nat,fmod_nat,two_pow,one_shl,shr,shl,and_mask,clip_nat,Int.one_mul]
  refine ⟨.inr (.inr ⟨4000, by decide, by rw [Int.natAbs_natCast]; exact hx, by rw [Int.natAbs_natCast]; exact hy⟩), ?_⟩
  rw [← Int.natCast_mul]
  exact m_law_row hw hw9 hxy hQ

theorem m_law_parts {x y : Nat} (hw : 1 ≤ w) (hw9 : w ≤ 9) (hx : Bd x) (hy : Bd y) (h0 : 0 < y) (hQ : Q (.pair (.list (row (2 ^ w) (x / y))) (.list (row (2 ^ w) (x % y)))) σ) : Meets W (k + 2) "_law_parts" [.list (row (2 ^ w) x), .list (row (2 ^ w) y), .int w] Q σ := by
  refine meets c_law_parts rfl ?_
  refine WSs.swap ?_
  try simp only [orAnd,andAnd,Za,Zb,Zc,Zd,Ze,Zf,Zg,Zh,Zi,Zj,Zk,Zl,Zm,Zn,Zo,Zp,Zq,Zr,Zs,Zt,Zu,Zv,Zw,Zx,Zy,Zz,ZA,ZB,ZC,ZD,ZE,ZF,ZG,ZH,ZI,ZJ,ZK,ZL,ZM,ZN,ZO,ZP,ZQ,ZR,ZS,ZT,ZU,ZV,ZW,ZX,ZY,ZZ,Ya,Yb,Yc,Yd,Ye,Yf,Yg,Yh,Yi,Yj,Yk,Yl,Ym,Yn,Yo,Yp,Yq,Yr,Ys,Yt,Yu,Yv,Yw,Yx,Yy,Yz,YA,YB,YC,YD,YE,YF,YG,YH,YI,row₀,List.getElem?_cons_zero,List.getElem?_cons_succ,List.set_cons_zero,List.set_cons_succ,List.map_cons,List.map_nil,List.length_cons,List.length_nil,List.replicate,List.cons_append,List.nil_append,Nat.reduceAdd,Nat.reduceSub,List.mem_cons,List.not_mem_nil,or_false,forall_eq_or_imp,forall_eq,implies_true,true_and,and_true,if_true,if_false,Bool.false_eq_true,decide_eq_true_eq,Bool.not_eq_true',decide_eq_false_iff_not,Bool.not_eq_eq_eq_not,Bool.not_true,Bool.not_false,beq_self_eq_true,reduceCtorEq,beq_iff_eq,low_length,row_length,fdiv_nat,fmod_nat,two_pow,one_shl,shr,shl,and_mask,clip_nat,Int.one_mul]
  refine m_law_whole hw hw9 ?_
  refine m_law_whole hw hw9 ?_

  refine WSs.ret ?_
  try simp only [orAnd,andAnd,Za,Zb,Zc,Zd,Ze,Zf,Zg,Zh,Zi,Zj,Zk,Zl,Zm,Zn,Zo,Zp,Zq,Zr,Zs,Zt,Zu,Zv,Zw,Zx,Zy,Zz,ZA,ZB,ZC,ZD,ZE,ZF,ZG,ZH,ZI,ZJ,ZK,ZL,ZM,ZN,ZO,ZP,ZQ,ZR,ZS,ZT,ZU,ZV,ZW,ZX,ZY,ZZ,Ya,Yb,Yc,Yd,Ye,Yf,Yg,Yh,Yi,Yj,Yk,Yl,Ym,Yn,Yo,Yp,Yq,Yr,Ys,Yt,Yu,Yv,Yw,Yx,Yy,Yz,YA,YB,YC,YD,YE,YF,YG,YH,YI,row₀,List.getElem?_cons_zero,List.getElem?_cons_succ,List.set_cons_zero,List.set_cons_succ,List.map_cons,List.map_nil,List.length_cons,List.length_nil,List.replicate,List.cons_append,List.nil_append,Nat.reduceAdd,Nat.reduceSub,List.mem_cons,List.not_mem_nil,or_false,forall_eq_or_imp,forall_eq,implies_true,true_and,and_true,if_true,if_false,Bool.false_eq_true,decide_eq_true_eq,Bool.not_eq_true',decide_eq_false_iff_not,Bool.not_eq_eq_eq_not,Bool.not_true,Bool.not_false,beq_self_eq_true,reduceCtorEq,beq_iff_eq,low_length,row_length,fdiv_nat,fmod_nat,two_pow,one_shl,shr,shl,and_mask,clip_nat,Int.one_mul]
  refine ⟨by (clear hQ hy hx hw9 hw; omega), ⟨4000, by decide, by rw [Int.natAbs_natCast]; exact hy⟩, ?_⟩
  refine m_law_row hw hw9 (hx.le (Nat.div_le_self ..)) ?_
  refine ⟨by (clear hQ hy hx hw9 hw; omega), ?_⟩
  exact m_law_row hw hw9 (hx.le (Nat.mod_le ..)) hQ

noncomputable def Gd (σ : Bx) : Prop := 0 ≤ σ.1 ∧ 0 ≤ σ.2

theorem m_take {m : Nat} (h1 : 1 ≤ m) (h2 : Bd m) (hσ : Gd σ) (hQ : ∀ (d : Nat) (σ' : Bx), d < m → Gd σ' → Q (.int d) σ') : Meets W (k + 1) "_law_take" [.box, .int m] Q σ := by
  obtain ⟨c, n⟩ := σ
  obtain ⟨hc, hn⟩ := hσ
  simp only at hc hn
  refine meets c_law_take rfl ?_
  refine WSs.box ?_
  try simp only [orAnd,andAnd,Za,Zb,Zc,Zd,Ze,Zf,Zg,Zh,Zi,Zj,Zk,Zl,Zm,Zn,Zo,Zp,Zq,Zr,Zs,Zt,Zu,Zv,Zw,Zx,Zy,Zz,ZA,ZB,ZC,ZD,ZE,ZF,ZG,ZH,ZI,ZJ,ZK,ZL,ZM,ZN,ZO,ZP,ZQ,ZR,ZS,ZT,ZU,ZV,ZW,ZX,ZY,ZZ,Ya,Yb,Yc,Yd,Ye,Yf,Yg,Yh,Yi,Yj,Yk,Yl,Ym,Yn,Yo,Yp,Yq,Yr,Ys,Yt,Yu,Yv,Yw,Yx,Yy,Yz,YA,YB,YC,YD,YE,YF,YG,YH,YI,row₀,List.getElem?_cons_zero,List.getElem?_cons_succ,List.set_cons_zero,List.set_cons_succ,List.map_cons,List.map_nil,List.length_cons,List.length_nil,List.replicate,List.cons_append,List.nil_append,Nat.reduceAdd,Nat.reduceSub,List.mem_cons,List.not_mem_nil,or_false,forall_eq_or_imp,forall_eq,implies_true,true_and,and_true,if_true,if_false,Bool.false_eq_true,decide_eq_true_eq,Bool.not_eq_true',decide_eq_false_iff_not,Bool.not_eq_eq_eq_not,Bool.not_true,Bool.not_false,beq_self_eq_true,reduceCtorEq,beq_iff_eq,low_length,row_length,fdiv_nat,fmod_nat,two_pow,one_shl,shr,shl,and_mask,clip_nat,Int.one_mul]
  refine .inr ⟨rfl, ?_⟩
  try simp only [orAnd,andAnd,Za,Zb,Zc,Zd,Ze,Zf,Zg,Zh,Zi,Zj,Zk,Zl,Zm,Zn,Zo,Zp,Zq,Zr,Zs,Zt,Zu,Zv,Zw,Zx,Zy,Zz,ZA,ZB,ZC,ZD,ZE,ZF,ZG,ZH,ZI,ZJ,ZK,ZL,ZM,ZN,ZO,ZP,ZQ,ZR,ZS,ZT,ZU,ZV,ZW,ZX,ZY,ZZ,Ya,Yb,Yc,Yd,Ye,Yf,Yg,Yh,Yi,Yj,Yk,Yl,Ym,Yn,Yo,Yp,Yq,Yr,Ys,Yt,Yu,Yv,Yw,Yx,Yy,Yz,YA,YB,YC,YD,YE,YF,YG,YH,YI,row₀,List.getElem?_cons_zero,List.getElem?_cons_succ,List.set_cons_zero,List.set_cons_succ,List.map_cons,List.map_nil,List.length_cons,List.length_nil,List.replicate,List.cons_append,List.nil_append,Nat.reduceAdd,Nat.reduceSub,List.mem_cons,List.not_mem_nil,or_false,forall_eq_or_imp,forall_eq,implies_true,true_and,and_true,if_true,if_false,Bool.false_eq_true,decide_eq_true_eq,Bool.not_eq_true',decide_eq_false_iff_not,Bool.not_eq_eq_eq_not,Bool.not_true,Bool.not_false,beq_self_eq_true,reduceCtorEq,beq_iff_eq,low_length,row_length,fdiv_nat,fmod_nat,two_pow,one_shl,shr,shl,and_mask,clip_nat,Int.one_mul]
  refine WSs.ite ?_
  try simp only [orAnd,andAnd,Za,Zb,Zc,Zd,Ze,Zf,Zg,Zh,Zi,Zj,Zk,Zl,Zm,Zn,Zo,Zp,Zq,Zr,Zs,Zt,Zu,Zv,Zw,Zx,Zy,Zz,ZA,ZB,ZC,ZD,ZE,ZF,ZG,ZH,ZI,ZJ,ZK,ZL,ZM,ZN,ZO,ZP,ZQ,ZR,ZS,ZT,ZU,ZV,ZW,ZX,ZY,ZZ,Ya,Yb,Yc,Yd,Ye,Yf,Yg,Yh,Yi,Yj,Yk,Yl,Ym,Yn,Yo,Yp,Yq,Yr,Ys,Yt,Yu,Yv,Yw,Yx,Yy,Yz,YA,YB,YC,YD,YE,YF,YG,YH,YI,row₀,List.getElem?_cons_zero,List.getElem?_cons_succ,List.set_cons_zero,List.set_cons_succ,List.map_cons,List.map_nil,List.length_cons,List.length_nil,List.replicate,List.cons_append,List.nil_append,Nat.reduceAdd,Nat.reduceSub,List.mem_cons,List.not_mem_nil,or_false,forall_eq_or_imp,forall_eq,implies_true,true_and,and_true,if_true,if_false,Bool.false_eq_true,decide_eq_true_eq,Bool.not_eq_true',decide_eq_false_iff_not,Bool.not_eq_eq_eq_not,Bool.not_true,Bool.not_false,beq_self_eq_true,reduceCtorEq,beq_iff_eq,low_length,row_length,fdiv_nat,fmod_nat,two_pow,one_shl,shr,shl,and_mask,clip_nat,Int.one_mul]
  refine .inl ⟨rfl, ?_⟩
  try simp only [orAnd,andAnd,Za,Zb,Zc,Zd,Ze,Zf,Zg,Zh,Zi,Zj,Zk,Zl,Zm,Zn,Zo,Zp,Zq,Zr,Zs,Zt,Zu,Zv,Zw,Zx,Zy,Zz,ZA,ZB,ZC,ZD,ZE,ZF,ZG,ZH,ZI,ZJ,ZK,ZL,ZM,ZN,ZO,ZP,ZQ,ZR,ZS,ZT,ZU,ZV,ZW,ZX,ZY,ZZ,Ya,Yb,Yc,Yd,Ye,Yf,Yg,Yh,Yi,Yj,Yk,Yl,Ym,Yn,Yo,Yp,Yq,Yr,Ys,Yt,Yu,Yv,Yw,Yx,Yy,Yz,YA,YB,YC,YD,YE,YF,YG,YH,YI,row₀,List.getElem?_cons_zero,List.getElem?_cons_succ,List.set_cons_zero,List.set_cons_succ,List.map_cons,List.map_nil,List.length_cons,List.length_nil,List.replicate,List.cons_append,List.nil_append,Nat.reduceAdd,Nat.reduceSub,List.mem_cons,List.not_mem_nil,or_false,forall_eq_or_imp,forall_eq,implies_true,true_and,and_true,if_true,if_false,Bool.false_eq_true,decide_eq_true_eq,Bool.not_eq_true',decide_eq_false_iff_not,Bool.not_eq_eq_eq_not,Bool.not_true,Bool.not_false,beq_self_eq_true,reduceCtorEq,beq_iff_eq,low_length,row_length,fdiv_nat,fmod_nat,two_pow,one_shl,shr,shl,and_mask,clip_nat,Int.one_mul]
  have modQ : ∀ (z : Int) (σ' : Bx), 0 ≤ z → Gd σ' → Q (.int (z.fmod m)) σ' := fun z σ' hz hg => by
    obtain ⟨u, rfl⟩ := Int.eq_ofNat_of_zero_le hz
    rw [fmod_nat]
    exact hQ _ _ (Nat.mod_lt _ h1) hg
  by_cases hp : 0 < c
  · rw [if_pos hp]
    refine WSs.set ?_
    try simp only [orAnd,andAnd,Za,Zb,Zc,Zd,Ze,Zf,Zg,Zh,Zi,Zj,Zk,Zl,Zm,Zn,Zo,Zp,Zq,Zr,Zs,Zt,Zu,Zv,Zw,Zx,Zy,Zz,ZA,ZB,ZC,ZD,ZE,ZF,ZG,ZH,ZI,ZJ,ZK,ZL,ZM,ZN,ZO,ZP,ZQ,ZR,ZS,ZT,ZU,ZV,ZW,ZX,ZY,ZZ,Ya,Yb,Yc,Yd,Ye,Yf,Yg,Yh,Yi,Yj,Yk,Yl,Ym,Yn,Yo,Yp,Yq,Yr,Ys,Yt,Yu,Yv,Yw,Yx,Yy,Yz,YA,YB,YC,YD,YE,YF,YG,YH,YI,row₀,List.getElem?_cons_zero,List.getElem?_cons_succ,List.set_cons_zero,List.set_cons_succ,List.map_cons,List.map_nil,List.length_cons,List.length_nil,List.replicate,List.cons_append,List.nil_append,Nat.reduceAdd,Nat.reduceSub,List.mem_cons,List.not_mem_nil,or_false,forall_eq_or_imp,forall_eq,implies_true,true_and,and_true,if_true,if_false,Bool.false_eq_true,decide_eq_true_eq,Bool.not_eq_true',decide_eq_false_iff_not,Bool.not_eq_eq_eq_not,Bool.not_true,Bool.not_false,beq_self_eq_true,reduceCtorEq,beq_iff_eq,low_length,row_length,fdiv_nat,fmod_nat,two_pow,one_shl,shr,shl,and_mask,clip_nat,Int.one_mul]
    refine .inl ⟨rfl, ?_⟩
    try simp only [orAnd,andAnd,Za,Zb,Zc,Zd,Ze,Zf,Zg,Zh,Zi,Zj,Zk,Zl,Zm,Zn,Zo,Zp,Zq,Zr,Zs,Zt,Zu,Zv,Zw,Zx,Zy,Zz,ZA,ZB,ZC,ZD,ZE,ZF,ZG,ZH,ZI,ZJ,ZK,ZL,ZM,ZN,ZO,ZP,ZQ,ZR,ZS,ZT,ZU,ZV,ZW,ZX,ZY,ZZ,Ya,Yb,Yc,Yd,Ye,Yf,Yg,Yh,Yi,Yj,Yk,Yl,Ym,Yn,Yo,Yp,Yq,Yr,Ys,Yt,Yu,Yv,Yw,Yx,Yy,Yz,YA,YB,YC,YD,YE,YF,YG,YH,YI,row₀,List.getElem?_cons_zero,List.getElem?_cons_succ,List.set_cons_zero,List.set_cons_succ,List.map_cons,List.map_nil,List.length_cons,List.length_nil,List.replicate,List.cons_append,List.nil_append,Nat.reduceAdd,Nat.reduceSub,List.mem_cons,List.not_mem_nil,or_false,forall_eq_or_imp,forall_eq,implies_true,true_and,and_true,if_true,if_false,Bool.false_eq_true,decide_eq_true_eq,Bool.not_eq_true',decide_eq_false_iff_not,Bool.not_eq_eq_eq_not,Bool.not_true,Bool.not_false,beq_self_eq_true,reduceCtorEq,beq_iff_eq,low_length,row_length,fdiv_nat,fmod_nat,two_pow,one_shl,shr,shl,and_mask,clip_nat,Int.one_mul]
    refine ⟨by omega, ?_⟩
    refine WSs.box ?_
    try simp only [orAnd,andAnd,Za,Zb,Zc,Zd,Ze,Zf,Zg,Zh,Zi,Zj,Zk,Zl,Zm,Zn,Zo,Zp,Zq,Zr,Zs,Zt,Zu,Zv,Zw,Zx,Zy,Zz,ZA,ZB,ZC,ZD,ZE,ZF,ZG,ZH,ZI,ZJ,ZK,ZL,ZM,ZN,ZO,ZP,ZQ,ZR,ZS,ZT,ZU,ZV,ZW,ZX,ZY,ZZ,Ya,Yb,Yc,Yd,Ye,Yf,Yg,Yh,Yi,Yj,Yk,Yl,Ym,Yn,Yo,Yp,Yq,Yr,Ys,Yt,Yu,Yv,Yw,Yx,Yy,Yz,YA,YB,YC,YD,YE,YF,YG,YH,YI,row₀,List.getElem?_cons_zero,List.getElem?_cons_succ,List.set_cons_zero,List.set_cons_succ,List.map_cons,List.map_nil,List.length_cons,List.length_nil,List.replicate,List.cons_append,List.nil_append,Nat.reduceAdd,Nat.reduceSub,List.mem_cons,List.not_mem_nil,or_false,forall_eq_or_imp,forall_eq,implies_true,true_and,and_true,if_true,if_false,Bool.false_eq_true,decide_eq_true_eq,Bool.not_eq_true',decide_eq_false_iff_not,Bool.not_eq_eq_eq_not,Bool.not_true,Bool.not_false,beq_self_eq_true,reduceCtorEq,beq_iff_eq,low_length,row_length,fdiv_nat,fmod_nat,two_pow,one_shl,shr,shl,and_mask,clip_nat,Int.one_mul]
    refine .inl ⟨rfl, ?_⟩
    try simp only [orAnd,andAnd,Za,Zb,Zc,Zd,Ze,Zf,Zg,Zh,Zi,Zj,Zk,Zl,Zm,Zn,Zo,Zp,Zq,Zr,Zs,Zt,Zu,Zv,Zw,Zx,Zy,Zz,ZA,ZB,ZC,ZD,ZE,ZF,ZG,ZH,ZI,ZJ,ZK,ZL,ZM,ZN,ZO,ZP,ZQ,ZR,ZS,ZT,ZU,ZV,ZW,ZX,ZY,ZZ,Ya,Yb,Yc,Yd,Ye,Yf,Yg,Yh,Yi,Yj,Yk,Yl,Ym,Yn,Yo,Yp,Yq,Yr,Ys,Yt,Yu,Yv,Yw,Yx,Yy,Yz,YA,YB,YC,YD,YE,YF,YG,YH,YI,row₀,List.getElem?_cons_zero,List.getElem?_cons_succ,List.set_cons_zero,List.set_cons_succ,List.map_cons,List.map_nil,List.length_cons,List.length_nil,List.replicate,List.cons_append,List.nil_append,Nat.reduceAdd,Nat.reduceSub,List.mem_cons,List.not_mem_nil,or_false,forall_eq_or_imp,forall_eq,implies_true,true_and,and_true,if_true,if_false,Bool.false_eq_true,decide_eq_true_eq,Bool.not_eq_true',decide_eq_false_iff_not,Bool.not_eq_eq_eq_not,Bool.not_true,Bool.not_false,beq_self_eq_true,reduceCtorEq,beq_iff_eq,low_length,row_length,fdiv_nat,fmod_nat,two_pow,one_shl,shr,shl,and_mask,clip_nat,Int.one_mul]
    refine ⟨by omega, ⟨4000, by decide, by rw [Int.natAbs_natCast]; exact h2⟩, ?_⟩
    refine WSs.ret ?_
    try simp only [orAnd,andAnd,Za,Zb,Zc,Zd,Ze,Zf,Zg,Zh,Zi,Zj,Zk,Zl,Zm,Zn,Zo,Zp,Zq,Zr,Zs,Zt,Zu,Zv,Zw,Zx,Zy,Zz,ZA,ZB,ZC,ZD,ZE,ZF,ZG,ZH,ZI,ZJ,ZK,ZL,ZM,ZN,ZO,ZP,ZQ,ZR,ZS,ZT,ZU,ZV,ZW,ZX,ZY,ZZ,Ya,Yb,Yc,Yd,Ye,Yf,Yg,Yh,Yi,Yj,Yk,Yl,Ym,Yn,Yo,Yp,Yq,Yr,Ys,Yt,Yu,Yv,Yw,Yx,Yy,Yz,YA,YB,YC,YD,YE,YF,YG,YH,YI,row₀,List.getElem?_cons_zero,List.getElem?_cons_succ,List.set_cons_zero,List.set_cons_succ,List.map_cons,List.map_nil,List.length_cons,List.length_nil,List.replicate,List.cons_append,List.nil_append,Nat.reduceAdd,Nat.reduceSub,List.mem_cons,List.not_mem_nil,or_false,forall_eq_or_imp,forall_eq,implies_true,true_and,and_true,if_true,if_false,Bool.false_eq_true,decide_eq_true_eq,Bool.not_eq_true',decide_eq_false_iff_not,Bool.not_eq_eq_eq_not,Bool.not_true,Bool.not_false,beq_self_eq_true,reduceCtorEq,beq_iff_eq,low_length,row_length,fdiv_nat,fmod_nat,two_pow,one_shl,shr,shl,and_mask,clip_nat,Int.one_mul]
    refine modQ _ _ hc ⟨?_, by simp only; (clear hp modQ hc hQ h2 h1; omega)⟩
    obtain ⟨u, rfl⟩ := Int.eq_ofNat_of_zero_le hc
    rw [fdiv_nat]
    exact Int.natCast_nonneg _
  · rw [if_neg hp]
    refine WSs.nil (WSs.ret ?_)
    try simp only [orAnd,andAnd,Za,Zb,Zc,Zd,Ze,Zf,Zg,Zh,Zi,Zj,Zk,Zl,Zm,Zn,Zo,Zp,Zq,Zr,Zs,Zt,Zu,Zv,Zw,Zx,Zy,Zz,ZA,ZB,ZC,ZD,ZE,ZF,ZG,ZH,ZI,ZJ,ZK,ZL,ZM,ZN,ZO,ZP,ZQ,ZR,ZS,ZT,ZU,ZV,ZW,ZX,ZY,ZZ,Ya,Yb,Yc,Yd,Ye,Yf,Yg,Yh,Yi,Yj,Yk,Yl,Ym,Yn,Yo,Yp,Yq,Yr,Ys,Yt,Yu,Yv,Yw,Yx,Yy,Yz,YA,YB,YC,YD,YE,YF,YG,YH,YI,row₀,List.getElem?_cons_zero,List.getElem?_cons_succ,List.set_cons_zero,List.set_cons_succ,List.map_cons,List.map_nil,List.length_cons,List.length_nil,List.replicate,List.cons_append,List.nil_append,Nat.reduceAdd,Nat.reduceSub,List.mem_cons,List.not_mem_nil,or_false,forall_eq_or_imp,forall_eq,implies_true,true_and,and_true,if_true,if_false,Bool.false_eq_true,decide_eq_true_eq,Bool.not_eq_true',decide_eq_false_iff_not,Bool.not_eq_eq_eq_not,Bool.not_true,Bool.not_false,beq_self_eq_true,reduceCtorEq,beq_iff_eq,low_length,row_length,fdiv_nat,fmod_nat,two_pow,one_shl,shr,shl,and_mask,clip_nat,Int.one_mul]
    refine .inr ⟨rfl, ?_⟩
    try simp only [orAnd,andAnd,Za,Zb,Zc,Zd,Ze,Zf,Zg,Zh,Zi,Zj,Zk,Zl,Zm,Zn,Zo,Zp,Zq,Zr,Zs,Zt,Zu,Zv,Zw,Zx,Zy,Zz,ZA,ZB,ZC,ZD,ZE,ZF,ZG,ZH,ZI,ZJ,ZK,ZL,ZM,ZN,ZO,ZP,ZQ,ZR,ZS,ZT,ZU,ZV,ZW,ZX,ZY,ZZ,Ya,Yb,Yc,Yd,Ye,Yf,Yg,Yh,Yi,Yj,Yk,Yl,Ym,Yn,Yo,Yp,Yq,Yr,Ys,Yt,Yu,Yv,Yw,Yx,Yy,Yz,YA,YB,YC,YD,YE,YF,YG,YH,YI,row₀,List.getElem?_cons_zero,List.getElem?_cons_succ,List.set_cons_zero,List.set_cons_succ,List.map_cons,List.map_nil,List.length_cons,List.length_nil,List.replicate,List.cons_append,List.nil_append,Nat.reduceAdd,Nat.reduceSub,List.mem_cons,List.not_mem_nil,or_false,forall_eq_or_imp,forall_eq,implies_true,true_and,and_true,if_true,if_false,Bool.false_eq_true,decide_eq_true_eq,Bool.not_eq_true',decide_eq_false_iff_not,Bool.not_eq_eq_eq_not,Bool.not_true,Bool.not_false,beq_self_eq_true,reduceCtorEq,beq_iff_eq,low_length,row_length,fdiv_nat,fmod_nat,two_pow,one_shl,shr,shl,and_mask,clip_nat,Int.one_mul]
    refine ⟨.inr (.inl (by decide)), ?_⟩
    refine .inr ⟨rfl, ?_⟩
    try simp only [orAnd,andAnd,Za,Zb,Zc,Zd,Ze,Zf,Zg,Zh,Zi,Zj,Zk,Zl,Zm,Zn,Zo,Zp,Zq,Zr,Zs,Zt,Zu,Zv,Zw,Zx,Zy,Zz,ZA,ZB,ZC,ZD,ZE,ZF,ZG,ZH,ZI,ZJ,ZK,ZL,ZM,ZN,ZO,ZP,ZQ,ZR,ZS,ZT,ZU,ZV,ZW,ZX,ZY,ZZ,Ya,Yb,Yc,Yd,Ye,Yf,Yg,Yh,Yi,Yj,Yk,Yl,Ym,Yn,Yo,Yp,Yq,Yr,Ys,Yt,Yu,Yv,Yw,Yx,Yy,Yz,YA,YB,YC,YD,YE,YF,YG,YH,YI,row₀,List.getElem?_cons_zero,List.getElem?_cons_succ,List.set_cons_zero,List.set_cons_succ,List.map_cons,List.map_nil,List.length_cons,List.length_nil,List.replicate,List.cons_append,List.nil_append,Nat.reduceAdd,Nat.reduceSub,List.mem_cons,List.not_mem_nil,or_false,forall_eq_or_imp,forall_eq,implies_true,true_and,and_true,if_true,if_false,Bool.false_eq_true,decide_eq_true_eq,Bool.not_eq_true',decide_eq_false_iff_not,Bool.not_eq_eq_eq_not,Bool.not_true,Bool.not_false,beq_self_eq_true,reduceCtorEq,beq_iff_eq,low_length,row_length,fdiv_nat,fmod_nat,two_pow,one_shl,shr,shl,and_mask,clip_nat,Int.one_mul]
    refine ⟨by decide, ⟨64, by decide, by decide⟩, by omega, ?_⟩
    refine modQ _ _ ?_ ⟨hc, by simp only; (clear hp modQ hc hQ h2 h1; omega)⟩
    have : 0 ≤ (n + 1).fdiv 5 := Int.fdiv_nonneg (by (clear hp modQ hc hQ h2 h1; omega)) (by decide)
    (clear hp modQ hc hQ h2 h1; omega)

theorem m_total {xs : List Int} (hQ : ∀ n : Nat, Q (.int n) σ) : Meets W (k + 1) "_law_total" [.list xs] Q σ := by
  refine meets c_law_total rfl ?_
  refine WSs.set ?_
  try simp only [orAnd,andAnd,Za,Zb,Zc,Zd,Ze,Zf,Zg,Zh,Zi,Zj,Zk,Zl,Zm,Zn,Zo,Zp,Zq,Zr,Zs,Zt,Zu,Zv,Zw,Zx,Zy,Zz,ZA,ZB,ZC,ZD,ZE,ZF,ZG,ZH,ZI,ZJ,ZK,ZL,ZM,ZN,ZO,ZP,ZQ,ZR,ZS,ZT,ZU,ZV,ZW,ZX,ZY,ZZ,Ya,Yb,Yc,Yd,Ye,Yf,Yg,Yh,Yi,Yj,Yk,Yl,Ym,Yn,Yo,Yp,Yq,Yr,Ys,Yt,Yu,Yv,Yw,Yx,Yy,Yz,YA,YB,YC,YD,YE,YF,YG,YH,YI,row₀,List.getElem?_cons_zero,List.getElem?_cons_succ,List.set_cons_zero,List.set_cons_succ,List.map_cons,List.map_nil,List.length_cons,List.length_nil,List.replicate,List.cons_append,List.nil_append,Nat.reduceAdd,Nat.reduceSub,List.mem_cons,List.not_mem_nil,or_false,forall_eq_or_imp,forall_eq,implies_true,true_and,and_true,if_true,if_false,Bool.false_eq_true,decide_eq_true_eq,Bool.not_eq_true',decide_eq_false_iff_not,Bool.not_eq_eq_eq_not,Bool.not_true,Bool.not_false,beq_self_eq_true,reduceCtorEq,beq_iff_eq,low_length,row_length,fdiv_nat,fmod_nat,two_pow,one_shl,shr,shl,and_mask,clip_nat,Int.one_mul]
  refine WSs.for_ ?_
  try simp only [orAnd,andAnd,Za,Zb,Zc,Zd,Ze,Zf,Zg,Zh,Zi,Zj,Zk,Zl,Zm,Zn,Zo,Zp,Zq,Zr,Zs,Zt,Zu,Zv,Zw,Zx,Zy,Zz,ZA,ZB,ZC,ZD,ZE,ZF,ZG,ZH,ZI,ZJ,ZK,ZL,ZM,ZN,ZO,ZP,ZQ,ZR,ZS,ZT,ZU,ZV,ZW,ZX,ZY,ZZ,Ya,Yb,Yc,Yd,Ye,Yf,Yg,Yh,Yi,Yj,Yk,Yl,Ym,Yn,Yo,Yp,Yq,Yr,Ys,Yt,Yu,Yv,Yw,Yx,Yy,Yz,YA,YB,YC,YD,YE,YF,YG,YH,YI,row₀,List.getElem?_cons_zero,List.getElem?_cons_succ,List.set_cons_zero,List.set_cons_succ,List.map_cons,List.map_nil,List.length_cons,List.length_nil,List.replicate,List.cons_append,List.nil_append,Nat.reduceAdd,Nat.reduceSub,List.mem_cons,List.not_mem_nil,or_false,forall_eq_or_imp,forall_eq,implies_true,true_and,and_true,if_true,if_false,Bool.false_eq_true,decide_eq_true_eq,Bool.not_eq_true',decide_eq_false_iff_not,Bool.not_eq_eq_eq_not,Bool.not_true,Bool.not_false,beq_self_eq_true,reduceCtorEq,beq_iff_eq,low_length,row_length,fdiv_nat,fmod_nat,two_pow,one_shl,shr,shl,and_mask,clip_nat,Int.one_mul]
  refine ⟨_, rfl, trivial, ?_⟩
  refine ForQ.mk (fun n ρ o σ' => ∃ q, ∃ g : Nat, ρ = [some (.list xs), some (.int g), q] ∧ o = none ∧ σ = σ') ⟨none, 0, rfl, rfl, rfl⟩ ?_ ?_
  · rintro n _ _ _ ⟨q, g, rfl, rfl, rfl⟩ hn
    generalize (List.reverse _).getD n (0 : Int) = v
    refine ⟨trivial, WSs.set ?_⟩
    try simp only [orAnd,andAnd,Za,Zb,Zc,Zd,Ze,Zf,Zg,Zh,Zi,Zj,Zk,Zl,Zm,Zn,Zo,Zp,Zq,Zr,Zs,Zt,Zu,Zv,Zw,Zx,Zy,Zz,ZA,ZB,ZC,ZD,ZE,ZF,ZG,ZH,ZI,ZJ,ZK,ZL,ZM,ZN,ZO,ZP,ZQ,ZR,ZS,ZT,ZU,ZV,ZW,ZX,ZY,ZZ,Ya,Yb,Yc,Yd,Ye,Yf,Yg,Yh,Yi,Yj,Yk,Yl,Ym,Yn,Yo,Yp,Yq,Yr,Ys,Yt,Yu,Yv,Yw,Yx,Yy,Yz,YA,YB,YC,YD,YE,YF,YG,YH,YI,row₀,List.getElem?_cons_zero,List.getElem?_cons_succ,List.set_cons_zero,List.set_cons_succ,List.map_cons,List.map_nil,List.length_cons,List.length_nil,List.replicate,List.cons_append,List.nil_append,Nat.reduceAdd,Nat.reduceSub,List.mem_cons,List.not_mem_nil,or_false,forall_eq_or_imp,forall_eq,implies_true,true_and,and_true,if_true,if_false,Bool.false_eq_true,decide_eq_true_eq,Bool.not_eq_true',decide_eq_false_iff_not,Bool.not_eq_eq_eq_not,Bool.not_true,Bool.not_false,beq_self_eq_true,reduceCtorEq,beq_iff_eq,low_length,row_length,fdiv_nat,fmod_nat,two_pow,one_shl,shr,shl,and_mask,clip_nat,Int.one_mul]
    refine ⟨.inr (.inl (by decide)), by decide, ?_⟩
    generalize hz : (if v < 0 then -v else v) = z
    have h0 : 0 ≤ z := by rw [← hz]; split <;> (clear hz hn hQ; omega)
    obtain ⟨u, rfl⟩ := Int.eq_ofNat_of_zero_le h0
    refine WSs.nil ⟨some (.int v), g * 65536 + u % 65536, ?_, rfl, rfl⟩
    have := fmod_nat u 65536
    rw [show ((65536 : Nat) : Int) = 65536 from rfl] at this
    rw [this, show ((g * 65536 + u % 65536 : Nat) : Int) = (g : Int) * 65536 + ((u % 65536 : Nat) : Int) by (clear this h0 hz hn hQ; omega)]
  · rintro _ _ _ ⟨q, g, rfl, rfl, rfl⟩
    refine WSs.ret ?_
    try simp only [orAnd,andAnd,Za,Zb,Zc,Zd,Ze,Zf,Zg,Zh,Zi,Zj,Zk,Zl,Zm,Zn,Zo,Zp,Zq,Zr,Zs,Zt,Zu,Zv,Zw,Zx,Zy,Zz,ZA,ZB,ZC,ZD,ZE,ZF,ZG,ZH,ZI,ZJ,ZK,ZL,ZM,ZN,ZO,ZP,ZQ,ZR,ZS,ZT,ZU,ZV,ZW,ZX,ZY,ZZ,Ya,Yb,Yc,Yd,Ye,Yf,Yg,Yh,Yi,Yj,Yk,Yl,Ym,Yn,Yo,Yp,Yq,Yr,Ys,Yt,Yu,Yv,Yw,Yx,Yy,Yz,YA,YB,YC,YD,YE,YF,YG,YH,YI,row₀,List.getElem?_cons_zero,List.getElem?_cons_succ,List.set_cons_zero,List.set_cons_succ,List.map_cons,List.map_nil,List.length_cons,List.length_nil,List.replicate,List.cons_append,List.nil_append,Nat.reduceAdd,Nat.reduceSub,List.mem_cons,List.not_mem_nil,or_false,forall_eq_or_imp,forall_eq,implies_true,true_and,and_true,if_true,if_false,Bool.false_eq_true,decide_eq_true_eq,Bool.not_eq_true',decide_eq_false_iff_not,Bool.not_eq_eq_eq_not,Bool.not_true,Bool.not_false,beq_self_eq_true,reduceCtorEq,beq_iff_eq,low_length,row_length,fdiv_nat,fmod_nat,two_pow,one_shl,shr,shl,and_mask,clip_nat,Int.one_mul]
    exact hQ g
end
end
section
open PySem PySem.W PyProof.Rows
set_option exponentiation.threshold 5000

section
variable {W : Wd} {k w : Nat} {σ : Bx} {Q : V → Bx → Prop}

theorem WSub_list3 {a b c : Int} {d : Nat} (hd : d < 3) (h : ∀ z : Int, z = a ∨ z = b ∨ z = c → Q (.int z) σ) : WSub (.list [a, b, c]) (.int d) Q σ := by
  refine WSub_at d rfl (by simpa using hd) (h _ ?_)
  rcases d with _ | _ | _ | d
  · exact .inl rfl
  · exact .inr (.inl rfl)
  · exact .inr (.inr rfl)
  · omega

theorem pow_le {a b : Nat} (h : a ≤ b) : (2 : Nat) ^ a ≤ 2 ^ b := Nat.pow_le_pow_right (by decide) h

theorem m_drawn (hw : 1 ≤ w) (hw9 : w ≤ 9) (hσ : Gd σ) (hQ : ∀ (b : Nat) (σ' : Bx), 1 ≤ b → b ≤ 2 ^ 54 → Gd σ' → Q (.int b) σ') : Meets W (k + 2) "_law_drawn" [.box, .int w, .int 6] Q σ := by
  have hB := w_pow hw
  have hB9 := pow9 hw9
  refine meets c_law_drawn rfl ?_
  refine WSs.swap ?_
  try simp only [orAnd,andAnd,Za,Zb,Zc,Zd,Ze,Zf,Zg,Zh,Zi,Zj,Zk,Zl,Zm,Zn,Zo,Zp,Zq,Zr,Zs,Zt,Zu,Zv,Zw,Zx,Zy,Zz,ZA,ZB,ZC,ZD,ZE,ZF,ZG,ZH,ZI,ZJ,ZK,ZL,ZM,ZN,ZO,ZP,ZQ,ZR,ZS,ZT,ZU,ZV,ZW,ZX,ZY,ZZ,Ya,Yb,Yc,Yd,Ye,Yf,Yg,Yh,Yi,Yj,Yk,Yl,Ym,Yn,Yo,Yp,Yq,Yr,Ys,Yt,Yu,Yv,Yw,Yx,Yy,Yz,YA,YB,YC,YD,YE,YF,YG,YH,YI,row₀,List.getElem?_cons_zero,List.getElem?_cons_succ,List.set_cons_zero,List.set_cons_succ,List.map_cons,List.map_nil,List.length_cons,List.length_nil,List.replicate,List.cons_append,List.nil_append,Nat.reduceAdd,Nat.reduceSub,List.mem_cons,List.not_mem_nil,or_false,forall_eq_or_imp,forall_eq,implies_true,true_and,and_true,if_true,if_false,Bool.false_eq_true,decide_eq_true_eq,Bool.not_eq_true',decide_eq_false_iff_not,Bool.not_eq_eq_eq_not,Bool.not_true,Bool.not_false,beq_self_eq_true,reduceCtorEq,beq_iff_eq,low_length,row_length,fdiv_nat,fmod_nat,two_pow,one_shl,shr,shl,and_mask,clip_nat,Int.one_mul]
  refine m_take (m := 6) (by decide) (Bd.of (n := 3) (by decide) (by decide)) hσ fun d σ1 hd hσ1 => ?_
  refine m_take (m := 4) (by decide) (Bd.of (n := 3) (by decide) (by decide)) hσ1 fun f σ2 hf hσ2 => ?_
  have e1 : (1 : Int) + (d : Int) = ((1 + d : Nat) : Int) := by push_cast; rfl
  rw [e1]
  generalize hs : 1 + d = s
  have hs6 : s ≤ 6 := by (clear e1 hσ2 hf hσ1 hB9 hB hQ hσ hw9 hw; omega)
  have hws : w * s ≤ 54 := Nat.le_trans (Nat.mul_le_mul hw9 hs6) (by decide)
  have hpow := pow_le hws
  refine WSs.ite ?_
  try simp only [orAnd,andAnd,Za,Zb,Zc,Zd,Ze,Zf,Zg,Zh,Zi,Zj,Zk,Zl,Zm,Zn,Zo,Zp,Zq,Zr,Zs,Zt,Zu,Zv,Zw,Zx,Zy,Zz,ZA,ZB,ZC,ZD,ZE,ZF,ZG,ZH,ZI,ZJ,ZK,ZL,ZM,ZN,ZO,ZP,ZQ,ZR,ZS,ZT,ZU,ZV,ZW,ZX,ZY,ZZ,Ya,Yb,Yc,Yd,Ye,Yf,Yg,Yh,Yi,Yj,Yk,Yl,Ym,Yn,Yo,Yp,Yq,Yr,Ys,Yt,Yu,Yv,Yw,Yx,Yy,Yz,YA,YB,YC,YD,YE,YF,YG,YH,YI,row₀,List.getElem?_cons_zero,List.getElem?_cons_succ,List.set_cons_zero,List.set_cons_succ,List.map_cons,List.map_nil,List.length_cons,List.length_nil,List.replicate,List.cons_append,List.nil_append,Nat.reduceAdd,Nat.reduceSub,List.mem_cons,List.not_mem_nil,or_false,forall_eq_or_imp,forall_eq,implies_true,true_and,and_true,if_true,if_false,Bool.false_eq_true,decide_eq_true_eq,Bool.not_eq_true',decide_eq_false_iff_not,Bool.not_eq_eq_eq_not,Bool.not_true,Bool.not_false,beq_self_eq_true,reduceCtorEq,beq_iff_eq,low_length,row_length,fdiv_nat,fmod_nat,two_pow,one_shl,shr,shl,and_mask,clip_nat,Int.one_mul]
  by_cases hf0 : f = 0
  · rw [if_pos (by (clear hpow hws hs6 hs e1 hσ2 hf hσ1 hd hB9 hB hQ hσ hw9 hw; omega))]
    refine WSs.ret ?_
    try simp only [orAnd,andAnd,Za,Zb,Zc,Zd,Ze,Zf,Zg,Zh,Zi,Zj,Zk,Zl,Zm,Zn,Zo,Zp,Zq,Zr,Zs,Zt,Zu,Zv,Zw,Zx,Zy,Zz,ZA,ZB,ZC,ZD,ZE,ZF,ZG,ZH,ZI,ZJ,ZK,ZL,ZM,ZN,ZO,ZP,ZQ,ZR,ZS,ZT,ZU,ZV,ZW,ZX,ZY,ZZ,Ya,Yb,Yc,Yd,Ye,Yf,Yg,Yh,Yi,Yj,Yk,Yl,Ym,Yn,Yo,Yp,Yq,Yr,Ys,Yt,Yu,Yv,Yw,Yx,Yy,Yz,YA,YB,YC,YD,YE,YF,YG,YH,YI,row₀,List.getElem?_cons_zero,List.getElem?_cons_succ,List.set_cons_zero,List.set_cons_succ,List.map_cons,List.map_nil,List.length_cons,List.length_nil,List.replicate,List.cons_append,List.nil_append,Nat.reduceAdd,Nat.reduceSub,List.mem_cons,List.not_mem_nil,or_false,forall_eq_or_imp,forall_eq,implies_true,true_and,and_true,if_true,if_false,Bool.false_eq_true,decide_eq_true_eq,Bool.not_eq_true',decide_eq_false_iff_not,Bool.not_eq_eq_eq_not,Bool.not_true,Bool.not_false,beq_self_eq_true,reduceCtorEq,beq_iff_eq,low_length,row_length,fdiv_nat,fmod_nat,two_pow,one_shl,shr,shl,and_mask,clip_nat,Int.one_mul]
    refine ⟨.inr (.inl (by rw [Int.natAbs_natCast]; (clear hf0 hpow hws hs6 e1 hσ2 hf hσ1 hB9 hB hQ hσ hw9 hw; omega))), ?_⟩
    rw [← Int.natCast_mul]
    try simp only [orAnd,andAnd,Za,Zb,Zc,Zd,Ze,Zf,Zg,Zh,Zi,Zj,Zk,Zl,Zm,Zn,Zo,Zp,Zq,Zr,Zs,Zt,Zu,Zv,Zw,Zx,Zy,Zz,ZA,ZB,ZC,ZD,ZE,ZF,ZG,ZH,ZI,ZJ,ZK,ZL,ZM,ZN,ZO,ZP,ZQ,ZR,ZS,ZT,ZU,ZV,ZW,ZX,ZY,ZZ,Ya,Yb,Yc,Yd,Ye,Yf,Yg,Yh,Yi,Yj,Yk,Yl,Ym,Yn,Yo,Yp,Yq,Yr,Ys,Yt,Yu,Yv,Yw,Yx,Yy,Yz,YA,YB,YC,YD,YE,YF,YG,YH,YI,row₀,List.getElem?_cons_zero,List.getElem?_cons_succ,List.set_cons_zero,List.set_cons_succ,List.map_cons,List.map_nil,List.length_cons,List.length_nil,List.replicate,List.cons_append,List.nil_append,Nat.reduceAdd,Nat.reduceSub,List.mem_cons,List.not_mem_nil,or_false,forall_eq_or_imp,forall_eq,implies_true,true_and,and_true,if_true,if_false,Bool.false_eq_true,decide_eq_true_eq,Bool.not_eq_true',decide_eq_false_iff_not,Bool.not_eq_eq_eq_not,Bool.not_true,Bool.not_false,beq_self_eq_true,reduceCtorEq,beq_iff_eq,low_length,row_length,fdiv_nat,fmod_nat,two_pow,one_shl,shr,shl,and_mask,clip_nat,Int.one_mul]
    refine ⟨by (clear hf0 hpow hs6 hs e1 hσ2 hf hσ1 hd hB9 hB hQ hσ hw9 hw; omega), by (clear hf0 hpow hs6 hs e1 hσ2 hf hσ1 hd hB9 hB hQ hσ hw9 hw; omega), by decide, ?_⟩
    have h2 : 2 ≤ 2 ^ (w * s) := Nat.le_trans hB (pow_le (Nat.le_mul_of_pos_right w (by (clear hf0 hpow hws hs6 e1 hσ2 hf hσ1 hB9 hB hQ hσ hw9 hw; omega))))
    have := hQ (2 ^ (w * s) - 1) σ2 (by (clear hf0 hws hs6 hs e1 hσ2 hf hσ1 hd hB9 hB hQ hσ hw9 hw; omega)) (by (clear hf0 hws hs6 hs e1 hσ2 hf hσ1 hd hB9 hB hQ hσ hw9 hw; omega)) hσ2
    rw [show ((2 ^ (w * s) - 1 : Nat) : Int) = ((2 ^ (w * s) : Nat) : Int) - 1 by (clear this hf0 hws hs6 hs e1 hσ2 hf hσ1 hd hB9 hB hQ hσ hw9 hw; omega)] at this
    exact this
  · rw [if_neg (by (clear hpow hws hs6 hs e1 hσ2 hf hσ1 hd hB9 hB hQ hσ hw9 hw; omega))]
    refine WSs.nil (WSs.ite ?_)
    try simp only [orAnd,andAnd,Za,Zb,Zc,Zd,Ze,Zf,Zg,Zh,Zi,Zj,Zk,Zl,Zm,Zn,Zo,Zp,Zq,Zr,Zs,Zt,Zu,Zv,Zw,Zx,Zy,Zz,ZA,ZB,ZC,ZD,ZE,ZF,ZG,ZH,ZI,ZJ,ZK,ZL,ZM,ZN,ZO,ZP,ZQ,ZR,ZS,ZT,ZU,ZV,ZW,ZX,ZY,ZZ,Ya,Yb,Yc,Yd,Ye,Yf,Yg,Yh,Yi,Yj,Yk,Yl,Ym,Yn,Yo,Yp,Yq,Yr,Ys,Yt,Yu,Yv,Yw,Yx,Yy,Yz,YA,YB,YC,YD,YE,YF,YG,YH,YI,row₀,List.getElem?_cons_zero,List.getElem?_cons_succ,List.set_cons_zero,List.set_cons_succ,List.map_cons,List.map_nil,List.length_cons,List.length_nil,List.replicate,List.cons_append,List.nil_append,Nat.reduceAdd,Nat.reduceSub,List.mem_cons,List.not_mem_nil,or_false,forall_eq_or_imp,forall_eq,implies_true,true_and,and_true,if_true,if_false,Bool.false_eq_true,decide_eq_true_eq,Bool.not_eq_true',decide_eq_false_iff_not,Bool.not_eq_eq_eq_not,Bool.not_true,Bool.not_false,beq_self_eq_true,reduceCtorEq,beq_iff_eq,low_length,row_length,fdiv_nat,fmod_nat,two_pow,one_shl,shr,shl,and_mask,clip_nat,Int.one_mul]
    by_cases hf1 : f = 1
    · rw [if_pos (by (clear hf0 hpow hws hs6 hs e1 hσ2 hf hσ1 hd hB9 hB hQ hσ hw9 hw; omega))]
      refine WSs.ret ?_
      try simp only [orAnd,andAnd,Za,Zb,Zc,Zd,Ze,Zf,Zg,Zh,Zi,Zj,Zk,Zl,Zm,Zn,Zo,Zp,Zq,Zr,Zs,Zt,Zu,Zv,Zw,Zx,Zy,Zz,ZA,ZB,ZC,ZD,ZE,ZF,ZG,ZH,ZI,ZJ,ZK,ZL,ZM,ZN,ZO,ZP,ZQ,ZR,ZS,ZT,ZU,ZV,ZW,ZX,ZY,ZZ,Ya,Yb,Yc,Yd,Ye,Yf,Yg,Yh,Yi,Yj,Yk,Yl,Ym,Yn,Yo,Yp,Yq,Yr,Ys,Yt,Yu,Yv,Yw,Yx,Yy,Yz,YA,YB,YC,YD,YE,YF,YG,YH,YI,row₀,List.getElem?_cons_zero,List.getElem?_cons_succ,List.set_cons_zero,List.set_cons_succ,List.map_cons,List.map_nil,List.length_cons,List.length_nil,List.replicate,List.cons_append,List.nil_append,Nat.reduceAdd,Nat.reduceSub,List.mem_cons,List.not_mem_nil,or_false,forall_eq_or_imp,forall_eq,implies_true,true_and,and_true,if_true,if_false,Bool.false_eq_true,decide_eq_true_eq,Bool.not_eq_true',decide_eq_false_iff_not,Bool.not_eq_eq_eq_not,Bool.not_true,Bool.not_false,beq_self_eq_true,reduceCtorEq,beq_iff_eq,low_length,row_length,fdiv_nat,fmod_nat,two_pow,one_shl,shr,shl,and_mask,clip_nat,Int.one_mul]
      refine ⟨.inr (.inl (by (clear hf1 hf0 hpow hws hs6 e1 hσ2 hf hσ1 hB9 hB hQ hσ hw9 hw; omega))), ?_⟩
      rw [show (s : Int) - 1 = ((s - 1 : Nat) : Int) by (clear hf1 hf0 hpow hws hs6 e1 hσ2 hf hσ1 hB9 hB hQ hσ hw9 hw; omega), ← Int.natCast_mul]
      have hws' : w * (s - 1) ≤ 54 := Nat.le_trans (Nat.mul_le_mul_left _ (by (clear hf1 hf0 hpow hws hs6 e1 hσ2 hf hσ1 hB9 hB hQ hσ hw9 hw; omega))) hws
      try simp only [orAnd,andAnd,Za,Zb,Zc,Zd,Ze,Zf,Zg,Zh,Zi,Zj,Zk,Zl,Zm,Zn,Zo,Zp,Zq,Zr,Zs,Zt,Zu,Zv,Zw,Zx,Zy,Zz,ZA,ZB,ZC,ZD,ZE,ZF,ZG,ZH,ZI,ZJ,ZK,ZL,ZM,ZN,ZO,ZP,ZQ,ZR,ZS,ZT,ZU,ZV,ZW,ZX,ZY,ZZ,Ya,Yb,Yc,Yd,Ye,Yf,Yg,Yh,Yi,Yj,Yk,Yl,Ym,Yn,Yo,Yp,Yq,Yr,Ys,Yt,Yu,Yv,Yw,Yx,Yy,Yz,YA,YB,YC,YD,YE,YF,YG,YH,YI,row₀,List.getElem?_cons_zero,List.getElem?_cons_succ,List.set_cons_zero,List.set_cons_succ,List.map_cons,List.map_nil,List.length_cons,List.length_nil,List.replicate,List.cons_append,List.nil_append,Nat.reduceAdd,Nat.reduceSub,List.mem_cons,List.not_mem_nil,or_false,forall_eq_or_imp,forall_eq,implies_true,true_and,and_true,if_true,if_false,Bool.false_eq_true,decide_eq_true_eq,Bool.not_eq_true',decide_eq_false_iff_not,Bool.not_eq_eq_eq_not,Bool.not_true,Bool.not_false,beq_self_eq_true,reduceCtorEq,beq_iff_eq,low_length,row_length,fdiv_nat,fmod_nat,two_pow,one_shl,shr,shl,and_mask,clip_nat,Int.one_mul]
      refine ⟨by (clear hf1 hf0 hpow hws hs6 hs e1 hσ2 hf hσ1 hd hB9 hB hQ hσ hw9 hw; omega), by (clear hf1 hf0 hpow hws hs6 hs e1 hσ2 hf hσ1 hd hB9 hB hQ hσ hw9 hw; omega), by decide, ?_⟩
      exact hQ _ σ2 (Nat.pow_pos (by decide)) (pow_le hws') hσ2
    · rw [if_neg (by (clear hf0 hpow hws hs6 hs e1 hσ2 hf hσ1 hd hB9 hB hQ hσ hw9 hw; omega))]
      refine WSs.nil (WSs.set ?_)
      try simp only [orAnd,andAnd,Za,Zb,Zc,Zd,Ze,Zf,Zg,Zh,Zi,Zj,Zk,Zl,Zm,Zn,Zo,Zp,Zq,Zr,Zs,Zt,Zu,Zv,Zw,Zx,Zy,Zz,ZA,ZB,ZC,ZD,ZE,ZF,ZG,ZH,ZI,ZJ,ZK,ZL,ZM,ZN,ZO,ZP,ZQ,ZR,ZS,ZT,ZU,ZV,ZW,ZX,ZY,ZZ,Ya,Yb,Yc,Yd,Ye,Yf,Yg,Yh,Yi,Yj,Yk,Yl,Ym,Yn,Yo,Yp,Yq,Yr,Ys,Yt,Yu,Yv,Yw,Yx,Yy,Yz,YA,YB,YC,YD,YE,YF,YG,YH,YI,row₀,List.getElem?_cons_zero,List.getElem?_cons_succ,List.set_cons_zero,List.set_cons_succ,List.map_cons,List.map_nil,List.length_cons,List.length_nil,List.replicate,List.cons_append,List.nil_append,Nat.reduceAdd,Nat.reduceSub,List.mem_cons,List.not_mem_nil,or_false,forall_eq_or_imp,forall_eq,implies_true,true_and,and_true,if_true,if_false,Bool.false_eq_true,decide_eq_true_eq,Bool.not_eq_true',decide_eq_false_iff_not,Bool.not_eq_eq_eq_not,Bool.not_true,Bool.not_false,beq_self_eq_true,reduceCtorEq,beq_iff_eq,low_length,row_length,fdiv_nat,fmod_nat,two_pow,one_shl,shr,shl,and_mask,clip_nat,Int.one_mul]
      refine WSs.for_ ?_
      try simp only [orAnd,andAnd,Za,Zb,Zc,Zd,Ze,Zf,Zg,Zh,Zi,Zj,Zk,Zl,Zm,Zn,Zo,Zp,Zq,Zr,Zs,Zt,Zu,Zv,Zw,Zx,Zy,Zz,ZA,ZB,ZC,ZD,ZE,ZF,ZG,ZH,ZI,ZJ,ZK,ZL,ZM,ZN,ZO,ZP,ZQ,ZR,ZS,ZT,ZU,ZV,ZW,ZX,ZY,ZZ,Ya,Yb,Yc,Yd,Ye,Yf,Yg,Yh,Yi,Yj,Yk,Yl,Ym,Yn,Yo,Yp,Yq,Yr,Ys,Yt,Yu,Yv,Yw,Yx,Yy,Yz,YA,YB,YC,YD,YE,YF,YG,YH,YI,row₀,List.getElem?_cons_zero,List.getElem?_cons_succ,List.set_cons_zero,List.set_cons_succ,List.map_cons,List.map_nil,List.length_cons,List.length_nil,List.replicate,List.cons_append,List.nil_append,Nat.reduceAdd,Nat.reduceSub,List.mem_cons,List.not_mem_nil,or_false,forall_eq_or_imp,forall_eq,implies_true,true_and,and_true,if_true,if_false,Bool.false_eq_true,decide_eq_true_eq,Bool.not_eq_true',decide_eq_false_iff_not,Bool.not_eq_eq_eq_not,Bool.not_true,Bool.not_false,beq_self_eq_true,reduceCtorEq,beq_iff_eq,low_length,row_length,fdiv_nat,fmod_nat,two_pow,one_shl,shr,shl,and_mask,clip_nat,Int.one_mul]
      refine ⟨.of (by (clear hf1 hf0 hpow hws hs6 e1 hσ2 hf hσ1 hB9 hB hQ hσ hw9 hw; omega)) (by (clear hf1 hf0 hpow hws hs6 e1 hσ2 hf hσ1 hB9 hB hQ hσ hw9 hw; omega)), rng_up s (by (clear hf1 hf0 hpow hws hs6 e1 hσ2 hf hσ1 hB9 hB hQ hσ hw9 hw; omega)) (.of (by (clear hf1 hf0 hpow hws hs6 hs e1 hσ2 hf hσ1 hd hB9 hB hQ hσ hw9 hw; omega)) (by (clear hf1 hf0 hpow hws hs6 hs e1 hσ2 hf hσ1 hd hB9 hB hQ hσ hw9 hw; omega))) (.of (by (clear hf1 hf0 hpow hws hs6 e1 hσ2 hf hσ1 hB9 hB hQ hσ hw9 hw; omega)) (by (clear hf1 hf0 hpow hws hs6 e1 hσ2 hf hσ1 hB9 hB hQ hσ hw9 hw; omega))) fun xs hxs hat => ?_⟩
      refine ForQ.mk (fun n ρ o σ' => ∃ q, ∃ v : Nat, ρ = [some .box, some (.int w), some (.int (6 : Nat)), some (.int s), some (.int (f : Nat)), some (.int (v : Nat)), q] ∧ o = none ∧ Gd σ' ∧ v < (2 ^ w) ^ n) ⟨none, 0, rfl, rfl, hσ2, by simp⟩ ?_ ?_
      · rintro n _ _ σ3 ⟨q, v, rfl, rfl, hσ3, hv⟩ hn
        rw [hxs] at hn
        refine ⟨trivial, WSs.set ?_⟩
        try simp only [orAnd,andAnd,Za,Zb,Zc,Zd,Ze,Zf,Zg,Zh,Zi,Zj,Zk,Zl,Zm,Zn,Zo,Zp,Zq,Zr,Zs,Zt,Zu,Zv,Zw,Zx,Zy,Zz,ZA,ZB,ZC,ZD,ZE,ZF,ZG,ZH,ZI,ZJ,ZK,ZL,ZM,ZN,ZO,ZP,ZQ,ZR,ZS,ZT,ZU,ZV,ZW,ZX,ZY,ZZ,Ya,Yb,Yc,Yd,Ye,Yf,Yg,Yh,Yi,Yj,Yk,Yl,Ym,Yn,Yo,Yp,Yq,Yr,Ys,Yt,Yu,Yv,Yw,Yx,Yy,Yz,YA,YB,YC,YD,YE,YF,YG,YH,YI,row₀,List.getElem?_cons_zero,List.getElem?_cons_succ,List.set_cons_zero,List.set_cons_succ,List.map_cons,List.map_nil,List.length_cons,List.length_nil,List.replicate,List.cons_append,List.nil_append,Nat.reduceAdd,Nat.reduceSub,List.mem_cons,List.not_mem_nil,or_false,forall_eq_or_imp,forall_eq,implies_true,true_and,and_true,if_true,if_false,Bool.false_eq_true,decide_eq_true_eq,Bool.not_eq_true',decide_eq_false_iff_not,Bool.not_eq_eq_eq_not,Bool.not_true,Bool.not_false,beq_self_eq_true,reduceCtorEq,beq_iff_eq,low_length,row_length,fdiv_nat,fmod_nat,two_pow,one_shl,shr,shl,and_mask,clip_nat,Int.one_mul]
        refine ⟨by (clear hn hv hσ3 hat hxs hf1 hf0 hpow hws hs6 hs e1 hσ2 hf hσ1 hd hB9 hB hQ hσ; omega), by (clear hn hv hσ3 hat hxs hf1 hf0 hpow hws hs6 hs e1 hσ2 hf hσ1 hd hB9 hB hQ hσ; omega), by decide, .inr (.inl (by rw [Int.natAbs_natCast]; (clear hn hv hσ3 hat hxs hf1 hf0 hpow hws hs6 hs e1 hσ2 hf hσ1 hd hQ hσ hw9 hw; omega))), ?_⟩
        refine ⟨by (clear hn hv hσ3 hat hxs hf1 hf0 hpow hws hs6 hs e1 hσ2 hf hσ1 hd hB9 hB hQ hσ; omega), by (clear hn hv hσ3 hat hxs hf1 hf0 hpow hws hs6 hs e1 hσ2 hf hσ1 hd hB9 hB hQ hσ; omega), by decide, ?_⟩
        refine m_take (by (clear hn hv hσ3 hat hxs hf1 hf0 hpow hws hs6 hs e1 hσ2 hf hσ1 hd hQ hσ hw9 hw; omega)) (Bd.of (n := 10) (by (clear hn hv hσ3 hat hxs hf1 hf0 hpow hws hs6 hs e1 hσ2 hf hσ1 hd hQ hσ hw9 hw; omega)) (by decide)) hσ3 fun d4 σ4 hd4 hσ4 => ?_
        refine ⟨by (clear hσ4 hd4 hn hv hσ3 hat hxs hf1 hf0 hpow hws hs6 hs e1 hσ2 hf hσ1 hd hB9 hB hQ hσ; omega), by (clear hσ4 hd4 hn hv hσ3 hat hxs hf1 hf0 hpow hws hs6 hs e1 hσ2 hf hσ1 hd hB9 hB hQ hσ; omega), by decide, ?_⟩
        refine ⟨[(d4 : Int), ((2 ^ w : Nat) : Int) - 1, 0], rfl, by simp, ?_⟩
        refine m_take (m := 3) (by decide) (Bd.of (n := 3) (by decide) (by decide)) hσ4 fun d5 σ5 hd5 hσ5 => ?_
        refine WSub_list3 hd5 fun z hz => ?_
        try simp only [orAnd,andAnd,Za,Zb,Zc,Zd,Ze,Zf,Zg,Zh,Zi,Zj,Zk,Zl,Zm,Zn,Zo,Zp,Zq,Zr,Zs,Zt,Zu,Zv,Zw,Zx,Zy,Zz,ZA,ZB,ZC,ZD,ZE,ZF,ZG,ZH,ZI,ZJ,ZK,ZL,ZM,ZN,ZO,ZP,ZQ,ZR,ZS,ZT,ZU,ZV,ZW,ZX,ZY,ZZ,Ya,Yb,Yc,Yd,Ye,Yf,Yg,Yh,Yi,Yj,Yk,Yl,Ym,Yn,Yo,Yp,Yq,Yr,Ys,Yt,Yu,Yv,Yw,Yx,Yy,Yz,YA,YB,YC,YD,YE,YF,YG,YH,YI,row₀,List.getElem?_cons_zero,List.getElem?_cons_succ,List.set_cons_zero,List.set_cons_succ,List.map_cons,List.map_nil,List.length_cons,List.length_nil,List.replicate,List.cons_append,List.nil_append,Nat.reduceAdd,Nat.reduceSub,List.mem_cons,List.not_mem_nil,or_false,forall_eq_or_imp,forall_eq,implies_true,true_and,and_true,if_true,if_false,Bool.false_eq_true,decide_eq_true_eq,Bool.not_eq_true',decide_eq_false_iff_not,Bool.not_eq_eq_eq_not,Bool.not_true,Bool.not_false,beq_self_eq_true,reduceCtorEq,beq_iff_eq,low_length,row_length,fdiv_nat,fmod_nat,two_pow,one_shl,shr,shl,and_mask,clip_nat,Int.one_mul]
        obtain ⟨u, rfl, hu⟩ : ∃ u : Nat, z = u ∧ u < 2 ^ w := by
          rcases hz with rfl | rfl | rfl
          · exact ⟨d4, rfl, hd4⟩
          · exact ⟨2 ^ w - 1, by (clear hσ5 hd5 hσ4 hd4 hn hv hσ3 hat hxs hf1 hf0 hpow hws hs6 hs e1 hσ2 hf hσ1 hd hQ hσ hw9 hw; omega), by (clear hσ5 hd5 hσ4 hd4 hn hv hσ3 hat hxs hf1 hf0 hpow hws hs6 hs e1 hσ2 hf hσ1 hd hQ hσ hw9 hw; omega)⟩
          · exact ⟨0, rfl, by (clear hσ5 hd5 hσ4 hd4 hn hv hσ3 hat hxs hf1 hf0 hpow hws hs6 hs e1 hσ2 hf hσ1 hd hQ hσ hw9 hw; omega)⟩
        refine WSs.nil ⟨some (.int (xs.getD n 0)), v * 2 ^ w + u, ?_, rfl, hσ5, ?_⟩
        · push_cast; rfl
        · rw [Nat.pow_succ]
          have : (v + 1) * 2 ^ w ≤ (2 ^ w) ^ n * 2 ^ w := Nat.mul_le_mul_right _ hv
          rw [Nat.add_mul] at this
          (clear hz hσ5 hd5 hσ4 hd4 hn hv hσ3 hat hxs hf1 hf0 hpow hws hs6 hs e1 hσ2 hf hσ1 hd hB9 hB hQ hσ hw9 hw; omega)
      · rintro _ _ σ3 ⟨q, v, rfl, rfl, hσ3, hv⟩
        rw [hxs, ← Nat.pow_mul] at hv
        refine WSs.ret ?_
        try simp only [orAnd,andAnd,Za,Zb,Zc,Zd,Ze,Zf,Zg,Zh,Zi,Zj,Zk,Zl,Zm,Zn,Zo,Zp,Zq,Zr,Zs,Zt,Zu,Zv,Zw,Zx,Zy,Zz,ZA,ZB,ZC,ZD,ZE,ZF,ZG,ZH,ZI,ZJ,ZK,ZL,ZM,ZN,ZO,ZP,ZQ,ZR,ZS,ZT,ZU,ZV,ZW,ZX,ZY,ZZ,Ya,Yb,Yc,Yd,Ye,Yf,Yg,Yh,Yi,Yj,Yk,Yl,Ym,Yn,Yo,Yp,Yq,Yr,Ys,Yt,Yu,Yv,Yw,Yx,Yy,Yz,YA,YB,YC,YD,YE,YF,YG,YH,YI,row₀,List.getElem?_cons_zero,List.getElem?_cons_succ,List.set_cons_zero,List.set_cons_succ,List.map_cons,List.map_nil,List.length_cons,List.length_nil,List.replicate,List.cons_append,List.nil_append,Nat.reduceAdd,Nat.reduceSub,List.mem_cons,List.not_mem_nil,or_false,forall_eq_or_imp,forall_eq,implies_true,true_and,and_true,if_true,if_false,Bool.false_eq_true,decide_eq_true_eq,Bool.not_eq_true',decide_eq_false_iff_not,Bool.not_eq_eq_eq_not,Bool.not_true,Bool.not_false,beq_self_eq_true,reduceCtorEq,beq_iff_eq,low_length,row_length,fdiv_nat,fmod_nat,two_pow,one_shl,shr,shl,and_mask,clip_nat,Int.one_mul]
        have := hQ (v + 1) σ3 (by (clear hv hσ3 hat hxs hf1 hf0 hpow hws hs6 hs e1 hσ2 hf hσ1 hd hB9 hB hQ hσ hw9 hw; omega)) (by (clear hσ3 hat hxs hf1 hf0 hws hs6 hs e1 hσ2 hf hσ1 hd hB9 hB hQ hσ hw9 hw; omega)) hσ3
        push_cast at this
        exact this

theorem m_shares (hw : 1 ≤ w) (hw9 : w ≤ 9) (hσ : Gd σ) (hQ : ∀ (b a : Nat) (σ' : Bx), 1 ≤ b → b ≤ 2 ^ 54 → a ≤ 2 ^ 110 → Gd σ' → Q (.pair (.int b) (.int a)) σ') : Meets W (k + 3) "_law_shares" [.box, .int w] Q σ := by
  refine meets c_law_shares rfl ?_
  refine WSs.set ?_
  try simp only [orAnd,andAnd,Za,Zb,Zc,Zd,Ze,Zf,Zg,Zh,Zi,Zj,Zk,Zl,Zm,Zn,Zo,Zp,Zq,Zr,Zs,Zt,Zu,Zv,Zw,Zx,Zy,Zz,ZA,ZB,ZC,ZD,ZE,ZF,ZG,ZH,ZI,ZJ,ZK,ZL,ZM,ZN,ZO,ZP,ZQ,ZR,ZS,ZT,ZU,ZV,ZW,ZX,ZY,ZZ,Ya,Yb,Yc,Yd,Ye,Yf,Yg,Yh,Yi,Yj,Yk,Yl,Ym,Yn,Yo,Yp,Yq,Yr,Ys,Yt,Yu,Yv,Yw,Yx,Yy,Yz,YA,YB,YC,YD,YE,YF,YG,YH,YI,row₀,List.getElem?_cons_zero,List.getElem?_cons_succ,List.set_cons_zero,List.set_cons_succ,List.map_cons,List.map_nil,List.length_cons,List.length_nil,List.replicate,List.cons_append,List.nil_append,Nat.reduceAdd,Nat.reduceSub,List.mem_cons,List.not_mem_nil,or_false,forall_eq_or_imp,forall_eq,implies_true,true_and,and_true,if_true,if_false,Bool.false_eq_true,decide_eq_true_eq,Bool.not_eq_true',decide_eq_false_iff_not,Bool.not_eq_eq_eq_not,Bool.not_true,Bool.not_false,beq_self_eq_true,reduceCtorEq,beq_iff_eq,low_length,row_length,fdiv_nat,fmod_nat,two_pow,one_shl,shr,shl,and_mask,clip_nat,Int.one_mul]
  refine m_drawn hw hw9 hσ fun b σ1 hb1 hb2 hσ1 => ?_
  refine WSs.set ?_
  try simp only [orAnd,andAnd,Za,Zb,Zc,Zd,Ze,Zf,Zg,Zh,Zi,Zj,Zk,Zl,Zm,Zn,Zo,Zp,Zq,Zr,Zs,Zt,Zu,Zv,Zw,Zx,Zy,Zz,ZA,ZB,ZC,ZD,ZE,ZF,ZG,ZH,ZI,ZJ,ZK,ZL,ZM,ZN,ZO,ZP,ZQ,ZR,ZS,ZT,ZU,ZV,ZW,ZX,ZY,ZZ,Ya,Yb,Yc,Yd,Ye,Yf,Yg,Yh,Yi,Yj,Yk,Yl,Ym,Yn,Yo,Yp,Yq,Yr,Ys,Yt,Yu,Yv,Yw,Yx,Yy,Yz,YA,YB,YC,YD,YE,YF,YG,YH,YI,row₀,List.getElem?_cons_zero,List.getElem?_cons_succ,List.set_cons_zero,List.set_cons_succ,List.map_cons,List.map_nil,List.length_cons,List.length_nil,List.replicate,List.cons_append,List.nil_append,Nat.reduceAdd,Nat.reduceSub,List.mem_cons,List.not_mem_nil,or_false,forall_eq_or_imp,forall_eq,implies_true,true_and,and_true,if_true,if_false,Bool.false_eq_true,decide_eq_true_eq,Bool.not_eq_true',decide_eq_false_iff_not,Bool.not_eq_eq_eq_not,Bool.not_true,Bool.not_false,beq_self_eq_true,reduceCtorEq,beq_iff_eq,low_length,row_length,fdiv_nat,fmod_nat,two_pow,one_shl,shr,shl,and_mask,clip_nat,Int.one_mul]
  refine m_drawn hw hw9 hσ1 fun q σ2 hq1 hq2 hσ2 => ?_
  refine WSs.set ?_
  try simp only [orAnd,andAnd,Za,Zb,Zc,Zd,Ze,Zf,Zg,Zh,Zi,Zj,Zk,Zl,Zm,Zn,Zo,Zp,Zq,Zr,Zs,Zt,Zu,Zv,Zw,Zx,Zy,Zz,ZA,ZB,ZC,ZD,ZE,ZF,ZG,ZH,ZI,ZJ,ZK,ZL,ZM,ZN,ZO,ZP,ZQ,ZR,ZS,ZT,ZU,ZV,ZW,ZX,ZY,ZZ,Ya,Yb,Yc,Yd,Ye,Yf,Yg,Yh,Yi,Yj,Yk,Yl,Ym,Yn,Yo,Yp,Yq,Yr,Ys,Yt,Yu,Yv,Yw,Yx,Yy,Yz,YA,YB,YC,YD,YE,YF,YG,YH,YI,row₀,List.getElem?_cons_zero,List.getElem?_cons_succ,List.set_cons_zero,List.set_cons_succ,List.map_cons,List.map_nil,List.length_cons,List.length_nil,List.replicate,List.cons_append,List.nil_append,Nat.reduceAdd,Nat.reduceSub,List.mem_cons,List.not_mem_nil,or_false,forall_eq_or_imp,forall_eq,implies_true,true_and,and_true,if_true,if_false,Bool.false_eq_true,decide_eq_true_eq,Bool.not_eq_true',decide_eq_false_iff_not,Bool.not_eq_eq_eq_not,Bool.not_true,Bool.not_false,beq_self_eq_true,reduceCtorEq,beq_iff_eq,low_length,row_length,fdiv_nat,fmod_nat,two_pow,one_shl,shr,shl,and_mask,clip_nat,Int.one_mul]
  refine m_take hb1 (Bd.of (n := 55) (by (clear hσ2 hq2 hq1 hσ1 hQ hσ hw9 hw; omega)) (by decide)) hσ2 fun d σ3 hd hσ3 => ?_
  refine ⟨[0, (b : Int) - 1, (d : Int)], rfl, by simp, ?_⟩
  refine m_take (m := 3) (by decide) (Bd.of (n := 3) (by decide) (by decide)) hσ3 fun d5 σ5 hd5 hσ5 => ?_
  refine WSub_list3 hd5 fun z hz => ?_
  obtain ⟨r, rfl, hr⟩ : ∃ r : Nat, z = r ∧ r < b := by
    rcases hz with rfl | rfl | rfl
    · exact ⟨0, rfl, by (clear hσ5 hd5 hσ3 hd hσ2 hq2 hq1 hσ1 hQ hσ hw9 hw; omega)⟩
    · exact ⟨b - 1, by (clear hσ5 hd5 hσ3 hd hσ2 hq2 hq1 hσ1 hQ hσ hw9 hw; omega), by (clear hσ5 hd5 hσ3 hd hσ2 hq2 hq1 hσ1 hQ hσ hw9 hw; omega)⟩
    · exact ⟨d, rfl, hd⟩
  refine WSs.ret ?_
  try simp only [orAnd,andAnd,Za,Zb,Zc,Zd,Ze,Zf,Zg,Zh,Zi,Zj,Zk,Zl,Zm,Zn,Zo,Zp,Zq,Zr,Zs,Zt,Zu,Zv,Zw,Zx,Zy,Zz,ZA,ZB,ZC,ZD,ZE,ZF,ZG,ZH,ZI,ZJ,ZK,ZL,ZM,ZN,ZO,ZP,ZQ,ZR,ZS,ZT,ZU,ZV,ZW,ZX,ZY,ZZ,Ya,Yb,Yc,Yd,Ye,Yf,Yg,Yh,Yi,Yj,Yk,Yl,Ym,Yn,Yo,Yp,Yq,Yr,Ys,Yt,Yu,Yv,Yw,Yx,Yy,Yz,YA,YB,YC,YD,YE,YF,YG,YH,YI,row₀,List.getElem?_cons_zero,List.getElem?_cons_succ,List.set_cons_zero,List.set_cons_succ,List.map_cons,List.map_nil,List.length_cons,List.length_nil,List.replicate,List.cons_append,List.nil_append,Nat.reduceAdd,Nat.reduceSub,List.mem_cons,List.not_mem_nil,or_false,forall_eq_or_imp,forall_eq,implies_true,true_and,and_true,if_true,if_false,Bool.false_eq_true,decide_eq_true_eq,Bool.not_eq_true',decide_eq_false_iff_not,Bool.not_eq_eq_eq_not,Bool.not_true,Bool.not_false,beq_self_eq_true,reduceCtorEq,beq_iff_eq,low_length,row_length,fdiv_nat,fmod_nat,two_pow,one_shl,shr,shl,and_mask,clip_nat,Int.one_mul]
  have hm : b * q ≤ 2 ^ 54 * 2 ^ 54 := Nat.mul_le_mul hb2 hq2
  refine ⟨.inl (by rw [Int.natAbs_natCast]; (clear hm hz hr hσ5 hd5 hσ3 hd hσ2 hq2 hq1 hσ1 hQ hσ hw9 hw; omega)), ?_⟩
  have := hQ b (b * q + r) σ5 hb1 hb2 (by (clear hz hσ5 hd5 hσ3 hd hσ2 hq2 hq1 hσ1 hQ hσ hw9 hw; omega)) hσ5
  push_cast at this
  exact this
end
end
section
open PySem PySem.W PyProof.Rows
set_option exponentiation.threshold 5000

noncomputable abbrev rw_ (w x : Nat) : V := .list (row (2 ^ w) x)

theorem row_one {B : Nat} (hB : 2 ≤ B) : row B 1 = [1] := by
  rw [row_of hB (n := 1) (by rw [Nat.pow_one]; omega) (.inr (by simp)), low_succ, low_zero]
  simp only [dig, Nat.pow_zero, Nat.div_one, Nat.mod_eq_of_lt (show 1 < B by omega)]
  rfl

theorem pow_bd {w n x : Nat} (hw9 : w ≤ 9) (hn : n ≤ 400) (h : x ≤ 8 * (2 ^ w) ^ n) : Bd x := by
  refine Bd.of (n := 3604) (Nat.lt_of_le_of_lt h ?_) (by decide)
  have h1 : (2 ^ w) ^ n ≤ 2 ^ 3600 := by
    rw [← Nat.pow_mul]
    exact pow_le (Nat.le_trans (Nat.mul_le_mul hw9 hn) (by decide))
  have h2 : (2 : Nat) ^ 3604 = 16 * 2 ^ 3600 := by rw [show (16 : Nat) = 2 ^ 4 by decide, ← Nat.pow_add]
  have h3 : 0 < (2 : Nat) ^ 3600 := Nat.pow_pos (by decide)
  (clear h3 h2 h hn hw9; omega)

theorem fmod_two (s : Nat) : (s : Int).fmod 2 = ((s % 2 : Nat) : Int) := fmod_nat s 2
theorem fdiv_two (s : Nat) : (s : Int).fdiv 2 = ((s / 2 : Nat) : Int) := fdiv_nat s 2
theorem two_mul' (s : Nat) : (2 : Int) * (s : Int) = ((2 * s : Nat) : Int) := by omega

/-- how a division by (quotient and rest) is told apart -/
theorem div_is {a b q r : Nat} (h : a = q * b + r) (hr : r < b) : a / b = q ∧ a % b = r := by
  have hb : 0 < b := by (clear h; omega)
  subst h
  constructor
  · rw [Nat.mul_comm, Nat.mul_add_div hb, Nat.div_eq_of_lt hr, Nat.add_zero]
  · rw [Nat.mul_comm, Nat.mul_add_mod, Nat.mod_eq_of_lt hr]

section
variable {W : Wd} {w : Nat} {σ : Bx}

noncomputable def TwoOk (W : Wd) (w k size : Nat) : Prop := ∀ (Q : V → Bx → Prop) (σ : Bx) (least a b : Nat), (2 ^ w) ^ size ≤ 2 * b → b < (2 ^ w) ^ size → a < b * (2 ^ w) ^ size → Q (.pair (rw_ w (a / b)) (rw_ w (a % b))) σ →
  Meets W k "two_halves" [rw_ w a, rw_ w b, .int size, .int w, .int least, .fn "_law_times", .fn "_law_parts"] Q σ

theorem three_tail {k half least a b q r : Nat} {ρ : Row} {Q : PS} {x1 x2 : V} {z : Option V} (hw : 1 ≤ w) (hw9 : w ≤ 9) (hh : half ≤ 100)
    (hb : b < (2 ^ w) ^ (2 * half)) (_ha : a < b * (2 ^ w) ^ half) (hq : q < (2 ^ w) ^ half) (e : a / (2 ^ w) ^ half = q * (b / (2 ^ w) ^ half) + r) (hqq : a < (q + 1) * b)
    (hρ : ρ = [some (rw_ w a), some (rw_ w b), some (.int half), some (.int w), some (.int least), some (.fn "_law_times"), some (.fn "_law_parts"), some (rw_ w (b % (2 ^ w) ^ half)), some x1, some x2, some (rw_ w q), some (rw_ w r), z])
    (hQ : ∀ ρ o, Q (.ret (.pair (rw_ w (a / b)) (rw_ w (a % b)))) ρ o σ) : WSs W (k + 4) (tl (tl (tl b_three_halves))) Q ρ none σ := by
  have hB := w_pow hw
  subst hρ
  unfold b_three_halves rw_
  simp only [tl]
  have e2 : (2 ^ w) ^ (2 * half) = (2 ^ w) ^ half * (2 ^ w) ^ half := by rw [← Nat.pow_add]; congr 1; (clear hB hQ hqq e hq _ha hb hh hw9 hw; omega)
  have hP : 0 < (2 ^ w) ^ half := Nat.pow_pos (by (clear e2 hQ hqq e hq _ha hb hh hw9 hw; omega))
  have pb : ∀ {x : Nat}, x ≤ 8 * ((2 ^ w) ^ half * (2 ^ w) ^ half) → Bd x := fun {x} h => pow_bd hw9 (n := 2 * half) (by (clear h hP e2 hB hQ hqq e hq _ha hb hw9 hw; omega)) (by rw [e2]; exact h)
  have hPP : (2 ^ w) ^ half ≤ (2 ^ w) ^ half * (2 ^ w) ^ half := Nat.le_mul_of_pos_left _ hP
  rw [e2] at hb
  have da := Nat.div_add_mod a ((2 ^ w) ^ half)
  have db := Nat.div_add_mod b ((2 ^ w) ^ half)
  have ml := Nat.mod_lt b hP
  generalize hPe : (2 ^ w) ^ half = P at *
  have key : a + q * (b % P) = q * b + (r * P + a % P) := by
    have h1 : q * b = q * (P * (b / P)) + q * (b % P) := by rw [← Nat.mul_add, db]
    have h2 : a = P * (q * (b / P) + r) + a % P := by rw [← e]; exact da.symm
    grind
  have hwant : q * (b % P) ≤ P * P := Nat.mul_le_mul (by (clear key ml db da hPP pb hP e2 e _ha hb hPe hB hQ hqq hh hw9 hw; omega)) (by (clear key db da hPP pb hP e2 e hq _ha hb hPe hB hQ hqq hh hw9 hw; omega))
  have hR : r * P + a % P < q * (b % P) + b := by
    rw [Nat.succ_mul] at hqq; (clear hwant ml hPP pb hP e2 e hq _ha hb hPe hB hQ hh hw9 hw; omega)
  have hrP : r ≤ r * P := Nat.le_mul_of_pos_right _ hP
  refine WSs.set ?_
  try simp only [orAnd,andAnd,Za,Zb,Zc,Zd,Ze,Zf,Zg,Zh,Zi,Zj,Zk,Zl,Zm,Zn,Zo,Zp,Zq,Zr,Zs,Zt,Zu,Zv,Zw,Zx,Zy,Zz,ZA,ZB,ZC,ZD,ZE,ZF,ZG,ZH,ZI,ZJ,ZK,ZL,ZM,ZN,ZO,ZP,ZQ,ZR,ZS,ZT,ZU,ZV,ZW,ZX,ZY,ZZ,Ya,Yb,Yc,Yd,Ye,Yf,Yg,Yh,Yi,Yj,Yk,Yl,Ym,Yn,Yo,Yp,Yq,Yr,Ys,Yt,Yu,Yv,Yw,Yx,Yy,Yz,YA,YB,YC,YD,YE,YF,YG,YH,YI,row₀,List.getElem?_cons_zero,List.getElem?_cons_succ,List.set_cons_zero,List.set_cons_succ,List.map_cons,List.map_nil,List.length_cons,List.length_nil,List.replicate,List.cons_append,List.nil_append,Nat.reduceAdd,Nat.reduceSub,List.mem_cons,List.not_mem_nil,or_false,forall_eq_or_imp,forall_eq,implies_true,true_and,and_true,if_true,if_false,Bool.false_eq_true,decide_eq_true_eq,Bool.not_eq_true',decide_eq_false_iff_not,Bool.not_eq_eq_eq_not,Bool.not_true,Bool.not_false,beq_self_eq_true,reduceCtorEq,beq_iff_eq,low_length,row_length,fdiv_nat,fmod_nat,two_pow,one_shl,shr,shl,and_mask,clip_nat,Int.one_mul]
  refine m_law_times hw hw9 (pb (by (clear hrP hR hwant key ml db da pb hP e _ha hb hPe hB hQ hqq hh hw9 hw; omega))) (pb (by (clear hrP hR hwant key da pb hP e hq _ha hPe hB hQ hqq hh hw9 hw; omega))) (pb (by (clear hrP hR key ml db da hPP pb hP e hq _ha hb hPe hB hQ hqq hh hw9 hw; omega))) ?_
  refine WSs.set ?_
  try simp only [orAnd,andAnd,Za,Zb,Zc,Zd,Ze,Zf,Zg,Zh,Zi,Zj,Zk,Zl,Zm,Zn,Zo,Zp,Zq,Zr,Zs,Zt,Zu,Zv,Zw,Zx,Zy,Zz,ZA,ZB,ZC,ZD,ZE,ZF,ZG,ZH,ZI,ZJ,ZK,ZL,ZM,ZN,ZO,ZP,ZQ,ZR,ZS,ZT,ZU,ZV,ZW,ZX,ZY,ZZ,Ya,Yb,Yc,Yd,Ye,Yf,Yg,Yh,Yi,Yj,Yk,Yl,Ym,Yn,Yo,Yp,Yq,Yr,Ys,Yt,Yu,Yv,Yw,Yx,Yy,Yz,YA,YB,YC,YD,YE,YF,YG,YH,YI,row₀,List.getElem?_cons_zero,List.getElem?_cons_succ,List.set_cons_zero,List.set_cons_succ,List.map_cons,List.map_nil,List.length_cons,List.length_nil,List.replicate,List.cons_append,List.nil_append,Nat.reduceAdd,Nat.reduceSub,List.mem_cons,List.not_mem_nil,or_false,forall_eq_or_imp,forall_eq,implies_true,true_and,and_true,if_true,if_false,Bool.false_eq_true,decide_eq_true_eq,Bool.not_eq_true',decide_eq_false_iff_not,Bool.not_eq_eq_eq_not,Bool.not_true,Bool.not_false,beq_self_eq_true,reduceCtorEq,beq_iff_eq,low_length,row_length,fdiv_nat,fmod_nat,two_pow,one_shl,shr,shl,and_mask,clip_nat,Int.one_mul]
  refine m_lifted hB (pb (by (clear key ml da hPP pb hP e hq _ha hPe hB hQ hqq hh hw9 hw; omega))) (by (clear hrP hR hwant key ml db da hPP pb hP e2 e hq _ha hb hPe hB hQ hqq hw9 hw; omega)) ?_
  refine m_lowest hB ?_
  rw [hPe]
  refine m_add hw hw9 (pb (by (clear hrP key ml da hPP pb hP e hq _ha hPe hB hQ hqq hh hw9 hw; omega))) (pb (by have := Nat.mod_lt a hP; (clear this hrP key ml da hPP pb hP e hq _ha hPe hB hQ hqq hh hw9 hw; omega))) ?_
  generalize r * P + a % P = R at *
  generalize q * (b % P) = V at *
  refine WSs.whl (fun m ρ o σ' => ∃ R : Nat, ρ = [some (rw_ w a), some (rw_ w b), some (.int half), some (.int w), some (.int least), some (.fn "_law_times"), some (.fn "_law_parts"), some (rw_ w (b % P)), some x1, some x2, some (rw_ w m), some (rw_ w R), some (rw_ w V)] ∧ o = none ∧ σ = σ' ∧
    m < P ∧ a + V = m * b + R ∧ R < V + b) ⟨q, R, rfl, rfl, rfl, hq, key, hR⟩ ?_
  rintro m _ _ _ ⟨R, rfl, rfl, rfl, hm, i1, i2⟩
  unfold rw_
  try simp only [orAnd,andAnd,Za,Zb,Zc,Zd,Ze,Zf,Zg,Zh,Zi,Zj,Zk,Zl,Zm,Zn,Zo,Zp,Zq,Zr,Zs,Zt,Zu,Zv,Zw,Zx,Zy,Zz,ZA,ZB,ZC,ZD,ZE,ZF,ZG,ZH,ZI,ZJ,ZK,ZL,ZM,ZN,ZO,ZP,ZQ,ZR,ZS,ZT,ZU,ZV,ZW,ZX,ZY,ZZ,Ya,Yb,Yc,Yd,Ye,Yf,Yg,Yh,Yi,Yj,Yk,Yl,Ym,Yn,Yo,Yp,Yq,Yr,Ys,Yt,Yu,Yv,Yw,Yx,Yy,Yz,YA,YB,YC,YD,YE,YF,YG,YH,YI,row₀,List.getElem?_cons_zero,List.getElem?_cons_succ,List.set_cons_zero,List.set_cons_succ,List.map_cons,List.map_nil,List.length_cons,List.length_nil,List.replicate,List.cons_append,List.nil_append,Nat.reduceAdd,Nat.reduceSub,List.mem_cons,List.not_mem_nil,or_false,forall_eq_or_imp,forall_eq,implies_true,true_and,and_true,if_true,if_false,Bool.false_eq_true,decide_eq_true_eq,Bool.not_eq_true',decide_eq_false_iff_not,Bool.not_eq_eq_eq_not,Bool.not_true,Bool.not_false,beq_self_eq_true,reduceCtorEq,beq_iff_eq,low_length,row_length,fdiv_nat,fmod_nat,two_pow,one_shl,shr,shl,and_mask,clip_nat,Int.one_mul]
  refine m_compare hB (pb (by (clear i1 hm hR key hrP ml da hPP pb hP e hq _ha hPe hB hQ hqq hh hw9 hw; omega))) (pb (by (clear i2 i1 hm hR key hrP ml db da hPP pb hP e hq _ha hb hPe hB hQ hqq hh hw9 hw; omega))) ?_
  try simp only [orAnd,andAnd,Za,Zb,Zc,Zd,Ze,Zf,Zg,Zh,Zi,Zj,Zk,Zl,Zm,Zn,Zo,Zp,Zq,Zr,Zs,Zt,Zu,Zv,Zw,Zx,Zy,Zz,ZA,ZB,ZC,ZD,ZE,ZF,ZG,ZH,ZI,ZJ,ZK,ZL,ZM,ZN,ZO,ZP,ZQ,ZR,ZS,ZT,ZU,ZV,ZW,ZX,ZY,ZZ,Ya,Yb,Yc,Yd,Ye,Yf,Yg,Yh,Yi,Yj,Yk,Yl,Ym,Yn,Yo,Yp,Yq,Yr,Ys,Yt,Yu,Yv,Yw,Yx,Yy,Yz,YA,YB,YC,YD,YE,YF,YG,YH,YI,row₀,List.getElem?_cons_zero,List.getElem?_cons_succ,List.set_cons_zero,List.set_cons_succ,List.map_cons,List.map_nil,List.length_cons,List.length_nil,List.replicate,List.cons_append,List.nil_append,Nat.reduceAdd,Nat.reduceSub,List.mem_cons,List.not_mem_nil,or_false,forall_eq_or_imp,forall_eq,implies_true,true_and,and_true,if_true,if_false,Bool.false_eq_true,decide_eq_true_eq,Bool.not_eq_true',decide_eq_false_iff_not,Bool.not_eq_eq_eq_not,Bool.not_true,Bool.not_false,beq_self_eq_true,reduceCtorEq,beq_iff_eq,low_length,row_length,fdiv_nat,fmod_nat,two_pow,one_shl,shr,shl,and_mask,clip_nat,Int.one_mul]
  by_cases hc : R < V
  · rw [if_pos (by rw [cmp3_lt]; (clear i2 i1 hm hR key hwant hrP ml db da hPP pb hP e2 e hq _ha hb hPe hB hQ hqq hh hw9 hw; omega))]
    obtain ⟨m', rfl⟩ : ∃ m', m = m' + 1 := by
      rcases m with _ | m'
      · rw [Nat.zero_mul] at i1; (clear hm i2 hR hwant hrP ml db hPP pb hP e2 e hq _ha hb hPe hB hQ hqq hh hw9 hw; omega)
      · exact ⟨m', rfl⟩
    refine WSs.set ?_
    try simp only [orAnd,andAnd,Za,Zb,Zc,Zd,Ze,Zf,Zg,Zh,Zi,Zj,Zk,Zl,Zm,Zn,Zo,Zp,Zq,Zr,Zs,Zt,Zu,Zv,Zw,Zx,Zy,Zz,ZA,ZB,ZC,ZD,ZE,ZF,ZG,ZH,ZI,ZJ,ZK,ZL,ZM,ZN,ZO,ZP,ZQ,ZR,ZS,ZT,ZU,ZV,ZW,ZX,ZY,ZZ,Ya,Yb,Yc,Yd,Ye,Yf,Yg,Yh,Yi,Yj,Yk,Yl,Ym,Yn,Yo,Yp,Yq,Yr,Ys,Yt,Yu,Yv,Yw,Yx,Yy,Yz,YA,YB,YC,YD,YE,YF,YG,YH,YI,row₀,List.getElem?_cons_zero,List.getElem?_cons_succ,List.set_cons_zero,List.set_cons_succ,List.map_cons,List.map_nil,List.length_cons,List.length_nil,List.replicate,List.cons_append,List.nil_append,Nat.reduceAdd,Nat.reduceSub,List.mem_cons,List.not_mem_nil,or_false,forall_eq_or_imp,forall_eq,implies_true,true_and,and_true,if_true,if_false,Bool.false_eq_true,decide_eq_true_eq,Bool.not_eq_true',decide_eq_false_iff_not,Bool.not_eq_eq_eq_not,Bool.not_true,Bool.not_false,beq_self_eq_true,reduceCtorEq,beq_iff_eq,low_length,row_length,fdiv_nat,fmod_nat,two_pow,one_shl,shr,shl,and_mask,clip_nat,Int.one_mul]
    refine m_add hw hw9 (pb (by (clear i1 hm hc hR key hrP ml da hPP pb hP e hq _ha hPe hB hQ hqq hh hw9 hw; omega))) (pb (by (clear i1 hm hc i2 hR key hwant hrP ml da hPP pb hP e hq _ha hPe hB hQ hqq hh hw9 hw; omega))) ?_
    refine WSs.set ?_
    try simp only [orAnd,andAnd,Za,Zb,Zc,Zd,Ze,Zf,Zg,Zh,Zi,Zj,Zk,Zl,Zm,Zn,Zo,Zp,Zq,Zr,Zs,Zt,Zu,Zv,Zw,Zx,Zy,Zz,ZA,ZB,ZC,ZD,ZE,ZF,ZG,ZH,ZI,ZJ,ZK,ZL,ZM,ZN,ZO,ZP,ZQ,ZR,ZS,ZT,ZU,ZV,ZW,ZX,ZY,ZZ,Ya,Yb,Yc,Yd,Ye,Yf,Yg,Yh,Yi,Yj,Yk,Yl,Ym,Yn,Yo,Yp,Yq,Yr,Ys,Yt,Yu,Yv,Yw,Yx,Yy,Yz,YA,YB,YC,YD,YE,YF,YG,YH,YI,row₀,List.getElem?_cons_zero,List.getElem?_cons_succ,List.set_cons_zero,List.set_cons_succ,List.map_cons,List.map_nil,List.length_cons,List.length_nil,List.replicate,List.cons_append,List.nil_append,Nat.reduceAdd,Nat.reduceSub,List.mem_cons,List.not_mem_nil,or_false,forall_eq_or_imp,forall_eq,implies_true,true_and,and_true,if_true,if_false,Bool.false_eq_true,decide_eq_true_eq,Bool.not_eq_true',decide_eq_false_iff_not,Bool.not_eq_eq_eq_not,Bool.not_true,Bool.not_false,beq_self_eq_true,reduceCtorEq,beq_iff_eq,low_length,row_length,fdiv_nat,fmod_nat,two_pow,one_shl,shr,shl,and_mask,clip_nat,Int.one_mul]
    refine ⟨[1], rfl, by decide, ?_⟩
    rw [← row_one hB]
    refine m_sub hw hw9 (pb (by (clear i1 hc i2 hR key hwant hrP ml db da pb hP e hq _ha hb hPe hB hQ hqq hh hw9 hw; omega))) (by (clear i1 hm hc i2 hR key hwant hrP ml db da hPP pb hP e2 e hq _ha hb hPe hB hQ hqq hh hw9 hw; omega)) ?_
    refine WSs.nil ⟨m', by (clear i1 hm hc i2 hR key hwant hrP ml db da hPP pb hP e2 e hq _ha hb hPe hB hQ hqq hh hw9 hw; omega), R + b, rfl, rfl, rfl, by (clear i1 hc i2 hR key hwant hrP ml db da hPP pb hP e2 e hq _ha hb hPe hB hQ hqq hh hw9 hw; omega), ?_, by (clear i1 hm i2 hR key hwant hrP ml db da hPP pb hP e2 e hq _ha hb hPe hB hQ hqq hh hw9 hw; omega)⟩
    rw [Nat.succ_mul] at i1
    (clear hm hc i2 hR hwant hrP ml hPP pb hP e2 e hq _ha hb hPe hB hQ hqq hh hw9 hw; omega)
  · rw [if_neg (by rw [cmp3_lt]; (clear i2 i1 hm hR key hwant hrP ml db da hPP pb hP e2 e hq _ha hb hPe hB hQ hqq hh hw9 hw; omega))]
    refine WSs.ret ?_
    try simp only [orAnd,andAnd,Za,Zb,Zc,Zd,Ze,Zf,Zg,Zh,Zi,Zj,Zk,Zl,Zm,Zn,Zo,Zp,Zq,Zr,Zs,Zt,Zu,Zv,Zw,Zx,Zy,Zz,ZA,ZB,ZC,ZD,ZE,ZF,ZG,ZH,ZI,ZJ,ZK,ZL,ZM,ZN,ZO,ZP,ZQ,ZR,ZS,ZT,ZU,ZV,ZW,ZX,ZY,ZZ,Ya,Yb,Yc,Yd,Ye,Yf,Yg,Yh,Yi,Yj,Yk,Yl,Ym,Yn,Yo,Yp,Yq,Yr,Ys,Yt,Yu,Yv,Yw,Yx,Yy,Yz,YA,YB,YC,YD,YE,YF,YG,YH,YI,row₀,List.getElem?_cons_zero,List.getElem?_cons_succ,List.set_cons_zero,List.set_cons_succ,List.map_cons,List.map_nil,List.length_cons,List.length_nil,List.replicate,List.cons_append,List.nil_append,Nat.reduceAdd,Nat.reduceSub,List.mem_cons,List.not_mem_nil,or_false,forall_eq_or_imp,forall_eq,implies_true,true_and,and_true,if_true,if_false,Bool.false_eq_true,decide_eq_true_eq,Bool.not_eq_true',decide_eq_false_iff_not,Bool.not_eq_eq_eq_not,Bool.not_true,Bool.not_false,beq_self_eq_true,reduceCtorEq,beq_iff_eq,low_length,row_length,fdiv_nat,fmod_nat,two_pow,one_shl,shr,shl,and_mask,clip_nat,Int.one_mul]
    refine m_sub hw hw9 (pb (by (clear i1 hm hR key hrP ml da hPP pb hP e hq _ha hPe hB hQ hqq hh hw9 hw; omega))) (by (clear i2 i1 hm hR key hwant hrP ml db da hPP pb hP e2 e hq _ha hb hPe hB hQ hqq hh hw9 hw; omega)) ?_
    have hd := div_is (a := a) (b := b) (q := m) (r := R - V) (by (clear i2 hm hR hwant hrP ml db hPP pb hP e2 e hq _ha hb hPe hB hQ hqq hh hw9 hw; omega)) (by (clear i1 hm hR key hwant hrP ml da hPP pb hP e2 e hq _ha hb hPe hB hQ hqq hh hw9 hw; omega))
    have := hQ
    rw [hd.1, hd.2] at this
    exact this _ _

theorem three_ok {k half least a b : Nat} {Q : V → Bx → Prop} (hw : 1 ≤ w) (hw9 : w ≤ 9) (hh : half ≤ 100) (h2 : TwoOk W w (k + 4) half)
    (b1 : (2 ^ w) ^ (2 * half) ≤ 2 * b) (b2 : b < (2 ^ w) ^ (2 * half)) (ha : a < b * (2 ^ w) ^ half) (hQ : Q (.pair (rw_ w (a / b)) (rw_ w (a % b))) σ) :
    Meets W (k + 5) "three_halves" [rw_ w a, rw_ w b, .int half, .int w, .int least, .fn "_law_times", .fn "_law_parts"] Q σ := by
  have hB := w_pow hw
  refine meets c_three_halves rfl ?_
  have e2 : (2 ^ w) ^ (2 * half) = (2 ^ w) ^ half * (2 ^ w) ^ half := by rw [← Nat.pow_add]; congr 1; (clear hB hQ ha b2 b1 h2 hh hw9 hw; omega)
  have hP : 0 < (2 ^ w) ^ half := Nat.pow_pos (by (clear e2 hQ ha b2 b1 h2 hh hw9 hw; omega))
  have e3 : (2 ^ w) ^ (3 * half) = (2 ^ w) ^ half * (2 ^ w) ^ half * (2 ^ w) ^ half := by rw [← Nat.pow_add, ← Nat.pow_add]; congr 1; (clear hP e2 hB hQ ha b2 b1 h2 hh hw9 hw; omega)
  have pb : ∀ {x : Nat}, x ≤ 8 * ((2 ^ w) ^ half * (2 ^ w) ^ half * (2 ^ w) ^ half) → Bd x := fun {x} h => pow_bd hw9 (n := 3 * half) (by (clear h e3 hP e2 hB hQ ha b2 b1 h2 hw9 hw; omega)) (by rw [e3]; exact h)
  have hb' := b2
  rw [e2] at b1 b2
  have tail := @three_tail W w σ
  have ha' := ha
  have h3 : b * (2 ^ w) ^ half ≤ (2 ^ w) ^ half * (2 ^ w) ^ half * (2 ^ w) ^ half := Nat.mul_le_mul_right _ (by (clear ha' tail hb' pb e3 hP hB hQ ha b1 h2 hh hw9 hw; omega))
  have hPP : (2 ^ w) ^ half ≤ (2 ^ w) ^ half * (2 ^ w) ^ half := Nat.le_mul_of_pos_left _ hP
  have hPPP : (2 ^ w) ^ half * (2 ^ w) ^ half ≤ (2 ^ w) ^ half * (2 ^ w) ^ half * (2 ^ w) ^ half := Nat.le_mul_of_pos_right _ hP
  have da := Nat.div_add_mod a ((2 ^ w) ^ half)
  have db := Nat.div_add_mod b ((2 ^ w) ^ half)
  have ml := Nat.mod_lt b hP
  have al := Nat.mod_lt a hP
  have dla := Nat.div_le_self a ((2 ^ w) ^ half)
  have dlb := Nat.div_le_self b ((2 ^ w) ^ half)
  refine WSs.two ?_
  try simp only [orAnd,andAnd,Za,Zb,Zc,Zd,Ze,Zf,Zg,Zh,Zi,Zj,Zk,Zl,Zm,Zn,Zo,Zp,Zq,Zr,Zs,Zt,Zu,Zv,Zw,Zx,Zy,Zz,ZA,ZB,ZC,ZD,ZE,ZF,ZG,ZH,ZI,ZJ,ZK,ZL,ZM,ZN,ZO,ZP,ZQ,ZR,ZS,ZT,ZU,ZV,ZW,ZX,ZY,ZZ,Ya,Yb,Yc,Yd,Ye,Yf,Yg,Yh,Yi,Yj,Yk,Yl,Ym,Yn,Yo,Yp,Yq,Yr,Ys,Yt,Yu,Yv,Yw,Yx,Yy,Yz,YA,YB,YC,YD,YE,YF,YG,YH,YI,row₀,List.getElem?_cons_zero,List.getElem?_cons_succ,List.set_cons_zero,List.set_cons_succ,List.map_cons,List.map_nil,List.length_cons,List.length_nil,List.replicate,List.cons_append,List.nil_append,Nat.reduceAdd,Nat.reduceSub,List.mem_cons,List.not_mem_nil,or_false,forall_eq_or_imp,forall_eq,implies_true,true_and,and_true,if_true,if_false,Bool.false_eq_true,decide_eq_true_eq,Bool.not_eq_true',decide_eq_false_iff_not,Bool.not_eq_eq_eq_not,Bool.not_true,Bool.not_false,beq_self_eq_true,reduceCtorEq,beq_iff_eq,low_length,row_length,fdiv_nat,fmod_nat,two_pow,one_shl,shr,shl,and_mask,clip_nat,Int.one_mul]
  refine m_split hB ?_
  unfold rw_
  try simp only [orAnd,andAnd,Za,Zb,Zc,Zd,Ze,Zf,Zg,Zh,Zi,Zj,Zk,Zl,Zm,Zn,Zo,Zp,Zq,Zr,Zs,Zt,Zu,Zv,Zw,Zx,Zy,Zz,ZA,ZB,ZC,ZD,ZE,ZF,ZG,ZH,ZI,ZJ,ZK,ZL,ZM,ZN,ZO,ZP,ZQ,ZR,ZS,ZT,ZU,ZV,ZW,ZX,ZY,ZZ,Ya,Yb,Yc,Yd,Ye,Yf,Yg,Yh,Yi,Yj,Yk,Yl,Ym,Yn,Yo,Yp,Yq,Yr,Ys,Yt,Yu,Yv,Yw,Yx,Yy,Yz,YA,YB,YC,YD,YE,YF,YG,YH,YI,row₀,List.getElem?_cons_zero,List.getElem?_cons_succ,List.set_cons_zero,List.set_cons_succ,List.map_cons,List.map_nil,List.length_cons,List.length_nil,List.replicate,List.cons_append,List.nil_append,Nat.reduceAdd,Nat.reduceSub,List.mem_cons,List.not_mem_nil,or_false,forall_eq_or_imp,forall_eq,implies_true,true_and,and_true,if_true,if_false,Bool.false_eq_true,decide_eq_true_eq,Bool.not_eq_true',decide_eq_false_iff_not,Bool.not_eq_eq_eq_not,Bool.not_true,Bool.not_false,beq_self_eq_true,reduceCtorEq,beq_iff_eq,low_length,row_length,fdiv_nat,fmod_nat,two_pow,one_shl,shr,shl,and_mask,clip_nat,Int.one_mul]
  refine WSs.set ?_
  try simp only [orAnd,andAnd,Za,Zb,Zc,Zd,Ze,Zf,Zg,Zh,Zi,Zj,Zk,Zl,Zm,Zn,Zo,Zp,Zq,Zr,Zs,Zt,Zu,Zv,Zw,Zx,Zy,Zz,ZA,ZB,ZC,ZD,ZE,ZF,ZG,ZH,ZI,ZJ,ZK,ZL,ZM,ZN,ZO,ZP,ZQ,ZR,ZS,ZT,ZU,ZV,ZW,ZX,ZY,ZZ,Ya,Yb,Yc,Yd,Ye,Yf,Yg,Yh,Yi,Yj,Yk,Yl,Ym,Yn,Yo,Yp,Yq,Yr,Ys,Yt,Yu,Yv,Yw,Yx,Yy,Yz,YA,YB,YC,YD,YE,YF,YG,YH,YI,row₀,List.getElem?_cons_zero,List.getElem?_cons_succ,List.set_cons_zero,List.set_cons_succ,List.map_cons,List.map_nil,List.length_cons,List.length_nil,List.replicate,List.cons_append,List.nil_append,Nat.reduceAdd,Nat.reduceSub,List.mem_cons,List.not_mem_nil,or_false,forall_eq_or_imp,forall_eq,implies_true,true_and,and_true,if_true,if_false,Bool.false_eq_true,decide_eq_true_eq,Bool.not_eq_true',decide_eq_false_iff_not,Bool.not_eq_eq_eq_not,Bool.not_true,Bool.not_false,beq_self_eq_true,reduceCtorEq,beq_iff_eq,low_length,row_length,fdiv_nat,fmod_nat,two_pow,one_shl,shr,shl,and_mask,clip_nat,Int.one_mul]
  refine m_down hB ?_
  refine WSs.ite ?_
  try simp only [orAnd,andAnd,Za,Zb,Zc,Zd,Ze,Zf,Zg,Zh,Zi,Zj,Zk,Zl,Zm,Zn,Zo,Zp,Zq,Zr,Zs,Zt,Zu,Zv,Zw,Zx,Zy,Zz,ZA,ZB,ZC,ZD,ZE,ZF,ZG,ZH,ZI,ZJ,ZK,ZL,ZM,ZN,ZO,ZP,ZQ,ZR,ZS,ZT,ZU,ZV,ZW,ZX,ZY,ZZ,Ya,Yb,Yc,Yd,Ye,Yf,Yg,Yh,Yi,Yj,Yk,Yl,Ym,Yn,Yo,Yp,Yq,Yr,Ys,Yt,Yu,Yv,Yw,Yx,Yy,Yz,YA,YB,YC,YD,YE,YF,YG,YH,YI,row₀,List.getElem?_cons_zero,List.getElem?_cons_succ,List.set_cons_zero,List.set_cons_succ,List.map_cons,List.map_nil,List.length_cons,List.length_nil,List.replicate,List.cons_append,List.nil_append,Nat.reduceAdd,Nat.reduceSub,List.mem_cons,List.not_mem_nil,or_false,forall_eq_or_imp,forall_eq,implies_true,true_and,and_true,if_true,if_false,Bool.false_eq_true,decide_eq_true_eq,Bool.not_eq_true',decide_eq_false_iff_not,Bool.not_eq_eq_eq_not,Bool.not_true,Bool.not_false,beq_self_eq_true,reduceCtorEq,beq_iff_eq,low_length,row_length,fdiv_nat,fmod_nat,two_pow,one_shl,shr,shl,and_mask,clip_nat,Int.one_mul]
  refine ⟨.inl (by decide), ?_⟩
  rw [two_mul']
  refine m_down hB ?_
  refine m_compare hB (pb (by have := Nat.div_le_self a ((2 ^ w) ^ (2 * half)); (clear dlb dla al ml db hPPP hPP ha' tail hb' pb hP e2 hB hQ b2 b1 h2 hh hw9 hw; omega))) (pb (by (clear dla al ml hPP ha' tail hb' pb e3 hP hB hQ b1 h2 hh hw9 hw; omega))) ?_
  try simp only [orAnd,andAnd,Za,Zb,Zc,Zd,Ze,Zf,Zg,Zh,Zi,Zj,Zk,Zl,Zm,Zn,Zo,Zp,Zq,Zr,Zs,Zt,Zu,Zv,Zw,Zx,Zy,Zz,ZA,ZB,ZC,ZD,ZE,ZF,ZG,ZH,ZI,ZJ,ZK,ZL,ZM,ZN,ZO,ZP,ZQ,ZR,ZS,ZT,ZU,ZV,ZW,ZX,ZY,ZZ,Ya,Yb,Yc,Yd,Ye,Yf,Yg,Yh,Yi,Yj,Yk,Yl,Ym,Yn,Yo,Yp,Yq,Yr,Ys,Yt,Yu,Yv,Yw,Yx,Yy,Yz,YA,YB,YC,YD,YE,YF,YG,YH,YI,row₀,List.getElem?_cons_zero,List.getElem?_cons_succ,List.set_cons_zero,List.set_cons_succ,List.map_cons,List.map_nil,List.length_cons,List.length_nil,List.replicate,List.cons_append,List.nil_append,Nat.reduceAdd,Nat.reduceSub,List.mem_cons,List.not_mem_nil,or_false,forall_eq_or_imp,forall_eq,implies_true,true_and,and_true,if_true,if_false,Bool.false_eq_true,decide_eq_true_eq,Bool.not_eq_true',decide_eq_false_iff_not,Bool.not_eq_eq_eq_not,Bool.not_true,Bool.not_false,beq_self_eq_true,reduceCtorEq,beq_iff_eq,low_length,row_length,fdiv_nat,fmod_nat,two_pow,one_shl,shr,shl,and_mask,clip_nat,Int.one_mul]
  have bh1 : (2 ^ w) ^ half ≤ 2 * (b / (2 ^ w) ^ half) := by
    have h4 : (2 ^ w) ^ half * (2 ^ w) ^ half < (2 ^ w) ^ half * (2 * (b / (2 ^ w) ^ half) + 2) := by
      rw [Nat.mul_add]
      have : (2 ^ w) ^ half * (2 * (b / (2 ^ w) ^ half)) = 2 * ((2 ^ w) ^ half * (b / (2 ^ w) ^ half)) := by grind
      (clear dlb dla al da hPPP hPP h3 ha' tail hb' pb e3 hP hB hQ ha b2 h2 hh hw9 hw; omega)
    have h5 := Nat.lt_of_mul_lt_mul_left h4
    rcases Nat.eq_zero_or_pos half with q | q
    · subst q
      have b3 : b = 0 ∨ 1 ≤ b := by (clear h5 h4 dlb dla al ml da hPPP hPP h3 ha' hb' pb e3 hP ha h2 hh tail hB hQ hw9 hw; omega)
      rw [Nat.pow_zero] at *
      (clear b3 h5 h4 dlb dla al ml db da hPPP hPP h3 ha' hb' pb e3 hP e2 ha h2 hh tail hB hQ hw9 hw; omega)
    · have ev : 2 ∣ (2 ^ w) ^ half := by
        rw [← Nat.pow_mul]
        have : 0 < w * half := Nat.mul_pos hw q
        exact ⟨2 ^ (w * half - 1), by rw [← Nat.pow_succ']; congr 1; (clear q h5 h4 dlb dla al ml db da hPPP hPP h3 ha' tail hb' pb e3 hP e2 hB hQ ha b2 b1 h2 hh hw9 hw; omega)⟩
      (clear q h4 dlb dla al ml db da hPPP hPP h3 ha' tail hb' pb e3 hP e2 hB hQ ha b2 b1 h2 hh hw9 hw; omega)
  have bh2 : b / (2 ^ w) ^ half < (2 ^ w) ^ half := (Nat.div_lt_iff_lt_mul hP).mpr b2
  by_cases hc : a / (2 ^ w) ^ half / (2 ^ w) ^ half < b / (2 ^ w) ^ half
  · rw [if_pos (by rw [cmp3_lt, e2, ← Nat.div_div_eq_div_mul]; exact hc)]
    have hah : a / (2 ^ w) ^ half < b / (2 ^ w) ^ half * (2 ^ w) ^ half := (Nat.div_lt_iff_lt_mul hP).mp hc
    refine WSs.two ?_
    try simp only [orAnd,andAnd,Za,Zb,Zc,Zd,Ze,Zf,Zg,Zh,Zi,Zj,Zk,Zl,Zm,Zn,Zo,Zp,Zq,Zr,Zs,Zt,Zu,Zv,Zw,Zx,Zy,Zz,ZA,ZB,ZC,ZD,ZE,ZF,ZG,ZH,ZI,ZJ,ZK,ZL,ZM,ZN,ZO,ZP,ZQ,ZR,ZS,ZT,ZU,ZV,ZW,ZX,ZY,ZZ,Ya,Yb,Yc,Yd,Ye,Yf,Yg,Yh,Yi,Yj,Yk,Yl,Ym,Yn,Yo,Yp,Yq,Yr,Ys,Yt,Yu,Yv,Yw,Yx,Yy,Yz,YA,YB,YC,YD,YE,YF,YG,YH,YI,row₀,List.getElem?_cons_zero,List.getElem?_cons_succ,List.set_cons_zero,List.set_cons_succ,List.map_cons,List.map_nil,List.length_cons,List.length_nil,List.replicate,List.cons_append,List.nil_append,Nat.reduceAdd,Nat.reduceSub,List.mem_cons,List.not_mem_nil,or_false,forall_eq_or_imp,forall_eq,implies_true,true_and,and_true,if_true,if_false,Bool.false_eq_true,decide_eq_true_eq,Bool.not_eq_true',decide_eq_false_iff_not,Bool.not_eq_eq_eq_not,Bool.not_true,Bool.not_false,beq_self_eq_true,reduceCtorEq,beq_iff_eq,low_length,row_length,fdiv_nat,fmod_nat,two_pow,one_shl,shr,shl,and_mask,clip_nat,Int.one_mul]
    refine h2 _ σ least _ _ bh1 bh2 hah ?_
    unfold rw_
    try simp only [orAnd,andAnd,Za,Zb,Zc,Zd,Ze,Zf,Zg,Zh,Zi,Zj,Zk,Zl,Zm,Zn,Zo,Zp,Zq,Zr,Zs,Zt,Zu,Zv,Zw,Zx,Zy,Zz,ZA,ZB,ZC,ZD,ZE,ZF,ZG,ZH,ZI,ZJ,ZK,ZL,ZM,ZN,ZO,ZP,ZQ,ZR,ZS,ZT,ZU,ZV,ZW,ZX,ZY,ZZ,Ya,Yb,Yc,Yd,Ye,Yf,Yg,Yh,Yi,Yj,Yk,Yl,Ym,Yn,Yo,Yp,Yq,Yr,Ys,Yt,Yu,Yv,Yw,Yx,Yy,Yz,YA,YB,YC,YD,YE,YF,YG,YH,YI,row₀,List.getElem?_cons_zero,List.getElem?_cons_succ,List.set_cons_zero,List.set_cons_succ,List.map_cons,List.map_nil,List.length_cons,List.length_nil,List.replicate,List.cons_append,List.nil_append,Nat.reduceAdd,Nat.reduceSub,List.mem_cons,List.not_mem_nil,or_false,forall_eq_or_imp,forall_eq,implies_true,true_and,and_true,if_true,if_false,Bool.false_eq_true,decide_eq_true_eq,Bool.not_eq_true',decide_eq_false_iff_not,Bool.not_eq_eq_eq_not,Bool.not_true,Bool.not_false,beq_self_eq_true,reduceCtorEq,beq_iff_eq,low_length,row_length,fdiv_nat,fmod_nat,two_pow,one_shl,shr,shl,and_mask,clip_nat,Int.one_mul]
    refine WSs.nil ?_
    have ht := @tail k half least a b (a / (2 ^ w) ^ half / (b / (2 ^ w) ^ half)) (a / (2 ^ w) ^ half % (b / (2 ^ w) ^ half))
    refine ht hw hw9 hh hb' ha ?_ ?_ ?_ rfl (fun _ _ => hQ)
    · rw [Nat.div_lt_iff_lt_mul (by (clear ht hah hc dlb dla al ml db da hPPP hPP h3 ha' tail hb' pb e3 hP e2 hB hQ ha b2 b1 h2 hh hw9 hw; omega)), Nat.mul_comm]
      exact hah
    · rw [Nat.mul_comm]
      exact (Nat.div_add_mod ..).symm
    · have hbh : 0 < b / (2 ^ w) ^ half := by (clear ht hah hc dlb dla al ml db da hPPP hPP h3 ha' tail hb' pb e3 hP e2 hB hQ ha b2 b1 h2 hh hw9 hw; omega)
      have h6 : a / (2 ^ w) ^ half < (a / (2 ^ w) ^ half / (b / (2 ^ w) ^ half) + 1) * (b / (2 ^ w) ^ half) := by
        have h7 := Nat.div_add_mod (a / (2 ^ w) ^ half) (b / (2 ^ w) ^ half)
        have h8 := Nat.mod_lt (a / (2 ^ w) ^ half) hbh
        rw [Nat.succ_mul, Nat.mul_comm]
        (clear hbh ht hah hc bh2 bh1 dlb dla al ml db da hPPP hPP h3 ha' tail hb' pb e3 hP e2 hB hQ ha b2 b1 h2 hh hw9 hw; omega)
      have h9 := (Nat.div_lt_iff_lt_mul hP).mp h6
      refine Nat.lt_of_lt_of_le h9 ?_
      rw [Nat.mul_assoc]
      exact Nat.mul_le_mul_left _ (Nat.div_mul_le_self ..)
  · rw [if_neg (by rw [cmp3_lt, e2, ← Nat.div_div_eq_div_mul]; exact hc)]
    have hah : b / (2 ^ w) ^ half * (2 ^ w) ^ half ≤ a / (2 ^ w) ^ half := (Nat.le_div_iff_mul_le hP).mp (by (clear bh2 bh1 dlb dla al ml db da hPPP hPP h3 ha' tail hb' pb e3 hP e2 hB hQ ha b2 b1 h2 hh hw9 hw; omega))
    refine WSs.set ?_
    try simp only [orAnd,andAnd,Za,Zb,Zc,Zd,Ze,Zf,Zg,Zh,Zi,Zj,Zk,Zl,Zm,Zn,Zo,Zp,Zq,Zr,Zs,Zt,Zu,Zv,Zw,Zx,Zy,Zz,ZA,ZB,ZC,ZD,ZE,ZF,ZG,ZH,ZI,ZJ,ZK,ZL,ZM,ZN,ZO,ZP,ZQ,ZR,ZS,ZT,ZU,ZV,ZW,ZX,ZY,ZZ,Ya,Yb,Yc,Yd,Ye,Yf,Yg,Yh,Yi,Yj,Yk,Yl,Ym,Yn,Yo,Yp,Yq,Yr,Ys,Yt,Yu,Yv,Yw,Yx,Yy,Yz,YA,YB,YC,YD,YE,YF,YG,YH,YI,row₀,List.getElem?_cons_zero,List.getElem?_cons_succ,List.set_cons_zero,List.set_cons_succ,List.map_cons,List.map_nil,List.length_cons,List.length_nil,List.replicate,List.cons_append,List.nil_append,Nat.reduceAdd,Nat.reduceSub,List.mem_cons,List.not_mem_nil,or_false,forall_eq_or_imp,forall_eq,implies_true,true_and,and_true,if_true,if_false,Bool.false_eq_true,decide_eq_true_eq,Bool.not_eq_true',decide_eq_false_iff_not,Bool.not_eq_eq_eq_not,Bool.not_true,Bool.not_false,beq_self_eq_true,reduceCtorEq,beq_iff_eq,low_length,row_length,fdiv_nat,fmod_nat,two_pow,one_shl,shr,shl,and_mask,clip_nat,Int.one_mul]
    refine m_all_ones hw (by (clear hah hc bh2 bh1 dlb dla al ml db da hPPP hPP h3 ha' tail hb' pb e3 hP e2 hB hQ ha b2 b1 h2 hw9 hw; omega)) ?_ hw9
    refine WSs.set ?_
    try simp only [orAnd,andAnd,Za,Zb,Zc,Zd,Ze,Zf,Zg,Zh,Zi,Zj,Zk,Zl,Zm,Zn,Zo,Zp,Zq,Zr,Zs,Zt,Zu,Zv,Zw,Zx,Zy,Zz,ZA,ZB,ZC,ZD,ZE,ZF,ZG,ZH,ZI,ZJ,ZK,ZL,ZM,ZN,ZO,ZP,ZQ,ZR,ZS,ZT,ZU,ZV,ZW,ZX,ZY,ZZ,Ya,Yb,Yc,Yd,Ye,Yf,Yg,Yh,Yi,Yj,Yk,Yl,Ym,Yn,Yo,Yp,Yq,Yr,Ys,Yt,Yu,Yv,Yw,Yx,Yy,Yz,YA,YB,YC,YD,YE,YF,YG,YH,YI,row₀,List.getElem?_cons_zero,List.getElem?_cons_succ,List.set_cons_zero,List.set_cons_succ,List.map_cons,List.map_nil,List.length_cons,List.length_nil,List.replicate,List.cons_append,List.nil_append,Nat.reduceAdd,Nat.reduceSub,List.mem_cons,List.not_mem_nil,or_false,forall_eq_or_imp,forall_eq,implies_true,true_and,and_true,if_true,if_false,Bool.false_eq_true,decide_eq_true_eq,Bool.not_eq_true',decide_eq_false_iff_not,Bool.not_eq_eq_eq_not,Bool.not_true,Bool.not_false,beq_self_eq_true,reduceCtorEq,beq_iff_eq,low_length,row_length,fdiv_nat,fmod_nat,two_pow,one_shl,shr,shl,and_mask,clip_nat,Int.one_mul]
    refine m_lifted hB (pb (by (clear hah hc bh2 bh1 dla al ml da hPP h3 ha' tail hb' pb e3 hP hB hQ ha h2 hh hw9 hw; omega))) (by (clear hah hc bh2 bh1 dlb dla al ml db da hPPP hPP h3 ha' tail hb' pb e3 hP e2 hB hQ ha b2 b1 h2 hw9 hw; omega)) ?_
    refine m_sub hw hw9 (pb (by (clear hah hc bh2 bh1 dlb al ml db hPPP hPP ha' tail hb' pb hP e2 hB hQ b2 b1 h2 hh hw9 hw; omega))) hah ?_
    refine m_add hw hw9 (pb (by (clear hc bh2 bh1 dlb al ml db hPPP hPP ha' tail hb' pb e3 hP e2 hB hQ b2 b1 h2 hh hw9 hw; omega))) (pb (by (clear hah hc bh2 bh1 dla al ml da hPP h3 ha' tail hb' pb e3 hP hB hQ ha h2 hh hw9 hw; omega))) ?_
    refine WSs.nil ?_
    have ht := @tail k half least a b ((2 ^ w) ^ half - 1) (a / (2 ^ w) ^ half - b / (2 ^ w) ^ half * (2 ^ w) ^ half + b / (2 ^ w) ^ half)
    refine ht hw hw9 hh hb' ha (by (clear ht hah hc bh2 bh1 dlb dla al ml db da hPPP hPP h3 ha' tail hb' pb e3 e2 hB hQ ha b2 b1 h2 hh hw9 hw; omega)) ?_ ?_ rfl (fun _ _ => hQ)
    · rw [Nat.sub_mul, Nat.one_mul, Nat.mul_comm ((2 ^ w) ^ half)]
      have : b / (2 ^ w) ^ half ≤ b / (2 ^ w) ^ half * (2 ^ w) ^ half := Nat.le_mul_of_pos_right _ hP
      (clear ht hc bh2 bh1 dlb dla al ml db da hPPP hPP h3 ha' tail hb' pb e3 hP e2 hB hQ ha b2 b1 h2 hh hw9 hw; omega)
    · rw [Nat.sub_add_cancel hP, Nat.mul_comm]; exact ha

theorem two_ok (hw : 1 ≤ w) (hw9 : w ≤ 9) : ∀ (f k size : Nat), size < 2 ^ f → size ≤ 200 → TwoOk W w (k + 2 * f + 4) size
  | 0, k, size, hs, _ => by
    have : size = 0 := by simpa using hs
    subst this
    intro Q σ least a b b1 b2 _ _
    rw [Nat.pow_zero] at b1 b2
    (clear hs hw9 hw; omega)
  | f + 1, k, size, hs, hs2 => by
    intro Q σ least a b b1 b2 ha hQ
    have hB := w_pow hw
    have hP : 0 < (2 ^ w) ^ size := Nat.pow_pos (by (clear hQ ha b2 b1 hs2 hs hw9 hw; omega))
    have e2 : (2 ^ w) ^ (2 * size) = (2 ^ w) ^ size * (2 ^ w) ^ size := by rw [← Nat.pow_add]; congr 1; (clear hP hB hQ ha b2 b1 hs2 hs hw9 hw; omega)
    have pb : ∀ {x : Nat}, x ≤ 8 * ((2 ^ w) ^ size * (2 ^ w) ^ size) → Bd x := fun {x} h => pow_bd hw9 (n := 2 * size) (by (clear h e2 hP hB hQ ha b2 b1 hs hw9 hw; omega)) (by rw [e2]; exact h)
    have h3 : b * (2 ^ w) ^ size ≤ (2 ^ w) ^ size * (2 ^ w) ^ size := Nat.mul_le_mul_right _ (by (clear pb e2 hP hB hQ ha b1 hs2 hs hw9 hw; omega))
    have hPP : (2 ^ w) ^ size ≤ (2 ^ w) ^ size * (2 ^ w) ^ size := Nat.le_mul_of_pos_left _ hP
    refine meets c_two_halves rfl ?_
    refine WSs.ite ?_
    unfold rw_
    try simp only [orAnd,andAnd,Za,Zb,Zc,Zd,Ze,Zf,Zg,Zh,Zi,Zj,Zk,Zl,Zm,Zn,Zo,Zp,Zq,Zr,Zs,Zt,Zu,Zv,Zw,Zx,Zy,Zz,ZA,ZB,ZC,ZD,ZE,ZF,ZG,ZH,ZI,ZJ,ZK,ZL,ZM,ZN,ZO,ZP,ZQ,ZR,ZS,ZT,ZU,ZV,ZW,ZX,ZY,ZZ,Ya,Yb,Yc,Yd,Ye,Yf,Yg,Yh,Yi,Yj,Yk,Yl,Ym,Yn,Yo,Yp,Yq,Yr,Ys,Yt,Yu,Yv,Yw,Yx,Yy,Yz,YA,YB,YC,YD,YE,YF,YG,YH,YI,row₀,List.getElem?_cons_zero,List.getElem?_cons_succ,List.set_cons_zero,List.set_cons_succ,List.map_cons,List.map_nil,List.length_cons,List.length_nil,List.replicate,List.cons_append,List.nil_append,Nat.reduceAdd,Nat.reduceSub,List.mem_cons,List.not_mem_nil,or_false,forall_eq_or_imp,forall_eq,implies_true,true_and,and_true,if_true,if_false,Bool.false_eq_true,decide_eq_true_eq,Bool.not_eq_true',decide_eq_false_iff_not,Bool.not_eq_eq_eq_not,Bool.not_true,Bool.not_false,beq_self_eq_true,reduceCtorEq,beq_iff_eq,low_length,row_length,fdiv_nat,fmod_nat,two_pow,one_shl,shr,shl,and_mask,clip_nat,Int.one_mul]
    refine ⟨by decide, ?_⟩
    rw [fmod_two]
    have base : Meets W (k + 2 * f + 5) "_law_parts" [rw_ w a, rw_ w b, .int w] Q σ :=
      m_law_parts (k := k + 2 * f + 3) hw hw9 (pb (by (clear pb e2 hP hB hQ hs2 hs hw9 hw; omega))) (pb (by (clear pb e2 hP hB hQ b1 hs2 hs hw9 hw; omega))) (by (clear hPP h3 pb e2 hP hB hQ ha hs2 hs hw9 hw; omega)) hQ
    by_cases hodd : ¬ ((size % 2 : Nat) : Int) = 1
    · rw [if_pos hodd]
      by_cases hle : ¬ (size : Int) ≤ least
      · rw [if_pos hle]
        obtain ⟨half, rfl⟩ : ∃ half, size = 2 * half := ⟨size / 2, by (clear hle base hPP h3 pb e2 hP hB hQ ha b2 b1 hs2 hs hw9 hw; omega)⟩
        have hh : ((2 * half : Nat) : Int).fdiv 2 = (half : Int) := by rw [fdiv_two]; congr 1; (clear hle hodd hPP h3 pb e2 hP ha b2 b1 hs2 hs base hB hQ hw9 hw; omega)
        have eP : (2 ^ w) ^ (2 * half) = (2 ^ w) ^ half * (2 ^ w) ^ half := by rw [← Nat.pow_add]; congr 1; (clear hh hle hodd hPP h3 pb e2 hP ha b2 b1 hs2 hs base hB hQ hw9 hw; omega)
        have hp : 0 < (2 ^ w) ^ half := Nat.pow_pos (by (clear eP hh hle hodd hPP h3 pb e2 hP ha b2 b1 hs2 hs base hQ hw9 hw; omega))
        have ih : TwoOk W w (k + 2 * f + 4) half := two_ok hw hw9 f k half (by rw [Nat.pow_succ] at hs; (clear hp eP hle hodd hPP h3 pb e2 hP ha b2 b1 hs2 base hB hQ hw9 hw; omega)) (by (clear hp eP hle hodd hPP h3 pb e2 hP ha b2 b1 hs base hB hQ hw9 hw; omega))
        refine WSs.nil (WSs.set ?_)
        try simp only [orAnd,andAnd,Za,Zb,Zc,Zd,Ze,Zf,Zg,Zh,Zi,Zj,Zk,Zl,Zm,Zn,Zo,Zp,Zq,Zr,Zs,Zt,Zu,Zv,Zw,Zx,Zy,Zz,ZA,ZB,ZC,ZD,ZE,ZF,ZG,ZH,ZI,ZJ,ZK,ZL,ZM,ZN,ZO,ZP,ZQ,ZR,ZS,ZT,ZU,ZV,ZW,ZX,ZY,ZZ,Ya,Yb,Yc,Yd,Ye,Yf,Yg,Yh,Yi,Yj,Yk,Yl,Ym,Yn,Yo,Yp,Yq,Yr,Ys,Yt,Yu,Yv,Yw,Yx,Yy,Yz,YA,YB,YC,YD,YE,YF,YG,YH,YI,row₀,List.getElem?_cons_zero,List.getElem?_cons_succ,List.set_cons_zero,List.set_cons_succ,List.map_cons,List.map_nil,List.length_cons,List.length_nil,List.replicate,List.cons_append,List.nil_append,Nat.reduceAdd,Nat.reduceSub,List.mem_cons,List.not_mem_nil,or_false,forall_eq_or_imp,forall_eq,implies_true,true_and,and_true,if_true,if_false,Bool.false_eq_true,decide_eq_true_eq,Bool.not_eq_true',decide_eq_false_iff_not,Bool.not_eq_eq_eq_not,Bool.not_true,Bool.not_false,beq_self_eq_true,reduceCtorEq,beq_iff_eq,low_length,row_length,fdiv_nat,fmod_nat,two_pow,one_shl,shr,shl,and_mask,clip_nat,Int.one_mul]
        refine ⟨by decide, ⟨64, by decide, by decide⟩, ?_⟩
        rw [hh]
        have a1 : a / (2 ^ w) ^ half < b * (2 ^ w) ^ half := by
          rw [Nat.div_lt_iff_lt_mul hp, Nat.mul_assoc, ← eP]; exact ha
        have hb0 : 0 < b := by (clear a1 ih hp hh hle hodd hPP h3 pb e2 hP ha hs2 hs base hB hQ hw9 hw; omega)
        have hr := Nat.mod_lt (a / (2 ^ w) ^ half) hb0
        have hl := Nat.mod_lt a hp
        have da := Nat.div_add_mod a ((2 ^ w) ^ half)
        have dh := Nat.div_add_mod (a / (2 ^ w) ^ half) b
        refine WSs.two ?_
        try simp only [orAnd,andAnd,Za,Zb,Zc,Zd,Ze,Zf,Zg,Zh,Zi,Zj,Zk,Zl,Zm,Zn,Zo,Zp,Zq,Zr,Zs,Zt,Zu,Zv,Zw,Zx,Zy,Zz,ZA,ZB,ZC,ZD,ZE,ZF,ZG,ZH,ZI,ZJ,ZK,ZL,ZM,ZN,ZO,ZP,ZQ,ZR,ZS,ZT,ZU,ZV,ZW,ZX,ZY,ZZ,Ya,Yb,Yc,Yd,Ye,Yf,Yg,Yh,Yi,Yj,Yk,Yl,Ym,Yn,Yo,Yp,Yq,Yr,Ys,Yt,Yu,Yv,Yw,Yx,Yy,Yz,YA,YB,YC,YD,YE,YF,YG,YH,YI,row₀,List.getElem?_cons_zero,List.getElem?_cons_succ,List.set_cons_zero,List.set_cons_succ,List.map_cons,List.map_nil,List.length_cons,List.length_nil,List.replicate,List.cons_append,List.nil_append,Nat.reduceAdd,Nat.reduceSub,List.mem_cons,List.not_mem_nil,or_false,forall_eq_or_imp,forall_eq,implies_true,true_and,and_true,if_true,if_false,Bool.false_eq_true,decide_eq_true_eq,Bool.not_eq_true',decide_eq_false_iff_not,Bool.not_eq_eq_eq_not,Bool.not_true,Bool.not_false,beq_self_eq_true,reduceCtorEq,beq_iff_eq,low_length,row_length,fdiv_nat,fmod_nat,two_pow,one_shl,shr,shl,and_mask,clip_nat,Int.one_mul]
        refine m_down hB ?_
        refine three_ok hw hw9 (by (clear dh da hl hr hb0 a1 ih hp eP hle hodd hPP h3 pb e2 hP ha b2 b1 hs base hB hQ hw9 hw; omega)) ih b1 b2 a1 ?_
        unfold rw_
        try simp only [orAnd,andAnd,Za,Zb,Zc,Zd,Ze,Zf,Zg,Zh,Zi,Zj,Zk,Zl,Zm,Zn,Zo,Zp,Zq,Zr,Zs,Zt,Zu,Zv,Zw,Zx,Zy,Zz,ZA,ZB,ZC,ZD,ZE,ZF,ZG,ZH,ZI,ZJ,ZK,ZL,ZM,ZN,ZO,ZP,ZQ,ZR,ZS,ZT,ZU,ZV,ZW,ZX,ZY,ZZ,Ya,Yb,Yc,Yd,Ye,Yf,Yg,Yh,Yi,Yj,Yk,Yl,Ym,Yn,Yo,Yp,Yq,Yr,Ys,Yt,Yu,Yv,Yw,Yx,Yy,Yz,YA,YB,YC,YD,YE,YF,YG,YH,YI,row₀,List.getElem?_cons_zero,List.getElem?_cons_succ,List.set_cons_zero,List.set_cons_succ,List.map_cons,List.map_nil,List.length_cons,List.length_nil,List.replicate,List.cons_append,List.nil_append,Nat.reduceAdd,Nat.reduceSub,List.mem_cons,List.not_mem_nil,or_false,forall_eq_or_imp,forall_eq,implies_true,true_and,and_true,if_true,if_false,Bool.false_eq_true,decide_eq_true_eq,Bool.not_eq_true',decide_eq_false_iff_not,Bool.not_eq_eq_eq_not,Bool.not_true,Bool.not_false,beq_self_eq_true,reduceCtorEq,beq_iff_eq,low_length,row_length,fdiv_nat,fmod_nat,two_pow,one_shl,shr,shl,and_mask,clip_nat,Int.one_mul]
        have dd : a / (2 ^ w) ^ half / b ≤ a := Nat.le_trans (Nat.div_le_self ..) (Nat.div_le_self ..)
        generalize hX : a / (2 ^ w) ^ half % b = X at *
        have xp : X ≤ X * (2 ^ w) ^ half := Nat.le_mul_of_pos_right _ hp
        have dl := Nat.div_le_self a ((2 ^ w) ^ half)
        have dm := Nat.mod_le a ((2 ^ w) ^ half)
        generalize hZ : a % (2 ^ w) ^ half = Z at *
        generalize hU : a / (2 ^ w) ^ half = U at *
        have a2 : X * (2 ^ w) ^ half + Z < b * (2 ^ w) ^ half := by
          have : (X + 1) * (2 ^ w) ^ half ≤ b * (2 ^ w) ^ half := Nat.mul_le_mul_right _ hr
          rw [Nat.succ_mul] at this
          (clear da dl dh hX dd a1 hU dm hZ xp hr hb0 ih hp eP hh hle hodd hPP h3 pb e2 hP ha b2 b1 hs2 hs base hB hQ hw9 hw; omega)
        have le2 : b * (2 ^ w) ^ half ≤ b * (2 ^ w) ^ (2 * half) := Nat.mul_le_mul_left _ (by rw [eP]; exact Nat.le_mul_of_pos_left _ hp)
        refine WSs.two ?_
        try simp only [orAnd,andAnd,Za,Zb,Zc,Zd,Ze,Zf,Zg,Zh,Zi,Zj,Zk,Zl,Zm,Zn,Zo,Zp,Zq,Zr,Zs,Zt,Zu,Zv,Zw,Zx,Zy,Zz,ZA,ZB,ZC,ZD,ZE,ZF,ZG,ZH,ZI,ZJ,ZK,ZL,ZM,ZN,ZO,ZP,ZQ,ZR,ZS,ZT,ZU,ZV,ZW,ZX,ZY,ZZ,Ya,Yb,Yc,Yd,Ye,Yf,Yg,Yh,Yi,Yj,Yk,Yl,Ym,Yn,Yo,Yp,Yq,Yr,Ys,Yt,Yu,Yv,Yw,Yx,Yy,Yz,YA,YB,YC,YD,YE,YF,YG,YH,YI,row₀,List.getElem?_cons_zero,List.getElem?_cons_succ,List.set_cons_zero,List.set_cons_succ,List.map_cons,List.map_nil,List.length_cons,List.length_nil,List.replicate,List.cons_append,List.nil_append,Nat.reduceAdd,Nat.reduceSub,List.mem_cons,List.not_mem_nil,or_false,forall_eq_or_imp,forall_eq,implies_true,true_and,and_true,if_true,if_false,Bool.false_eq_true,decide_eq_true_eq,Bool.not_eq_true',decide_eq_false_iff_not,Bool.not_eq_eq_eq_not,Bool.not_true,Bool.not_false,beq_self_eq_true,reduceCtorEq,beq_iff_eq,low_length,row_length,fdiv_nat,fmod_nat,two_pow,one_shl,shr,shl,and_mask,clip_nat,Int.one_mul]
        refine m_lifted hB (pb (by (clear le2 a2 dd a1 hU dm hl hZ xp hr hb0 ih hp eP hh hle hodd hPP pb e2 hP b2 b1 hs2 hs base hB hQ hw9 hw; omega))) (by (clear le2 a2 da dl dh hX dd a1 hU dm hl hZ xp hr hb0 ih hp eP hle hodd hPP h3 pb e2 hP ha b2 b1 hs base hB hQ hw9 hw; omega)) ?_
        refine m_lowest hB ?_
        rw [hZ]
        refine m_add hw hw9 (pb (by (clear da dl dh hX dd a1 hU dm hl hZ xp hr hb0 ih hp eP hh hle hodd hPP pb e2 hP ha b2 b1 hs2 hs base hB hQ hw9 hw; omega))) (pb (by (clear da dl dh hX dd a1 hU dm hl hZ xp hr hb0 ih hp eP hh hle hodd hPP pb e2 hP ha b2 b1 hs2 hs base hB hQ hw9 hw; omega))) ?_
        refine three_ok hw hw9 (by (clear le2 a2 da dl dh hX dd a1 hU dm hl hZ xp hr hb0 ih hp eP hle hodd hPP h3 pb e2 hP ha b2 b1 hs base hB hQ hw9 hw; omega)) ih b1 b2 a2 ?_
        unfold rw_
        try simp only [orAnd,andAnd,Za,Zb,Zc,Zd,Ze,Zf,Zg,Zh,Zi,Zj,Zk,Zl,Zm,Zn,Zo,Zp,Zq,Zr,Zs,Zt,Zu,Zv,Zw,Zx,Zy,Zz,ZA,ZB,ZC,ZD,ZE,ZF,ZG,ZH,ZI,ZJ,ZK,ZL,ZM,ZN,ZO,ZP,ZQ,ZR,ZS,ZT,ZU,ZV,ZW,ZX,ZY,ZZ,Ya,Yb,Yc,Yd,Ye,Yf,Yg,Yh,Yi,Yj,Yk,Yl,Ym,Yn,Yo,Yp,Yq,Yr,Ys,Yt,Yu,Yv,Yw,Yx,Yy,Yz,YA,YB,YC,YD,YE,YF,YG,YH,YI,row₀,List.getElem?_cons_zero,List.getElem?_cons_succ,List.set_cons_zero,List.set_cons_succ,List.map_cons,List.map_nil,List.length_cons,List.length_nil,List.replicate,List.cons_append,List.nil_append,Nat.reduceAdd,Nat.reduceSub,List.mem_cons,List.not_mem_nil,or_false,forall_eq_or_imp,forall_eq,implies_true,true_and,and_true,if_true,if_false,Bool.false_eq_true,decide_eq_true_eq,Bool.not_eq_true',decide_eq_false_iff_not,Bool.not_eq_eq_eq_not,Bool.not_true,Bool.not_false,beq_self_eq_true,reduceCtorEq,beq_iff_eq,low_length,row_length,fdiv_nat,fmod_nat,two_pow,one_shl,shr,shl,and_mask,clip_nat,Int.one_mul]
        generalize hY : X * (2 ^ w) ^ half + Z = Y at *
        have dY := Nat.div_add_mod Y b
        have e : a = (U / b * (2 ^ w) ^ half + Y / b) * b + Y % b := by
          have : (b * (U / b) + X) * (2 ^ w) ^ half = U * (2 ^ w) ^ half := by rw [dh]
          grind
        have hd := div_is e (Nat.mod_lt _ hb0)
        have hsum : U / b * (2 ^ w) ^ half + Y / b ≤ a := by rw [← hd.1]; exact Nat.div_le_self ..
        rw [hd.1, hd.2] at hQ
        clear e hd dh dY
        generalize Y / b = V at *
        have up := Nat.le_mul_of_pos_right (U / b) hp
        generalize U / b = H at *
        refine WSs.ret ?_
        try simp only [orAnd,andAnd,Za,Zb,Zc,Zd,Ze,Zf,Zg,Zh,Zi,Zj,Zk,Zl,Zm,Zn,Zo,Zp,Zq,Zr,Zs,Zt,Zu,Zv,Zw,Zx,Zy,Zz,ZA,ZB,ZC,ZD,ZE,ZF,ZG,ZH,ZI,ZJ,ZK,ZL,ZM,ZN,ZO,ZP,ZQ,ZR,ZS,ZT,ZU,ZV,ZW,ZX,ZY,ZZ,Ya,Yb,Yc,Yd,Ye,Yf,Yg,Yh,Yi,Yj,Yk,Yl,Ym,Yn,Yo,Yp,Yq,Yr,Ys,Yt,Yu,Yv,Yw,Yx,Yy,Yz,YA,YB,YC,YD,YE,YF,YG,YH,YI,row₀,List.getElem?_cons_zero,List.getElem?_cons_succ,List.set_cons_zero,List.set_cons_succ,List.map_cons,List.map_nil,List.length_cons,List.length_nil,List.replicate,List.cons_append,List.nil_append,Nat.reduceAdd,Nat.reduceSub,List.mem_cons,List.not_mem_nil,or_false,forall_eq_or_imp,forall_eq,implies_true,true_and,and_true,if_true,if_false,Bool.false_eq_true,decide_eq_true_eq,Bool.not_eq_true',decide_eq_false_iff_not,Bool.not_eq_eq_eq_not,Bool.not_true,Bool.not_false,beq_self_eq_true,reduceCtorEq,beq_iff_eq,low_length,row_length,fdiv_nat,fmod_nat,two_pow,one_shl,shr,shl,and_mask,clip_nat,Int.one_mul]
        refine m_lifted hB (pb (by (clear hQ dd a2 hY le2 dl hX a1 hU dm hl hZ xp hr ih hp hh hle hodd pb e2 hP b1 hs2 hs base hB hw9 hw; omega))) (by (clear up hsum hQ dd a2 hY le2 da dl hX a1 hU dm hl hZ xp hr hb0 ih hp eP hle hodd hPP h3 pb e2 hP ha b2 b1 hs base hB hw9 hw; omega)) ?_
        refine m_add hw hw9 (pb (by (clear up hQ dd a2 hY le2 dl hX a1 hU dm hl hZ xp hr ih hp hh hle hodd pb e2 hP b1 hs2 hs base hB hw9 hw; omega))) (pb (by (clear up hQ dd a2 hY le2 dl hX a1 hU dm hl hZ xp hr ih hp hh hle hodd pb e2 hP b1 hs2 hs base hB hw9 hw; omega))) ?_
        exact hQ
      · rw [if_neg hle, if_pos (by (clear hodd base hPP h3 pb e2 hP hB hQ ha b2 b1 hs2 hs hw9 hw; omega))]
        refine WSs.ret ?_
        try simp only [orAnd,andAnd,Za,Zb,Zc,Zd,Ze,Zf,Zg,Zh,Zi,Zj,Zk,Zl,Zm,Zn,Zo,Zp,Zq,Zr,Zs,Zt,Zu,Zv,Zw,Zx,Zy,Zz,ZA,ZB,ZC,ZD,ZE,ZF,ZG,ZH,ZI,ZJ,ZK,ZL,ZM,ZN,ZO,ZP,ZQ,ZR,ZS,ZT,ZU,ZV,ZW,ZX,ZY,ZZ,Ya,Yb,Yc,Yd,Ye,Yf,Yg,Yh,Yi,Yj,Yk,Yl,Ym,Yn,Yo,Yp,Yq,Yr,Ys,Yt,Yu,Yv,Yw,Yx,Yy,Yz,YA,YB,YC,YD,YE,YF,YG,YH,YI,row₀,List.getElem?_cons_zero,List.getElem?_cons_succ,List.set_cons_zero,List.set_cons_succ,List.map_cons,List.map_nil,List.length_cons,List.length_nil,List.replicate,List.cons_append,List.nil_append,Nat.reduceAdd,Nat.reduceSub,List.mem_cons,List.not_mem_nil,or_false,forall_eq_or_imp,forall_eq,implies_true,true_and,and_true,if_true,if_false,Bool.false_eq_true,decide_eq_true_eq,Bool.not_eq_true',decide_eq_false_iff_not,Bool.not_eq_eq_eq_not,Bool.not_true,Bool.not_false,beq_self_eq_true,reduceCtorEq,beq_iff_eq,low_length,row_length,fdiv_nat,fmod_nat,two_pow,one_shl,shr,shl,and_mask,clip_nat,Int.one_mul]
        exact base
    · rw [if_neg hodd, if_pos (by (clear base hPP h3 pb e2 hP hB hQ ha b2 b1 hs2 hs hw9 hw; omega))]
      refine WSs.ret ?_
      try simp only [orAnd,andAnd,Za,Zb,Zc,Zd,Ze,Zf,Zg,Zh,Zi,Zj,Zk,Zl,Zm,Zn,Zo,Zp,Zq,Zr,Zs,Zt,Zu,Zv,Zw,Zx,Zy,Zz,ZA,ZB,ZC,ZD,ZE,ZF,ZG,ZH,ZI,ZJ,ZK,ZL,ZM,ZN,ZO,ZP,ZQ,ZR,ZS,ZT,ZU,ZV,ZW,ZX,ZY,ZZ,Ya,Yb,Yc,Yd,Ye,Yf,Yg,Yh,Yi,Yj,Yk,Yl,Ym,Yn,Yo,Yp,Yq,Yr,Ys,Yt,Yu,Yv,Yw,Yx,Yy,Yz,YA,YB,YC,YD,YE,YF,YG,YH,YI,row₀,List.getElem?_cons_zero,List.getElem?_cons_succ,List.set_cons_zero,List.set_cons_succ,List.map_cons,List.map_nil,List.length_cons,List.length_nil,List.replicate,List.cons_append,List.nil_append,Nat.reduceAdd,Nat.reduceSub,List.mem_cons,List.not_mem_nil,or_false,forall_eq_or_imp,forall_eq,implies_true,true_and,and_true,if_true,if_false,Bool.false_eq_true,decide_eq_true_eq,Bool.not_eq_true',decide_eq_false_iff_not,Bool.not_eq_eq_eq_not,Bool.not_true,Bool.not_false,beq_self_eq_true,reduceCtorEq,beq_iff_eq,low_length,row_length,fdiv_nat,fmod_nat,two_pow,one_shl,shr,shl,and_mask,clip_nat,Int.one_mul]
      exact base
end
end
section
open PySem PySem.W PyProof.Rows
set_option exponentiation.threshold 5000

/-- the numbers that the law divides -/
noncomputable def Sm (x : Nat) : Prop := x < 2 ^ 112
theorem Sm.bd {x : Nat} (h : Sm x) : Bd x := Bd.of h (by decide)
theorem Sm.len {w x : Nat} (hw : 2 ≤ w) (h : Sm x) : len (2 ^ w) x ≤ 56 := by
  refine len_le (w_pow (by omega)) _ _ (Nat.lt_of_lt_of_le h ?_)
  rw [← Nat.pow_mul]
  exact pow_le (by omega)

section
variable {W : Wd} {k w B : Nat} {σ : Bx} {Q : V → Bx → Prop}

theorem m_cut {N p s : Nat} (hB : 2 ≤ B) (h : p + s ≤ len B N) (hQ : Q (.list (row B (N / B ^ p % B ^ s))) σ) : Meets W (k + 1) "normal" [.list (((row B N).drop p).take s)] Q σ := by
  rw [row_drop hB]
  unfold row at *
  rw [low_take, len_div hB, Nat.min_eq_left (by (clear hQ hB; omega)), ← low_mod]
  exact m_normal hB (Nat.mod_lt _ (Nat.pow_pos (by omega))) hQ

theorem m_divrem_halves {a b least : Nat} (hw : 2 ≤ w) (hw9 : w ≤ 9) (ha : Sm a) (hb : Sm b) (hb0 : 0 < b) (hl : 1 ≤ least) (hQ : Q (.pair (rw_ w (a / b)) (rw_ w (a % b))) σ) :
    Meets W (k + 21) "divrem_halves" [rw_ w a, rw_ w b, .int w, .int least, .fn "_law_times", .fn "_law_parts"] Q σ := by
  have hw1 : 1 ≤ w := by omega
  have hB := w_pow hw1
  have lb := hb.len hw
  have la := ha.len hw
  have lb0 : 0 < len (2 ^ w) b := by
    rcases Nat.eq_zero_or_pos (len (2 ^ w) b) with q | q
    · have := len_eq_zero hB q; (clear q la lb hB hw1 hQ hl hb ha hw9 hw; omega)
    · exact q
  refine meets c_divrem_halves rfl ?_
  unfold rw_ at *
  refine WSs.ite ?_
  try simp only [orAnd,andAnd,Za,Zb,Zc,Zd,Ze,Zf,Zg,Zh,Zi,Zj,Zk,Zl,Zm,Zn,Zo,Zp,Zq,Zr,Zs,Zt,Zu,Zv,Zw,Zx,Zy,Zz,ZA,ZB,ZC,ZD,ZE,ZF,ZG,ZH,ZI,ZJ,ZK,ZL,ZM,ZN,ZO,ZP,ZQ,ZR,ZS,ZT,ZU,ZV,ZW,ZX,ZY,ZZ,Ya,Yb,Yc,Yd,Ye,Yf,Yg,Yh,Yi,Yj,Yk,Yl,Ym,Yn,Yo,Yp,Yq,Yr,Ys,Yt,Yu,Yv,Yw,Yx,Yy,Yz,YA,YB,YC,YD,YE,YF,YG,YH,YI,row₀,List.getElem?_cons_zero,List.getElem?_cons_succ,List.set_cons_zero,List.set_cons_succ,List.map_cons,List.map_nil,List.length_cons,List.length_nil,List.replicate,List.cons_append,List.nil_append,Nat.reduceAdd,Nat.reduceSub,List.mem_cons,List.not_mem_nil,or_false,forall_eq_or_imp,forall_eq,implies_true,true_and,and_true,if_true,if_false,Bool.false_eq_true,decide_eq_true_eq,Bool.not_eq_true',decide_eq_false_iff_not,Bool.not_eq_eq_eq_not,Bool.not_true,Bool.not_false,beq_self_eq_true,reduceCtorEq,beq_iff_eq,low_length,row_length,fdiv_nat,fmod_nat,two_pow,one_shl,shr,shl,and_mask,clip_nat,Int.one_mul]
  rw [if_neg (by (clear la hB hw1 hQ hl hb0 hb ha hw9 hw; omega))]
  refine WSs.nil (WSs.ite ?_)
  try simp only [orAnd,andAnd,Za,Zb,Zc,Zd,Ze,Zf,Zg,Zh,Zi,Zj,Zk,Zl,Zm,Zn,Zo,Zp,Zq,Zr,Zs,Zt,Zu,Zv,Zw,Zx,Zy,Zz,ZA,ZB,ZC,ZD,ZE,ZF,ZG,ZH,ZI,ZJ,ZK,ZL,ZM,ZN,ZO,ZP,ZQ,ZR,ZS,ZT,ZU,ZV,ZW,ZX,ZY,ZZ,Ya,Yb,Yc,Yd,Ye,Yf,Yg,Yh,Yi,Yj,Yk,Yl,Ym,Yn,Yo,Yp,Yq,Yr,Ys,Yt,Yu,Yv,Yw,Yx,Yy,Yz,YA,YB,YC,YD,YE,YF,YG,YH,YI,row₀,List.getElem?_cons_zero,List.getElem?_cons_succ,List.set_cons_zero,List.set_cons_succ,List.map_cons,List.map_nil,List.length_cons,List.length_nil,List.replicate,List.cons_append,List.nil_append,Nat.reduceAdd,Nat.reduceSub,List.mem_cons,List.not_mem_nil,or_false,forall_eq_or_imp,forall_eq,implies_true,true_and,and_true,if_true,if_false,Bool.false_eq_true,decide_eq_true_eq,Bool.not_eq_true',decide_eq_false_iff_not,Bool.not_eq_eq_eq_not,Bool.not_true,Bool.not_false,beq_self_eq_true,reduceCtorEq,beq_iff_eq,low_length,row_length,fdiv_nat,fmod_nat,two_pow,one_shl,shr,shl,and_mask,clip_nat,Int.one_mul]
  refine m_compare hB ha.bd hb.bd ?_
  try simp only [orAnd,andAnd,Za,Zb,Zc,Zd,Ze,Zf,Zg,Zh,Zi,Zj,Zk,Zl,Zm,Zn,Zo,Zp,Zq,Zr,Zs,Zt,Zu,Zv,Zw,Zx,Zy,Zz,ZA,ZB,ZC,ZD,ZE,ZF,ZG,ZH,ZI,ZJ,ZK,ZL,ZM,ZN,ZO,ZP,ZQ,ZR,ZS,ZT,ZU,ZV,ZW,ZX,ZY,ZZ,Ya,Yb,Yc,Yd,Ye,Yf,Yg,Yh,Yi,Yj,Yk,Yl,Ym,Yn,Yo,Yp,Yq,Yr,Ys,Yt,Yu,Yv,Yw,Yx,Yy,Yz,YA,YB,YC,YD,YE,YF,YG,YH,YI,row₀,List.getElem?_cons_zero,List.getElem?_cons_succ,List.set_cons_zero,List.set_cons_succ,List.map_cons,List.map_nil,List.length_cons,List.length_nil,List.replicate,List.cons_append,List.nil_append,Nat.reduceAdd,Nat.reduceSub,List.mem_cons,List.not_mem_nil,or_false,forall_eq_or_imp,forall_eq,implies_true,true_and,and_true,if_true,if_false,Bool.false_eq_true,decide_eq_true_eq,Bool.not_eq_true',decide_eq_false_iff_not,Bool.not_eq_eq_eq_not,Bool.not_true,Bool.not_false,beq_self_eq_true,reduceCtorEq,beq_iff_eq,low_length,row_length,fdiv_nat,fmod_nat,two_pow,one_shl,shr,shl,and_mask,clip_nat,Int.one_mul]
  by_cases hab : a < b
  · rw [if_pos (by rw [cmp3_lt]; exact hab)]
    refine WSs.ret ?_
    try simp only [orAnd,andAnd,Za,Zb,Zc,Zd,Ze,Zf,Zg,Zh,Zi,Zj,Zk,Zl,Zm,Zn,Zo,Zp,Zq,Zr,Zs,Zt,Zu,Zv,Zw,Zx,Zy,Zz,ZA,ZB,ZC,ZD,ZE,ZF,ZG,ZH,ZI,ZJ,ZK,ZL,ZM,ZN,ZO,ZP,ZQ,ZR,ZS,ZT,ZU,ZV,ZW,ZX,ZY,ZZ,Ya,Yb,Yc,Yd,Ye,Yf,Yg,Yh,Yi,Yj,Yk,Yl,Ym,Yn,Yo,Yp,Yq,Yr,Ys,Yt,Yu,Yv,Yw,Yx,Yy,Yz,YA,YB,YC,YD,YE,YF,YG,YH,YI,row₀,List.getElem?_cons_zero,List.getElem?_cons_succ,List.set_cons_zero,List.set_cons_succ,List.map_cons,List.map_nil,List.length_cons,List.length_nil,List.replicate,List.cons_append,List.nil_append,Nat.reduceAdd,Nat.reduceSub,List.mem_cons,List.not_mem_nil,or_false,forall_eq_or_imp,forall_eq,implies_true,true_and,and_true,if_true,if_false,Bool.false_eq_true,decide_eq_true_eq,Bool.not_eq_true',decide_eq_false_iff_not,Bool.not_eq_eq_eq_not,Bool.not_true,Bool.not_false,beq_self_eq_true,reduceCtorEq,beq_iff_eq,low_length,row_length,fdiv_nat,fmod_nat,two_pow,one_shl,shr,shl,and_mask,clip_nat,Int.one_mul]
    rw [Nat.div_eq_of_lt hab, Nat.mod_eq_of_lt hab, row_zero] at hQ
    exact ⟨[], rfl, by decide, hQ⟩
  rw [if_neg (by rw [cmp3_lt]; exact hab)]
  refine WSs.nil (WSs.set ?_)
  try simp only [orAnd,andAnd,Za,Zb,Zc,Zd,Ze,Zf,Zg,Zh,Zi,Zj,Zk,Zl,Zm,Zn,Zo,Zp,Zq,Zr,Zs,Zt,Zu,Zv,Zw,Zx,Zy,Zz,ZA,ZB,ZC,ZD,ZE,ZF,ZG,ZH,ZI,ZJ,ZK,ZL,ZM,ZN,ZO,ZP,ZQ,ZR,ZS,ZT,ZU,ZV,ZW,ZX,ZY,ZZ,Ya,Yb,Yc,Yd,Ye,Yf,Yg,Yh,Yi,Yj,Yk,Yl,Ym,Yn,Yo,Yp,Yq,Yr,Ys,Yt,Yu,Yv,Yw,Yx,Yy,Yz,YA,YB,YC,YD,YE,YF,YG,YH,YI,row₀,List.getElem?_cons_zero,List.getElem?_cons_succ,List.set_cons_zero,List.set_cons_succ,List.map_cons,List.map_nil,List.length_cons,List.length_nil,List.replicate,List.cons_append,List.nil_append,Nat.reduceAdd,Nat.reduceSub,List.mem_cons,List.not_mem_nil,or_false,forall_eq_or_imp,forall_eq,implies_true,true_and,and_true,if_true,if_false,Bool.false_eq_true,decide_eq_true_eq,Bool.not_eq_true',decide_eq_false_iff_not,Bool.not_eq_eq_eq_not,Bool.not_true,Bool.not_false,beq_self_eq_true,reduceCtorEq,beq_iff_eq,low_length,row_length,fdiv_nat,fmod_nat,two_pow,one_shl,shr,shl,and_mask,clip_nat,Int.one_mul]
  refine m_halves_size (by (clear hab la hB hw1 hQ hl hb0 hb ha hw9 hw; omega)) (by (clear hab la hB hw1 hQ hl hb0 hb ha hw9 hw; omega)) hl fun s hs1 hs2 => ?_
  refine WSs.set ?_
  try simp only [orAnd,andAnd,Za,Zb,Zc,Zd,Ze,Zf,Zg,Zh,Zi,Zj,Zk,Zl,Zm,Zn,Zo,Zp,Zq,Zr,Zs,Zt,Zu,Zv,Zw,Zx,Zy,Zz,ZA,ZB,ZC,ZD,ZE,ZF,ZG,ZH,ZI,ZJ,ZK,ZL,ZM,ZN,ZO,ZP,ZQ,ZR,ZS,ZT,ZU,ZV,ZW,ZX,ZY,ZZ,Ya,Yb,Yc,Yd,Ye,Yf,Yg,Yh,Yi,Yj,Yk,Yl,Ym,Yn,Yo,Yp,Yq,Yr,Ys,Yt,Yu,Yv,Yw,Yx,Yy,Yz,YA,YB,YC,YD,YE,YF,YG,YH,YI,row₀,List.getElem?_cons_zero,List.getElem?_cons_succ,List.set_cons_zero,List.set_cons_succ,List.map_cons,List.map_nil,List.length_cons,List.length_nil,List.replicate,List.cons_append,List.nil_append,Nat.reduceAdd,Nat.reduceSub,List.mem_cons,List.not_mem_nil,or_false,forall_eq_or_imp,forall_eq,implies_true,true_and,and_true,if_true,if_false,Bool.false_eq_true,decide_eq_true_eq,Bool.not_eq_true',decide_eq_false_iff_not,Bool.not_eq_eq_eq_not,Bool.not_true,Bool.not_false,beq_self_eq_true,reduceCtorEq,beq_iff_eq,low_length,row_length,fdiv_nat,fmod_nat,two_pow,one_shl,shr,shl,and_mask,clip_nat,Int.one_mul]
  refine ⟨.inr (.inl (by rw [Int.natAbs_natCast]; (clear hs1 hab la hB hw1 hQ hl hb0 hb ha hw9 hw; omega))), ?_⟩
  refine m_bits hw1 hw9 hb.bd hb0 fun r hr1 hr2 hr3 => ?_
  have hbs : b < (2 ^ w) ^ s := Nat.lt_of_lt_of_le (lt_len hB b) (Nat.pow_le_pow_right (by (clear hr3 hr2 hr1 hs2 hs1 hab lb0 la lb hw1 hQ hl hb0 hb ha hw9 hw; omega)) hs1)
  have hrs : r ≤ w * s := by
    rw [← Nat.pow_mul] at hbs
    have := (Nat.pow_lt_pow_iff_right (a := 2) (by decide)).mp (Nat.lt_of_le_of_lt hr2 hbs)
    (clear hbs hr3 hr2 hs2 hs1 hab lb0 la lb hB hw1 hQ hl hb0 hb ha hw9 hw; omega)
  have hws : w * s ≤ 1512 := Nat.le_trans (Nat.mul_le_mul hw9 (show s ≤ 168 by (clear hrs hbs hr3 hr2 hr1 hs1 hab la hB hw1 hQ hl hb0 hb ha hw9 hw; omega))) (by decide)
  rw [← Int.natCast_mul]
  try simp only [orAnd,andAnd,Za,Zb,Zc,Zd,Ze,Zf,Zg,Zh,Zi,Zj,Zk,Zl,Zm,Zn,Zo,Zp,Zq,Zr,Zs,Zt,Zu,Zv,Zw,Zx,Zy,Zz,ZA,ZB,ZC,ZD,ZE,ZF,ZG,ZH,ZI,ZJ,ZK,ZL,ZM,ZN,ZO,ZP,ZQ,ZR,ZS,ZT,ZU,ZV,ZW,ZX,ZY,ZZ,Ya,Yb,Yc,Yd,Ye,Yf,Yg,Yh,Yi,Yj,Yk,Yl,Ym,Yn,Yo,Yp,Yq,Yr,Ys,Yt,Yu,Yv,Yw,Yx,Yy,Yz,YA,YB,YC,YD,YE,YF,YG,YH,YI,row₀,List.getElem?_cons_zero,List.getElem?_cons_succ,List.set_cons_zero,List.set_cons_succ,List.map_cons,List.map_nil,List.length_cons,List.length_nil,List.replicate,List.cons_append,List.nil_append,Nat.reduceAdd,Nat.reduceSub,List.mem_cons,List.not_mem_nil,or_false,forall_eq_or_imp,forall_eq,implies_true,true_and,and_true,if_true,if_false,Bool.false_eq_true,decide_eq_true_eq,Bool.not_eq_true',decide_eq_false_iff_not,Bool.not_eq_eq_eq_not,Bool.not_true,Bool.not_false,beq_self_eq_true,reduceCtorEq,beq_iff_eq,low_length,row_length,fdiv_nat,fmod_nat,two_pow,one_shl,shr,shl,and_mask,clip_nat,Int.one_mul]
  rw [← Int.ofNat_sub hrs]
  generalize hsh : w * s - r = sh at *
  have eB : (2 ^ w) ^ s = 2 ^ r * 2 ^ sh := by rw [← Nat.pow_mul, ← Nat.pow_add]; congr 1; (clear hws hbs hr3 hr2 hr1 hs2 hs1 hab lb0 la lb hB hw1 hQ hl hb0 hb ha hw9 hw; omega)
  have hs0 : 0 < 2 ^ sh := Nat.pow_pos (by decide)
  have hD1 : (2 ^ w) ^ s ≤ 2 * (b * 2 ^ sh) := by
    rw [eB, ← Nat.mul_assoc]
    refine Nat.mul_le_mul_right _ ?_
    have : 2 ^ r = 2 ^ (r - 1) * 2 := by rw [← Nat.pow_succ]; congr 1; (clear hs0 eB hsh hws hrs hbs hr3 hr2 hs2 hs1 hab lb0 la lb hB hw1 hQ hl hb0 hb ha hw9 hw; omega)
    (clear hs0 eB hsh hws hrs hbs hr3 hr1 hs2 hs1 hab lb0 la lb hB hw1 hQ hl hb0 hb ha hw9 hw; omega)
  have hD2 : b * 2 ^ sh < (2 ^ w) ^ s := by rw [eB]; exact Nat.mul_lt_mul_of_pos_right hr3 hs0
  have hN : a * 2 ^ sh < 2 ^ 1624 := by
    have h1 : 2 ^ sh ≤ 2 ^ 1512 := pow_le (by (clear hD2 hD1 hs0 eB hbs hr3 hr2 hs2 hs1 hab lb0 la lb hB hw1 hQ hl hb0 hb ha hw9 hw; omega))
    refine Nat.lt_of_lt_of_le (Nat.mul_lt_mul_of_pos_right ha hs0) ?_
    rw [show (2 : Nat) ^ 1624 = 2 ^ 112 * 2 ^ 1512 by rw [← Nat.pow_add]]
    exact Nat.mul_le_mul_left _ h1
  have eq1 : a * 2 ^ sh / (b * 2 ^ sh) = a / b := Nat.mul_div_mul_right _ _ hs0
  have eq2 : a * 2 ^ sh % (b * 2 ^ sh) / 2 ^ sh = a % b := by rw [Nat.mul_mod_mul_right, Nat.mul_div_cancel _ hs0]
  rw [← eq1, ← eq2] at hQ
  refine WSs.swap ?_
  try simp only [orAnd,andAnd,Za,Zb,Zc,Zd,Ze,Zf,Zg,Zh,Zi,Zj,Zk,Zl,Zm,Zn,Zo,Zp,Zq,Zr,Zs,Zt,Zu,Zv,Zw,Zx,Zy,Zz,ZA,ZB,ZC,ZD,ZE,ZF,ZG,ZH,ZI,ZJ,ZK,ZL,ZM,ZN,ZO,ZP,ZQ,ZR,ZS,ZT,ZU,ZV,ZW,ZX,ZY,ZZ,Ya,Yb,Yc,Yd,Ye,Yf,Yg,Yh,Yi,Yj,Yk,Yl,Ym,Yn,Yo,Yp,Yq,Yr,Ys,Yt,Yu,Yv,Yw,Yx,Yy,Yz,YA,YB,YC,YD,YE,YF,YG,YH,YI,row₀,List.getElem?_cons_zero,List.getElem?_cons_succ,List.set_cons_zero,List.set_cons_succ,List.map_cons,List.map_nil,List.length_cons,List.length_nil,List.replicate,List.cons_append,List.nil_append,Nat.reduceAdd,Nat.reduceSub,List.mem_cons,List.not_mem_nil,or_false,forall_eq_or_imp,forall_eq,implies_true,true_and,and_true,if_true,if_false,Bool.false_eq_true,decide_eq_true_eq,Bool.not_eq_true',decide_eq_false_iff_not,Bool.not_eq_eq_eq_not,Bool.not_true,Bool.not_false,beq_self_eq_true,reduceCtorEq,beq_iff_eq,low_length,row_length,fdiv_nat,fmod_nat,two_pow,one_shl,shr,shl,and_mask,clip_nat,Int.one_mul]
  refine m_shift_left hw1 hw9 hb.bd (by (clear eq2 eq1 hN hD2 hD1 hs0 eB hQ hbs hr3 hr2 hs2 hs1 hab lb0 la lb hB hw1 hl hb0 hb ha hw9 hw; omega)) ?_
  refine m_shift_left hw1 hw9 ha.bd (by (clear eq2 eq1 hN hD2 hD1 hs0 eB hQ hbs hr3 hr2 hs2 hs1 hab lb0 la lb hB hw1 hl hb0 hb ha hw9 hw; omega)) ?_
  generalize b * 2 ^ sh = D at *
  generalize a * 2 ^ sh = N at *
  have P1 : (2 ^ w) ^ s * (2 ^ w) ^ s ≤ 2 ^ 3024 := by
    rw [← Nat.pow_mul, ← Nat.pow_add]
    exact pow_le (by (clear eq2 eq1 hQ hN hD2 hD1 hs0 eB hsh hrs hbs hr3 hr2 hr1 hs2 hs1 hab lb0 la lb hB hw1 hl hb0 hb ha hw9 hw; omega))
  have hP : 0 < (2 ^ w) ^ s := Nat.pow_pos (by (clear P1 eq2 eq1 hQ hN hD2 hD1 hs0 eB hsh hws hrs hbs hr3 hr2 hr1 hs2 hs1 hab lb0 la lb hw1 hl hb0 hb ha hw9 hw; omega))
  have hPP : (2 ^ w) ^ s ≤ (2 ^ w) ^ s * (2 ^ w) ^ s := Nat.le_mul_of_pos_left _ hP
  have bN : Bd N := Bd.of hN (by decide)
  have bP : ∀ {x : Nat}, x ≤ (2 ^ w) ^ s * (2 ^ w) ^ s → Bd x := fun {x} h => Bd.of (n := 3025) (Nat.lt_of_le_of_lt (Nat.le_trans h P1) (by rw [show (2 : Nat) ^ 3025 = 2 ^ 3024 * 2 by rw [← Nat.pow_succ]]; have := Nat.pow_pos (n := 3024) (show 0 < 2 by decide); (clear this h bN hPP hP P1 eq2 eq1 hQ hN hD2 hD1 hs0 eB hsh hws hrs hbs hr3 hr2 hr1 hs2 hs1 hab lb0 la lb hB hw1 hl hb0 hb ha hw9 hw; omega))) (by decide)
  have lN := bN.len hB
  refine WSs.set ?_
  try simp only [orAnd,andAnd,Za,Zb,Zc,Zd,Ze,Zf,Zg,Zh,Zi,Zj,Zk,Zl,Zm,Zn,Zo,Zp,Zq,Zr,Zs,Zt,Zu,Zv,Zw,Zx,Zy,Zz,ZA,ZB,ZC,ZD,ZE,ZF,ZG,ZH,ZI,ZJ,ZK,ZL,ZM,ZN,ZO,ZP,ZQ,ZR,ZS,ZT,ZU,ZV,ZW,ZX,ZY,ZZ,Ya,Yb,Yc,Yd,Ye,Yf,Yg,Yh,Yi,Yj,Yk,Yl,Ym,Yn,Yo,Yp,Yq,Yr,Ys,Yt,Yu,Yv,Yw,Yx,Yy,Yz,YA,YB,YC,YD,YE,YF,YG,YH,YI,row₀,List.getElem?_cons_zero,List.getElem?_cons_succ,List.set_cons_zero,List.set_cons_succ,List.map_cons,List.map_nil,List.length_cons,List.length_nil,List.replicate,List.cons_append,List.nil_append,Nat.reduceAdd,Nat.reduceSub,List.mem_cons,List.not_mem_nil,or_false,forall_eq_or_imp,forall_eq,implies_true,true_and,and_true,if_true,if_false,Bool.false_eq_true,decide_eq_true_eq,Bool.not_eq_true',decide_eq_false_iff_not,Bool.not_eq_eq_eq_not,Bool.not_true,Bool.not_false,beq_self_eq_true,reduceCtorEq,beq_iff_eq,low_length,row_length,fdiv_nat,fmod_nat,two_pow,one_shl,shr,shl,and_mask,clip_nat,Int.one_mul]
  refine ⟨by (clear lN bP bN hPP hP P1 eq2 eq1 hQ hN hD2 hD1 hs0 eB hsh hws hrs hbs hr3 hr2 hr1 hab la hB hw1 hl hb0 hb ha hw9 hw; omega), ⟨64, by decide, by rw [Int.natAbs_natCast]; (clear lN bP bN hPP hP P1 eq2 eq1 hQ hN hD2 hD1 hs0 eB hsh hws hrs hbs hr3 hr2 hr1 hs1 hab la hB hw1 hl hb0 hb ha hw9 hw; omega)⟩, ?_⟩
  have hblk : len (2 ^ w) N / s * s ≤ len (2 ^ w) N := Nat.div_mul_le_self ..
  have hblk' : len (2 ^ w) N < len (2 ^ w) N / s * s + s := by
    have := Nat.div_add_mod (len (2 ^ w) N) s
    have := Nat.mod_lt (len (2 ^ w) N) (show 0 < s by (clear this hblk lN bP bN hPP hP P1 eq2 eq1 hQ hN hD2 hD1 hs0 eB hsh hws hrs hbs hr3 hr2 hr1 hab la hB hw1 hl hb0 hb ha hw9 hw; omega))
    rw [Nat.mul_comm]; (clear hblk lN bP bN hPP hP P1 eq2 eq1 hQ hN hD2 hD1 hs0 eB hsh hws hrs hbs hr3 hr2 hr1 hs2 hs1 hab lb0 la lb hB hw1 hl hb0 hb ha hw9 hw; omega)
  have hblk4 : len (2 ^ w) N / s ≤ len (2 ^ w) N := Nat.div_le_self ..
  generalize len (2 ^ w) N / s = block at *
  refine WSs.swap ?_
  try simp only [orAnd,andAnd,Za,Zb,Zc,Zd,Ze,Zf,Zg,Zh,Zi,Zj,Zk,Zl,Zm,Zn,Zo,Zp,Zq,Zr,Zs,Zt,Zu,Zv,Zw,Zx,Zy,Zz,ZA,ZB,ZC,ZD,ZE,ZF,ZG,ZH,ZI,ZJ,ZK,ZL,ZM,ZN,ZO,ZP,ZQ,ZR,ZS,ZT,ZU,ZV,ZW,ZX,ZY,ZZ,Ya,Yb,Yc,Yd,Ye,Yf,Yg,Yh,Yi,Yj,Yk,Yl,Ym,Yn,Yo,Yp,Yq,Yr,Ys,Yt,Yu,Yv,Yw,Yx,Yy,Yz,YA,YB,YC,YD,YE,YF,YG,YH,YI,row₀,List.getElem?_cons_zero,List.getElem?_cons_succ,List.set_cons_zero,List.set_cons_succ,List.map_cons,List.map_nil,List.length_cons,List.length_nil,List.replicate,List.cons_append,List.nil_append,Nat.reduceAdd,Nat.reduceSub,List.mem_cons,List.not_mem_nil,or_false,forall_eq_or_imp,forall_eq,implies_true,true_and,and_true,if_true,if_false,Bool.false_eq_true,decide_eq_true_eq,Bool.not_eq_true',decide_eq_false_iff_not,Bool.not_eq_eq_eq_not,Bool.not_true,Bool.not_false,beq_self_eq_true,reduceCtorEq,beq_iff_eq,low_length,row_length,fdiv_nat,fmod_nat,two_pow,one_shl,shr,shl,and_mask,clip_nat,Int.one_mul]
  refine ⟨[], rfl, by decide, .inr (.inl (by rw [Int.natAbs_natCast]; (clear hblk' hblk bP bN hPP hP P1 eq2 eq1 hQ hN hD2 hD1 hs0 eB hsh hws hrs hbs hr3 hr2 hr1 hs2 hs1 hab lb0 la lb hB hw1 hl hb0 hb ha hw9 hw; omega))), ?_⟩
  rw [← Int.natCast_mul]
  refine m_down hB ?_
  have hr0 : N / (2 ^ w) ^ (s * block) < D := by
    have h1 : N < (2 ^ w) ^ (s * block + (s - 1)) := Nat.lt_of_lt_of_le (lt_len hB N) (Nat.pow_le_pow_right (by (clear hblk4 hblk' hblk lN bP bN hPP hP P1 eq2 eq1 hQ hN hD2 hD1 hs0 eB hsh hws hrs hbs hr3 hr2 hr1 hs2 hs1 hab lb0 la lb hw1 hl hb0 hb ha hw9 hw; omega)) (by rw [Nat.mul_comm s]; (clear hblk4 lN bP bN hPP hP P1 eq2 eq1 hQ hN hD2 hD1 hs0 eB hsh hws hrs hbs hr3 hr2 hr1 hs2 hs1 hab lb0 la lb hB hw1 hl hb0 hb ha hw9 hw; omega)))
    rw [Nat.pow_add, Nat.mul_comm] at h1
    have h2 := (Nat.div_lt_iff_lt_mul (Nat.pow_pos (by (clear h1 hblk4 hblk' hblk lN bP bN hPP hP P1 eq2 eq1 hQ hN hD2 hD1 hs0 eB hsh hws hrs hbs hr3 hr2 hr1 hs2 hs1 hab lb0 la lb hw1 hl hb0 hb ha hw9 hw; omega)))).mpr h1
    have h3 : (2 ^ w) ^ s = (2 ^ w) ^ (s - 1) * 2 ^ w := by rw [← Nat.pow_succ]; congr 1; (clear h2 h1 hblk4 lN bP bN hPP hP P1 eq2 eq1 hQ hN hD2 hD1 hs0 eB hsh hws hrs hbs hr3 hr2 hr1 hs2 hs1 hab lb0 la lb hB hw1 hl hb0 hb ha hw9 hw; omega)
    have h4 := Nat.mul_le_mul_left ((2 ^ w) ^ (s - 1)) hB
    (clear h1 hblk4 hblk' hblk lN bP bN hPP hP P1 eq2 eq1 hQ hN hD2 hs0 hsh hws hrs hbs hr3 hr2 hr1 hs2 hs1 hab lb0 la lb hB hw1 hl hb0 hb ha hw9 hw; omega)
  refine WSs.for_ ?_
  try simp only [orAnd,andAnd,Za,Zb,Zc,Zd,Ze,Zf,Zg,Zh,Zi,Zj,Zk,Zl,Zm,Zn,Zo,Zp,Zq,Zr,Zs,Zt,Zu,Zv,Zw,Zx,Zy,Zz,ZA,ZB,ZC,ZD,ZE,ZF,ZG,ZH,ZI,ZJ,ZK,ZL,ZM,ZN,ZO,ZP,ZQ,ZR,ZS,ZT,ZU,ZV,ZW,ZX,ZY,ZZ,Ya,Yb,Yc,Yd,Ye,Yf,Yg,Yh,Yi,Yj,Yk,Yl,Ym,Yn,Yo,Yp,Yq,Yr,Ys,Yt,Yu,Yv,Yw,Yx,Yy,Yz,YA,YB,YC,YD,YE,YF,YG,YH,YI,row₀,List.getElem?_cons_zero,List.getElem?_cons_succ,List.set_cons_zero,List.set_cons_succ,List.map_cons,List.map_nil,List.length_cons,List.length_nil,List.replicate,List.cons_append,List.nil_append,Nat.reduceAdd,Nat.reduceSub,List.mem_cons,List.not_mem_nil,or_false,forall_eq_or_imp,forall_eq,implies_true,true_and,and_true,if_true,if_false,Bool.false_eq_true,decide_eq_true_eq,Bool.not_eq_true',decide_eq_false_iff_not,Bool.not_eq_eq_eq_not,Bool.not_true,Bool.not_false,beq_self_eq_true,reduceCtorEq,beq_iff_eq,low_length,row_length,fdiv_nat,fmod_nat,two_pow,one_shl,shr,shl,and_mask,clip_nat,Int.one_mul]
  refine ⟨.of (by (clear hr0 hblk4 hblk' hblk lN bP bN hPP hP P1 eq2 eq1 hQ hN hD2 hD1 hs0 eB hsh hws hrs hbs hr3 hr2 hr1 hs2 hs1 hab lb0 la lb hB hw1 hl hb0 hb ha hw9 hw; omega)) (by (clear hr0 hblk' hblk bP bN hPP hP P1 eq2 eq1 hQ hN hD2 hD1 hs0 eB hsh hws hrs hbs hr3 hr2 hr1 hs2 hs1 hab lb0 la lb hB hw1 hl hb0 hb ha hw9 hw; omega)), .of (by (clear hr0 hblk4 hblk' hblk lN bP bN hPP hP P1 eq2 eq1 hQ hN hD2 hD1 hs0 eB hsh hws hrs hbs hr3 hr2 hr1 hs2 hs1 hab lb0 la lb hB hw1 hl hb0 hb ha hw9 hw; omega)) (by (clear hr0 hblk4 hblk' hblk lN bP bN hPP hP P1 eq2 eq1 hQ hN hD2 hD1 hs0 eB hsh hws hrs hbs hr3 hr2 hr1 hs2 hs1 hab lb0 la lb hB hw1 hl hb0 hb ha hw9 hw; omega)), rng_down block (by (clear hr0 hblk4 hblk' hblk lN bP bN hPP hP P1 eq2 eq1 hQ hN hD2 hD1 hs0 eB hsh hws hrs hbs hr3 hr2 hr1 hs2 hs1 hab lb0 la lb hB hw1 hl hb0 hb ha hw9 hw; omega)) (.of (by (clear hr0 hblk4 hblk' hblk lN bP bN hPP hP P1 eq2 eq1 hQ hN hD2 hD1 hs0 eB hsh hws hrs hbs hr3 hr2 hr1 hs2 hs1 hab lb0 la lb hB hw1 hl hb0 hb ha hw9 hw; omega)) (by (clear hr0 hblk' hblk bP bN hPP hP P1 eq2 eq1 hQ hN hD2 hD1 hs0 eB hsh hws hrs hbs hr3 hr2 hr1 hs2 hs1 hab lb0 la lb hB hw1 hl hb0 hb ha hw9 hw; omega))) (.of (by (clear hr0 hblk4 hblk' hblk lN bP bN hPP hP P1 eq2 eq1 hQ hN hD2 hD1 hs0 eB hsh hws hrs hbs hr3 hr2 hr1 hs2 hs1 hab lb0 la lb hB hw1 hl hb0 hb ha hw9 hw; omega)) (by (clear hr0 hblk4 hblk' hblk lN bP bN hPP hP P1 eq2 eq1 hQ hN hD2 hD1 hs0 eB hsh hws hrs hbs hr3 hr2 hr1 hs2 hs1 hab lb0 la lb hB hw1 hl hb0 hb ha hw9 hw; omega))) fun xs hxs hat => ?_⟩
  have hD0 : 0 < D := by (clear hat hxs hr0 hblk4 hblk' hblk lN bP bN hPP hP P1 eq2 eq1 hQ hN hs0 hsh hws hrs hbs hr3 hr2 hr1 hs2 hs1 hab lb0 la lb hB hw1 hl hb0 hb ha hw9 hw; omega)
  refine ForQ.mk (fun n ρ o σ' => ∃ q1 q2 q3, ρ = [some (rw_ w a), some (rw_ w b), some (.int w), some (.int least), some (.fn "_law_times"), some (.fn "_law_parts"), some (.int s), some (.int sh), some (rw_ w D), some (rw_ w N), some (.int block),
      some (rw_ w (N / (2 ^ w) ^ (s * (block - n)) / D)), some (rw_ w (N / (2 ^ w) ^ (s * (block - n)) % D)), q1, q2, q3] ∧ o = none ∧ σ = σ') ⟨none, none, none, ?_, rfl, rfl⟩ ?_ ?_
  · rw [Nat.sub_zero, Nat.div_eq_of_lt hr0, Nat.mod_eq_of_lt hr0]
    unfold rw_
    rw [row_zero]
  · rintro n _ _ _ ⟨q1, q2, q3, rfl, rfl, rfl⟩ hn
    rw [hxs] at hn
    rw [hat n hn]
    obtain ⟨j, hj⟩ : ∃ j, block - n = j + 1 := ⟨block - n - 1, by (clear hD0 hat hr0 hblk4 hblk' hblk lN bP bN hPP hP P1 eq2 eq1 hQ hN hD2 hD1 hs0 eB hsh hws hrs hbs hr3 hr2 hr1 hs2 hs1 hab lb0 la lb hB hw1 hl hb0 hb ha hw9 hw; omega)⟩
    rw [show ((block : Int) - 1 - (n : Int)) = ((j : Nat) : Int) by (clear hD0 hat hr0 hblk4 hblk' hblk lN bP bN hPP hP P1 eq2 eq1 hQ hN hD2 hD1 hs0 eB hsh hws hrs hbs hr3 hr2 hr1 hs2 hs1 hab lb0 la lb hB hw1 hl hb0 hb ha hw9 hw; omega), hj, show block - (n + 1) = j by (clear hD0 hat hr0 hblk4 hblk' hblk lN bP bN hPP hP P1 eq2 eq1 hQ hN hD2 hD1 hs0 eB hsh hws hrs hbs hr3 hr2 hr1 hs2 hs1 hab lb0 la lb hB hw1 hl hb0 hb ha hw9 hw; omega)]
    have hjb : s * j + s ≤ len (2 ^ w) N := by
      have : s * (j + 1) ≤ s * block := Nat.mul_le_mul_left _ (by (clear hD0 hat hr0 hblk4 hblk' hblk lN bP bN hPP hP P1 eq2 eq1 hQ hN hD2 hD1 hs0 eB hsh hws hrs hbs hr3 hr2 hr1 hs2 hs1 hab lb0 la lb hB hw1 hl hb0 hb ha hw9 hw; omega))
      rw [Nat.mul_succ, Nat.mul_comm s block] at this
      (clear hj hn hD0 hat hxs hr0 hblk4 lN bP bN hPP hP P1 eq2 eq1 hQ hN hD2 hD1 hs0 eB hsh hws hrs hbs hr3 hr2 hr1 hab la hB hw1 hl hb0 hb ha hw9 hw; omega)
    have eN : N / (2 ^ w) ^ (s * j) = N / (2 ^ w) ^ (s * (j + 1)) * (2 ^ w) ^ s + N / (2 ^ w) ^ (s * j) % (2 ^ w) ^ s := by
      rw [Nat.mul_succ, Nat.pow_add, ← Nat.div_div_eq_div_mul, Nat.mul_comm (_ / _ / _)]
      exact (Nat.div_add_mod ..).symm
    have hXle : N / (2 ^ w) ^ (s * j) ≤ N := Nat.div_le_self ..
    refine ⟨trivial, WSs.set ?_⟩
    unfold rw_
    try simp only [orAnd,andAnd,Za,Zb,Zc,Zd,Ze,Zf,Zg,Zh,Zi,Zj,Zk,Zl,Zm,Zn,Zo,Zp,Zq,Zr,Zs,Zt,Zu,Zv,Zw,Zx,Zy,Zz,ZA,ZB,ZC,ZD,ZE,ZF,ZG,ZH,ZI,ZJ,ZK,ZL,ZM,ZN,ZO,ZP,ZQ,ZR,ZS,ZT,ZU,ZV,ZW,ZX,ZY,ZZ,Ya,Yb,Yc,Yd,Ye,Yf,Yg,Yh,Yi,Yj,Yk,Yl,Ym,Yn,Yo,Yp,Yq,Yr,Ys,Yt,Yu,Yv,Yw,Yx,Yy,Yz,YA,YB,YC,YD,YE,YF,YG,YH,YI,row₀,List.getElem?_cons_zero,List.getElem?_cons_succ,List.set_cons_zero,List.set_cons_succ,List.map_cons,List.map_nil,List.length_cons,List.length_nil,List.replicate,List.cons_append,List.nil_append,Nat.reduceAdd,Nat.reduceSub,List.mem_cons,List.not_mem_nil,or_false,forall_eq_or_imp,forall_eq,implies_true,true_and,and_true,if_true,if_false,Bool.false_eq_true,decide_eq_true_eq,Bool.not_eq_true',decide_eq_false_iff_not,Bool.not_eq_eq_eq_not,Bool.not_true,Bool.not_false,beq_self_eq_true,reduceCtorEq,beq_iff_eq,low_length,row_length,fdiv_nat,fmod_nat,two_pow,one_shl,shr,shl,and_mask,clip_nat,Int.one_mul]
    refine ⟨.inr (.inl (by rw [Int.natAbs_natCast]; (clear hXle eN hjb hD0 hat hr0 hblk' hblk bP bN hPP hP P1 eq2 eq1 hQ hN hD2 hD1 hs0 eB hsh hws hrs hbs hr3 hr2 hr1 hs2 hs1 hab lb0 la lb hB hw1 hl hb0 hb ha hw9 hw; omega))), .inr (.inl (by rw [Int.natAbs_natCast]; (clear hXle eN hjb hD0 hat hr0 hblk' hblk bP bN hPP hP P1 eq2 eq1 hQ hN hD2 hD1 hs0 eB hsh hws hrs hbs hr3 hr2 hr1 hs2 hs1 hab lb0 la lb hB hw1 hl hb0 hb ha hw9 hw; omega))), ?_⟩
    rw [← Int.natCast_mul, ← Int.natCast_add]
    try simp only [orAnd,andAnd,Za,Zb,Zc,Zd,Ze,Zf,Zg,Zh,Zi,Zj,Zk,Zl,Zm,Zn,Zo,Zp,Zq,Zr,Zs,Zt,Zu,Zv,Zw,Zx,Zy,Zz,ZA,ZB,ZC,ZD,ZE,ZF,ZG,ZH,ZI,ZJ,ZK,ZL,ZM,ZN,ZO,ZP,ZQ,ZR,ZS,ZT,ZU,ZV,ZW,ZX,ZY,ZZ,Ya,Yb,Yc,Yd,Ye,Yf,Yg,Yh,Yi,Yj,Yk,Yl,Ym,Yn,Yo,Yp,Yq,Yr,Ys,Yt,Yu,Yv,Yw,Yx,Yy,Yz,YA,YB,YC,YD,YE,YF,YG,YH,YI,row₀,List.getElem?_cons_zero,List.getElem?_cons_succ,List.set_cons_zero,List.set_cons_succ,List.map_cons,List.map_nil,List.length_cons,List.length_nil,List.replicate,List.cons_append,List.nil_append,Nat.reduceAdd,Nat.reduceSub,List.mem_cons,List.not_mem_nil,or_false,forall_eq_or_imp,forall_eq,implies_true,true_and,and_true,if_true,if_false,Bool.false_eq_true,decide_eq_true_eq,Bool.not_eq_true',decide_eq_false_iff_not,Bool.not_eq_eq_eq_not,Bool.not_true,Bool.not_false,beq_self_eq_true,reduceCtorEq,beq_iff_eq,low_length,row_length,fdiv_nat,fmod_nat,two_pow,one_shl,shr,shl,and_mask,clip_nat,Int.one_mul]
    rw [Nat.min_eq_left (by (clear hXle eN hj hn hD0 hat hxs hr0 hblk4 hblk' hblk lN bP bN hPP hP P1 eq2 eq1 hQ hN hD2 hD1 hs0 eB hsh hws hrs hbs hr3 hr2 hr1 hs2 hs1 hab lb0 la lb hB hw1 hl hb0 hb ha hw9 hw; omega)), Nat.min_eq_left (by (clear hXle eN hj hn hD0 hat hxs hr0 hblk4 lN bP bN hPP hP P1 eq2 eq1 hQ hN hD2 hD1 hs0 eB hsh hws hrs hbs hr3 hr2 hr1 hs2 hs1 hab lb0 la lb hB hw1 hl hb0 hb ha hw9 hw; omega)), Nat.add_sub_cancel_left]
    refine m_cut hB hjb ?_
    have hm := Nat.mod_lt (N / (2 ^ w) ^ (s * j)) hP
    generalize N / (2 ^ w) ^ (s * j) % (2 ^ w) ^ s = Z at *
    generalize N / (2 ^ w) ^ (s * j) = Y at *
    have hr := Nat.mod_lt (N / (2 ^ w) ^ (s * (j + 1))) hD0
    have dX := Nat.div_add_mod (N / (2 ^ w) ^ (s * (j + 1))) D
    generalize N / (2 ^ w) ^ (s * (j + 1)) = X at *
    generalize X % D = R at *
    have h2 : R * (2 ^ w) ^ s + Z < D * (2 ^ w) ^ s := by
      have : (R + 1) * (2 ^ w) ^ s ≤ D * (2 ^ w) ^ s := Nat.mul_le_mul_right _ hr
      rw [Nat.succ_mul] at this
      (clear dX hr hXle hjb hj hn hD0 hat hxs hr0 hblk4 hblk' hblk lN bP bN hPP hP P1 eq2 eq1 hQ hN hD2 hD1 hs0 hsh hws hrs hbs hr3 hr2 hr1 hs2 hs1 hab lb0 la lb hB hw1 hl hb0 hb ha hw9 hw; omega)
    have h3 : D * (2 ^ w) ^ s ≤ (2 ^ w) ^ s * (2 ^ w) ^ s := Nat.mul_le_mul_right _ (by (clear h2 dX hr eN hXle hm hjb hj hn hD0 hat hxs hr0 hblk4 hblk' hblk lN bP bN hPP hP P1 eq2 eq1 hQ hN hD1 hs0 hsh hws hrs hbs hr3 hr2 hr1 hs2 hs1 hab lb0 la lb hB hw1 hl hb0 hb ha hw9 hw; omega))
    refine WSs.two ?_
    try simp only [orAnd,andAnd,Za,Zb,Zc,Zd,Ze,Zf,Zg,Zh,Zi,Zj,Zk,Zl,Zm,Zn,Zo,Zp,Zq,Zr,Zs,Zt,Zu,Zv,Zw,Zx,Zy,Zz,ZA,ZB,ZC,ZD,ZE,ZF,ZG,ZH,ZI,ZJ,ZK,ZL,ZM,ZN,ZO,ZP,ZQ,ZR,ZS,ZT,ZU,ZV,ZW,ZX,ZY,ZZ,Ya,Yb,Yc,Yd,Ye,Yf,Yg,Yh,Yi,Yj,Yk,Yl,Ym,Yn,Yo,Yp,Yq,Yr,Ys,Yt,Yu,Yv,Yw,Yx,Yy,Yz,YA,YB,YC,YD,YE,YF,YG,YH,YI,row₀,List.getElem?_cons_zero,List.getElem?_cons_succ,List.set_cons_zero,List.set_cons_succ,List.map_cons,List.map_nil,List.length_cons,List.length_nil,List.replicate,List.cons_append,List.nil_append,Nat.reduceAdd,Nat.reduceSub,List.mem_cons,List.not_mem_nil,or_false,forall_eq_or_imp,forall_eq,implies_true,true_and,and_true,if_true,if_false,Bool.false_eq_true,decide_eq_true_eq,Bool.not_eq_true',decide_eq_false_iff_not,Bool.not_eq_eq_eq_not,Bool.not_true,Bool.not_false,beq_self_eq_true,reduceCtorEq,beq_iff_eq,low_length,row_length,fdiv_nat,fmod_nat,two_pow,one_shl,shr,shl,and_mask,clip_nat,Int.one_mul]
    refine m_lifted hB (bP (by (clear h3 h2 eN hXle hm hjb hj hn hD0 hat hxs hr0 hblk4 hblk' hblk lN bP bN hP P1 eq2 eq1 hQ hN hD1 hs0 hsh hws hrs hbs hr3 hr2 hr1 hs2 hs1 hab lb0 la lb hB hw1 hl hb0 hb ha hw9 hw; omega))) (by (clear h3 h2 dX hr eN hXle hm hjb hj hn hD0 hat hxs hr0 hblk4 hblk' hblk lN bP bN hPP hP P1 eq2 eq1 hQ hN hD2 hD1 hs0 eB hsh hws hrs hbs hr3 hr2 hr1 hs1 hab la hB hw1 hl hb0 hb ha hw9 hw; omega)) ?_
    refine m_add hw1 hw9 (bP (by (clear dX hr hXle hm hjb hj hn hD0 hat hxs hr0 hblk4 hblk' hblk lN bP bN hPP hP P1 eq2 eq1 hQ hN hD2 hD1 hs0 eB hsh hws hrs hbs hr3 hr2 hr1 hs2 hs1 hab lb0 la lb hB hw1 hl hb0 hb ha hw9 hw; omega))) (bP (by (clear h3 h2 dX hr hXle hjb hj hn hD0 hat hxs hr0 hblk4 hblk' hblk lN bP bN hP P1 eq2 eq1 hQ hN hD2 hD1 hs0 hsh hws hrs hbs hr3 hr2 hr1 hs2 hs1 hab lb0 la lb hB hw1 hl hb0 hb ha hw9 hw; omega))) ?_
    refine two_ok hw1 hw9 8 k s (by (clear h3 h2 dX hr eN hXle hm hjb hj hn hD0 hat hxs hr0 hblk4 hblk' hblk lN bP bN hPP hP P1 eq2 eq1 hQ hN hD2 hD1 hs0 eB hsh hws hrs hbs hr3 hr2 hr1 hs1 hab la hB hw1 hl hb0 hb ha hw9 hw; omega)) (by (clear h3 h2 dX hr eN hXle hm hjb hj hn hD0 hat hxs hr0 hblk4 hblk' hblk lN bP bN hPP hP P1 eq2 eq1 hQ hN hD2 hD1 hs0 eB hsh hws hrs hbs hr3 hr2 hr1 hs1 hab la hB hw1 hl hb0 hb ha hw9 hw; omega)) _ _ _ _ _ hD1 hD2 h2 ?_
    unfold rw_
    try simp only [orAnd,andAnd,Za,Zb,Zc,Zd,Ze,Zf,Zg,Zh,Zi,Zj,Zk,Zl,Zm,Zn,Zo,Zp,Zq,Zr,Zs,Zt,Zu,Zv,Zw,Zx,Zy,Zz,ZA,ZB,ZC,ZD,ZE,ZF,ZG,ZH,ZI,ZJ,ZK,ZL,ZM,ZN,ZO,ZP,ZQ,ZR,ZS,ZT,ZU,ZV,ZW,ZX,ZY,ZZ,Ya,Yb,Yc,Yd,Ye,Yf,Yg,Yh,Yi,Yj,Yk,Yl,Ym,Yn,Yo,Yp,Yq,Yr,Ys,Yt,Yu,Yv,Yw,Yx,Yy,Yz,YA,YB,YC,YD,YE,YF,YG,YH,YI,row₀,List.getElem?_cons_zero,List.getElem?_cons_succ,List.set_cons_zero,List.set_cons_succ,List.map_cons,List.map_nil,List.length_cons,List.length_nil,List.replicate,List.cons_append,List.nil_append,Nat.reduceAdd,Nat.reduceSub,List.mem_cons,List.not_mem_nil,or_false,forall_eq_or_imp,forall_eq,implies_true,true_and,and_true,if_true,if_false,Bool.false_eq_true,decide_eq_true_eq,Bool.not_eq_true',decide_eq_false_iff_not,Bool.not_eq_eq_eq_not,Bool.not_true,Bool.not_false,beq_self_eq_true,reduceCtorEq,beq_iff_eq,low_length,row_length,fdiv_nat,fmod_nat,two_pow,one_shl,shr,shl,and_mask,clip_nat,Int.one_mul]
    have dY := Nat.div_add_mod (R * (2 ^ w) ^ s + Z) D
    have e : Y = (X / D * (2 ^ w) ^ s + (R * (2 ^ w) ^ s + Z) / D) * D + (R * (2 ^ w) ^ s + Z) % D := by
      have : (D * (X / D) + R) * (2 ^ w) ^ s = X * (2 ^ w) ^ s := by rw [dX]
      grind
    have hd := div_is e (Nat.mod_lt _ hD0)
    have hq : X / D * (2 ^ w) ^ s + (R * (2 ^ w) ^ s + Z) / D ≤ N := by
      rw [← hd.1]; exact Nat.le_trans (Nat.div_le_self ..) hXle
    rw [hd.1, hd.2]
    clear dX dY e
    generalize (R * (2 ^ w) ^ s + Z) / D = T at *
    have up := Nat.le_mul_of_pos_right (X / D) hP
    refine WSs.set ?_
    try simp only [orAnd,andAnd,Za,Zb,Zc,Zd,Ze,Zf,Zg,Zh,Zi,Zj,Zk,Zl,Zm,Zn,Zo,Zp,Zq,Zr,Zs,Zt,Zu,Zv,Zw,Zx,Zy,Zz,ZA,ZB,ZC,ZD,ZE,ZF,ZG,ZH,ZI,ZJ,ZK,ZL,ZM,ZN,ZO,ZP,ZQ,ZR,ZS,ZT,ZU,ZV,ZW,ZX,ZY,ZZ,Ya,Yb,Yc,Yd,Ye,Yf,Yg,Yh,Yi,Yj,Yk,Yl,Ym,Yn,Yo,Yp,Yq,Yr,Ys,Yt,Yu,Yv,Yw,Yx,Yy,Yz,YA,YB,YC,YD,YE,YF,YG,YH,YI,row₀,List.getElem?_cons_zero,List.getElem?_cons_succ,List.set_cons_zero,List.set_cons_succ,List.map_cons,List.map_nil,List.length_cons,List.length_nil,List.replicate,List.cons_append,List.nil_append,Nat.reduceAdd,Nat.reduceSub,List.mem_cons,List.not_mem_nil,or_false,forall_eq_or_imp,forall_eq,implies_true,true_and,and_true,if_true,if_false,Bool.false_eq_true,decide_eq_true_eq,Bool.not_eq_true',decide_eq_false_iff_not,Bool.not_eq_eq_eq_not,Bool.not_true,Bool.not_false,beq_self_eq_true,reduceCtorEq,beq_iff_eq,low_length,row_length,fdiv_nat,fmod_nat,two_pow,one_shl,shr,shl,and_mask,clip_nat,Int.one_mul]
    refine m_lifted hB (bN.le (by (clear hd h3 h2 hr eN hXle hm hjb hj hn hD0 hat hxs hr0 hblk4 hblk' hblk lN bP bN hPP hP P1 eq2 eq1 hQ hN hD2 hD1 hs0 eB hsh hws hrs hbs hr3 hr2 hr1 hs2 hs1 hab lb0 la lb hB hw1 hl hb0 hb ha hw9 hw; omega))) (by (clear up hq hd h3 h2 hr eN hXle hm hjb hj hn hD0 hat hxs hr0 hblk4 hblk' hblk lN bP bN hPP hP P1 eq2 eq1 hQ hN hD2 hD1 hs0 eB hsh hws hrs hbs hr3 hr2 hr1 hs1 hab la hB hw1 hl hb0 hb ha hw9 hw; omega)) ?_
    refine m_add hw1 hw9 (bN.le (by (clear up hd h3 h2 hr eN hXle hm hjb hj hn hD0 hat hxs hr0 hblk4 hblk' hblk lN bP bN hPP hP P1 eq2 eq1 hQ hN hD2 hD1 hs0 eB hsh hws hrs hbs hr3 hr2 hr1 hs2 hs1 hab lb0 la lb hB hw1 hl hb0 hb ha hw9 hw; omega))) (bN.le (by (clear up hd h3 h2 hr eN hXle hm hjb hj hn hD0 hat hxs hr0 hblk4 hblk' hblk lN bP bN hPP hP P1 eq2 eq1 hQ hN hD2 hD1 hs0 eB hsh hws hrs hbs hr3 hr2 hr1 hs2 hs1 hab lb0 la lb hB hw1 hl hb0 hb ha hw9 hw; omega))) ?_
    exact WSs.nil ⟨_, _, _, rfl, rfl, rfl⟩
  · rintro _ _ _ ⟨q1, q2, q3, rfl, rfl, rfl⟩
    rw [hxs, Nat.sub_self, Nat.mul_zero, Nat.pow_zero, Nat.div_one]
    refine WSs.ret ?_
    unfold rw_
    try simp only [orAnd,andAnd,Za,Zb,Zc,Zd,Ze,Zf,Zg,Zh,Zi,Zj,Zk,Zl,Zm,Zn,Zo,Zp,Zq,Zr,Zs,Zt,Zu,Zv,Zw,Zx,Zy,Zz,ZA,ZB,ZC,ZD,ZE,ZF,ZG,ZH,ZI,ZJ,ZK,ZL,ZM,ZN,ZO,ZP,ZQ,ZR,ZS,ZT,ZU,ZV,ZW,ZX,ZY,ZZ,Ya,Yb,Yc,Yd,Ye,Yf,Yg,Yh,Yi,Yj,Yk,Yl,Ym,Yn,Yo,Yp,Yq,Yr,Ys,Yt,Yu,Yv,Yw,Yx,Yy,Yz,YA,YB,YC,YD,YE,YF,YG,YH,YI,row₀,List.getElem?_cons_zero,List.getElem?_cons_succ,List.set_cons_zero,List.set_cons_succ,List.map_cons,List.map_nil,List.length_cons,List.length_nil,List.replicate,List.cons_append,List.nil_append,Nat.reduceAdd,Nat.reduceSub,List.mem_cons,List.not_mem_nil,or_false,forall_eq_or_imp,forall_eq,implies_true,true_and,and_true,if_true,if_false,Bool.false_eq_true,decide_eq_true_eq,Bool.not_eq_true',decide_eq_false_iff_not,Bool.not_eq_eq_eq_not,Bool.not_true,Bool.not_false,beq_self_eq_true,reduceCtorEq,beq_iff_eq,low_length,row_length,fdiv_nat,fmod_nat,two_pow,one_shl,shr,shl,and_mask,clip_nat,Int.one_mul]
    exact m_shift_right hw1 hw9 (bN.le (Nat.mod_le ..)) (by (clear hD0 hat hxs hr0 hblk4 hblk' hblk lN bP bN hPP hP P1 eq2 eq1 hQ hN hD2 hD1 hs0 eB hbs hr3 hr2 hs2 hs1 hab lb0 la lb hB hw1 hl hb0 hb ha hw9 hw; omega)) hQ
end
end
section
open PySem PySem.W PyProof.Rows
set_option exponentiation.threshold 5000

section
variable {W : Wd} {k w : Nat} {σ : Bx} {Q : V → Bx → Prop}

theorem one_bd : Bd 1 := Bd.of (n := 1) (by decide) (by decide)

theorem m_bits_of_quotient {R b many : Nat} (hw : 1 ≤ w) (hw9 : w ≤ 9) (hR : R < b) (hb : Bd b) (hm : many ≤ 4000) (hX : Bd (2 * (R * 2 ^ many))) (hQ : Q (rw_ w (R * 2 ^ many / b)) σ) :
    Meets W (k + 3) "bits_of_quotient" [rw_ w R, rw_ w b, .int many, .int w] Q σ := by
  have hB := w_pow hw
  refine meets c_bits_of_quotient rfl ?_
  unfold rw_ at *
  refine WSs.set ?_
  try simp only [orAnd,andAnd,Za,Zb,Zc,Zd,Ze,Zf,Zg,Zh,Zi,Zj,Zk,Zl,Zm,Zn,Zo,Zp,Zq,Zr,Zs,Zt,Zu,Zv,Zw,Zx,Zy,Zz,ZA,ZB,ZC,ZD,ZE,ZF,ZG,ZH,ZI,ZJ,ZK,ZL,ZM,ZN,ZO,ZP,ZQ,ZR,ZS,ZT,ZU,ZV,ZW,ZX,ZY,ZZ,Ya,Yb,Yc,Yd,Ye,Yf,Yg,Yh,Yi,Yj,Yk,Yl,Ym,Yn,Yo,Yp,Yq,Yr,Ys,Yt,Yu,Yv,Yw,Yx,Yy,Yz,YA,YB,YC,YD,YE,YF,YG,YH,YI,row₀,List.getElem?_cons_zero,List.getElem?_cons_succ,List.set_cons_zero,List.set_cons_succ,List.map_cons,List.map_nil,List.length_cons,List.length_nil,List.replicate,List.cons_append,List.nil_append,Nat.reduceAdd,Nat.reduceSub,List.mem_cons,List.not_mem_nil,or_false,forall_eq_or_imp,forall_eq,implies_true,true_and,and_true,if_true,if_false,Bool.false_eq_true,decide_eq_true_eq,Bool.not_eq_true',decide_eq_false_iff_not,Bool.not_eq_eq_eq_not,Bool.not_true,Bool.not_false,beq_self_eq_true,reduceCtorEq,beq_iff_eq,low_length,row_length,fdiv_nat,fmod_nat,two_pow,one_shl,shr,shl,and_mask,clip_nat,Int.one_mul]
  refine ⟨[], rfl, by decide, ?_⟩
  refine WSs.for_ ?_
  try simp only [orAnd,andAnd,Za,Zb,Zc,Zd,Ze,Zf,Zg,Zh,Zi,Zj,Zk,Zl,Zm,Zn,Zo,Zp,Zq,Zr,Zs,Zt,Zu,Zv,Zw,Zx,Zy,Zz,ZA,ZB,ZC,ZD,ZE,ZF,ZG,ZH,ZI,ZJ,ZK,ZL,ZM,ZN,ZO,ZP,ZQ,ZR,ZS,ZT,ZU,ZV,ZW,ZX,ZY,ZZ,Ya,Yb,Yc,Yd,Ye,Yf,Yg,Yh,Yi,Yj,Yk,Yl,Ym,Yn,Yo,Yp,Yq,Yr,Ys,Yt,Yu,Yv,Yw,Yx,Yy,Yz,YA,YB,YC,YD,YE,YF,YG,YH,YI,row₀,List.getElem?_cons_zero,List.getElem?_cons_succ,List.set_cons_zero,List.set_cons_succ,List.map_cons,List.map_nil,List.length_cons,List.length_nil,List.replicate,List.cons_append,List.nil_append,Nat.reduceAdd,Nat.reduceSub,List.mem_cons,List.not_mem_nil,or_false,forall_eq_or_imp,forall_eq,implies_true,true_and,and_true,if_true,if_false,Bool.false_eq_true,decide_eq_true_eq,Bool.not_eq_true',decide_eq_false_iff_not,Bool.not_eq_eq_eq_not,Bool.not_true,Bool.not_false,beq_self_eq_true,reduceCtorEq,beq_iff_eq,low_length,row_length,fdiv_nat,fmod_nat,two_pow,one_shl,shr,shl,and_mask,clip_nat,Int.one_mul]
  refine ⟨.of (by (clear hB hQ hX hb hR hw9 hw; omega)) (by (clear hB hQ hX hb hR hw9 hw; omega)), rng_up many (by (clear hB hQ hX hb hR hw9 hw; omega)) (.of (by (clear hB hQ hX hm hb hR hw9 hw; omega)) (by (clear hB hQ hX hm hb hR hw9 hw; omega))) (.of (by (clear hB hQ hX hb hR hw9 hw; omega)) (by (clear hB hQ hX hb hR hw9 hw; omega))) fun xs hxs hat => ?_⟩
  have hb0 : 0 < b := by (clear hat hxs hB hQ hX hm hb hw9 hw; omega)
  refine ForQ.mk (fun n ρ o σ' => ∃ q1, ρ = [some (rw_ w (R * 2 ^ n % b)), some (rw_ w b), some (.int many), some (.int w), some (rw_ w (R * 2 ^ n / b)), q1] ∧ o = none ∧ σ = σ') ⟨none, ?_, rfl, rfl⟩ ?_ ?_
  · rw [Nat.pow_zero, Nat.mul_one, Nat.mod_eq_of_lt hR, Nat.div_eq_of_lt hR]
    unfold rw_
    rw [row_zero]
  · rintro n _ _ _ ⟨q1, rfl, rfl, rfl⟩ hn
    rw [hxs] at hn
    have hle : R * 2 ^ n ≤ R * 2 ^ many := Nat.mul_le_mul_left _ (pow_le (by (clear hb0 hat hB hQ hX hm hb hR hw9 hw; omega)))
    have e2 : R * 2 ^ (n + 1) = 2 * (R * 2 ^ n) := by rw [Nat.pow_succ]; grind
    rw [e2]
    generalize R * 2 ^ n = X at *
    have hd := Nat.div_add_mod X b
    have hmb := Nat.mod_lt X hb0
    have hml := Nat.mod_le X b
    have hdl := Nat.div_le_self X b
    generalize X / b = D at *
    generalize X % b = M at *
    unfold rw_
    refine ⟨trivial, WSs.set ?_⟩
    try simp only [orAnd,andAnd,Za,Zb,Zc,Zd,Ze,Zf,Zg,Zh,Zi,Zj,Zk,Zl,Zm,Zn,Zo,Zp,Zq,Zr,Zs,Zt,Zu,Zv,Zw,Zx,Zy,Zz,ZA,ZB,ZC,ZD,ZE,ZF,ZG,ZH,ZI,ZJ,ZK,ZL,ZM,ZN,ZO,ZP,ZQ,ZR,ZS,ZT,ZU,ZV,ZW,ZX,ZY,ZZ,Ya,Yb,Yc,Yd,Ye,Yf,Yg,Yh,Yi,Yj,Yk,Yl,Ym,Yn,Yo,Yp,Yq,Yr,Ys,Yt,Yu,Yv,Yw,Yx,Yy,Yz,YA,YB,YC,YD,YE,YF,YG,YH,YI,row₀,List.getElem?_cons_zero,List.getElem?_cons_succ,List.set_cons_zero,List.set_cons_succ,List.map_cons,List.map_nil,List.length_cons,List.length_nil,List.replicate,List.cons_append,List.nil_append,Nat.reduceAdd,Nat.reduceSub,List.mem_cons,List.not_mem_nil,or_false,forall_eq_or_imp,forall_eq,implies_true,true_and,and_true,if_true,if_false,Bool.false_eq_true,decide_eq_true_eq,Bool.not_eq_true',decide_eq_false_iff_not,Bool.not_eq_eq_eq_not,Bool.not_true,Bool.not_false,beq_self_eq_true,reduceCtorEq,beq_iff_eq,low_length,row_length,fdiv_nat,fmod_nat,two_pow,one_shl,shr,shl,and_mask,clip_nat,Int.one_mul]
    refine m_shift_left (n := 1) hw hw9 (hX.le (by (clear hmb hdl e2 hn hb0 hat hxs hB hQ hX hm hb hR hw9 hw; omega))) (by (clear hd hml hmb hdl e2 hle hn hb0 hat hxs hB hQ hX hm hb hR hw9 hw; omega)) ?_
    refine WSs.set ?_
    try simp only [orAnd,andAnd,Za,Zb,Zc,Zd,Ze,Zf,Zg,Zh,Zi,Zj,Zk,Zl,Zm,Zn,Zo,Zp,Zq,Zr,Zs,Zt,Zu,Zv,Zw,Zx,Zy,Zz,ZA,ZB,ZC,ZD,ZE,ZF,ZG,ZH,ZI,ZJ,ZK,ZL,ZM,ZN,ZO,ZP,ZQ,ZR,ZS,ZT,ZU,ZV,ZW,ZX,ZY,ZZ,Ya,Yb,Yc,Yd,Ye,Yf,Yg,Yh,Yi,Yj,Yk,Yl,Ym,Yn,Yo,Yp,Yq,Yr,Ys,Yt,Yu,Yv,Yw,Yx,Yy,Yz,YA,YB,YC,YD,YE,YF,YG,YH,YI,row₀,List.getElem?_cons_zero,List.getElem?_cons_succ,List.set_cons_zero,List.set_cons_succ,List.map_cons,List.map_nil,List.length_cons,List.length_nil,List.replicate,List.cons_append,List.nil_append,Nat.reduceAdd,Nat.reduceSub,List.mem_cons,List.not_mem_nil,or_false,forall_eq_or_imp,forall_eq,implies_true,true_and,and_true,if_true,if_false,Bool.false_eq_true,decide_eq_true_eq,Bool.not_eq_true',decide_eq_false_iff_not,Bool.not_eq_eq_eq_not,Bool.not_true,Bool.not_false,beq_self_eq_true,reduceCtorEq,beq_iff_eq,low_length,row_length,fdiv_nat,fmod_nat,two_pow,one_shl,shr,shl,and_mask,clip_nat,Int.one_mul]
    refine m_shift_left (n := 1) hw hw9 (hX.le (by (clear hml hmb hn hb0 hat hxs hB hQ hX hm hb hR hw9 hw; omega))) (by (clear hd hml hmb hdl e2 hle hn hb0 hat hxs hB hQ hX hm hb hR hw9 hw; omega)) ?_
    refine WSs.ite ?_
    try simp only [orAnd,andAnd,Za,Zb,Zc,Zd,Ze,Zf,Zg,Zh,Zi,Zj,Zk,Zl,Zm,Zn,Zo,Zp,Zq,Zr,Zs,Zt,Zu,Zv,Zw,Zx,Zy,Zz,ZA,ZB,ZC,ZD,ZE,ZF,ZG,ZH,ZI,ZJ,ZK,ZL,ZM,ZN,ZO,ZP,ZQ,ZR,ZS,ZT,ZU,ZV,ZW,ZX,ZY,ZZ,Ya,Yb,Yc,Yd,Ye,Yf,Yg,Yh,Yi,Yj,Yk,Yl,Ym,Yn,Yo,Yp,Yq,Yr,Ys,Yt,Yu,Yv,Yw,Yx,Yy,Yz,YA,YB,YC,YD,YE,YF,YG,YH,YI,row₀,List.getElem?_cons_zero,List.getElem?_cons_succ,List.set_cons_zero,List.set_cons_succ,List.map_cons,List.map_nil,List.length_cons,List.length_nil,List.replicate,List.cons_append,List.nil_append,Nat.reduceAdd,Nat.reduceSub,List.mem_cons,List.not_mem_nil,or_false,forall_eq_or_imp,forall_eq,implies_true,true_and,and_true,if_true,if_false,Bool.false_eq_true,decide_eq_true_eq,Bool.not_eq_true',decide_eq_false_iff_not,Bool.not_eq_eq_eq_not,Bool.not_true,Bool.not_false,beq_self_eq_true,reduceCtorEq,beq_iff_eq,low_length,row_length,fdiv_nat,fmod_nat,two_pow,one_shl,shr,shl,and_mask,clip_nat,Int.one_mul]
    rw [Nat.pow_one]
    refine m_compare hB (hX.le (by (clear hmb hdl e2 hn hb0 hat hxs hB hQ hX hm hb hR hw9 hw; omega))) hb ?_
    try simp only [orAnd,andAnd,Za,Zb,Zc,Zd,Ze,Zf,Zg,Zh,Zi,Zj,Zk,Zl,Zm,Zn,Zo,Zp,Zq,Zr,Zs,Zt,Zu,Zv,Zw,Zx,Zy,Zz,ZA,ZB,ZC,ZD,ZE,ZF,ZG,ZH,ZI,ZJ,ZK,ZL,ZM,ZN,ZO,ZP,ZQ,ZR,ZS,ZT,ZU,ZV,ZW,ZX,ZY,ZZ,Ya,Yb,Yc,Yd,Ye,Yf,Yg,Yh,Yi,Yj,Yk,Yl,Ym,Yn,Yo,Yp,Yq,Yr,Ys,Yt,Yu,Yv,Yw,Yx,Yy,Yz,YA,YB,YC,YD,YE,YF,YG,YH,YI,row₀,List.getElem?_cons_zero,List.getElem?_cons_succ,List.set_cons_zero,List.set_cons_succ,List.map_cons,List.map_nil,List.length_cons,List.length_nil,List.replicate,List.cons_append,List.nil_append,Nat.reduceAdd,Nat.reduceSub,List.mem_cons,List.not_mem_nil,or_false,forall_eq_or_imp,forall_eq,implies_true,true_and,and_true,if_true,if_false,Bool.false_eq_true,decide_eq_true_eq,Bool.not_eq_true',decide_eq_false_iff_not,Bool.not_eq_eq_eq_not,Bool.not_true,Bool.not_false,beq_self_eq_true,reduceCtorEq,beq_iff_eq,low_length,row_length,fdiv_nat,fmod_nat,two_pow,one_shl,shr,shl,and_mask,clip_nat,Int.one_mul]
    by_cases hc : b ≤ M * 2
    · rw [if_pos (by rw [cmp3_ge]; exact hc)]
      have hdd := div_is (a := 2 * X) (b := b) (q := D * 2 + 1) (r := M * 2 - b) (by have := Nat.mul_comm b D; have : (D * 2 + 1) * b = 2 * (b * D) + b := by grind
                                                                                     (clear hml hmb hdl e2 hle hn hb0 hat hxs hB hQ hX hm hb hR hw9 hw; omega)) (by (clear hd hml hdl e2 hle hn hb0 hat hxs hB hQ hX hm hb hR hw9 hw; omega))
      refine WSs.set ?_
      try simp only [orAnd,andAnd,Za,Zb,Zc,Zd,Ze,Zf,Zg,Zh,Zi,Zj,Zk,Zl,Zm,Zn,Zo,Zp,Zq,Zr,Zs,Zt,Zu,Zv,Zw,Zx,Zy,Zz,ZA,ZB,ZC,ZD,ZE,ZF,ZG,ZH,ZI,ZJ,ZK,ZL,ZM,ZN,ZO,ZP,ZQ,ZR,ZS,ZT,ZU,ZV,ZW,ZX,ZY,ZZ,Ya,Yb,Yc,Yd,Ye,Yf,Yg,Yh,Yi,Yj,Yk,Yl,Ym,Yn,Yo,Yp,Yq,Yr,Ys,Yt,Yu,Yv,Yw,Yx,Yy,Yz,YA,YB,YC,YD,YE,YF,YG,YH,YI,row₀,List.getElem?_cons_zero,List.getElem?_cons_succ,List.set_cons_zero,List.set_cons_succ,List.map_cons,List.map_nil,List.length_cons,List.length_nil,List.replicate,List.cons_append,List.nil_append,Nat.reduceAdd,Nat.reduceSub,List.mem_cons,List.not_mem_nil,or_false,forall_eq_or_imp,forall_eq,implies_true,true_and,and_true,if_true,if_false,Bool.false_eq_true,decide_eq_true_eq,Bool.not_eq_true',decide_eq_false_iff_not,Bool.not_eq_eq_eq_not,Bool.not_true,Bool.not_false,beq_self_eq_true,reduceCtorEq,beq_iff_eq,low_length,row_length,fdiv_nat,fmod_nat,two_pow,one_shl,shr,shl,and_mask,clip_nat,Int.one_mul]
      refine m_sub hw hw9 (hX.le (by (clear hdd hc hmb hdl e2 hn hb0 hat hxs hB hQ hX hm hb hR hw9 hw; omega))) hc ?_
      refine WSs.set ?_
      try simp only [orAnd,andAnd,Za,Zb,Zc,Zd,Ze,Zf,Zg,Zh,Zi,Zj,Zk,Zl,Zm,Zn,Zo,Zp,Zq,Zr,Zs,Zt,Zu,Zv,Zw,Zx,Zy,Zz,ZA,ZB,ZC,ZD,ZE,ZF,ZG,ZH,ZI,ZJ,ZK,ZL,ZM,ZN,ZO,ZP,ZQ,ZR,ZS,ZT,ZU,ZV,ZW,ZX,ZY,ZZ,Ya,Yb,Yc,Yd,Ye,Yf,Yg,Yh,Yi,Yj,Yk,Yl,Ym,Yn,Yo,Yp,Yq,Yr,Ys,Yt,Yu,Yv,Yw,Yx,Yy,Yz,YA,YB,YC,YD,YE,YF,YG,YH,YI,row₀,List.getElem?_cons_zero,List.getElem?_cons_succ,List.set_cons_zero,List.set_cons_succ,List.map_cons,List.map_nil,List.length_cons,List.length_nil,List.replicate,List.cons_append,List.nil_append,Nat.reduceAdd,Nat.reduceSub,List.mem_cons,List.not_mem_nil,or_false,forall_eq_or_imp,forall_eq,implies_true,true_and,and_true,if_true,if_false,Bool.false_eq_true,decide_eq_true_eq,Bool.not_eq_true',decide_eq_false_iff_not,Bool.not_eq_eq_eq_not,Bool.not_true,Bool.not_false,beq_self_eq_true,reduceCtorEq,beq_iff_eq,low_length,row_length,fdiv_nat,fmod_nat,two_pow,one_shl,shr,shl,and_mask,clip_nat,Int.one_mul]
      refine ⟨[1], rfl, by decide, ?_⟩
      rw [← row_one hB]
      refine m_add hw hw9 (hX.le (by (clear hdd hc hml hmb e2 hn hb0 hat hxs hB hQ hX hm hb hR hw9 hw; omega))) one_bd ?_
      rw [hdd.1, hdd.2]
      exact WSs.nil (WSs.nil ⟨_, rfl, rfl, rfl⟩)
    · rw [if_neg (by rw [cmp3_ge]; exact hc)]
      have hdd := div_is (a := 2 * X) (b := b) (q := D * 2) (r := M * 2) (by have : (D * 2) * b = 2 * (b * D) := by grind
                                                                             (clear hc hml hmb hdl e2 hle hn hb0 hat hxs hB hQ hX hm hb hR hw9 hw; omega)) (by (clear hd hml hmb hdl e2 hle hn hb0 hat hxs hB hQ hX hm hb hR hw9 hw; omega))
      rw [hdd.1, hdd.2]
      exact WSs.nil (WSs.nil ⟨_, rfl, rfl, rfl⟩)
  · rintro _ _ _ ⟨q1, rfl, rfl, rfl⟩
    rw [hxs]
    refine WSs.ret ?_
    try simp only [orAnd,andAnd,Za,Zb,Zc,Zd,Ze,Zf,Zg,Zh,Zi,Zj,Zk,Zl,Zm,Zn,Zo,Zp,Zq,Zr,Zs,Zt,Zu,Zv,Zw,Zx,Zy,Zz,ZA,ZB,ZC,ZD,ZE,ZF,ZG,ZH,ZI,ZJ,ZK,ZL,ZM,ZN,ZO,ZP,ZQ,ZR,ZS,ZT,ZU,ZV,ZW,ZX,ZY,ZZ,Ya,Yb,Yc,Yd,Ye,Yf,Yg,Yh,Yi,Yj,Yk,Yl,Ym,Yn,Yo,Yp,Yq,Yr,Ys,Yt,Yu,Yv,Yw,Yx,Yy,Yz,YA,YB,YC,YD,YE,YF,YG,YH,YI,row₀,List.getElem?_cons_zero,List.getElem?_cons_succ,List.set_cons_zero,List.set_cons_succ,List.map_cons,List.map_nil,List.length_cons,List.length_nil,List.replicate,List.cons_append,List.nil_append,Nat.reduceAdd,Nat.reduceSub,List.mem_cons,List.not_mem_nil,or_false,forall_eq_or_imp,forall_eq,implies_true,true_and,and_true,if_true,if_false,Bool.false_eq_true,decide_eq_true_eq,Bool.not_eq_true',decide_eq_false_iff_not,Bool.not_eq_eq_eq_not,Bool.not_true,Bool.not_false,beq_self_eq_true,reduceCtorEq,beq_iff_eq,low_length,row_length,fdiv_nat,fmod_nat,two_pow,one_shl,shr,shl,and_mask,clip_nat,Int.one_mul]
    exact hQ

theorem len_low {B x : Nat} (hB : 2 ≤ B) (h : 0 < x) : 0 < len B x ∧ B ^ (len B x - 1) ≤ x := by
  have : 0 < len B x := by
    rcases Nat.eq_zero_or_pos (len B x) with q | q
    · have := len_eq_zero hB q; (clear q hB; omega)
    · exact q
  exact ⟨this, pow_len hB (by (clear h hB; omega))⟩

theorem m_whole_of_power {b n : Nat} (hw : 1 ≤ w) (hw9 : w ≤ 9) (hb0 : 0 < b) (hn : len (2 ^ w) b ≤ n + 1) (hn2 : n ≤ 300) (hQ : Q (rw_ w ((2 ^ w) ^ n / b)) σ) :
    Meets W (k + 4) "whole_of_power" [rw_ w b, .int n, .int w] Q σ := by
  have hB := w_pow hw
  obtain ⟨hl0, hl1⟩ := len_low hB hb0
  have hbP : b < 2 ^ w * (2 ^ w) ^ n := by
    rw [← Nat.pow_succ']
    exact Nat.lt_of_lt_of_le (lt_len hB b) (Nat.pow_le_pow_right (by (clear hl1 hl0 hQ hn2 hn hb0 hw9 hw; omega)) hn)
  have hB9 := pow9 hw9
  have bP1 : ∀ {x : Nat}, x ≤ 8 * (2 ^ w * (2 ^ w) ^ n) → Bd x := fun {x} h => pow_bd hw9 (n := n + 1) (by (clear h hB9 hbP hl1 hl0 hB hQ hn hb0 hw9 hw; omega)) (by rw [Nat.pow_succ']; exact h)
  have h1P : (2 ^ w) ^ n ≤ 2 ^ w * (2 ^ w) ^ n := Nat.le_mul_of_pos_left _ (by (clear bP1 hbP hl1 hl0 hQ hn2 hn hb0 hw9 hw; omega))
  refine meets c_whole_of_power rfl ?_
  unfold rw_ at *
  refine WSs.set ?_
  try simp only [orAnd,andAnd,Za,Zb,Zc,Zd,Ze,Zf,Zg,Zh,Zi,Zj,Zk,Zl,Zm,Zn,Zo,Zp,Zq,Zr,Zs,Zt,Zu,Zv,Zw,Zx,Zy,Zz,ZA,ZB,ZC,ZD,ZE,ZF,ZG,ZH,ZI,ZJ,ZK,ZL,ZM,ZN,ZO,ZP,ZQ,ZR,ZS,ZT,ZU,ZV,ZW,ZX,ZY,ZZ,Ya,Yb,Yc,Yd,Ye,Yf,Yg,Yh,Yi,Yj,Yk,Yl,Ym,Yn,Yo,Yp,Yq,Yr,Ys,Yt,Yu,Yv,Yw,Yx,Yy,Yz,YA,YB,YC,YD,YE,YF,YG,YH,YI,row₀,List.getElem?_cons_zero,List.getElem?_cons_succ,List.set_cons_zero,List.set_cons_succ,List.map_cons,List.map_nil,List.length_cons,List.length_nil,List.replicate,List.cons_append,List.nil_append,Nat.reduceAdd,Nat.reduceSub,List.mem_cons,List.not_mem_nil,or_false,forall_eq_or_imp,forall_eq,implies_true,true_and,and_true,if_true,if_false,Bool.false_eq_true,decide_eq_true_eq,Bool.not_eq_true',decide_eq_false_iff_not,Bool.not_eq_eq_eq_not,Bool.not_true,Bool.not_false,beq_self_eq_true,reduceCtorEq,beq_iff_eq,low_length,row_length,fdiv_nat,fmod_nat,two_pow,one_shl,shr,shl,and_mask,clip_nat,Int.one_mul]
  refine ⟨[1], rfl, by decide, ?_⟩
  rw [← row_one hB, ← Int.ofNat_one, ← Int.ofNat_sub (by (clear h1P bP1 hB9 hbP hl1 hB hQ hn2 hn hb0 hw9 hw; omega))]
  refine m_lifted hB one_bd (by (clear h1P bP1 hB9 hbP hl1 hB hQ hb0 hw9 hw; omega)) ?_
  rw [Nat.one_mul]
  generalize hl : len (2 ^ w) b - 1 = l at *
  have el : len (2 ^ w) b = l + 1 := by (clear hl1 h1P bP1 hB9 hbP hB hQ hn2 hn hb0 hw9 hw; omega)
  have ePl : (2 ^ w) ^ l * (2 ^ w) ^ (n - l) = (2 ^ w) ^ n := by rw [← Nat.pow_add]; congr 1; (clear hl1 hl h1P bP1 hB9 hbP hl0 hB hQ hn2 hb0 hw9 hw; omega)
  refine WSs.ite ?_
  try simp only [orAnd,andAnd,Za,Zb,Zc,Zd,Ze,Zf,Zg,Zh,Zi,Zj,Zk,Zl,Zm,Zn,Zo,Zp,Zq,Zr,Zs,Zt,Zu,Zv,Zw,Zx,Zy,Zz,ZA,ZB,ZC,ZD,ZE,ZF,ZG,ZH,ZI,ZJ,ZK,ZL,ZM,ZN,ZO,ZP,ZQ,ZR,ZS,ZT,ZU,ZV,ZW,ZX,ZY,ZZ,Ya,Yb,Yc,Yd,Ye,Yf,Yg,Yh,Yi,Yj,Yk,Yl,Ym,Yn,Yo,Yp,Yq,Yr,Ys,Yt,Yu,Yv,Yw,Yx,Yy,Yz,YA,YB,YC,YD,YE,YF,YG,YH,YI,row₀,List.getElem?_cons_zero,List.getElem?_cons_succ,List.set_cons_zero,List.set_cons_succ,List.map_cons,List.map_nil,List.length_cons,List.length_nil,List.replicate,List.cons_append,List.nil_append,Nat.reduceAdd,Nat.reduceSub,List.mem_cons,List.not_mem_nil,or_false,forall_eq_or_imp,forall_eq,implies_true,true_and,and_true,if_true,if_false,Bool.false_eq_true,decide_eq_true_eq,Bool.not_eq_true',decide_eq_false_iff_not,Bool.not_eq_eq_eq_not,Bool.not_true,Bool.not_false,beq_self_eq_true,reduceCtorEq,beq_iff_eq,low_length,row_length,fdiv_nat,fmod_nat,two_pow,one_shl,shr,shl,and_mask,clip_nat,Int.one_mul]
  refine m_compare hB (bP1 (by (clear ePl el hl h1P bP1 hB9 hl0 hB hQ hn2 hn hb0 hw9 hw; omega))) (bP1 (by (clear ePl el hl1 hl h1P bP1 hB9 hl0 hB hQ hn2 hn hw9 hw; omega))) ?_
  try simp only [orAnd,andAnd,Za,Zb,Zc,Zd,Ze,Zf,Zg,Zh,Zi,Zj,Zk,Zl,Zm,Zn,Zo,Zp,Zq,Zr,Zs,Zt,Zu,Zv,Zw,Zx,Zy,Zz,ZA,ZB,ZC,ZD,ZE,ZF,ZG,ZH,ZI,ZJ,ZK,ZL,ZM,ZN,ZO,ZP,ZQ,ZR,ZS,ZT,ZU,ZV,ZW,ZX,ZY,ZZ,Ya,Yb,Yc,Yd,Ye,Yf,Yg,Yh,Yi,Yj,Yk,Yl,Ym,Yn,Yo,Yp,Yq,Yr,Ys,Yt,Yu,Yv,Yw,Yx,Yy,Yz,YA,YB,YC,YD,YE,YF,YG,YH,YI,row₀,List.getElem?_cons_zero,List.getElem?_cons_succ,List.set_cons_zero,List.set_cons_succ,List.map_cons,List.map_nil,List.length_cons,List.length_nil,List.replicate,List.cons_append,List.nil_append,Nat.reduceAdd,Nat.reduceSub,List.mem_cons,List.not_mem_nil,or_false,forall_eq_or_imp,forall_eq,implies_true,true_and,and_true,if_true,if_false,Bool.false_eq_true,decide_eq_true_eq,Bool.not_eq_true',decide_eq_false_iff_not,Bool.not_eq_eq_eq_not,Bool.not_true,Bool.not_false,beq_self_eq_true,reduceCtorEq,beq_iff_eq,low_length,row_length,fdiv_nat,fmod_nat,two_pow,one_shl,shr,shl,and_mask,clip_nat,Int.one_mul]
  have em : (n : Int) - (len (2 ^ w) b : Nat) + ((1 : Nat) : Int) = ((n - l : Nat) : Int) := by (clear ePl hl1 hl h1P bP1 hB9 hbP hl0 hB hQ hn2 hb0 hw9 hw; omega)
  by_cases hc : (2 ^ w) ^ l = b
  · rw [if_pos (by rw [cmp3_eq]; exact hc)]
    refine WSs.ret ?_
    try simp only [orAnd,andAnd,Za,Zb,Zc,Zd,Ze,Zf,Zg,Zh,Zi,Zj,Zk,Zl,Zm,Zn,Zo,Zp,Zq,Zr,Zs,Zt,Zu,Zv,Zw,Zx,Zy,Zz,ZA,ZB,ZC,ZD,ZE,ZF,ZG,ZH,ZI,ZJ,ZK,ZL,ZM,ZN,ZO,ZP,ZQ,ZR,ZS,ZT,ZU,ZV,ZW,ZX,ZY,ZZ,Ya,Yb,Yc,Yd,Ye,Yf,Yg,Yh,Yi,Yj,Yk,Yl,Ym,Yn,Yo,Yp,Yq,Yr,Ys,Yt,Yu,Yv,Yw,Yx,Yy,Yz,YA,YB,YC,YD,YE,YF,YG,YH,YI,row₀,List.getElem?_cons_zero,List.getElem?_cons_succ,List.set_cons_zero,List.set_cons_succ,List.map_cons,List.map_nil,List.length_cons,List.length_nil,List.replicate,List.cons_append,List.nil_append,Nat.reduceAdd,Nat.reduceSub,List.mem_cons,List.not_mem_nil,or_false,forall_eq_or_imp,forall_eq,implies_true,true_and,and_true,if_true,if_false,Bool.false_eq_true,decide_eq_true_eq,Bool.not_eq_true',decide_eq_false_iff_not,Bool.not_eq_eq_eq_not,Bool.not_true,Bool.not_false,beq_self_eq_true,reduceCtorEq,beq_iff_eq,low_length,row_length,fdiv_nat,fmod_nat,two_pow,one_shl,shr,shl,and_mask,clip_nat,Int.one_mul]
    refine ⟨[1], rfl, by decide, ?_⟩
    rw [← row_one hB, em]
    refine m_lifted hB one_bd (by (clear hc ePl hl1 hl h1P bP1 hB9 hbP hB hQ hn hb0 hw9 hw; omega)) ?_
    rw [Nat.one_mul]
    rw [← ePl, hc, Nat.mul_div_cancel_left _ hb0] at hQ
    exact hQ
  · rw [if_neg (by rw [cmp3_eq]; exact hc)]
    refine WSs.nil (WSs.ret ?_)
    try simp only [orAnd,andAnd,Za,Zb,Zc,Zd,Ze,Zf,Zg,Zh,Zi,Zj,Zk,Zl,Zm,Zn,Zo,Zp,Zq,Zr,Zs,Zt,Zu,Zv,Zw,Zx,Zy,Zz,ZA,ZB,ZC,ZD,ZE,ZF,ZG,ZH,ZI,ZJ,ZK,ZL,ZM,ZN,ZO,ZP,ZQ,ZR,ZS,ZT,ZU,ZV,ZW,ZX,ZY,ZZ,Ya,Yb,Yc,Yd,Ye,Yf,Yg,Yh,Yi,Yj,Yk,Yl,Ym,Yn,Yo,Yp,Yq,Yr,Ys,Yt,Yu,Yv,Yw,Yx,Yy,Yz,YA,YB,YC,YD,YE,YF,YG,YH,YI,row₀,List.getElem?_cons_zero,List.getElem?_cons_succ,List.set_cons_zero,List.set_cons_succ,List.map_cons,List.map_nil,List.length_cons,List.length_nil,List.replicate,List.cons_append,List.nil_append,Nat.reduceAdd,Nat.reduceSub,List.mem_cons,List.not_mem_nil,or_false,forall_eq_or_imp,forall_eq,implies_true,true_and,and_true,if_true,if_false,Bool.false_eq_true,decide_eq_true_eq,Bool.not_eq_true',decide_eq_false_iff_not,Bool.not_eq_eq_eq_not,Bool.not_true,Bool.not_false,beq_self_eq_true,reduceCtorEq,beq_iff_eq,low_length,row_length,fdiv_nat,fmod_nat,two_pow,one_shl,shr,shl,and_mask,clip_nat,Int.one_mul]
    refine ⟨.inr (.inl (by (clear hc ePl hl1 hl h1P bP1 hB9 hbP hB hQ hb0 hw9 hw; omega))), ?_⟩
    rw [em, ← Int.natCast_mul]
    have e3 : (2 ^ w) ^ l * 2 ^ (w * (n - l)) = (2 ^ w) ^ n := by rw [Nat.pow_mul, ePl]
    refine m_bits_of_quotient hw hw9 (by (clear e3 em ePl el hl h1P bP1 hB9 hbP hl0 hB hQ hn2 hn hb0 hw9 hw; omega)) (bP1 (by (clear e3 hc em ePl el hl1 hl h1P bP1 hB9 hl0 hB hQ hn2 hn hw9 hw; omega))) (Nat.le_trans (Nat.mul_le_mul hw9 (show n - l ≤ 300 by (clear e3 hc ePl hl1 hl h1P bP1 hB9 hbP hB hQ hn hb0 hw9 hw; omega))) (by decide)) (by rw [e3]; exact bP1 (by (clear hc em el hl1 hl bP1 hB9 hbP hl0 hB hQ hn2 hn hb0 hw9 hw; omega))) ?_
    rw [e3]
    exact hQ

theorem m_corrected {g b n : Nat} (hw : 1 ≤ w) (hw9 : w ≤ 9) (hb0 : 0 < b) (hg : g * b ≤ 4 * (2 ^ w) ^ n) (hb : b ≤ 4 * (2 ^ w) ^ n) (hn2 : n ≤ 300) (hQ : Q (rw_ w ((2 ^ w) ^ n / b)) σ) :
    Meets W (k + 3) "corrected" [rw_ w g, rw_ w b, .int n, .int w, .fn "_law_times"] Q σ := by
  have hB := w_pow hw
  have hB9 := pow9 hw9
  have bP : ∀ {x : Nat}, x ≤ 8 * (2 ^ w) ^ n → Bd x := fun {x} h => pow_bd hw9 (n := n) (by (clear h hB9 hB hQ hb hg hb0 hw9 hw; omega)) h
  have hgb : g ≤ g * b := Nat.le_mul_of_pos_right _ hb0
  have hP : 0 < (2 ^ w) ^ n := Nat.pow_pos (by (clear hgb bP hQ hn2 hb hg hb0 hw9 hw; omega))
  refine meets c_corrected rfl ?_
  unfold rw_ at *
  refine WSs.swap ?_
  try simp only [orAnd,andAnd,Za,Zb,Zc,Zd,Ze,Zf,Zg,Zh,Zi,Zj,Zk,Zl,Zm,Zn,Zo,Zp,Zq,Zr,Zs,Zt,Zu,Zv,Zw,Zx,Zy,Zz,ZA,ZB,ZC,ZD,ZE,ZF,ZG,ZH,ZI,ZJ,ZK,ZL,ZM,ZN,ZO,ZP,ZQ,ZR,ZS,ZT,ZU,ZV,ZW,ZX,ZY,ZZ,Ya,Yb,Yc,Yd,Ye,Yf,Yg,Yh,Yi,Yj,Yk,Yl,Ym,Yn,Yo,Yp,Yq,Yr,Ys,Yt,Yu,Yv,Yw,Yx,Yy,Yz,YA,YB,YC,YD,YE,YF,YG,YH,YI,row₀,List.getElem?_cons_zero,List.getElem?_cons_succ,List.set_cons_zero,List.set_cons_succ,List.map_cons,List.map_nil,List.length_cons,List.length_nil,List.replicate,List.cons_append,List.nil_append,Nat.reduceAdd,Nat.reduceSub,List.mem_cons,List.not_mem_nil,or_false,forall_eq_or_imp,forall_eq,implies_true,true_and,and_true,if_true,if_false,Bool.false_eq_true,decide_eq_true_eq,Bool.not_eq_true',decide_eq_false_iff_not,Bool.not_eq_eq_eq_not,Bool.not_true,Bool.not_false,beq_self_eq_true,reduceCtorEq,beq_iff_eq,low_length,row_length,fdiv_nat,fmod_nat,two_pow,one_shl,shr,shl,and_mask,clip_nat,Int.one_mul]
  refine ⟨[1], rfl, by decide, ?_⟩
  rw [← row_one hB]
  refine m_lifted hB one_bd (by (clear hP hgb bP hB9 hB hQ hb hg hb0 hw9 hw; omega)) ?_
  rw [Nat.one_mul]
  refine m_law_times hw hw9 (bP (by (clear hP bP hB9 hB hQ hn2 hb hb0 hw9 hw; omega))) (bP (by (clear hgb bP hB9 hB hQ hn2 hg hb0 hw9 hw; omega))) (bP (by (clear hP hgb bP hB9 hB hQ hn2 hb hb0 hw9 hw; omega))) ?_
  generalize hPe : (2 ^ w) ^ n = P at *
  have up : ∀ x : Nat, x ≤ x * b := fun x => Nat.le_mul_of_pos_right _ hb0
  refine WSs.whl (fun m ρ o σ' => ρ = [some (rw_ w m), some (rw_ w b), some (.int n), some (.int w), some (.fn "_law_times"), some (rw_ w P), some (rw_ w (m * b)), none] ∧ o = none ∧ σ = σ' ∧ m * b ≤ 4 * P) ⟨g, rfl, rfl, rfl, hg⟩ ?_
  rintro m _ _ _ ⟨rfl, rfl, rfl, hm⟩
  have hum := up m
  unfold rw_
  try simp only [orAnd,andAnd,Za,Zb,Zc,Zd,Ze,Zf,Zg,Zh,Zi,Zj,Zk,Zl,Zm,Zn,Zo,Zp,Zq,Zr,Zs,Zt,Zu,Zv,Zw,Zx,Zy,Zz,ZA,ZB,ZC,ZD,ZE,ZF,ZG,ZH,ZI,ZJ,ZK,ZL,ZM,ZN,ZO,ZP,ZQ,ZR,ZS,ZT,ZU,ZV,ZW,ZX,ZY,ZZ,Ya,Yb,Yc,Yd,Ye,Yf,Yg,Yh,Yi,Yj,Yk,Yl,Ym,Yn,Yo,Yp,Yq,Yr,Ys,Yt,Yu,Yv,Yw,Yx,Yy,Yz,YA,YB,YC,YD,YE,YF,YG,YH,YI,row₀,List.getElem?_cons_zero,List.getElem?_cons_succ,List.set_cons_zero,List.set_cons_succ,List.map_cons,List.map_nil,List.length_cons,List.length_nil,List.replicate,List.cons_append,List.nil_append,Nat.reduceAdd,Nat.reduceSub,List.mem_cons,List.not_mem_nil,or_false,forall_eq_or_imp,forall_eq,implies_true,true_and,and_true,if_true,if_false,Bool.false_eq_true,decide_eq_true_eq,Bool.not_eq_true',decide_eq_false_iff_not,Bool.not_eq_eq_eq_not,Bool.not_true,Bool.not_false,beq_self_eq_true,reduceCtorEq,beq_iff_eq,low_length,row_length,fdiv_nat,fmod_nat,two_pow,one_shl,shr,shl,and_mask,clip_nat,Int.one_mul]
  refine m_compare hB (bP (by (clear hum up hP bP hQ hb hg hPe hgb hB9 hB hn2 hb0 hw9 hw; omega))) (bP (by (clear hum hm up bP hQ hb hg hPe hgb hB9 hB hn2 hb0 hw9 hw; omega))) ?_
  try simp only [orAnd,andAnd,Za,Zb,Zc,Zd,Ze,Zf,Zg,Zh,Zi,Zj,Zk,Zl,Zm,Zn,Zo,Zp,Zq,Zr,Zs,Zt,Zu,Zv,Zw,Zx,Zy,Zz,ZA,ZB,ZC,ZD,ZE,ZF,ZG,ZH,ZI,ZJ,ZK,ZL,ZM,ZN,ZO,ZP,ZQ,ZR,ZS,ZT,ZU,ZV,ZW,ZX,ZY,ZZ,Ya,Yb,Yc,Yd,Ye,Yf,Yg,Yh,Yi,Yj,Yk,Yl,Ym,Yn,Yo,Yp,Yq,Yr,Ys,Yt,Yu,Yv,Yw,Yx,Yy,Yz,YA,YB,YC,YD,YE,YF,YG,YH,YI,row₀,List.getElem?_cons_zero,List.getElem?_cons_succ,List.set_cons_zero,List.set_cons_succ,List.map_cons,List.map_nil,List.length_cons,List.length_nil,List.replicate,List.cons_append,List.nil_append,Nat.reduceAdd,Nat.reduceSub,List.mem_cons,List.not_mem_nil,or_false,forall_eq_or_imp,forall_eq,implies_true,true_and,and_true,if_true,if_false,Bool.false_eq_true,decide_eq_true_eq,Bool.not_eq_true',decide_eq_false_iff_not,Bool.not_eq_eq_eq_not,Bool.not_true,Bool.not_false,beq_self_eq_true,reduceCtorEq,beq_iff_eq,low_length,row_length,fdiv_nat,fmod_nat,two_pow,one_shl,shr,shl,and_mask,clip_nat,Int.one_mul]
  by_cases hc : P < m * b
  · rw [if_pos (by rw [cmp3_gt]; exact hc)]
    obtain ⟨m', rfl⟩ : ∃ m', m = m' + 1 := by
      rcases m with _ | m'
      · rw [Nat.zero_mul] at hc; (clear hum hm up bP hQ hb hg hPe hgb hB9 hB hn2 hb0 hw9 hw; omega)
      · exact ⟨m', rfl⟩
    have e : (m' + 1) * b - b = m' * b := by rw [Nat.succ_mul, Nat.add_sub_cancel]
    have hble : b ≤ (m' + 1) * b := Nat.le_mul_of_pos_left _ (by (clear e hc hum hm up hP bP hQ hb hg hPe hgb hB9 hB hn2 hb0 hw9 hw; omega))
    refine WSs.set ?_
    try simp only [orAnd,andAnd,Za,Zb,Zc,Zd,Ze,Zf,Zg,Zh,Zi,Zj,Zk,Zl,Zm,Zn,Zo,Zp,Zq,Zr,Zs,Zt,Zu,Zv,Zw,Zx,Zy,Zz,ZA,ZB,ZC,ZD,ZE,ZF,ZG,ZH,ZI,ZJ,ZK,ZL,ZM,ZN,ZO,ZP,ZQ,ZR,ZS,ZT,ZU,ZV,ZW,ZX,ZY,ZZ,Ya,Yb,Yc,Yd,Ye,Yf,Yg,Yh,Yi,Yj,Yk,Yl,Ym,Yn,Yo,Yp,Yq,Yr,Ys,Yt,Yu,Yv,Yw,Yx,Yy,Yz,YA,YB,YC,YD,YE,YF,YG,YH,YI,row₀,List.getElem?_cons_zero,List.getElem?_cons_succ,List.set_cons_zero,List.set_cons_succ,List.map_cons,List.map_nil,List.length_cons,List.length_nil,List.replicate,List.cons_append,List.nil_append,Nat.reduceAdd,Nat.reduceSub,List.mem_cons,List.not_mem_nil,or_false,forall_eq_or_imp,forall_eq,implies_true,true_and,and_true,if_true,if_false,Bool.false_eq_true,decide_eq_true_eq,Bool.not_eq_true',decide_eq_false_iff_not,Bool.not_eq_eq_eq_not,Bool.not_true,Bool.not_false,beq_self_eq_true,reduceCtorEq,beq_iff_eq,low_length,row_length,fdiv_nat,fmod_nat,two_pow,one_shl,shr,shl,and_mask,clip_nat,Int.one_mul]
    refine ⟨[1], rfl, by decide, ?_⟩
    rw [← row_one hB]
    refine m_sub hw hw9 (bP (by (clear hble e hc up hP bP hQ hb hg hPe hgb hB9 hB hn2 hb0 hw9 hw; omega))) (by (clear hble e hc hum hm up hP bP hQ hb hg hPe hgb hB9 hB hn2 hb0 hw9 hw; omega)) ?_
    refine WSs.set ?_
    try simp only [orAnd,andAnd,Za,Zb,Zc,Zd,Ze,Zf,Zg,Zh,Zi,Zj,Zk,Zl,Zm,Zn,Zo,Zp,Zq,Zr,Zs,Zt,Zu,Zv,Zw,Zx,Zy,Zz,ZA,ZB,ZC,ZD,ZE,ZF,ZG,ZH,ZI,ZJ,ZK,ZL,ZM,ZN,ZO,ZP,ZQ,ZR,ZS,ZT,ZU,ZV,ZW,ZX,ZY,ZZ,Ya,Yb,Yc,Yd,Ye,Yf,Yg,Yh,Yi,Yj,Yk,Yl,Ym,Yn,Yo,Yp,Yq,Yr,Ys,Yt,Yu,Yv,Yw,Yx,Yy,Yz,YA,YB,YC,YD,YE,YF,YG,YH,YI,row₀,List.getElem?_cons_zero,List.getElem?_cons_succ,List.set_cons_zero,List.set_cons_succ,List.map_cons,List.map_nil,List.length_cons,List.length_nil,List.replicate,List.cons_append,List.nil_append,Nat.reduceAdd,Nat.reduceSub,List.mem_cons,List.not_mem_nil,or_false,forall_eq_or_imp,forall_eq,implies_true,true_and,and_true,if_true,if_false,Bool.false_eq_true,decide_eq_true_eq,Bool.not_eq_true',decide_eq_false_iff_not,Bool.not_eq_eq_eq_not,Bool.not_true,Bool.not_false,beq_self_eq_true,reduceCtorEq,beq_iff_eq,low_length,row_length,fdiv_nat,fmod_nat,two_pow,one_shl,shr,shl,and_mask,clip_nat,Int.one_mul]
    refine m_sub hw hw9 (bP (by (clear e hc hum up hP bP hQ hb hg hPe hgb hB9 hB hn2 hw9 hw; omega))) hble ?_
    rw [e]
    exact WSs.nil ⟨m', by (clear hble e hc hum hm up hP bP hQ hb hg hPe hgb hB9 hB hn2 hb0 hw9 hw; omega), rfl, rfl, rfl, by (clear hc hum up hP bP hQ hb hg hPe hgb hB9 hB hn2 hw9 hw; omega)⟩
  · rw [if_neg (by rw [cmp3_gt]; exact hc)]
    refine WSs.set ?_
    try simp only [orAnd,andAnd,Za,Zb,Zc,Zd,Ze,Zf,Zg,Zh,Zi,Zj,Zk,Zl,Zm,Zn,Zo,Zp,Zq,Zr,Zs,Zt,Zu,Zv,Zw,Zx,Zy,Zz,ZA,ZB,ZC,ZD,ZE,ZF,ZG,ZH,ZI,ZJ,ZK,ZL,ZM,ZN,ZO,ZP,ZQ,ZR,ZS,ZT,ZU,ZV,ZW,ZX,ZY,ZZ,Ya,Yb,Yc,Yd,Ye,Yf,Yg,Yh,Yi,Yj,Yk,Yl,Ym,Yn,Yo,Yp,Yq,Yr,Ys,Yt,Yu,Yv,Yw,Yx,Yy,Yz,YA,YB,YC,YD,YE,YF,YG,YH,YI,row₀,List.getElem?_cons_zero,List.getElem?_cons_succ,List.set_cons_zero,List.set_cons_succ,List.map_cons,List.map_nil,List.length_cons,List.length_nil,List.replicate,List.cons_append,List.nil_append,Nat.reduceAdd,Nat.reduceSub,List.mem_cons,List.not_mem_nil,or_false,forall_eq_or_imp,forall_eq,implies_true,true_and,and_true,if_true,if_false,Bool.false_eq_true,decide_eq_true_eq,Bool.not_eq_true',decide_eq_false_iff_not,Bool.not_eq_eq_eq_not,Bool.not_true,Bool.not_false,beq_self_eq_true,reduceCtorEq,beq_iff_eq,low_length,row_length,fdiv_nat,fmod_nat,two_pow,one_shl,shr,shl,and_mask,clip_nat,Int.one_mul]
    refine m_sub hw hw9 (bP (by (clear hc hum hm up bP hQ hb hg hPe hgb hB9 hB hn2 hb0 hw9 hw; omega))) (by (clear hum hm up hP bP hQ hb hg hPe hgb hB9 hB hn2 hb0 hw9 hw; omega)) ?_
    refine WSs.whl (fun r ρ o σ' => ∃ (m : Nat) (z : Option V), ρ = [some (rw_ w m), some (rw_ w b), some (.int n), some (.int w), some (.fn "_law_times"), some (rw_ w P), z, some (rw_ w r)] ∧ o = none ∧ σ = σ' ∧ P = m * b + r) ⟨P - m * b, m, _, rfl, rfl, rfl, by (clear hum hm up hP bP hQ hb hg hPe hgb hB9 hB hn2 hb0 hw9 hw; omega)⟩ ?_
    clear hc hum hm m
    rintro r _ _ _ ⟨m, z, rfl, rfl, rfl, hm⟩
    have hum := up m
    unfold rw_
    try simp only [orAnd,andAnd,Za,Zb,Zc,Zd,Ze,Zf,Zg,Zh,Zi,Zj,Zk,Zl,Zm,Zn,Zo,Zp,Zq,Zr,Zs,Zt,Zu,Zv,Zw,Zx,Zy,Zz,ZA,ZB,ZC,ZD,ZE,ZF,ZG,ZH,ZI,ZJ,ZK,ZL,ZM,ZN,ZO,ZP,ZQ,ZR,ZS,ZT,ZU,ZV,ZW,ZX,ZY,ZZ,Ya,Yb,Yc,Yd,Ye,Yf,Yg,Yh,Yi,Yj,Yk,Yl,Ym,Yn,Yo,Yp,Yq,Yr,Ys,Yt,Yu,Yv,Yw,Yx,Yy,Yz,YA,YB,YC,YD,YE,YF,YG,YH,YI,row₀,List.getElem?_cons_zero,List.getElem?_cons_succ,List.set_cons_zero,List.set_cons_succ,List.map_cons,List.map_nil,List.length_cons,List.length_nil,List.replicate,List.cons_append,List.nil_append,Nat.reduceAdd,Nat.reduceSub,List.mem_cons,List.not_mem_nil,or_false,forall_eq_or_imp,forall_eq,implies_true,true_and,and_true,if_true,if_false,Bool.false_eq_true,decide_eq_true_eq,Bool.not_eq_true',decide_eq_false_iff_not,Bool.not_eq_eq_eq_not,Bool.not_true,Bool.not_false,beq_self_eq_true,reduceCtorEq,beq_iff_eq,low_length,row_length,fdiv_nat,fmod_nat,two_pow,one_shl,shr,shl,and_mask,clip_nat,Int.one_mul]
    refine m_compare hB (bP (by (clear hum up bP hQ hb hg hPe hgb hB9 hB hn2 hb0 hw9 hw; omega))) (bP (by (clear hum up bP hQ hg hPe hgb hB9 hB hn2 hb0 hw9 hw; omega))) ?_
    try simp only [orAnd,andAnd,Za,Zb,Zc,Zd,Ze,Zf,Zg,Zh,Zi,Zj,Zk,Zl,Zm,Zn,Zo,Zp,Zq,Zr,Zs,Zt,Zu,Zv,Zw,Zx,Zy,Zz,ZA,ZB,ZC,ZD,ZE,ZF,ZG,ZH,ZI,ZJ,ZK,ZL,ZM,ZN,ZO,ZP,ZQ,ZR,ZS,ZT,ZU,ZV,ZW,ZX,ZY,ZZ,Ya,Yb,Yc,Yd,Ye,Yf,Yg,Yh,Yi,Yj,Yk,Yl,Ym,Yn,Yo,Yp,Yq,Yr,Ys,Yt,Yu,Yv,Yw,Yx,Yy,Yz,YA,YB,YC,YD,YE,YF,YG,YH,YI,row₀,List.getElem?_cons_zero,List.getElem?_cons_succ,List.set_cons_zero,List.set_cons_succ,List.map_cons,List.map_nil,List.length_cons,List.length_nil,List.replicate,List.cons_append,List.nil_append,Nat.reduceAdd,Nat.reduceSub,List.mem_cons,List.not_mem_nil,or_false,forall_eq_or_imp,forall_eq,implies_true,true_and,and_true,if_true,if_false,Bool.false_eq_true,decide_eq_true_eq,Bool.not_eq_true',decide_eq_false_iff_not,Bool.not_eq_eq_eq_not,Bool.not_true,Bool.not_false,beq_self_eq_true,reduceCtorEq,beq_iff_eq,low_length,row_length,fdiv_nat,fmod_nat,two_pow,one_shl,shr,shl,and_mask,clip_nat,Int.one_mul]
    by_cases hc : b ≤ r
    · rw [if_pos (by rw [cmp3_ge]; exact hc)]
      refine WSs.set ?_
      try simp only [orAnd,andAnd,Za,Zb,Zc,Zd,Ze,Zf,Zg,Zh,Zi,Zj,Zk,Zl,Zm,Zn,Zo,Zp,Zq,Zr,Zs,Zt,Zu,Zv,Zw,Zx,Zy,Zz,ZA,ZB,ZC,ZD,ZE,ZF,ZG,ZH,ZI,ZJ,ZK,ZL,ZM,ZN,ZO,ZP,ZQ,ZR,ZS,ZT,ZU,ZV,ZW,ZX,ZY,ZZ,Ya,Yb,Yc,Yd,Ye,Yf,Yg,Yh,Yi,Yj,Yk,Yl,Ym,Yn,Yo,Yp,Yq,Yr,Ys,Yt,Yu,Yv,Yw,Yx,Yy,Yz,YA,YB,YC,YD,YE,YF,YG,YH,YI,row₀,List.getElem?_cons_zero,List.getElem?_cons_succ,List.set_cons_zero,List.set_cons_succ,List.map_cons,List.map_nil,List.length_cons,List.length_nil,List.replicate,List.cons_append,List.nil_append,Nat.reduceAdd,Nat.reduceSub,List.mem_cons,List.not_mem_nil,or_false,forall_eq_or_imp,forall_eq,implies_true,true_and,and_true,if_true,if_false,Bool.false_eq_true,decide_eq_true_eq,Bool.not_eq_true',decide_eq_false_iff_not,Bool.not_eq_eq_eq_not,Bool.not_true,Bool.not_false,beq_self_eq_true,reduceCtorEq,beq_iff_eq,low_length,row_length,fdiv_nat,fmod_nat,two_pow,one_shl,shr,shl,and_mask,clip_nat,Int.one_mul]
      refine ⟨[1], rfl, by decide, ?_⟩
      rw [← row_one hB]
      refine m_add hw hw9 (bP (by (clear up bP hQ hb hg hPe hgb hB9 hB hn2 hw9 hw; omega))) one_bd ?_
      refine WSs.set ?_
      try simp only [orAnd,andAnd,Za,Zb,Zc,Zd,Ze,Zf,Zg,Zh,Zi,Zj,Zk,Zl,Zm,Zn,Zo,Zp,Zq,Zr,Zs,Zt,Zu,Zv,Zw,Zx,Zy,Zz,ZA,ZB,ZC,ZD,ZE,ZF,ZG,ZH,ZI,ZJ,ZK,ZL,ZM,ZN,ZO,ZP,ZQ,ZR,ZS,ZT,ZU,ZV,ZW,ZX,ZY,ZZ,Ya,Yb,Yc,Yd,Ye,Yf,Yg,Yh,Yi,Yj,Yk,Yl,Ym,Yn,Yo,Yp,Yq,Yr,Ys,Yt,Yu,Yv,Yw,Yx,Yy,Yz,YA,YB,YC,YD,YE,YF,YG,YH,YI,row₀,List.getElem?_cons_zero,List.getElem?_cons_succ,List.set_cons_zero,List.set_cons_succ,List.map_cons,List.map_nil,List.length_cons,List.length_nil,List.replicate,List.cons_append,List.nil_append,Nat.reduceAdd,Nat.reduceSub,List.mem_cons,List.not_mem_nil,or_false,forall_eq_or_imp,forall_eq,implies_true,true_and,and_true,if_true,if_false,Bool.false_eq_true,decide_eq_true_eq,Bool.not_eq_true',decide_eq_false_iff_not,Bool.not_eq_eq_eq_not,Bool.not_true,Bool.not_false,beq_self_eq_true,reduceCtorEq,beq_iff_eq,low_length,row_length,fdiv_nat,fmod_nat,two_pow,one_shl,shr,shl,and_mask,clip_nat,Int.one_mul]
      refine m_sub hw hw9 (bP (by (clear hc hum up bP hQ hb hg hPe hgb hB9 hB hn2 hb0 hw9 hw; omega))) hc ?_
      exact WSs.nil ⟨r - b, by (clear hum hm up hP bP hQ hb hg hPe hgb hB9 hB hn2 hw9 hw; omega), m + 1, _, rfl, rfl, rfl, by rw [Nat.succ_mul]; (clear hum up hP bP hQ hb hg hPe hgb hB9 hB hn2 hb0 hw9 hw; omega)⟩
    · rw [if_neg (by rw [cmp3_ge]; exact hc)]
      refine WSs.ret ?_
      try simp only [orAnd,andAnd,Za,Zb,Zc,Zd,Ze,Zf,Zg,Zh,Zi,Zj,Zk,Zl,Zm,Zn,Zo,Zp,Zq,Zr,Zs,Zt,Zu,Zv,Zw,Zx,Zy,Zz,ZA,ZB,ZC,ZD,ZE,ZF,ZG,ZH,ZI,ZJ,ZK,ZL,ZM,ZN,ZO,ZP,ZQ,ZR,ZS,ZT,ZU,ZV,ZW,ZX,ZY,ZZ,Ya,Yb,Yc,Yd,Ye,Yf,Yg,Yh,Yi,Yj,Yk,Yl,Ym,Yn,Yo,Yp,Yq,Yr,Ys,Yt,Yu,Yv,Yw,Yx,Yy,Yz,YA,YB,YC,YD,YE,YF,YG,YH,YI,row₀,List.getElem?_cons_zero,List.getElem?_cons_succ,List.set_cons_zero,List.set_cons_succ,List.map_cons,List.map_nil,List.length_cons,List.length_nil,List.replicate,List.cons_append,List.nil_append,Nat.reduceAdd,Nat.reduceSub,List.mem_cons,List.not_mem_nil,or_false,forall_eq_or_imp,forall_eq,implies_true,true_and,and_true,if_true,if_false,Bool.false_eq_true,decide_eq_true_eq,Bool.not_eq_true',decide_eq_false_iff_not,Bool.not_eq_eq_eq_not,Bool.not_true,Bool.not_false,beq_self_eq_true,reduceCtorEq,beq_iff_eq,low_length,row_length,fdiv_nat,fmod_nat,two_pow,one_shl,shr,shl,and_mask,clip_nat,Int.one_mul]
      rw [(div_is hm (by (clear hum hm up hP bP hQ hb hg hPe hgb hB9 hB hn2 hb0 hw9 hw; omega))).1] at hQ
      exact hQ

theorem m_newton_step {g b n : Nat} (hw : 1 ≤ w) (hw9 : w ≤ 9) (hb0 : 0 < b) (hg : g * b ≤ 2 * (2 ^ w) ^ n) (hb : b ≤ 4 * (2 ^ w) ^ n) (hn2 : n ≤ 150) (hQ : ∀ G, G ≤ 2 * g → Q (rw_ w G) σ) :
    Meets W (k + 3) "newton_step" [rw_ w g, rw_ w b, .int n, .int w, .fn "_law_times"] Q σ := by
  have hB := w_pow hw
  have hB9 := pow9 hw9
  have hP : 0 < (2 ^ w) ^ n := Nat.pow_pos (by (clear hQ hn2 hb hg hb0 hw9 hw; omega))
  have bP : ∀ {x : Nat}, x ≤ 8 * ((2 ^ w) ^ n * (2 ^ w) ^ n) → Bd x := fun {x} h => pow_bd hw9 (n := n + n) (by (clear h hP hB9 hB hQ hb hg hb0 hw9 hw; omega)) (by rw [Nat.pow_add]; exact h)
  have hPP : (2 ^ w) ^ n ≤ (2 ^ w) ^ n * (2 ^ w) ^ n := Nat.le_mul_of_pos_left _ hP
  have hgb : g ≤ g * b := Nat.le_mul_of_pos_right _ hb0
  refine meets c_newton_step rfl ?_
  unfold rw_ at *
  refine WSs.swap ?_
  try simp only [orAnd,andAnd,Za,Zb,Zc,Zd,Ze,Zf,Zg,Zh,Zi,Zj,Zk,Zl,Zm,Zn,Zo,Zp,Zq,Zr,Zs,Zt,Zu,Zv,Zw,Zx,Zy,Zz,ZA,ZB,ZC,ZD,ZE,ZF,ZG,ZH,ZI,ZJ,ZK,ZL,ZM,ZN,ZO,ZP,ZQ,ZR,ZS,ZT,ZU,ZV,ZW,ZX,ZY,ZZ,Ya,Yb,Yc,Yd,Ye,Yf,Yg,Yh,Yi,Yj,Yk,Yl,Ym,Yn,Yo,Yp,Yq,Yr,Ys,Yt,Yu,Yv,Yw,Yx,Yy,Yz,YA,YB,YC,YD,YE,YF,YG,YH,YI,row₀,List.getElem?_cons_zero,List.getElem?_cons_succ,List.set_cons_zero,List.set_cons_succ,List.map_cons,List.map_nil,List.length_cons,List.length_nil,List.replicate,List.cons_append,List.nil_append,Nat.reduceAdd,Nat.reduceSub,List.mem_cons,List.not_mem_nil,or_false,forall_eq_or_imp,forall_eq,implies_true,true_and,and_true,if_true,if_false,Bool.false_eq_true,decide_eq_true_eq,Bool.not_eq_true',decide_eq_false_iff_not,Bool.not_eq_eq_eq_not,Bool.not_true,Bool.not_false,beq_self_eq_true,reduceCtorEq,beq_iff_eq,low_length,row_length,fdiv_nat,fmod_nat,two_pow,one_shl,shr,shl,and_mask,clip_nat,Int.one_mul]
  refine ⟨[1], rfl, by decide, ?_⟩
  rw [← row_one hB]
  refine m_lifted hB one_bd (by (clear hgb hPP bP hP hB9 hB hQ hb hg hb0 hw9 hw; omega)) ?_
  rw [Nat.one_mul]
  refine m_law_times hw hw9 (bP (by (clear bP hP hB9 hB hQ hn2 hb hb0 hw9 hw; omega))) (bP (by (clear hgb bP hP hB9 hB hQ hn2 hg hb0 hw9 hw; omega))) (bP (by (clear hgb bP hB9 hB hQ hn2 hb hb0 hw9 hw; omega))) ?_
  have prod : ∀ d, d ≤ (2 ^ w) ^ n → g * d ≤ 2 * ((2 ^ w) ^ n * (2 ^ w) ^ n) ∧ g * d / (2 ^ w) ^ n ≤ g := fun d hd => by
    refine ⟨?_, ?_⟩
    · rw [← Nat.mul_assoc]; exact Nat.mul_le_mul (by (clear hd hPP bP hP hB9 hB hQ hn2 hb hb0 hw9 hw; omega)) hd
    · have : g * d ≤ g * (2 ^ w) ^ n := Nat.mul_le_mul_left _ hd
      have := Nat.div_le_div_right (c := (2 ^ w) ^ n) this
      rwa [Nat.mul_div_cancel _ hP] at this
  refine WSs.ite ?_
  try simp only [orAnd,andAnd,Za,Zb,Zc,Zd,Ze,Zf,Zg,Zh,Zi,Zj,Zk,Zl,Zm,Zn,Zo,Zp,Zq,Zr,Zs,Zt,Zu,Zv,Zw,Zx,Zy,Zz,ZA,ZB,ZC,ZD,ZE,ZF,ZG,ZH,ZI,ZJ,ZK,ZL,ZM,ZN,ZO,ZP,ZQ,ZR,ZS,ZT,ZU,ZV,ZW,ZX,ZY,ZZ,Ya,Yb,Yc,Yd,Ye,Yf,Yg,Yh,Yi,Yj,Yk,Yl,Ym,Yn,Yo,Yp,Yq,Yr,Ys,Yt,Yu,Yv,Yw,Yx,Yy,Yz,YA,YB,YC,YD,YE,YF,YG,YH,YI,row₀,List.getElem?_cons_zero,List.getElem?_cons_succ,List.set_cons_zero,List.set_cons_succ,List.map_cons,List.map_nil,List.length_cons,List.length_nil,List.replicate,List.cons_append,List.nil_append,Nat.reduceAdd,Nat.reduceSub,List.mem_cons,List.not_mem_nil,or_false,forall_eq_or_imp,forall_eq,implies_true,true_and,and_true,if_true,if_false,Bool.false_eq_true,decide_eq_true_eq,Bool.not_eq_true',decide_eq_false_iff_not,Bool.not_eq_eq_eq_not,Bool.not_true,Bool.not_false,beq_self_eq_true,reduceCtorEq,beq_iff_eq,low_length,row_length,fdiv_nat,fmod_nat,two_pow,one_shl,shr,shl,and_mask,clip_nat,Int.one_mul]
  refine m_compare hB (bP (by omega)) (bP (by (clear prod hgb bP hP hB9 hB hQ hn2 hb hg hb0 hw9 hw; omega))) ?_
  try simp only [orAnd,andAnd,Za,Zb,Zc,Zd,Ze,Zf,Zg,Zh,Zi,Zj,Zk,Zl,Zm,Zn,Zo,Zp,Zq,Zr,Zs,Zt,Zu,Zv,Zw,Zx,Zy,Zz,ZA,ZB,ZC,ZD,ZE,ZF,ZG,ZH,ZI,ZJ,ZK,ZL,ZM,ZN,ZO,ZP,ZQ,ZR,ZS,ZT,ZU,ZV,ZW,ZX,ZY,ZZ,Ya,Yb,Yc,Yd,Ye,Yf,Yg,Yh,Yi,Yj,Yk,Yl,Ym,Yn,Yo,Yp,Yq,Yr,Ys,Yt,Yu,Yv,Yw,Yx,Yy,Yz,YA,YB,YC,YD,YE,YF,YG,YH,YI,row₀,List.getElem?_cons_zero,List.getElem?_cons_succ,List.set_cons_zero,List.set_cons_succ,List.map_cons,List.map_nil,List.length_cons,List.length_nil,List.replicate,List.cons_append,List.nil_append,Nat.reduceAdd,Nat.reduceSub,List.mem_cons,List.not_mem_nil,or_false,forall_eq_or_imp,forall_eq,implies_true,true_and,and_true,if_true,if_false,Bool.false_eq_true,decide_eq_true_eq,Bool.not_eq_true',decide_eq_false_iff_not,Bool.not_eq_eq_eq_not,Bool.not_true,Bool.not_false,beq_self_eq_true,reduceCtorEq,beq_iff_eq,low_length,row_length,fdiv_nat,fmod_nat,two_pow,one_shl,shr,shl,and_mask,clip_nat,Int.one_mul]
  by_cases hc : (2 ^ w) ^ n < g * b
  · rw [if_pos (by rw [cmp3_gt]; exact hc)]
    have pr := prod (g * b - (2 ^ w) ^ n) (by (clear prod hgb hPP bP hP hB9 hB hQ hn2 hb hb0 hw9 hw; omega))
    refine WSs.ret ?_
    try simp only [orAnd,andAnd,Za,Zb,Zc,Zd,Ze,Zf,Zg,Zh,Zi,Zj,Zk,Zl,Zm,Zn,Zo,Zp,Zq,Zr,Zs,Zt,Zu,Zv,Zw,Zx,Zy,Zz,ZA,ZB,ZC,ZD,ZE,ZF,ZG,ZH,ZI,ZJ,ZK,ZL,ZM,ZN,ZO,ZP,ZQ,ZR,ZS,ZT,ZU,ZV,ZW,ZX,ZY,ZZ,Ya,Yb,Yc,Yd,Ye,Yf,Yg,Yh,Yi,Yj,Yk,Yl,Ym,Yn,Yo,Yp,Yq,Yr,Ys,Yt,Yu,Yv,Yw,Yx,Yy,Yz,YA,YB,YC,YD,YE,YF,YG,YH,YI,row₀,List.getElem?_cons_zero,List.getElem?_cons_succ,List.set_cons_zero,List.set_cons_succ,List.map_cons,List.map_nil,List.length_cons,List.length_nil,List.replicate,List.cons_append,List.nil_append,Nat.reduceAdd,Nat.reduceSub,List.mem_cons,List.not_mem_nil,or_false,forall_eq_or_imp,forall_eq,implies_true,true_and,and_true,if_true,if_false,Bool.false_eq_true,decide_eq_true_eq,Bool.not_eq_true',decide_eq_false_iff_not,Bool.not_eq_eq_eq_not,Bool.not_true,Bool.not_false,beq_self_eq_true,reduceCtorEq,beq_iff_eq,low_length,row_length,fdiv_nat,fmod_nat,two_pow,one_shl,shr,shl,and_mask,clip_nat,Int.one_mul]
    refine m_sub hw hw9 (bP (by (clear pr hc prod hgb bP hP hB9 hB hQ hn2 hb hb0 hw9 hw; omega))) (by (clear pr prod hgb hPP bP hP hB9 hB hQ hn2 hb hg hb0 hw9 hw; omega)) ?_
    refine m_law_times hw hw9 (bP (by omega)) (bP (by (clear pr prod hgb bP hB9 hB hQ hn2 hb hb0 hw9 hw; omega))) (bP (by (clear hc prod hgb hPP bP hP hB9 hB hQ hn2 hb hg hb0 hw9 hw; omega))) ?_
    refine m_down hB ?_
    exact m_sub hw hw9 (bP (by omega)) pr.2 (hQ _ (Nat.le_trans (Nat.sub_le ..) (by (clear pr hc prod hgb hPP bP hP hB9 hB hQ hn2 hb hg hb0 hw9 hw; omega))))
  · rw [if_neg (by rw [cmp3_gt]; exact hc)]
    have pr := prod ((2 ^ w) ^ n - g * b) (by (clear prod hPP bP hP hB9 hB hQ hn2 hb hg hb0 hw9 hw; omega))
    refine WSs.nil (WSs.ret ?_)
    try simp only [orAnd,andAnd,Za,Zb,Zc,Zd,Ze,Zf,Zg,Zh,Zi,Zj,Zk,Zl,Zm,Zn,Zo,Zp,Zq,Zr,Zs,Zt,Zu,Zv,Zw,Zx,Zy,Zz,ZA,ZB,ZC,ZD,ZE,ZF,ZG,ZH,ZI,ZJ,ZK,ZL,ZM,ZN,ZO,ZP,ZQ,ZR,ZS,ZT,ZU,ZV,ZW,ZX,ZY,ZZ,Ya,Yb,Yc,Yd,Ye,Yf,Yg,Yh,Yi,Yj,Yk,Yl,Ym,Yn,Yo,Yp,Yq,Yr,Ys,Yt,Yu,Yv,Yw,Yx,Yy,Yz,YA,YB,YC,YD,YE,YF,YG,YH,YI,row₀,List.getElem?_cons_zero,List.getElem?_cons_succ,List.set_cons_zero,List.set_cons_succ,List.map_cons,List.map_nil,List.length_cons,List.length_nil,List.replicate,List.cons_append,List.nil_append,Nat.reduceAdd,Nat.reduceSub,List.mem_cons,List.not_mem_nil,or_false,forall_eq_or_imp,forall_eq,implies_true,true_and,and_true,if_true,if_false,Bool.false_eq_true,decide_eq_true_eq,Bool.not_eq_true',decide_eq_false_iff_not,Bool.not_eq_eq_eq_not,Bool.not_true,Bool.not_false,beq_self_eq_true,reduceCtorEq,beq_iff_eq,low_length,row_length,fdiv_nat,fmod_nat,two_pow,one_shl,shr,shl,and_mask,clip_nat,Int.one_mul]
    refine m_sub hw hw9 (bP (by (clear pr hc prod hgb bP hP hB9 hB hQ hn2 hb hg hb0 hw9 hw; omega))) (by (clear pr prod hgb hPP bP hP hB9 hB hQ hn2 hb hg hb0 hw9 hw; omega)) ?_
    refine m_law_times hw hw9 (bP (by omega)) (bP (by (clear pr prod bP hP hB9 hB hQ hn2 hb hg hb0 hw9 hw; omega))) (bP (by (clear hc prod hgb hPP bP hP hB9 hB hQ hn2 hb hg hb0 hw9 hw; omega))) ?_
    refine m_down hB ?_
    exact m_add hw hw9 (bP (by omega)) (bP (Nat.le_trans pr.2 (by omega))) (hQ _ (by rw [Nat.two_mul]; exact Nat.add_le_add_left pr.2 g))
end
end
section
open PySem PySem.W PyProof.Rows
set_option exponentiation.threshold 5000

section
variable {W : Wd} {w : Nat}

theorem guess_bd {B b g s e n : Nat} (_hB : 2 ≤ B) (hH : 0 < b / B ^ s) (hg : g * (b / B ^ s) ≤ B ^ e) (hn : e + s = n) : g * b ≤ 2 * B ^ n := by
  subst hn
  have hS : 0 < B ^ s := Nat.pow_pos (by (clear hg hH; omega))
  have hd := Nat.div_add_mod b (B ^ s)
  have hm := Nat.mod_lt b hS
  generalize b / B ^ s = H at *
  rw [Nat.pow_add]
  generalize B ^ s = S at *
  have h1 : b ≤ 2 * (H * S) := by
    have h2 : S ≤ H * S := Nat.le_mul_of_pos_left _ hH
    rw [Nat.mul_comm] at hd
    (clear hS hg hH _hB; omega)
  refine Nat.le_trans (Nat.mul_le_mul_left g h1) ?_
  rw [show g * (2 * (H * S)) = 2 * ((g * H) * S) by grind]
  exact Nat.mul_le_mul_left 2 (Nat.mul_le_mul_right S hg)

theorem min_if (a b : Nat) : (if (b : Int) < (a : Int) then (b : Int) else (a : Int)) = ((min a b : Nat) : Int) := by split <;> omega
theorem max_if (a b : Nat) : (if ((a : Int) - (b : Int)) < 0 then (0 : Int) else (a : Int) - (b : Int)) = ((a - b : Nat) : Int) := by split <;> omega

theorem rec_step {k b n : Nat} {Q : V → Bx → Prop} {σ : Bx} (hw : 1 ≤ w) (hw9 : w ≤ 9) (hb0 : 0 < b) (hln : len (2 ^ w) b ≤ n) (hn2 : n ≤ 140)
    (ih : ∀ (Q : V → Bx → Prop) (b' n' : Nat), 0 < b' → len (2 ^ w) b' ≤ n' → 4 ≤ n + 1 - len (2 ^ w) b → n' + 1 - len (2 ^ w) b' = (n + 1 - len (2 ^ w) b + 1) / 2 + 1 → n' ≤ 140 → Q (rw_ w ((2 ^ w) ^ n' / b')) σ →
      Meets W (k + 5) "reciprocal" [rw_ w b', .int n', .int w, .fn "_law_times"] Q σ) (hQ : Q (rw_ w ((2 ^ w) ^ n / b)) σ) :
    Meets W (k + 6) "reciprocal" [rw_ w b, .int n, .int w, .fn "_law_times"] Q σ := by
  have hB := w_pow hw
  have hB9 := pow9 hw9
  obtain ⟨hl0, hl1⟩ := len_low hB hb0
  have hbP : b < (2 ^ w) ^ n := Nat.lt_of_lt_of_le (lt_len hB b) (Nat.pow_le_pow_right (by (clear hl1 hl0 hQ ih hn2 hln hb0 hw9 hw; omega)) hln)
  have bP : ∀ {x : Nat}, x ≤ 8 * (2 ^ w) ^ n → Bd x := fun {x} h => pow_bd hw9 (n := n) (by (clear h hbP hl1 hl0 hB9 hB hQ ih hln hb0 hw9 hw; omega)) h
  refine meets c_reciprocal rfl ?_
  unfold rw_ at *
  refine WSs.ite ?_
  try simp only [orAnd,andAnd,Za,Zb,Zc,Zd,Ze,Zf,Zg,Zh,Zi,Zj,Zk,Zl,Zm,Zn,Zo,Zp,Zq,Zr,Zs,Zt,Zu,Zv,Zw,Zx,Zy,Zz,ZA,ZB,ZC,ZD,ZE,ZF,ZG,ZH,ZI,ZJ,ZK,ZL,ZM,ZN,ZO,ZP,ZQ,ZR,ZS,ZT,ZU,ZV,ZW,ZX,ZY,ZZ,Ya,Yb,Yc,Yd,Ye,Yf,Yg,Yh,Yi,Yj,Yk,Yl,Ym,Yn,Yo,Yp,Yq,Yr,Ys,Yt,Yu,Yv,Yw,Yx,Yy,Yz,YA,YB,YC,YD,YE,YF,YG,YH,YI,row₀,List.getElem?_cons_zero,List.getElem?_cons_succ,List.set_cons_zero,List.set_cons_succ,List.map_cons,List.map_nil,List.length_cons,List.length_nil,List.replicate,List.cons_append,List.nil_append,Nat.reduceAdd,Nat.reduceSub,List.mem_cons,List.not_mem_nil,or_false,forall_eq_or_imp,forall_eq,implies_true,true_and,and_true,if_true,if_false,Bool.false_eq_true,decide_eq_true_eq,Bool.not_eq_true',decide_eq_false_iff_not,Bool.not_eq_eq_eq_not,Bool.not_true,Bool.not_false,beq_self_eq_true,reduceCtorEq,beq_iff_eq,low_length,row_length,fdiv_nat,fmod_nat,two_pow,one_shl,shr,shl,and_mask,clip_nat,Int.one_mul]
  rw [if_neg (by (clear bP hbP hl1 hB9 hB hQ ih hn2 hln hb0 hw9 hw; omega))]
  refine WSs.nil (WSs.set ?_)
  try simp only [orAnd,andAnd,Za,Zb,Zc,Zd,Ze,Zf,Zg,Zh,Zi,Zj,Zk,Zl,Zm,Zn,Zo,Zp,Zq,Zr,Zs,Zt,Zu,Zv,Zw,Zx,Zy,Zz,ZA,ZB,ZC,ZD,ZE,ZF,ZG,ZH,ZI,ZJ,ZK,ZL,ZM,ZN,ZO,ZP,ZQ,ZR,ZS,ZT,ZU,ZV,ZW,ZX,ZY,ZZ,Ya,Yb,Yc,Yd,Ye,Yf,Yg,Yh,Yi,Yj,Yk,Yl,Ym,Yn,Yo,Yp,Yq,Yr,Ys,Yt,Yu,Yv,Yw,Yx,Yy,Yz,YA,YB,YC,YD,YE,YF,YG,YH,YI,row₀,List.getElem?_cons_zero,List.getElem?_cons_succ,List.set_cons_zero,List.set_cons_succ,List.map_cons,List.map_nil,List.length_cons,List.length_nil,List.replicate,List.cons_append,List.nil_append,Nat.reduceAdd,Nat.reduceSub,List.mem_cons,List.not_mem_nil,or_false,forall_eq_or_imp,forall_eq,implies_true,true_and,and_true,if_true,if_false,Bool.false_eq_true,decide_eq_true_eq,Bool.not_eq_true',decide_eq_false_iff_not,Bool.not_eq_eq_eq_not,Bool.not_true,Bool.not_false,beq_self_eq_true,reduceCtorEq,beq_iff_eq,low_length,row_length,fdiv_nat,fmod_nat,two_pow,one_shl,shr,shl,and_mask,clip_nat,Int.one_mul]
  obtain ⟨m, hm⟩ : ∃ m, n + 1 = len (2 ^ w) b + m := ⟨n + 1 - len (2 ^ w) b, by (clear bP hbP hl1 hl0 hB9 hB hQ ih hn2 hb0 hw9 hw; omega)⟩
  rw [show n + 1 - len (2 ^ w) b = m by (clear bP hbP hl1 hl0 hB9 hB hQ ih hn2 hb0 hw9 hw; omega)] at ih
  rw [show ((n : Int) - (len (2 ^ w) b : Nat) + 1) = ((m : Nat) : Int) by (clear ih bP hbP hl1 hl0 hB9 hB hQ hn2 hln hb0 hw9 hw; omega)]
  have head : ∀ kept, 1 ≤ kept → kept ≤ len (2 ^ w) b → len (2 ^ w) (b / (2 ^ w) ^ (len (2 ^ w) b - kept)) = kept ∧ 0 < b / (2 ^ w) ^ (len (2 ^ w) b - kept) := fun kept h1 h2 => by
    have h3 : len (2 ^ w) (b / (2 ^ w) ^ (len (2 ^ w) b - kept)) = kept := by rw [len_div hB]; (clear ih bP hbP hl1 hl0 hB9 hB hQ hb0 hw9 hw; omega)
    refine ⟨h3, ?_⟩
    rcases Nat.eq_zero_or_pos (b / (2 ^ w) ^ (len (2 ^ w) b - kept)) with q | q
    · rw [q, len_zero] at h3; (clear q h2 hm ih bP hbP hl1 hl0 hB9 hB hQ hn2 hln hb0 hw9 hw; omega)
    · exact q
  refine WSs.ite ?_
  try simp only [orAnd,andAnd,Za,Zb,Zc,Zd,Ze,Zf,Zg,Zh,Zi,Zj,Zk,Zl,Zm,Zn,Zo,Zp,Zq,Zr,Zs,Zt,Zu,Zv,Zw,Zx,Zy,Zz,ZA,ZB,ZC,ZD,ZE,ZF,ZG,ZH,ZI,ZJ,ZK,ZL,ZM,ZN,ZO,ZP,ZQ,ZR,ZS,ZT,ZU,ZV,ZW,ZX,ZY,ZZ,Ya,Yb,Yc,Yd,Ye,Yf,Yg,Yh,Yi,Yj,Yk,Yl,Ym,Yn,Yo,Yp,Yq,Yr,Ys,Yt,Yu,Yv,Yw,Yx,Yy,Yz,YA,YB,YC,YD,YE,YF,YG,YH,YI,row₀,List.getElem?_cons_zero,List.getElem?_cons_succ,List.set_cons_zero,List.set_cons_succ,List.map_cons,List.map_nil,List.length_cons,List.length_nil,List.replicate,List.cons_append,List.nil_append,Nat.reduceAdd,Nat.reduceSub,List.mem_cons,List.not_mem_nil,or_false,forall_eq_or_imp,forall_eq,implies_true,true_and,and_true,if_true,if_false,Bool.false_eq_true,decide_eq_true_eq,Bool.not_eq_true',decide_eq_false_iff_not,Bool.not_eq_eq_eq_not,Bool.not_true,Bool.not_false,beq_self_eq_true,reduceCtorEq,beq_iff_eq,low_length,row_length,fdiv_nat,fmod_nat,two_pow,one_shl,shr,shl,and_mask,clip_nat,Int.one_mul]
  rw [if_neg (by (clear head ih bP hbP hl1 hl0 hB9 hB hQ hn2 hb0 hw9 hw; omega))]
  refine WSs.nil (WSs.ite ?_)
  try simp only [orAnd,andAnd,Za,Zb,Zc,Zd,Ze,Zf,Zg,Zh,Zi,Zj,Zk,Zl,Zm,Zn,Zo,Zp,Zq,Zr,Zs,Zt,Zu,Zv,Zw,Zx,Zy,Zz,ZA,ZB,ZC,ZD,ZE,ZF,ZG,ZH,ZI,ZJ,ZK,ZL,ZM,ZN,ZO,ZP,ZQ,ZR,ZS,ZT,ZU,ZV,ZW,ZX,ZY,ZZ,Ya,Yb,Yc,Yd,Ye,Yf,Yg,Yh,Yi,Yj,Yk,Yl,Ym,Yn,Yo,Yp,Yq,Yr,Ys,Yt,Yu,Yv,Yw,Yx,Yy,Yz,YA,YB,YC,YD,YE,YF,YG,YH,YI,row₀,List.getElem?_cons_zero,List.getElem?_cons_succ,List.set_cons_zero,List.set_cons_succ,List.map_cons,List.map_nil,List.length_cons,List.length_nil,List.replicate,List.cons_append,List.nil_append,Nat.reduceAdd,Nat.reduceSub,List.mem_cons,List.not_mem_nil,or_false,forall_eq_or_imp,forall_eq,implies_true,true_and,and_true,if_true,if_false,Bool.false_eq_true,decide_eq_true_eq,Bool.not_eq_true',decide_eq_false_iff_not,Bool.not_eq_eq_eq_not,Bool.not_true,Bool.not_false,beq_self_eq_true,reduceCtorEq,beq_iff_eq,low_length,row_length,fdiv_nat,fmod_nat,two_pow,one_shl,shr,shl,and_mask,clip_nat,Int.one_mul]
  by_cases h3 : m ≤ 3
  · rw [if_pos (by (clear head ih bP hbP hl1 hl0 hB9 hB hQ hn2 hb0 hw9 hw; omega))]
    refine WSs.set ?_
    try simp only [orAnd,andAnd,Za,Zb,Zc,Zd,Ze,Zf,Zg,Zh,Zi,Zj,Zk,Zl,Zm,Zn,Zo,Zp,Zq,Zr,Zs,Zt,Zu,Zv,Zw,Zx,Zy,Zz,ZA,ZB,ZC,ZD,ZE,ZF,ZG,ZH,ZI,ZJ,ZK,ZL,ZM,ZN,ZO,ZP,ZQ,ZR,ZS,ZT,ZU,ZV,ZW,ZX,ZY,ZZ,Ya,Yb,Yc,Yd,Ye,Yf,Yg,Yh,Yi,Yj,Yk,Yl,Ym,Yn,Yo,Yp,Yq,Yr,Ys,Yt,Yu,Yv,Yw,Yx,Yy,Yz,YA,YB,YC,YD,YE,YF,YG,YH,YI,row₀,List.getElem?_cons_zero,List.getElem?_cons_succ,List.set_cons_zero,List.set_cons_succ,List.map_cons,List.map_nil,List.length_cons,List.length_nil,List.replicate,List.cons_append,List.nil_append,Nat.reduceAdd,Nat.reduceSub,List.mem_cons,List.not_mem_nil,or_false,forall_eq_or_imp,forall_eq,implies_true,true_and,and_true,if_true,if_false,Bool.false_eq_true,decide_eq_true_eq,Bool.not_eq_true',decide_eq_false_iff_not,Bool.not_eq_eq_eq_not,Bool.not_true,Bool.not_false,beq_self_eq_true,reduceCtorEq,beq_iff_eq,low_length,row_length,fdiv_nat,fmod_nat,two_pow,one_shl,shr,shl,and_mask,clip_nat,Int.one_mul]
    have e2 : (m : Int) + 2 = ((m + 2 : Nat) : Int) := by (clear h3 head hm ih bP hbP hl1 hl0 hB9 hB hQ hn2 hln hb0 hw9 hw; omega)
    rw [e2, min_if]
    obtain ⟨q1, q2⟩ := head (min (len (2 ^ w) b) (m + 2)) (by (clear e2 head ih bP hbP hl1 hB9 hB hQ hn2 hb0 hw9 hw; omega)) (by (clear e2 h3 head hm ih bP hbP hl1 hl0 hB9 hB hQ hn2 hln hb0 hw9 hw; omega))
    generalize hk : min (len (2 ^ w) b) (m + 2) = kept at *
    refine WSs.set ?_
    try simp only [orAnd,andAnd,Za,Zb,Zc,Zd,Ze,Zf,Zg,Zh,Zi,Zj,Zk,Zl,Zm,Zn,Zo,Zp,Zq,Zr,Zs,Zt,Zu,Zv,Zw,Zx,Zy,Zz,ZA,ZB,ZC,ZD,ZE,ZF,ZG,ZH,ZI,ZJ,ZK,ZL,ZM,ZN,ZO,ZP,ZQ,ZR,ZS,ZT,ZU,ZV,ZW,ZX,ZY,ZZ,Ya,Yb,Yc,Yd,Ye,Yf,Yg,Yh,Yi,Yj,Yk,Yl,Ym,Yn,Yo,Yp,Yq,Yr,Ys,Yt,Yu,Yv,Yw,Yx,Yy,Yz,YA,YB,YC,YD,YE,YF,YG,YH,YI,row₀,List.getElem?_cons_zero,List.getElem?_cons_succ,List.set_cons_zero,List.set_cons_succ,List.map_cons,List.map_nil,List.length_cons,List.length_nil,List.replicate,List.cons_append,List.nil_append,Nat.reduceAdd,Nat.reduceSub,List.mem_cons,List.not_mem_nil,or_false,forall_eq_or_imp,forall_eq,implies_true,true_and,and_true,if_true,if_false,Bool.false_eq_true,decide_eq_true_eq,Bool.not_eq_true',decide_eq_false_iff_not,Bool.not_eq_eq_eq_not,Bool.not_true,Bool.not_false,beq_self_eq_true,reduceCtorEq,beq_iff_eq,low_length,row_length,fdiv_nat,fmod_nat,two_pow,one_shl,shr,shl,and_mask,clip_nat,Int.one_mul]
    rw [← Int.ofNat_sub (by (clear q2 e2 h3 head hm ih bP hbP hl1 hl0 hB9 hB hQ hn2 hln hb0 hw9 hw; omega))]
    refine m_down hB ?_
    refine WSs.ret ?_
    try simp only [orAnd,andAnd,Za,Zb,Zc,Zd,Ze,Zf,Zg,Zh,Zi,Zj,Zk,Zl,Zm,Zn,Zo,Zp,Zq,Zr,Zs,Zt,Zu,Zv,Zw,Zx,Zy,Zz,ZA,ZB,ZC,ZD,ZE,ZF,ZG,ZH,ZI,ZJ,ZK,ZL,ZM,ZN,ZO,ZP,ZQ,ZR,ZS,ZT,ZU,ZV,ZW,ZX,ZY,ZZ,Ya,Yb,Yc,Yd,Ye,Yf,Yg,Yh,Yi,Yj,Yk,Yl,Ym,Yn,Yo,Yp,Yq,Yr,Ys,Yt,Yu,Yv,Yw,Yx,Yy,Yz,YA,YB,YC,YD,YE,YF,YG,YH,YI,row₀,List.getElem?_cons_zero,List.getElem?_cons_succ,List.set_cons_zero,List.set_cons_succ,List.map_cons,List.map_nil,List.length_cons,List.length_nil,List.replicate,List.cons_append,List.nil_append,Nat.reduceAdd,Nat.reduceSub,List.mem_cons,List.not_mem_nil,or_false,forall_eq_or_imp,forall_eq,implies_true,true_and,and_true,if_true,if_false,Bool.false_eq_true,decide_eq_true_eq,Bool.not_eq_true',decide_eq_false_iff_not,Bool.not_eq_eq_eq_not,Bool.not_true,Bool.not_false,beq_self_eq_true,reduceCtorEq,beq_iff_eq,low_length,row_length,fdiv_nat,fmod_nat,two_pow,one_shl,shr,shl,and_mask,clip_nat,Int.one_mul]
    rw [show (kept : Int) + (m : Int) - 1 = ((kept + m - 1 : Nat) : Int) by (clear q2 hk e2 head ih bP hbP hl1 hl0 hB9 hB hQ hn2 hb0 hw9 hw; omega)]
    refine m_whole_of_power hw hw9 q2 (by rw [q1]; (clear q2 hk e2 head ih bP hbP hl1 hl0 hB9 hB hQ hn2 hb0 hw9 hw; omega)) (by (clear q2 e2 head ih bP hbP hl1 hl0 hB9 hB hQ hb0 hw9 hw; omega)) ?_
    refine m_corrected hw hw9 hb0 ?_ (by (clear q2 q1 hk e2 h3 head hm ih bP hl1 hl0 hB9 hB hQ hn2 hln hb0 hw9 hw; omega)) (by (clear q2 q1 hk e2 h3 head ih bP hbP hl1 hl0 hB9 hB hQ hln hb0 hw9 hw; omega)) hQ
    have := guess_bd (B := 2 ^ w) (b := b) (g := (2 ^ w) ^ (kept + m - 1) / (b / (2 ^ w) ^ (len (2 ^ w) b - kept))) (s := len (2 ^ w) b - kept) (e := kept + m - 1) (n := n) hB q2 (Nat.div_mul_le_self ..) (by (clear q2 e2 head ih bP hbP hl1 hl0 hB9 hB hQ hb0 hw9 hw; omega))
    (clear q2 q1 hk e2 h3 head hm ih bP hbP hl1 hl0 hB9 hB hQ hn2 hln hb0 hw9 hw; omega)
  · rw [if_neg (by (clear head hm ih bP hbP hl1 hl0 hB9 hB hQ hn2 hln hb0 hw9 hw; omega))]
    refine WSs.nil (WSs.set ?_)
    try simp only [orAnd,andAnd,Za,Zb,Zc,Zd,Ze,Zf,Zg,Zh,Zi,Zj,Zk,Zl,Zm,Zn,Zo,Zp,Zq,Zr,Zs,Zt,Zu,Zv,Zw,Zx,Zy,Zz,ZA,ZB,ZC,ZD,ZE,ZF,ZG,ZH,ZI,ZJ,ZK,ZL,ZM,ZN,ZO,ZP,ZQ,ZR,ZS,ZT,ZU,ZV,ZW,ZX,ZY,ZZ,Ya,Yb,Yc,Yd,Ye,Yf,Yg,Yh,Yi,Yj,Yk,Yl,Ym,Yn,Yo,Yp,Yq,Yr,Ys,Yt,Yu,Yv,Yw,Yx,Yy,Yz,YA,YB,YC,YD,YE,YF,YG,YH,YI,row₀,List.getElem?_cons_zero,List.getElem?_cons_succ,List.set_cons_zero,List.set_cons_succ,List.map_cons,List.map_nil,List.length_cons,List.length_nil,List.replicate,List.cons_append,List.nil_append,Nat.reduceAdd,Nat.reduceSub,List.mem_cons,List.not_mem_nil,or_false,forall_eq_or_imp,forall_eq,implies_true,true_and,and_true,if_true,if_false,Bool.false_eq_true,decide_eq_true_eq,Bool.not_eq_true',decide_eq_false_iff_not,Bool.not_eq_eq_eq_not,Bool.not_true,Bool.not_false,beq_self_eq_true,reduceCtorEq,beq_iff_eq,low_length,row_length,fdiv_nat,fmod_nat,two_pow,one_shl,shr,shl,and_mask,clip_nat,Int.one_mul]
    refine ⟨by decide, ⟨64, by decide, by decide⟩, ?_⟩
    rw [show (m : Int) + 1 = ((m + 1 : Nat) : Int) by (clear h3 head hm ih bP hbP hl1 hl0 hB9 hB hQ hn2 hln hb0 hw9 hw; omega), fdiv_two]
    generalize hr : (m + 1) / 2 = r at *
    refine WSs.set ?_
    try simp only [orAnd,andAnd,Za,Zb,Zc,Zd,Ze,Zf,Zg,Zh,Zi,Zj,Zk,Zl,Zm,Zn,Zo,Zp,Zq,Zr,Zs,Zt,Zu,Zv,Zw,Zx,Zy,Zz,ZA,ZB,ZC,ZD,ZE,ZF,ZG,ZH,ZI,ZJ,ZK,ZL,ZM,ZN,ZO,ZP,ZQ,ZR,ZS,ZT,ZU,ZV,ZW,ZX,ZY,ZZ,Ya,Yb,Yc,Yd,Ye,Yf,Yg,Yh,Yi,Yj,Yk,Yl,Ym,Yn,Yo,Yp,Yq,Yr,Ys,Yt,Yu,Yv,Yw,Yx,Yy,Yz,YA,YB,YC,YD,YE,YF,YG,YH,YI,row₀,List.getElem?_cons_zero,List.getElem?_cons_succ,List.set_cons_zero,List.set_cons_succ,List.map_cons,List.map_nil,List.length_cons,List.length_nil,List.replicate,List.cons_append,List.nil_append,Nat.reduceAdd,Nat.reduceSub,List.mem_cons,List.not_mem_nil,or_false,forall_eq_or_imp,forall_eq,implies_true,true_and,and_true,if_true,if_false,Bool.false_eq_true,decide_eq_true_eq,Bool.not_eq_true',decide_eq_false_iff_not,Bool.not_eq_eq_eq_not,Bool.not_true,Bool.not_false,beq_self_eq_true,reduceCtorEq,beq_iff_eq,low_length,row_length,fdiv_nat,fmod_nat,two_pow,one_shl,shr,shl,and_mask,clip_nat,Int.one_mul]
    rw [show (r : Int) + 1 = ((r + 1 : Nat) : Int) by (clear ih hr h3 head hm bP hbP hl1 hl0 hB9 hB hQ hn2 hln hb0 hw9 hw; omega), min_if]
    obtain ⟨q1, q2⟩ := head (min (len (2 ^ w) b) (r + 1)) (by (clear ih hr h3 head hm bP hbP hl1 hB9 hB hQ hn2 hln hb0 hw9 hw; omega)) (by (clear ih hr h3 head hm bP hbP hl1 hl0 hB9 hB hQ hn2 hln hb0 hw9 hw; omega))
    generalize hk : min (len (2 ^ w) b) (r + 1) = kept at *
    refine WSs.set ?_
    try simp only [orAnd,andAnd,Za,Zb,Zc,Zd,Ze,Zf,Zg,Zh,Zi,Zj,Zk,Zl,Zm,Zn,Zo,Zp,Zq,Zr,Zs,Zt,Zu,Zv,Zw,Zx,Zy,Zz,ZA,ZB,ZC,ZD,ZE,ZF,ZG,ZH,ZI,ZJ,ZK,ZL,ZM,ZN,ZO,ZP,ZQ,ZR,ZS,ZT,ZU,ZV,ZW,ZX,ZY,ZZ,Ya,Yb,Yc,Yd,Ye,Yf,Yg,Yh,Yi,Yj,Yk,Yl,Ym,Yn,Yo,Yp,Yq,Yr,Ys,Yt,Yu,Yv,Yw,Yx,Yy,Yz,YA,YB,YC,YD,YE,YF,YG,YH,YI,row₀,List.getElem?_cons_zero,List.getElem?_cons_succ,List.set_cons_zero,List.set_cons_succ,List.map_cons,List.map_nil,List.length_cons,List.length_nil,List.replicate,List.cons_append,List.nil_append,Nat.reduceAdd,Nat.reduceSub,List.mem_cons,List.not_mem_nil,or_false,forall_eq_or_imp,forall_eq,implies_true,true_and,and_true,if_true,if_false,Bool.false_eq_true,decide_eq_true_eq,Bool.not_eq_true',decide_eq_false_iff_not,Bool.not_eq_eq_eq_not,Bool.not_true,Bool.not_false,beq_self_eq_true,reduceCtorEq,beq_iff_eq,low_length,row_length,fdiv_nat,fmod_nat,two_pow,one_shl,shr,shl,and_mask,clip_nat,Int.one_mul]
    rw [← Int.ofNat_sub (by (clear q2 ih hr h3 head hm bP hbP hl1 hl0 hB9 hB hQ hn2 hln hb0 hw9 hw; omega))]
    refine m_down hB ?_
    refine WSs.set ?_
    try simp only [orAnd,andAnd,Za,Zb,Zc,Zd,Ze,Zf,Zg,Zh,Zi,Zj,Zk,Zl,Zm,Zn,Zo,Zp,Zq,Zr,Zs,Zt,Zu,Zv,Zw,Zx,Zy,Zz,ZA,ZB,ZC,ZD,ZE,ZF,ZG,ZH,ZI,ZJ,ZK,ZL,ZM,ZN,ZO,ZP,ZQ,ZR,ZS,ZT,ZU,ZV,ZW,ZX,ZY,ZZ,Ya,Yb,Yc,Yd,Ye,Yf,Yg,Yh,Yi,Yj,Yk,Yl,Ym,Yn,Yo,Yp,Yq,Yr,Ys,Yt,Yu,Yv,Yw,Yx,Yy,Yz,YA,YB,YC,YD,YE,YF,YG,YH,YI,row₀,List.getElem?_cons_zero,List.getElem?_cons_succ,List.set_cons_zero,List.set_cons_succ,List.map_cons,List.map_nil,List.length_cons,List.length_nil,List.replicate,List.cons_append,List.nil_append,Nat.reduceAdd,Nat.reduceSub,List.mem_cons,List.not_mem_nil,or_false,forall_eq_or_imp,forall_eq,implies_true,true_and,and_true,if_true,if_false,Bool.false_eq_true,decide_eq_true_eq,Bool.not_eq_true',decide_eq_false_iff_not,Bool.not_eq_eq_eq_not,Bool.not_true,Bool.not_false,beq_self_eq_true,reduceCtorEq,beq_iff_eq,low_length,row_length,fdiv_nat,fmod_nat,two_pow,one_shl,shr,shl,and_mask,clip_nat,Int.one_mul]
    rw [show (m : Int) - (r : Int) - 1 = ((m - r - 1 : Nat) : Int) by (clear q2 q1 hk ih head bP hbP hl1 hB9 hB hQ hln hb0 hw9 hw; omega), ← Int.natCast_add]
    have hH : b / (2 ^ w) ^ (len (2 ^ w) b - kept) ≤ b := Nat.div_le_self ..
    generalize hHe : b / (2 ^ w) ^ (len (2 ^ w) b - kept) = H at *
    refine ih _ _ _ q2 (by (clear hH q2 hHe hk ih head bP hbP hl1 hB9 hB hQ hln hb0 hw9 hw; omega)) (by (clear hH q2 q1 hHe hk ih hr head hm bP hbP hl1 hl0 hB9 hB hQ hn2 hln hb0 hw9 hw; omega)) (by (clear hH q2 hHe hk ih head bP hbP hl1 hB9 hB hQ hln hb0 hw9 hw; omega)) (by (clear hH q2 hHe ih head bP hbP hl1 hB9 hB hQ hln hb0 hw9 hw; omega)) ?_
    have hg := Nat.div_mul_le_self ((2 ^ w) ^ (kept + r)) H
    have hPl : (2 ^ w) ^ (kept + r) / H ≤ (2 ^ w) ^ n := Nat.le_trans (Nat.div_le_self ..) (Nat.pow_le_pow_right (by (clear hg hH q2 q1 hHe hk ih hr h3 head hm bP hbP hl1 hl0 hQ hn2 hln hb0 hw9 hw; omega)) (by (clear hg hH q2 hHe ih head bP hbP hl1 hB9 hB hQ hln hb0 hw9 hw; omega)))
    generalize (2 ^ w) ^ (kept + r) / H = g at *
    refine m_lifted hB (bP (by (clear hg hH q2 q1 hHe hk ih hr h3 head hm bP hbP hl1 hl0 hB9 hB hQ hn2 hln hb0 hw9 hw; omega))) (by (clear hPl hg hH q2 q1 hHe hk ih head bP hbP hl1 hB9 hB hQ hln hb0 hw9 hw; omega)) ?_
    have hgb := guess_bd (B := 2 ^ w) (b := b) (g := g * (2 ^ w) ^ (m - r - 1)) (s := len (2 ^ w) b - kept) (e := kept + m - 1) (n := n) hB (by rw [hHe]; exact q2) (by
      rw [hHe, Nat.mul_right_comm, show kept + m - 1 = (kept + r) + (m - r - 1) by (clear hPl hg hH q2 hHe hk ih head bP hbP hl1 hB9 hB hQ hln hb0 hw9 hw; omega), Nat.pow_add]
      exact Nat.mul_le_mul_right _ hg) (by (clear hPl hg hH q2 hHe ih hr head bP hbP hl1 hl0 hB9 hB hQ hln hb0 hw9 hw; omega))
    generalize g * (2 ^ w) ^ (m - r - 1) = G at *
    refine WSs.ret ?_
    try simp only [orAnd,andAnd,Za,Zb,Zc,Zd,Ze,Zf,Zg,Zh,Zi,Zj,Zk,Zl,Zm,Zn,Zo,Zp,Zq,Zr,Zs,Zt,Zu,Zv,Zw,Zx,Zy,Zz,ZA,ZB,ZC,ZD,ZE,ZF,ZG,ZH,ZI,ZJ,ZK,ZL,ZM,ZN,ZO,ZP,ZQ,ZR,ZS,ZT,ZU,ZV,ZW,ZX,ZY,ZZ,Ya,Yb,Yc,Yd,Ye,Yf,Yg,Yh,Yi,Yj,Yk,Yl,Ym,Yn,Yo,Yp,Yq,Yr,Ys,Yt,Yu,Yv,Yw,Yx,Yy,Yz,YA,YB,YC,YD,YE,YF,YG,YH,YI,row₀,List.getElem?_cons_zero,List.getElem?_cons_succ,List.set_cons_zero,List.set_cons_succ,List.map_cons,List.map_nil,List.length_cons,List.length_nil,List.replicate,List.cons_append,List.nil_append,Nat.reduceAdd,Nat.reduceSub,List.mem_cons,List.not_mem_nil,or_false,forall_eq_or_imp,forall_eq,implies_true,true_and,and_true,if_true,if_false,Bool.false_eq_true,decide_eq_true_eq,Bool.not_eq_true',decide_eq_false_iff_not,Bool.not_eq_eq_eq_not,Bool.not_true,Bool.not_false,beq_self_eq_true,reduceCtorEq,beq_iff_eq,low_length,row_length,fdiv_nat,fmod_nat,two_pow,one_shl,shr,shl,and_mask,clip_nat,Int.one_mul]
    refine m_newton_step hw hw9 hb0 hgb (by (clear hgb hPl hg hH q2 q1 hHe hk ih hr h3 head hm bP hl1 hl0 hB9 hB hQ hn2 hln hw9 hw; omega)) (by (clear hgb hPl hg hH q2 q1 hHe hk ih hr h3 head bP hbP hl1 hl0 hB9 hB hQ hln hb0 hw9 hw; omega)) fun G2 hG2 => ?_
    refine m_corrected hw hw9 hb0 ?_ (by (clear hG2 hgb hPl hg hH q2 q1 hHe hk ih hr h3 head hm bP hl1 hl0 hB9 hB hQ hn2 hln hw9 hw; omega)) (by (clear hG2 hgb hPl hg hH q2 q1 hHe hk ih hr h3 head bP hbP hl1 hl0 hB9 hB hQ hln hb0 hw9 hw; omega)) hQ
    have := Nat.mul_le_mul_right b hG2
    rw [Nat.mul_assoc] at this
    (clear hG2 hPl hg hH q2 q1 hHe hk ih hr h3 head hm bP hbP hl1 hl0 hB9 hB hQ hn2 hln hb0 hw9 hw; omega)

theorem m_reciprocal (hw : 1 ≤ w) (hw9 : w ≤ 9) : ∀ (f k : Nat) (Q : V → Bx → Prop) (σ : Bx) (b n : Nat), 0 < b → len (2 ^ w) b ≤ n → n + 1 - len (2 ^ w) b < 2 ^ f + 3 → n ≤ 140 → Q (rw_ w ((2 ^ w) ^ n / b)) σ →
    Meets W (k + f + 6) "reciprocal" [rw_ w b, .int n, .int w, .fn "_law_times"] Q σ := by
  intro f
  induction f with
  | zero =>
    intro k Q σ b n hb0 hln hf hn2 hQ
    exact rec_step hw hw9 hb0 hln hn2 (fun Q b' n' _ _ h _ _ _ => absurd h (by (clear hQ hn2 hln hb0 hw9 hw; omega))) hQ
  | succ f ih =>
    intro k Q σ b n hb0 hln hf hn2 hQ
    exact rec_step (k := k + (f + 1)) hw hw9 hb0 hln hn2 (fun Q b' n' h1 h2 _ h4 h5 h6 => ih k Q σ b' n' h1 h2 (by rw [Nat.pow_succ] at hf; (clear h6 h5 h2 h1 hQ hn2 hln hb0 ih hw9 hw; omega)) h5 h6) hQ

theorem m_divrem_newton {k a b : Nat} {Q : V → Bx → Prop} {σ : Bx} (hw : 2 ≤ w) (hw9 : w ≤ 9) (ha : Sm a) (hb : Sm b) (hb0 : 0 < b) (hQ : Q (.pair (rw_ w (a / b)) (rw_ w (a % b))) σ) :
    Meets W (k + 20) "divrem_newton" [rw_ w a, rw_ w b, .int w, .fn "_law_times"] Q σ := by
  have hw1 : 1 ≤ w := by omega
  have hB := w_pow hw1
  have la := ha.len hw
  have lb := hb.len hw
  obtain ⟨hl0, hl1⟩ := len_low hB hb0
  refine meets c_divrem_newton rfl ?_
  unfold rw_ at *
  refine WSs.ite ?_
  try simp only [orAnd,andAnd,Za,Zb,Zc,Zd,Ze,Zf,Zg,Zh,Zi,Zj,Zk,Zl,Zm,Zn,Zo,Zp,Zq,Zr,Zs,Zt,Zu,Zv,Zw,Zx,Zy,Zz,ZA,ZB,ZC,ZD,ZE,ZF,ZG,ZH,ZI,ZJ,ZK,ZL,ZM,ZN,ZO,ZP,ZQ,ZR,ZS,ZT,ZU,ZV,ZW,ZX,ZY,ZZ,Ya,Yb,Yc,Yd,Ye,Yf,Yg,Yh,Yi,Yj,Yk,Yl,Ym,Yn,Yo,Yp,Yq,Yr,Ys,Yt,Yu,Yv,Yw,Yx,Yy,Yz,YA,YB,YC,YD,YE,YF,YG,YH,YI,row₀,List.getElem?_cons_zero,List.getElem?_cons_succ,List.set_cons_zero,List.set_cons_succ,List.map_cons,List.map_nil,List.length_cons,List.length_nil,List.replicate,List.cons_append,List.nil_append,Nat.reduceAdd,Nat.reduceSub,List.mem_cons,List.not_mem_nil,or_false,forall_eq_or_imp,forall_eq,implies_true,true_and,and_true,if_true,if_false,Bool.false_eq_true,decide_eq_true_eq,Bool.not_eq_true',decide_eq_false_iff_not,Bool.not_eq_eq_eq_not,Bool.not_true,Bool.not_false,beq_self_eq_true,reduceCtorEq,beq_iff_eq,low_length,row_length,fdiv_nat,fmod_nat,two_pow,one_shl,shr,shl,and_mask,clip_nat,Int.one_mul]
  rw [if_neg (by (clear hl1 la hB hw1 hQ hb0 hb ha hw9 hw; omega))]
  refine WSs.nil (WSs.ite ?_)
  try simp only [orAnd,andAnd,Za,Zb,Zc,Zd,Ze,Zf,Zg,Zh,Zi,Zj,Zk,Zl,Zm,Zn,Zo,Zp,Zq,Zr,Zs,Zt,Zu,Zv,Zw,Zx,Zy,Zz,ZA,ZB,ZC,ZD,ZE,ZF,ZG,ZH,ZI,ZJ,ZK,ZL,ZM,ZN,ZO,ZP,ZQ,ZR,ZS,ZT,ZU,ZV,ZW,ZX,ZY,ZZ,Ya,Yb,Yc,Yd,Ye,Yf,Yg,Yh,Yi,Yj,Yk,Yl,Ym,Yn,Yo,Yp,Yq,Yr,Ys,Yt,Yu,Yv,Yw,Yx,Yy,Yz,YA,YB,YC,YD,YE,YF,YG,YH,YI,row₀,List.getElem?_cons_zero,List.getElem?_cons_succ,List.set_cons_zero,List.set_cons_succ,List.map_cons,List.map_nil,List.length_cons,List.length_nil,List.replicate,List.cons_append,List.nil_append,Nat.reduceAdd,Nat.reduceSub,List.mem_cons,List.not_mem_nil,or_false,forall_eq_or_imp,forall_eq,implies_true,true_and,and_true,if_true,if_false,Bool.false_eq_true,decide_eq_true_eq,Bool.not_eq_true',decide_eq_false_iff_not,Bool.not_eq_eq_eq_not,Bool.not_true,Bool.not_false,beq_self_eq_true,reduceCtorEq,beq_iff_eq,low_length,row_length,fdiv_nat,fmod_nat,two_pow,one_shl,shr,shl,and_mask,clip_nat,Int.one_mul]
  refine m_compare hB ha.bd hb.bd ?_
  try simp only [orAnd,andAnd,Za,Zb,Zc,Zd,Ze,Zf,Zg,Zh,Zi,Zj,Zk,Zl,Zm,Zn,Zo,Zp,Zq,Zr,Zs,Zt,Zu,Zv,Zw,Zx,Zy,Zz,ZA,ZB,ZC,ZD,ZE,ZF,ZG,ZH,ZI,ZJ,ZK,ZL,ZM,ZN,ZO,ZP,ZQ,ZR,ZS,ZT,ZU,ZV,ZW,ZX,ZY,ZZ,Ya,Yb,Yc,Yd,Ye,Yf,Yg,Yh,Yi,Yj,Yk,Yl,Ym,Yn,Yo,Yp,Yq,Yr,Ys,Yt,Yu,Yv,Yw,Yx,Yy,Yz,YA,YB,YC,YD,YE,YF,YG,YH,YI,row₀,List.getElem?_cons_zero,List.getElem?_cons_succ,List.set_cons_zero,List.set_cons_succ,List.map_cons,List.map_nil,List.length_cons,List.length_nil,List.replicate,List.cons_append,List.nil_append,Nat.reduceAdd,Nat.reduceSub,List.mem_cons,List.not_mem_nil,or_false,forall_eq_or_imp,forall_eq,implies_true,true_and,and_true,if_true,if_false,Bool.false_eq_true,decide_eq_true_eq,Bool.not_eq_true',decide_eq_false_iff_not,Bool.not_eq_eq_eq_not,Bool.not_true,Bool.not_false,beq_self_eq_true,reduceCtorEq,beq_iff_eq,low_length,row_length,fdiv_nat,fmod_nat,two_pow,one_shl,shr,shl,and_mask,clip_nat,Int.one_mul]
  by_cases hab : a < b
  · rw [if_pos (by rw [cmp3_lt]; exact hab)]
    refine WSs.ret ?_
    try simp only [orAnd,andAnd,Za,Zb,Zc,Zd,Ze,Zf,Zg,Zh,Zi,Zj,Zk,Zl,Zm,Zn,Zo,Zp,Zq,Zr,Zs,Zt,Zu,Zv,Zw,Zx,Zy,Zz,ZA,ZB,ZC,ZD,ZE,ZF,ZG,ZH,ZI,ZJ,ZK,ZL,ZM,ZN,ZO,ZP,ZQ,ZR,ZS,ZT,ZU,ZV,ZW,ZX,ZY,ZZ,Ya,Yb,Yc,Yd,Ye,Yf,Yg,Yh,Yi,Yj,Yk,Yl,Ym,Yn,Yo,Yp,Yq,Yr,Ys,Yt,Yu,Yv,Yw,Yx,Yy,Yz,YA,YB,YC,YD,YE,YF,YG,YH,YI,row₀,List.getElem?_cons_zero,List.getElem?_cons_succ,List.set_cons_zero,List.set_cons_succ,List.map_cons,List.map_nil,List.length_cons,List.length_nil,List.replicate,List.cons_append,List.nil_append,Nat.reduceAdd,Nat.reduceSub,List.mem_cons,List.not_mem_nil,or_false,forall_eq_or_imp,forall_eq,implies_true,true_and,and_true,if_true,if_false,Bool.false_eq_true,decide_eq_true_eq,Bool.not_eq_true',decide_eq_false_iff_not,Bool.not_eq_eq_eq_not,Bool.not_true,Bool.not_false,beq_self_eq_true,reduceCtorEq,beq_iff_eq,low_length,row_length,fdiv_nat,fmod_nat,two_pow,one_shl,shr,shl,and_mask,clip_nat,Int.one_mul]
    rw [Nat.div_eq_of_lt hab, Nat.mod_eq_of_lt hab, row_zero] at hQ
    exact ⟨[], rfl, by decide, hQ⟩
  rw [if_neg (by rw [cmp3_lt]; exact hab)]
  refine WSs.nil (WSs.set ?_)
  try simp only [orAnd,andAnd,Za,Zb,Zc,Zd,Ze,Zf,Zg,Zh,Zi,Zj,Zk,Zl,Zm,Zn,Zo,Zp,Zq,Zr,Zs,Zt,Zu,Zv,Zw,Zx,Zy,Zz,ZA,ZB,ZC,ZD,ZE,ZF,ZG,ZH,ZI,ZJ,ZK,ZL,ZM,ZN,ZO,ZP,ZQ,ZR,ZS,ZT,ZU,ZV,ZW,ZX,ZY,ZZ,Ya,Yb,Yc,Yd,Ye,Yf,Yg,Yh,Yi,Yj,Yk,Yl,Ym,Yn,Yo,Yp,Yq,Yr,Ys,Yt,Yu,Yv,Yw,Yx,Yy,Yz,YA,YB,YC,YD,YE,YF,YG,YH,YI,row₀,List.getElem?_cons_zero,List.getElem?_cons_succ,List.set_cons_zero,List.set_cons_succ,List.map_cons,List.map_nil,List.length_cons,List.length_nil,List.replicate,List.cons_append,List.nil_append,Nat.reduceAdd,Nat.reduceSub,List.mem_cons,List.not_mem_nil,or_false,forall_eq_or_imp,forall_eq,implies_true,true_and,and_true,if_true,if_false,Bool.false_eq_true,decide_eq_true_eq,Bool.not_eq_true',decide_eq_false_iff_not,Bool.not_eq_eq_eq_not,Bool.not_true,Bool.not_false,beq_self_eq_true,reduceCtorEq,beq_iff_eq,low_length,row_length,fdiv_nat,fmod_nat,two_pow,one_shl,shr,shl,and_mask,clip_nat,Int.one_mul]
  have hlab := len_mono hB (show b ≤ a by (clear hl1 hl0 lb la hB hw1 hQ hb0 hb ha hw9 hw; omega))
  refine m_reciprocal hw1 hw9 6 (k + 7) _ _ _ _ hb0 hlab (by (clear hab hl1 hB hw1 hQ hb0 hb ha hw9 hw; omega)) (by (clear hlab hab hl1 hl0 lb hB hw1 hQ hb0 hb ha hw9 hw; omega)) ?_
  have haP := lt_len hB a
  generalize hn : len (2 ^ w) a = n at *
  have hP : 0 < (2 ^ w) ^ n := Nat.pow_pos (by (clear haP hlab la hn hab hl1 hl0 lb hw1 hQ hb0 hb ha hw9 hw; omega))
  have hPP : (2 ^ w) ^ n ≤ (2 ^ w) ^ n * (2 ^ w) ^ n := Nat.le_mul_of_pos_left _ hP
  have bP : ∀ {x : Nat}, x ≤ 8 * ((2 ^ w) ^ n * (2 ^ w) ^ n) → Bd x := fun {x} h => pow_bd hw9 (n := n + n) (by (clear h hPP hP haP hlab hab hl1 hl0 lb hB hw1 hQ hb0 hb ha hw9 hw; omega)) (by rw [Nat.pow_add]; exact h)
  have hPd : (2 ^ w) ^ n / b ≤ (2 ^ w) ^ n := Nat.div_le_self ..
  have hPm := Nat.div_mul_le_self ((2 ^ w) ^ n) b
  generalize (2 ^ w) ^ n / b = I at *
  have h1 : a * I ≤ (2 ^ w) ^ n * (2 ^ w) ^ n := Nat.mul_le_mul (by (clear hPm hPd bP hPP hP hlab la hn hab hl1 hl0 lb hB hw1 hQ hb0 hb ha hw9 hw; omega)) hPd
  refine m_law_times hw1 hw9 ha.bd (bP (by (clear h1 hPm bP hP haP hlab la hn hab hl1 hl0 lb hB hw1 hQ hb0 hb ha hw9 hw; omega))) (bP (by (clear hPm hPd bP hPP hP haP hlab la hn hab hl1 hl0 lb hB hw1 hQ hb0 hb ha hw9 hw; omega))) ?_
  refine m_down hB ?_
  have h2 : a * I / (2 ^ w) ^ n * b ≤ a := by
    refine Nat.le_of_mul_le_mul_right (c := (2 ^ w) ^ n) ?_ hP
    have h3 := Nat.mul_le_mul_left b (Nat.div_mul_le_self (a * I) ((2 ^ w) ^ n))
    have h4 := Nat.mul_le_mul_left a hPm
    calc a * I / (2 ^ w) ^ n * b * (2 ^ w) ^ n = b * (a * I / (2 ^ w) ^ n * (2 ^ w) ^ n) := by grind
      _ ≤ b * (a * I) := h3
      _ = a * (I * b) := by grind
      _ ≤ a * (2 ^ w) ^ n := h4
  generalize a * I / (2 ^ w) ^ n = q at *
  have hq : q ≤ q * b := Nat.le_mul_of_pos_right _ hb0
  refine WSs.set ?_
  try simp only [orAnd,andAnd,Za,Zb,Zc,Zd,Ze,Zf,Zg,Zh,Zi,Zj,Zk,Zl,Zm,Zn,Zo,Zp,Zq,Zr,Zs,Zt,Zu,Zv,Zw,Zx,Zy,Zz,ZA,ZB,ZC,ZD,ZE,ZF,ZG,ZH,ZI,ZJ,ZK,ZL,ZM,ZN,ZO,ZP,ZQ,ZR,ZS,ZT,ZU,ZV,ZW,ZX,ZY,ZZ,Ya,Yb,Yc,Yd,Ye,Yf,Yg,Yh,Yi,Yj,Yk,Yl,Ym,Yn,Yo,Yp,Yq,Yr,Ys,Yt,Yu,Yv,Yw,Yx,Yy,Yz,YA,YB,YC,YD,YE,YF,YG,YH,YI,row₀,List.getElem?_cons_zero,List.getElem?_cons_succ,List.set_cons_zero,List.set_cons_succ,List.map_cons,List.map_nil,List.length_cons,List.length_nil,List.replicate,List.cons_append,List.nil_append,Nat.reduceAdd,Nat.reduceSub,List.mem_cons,List.not_mem_nil,or_false,forall_eq_or_imp,forall_eq,implies_true,true_and,and_true,if_true,if_false,Bool.false_eq_true,decide_eq_true_eq,Bool.not_eq_true',decide_eq_false_iff_not,Bool.not_eq_eq_eq_not,Bool.not_true,Bool.not_false,beq_self_eq_true,reduceCtorEq,beq_iff_eq,low_length,row_length,fdiv_nat,fmod_nat,two_pow,one_shl,shr,shl,and_mask,clip_nat,Int.one_mul]
  refine m_law_times hw1 hw9 (ha.bd.le (by (clear h1 hPm hPd bP hPP hP haP hlab la hn hab hl1 hl0 lb hB hw1 hQ hb0 hb ha hw9 hw; omega))) hb.bd (ha.bd.le (by (clear hq h1 hPm hPd bP hPP hP haP hlab la hn hab hl1 hl0 lb hB hw1 hQ hb0 hb ha hw9 hw; omega))) ?_
  refine m_sub hw1 hw9 ha.bd h2 ?_
  refine WSs.whl (fun r ρ o σ' => ∃ m : Nat, ρ = [some (rw_ w a), some (rw_ w b), some (.int w), some (.fn "_law_times"), some (rw_ w m), some (rw_ w r)] ∧ o = none ∧ σ = σ' ∧ a = m * b + r) ⟨a - q * b, q, rfl, rfl, rfl, by (clear hq h1 hPm hPd bP hPP hP haP hlab la hn hab hl1 hl0 lb hB hw1 hQ hb0 hb ha hw9 hw; omega)⟩ ?_
  rintro r _ _ _ ⟨m, rfl, rfl, rfl, hm⟩
  have hum : m ≤ m * b := Nat.le_mul_of_pos_right _ hb0
  unfold rw_
  try simp only [orAnd,andAnd,Za,Zb,Zc,Zd,Ze,Zf,Zg,Zh,Zi,Zj,Zk,Zl,Zm,Zn,Zo,Zp,Zq,Zr,Zs,Zt,Zu,Zv,Zw,Zx,Zy,Zz,ZA,ZB,ZC,ZD,ZE,ZF,ZG,ZH,ZI,ZJ,ZK,ZL,ZM,ZN,ZO,ZP,ZQ,ZR,ZS,ZT,ZU,ZV,ZW,ZX,ZY,ZZ,Ya,Yb,Yc,Yd,Ye,Yf,Yg,Yh,Yi,Yj,Yk,Yl,Ym,Yn,Yo,Yp,Yq,Yr,Ys,Yt,Yu,Yv,Yw,Yx,Yy,Yz,YA,YB,YC,YD,YE,YF,YG,YH,YI,row₀,List.getElem?_cons_zero,List.getElem?_cons_succ,List.set_cons_zero,List.set_cons_succ,List.map_cons,List.map_nil,List.length_cons,List.length_nil,List.replicate,List.cons_append,List.nil_append,Nat.reduceAdd,Nat.reduceSub,List.mem_cons,List.not_mem_nil,or_false,forall_eq_or_imp,forall_eq,implies_true,true_and,and_true,if_true,if_false,Bool.false_eq_true,decide_eq_true_eq,Bool.not_eq_true',decide_eq_false_iff_not,Bool.not_eq_eq_eq_not,Bool.not_true,Bool.not_false,beq_self_eq_true,reduceCtorEq,beq_iff_eq,low_length,row_length,fdiv_nat,fmod_nat,two_pow,one_shl,shr,shl,and_mask,clip_nat,Int.one_mul]
  refine m_compare hB (ha.bd.le (by (clear hum hq h2 h1 hPm hPd bP hPP hP haP hlab la hn hab hl1 hl0 lb hB hw1 hQ hb0 hb ha hw9 hw; omega))) hb.bd ?_
  try simp only [orAnd,andAnd,Za,Zb,Zc,Zd,Ze,Zf,Zg,Zh,Zi,Zj,Zk,Zl,Zm,Zn,Zo,Zp,Zq,Zr,Zs,Zt,Zu,Zv,Zw,Zx,Zy,Zz,ZA,ZB,ZC,ZD,ZE,ZF,ZG,ZH,ZI,ZJ,ZK,ZL,ZM,ZN,ZO,ZP,ZQ,ZR,ZS,ZT,ZU,ZV,ZW,ZX,ZY,ZZ,Ya,Yb,Yc,Yd,Ye,Yf,Yg,Yh,Yi,Yj,Yk,Yl,Ym,Yn,Yo,Yp,Yq,Yr,Ys,Yt,Yu,Yv,Yw,Yx,Yy,Yz,YA,YB,YC,YD,YE,YF,YG,YH,YI,row₀,List.getElem?_cons_zero,List.getElem?_cons_succ,List.set_cons_zero,List.set_cons_succ,List.map_cons,List.map_nil,List.length_cons,List.length_nil,List.replicate,List.cons_append,List.nil_append,Nat.reduceAdd,Nat.reduceSub,List.mem_cons,List.not_mem_nil,or_false,forall_eq_or_imp,forall_eq,implies_true,true_and,and_true,if_true,if_false,Bool.false_eq_true,decide_eq_true_eq,Bool.not_eq_true',decide_eq_false_iff_not,Bool.not_eq_eq_eq_not,Bool.not_true,Bool.not_false,beq_self_eq_true,reduceCtorEq,beq_iff_eq,low_length,row_length,fdiv_nat,fmod_nat,two_pow,one_shl,shr,shl,and_mask,clip_nat,Int.one_mul]
  by_cases hc : b ≤ r
  · rw [if_pos (by rw [cmp3_ge]; exact hc)]
    refine WSs.set ?_
    try simp only [orAnd,andAnd,Za,Zb,Zc,Zd,Ze,Zf,Zg,Zh,Zi,Zj,Zk,Zl,Zm,Zn,Zo,Zp,Zq,Zr,Zs,Zt,Zu,Zv,Zw,Zx,Zy,Zz,ZA,ZB,ZC,ZD,ZE,ZF,ZG,ZH,ZI,ZJ,ZK,ZL,ZM,ZN,ZO,ZP,ZQ,ZR,ZS,ZT,ZU,ZV,ZW,ZX,ZY,ZZ,Ya,Yb,Yc,Yd,Ye,Yf,Yg,Yh,Yi,Yj,Yk,Yl,Ym,Yn,Yo,Yp,Yq,Yr,Ys,Yt,Yu,Yv,Yw,Yx,Yy,Yz,YA,YB,YC,YD,YE,YF,YG,YH,YI,row₀,List.getElem?_cons_zero,List.getElem?_cons_succ,List.set_cons_zero,List.set_cons_succ,List.map_cons,List.map_nil,List.length_cons,List.length_nil,List.replicate,List.cons_append,List.nil_append,Nat.reduceAdd,Nat.reduceSub,List.mem_cons,List.not_mem_nil,or_false,forall_eq_or_imp,forall_eq,implies_true,true_and,and_true,if_true,if_false,Bool.false_eq_true,decide_eq_true_eq,Bool.not_eq_true',decide_eq_false_iff_not,Bool.not_eq_eq_eq_not,Bool.not_true,Bool.not_false,beq_self_eq_true,reduceCtorEq,beq_iff_eq,low_length,row_length,fdiv_nat,fmod_nat,two_pow,one_shl,shr,shl,and_mask,clip_nat,Int.one_mul]
    refine ⟨[1], rfl, by decide, ?_⟩
    rw [← row_one hB]
    refine m_add hw1 hw9 (ha.bd.le (by (clear hq h2 h1 hPm hPd bP hPP hP haP hlab la hn hab hl1 hl0 lb hB hw1 hQ hb ha hw9 hw; omega))) one_bd ?_
    refine WSs.set ?_
    try simp only [orAnd,andAnd,Za,Zb,Zc,Zd,Ze,Zf,Zg,Zh,Zi,Zj,Zk,Zl,Zm,Zn,Zo,Zp,Zq,Zr,Zs,Zt,Zu,Zv,Zw,Zx,Zy,Zz,ZA,ZB,ZC,ZD,ZE,ZF,ZG,ZH,ZI,ZJ,ZK,ZL,ZM,ZN,ZO,ZP,ZQ,ZR,ZS,ZT,ZU,ZV,ZW,ZX,ZY,ZZ,Ya,Yb,Yc,Yd,Ye,Yf,Yg,Yh,Yi,Yj,Yk,Yl,Ym,Yn,Yo,Yp,Yq,Yr,Ys,Yt,Yu,Yv,Yw,Yx,Yy,Yz,YA,YB,YC,YD,YE,YF,YG,YH,YI,row₀,List.getElem?_cons_zero,List.getElem?_cons_succ,List.set_cons_zero,List.set_cons_succ,List.map_cons,List.map_nil,List.length_cons,List.length_nil,List.replicate,List.cons_append,List.nil_append,Nat.reduceAdd,Nat.reduceSub,List.mem_cons,List.not_mem_nil,or_false,forall_eq_or_imp,forall_eq,implies_true,true_and,and_true,if_true,if_false,Bool.false_eq_true,decide_eq_true_eq,Bool.not_eq_true',decide_eq_false_iff_not,Bool.not_eq_eq_eq_not,Bool.not_true,Bool.not_false,beq_self_eq_true,reduceCtorEq,beq_iff_eq,low_length,row_length,fdiv_nat,fmod_nat,two_pow,one_shl,shr,shl,and_mask,clip_nat,Int.one_mul]
    refine m_sub hw1 hw9 (ha.bd.le (by (clear hc hum hq h2 h1 hPm hPd bP hPP hP haP hlab la hn hab hl1 hl0 lb hB hw1 hQ hb0 hb ha hw9 hw; omega))) hc ?_
    exact WSs.nil ⟨r - b, by (clear hum hm hq h2 h1 hPm hPd bP hPP hP haP hlab la hn hab hl1 hl0 lb hB hw1 hQ hb ha hw9 hw; omega), m + 1, rfl, rfl, rfl, by rw [Nat.succ_mul]; (clear hum hq h2 h1 hPm hPd bP hPP hP haP hlab la hn hab hl1 hl0 lb hB hw1 hQ hb0 hb ha hw9 hw; omega)⟩
  · rw [if_neg (by rw [cmp3_ge]; exact hc)]
    refine WSs.ret ?_
    try simp only [orAnd,andAnd,Za,Zb,Zc,Zd,Ze,Zf,Zg,Zh,Zi,Zj,Zk,Zl,Zm,Zn,Zo,Zp,Zq,Zr,Zs,Zt,Zu,Zv,Zw,Zx,Zy,Zz,ZA,ZB,ZC,ZD,ZE,ZF,ZG,ZH,ZI,ZJ,ZK,ZL,ZM,ZN,ZO,ZP,ZQ,ZR,ZS,ZT,ZU,ZV,ZW,ZX,ZY,ZZ,Ya,Yb,Yc,Yd,Ye,Yf,Yg,Yh,Yi,Yj,Yk,Yl,Ym,Yn,Yo,Yp,Yq,Yr,Ys,Yt,Yu,Yv,Yw,Yx,Yy,Yz,YA,YB,YC,YD,YE,YF,YG,YH,YI,row₀,List.getElem?_cons_zero,List.getElem?_cons_succ,List.set_cons_zero,List.set_cons_succ,List.map_cons,List.map_nil,List.length_cons,List.length_nil,List.replicate,List.cons_append,List.nil_append,Nat.reduceAdd,Nat.reduceSub,List.mem_cons,List.not_mem_nil,or_false,forall_eq_or_imp,forall_eq,implies_true,true_and,and_true,if_true,if_false,Bool.false_eq_true,decide_eq_true_eq,Bool.not_eq_true',decide_eq_false_iff_not,Bool.not_eq_eq_eq_not,Bool.not_true,Bool.not_false,beq_self_eq_true,reduceCtorEq,beq_iff_eq,low_length,row_length,fdiv_nat,fmod_nat,two_pow,one_shl,shr,shl,and_mask,clip_nat,Int.one_mul]
    have hd := div_is hm (show r < b by (clear hum hm hq h2 h1 hPm hPd bP hPP hP haP hlab la hn hab hl1 hl0 lb hB hw1 hQ hb0 hb ha hw9 hw; omega))
    rw [hd.1, hd.2] at hQ
    exact hQ
end
end
section
open PySem PySem.W PyProof.Rows
set_option exponentiation.threshold 5000

theorem wattr_halves {h n l : Int} {Q : V → Bx → Prop} {σ : Bx} : WAttr "halves" (.told h n l) Q σ = Q (.int h) σ := by unfold WAttr; exact if_pos (by decide)
theorem wattr_newton {h n l : Int} {Q : V → Bx → Prop} {σ : Bx} : WAttr "newton" (.told h n l) Q σ = Q (.int n) σ := by unfold WAttr; exact (if_neg (by decide)).trans (if_pos (by decide))
theorem wattr_least {h n l : Int} {Q : V → Bx → Prop} {σ : Bx} : WAttr "least" (.told h n l) Q σ = Q (.int l) σ := by unfold WAttr; exact (if_neg (by decide)).trans ((if_neg (by decide)).trans (if_pos (by decide)))
theorem wattr_mul {h n l : Int} {Q : V → Bx → Prop} {σ : Bx} : WAttr "mul" (.told h n l) Q σ = Q (.fn "_law_times") σ := by unfold WAttr; exact (if_neg (by decide)).trans ((if_neg (by decide)).trans ((if_neg (by decide)).trans (if_pos (by decide))))
theorem wattr_base {h n l : Int} {Q : V → Bx → Prop} {σ : Bx} : WAttr "base" (.told h n l) Q σ = Q (.fn "_law_parts") σ := by unfold WAttr; exact (if_neg (by decide)).trans ((if_neg (by decide)).trans ((if_neg (by decide)).trans ((if_neg (by decide)).trans (if_pos (by decide)))))

section
variable {W : Wd} {w k a b : Nat} {σ : Bx} {Q : V → Bx → Prop} {h n : Int} {l : Nat}

theorem m_divide_any (hw : 2 ≤ w) (hw9 : w ≤ 9) (ha : Sm a) (hb : Sm b) (hb0 : 0 < b) (hl : 1 ≤ l) (hQ : Q (.pair (rw_ w (a / b)) (rw_ w (a % b))) σ) :
    Meets W (k + 22) "divide_any" [rw_ w a, rw_ w b, .int w, .told h n l] Q σ := by
  have hw1 : 1 ≤ w := by omega
  have hB := w_pow hw1
  refine meets c_divide_any rfl ?_
  unfold rw_ at *
  refine WSs.swap ?_
  try simp only [orAnd,andAnd,Za,Zb,Zc,Zd,Ze,Zf,Zg,Zh,Zi,Zj,Zk,Zl,Zm,Zn,Zo,Zp,Zq,Zr,Zs,Zt,Zu,Zv,Zw,Zx,Zy,Zz,ZA,ZB,ZC,ZD,ZE,ZF,ZG,ZH,ZI,ZJ,ZK,ZL,ZM,ZN,ZO,ZP,ZQ,ZR,ZS,ZT,ZU,ZV,ZW,ZX,ZY,ZZ,Ya,Yb,Yc,Yd,Ye,Yf,Yg,Yh,Yi,Yj,Yk,Yl,Ym,Yn,Yo,Yp,Yq,Yr,Ys,Yt,Yu,Yv,Yw,Yx,Yy,Yz,YA,YB,YC,YD,YE,YF,YG,YH,YI,row₀,List.getElem?_cons_zero,List.getElem?_cons_succ,List.set_cons_zero,List.set_cons_succ,List.map_cons,List.map_nil,List.length_cons,List.length_nil,List.replicate,List.cons_append,List.nil_append,Nat.reduceAdd,Nat.reduceSub,List.mem_cons,List.not_mem_nil,or_false,forall_eq_or_imp,forall_eq,implies_true,true_and,and_true,if_true,if_false,Bool.false_eq_true,decide_eq_true_eq,Bool.not_eq_true',decide_eq_false_iff_not,Bool.not_eq_eq_eq_not,Bool.not_true,Bool.not_false,beq_self_eq_true,reduceCtorEq,beq_iff_eq,low_length,row_length,fdiv_nat,fmod_nat,two_pow,one_shl,shr,shl,and_mask,clip_nat,Int.one_mul]
  rw [wattr_mul, wattr_base]
  refine WSs.set ?_
  try simp only [orAnd,andAnd,Za,Zb,Zc,Zd,Ze,Zf,Zg,Zh,Zi,Zj,Zk,Zl,Zm,Zn,Zo,Zp,Zq,Zr,Zs,Zt,Zu,Zv,Zw,Zx,Zy,Zz,ZA,ZB,ZC,ZD,ZE,ZF,ZG,ZH,ZI,ZJ,ZK,ZL,ZM,ZN,ZO,ZP,ZQ,ZR,ZS,ZT,ZU,ZV,ZW,ZX,ZY,ZZ,Ya,Yb,Yc,Yd,Ye,Yf,Yg,Yh,Yi,Yj,Yk,Yl,Ym,Yn,Yo,Yp,Yq,Yr,Ys,Yt,Yu,Yv,Yw,Yx,Yy,Yz,YA,YB,YC,YD,YE,YF,YG,YH,YI,row₀,List.getElem?_cons_zero,List.getElem?_cons_succ,List.set_cons_zero,List.set_cons_succ,List.map_cons,List.map_nil,List.length_cons,List.length_nil,List.replicate,List.cons_append,List.nil_append,Nat.reduceAdd,Nat.reduceSub,List.mem_cons,List.not_mem_nil,or_false,forall_eq_or_imp,forall_eq,implies_true,true_and,and_true,if_true,if_false,Bool.false_eq_true,decide_eq_true_eq,Bool.not_eq_true',decide_eq_false_iff_not,Bool.not_eq_eq_eq_not,Bool.not_true,Bool.not_false,beq_self_eq_true,reduceCtorEq,beq_iff_eq,low_length,row_length,fdiv_nat,fmod_nat,two_pow,one_shl,shr,shl,and_mask,clip_nat,Int.one_mul]
  rw [max_if, min_if]
  generalize ((min _ _ : Nat) : Int) = z
  refine WSs.ite ?_
  try simp only [orAnd,andAnd,Za,Zb,Zc,Zd,Ze,Zf,Zg,Zh,Zi,Zj,Zk,Zl,Zm,Zn,Zo,Zp,Zq,Zr,Zs,Zt,Zu,Zv,Zw,Zx,Zy,Zz,ZA,ZB,ZC,ZD,ZE,ZF,ZG,ZH,ZI,ZJ,ZK,ZL,ZM,ZN,ZO,ZP,ZQ,ZR,ZS,ZT,ZU,ZV,ZW,ZX,ZY,ZZ,Ya,Yb,Yc,Yd,Ye,Yf,Yg,Yh,Yi,Yj,Yk,Yl,Ym,Yn,Yo,Yp,Yq,Yr,Ys,Yt,Yu,Yv,Yw,Yx,Yy,Yz,YA,YB,YC,YD,YE,YF,YG,YH,YI,row₀,List.getElem?_cons_zero,List.getElem?_cons_succ,List.set_cons_zero,List.set_cons_succ,List.map_cons,List.map_nil,List.length_cons,List.length_nil,List.replicate,List.cons_append,List.nil_append,Nat.reduceAdd,Nat.reduceSub,List.mem_cons,List.not_mem_nil,or_false,forall_eq_or_imp,forall_eq,implies_true,true_and,and_true,if_true,if_false,Bool.false_eq_true,decide_eq_true_eq,Bool.not_eq_true',decide_eq_false_iff_not,Bool.not_eq_eq_eq_not,Bool.not_true,Bool.not_false,beq_self_eq_true,reduceCtorEq,beq_iff_eq,low_length,row_length,fdiv_nat,fmod_nat,two_pow,one_shl,shr,shl,and_mask,clip_nat,Int.one_mul]
  rw [wattr_halves]
  try simp only [orAnd,andAnd,Za,Zb,Zc,Zd,Ze,Zf,Zg,Zh,Zi,Zj,Zk,Zl,Zm,Zn,Zo,Zp,Zq,Zr,Zs,Zt,Zu,Zv,Zw,Zx,Zy,Zz,ZA,ZB,ZC,ZD,ZE,ZF,ZG,ZH,ZI,ZJ,ZK,ZL,ZM,ZN,ZO,ZP,ZQ,ZR,ZS,ZT,ZU,ZV,ZW,ZX,ZY,ZZ,Ya,Yb,Yc,Yd,Ye,Yf,Yg,Yh,Yi,Yj,Yk,Yl,Ym,Yn,Yo,Yp,Yq,Yr,Ys,Yt,Yu,Yv,Yw,Yx,Yy,Yz,YA,YB,YC,YD,YE,YF,YG,YH,YI,row₀,List.getElem?_cons_zero,List.getElem?_cons_succ,List.set_cons_zero,List.set_cons_succ,List.map_cons,List.map_nil,List.length_cons,List.length_nil,List.replicate,List.cons_append,List.nil_append,Nat.reduceAdd,Nat.reduceSub,List.mem_cons,List.not_mem_nil,or_false,forall_eq_or_imp,forall_eq,implies_true,true_and,and_true,if_true,if_false,Bool.false_eq_true,decide_eq_true_eq,Bool.not_eq_true',decide_eq_false_iff_not,Bool.not_eq_eq_eq_not,Bool.not_true,Bool.not_false,beq_self_eq_true,reduceCtorEq,beq_iff_eq,low_length,row_length,fdiv_nat,fmod_nat,two_pow,one_shl,shr,shl,and_mask,clip_nat,Int.one_mul]
  by_cases hz : z < h
  · rw [if_pos hz]
    refine WSs.ret ?_
    try simp only [orAnd,andAnd,Za,Zb,Zc,Zd,Ze,Zf,Zg,Zh,Zi,Zj,Zk,Zl,Zm,Zn,Zo,Zp,Zq,Zr,Zs,Zt,Zu,Zv,Zw,Zx,Zy,Zz,ZA,ZB,ZC,ZD,ZE,ZF,ZG,ZH,ZI,ZJ,ZK,ZL,ZM,ZN,ZO,ZP,ZQ,ZR,ZS,ZT,ZU,ZV,ZW,ZX,ZY,ZZ,Ya,Yb,Yc,Yd,Ye,Yf,Yg,Yh,Yi,Yj,Yk,Yl,Ym,Yn,Yo,Yp,Yq,Yr,Ys,Yt,Yu,Yv,Yw,Yx,Yy,Yz,YA,YB,YC,YD,YE,YF,YG,YH,YI,row₀,List.getElem?_cons_zero,List.getElem?_cons_succ,List.set_cons_zero,List.set_cons_succ,List.map_cons,List.map_nil,List.length_cons,List.length_nil,List.replicate,List.cons_append,List.nil_append,Nat.reduceAdd,Nat.reduceSub,List.mem_cons,List.not_mem_nil,or_false,forall_eq_or_imp,forall_eq,implies_true,true_and,and_true,if_true,if_false,Bool.false_eq_true,decide_eq_true_eq,Bool.not_eq_true',decide_eq_false_iff_not,Bool.not_eq_eq_eq_not,Bool.not_true,Bool.not_false,beq_self_eq_true,reduceCtorEq,beq_iff_eq,low_length,row_length,fdiv_nat,fmod_nat,two_pow,one_shl,shr,shl,and_mask,clip_nat,Int.one_mul]
    exact m_law_parts (k := k + 19) hw1 hw9 ha.bd hb.bd hb0 hQ
  · rw [if_neg hz]
    refine WSs.nil (WSs.ite ?_)
    try simp only [orAnd,andAnd,Za,Zb,Zc,Zd,Ze,Zf,Zg,Zh,Zi,Zj,Zk,Zl,Zm,Zn,Zo,Zp,Zq,Zr,Zs,Zt,Zu,Zv,Zw,Zx,Zy,Zz,ZA,ZB,ZC,ZD,ZE,ZF,ZG,ZH,ZI,ZJ,ZK,ZL,ZM,ZN,ZO,ZP,ZQ,ZR,ZS,ZT,ZU,ZV,ZW,ZX,ZY,ZZ,Ya,Yb,Yc,Yd,Ye,Yf,Yg,Yh,Yi,Yj,Yk,Yl,Ym,Yn,Yo,Yp,Yq,Yr,Ys,Yt,Yu,Yv,Yw,Yx,Yy,Yz,YA,YB,YC,YD,YE,YF,YG,YH,YI,row₀,List.getElem?_cons_zero,List.getElem?_cons_succ,List.set_cons_zero,List.set_cons_succ,List.map_cons,List.map_nil,List.length_cons,List.length_nil,List.replicate,List.cons_append,List.nil_append,Nat.reduceAdd,Nat.reduceSub,List.mem_cons,List.not_mem_nil,or_false,forall_eq_or_imp,forall_eq,implies_true,true_and,and_true,if_true,if_false,Bool.false_eq_true,decide_eq_true_eq,Bool.not_eq_true',decide_eq_false_iff_not,Bool.not_eq_eq_eq_not,Bool.not_true,Bool.not_false,beq_self_eq_true,reduceCtorEq,beq_iff_eq,low_length,row_length,fdiv_nat,fmod_nat,two_pow,one_shl,shr,shl,and_mask,clip_nat,Int.one_mul]
    rw [wattr_newton]
    try simp only [orAnd,andAnd,Za,Zb,Zc,Zd,Ze,Zf,Zg,Zh,Zi,Zj,Zk,Zl,Zm,Zn,Zo,Zp,Zq,Zr,Zs,Zt,Zu,Zv,Zw,Zx,Zy,Zz,ZA,ZB,ZC,ZD,ZE,ZF,ZG,ZH,ZI,ZJ,ZK,ZL,ZM,ZN,ZO,ZP,ZQ,ZR,ZS,ZT,ZU,ZV,ZW,ZX,ZY,ZZ,Ya,Yb,Yc,Yd,Ye,Yf,Yg,Yh,Yi,Yj,Yk,Yl,Ym,Yn,Yo,Yp,Yq,Yr,Ys,Yt,Yu,Yv,Yw,Yx,Yy,Yz,YA,YB,YC,YD,YE,YF,YG,YH,YI,row₀,List.getElem?_cons_zero,List.getElem?_cons_succ,List.set_cons_zero,List.set_cons_succ,List.map_cons,List.map_nil,List.length_cons,List.length_nil,List.replicate,List.cons_append,List.nil_append,Nat.reduceAdd,Nat.reduceSub,List.mem_cons,List.not_mem_nil,or_false,forall_eq_or_imp,forall_eq,implies_true,true_and,and_true,if_true,if_false,Bool.false_eq_true,decide_eq_true_eq,Bool.not_eq_true',decide_eq_false_iff_not,Bool.not_eq_eq_eq_not,Bool.not_true,Bool.not_false,beq_self_eq_true,reduceCtorEq,beq_iff_eq,low_length,row_length,fdiv_nat,fmod_nat,two_pow,one_shl,shr,shl,and_mask,clip_nat,Int.one_mul]
    by_cases hz2 : z < n
    · rw [if_pos hz2]
      refine WSs.ret ?_
      try simp only [orAnd,andAnd,Za,Zb,Zc,Zd,Ze,Zf,Zg,Zh,Zi,Zj,Zk,Zl,Zm,Zn,Zo,Zp,Zq,Zr,Zs,Zt,Zu,Zv,Zw,Zx,Zy,Zz,ZA,ZB,ZC,ZD,ZE,ZF,ZG,ZH,ZI,ZJ,ZK,ZL,ZM,ZN,ZO,ZP,ZQ,ZR,ZS,ZT,ZU,ZV,ZW,ZX,ZY,ZZ,Ya,Yb,Yc,Yd,Ye,Yf,Yg,Yh,Yi,Yj,Yk,Yl,Ym,Yn,Yo,Yp,Yq,Yr,Ys,Yt,Yu,Yv,Yw,Yx,Yy,Yz,YA,YB,YC,YD,YE,YF,YG,YH,YI,row₀,List.getElem?_cons_zero,List.getElem?_cons_succ,List.set_cons_zero,List.set_cons_succ,List.map_cons,List.map_nil,List.length_cons,List.length_nil,List.replicate,List.cons_append,List.nil_append,Nat.reduceAdd,Nat.reduceSub,List.mem_cons,List.not_mem_nil,or_false,forall_eq_or_imp,forall_eq,implies_true,true_and,and_true,if_true,if_false,Bool.false_eq_true,decide_eq_true_eq,Bool.not_eq_true',decide_eq_false_iff_not,Bool.not_eq_eq_eq_not,Bool.not_true,Bool.not_false,beq_self_eq_true,reduceCtorEq,beq_iff_eq,low_length,row_length,fdiv_nat,fmod_nat,two_pow,one_shl,shr,shl,and_mask,clip_nat,Int.one_mul]
      rw [wattr_least]
      exact m_divrem_halves hw hw9 ha hb hb0 hl hQ
    · rw [if_neg hz2]
      refine WSs.nil (WSs.ret ?_)
      try simp only [orAnd,andAnd,Za,Zb,Zc,Zd,Ze,Zf,Zg,Zh,Zi,Zj,Zk,Zl,Zm,Zn,Zo,Zp,Zq,Zr,Zs,Zt,Zu,Zv,Zw,Zx,Zy,Zz,ZA,ZB,ZC,ZD,ZE,ZF,ZG,ZH,ZI,ZJ,ZK,ZL,ZM,ZN,ZO,ZP,ZQ,ZR,ZS,ZT,ZU,ZV,ZW,ZX,ZY,ZZ,Ya,Yb,Yc,Yd,Ye,Yf,Yg,Yh,Yi,Yj,Yk,Yl,Ym,Yn,Yo,Yp,Yq,Yr,Ys,Yt,Yu,Yv,Yw,Yx,Yy,Yz,YA,YB,YC,YD,YE,YF,YG,YH,YI,row₀,List.getElem?_cons_zero,List.getElem?_cons_succ,List.set_cons_zero,List.set_cons_succ,List.map_cons,List.map_nil,List.length_cons,List.length_nil,List.replicate,List.cons_append,List.nil_append,Nat.reduceAdd,Nat.reduceSub,List.mem_cons,List.not_mem_nil,or_false,forall_eq_or_imp,forall_eq,implies_true,true_and,and_true,if_true,if_false,Bool.false_eq_true,decide_eq_true_eq,Bool.not_eq_true',decide_eq_false_iff_not,Bool.not_eq_eq_eq_not,Bool.not_true,Bool.not_false,beq_self_eq_true,reduceCtorEq,beq_iff_eq,low_length,row_length,fdiv_nat,fmod_nat,two_pow,one_shl,shr,shl,and_mask,clip_nat,Int.one_mul]
      exact m_divrem_newton (k := k + 1) hw hw9 ha hb hb0 hQ

theorem m_quotient_of (hw : 2 ≤ w) (hw9 : w ≤ 9) (ha : Sm a) (hb : Sm b) (hb0 : 0 < b) (hl : 1 ≤ l) (hQ : Q (rw_ w (a / b)) σ) :
    Meets W (k + 23) "quotient_of" [rw_ w a, rw_ w b, .int w, .told h n l] Q σ := by
  refine meets c_quotient_of rfl ?_
  unfold rw_ at *
  refine WSs.two ?_
  try simp only [orAnd,andAnd,Za,Zb,Zc,Zd,Ze,Zf,Zg,Zh,Zi,Zj,Zk,Zl,Zm,Zn,Zo,Zp,Zq,Zr,Zs,Zt,Zu,Zv,Zw,Zx,Zy,Zz,ZA,ZB,ZC,ZD,ZE,ZF,ZG,ZH,ZI,ZJ,ZK,ZL,ZM,ZN,ZO,ZP,ZQ,ZR,ZS,ZT,ZU,ZV,ZW,ZX,ZY,ZZ,Ya,Yb,Yc,Yd,Ye,Yf,Yg,Yh,Yi,Yj,Yk,Yl,Ym,Yn,Yo,Yp,Yq,Yr,Ys,Yt,Yu,Yv,Yw,Yx,Yy,Yz,YA,YB,YC,YD,YE,YF,YG,YH,YI,row₀,List.getElem?_cons_zero,List.getElem?_cons_succ,List.set_cons_zero,List.set_cons_succ,List.map_cons,List.map_nil,List.length_cons,List.length_nil,List.replicate,List.cons_append,List.nil_append,Nat.reduceAdd,Nat.reduceSub,List.mem_cons,List.not_mem_nil,or_false,forall_eq_or_imp,forall_eq,implies_true,true_and,and_true,if_true,if_false,Bool.false_eq_true,decide_eq_true_eq,Bool.not_eq_true',decide_eq_false_iff_not,Bool.not_eq_eq_eq_not,Bool.not_true,Bool.not_false,beq_self_eq_true,reduceCtorEq,beq_iff_eq,low_length,row_length,fdiv_nat,fmod_nat,two_pow,one_shl,shr,shl,and_mask,clip_nat,Int.one_mul]
  refine m_divide_any hw hw9 ha hb hb0 hl ?_
  unfold rw_
  try simp only [orAnd,andAnd,Za,Zb,Zc,Zd,Ze,Zf,Zg,Zh,Zi,Zj,Zk,Zl,Zm,Zn,Zo,Zp,Zq,Zr,Zs,Zt,Zu,Zv,Zw,Zx,Zy,Zz,ZA,ZB,ZC,ZD,ZE,ZF,ZG,ZH,ZI,ZJ,ZK,ZL,ZM,ZN,ZO,ZP,ZQ,ZR,ZS,ZT,ZU,ZV,ZW,ZX,ZY,ZZ,Ya,Yb,Yc,Yd,Ye,Yf,Yg,Yh,Yi,Yj,Yk,Yl,Ym,Yn,Yo,Yp,Yq,Yr,Ys,Yt,Yu,Yv,Yw,Yx,Yy,Yz,YA,YB,YC,YD,YE,YF,YG,YH,YI,row₀,List.getElem?_cons_zero,List.getElem?_cons_succ,List.set_cons_zero,List.set_cons_succ,List.map_cons,List.map_nil,List.length_cons,List.length_nil,List.replicate,List.cons_append,List.nil_append,Nat.reduceAdd,Nat.reduceSub,List.mem_cons,List.not_mem_nil,or_false,forall_eq_or_imp,forall_eq,implies_true,true_and,and_true,if_true,if_false,Bool.false_eq_true,decide_eq_true_eq,Bool.not_eq_true',decide_eq_false_iff_not,Bool.not_eq_eq_eq_not,Bool.not_true,Bool.not_false,beq_self_eq_true,reduceCtorEq,beq_iff_eq,low_length,row_length,fdiv_nat,fmod_nat,two_pow,one_shl,shr,shl,and_mask,clip_nat,Int.one_mul]
  refine WSs.ret ?_
  try simp only [orAnd,andAnd,Za,Zb,Zc,Zd,Ze,Zf,Zg,Zh,Zi,Zj,Zk,Zl,Zm,Zn,Zo,Zp,Zq,Zr,Zs,Zt,Zu,Zv,Zw,Zx,Zy,Zz,ZA,ZB,ZC,ZD,ZE,ZF,ZG,ZH,ZI,ZJ,ZK,ZL,ZM,ZN,ZO,ZP,ZQ,ZR,ZS,ZT,ZU,ZV,ZW,ZX,ZY,ZZ,Ya,Yb,Yc,Yd,Ye,Yf,Yg,Yh,Yi,Yj,Yk,Yl,Ym,Yn,Yo,Yp,Yq,Yr,Ys,Yt,Yu,Yv,Yw,Yx,Yy,Yz,YA,YB,YC,YD,YE,YF,YG,YH,YI,row₀,List.getElem?_cons_zero,List.getElem?_cons_succ,List.set_cons_zero,List.set_cons_succ,List.map_cons,List.map_nil,List.length_cons,List.length_nil,List.replicate,List.cons_append,List.nil_append,Nat.reduceAdd,Nat.reduceSub,List.mem_cons,List.not_mem_nil,or_false,forall_eq_or_imp,forall_eq,implies_true,true_and,and_true,if_true,if_false,Bool.false_eq_true,decide_eq_true_eq,Bool.not_eq_true',decide_eq_false_iff_not,Bool.not_eq_eq_eq_not,Bool.not_true,Bool.not_false,beq_self_eq_true,reduceCtorEq,beq_iff_eq,low_length,row_length,fdiv_nat,fmod_nat,two_pow,one_shl,shr,shl,and_mask,clip_nat,Int.one_mul]
  exact hQ

theorem m_rest_of (hw : 2 ≤ w) (hw9 : w ≤ 9) (ha : Sm a) (hb : Sm b) (hb0 : 0 < b) (hl : 1 ≤ l) (hQ : Q (rw_ w (a % b)) σ) :
    Meets W (k + 23) "rest_of" [rw_ w a, rw_ w b, .int w, .told h n l] Q σ := by
  refine meets c_rest_of rfl ?_
  unfold rw_ at *
  refine WSs.two ?_
  try simp only [orAnd,andAnd,Za,Zb,Zc,Zd,Ze,Zf,Zg,Zh,Zi,Zj,Zk,Zl,Zm,Zn,Zo,Zp,Zq,Zr,Zs,Zt,Zu,Zv,Zw,Zx,Zy,Zz,ZA,ZB,ZC,ZD,ZE,ZF,ZG,ZH,ZI,ZJ,ZK,ZL,ZM,ZN,ZO,ZP,ZQ,ZR,ZS,ZT,ZU,ZV,ZW,ZX,ZY,ZZ,Ya,Yb,Yc,Yd,Ye,Yf,Yg,Yh,Yi,Yj,Yk,Yl,Ym,Yn,Yo,Yp,Yq,Yr,Ys,Yt,Yu,Yv,Yw,Yx,Yy,Yz,YA,YB,YC,YD,YE,YF,YG,YH,YI,row₀,List.getElem?_cons_zero,List.getElem?_cons_succ,List.set_cons_zero,List.set_cons_succ,List.map_cons,List.map_nil,List.length_cons,List.length_nil,List.replicate,List.cons_append,List.nil_append,Nat.reduceAdd,Nat.reduceSub,List.mem_cons,List.not_mem_nil,or_false,forall_eq_or_imp,forall_eq,implies_true,true_and,and_true,if_true,if_false,Bool.false_eq_true,decide_eq_true_eq,Bool.not_eq_true',decide_eq_false_iff_not,Bool.not_eq_eq_eq_not,Bool.not_true,Bool.not_false,beq_self_eq_true,reduceCtorEq,beq_iff_eq,low_length,row_length,fdiv_nat,fmod_nat,two_pow,one_shl,shr,shl,and_mask,clip_nat,Int.one_mul]
  refine m_divide_any hw hw9 ha hb hb0 hl ?_
  unfold rw_
  try simp only [orAnd,andAnd,Za,Zb,Zc,Zd,Ze,Zf,Zg,Zh,Zi,Zj,Zk,Zl,Zm,Zn,Zo,Zp,Zq,Zr,Zs,Zt,Zu,Zv,Zw,Zx,Zy,Zz,ZA,ZB,ZC,ZD,ZE,ZF,ZG,ZH,ZI,ZJ,ZK,ZL,ZM,ZN,ZO,ZP,ZQ,ZR,ZS,ZT,ZU,ZV,ZW,ZX,ZY,ZZ,Ya,Yb,Yc,Yd,Ye,Yf,Yg,Yh,Yi,Yj,Yk,Yl,Ym,Yn,Yo,Yp,Yq,Yr,Ys,Yt,Yu,Yv,Yw,Yx,Yy,Yz,YA,YB,YC,YD,YE,YF,YG,YH,YI,row₀,List.getElem?_cons_zero,List.getElem?_cons_succ,List.set_cons_zero,List.set_cons_succ,List.map_cons,List.map_nil,List.length_cons,List.length_nil,List.replicate,List.cons_append,List.nil_append,Nat.reduceAdd,Nat.reduceSub,List.mem_cons,List.not_mem_nil,or_false,forall_eq_or_imp,forall_eq,implies_true,true_and,and_true,if_true,if_false,Bool.false_eq_true,decide_eq_true_eq,Bool.not_eq_true',decide_eq_false_iff_not,Bool.not_eq_eq_eq_not,Bool.not_true,Bool.not_false,beq_self_eq_true,reduceCtorEq,beq_iff_eq,low_length,row_length,fdiv_nat,fmod_nat,two_pow,one_shl,shr,shl,and_mask,clip_nat,Int.one_mul]
  refine WSs.ret ?_
  try simp only [orAnd,andAnd,Za,Zb,Zc,Zd,Ze,Zf,Zg,Zh,Zi,Zj,Zk,Zl,Zm,Zn,Zo,Zp,Zq,Zr,Zs,Zt,Zu,Zv,Zw,Zx,Zy,Zz,ZA,ZB,ZC,ZD,ZE,ZF,ZG,ZH,ZI,ZJ,ZK,ZL,ZM,ZN,ZO,ZP,ZQ,ZR,ZS,ZT,ZU,ZV,ZW,ZX,ZY,ZZ,Ya,Yb,Yc,Yd,Ye,Yf,Yg,Yh,Yi,Yj,Yk,Yl,Ym,Yn,Yo,Yp,Yq,Yr,Ys,Yt,Yu,Yv,Yw,Yx,Yy,Yz,YA,YB,YC,YD,YE,YF,YG,YH,YI,row₀,List.getElem?_cons_zero,List.getElem?_cons_succ,List.set_cons_zero,List.set_cons_succ,List.map_cons,List.map_nil,List.length_cons,List.length_nil,List.replicate,List.cons_append,List.nil_append,Nat.reduceAdd,Nat.reduceSub,List.mem_cons,List.not_mem_nil,or_false,forall_eq_or_imp,forall_eq,implies_true,true_and,and_true,if_true,if_false,Bool.false_eq_true,decide_eq_true_eq,Bool.not_eq_true',decide_eq_false_iff_not,Bool.not_eq_eq_eq_not,Bool.not_true,Bool.not_false,beq_self_eq_true,reduceCtorEq,beq_iff_eq,low_length,row_length,fdiv_nat,fmod_nat,two_pow,one_shl,shr,shl,and_mask,clip_nat,Int.one_mul]
  exact hQ

theorem len_zero_iff {B x : Nat} (hB : 2 ≤ B) : ((len B x : Nat) : Int) = 0 ↔ x = 0 := by
  constructor
  · intro h; exact len_eq_zero hB (by (clear hB; omega))
  · rintro rfl; rw [len_zero]; rfl

theorem m_quotient_up (hw : 2 ≤ w) (hw9 : w ≤ 9) (ha : Sm a) (hb : Sm b) (hb0 : 0 < b) (hl : 1 ≤ l) (hQ : Q (rw_ w (if a % b = 0 then a / b else a / b + 1)) σ) :
    Meets W (k + 23) "quotient_up" [rw_ w a, rw_ w b, .int w, .told h n l] Q σ := by
  have hw1 : 1 ≤ w := by omega
  have hB := w_pow hw1
  refine meets c_quotient_up rfl ?_
  unfold rw_ at *
  refine WSs.two ?_
  try simp only [orAnd,andAnd,Za,Zb,Zc,Zd,Ze,Zf,Zg,Zh,Zi,Zj,Zk,Zl,Zm,Zn,Zo,Zp,Zq,Zr,Zs,Zt,Zu,Zv,Zw,Zx,Zy,Zz,ZA,ZB,ZC,ZD,ZE,ZF,ZG,ZH,ZI,ZJ,ZK,ZL,ZM,ZN,ZO,ZP,ZQ,ZR,ZS,ZT,ZU,ZV,ZW,ZX,ZY,ZZ,Ya,Yb,Yc,Yd,Ye,Yf,Yg,Yh,Yi,Yj,Yk,Yl,Ym,Yn,Yo,Yp,Yq,Yr,Ys,Yt,Yu,Yv,Yw,Yx,Yy,Yz,YA,YB,YC,YD,YE,YF,YG,YH,YI,row₀,List.getElem?_cons_zero,List.getElem?_cons_succ,List.set_cons_zero,List.set_cons_succ,List.map_cons,List.map_nil,List.length_cons,List.length_nil,List.replicate,List.cons_append,List.nil_append,Nat.reduceAdd,Nat.reduceSub,List.mem_cons,List.not_mem_nil,or_false,forall_eq_or_imp,forall_eq,implies_true,true_and,and_true,if_true,if_false,Bool.false_eq_true,decide_eq_true_eq,Bool.not_eq_true',decide_eq_false_iff_not,Bool.not_eq_eq_eq_not,Bool.not_true,Bool.not_false,beq_self_eq_true,reduceCtorEq,beq_iff_eq,low_length,row_length,fdiv_nat,fmod_nat,two_pow,one_shl,shr,shl,and_mask,clip_nat,Int.one_mul]
  refine m_divide_any hw hw9 ha hb hb0 hl ?_
  unfold rw_
  try simp only [orAnd,andAnd,Za,Zb,Zc,Zd,Ze,Zf,Zg,Zh,Zi,Zj,Zk,Zl,Zm,Zn,Zo,Zp,Zq,Zr,Zs,Zt,Zu,Zv,Zw,Zx,Zy,Zz,ZA,ZB,ZC,ZD,ZE,ZF,ZG,ZH,ZI,ZJ,ZK,ZL,ZM,ZN,ZO,ZP,ZQ,ZR,ZS,ZT,ZU,ZV,ZW,ZX,ZY,ZZ,Ya,Yb,Yc,Yd,Ye,Yf,Yg,Yh,Yi,Yj,Yk,Yl,Ym,Yn,Yo,Yp,Yq,Yr,Ys,Yt,Yu,Yv,Yw,Yx,Yy,Yz,YA,YB,YC,YD,YE,YF,YG,YH,YI,row₀,List.getElem?_cons_zero,List.getElem?_cons_succ,List.set_cons_zero,List.set_cons_succ,List.map_cons,List.map_nil,List.length_cons,List.length_nil,List.replicate,List.cons_append,List.nil_append,Nat.reduceAdd,Nat.reduceSub,List.mem_cons,List.not_mem_nil,or_false,forall_eq_or_imp,forall_eq,implies_true,true_and,and_true,if_true,if_false,Bool.false_eq_true,decide_eq_true_eq,Bool.not_eq_true',decide_eq_false_iff_not,Bool.not_eq_eq_eq_not,Bool.not_true,Bool.not_false,beq_self_eq_true,reduceCtorEq,beq_iff_eq,low_length,row_length,fdiv_nat,fmod_nat,two_pow,one_shl,shr,shl,and_mask,clip_nat,Int.one_mul]
  refine WSs.ret ?_
  try simp only [orAnd,andAnd,Za,Zb,Zc,Zd,Ze,Zf,Zg,Zh,Zi,Zj,Zk,Zl,Zm,Zn,Zo,Zp,Zq,Zr,Zs,Zt,Zu,Zv,Zw,Zx,Zy,Zz,ZA,ZB,ZC,ZD,ZE,ZF,ZG,ZH,ZI,ZJ,ZK,ZL,ZM,ZN,ZO,ZP,ZQ,ZR,ZS,ZT,ZU,ZV,ZW,ZX,ZY,ZZ,Ya,Yb,Yc,Yd,Ye,Yf,Yg,Yh,Yi,Yj,Yk,Yl,Ym,Yn,Yo,Yp,Yq,Yr,Ys,Yt,Yu,Yv,Yw,Yx,Yy,Yz,YA,YB,YC,YD,YE,YF,YG,YH,YI,row₀,List.getElem?_cons_zero,List.getElem?_cons_succ,List.set_cons_zero,List.set_cons_succ,List.map_cons,List.map_nil,List.length_cons,List.length_nil,List.replicate,List.cons_append,List.nil_append,Nat.reduceAdd,Nat.reduceSub,List.mem_cons,List.not_mem_nil,or_false,forall_eq_or_imp,forall_eq,implies_true,true_and,and_true,if_true,if_false,Bool.false_eq_true,decide_eq_true_eq,Bool.not_eq_true',decide_eq_false_iff_not,Bool.not_eq_eq_eq_not,Bool.not_true,Bool.not_false,beq_self_eq_true,reduceCtorEq,beq_iff_eq,low_length,row_length,fdiv_nat,fmod_nat,two_pow,one_shl,shr,shl,and_mask,clip_nat,Int.one_mul]
  by_cases h0 : a % b = 0
  · rw [if_pos ((len_zero_iff hB).mpr h0)]
    rw [if_pos h0] at hQ
    exact hQ
  · rw [if_neg (fun q => h0 ((len_zero_iff hB).mp q))]
    rw [if_neg h0] at hQ
    refine ⟨[1], rfl, by decide, ?_⟩
    rw [← row_one hB]
    exact m_add (k := k + 21) hw1 hw9 (ha.bd.le (Nat.div_le_self ..)) one_bd hQ

noncomputable def near (a b : Nat) : Nat := if b < 2 * (a % b) ∨ (2 * (a % b) = b ∧ a / b % 2 = 1) then a / b + 1 else a / b

theorem m_quotient_near (hw : 2 ≤ w) (hw9 : w ≤ 9) (ha : Sm a) (hb : Sm b) (hb0 : 0 < b) (hl : 1 ≤ l) (hQ : Q (rw_ w (near a b)) σ) :
    Meets W (k + 23) "quotient_near" [rw_ w a, rw_ w b, .int w, .told h n l] Q σ := by
  have hw1 : 1 ≤ w := by omega
  have hB := w_pow hw1
  have hm := Nat.mod_lt a hb0
  refine meets c_quotient_near rfl ?_
  unfold rw_ at *
  refine WSs.two ?_
  try simp only [orAnd,andAnd,Za,Zb,Zc,Zd,Ze,Zf,Zg,Zh,Zi,Zj,Zk,Zl,Zm,Zn,Zo,Zp,Zq,Zr,Zs,Zt,Zu,Zv,Zw,Zx,Zy,Zz,ZA,ZB,ZC,ZD,ZE,ZF,ZG,ZH,ZI,ZJ,ZK,ZL,ZM,ZN,ZO,ZP,ZQ,ZR,ZS,ZT,ZU,ZV,ZW,ZX,ZY,ZZ,Ya,Yb,Yc,Yd,Ye,Yf,Yg,Yh,Yi,Yj,Yk,Yl,Ym,Yn,Yo,Yp,Yq,Yr,Ys,Yt,Yu,Yv,Yw,Yx,Yy,Yz,YA,YB,YC,YD,YE,YF,YG,YH,YI,row₀,List.getElem?_cons_zero,List.getElem?_cons_succ,List.set_cons_zero,List.set_cons_succ,List.map_cons,List.map_nil,List.length_cons,List.length_nil,List.replicate,List.cons_append,List.nil_append,Nat.reduceAdd,Nat.reduceSub,List.mem_cons,List.not_mem_nil,or_false,forall_eq_or_imp,forall_eq,implies_true,true_and,and_true,if_true,if_false,Bool.false_eq_true,decide_eq_true_eq,Bool.not_eq_true',decide_eq_false_iff_not,Bool.not_eq_eq_eq_not,Bool.not_true,Bool.not_false,beq_self_eq_true,reduceCtorEq,beq_iff_eq,low_length,row_length,fdiv_nat,fmod_nat,two_pow,one_shl,shr,shl,and_mask,clip_nat,Int.one_mul]
  refine m_divide_any hw hw9 ha hb hb0 hl ?_
  unfold rw_
  try simp only [orAnd,andAnd,Za,Zb,Zc,Zd,Ze,Zf,Zg,Zh,Zi,Zj,Zk,Zl,Zm,Zn,Zo,Zp,Zq,Zr,Zs,Zt,Zu,Zv,Zw,Zx,Zy,Zz,ZA,ZB,ZC,ZD,ZE,ZF,ZG,ZH,ZI,ZJ,ZK,ZL,ZM,ZN,ZO,ZP,ZQ,ZR,ZS,ZT,ZU,ZV,ZW,ZX,ZY,ZZ,Ya,Yb,Yc,Yd,Ye,Yf,Yg,Yh,Yi,Yj,Yk,Yl,Ym,Yn,Yo,Yp,Yq,Yr,Ys,Yt,Yu,Yv,Yw,Yx,Yy,Yz,YA,YB,YC,YD,YE,YF,YG,YH,YI,row₀,List.getElem?_cons_zero,List.getElem?_cons_succ,List.set_cons_zero,List.set_cons_succ,List.map_cons,List.map_nil,List.length_cons,List.length_nil,List.replicate,List.cons_append,List.nil_append,Nat.reduceAdd,Nat.reduceSub,List.mem_cons,List.not_mem_nil,or_false,forall_eq_or_imp,forall_eq,implies_true,true_and,and_true,if_true,if_false,Bool.false_eq_true,decide_eq_true_eq,Bool.not_eq_true',decide_eq_false_iff_not,Bool.not_eq_eq_eq_not,Bool.not_true,Bool.not_false,beq_self_eq_true,reduceCtorEq,beq_iff_eq,low_length,row_length,fdiv_nat,fmod_nat,two_pow,one_shl,shr,shl,and_mask,clip_nat,Int.one_mul]
  refine WSs.set ?_
  try simp only [orAnd,andAnd,Za,Zb,Zc,Zd,Ze,Zf,Zg,Zh,Zi,Zj,Zk,Zl,Zm,Zn,Zo,Zp,Zq,Zr,Zs,Zt,Zu,Zv,Zw,Zx,Zy,Zz,ZA,ZB,ZC,ZD,ZE,ZF,ZG,ZH,ZI,ZJ,ZK,ZL,ZM,ZN,ZO,ZP,ZQ,ZR,ZS,ZT,ZU,ZV,ZW,ZX,ZY,ZZ,Ya,Yb,Yc,Yd,Ye,Yf,Yg,Yh,Yi,Yj,Yk,Yl,Ym,Yn,Yo,Yp,Yq,Yr,Ys,Yt,Yu,Yv,Yw,Yx,Yy,Yz,YA,YB,YC,YD,YE,YF,YG,YH,YI,row₀,List.getElem?_cons_zero,List.getElem?_cons_succ,List.set_cons_zero,List.set_cons_succ,List.map_cons,List.map_nil,List.length_cons,List.length_nil,List.replicate,List.cons_append,List.nil_append,Nat.reduceAdd,Nat.reduceSub,List.mem_cons,List.not_mem_nil,or_false,forall_eq_or_imp,forall_eq,implies_true,true_and,and_true,if_true,if_false,Bool.false_eq_true,decide_eq_true_eq,Bool.not_eq_true',decide_eq_false_iff_not,Bool.not_eq_eq_eq_not,Bool.not_true,Bool.not_false,beq_self_eq_true,reduceCtorEq,beq_iff_eq,low_length,row_length,fdiv_nat,fmod_nat,two_pow,one_shl,shr,shl,and_mask,clip_nat,Int.one_mul]
  have b2 : Bd (a % b * 2 ^ 1) := by
    refine Bd.of (n := 113) ?_ (by decide)
    have : a % b < 2 ^ 112 := Nat.lt_trans hm hb
    rw [Nat.pow_succ]; (clear hm hB hw1 hQ hl hb0 hb ha hw9 hw; omega)
  refine m_shift_left (n := 1) hw1 hw9 (ha.bd.le (Nat.mod_le ..)) (by (clear b2 hm hB hw1 hQ hl hb0 hb ha hw9 hw; omega)) ?_
  refine m_compare hB b2 hb.bd ?_
  have e0 : (dig (2 ^ w) (a / b) 0 : Int).fmod 2 = ((a / b % 2 : Nat) : Int) := by
    rw [fmod_two]
    unfold dig
    rw [Nat.pow_zero, Nat.div_one, Nat.mod_mod_of_dvd]
    exact ⟨2 ^ (w - 1), by rw [← Nat.pow_succ']; congr 1; (clear b2 hm hB hw1 hQ hl hb0 hb ha; omega)⟩
  have up : near a b = a / b + 1 → WSs W (k + 22) (.cons (.ret (.call (.fn "add") (.cons (.var 4) (.cons (.list (.cons (.int 1) (.nil))) (.cons (.var 2) (.nil)))))) (.nil)) (fun fl _ _ σ' => match fl with | .ret v => Q v σ' | .next => False)
      [some (.list (row (2 ^ w) a)), some (.list (row (2 ^ w) b)), some (.int w), some (.told h n l), some (.list (row (2 ^ w) (a / b))), some (.list (row (2 ^ w) (a % b))), some (.int (cmp3 (a % b * 2 ^ 1) b))] none σ := fun e => by
    refine WSs.ret ?_
    try simp only [orAnd,andAnd,Za,Zb,Zc,Zd,Ze,Zf,Zg,Zh,Zi,Zj,Zk,Zl,Zm,Zn,Zo,Zp,Zq,Zr,Zs,Zt,Zu,Zv,Zw,Zx,Zy,Zz,ZA,ZB,ZC,ZD,ZE,ZF,ZG,ZH,ZI,ZJ,ZK,ZL,ZM,ZN,ZO,ZP,ZQ,ZR,ZS,ZT,ZU,ZV,ZW,ZX,ZY,ZZ,Ya,Yb,Yc,Yd,Ye,Yf,Yg,Yh,Yi,Yj,Yk,Yl,Ym,Yn,Yo,Yp,Yq,Yr,Ys,Yt,Yu,Yv,Yw,Yx,Yy,Yz,YA,YB,YC,YD,YE,YF,YG,YH,YI,row₀,List.getElem?_cons_zero,List.getElem?_cons_succ,List.set_cons_zero,List.set_cons_succ,List.map_cons,List.map_nil,List.length_cons,List.length_nil,List.replicate,List.cons_append,List.nil_append,Nat.reduceAdd,Nat.reduceSub,List.mem_cons,List.not_mem_nil,or_false,forall_eq_or_imp,forall_eq,implies_true,true_and,and_true,if_true,if_false,Bool.false_eq_true,decide_eq_true_eq,Bool.not_eq_true',decide_eq_false_iff_not,Bool.not_eq_eq_eq_not,Bool.not_true,Bool.not_false,beq_self_eq_true,reduceCtorEq,beq_iff_eq,low_length,row_length,fdiv_nat,fmod_nat,two_pow,one_shl,shr,shl,and_mask,clip_nat,Int.one_mul]
    refine ⟨[1], rfl, by decide, ?_⟩
    rw [← row_one hB]
    rw [e] at hQ
    exact m_add (k := k + 21) hw1 hw9 (ha.bd.le (Nat.div_le_self ..)) one_bd hQ
  have dn : near a b = a / b → WSs W (k + 22) (.cons (.ret (.var 4)) .nil) (fun fl _ _ σ' => match fl with | .ret v => Q v σ' | .next => False)
      [some (.list (row (2 ^ w) a)), some (.list (row (2 ^ w) b)), some (.int w), some (.told h n l), some (.list (row (2 ^ w) (a / b))), some (.list (row (2 ^ w) (a % b))), some (.int (cmp3 (a % b * 2 ^ 1) b))] none σ := fun e => by
    refine WSs.ret ?_
    try simp only [orAnd,andAnd,Za,Zb,Zc,Zd,Ze,Zf,Zg,Zh,Zi,Zj,Zk,Zl,Zm,Zn,Zo,Zp,Zq,Zr,Zs,Zt,Zu,Zv,Zw,Zx,Zy,Zz,ZA,ZB,ZC,ZD,ZE,ZF,ZG,ZH,ZI,ZJ,ZK,ZL,ZM,ZN,ZO,ZP,ZQ,ZR,ZS,ZT,ZU,ZV,ZW,ZX,ZY,ZZ,Ya,Yb,Yc,Yd,Ye,Yf,Yg,Yh,Yi,Yj,Yk,Yl,Ym,Yn,Yo,Yp,Yq,Yr,Ys,Yt,Yu,Yv,Yw,Yx,Yy,Yz,YA,YB,YC,YD,YE,YF,YG,YH,YI,row₀,List.getElem?_cons_zero,List.getElem?_cons_succ,List.set_cons_zero,List.set_cons_succ,List.map_cons,List.map_nil,List.length_cons,List.length_nil,List.replicate,List.cons_append,List.nil_append,Nat.reduceAdd,Nat.reduceSub,List.mem_cons,List.not_mem_nil,or_false,forall_eq_or_imp,forall_eq,implies_true,true_and,and_true,if_true,if_false,Bool.false_eq_true,decide_eq_true_eq,Bool.not_eq_true',decide_eq_false_iff_not,Bool.not_eq_eq_eq_not,Bool.not_true,Bool.not_false,beq_self_eq_true,reduceCtorEq,beq_iff_eq,low_length,row_length,fdiv_nat,fmod_nat,two_pow,one_shl,shr,shl,and_mask,clip_nat,Int.one_mul]
    rw [e] at hQ
    exact hQ
  refine WSs.ite ?_
  try simp only [orAnd,andAnd,Za,Zb,Zc,Zd,Ze,Zf,Zg,Zh,Zi,Zj,Zk,Zl,Zm,Zn,Zo,Zp,Zq,Zr,Zs,Zt,Zu,Zv,Zw,Zx,Zy,Zz,ZA,ZB,ZC,ZD,ZE,ZF,ZG,ZH,ZI,ZJ,ZK,ZL,ZM,ZN,ZO,ZP,ZQ,ZR,ZS,ZT,ZU,ZV,ZW,ZX,ZY,ZZ,Ya,Yb,Yc,Yd,Ye,Yf,Yg,Yh,Yi,Yj,Yk,Yl,Ym,Yn,Yo,Yp,Yq,Yr,Ys,Yt,Yu,Yv,Yw,Yx,Yy,Yz,YA,YB,YC,YD,YE,YF,YG,YH,YI,row₀,List.getElem?_cons_zero,List.getElem?_cons_succ,List.set_cons_zero,List.set_cons_succ,List.map_cons,List.map_nil,List.length_cons,List.length_nil,List.replicate,List.cons_append,List.nil_append,Nat.reduceAdd,Nat.reduceSub,List.mem_cons,List.not_mem_nil,or_false,forall_eq_or_imp,forall_eq,implies_true,true_and,and_true,if_true,if_false,Bool.false_eq_true,decide_eq_true_eq,Bool.not_eq_true',decide_eq_false_iff_not,Bool.not_eq_eq_eq_not,Bool.not_true,Bool.not_false,beq_self_eq_true,reduceCtorEq,beq_iff_eq,low_length,row_length,fdiv_nat,fmod_nat,two_pow,one_shl,shr,shl,and_mask,clip_nat,Int.one_mul]
  have e1 : a % b * 2 ^ 1 = 2 * (a % b) := by (clear dn up e0 b2 hm hB hw1 hQ hl hb0 hb ha hw9 hw; omega)
  rw [e1] at up dn ⊢
  by_cases c1 : b < 2 * (a % b)
  · rw [if_neg (by rw [Classical.not_not, cmp3_gt]; exact c1), if_pos (by rw [cmp3_gt]; exact c1)]
    exact up (by unfold near; rw [if_pos (.inl c1)])
  rw [if_pos (by rw [cmp3_gt]; exact c1)]
  by_cases c2 : 2 * (a % b) = b
  · rw [if_pos (by rw [cmp3_eq]; exact c2)]
    by_cases c3 : 0 < len (2 ^ w) (a / b)
    · rw [if_pos (by (clear c2 c1 e1 dn up e0 b2 hm hB hw1 hQ hl hb0 hb ha hw9 hw; omega))]
      refine WSub_at 0 rfl (by rw [row_length]; exact c3) ?_
      rw [row_getD hB]
      try simp only [orAnd,andAnd,Za,Zb,Zc,Zd,Ze,Zf,Zg,Zh,Zi,Zj,Zk,Zl,Zm,Zn,Zo,Zp,Zq,Zr,Zs,Zt,Zu,Zv,Zw,Zx,Zy,Zz,ZA,ZB,ZC,ZD,ZE,ZF,ZG,ZH,ZI,ZJ,ZK,ZL,ZM,ZN,ZO,ZP,ZQ,ZR,ZS,ZT,ZU,ZV,ZW,ZX,ZY,ZZ,Ya,Yb,Yc,Yd,Ye,Yf,Yg,Yh,Yi,Yj,Yk,Yl,Ym,Yn,Yo,Yp,Yq,Yr,Ys,Yt,Yu,Yv,Yw,Yx,Yy,Yz,YA,YB,YC,YD,YE,YF,YG,YH,YI,row₀,List.getElem?_cons_zero,List.getElem?_cons_succ,List.set_cons_zero,List.set_cons_succ,List.map_cons,List.map_nil,List.length_cons,List.length_nil,List.replicate,List.cons_append,List.nil_append,Nat.reduceAdd,Nat.reduceSub,List.mem_cons,List.not_mem_nil,or_false,forall_eq_or_imp,forall_eq,implies_true,true_and,and_true,if_true,if_false,Bool.false_eq_true,decide_eq_true_eq,Bool.not_eq_true',decide_eq_false_iff_not,Bool.not_eq_eq_eq_not,Bool.not_true,Bool.not_false,beq_self_eq_true,reduceCtorEq,beq_iff_eq,low_length,row_length,fdiv_nat,fmod_nat,two_pow,one_shl,shr,shl,and_mask,clip_nat,Int.one_mul]
      refine ⟨by decide, ?_⟩
      rw [e0]
      try simp only [orAnd,andAnd,Za,Zb,Zc,Zd,Ze,Zf,Zg,Zh,Zi,Zj,Zk,Zl,Zm,Zn,Zo,Zp,Zq,Zr,Zs,Zt,Zu,Zv,Zw,Zx,Zy,Zz,ZA,ZB,ZC,ZD,ZE,ZF,ZG,ZH,ZI,ZJ,ZK,ZL,ZM,ZN,ZO,ZP,ZQ,ZR,ZS,ZT,ZU,ZV,ZW,ZX,ZY,ZZ,Ya,Yb,Yc,Yd,Ye,Yf,Yg,Yh,Yi,Yj,Yk,Yl,Ym,Yn,Yo,Yp,Yq,Yr,Ys,Yt,Yu,Yv,Yw,Yx,Yy,Yz,YA,YB,YC,YD,YE,YF,YG,YH,YI,row₀,List.getElem?_cons_zero,List.getElem?_cons_succ,List.set_cons_zero,List.set_cons_succ,List.map_cons,List.map_nil,List.length_cons,List.length_nil,List.replicate,List.cons_append,List.nil_append,Nat.reduceAdd,Nat.reduceSub,List.mem_cons,List.not_mem_nil,or_false,forall_eq_or_imp,forall_eq,implies_true,true_and,and_true,if_true,if_false,Bool.false_eq_true,decide_eq_true_eq,Bool.not_eq_true',decide_eq_false_iff_not,Bool.not_eq_eq_eq_not,Bool.not_true,Bool.not_false,beq_self_eq_true,reduceCtorEq,beq_iff_eq,low_length,row_length,fdiv_nat,fmod_nat,two_pow,one_shl,shr,shl,and_mask,clip_nat,Int.one_mul]
      by_cases c4 : a / b % 2 = 1
      · rw [if_pos (by (clear c3 c2 c1 e1 dn up e0 b2 hm hB hw1 hQ hl hb0 hb ha hw9 hw; omega))]
        exact up (by unfold near; rw [if_pos (.inr ⟨c2, c4⟩)])
      · rw [if_neg (by (clear c3 c2 c1 e1 dn up e0 b2 hm hB hw1 hQ hl hb0 hb ha hw9 hw; omega)), if_pos (by (clear c3 c2 c1 e1 dn up e0 b2 hm hB hw1 hQ hl hb0 hb ha hw9 hw; omega))]
        refine WSs.nil ?_; exact (dn (by unfold near; rw [if_neg (by (clear c3 c1 e1 dn up e0 b2 hm hB hw1 hQ hl hb0 hb ha hw9 hw; omega))]))
    · rw [if_neg (by (clear c2 c1 e1 dn up e0 b2 hm hB hw1 hQ hl hb0 hb ha hw9 hw; omega)), if_pos (by (clear c2 c1 e1 dn up e0 b2 hm hB hw1 hQ hl hb0 hb ha hw9 hw; omega))]
      have := len_eq_zero hB (show len (2 ^ w) (a / b) = 0 by (clear c2 c1 e1 dn up e0 b2 hm hB hw1 hQ hl hb0 hb ha hw9 hw; omega))
      refine WSs.nil ?_; exact (dn (by unfold near; rw [if_neg (by (clear c3 c1 e1 dn up e0 b2 hm hB hw1 hQ hl hb0 hb ha hw9 hw; omega))]))
  · rw [if_neg (by rw [cmp3_eq]; exact c2), if_pos (by rw [cmp3_eq]; exact c2)]
    refine WSs.nil ?_; exact (dn (by unfold near; rw [if_neg (by (clear e1 dn up e0 b2 hm hB hw1 hQ hl hb0 hb ha hw9 hw; omega))]))

theorem m_divides (hw : 2 ≤ w) (hw9 : w ≤ 9) (ha : Sm a) (hb : Sm b) (hb0 : 0 < b) (hl : 1 ≤ l) (hQ : Q (.bool (decide (a % b = 0))) σ) :
    Meets W (k + 24) "divides" [rw_ w b, rw_ w a, .int w, .told h n l] Q σ := by
  have hB := w_pow (show 1 ≤ w by omega)
  refine meets c_divides rfl ?_
  unfold rw_ at *
  refine WSs.ite ?_
  try simp only [orAnd,andAnd,Za,Zb,Zc,Zd,Ze,Zf,Zg,Zh,Zi,Zj,Zk,Zl,Zm,Zn,Zo,Zp,Zq,Zr,Zs,Zt,Zu,Zv,Zw,Zx,Zy,Zz,ZA,ZB,ZC,ZD,ZE,ZF,ZG,ZH,ZI,ZJ,ZK,ZL,ZM,ZN,ZO,ZP,ZQ,ZR,ZS,ZT,ZU,ZV,ZW,ZX,ZY,ZZ,Ya,Yb,Yc,Yd,Ye,Yf,Yg,Yh,Yi,Yj,Yk,Yl,Ym,Yn,Yo,Yp,Yq,Yr,Ys,Yt,Yu,Yv,Yw,Yx,Yy,Yz,YA,YB,YC,YD,YE,YF,YG,YH,YI,row₀,List.getElem?_cons_zero,List.getElem?_cons_succ,List.set_cons_zero,List.set_cons_succ,List.map_cons,List.map_nil,List.length_cons,List.length_nil,List.replicate,List.cons_append,List.nil_append,Nat.reduceAdd,Nat.reduceSub,List.mem_cons,List.not_mem_nil,or_false,forall_eq_or_imp,forall_eq,implies_true,true_and,and_true,if_true,if_false,Bool.false_eq_true,decide_eq_true_eq,Bool.not_eq_true',decide_eq_false_iff_not,Bool.not_eq_eq_eq_not,Bool.not_true,Bool.not_false,beq_self_eq_true,reduceCtorEq,beq_iff_eq,low_length,row_length,fdiv_nat,fmod_nat,two_pow,one_shl,shr,shl,and_mask,clip_nat,Int.one_mul]
  rw [if_neg (fun q => by have := (len_zero_iff hB).mp q; (clear q hB hQ hl hb ha hw9 hw; omega))]
  refine WSs.nil (WSs.ret ?_)
  try simp only [orAnd,andAnd,Za,Zb,Zc,Zd,Ze,Zf,Zg,Zh,Zi,Zj,Zk,Zl,Zm,Zn,Zo,Zp,Zq,Zr,Zs,Zt,Zu,Zv,Zw,Zx,Zy,Zz,ZA,ZB,ZC,ZD,ZE,ZF,ZG,ZH,ZI,ZJ,ZK,ZL,ZM,ZN,ZO,ZP,ZQ,ZR,ZS,ZT,ZU,ZV,ZW,ZX,ZY,ZZ,Ya,Yb,Yc,Yd,Ye,Yf,Yg,Yh,Yi,Yj,Yk,Yl,Ym,Yn,Yo,Yp,Yq,Yr,Ys,Yt,Yu,Yv,Yw,Yx,Yy,Yz,YA,YB,YC,YD,YE,YF,YG,YH,YI,row₀,List.getElem?_cons_zero,List.getElem?_cons_succ,List.set_cons_zero,List.set_cons_succ,List.map_cons,List.map_nil,List.length_cons,List.length_nil,List.replicate,List.cons_append,List.nil_append,Nat.reduceAdd,Nat.reduceSub,List.mem_cons,List.not_mem_nil,or_false,forall_eq_or_imp,forall_eq,implies_true,true_and,and_true,if_true,if_false,Bool.false_eq_true,decide_eq_true_eq,Bool.not_eq_true',decide_eq_false_iff_not,Bool.not_eq_eq_eq_not,Bool.not_true,Bool.not_false,beq_self_eq_true,reduceCtorEq,beq_iff_eq,low_length,row_length,fdiv_nat,fmod_nat,two_pow,one_shl,shr,shl,and_mask,clip_nat,Int.one_mul]
  refine m_rest_of hw hw9 ha hb hb0 hl ?_
  unfold rw_
  try simp only [orAnd,andAnd,Za,Zb,Zc,Zd,Ze,Zf,Zg,Zh,Zi,Zj,Zk,Zl,Zm,Zn,Zo,Zp,Zq,Zr,Zs,Zt,Zu,Zv,Zw,Zx,Zy,Zz,ZA,ZB,ZC,ZD,ZE,ZF,ZG,ZH,ZI,ZJ,ZK,ZL,ZM,ZN,ZO,ZP,ZQ,ZR,ZS,ZT,ZU,ZV,ZW,ZX,ZY,ZZ,Ya,Yb,Yc,Yd,Ye,Yf,Yg,Yh,Yi,Yj,Yk,Yl,Ym,Yn,Yo,Yp,Yq,Yr,Ys,Yt,Yu,Yv,Yw,Yx,Yy,Yz,YA,YB,YC,YD,YE,YF,YG,YH,YI,row₀,List.getElem?_cons_zero,List.getElem?_cons_succ,List.set_cons_zero,List.set_cons_succ,List.map_cons,List.map_nil,List.length_cons,List.length_nil,List.replicate,List.cons_append,List.nil_append,Nat.reduceAdd,Nat.reduceSub,List.mem_cons,List.not_mem_nil,or_false,forall_eq_or_imp,forall_eq,implies_true,true_and,and_true,if_true,if_false,Bool.false_eq_true,decide_eq_true_eq,Bool.not_eq_true',decide_eq_false_iff_not,Bool.not_eq_eq_eq_not,Bool.not_true,Bool.not_false,beq_self_eq_true,reduceCtorEq,beq_iff_eq,low_length,row_length,fdiv_nat,fmod_nat,two_pow,one_shl,shr,shl,and_mask,clip_nat,Int.one_mul]
  rw [decide_eq_decide.mpr (len_zero_iff hB)]
  exact hQ

theorem m_divides0 (hw : 2 ≤ w) (hQ : Q (.bool (decide (a = 0))) σ) :
    Meets W (k + 24) "divides" [.list [], rw_ w a, .int w, .told h n l] Q σ := by
  have hB := w_pow (show 1 ≤ w by omega)
  refine meets c_divides rfl ?_
  unfold rw_ at *
  refine WSs.ite ?_
  try simp only [orAnd,andAnd,Za,Zb,Zc,Zd,Ze,Zf,Zg,Zh,Zi,Zj,Zk,Zl,Zm,Zn,Zo,Zp,Zq,Zr,Zs,Zt,Zu,Zv,Zw,Zx,Zy,Zz,ZA,ZB,ZC,ZD,ZE,ZF,ZG,ZH,ZI,ZJ,ZK,ZL,ZM,ZN,ZO,ZP,ZQ,ZR,ZS,ZT,ZU,ZV,ZW,ZX,ZY,ZZ,Ya,Yb,Yc,Yd,Ye,Yf,Yg,Yh,Yi,Yj,Yk,Yl,Ym,Yn,Yo,Yp,Yq,Yr,Ys,Yt,Yu,Yv,Yw,Yx,Yy,Yz,YA,YB,YC,YD,YE,YF,YG,YH,YI,row₀,List.getElem?_cons_zero,List.getElem?_cons_succ,List.set_cons_zero,List.set_cons_succ,List.map_cons,List.map_nil,List.length_cons,List.length_nil,List.replicate,List.cons_append,List.nil_append,Nat.reduceAdd,Nat.reduceSub,List.mem_cons,List.not_mem_nil,or_false,forall_eq_or_imp,forall_eq,implies_true,true_and,and_true,if_true,if_false,Bool.false_eq_true,decide_eq_true_eq,Bool.not_eq_true',decide_eq_false_iff_not,Bool.not_eq_eq_eq_not,Bool.not_true,Bool.not_false,beq_self_eq_true,reduceCtorEq,beq_iff_eq,low_length,row_length,fdiv_nat,fmod_nat,two_pow,one_shl,shr,shl,and_mask,clip_nat,Int.one_mul]
  rw [if_pos (by rfl)]
  refine WSs.ret ?_
  try simp only [orAnd,andAnd,Za,Zb,Zc,Zd,Ze,Zf,Zg,Zh,Zi,Zj,Zk,Zl,Zm,Zn,Zo,Zp,Zq,Zr,Zs,Zt,Zu,Zv,Zw,Zx,Zy,Zz,ZA,ZB,ZC,ZD,ZE,ZF,ZG,ZH,ZI,ZJ,ZK,ZL,ZM,ZN,ZO,ZP,ZQ,ZR,ZS,ZT,ZU,ZV,ZW,ZX,ZY,ZZ,Ya,Yb,Yc,Yd,Ye,Yf,Yg,Yh,Yi,Yj,Yk,Yl,Ym,Yn,Yo,Yp,Yq,Yr,Ys,Yt,Yu,Yv,Yw,Yx,Yy,Yz,YA,YB,YC,YD,YE,YF,YG,YH,YI,row₀,List.getElem?_cons_zero,List.getElem?_cons_succ,List.set_cons_zero,List.set_cons_succ,List.map_cons,List.map_nil,List.length_cons,List.length_nil,List.replicate,List.cons_append,List.nil_append,Nat.reduceAdd,Nat.reduceSub,List.mem_cons,List.not_mem_nil,or_false,forall_eq_or_imp,forall_eq,implies_true,true_and,and_true,if_true,if_false,Bool.false_eq_true,decide_eq_true_eq,Bool.not_eq_true',decide_eq_false_iff_not,Bool.not_eq_eq_eq_not,Bool.not_true,Bool.not_false,beq_self_eq_true,reduceCtorEq,beq_iff_eq,low_length,row_length,fdiv_nat,fmod_nat,two_pow,one_shl,shr,shl,and_mask,clip_nat,Int.one_mul]
  rw [decide_eq_decide.mpr (len_zero_iff hB)]
  exact hQ
end
end
section
open PySem PySem.W PyProof.Rows
set_option exponentiation.threshold 5000

/-- what _law_is_row says of rows -/
noncomputable def IsRowOk (W : Wd) : Prop := ∀ (k w x : Nat) (Q : V → Bx → Prop) (σ : Bx), 1 ≤ w → w ≤ 9 → Sm x → Q (.bool true) σ → Meets W (k + 10) "_law_is_row" [rw_ w x, .int w] Q σ

section
variable {W : Wd} {w k a b : Nat} {σ : Bx} {Q : V → Bx → Prop} {h n : Int} {l : Nat}

theorem m_law_right (hrow : IsRowOk W) (hw : 2 ≤ w) (hw9 : w ≤ 9) (ha : Sm a) (hb : Sm b) (hb0 : 0 < b) (hQ : Q (.bool true) σ) :
    Meets W (k + 11) "_law_right" [.pair (rw_ w (a / b)) (rw_ w (a % b)), .int a, .int b, .int w] Q σ := by
  have hw1 : 1 ≤ w := by omega
  have hB := w_pow hw1
  have sq : Sm (a / b) := Nat.lt_of_le_of_lt (Nat.div_le_self ..) ha
  have sr : Sm (a % b) := Nat.lt_of_le_of_lt (Nat.mod_le ..) ha
  have b8 : ∃ k, k ≤ 8000 ∧ (b : Int).natAbs < 2 ^ k := ⟨112, by decide, by rw [Int.natAbs_natCast]; exact hb⟩
  refine meets c_law_right rfl ?_
  refine WSs.two ?_
  try simp only [orAnd,andAnd,Za,Zb,Zc,Zd,Ze,Zf,Zg,Zh,Zi,Zj,Zk,Zl,Zm,Zn,Zo,Zp,Zq,Zr,Zs,Zt,Zu,Zv,Zw,Zx,Zy,Zz,ZA,ZB,ZC,ZD,ZE,ZF,ZG,ZH,ZI,ZJ,ZK,ZL,ZM,ZN,ZO,ZP,ZQ,ZR,ZS,ZT,ZU,ZV,ZW,ZX,ZY,ZZ,Ya,Yb,Yc,Yd,Ye,Yf,Yg,Yh,Yi,Yj,Yk,Yl,Ym,Yn,Yo,Yp,Yq,Yr,Ys,Yt,Yu,Yv,Yw,Yx,Yy,Yz,YA,YB,YC,YD,YE,YF,YG,YH,YI,row₀,List.getElem?_cons_zero,List.getElem?_cons_succ,List.set_cons_zero,List.set_cons_succ,List.map_cons,List.map_nil,List.length_cons,List.length_nil,List.replicate,List.cons_append,List.nil_append,Nat.reduceAdd,Nat.reduceSub,List.mem_cons,List.not_mem_nil,or_false,forall_eq_or_imp,forall_eq,implies_true,true_and,and_true,if_true,if_false,Bool.false_eq_true,decide_eq_true_eq,Bool.not_eq_true',decide_eq_false_iff_not,Bool.not_eq_eq_eq_not,Bool.not_true,Bool.not_false,beq_self_eq_true,reduceCtorEq,beq_iff_eq,low_length,row_length,fdiv_nat,fmod_nat,two_pow,one_shl,shr,shl,and_mask,clip_nat,Int.one_mul]
  refine WSs.ite ?_
  try simp only [orAnd,andAnd,Za,Zb,Zc,Zd,Ze,Zf,Zg,Zh,Zi,Zj,Zk,Zl,Zm,Zn,Zo,Zp,Zq,Zr,Zs,Zt,Zu,Zv,Zw,Zx,Zy,Zz,ZA,ZB,ZC,ZD,ZE,ZF,ZG,ZH,ZI,ZJ,ZK,ZL,ZM,ZN,ZO,ZP,ZQ,ZR,ZS,ZT,ZU,ZV,ZW,ZX,ZY,ZZ,Ya,Yb,Yc,Yd,Ye,Yf,Yg,Yh,Yi,Yj,Yk,Yl,Ym,Yn,Yo,Yp,Yq,Yr,Ys,Yt,Yu,Yv,Yw,Yx,Yy,Yz,YA,YB,YC,YD,YE,YF,YG,YH,YI,row₀,List.getElem?_cons_zero,List.getElem?_cons_succ,List.set_cons_zero,List.set_cons_succ,List.map_cons,List.map_nil,List.length_cons,List.length_nil,List.replicate,List.cons_append,List.nil_append,Nat.reduceAdd,Nat.reduceSub,List.mem_cons,List.not_mem_nil,or_false,forall_eq_or_imp,forall_eq,implies_true,true_and,and_true,if_true,if_false,Bool.false_eq_true,decide_eq_true_eq,Bool.not_eq_true',decide_eq_false_iff_not,Bool.not_eq_eq_eq_not,Bool.not_true,Bool.not_false,beq_self_eq_true,reduceCtorEq,beq_iff_eq,low_length,row_length,fdiv_nat,fmod_nat,two_pow,one_shl,shr,shl,and_mask,clip_nat,Int.one_mul]
  refine hrow k w _ _ _ hw1 hw9 sq ?_
  try simp only [orAnd,andAnd,Za,Zb,Zc,Zd,Ze,Zf,Zg,Zh,Zi,Zj,Zk,Zl,Zm,Zn,Zo,Zp,Zq,Zr,Zs,Zt,Zu,Zv,Zw,Zx,Zy,Zz,ZA,ZB,ZC,ZD,ZE,ZF,ZG,ZH,ZI,ZJ,ZK,ZL,ZM,ZN,ZO,ZP,ZQ,ZR,ZS,ZT,ZU,ZV,ZW,ZX,ZY,ZZ,Ya,Yb,Yc,Yd,Ye,Yf,Yg,Yh,Yi,Yj,Yk,Yl,Ym,Yn,Yo,Yp,Yq,Yr,Ys,Yt,Yu,Yv,Yw,Yx,Yy,Yz,YA,YB,YC,YD,YE,YF,YG,YH,YI,row₀,List.getElem?_cons_zero,List.getElem?_cons_succ,List.set_cons_zero,List.set_cons_succ,List.map_cons,List.map_nil,List.length_cons,List.length_nil,List.replicate,List.cons_append,List.nil_append,Nat.reduceAdd,Nat.reduceSub,List.mem_cons,List.not_mem_nil,or_false,forall_eq_or_imp,forall_eq,implies_true,true_and,and_true,if_true,if_false,Bool.false_eq_true,decide_eq_true_eq,Bool.not_eq_true',decide_eq_false_iff_not,Bool.not_eq_eq_eq_not,Bool.not_true,Bool.not_false,beq_self_eq_true,reduceCtorEq,beq_iff_eq,low_length,row_length,fdiv_nat,fmod_nat,two_pow,one_shl,shr,shl,and_mask,clip_nat,Int.one_mul]
  refine hrow k w _ _ _ hw1 hw9 sr ?_
  try simp only [orAnd,andAnd,Za,Zb,Zc,Zd,Ze,Zf,Zg,Zh,Zi,Zj,Zk,Zl,Zm,Zn,Zo,Zp,Zq,Zr,Zs,Zt,Zu,Zv,Zw,Zx,Zy,Zz,ZA,ZB,ZC,ZD,ZE,ZF,ZG,ZH,ZI,ZJ,ZK,ZL,ZM,ZN,ZO,ZP,ZQ,ZR,ZS,ZT,ZU,ZV,ZW,ZX,ZY,ZZ,Ya,Yb,Yc,Yd,Ye,Yf,Yg,Yh,Yi,Yj,Yk,Yl,Ym,Yn,Yo,Yp,Yq,Yr,Ys,Yt,Yu,Yv,Yw,Yx,Yy,Yz,YA,YB,YC,YD,YE,YF,YG,YH,YI,row₀,List.getElem?_cons_zero,List.getElem?_cons_succ,List.set_cons_zero,List.set_cons_succ,List.map_cons,List.map_nil,List.length_cons,List.length_nil,List.replicate,List.cons_append,List.nil_append,Nat.reduceAdd,Nat.reduceSub,List.mem_cons,List.not_mem_nil,or_false,forall_eq_or_imp,forall_eq,implies_true,true_and,and_true,if_true,if_false,Bool.false_eq_true,decide_eq_true_eq,Bool.not_eq_true',decide_eq_false_iff_not,Bool.not_eq_eq_eq_not,Bool.not_true,Bool.not_false,beq_self_eq_true,reduceCtorEq,beq_iff_eq,low_length,row_length,fdiv_nat,fmod_nat,two_pow,one_shl,shr,shl,and_mask,clip_nat,Int.one_mul]
  refine WSs.nil (WSs.ret ?_)
  unfold rw_
  try simp only [orAnd,andAnd,Za,Zb,Zc,Zd,Ze,Zf,Zg,Zh,Zi,Zj,Zk,Zl,Zm,Zn,Zo,Zp,Zq,Zr,Zs,Zt,Zu,Zv,Zw,Zx,Zy,Zz,ZA,ZB,ZC,ZD,ZE,ZF,ZG,ZH,ZI,ZJ,ZK,ZL,ZM,ZN,ZO,ZP,ZQ,ZR,ZS,ZT,ZU,ZV,ZW,ZX,ZY,ZZ,Ya,Yb,Yc,Yd,Ye,Yf,Yg,Yh,Yi,Yj,Yk,Yl,Ym,Yn,Yo,Yp,Yq,Yr,Ys,Yt,Yu,Yv,Yw,Yx,Yy,Yz,YA,YB,YC,YD,YE,YF,YG,YH,YI,row₀,List.getElem?_cons_zero,List.getElem?_cons_succ,List.set_cons_zero,List.set_cons_succ,List.map_cons,List.map_nil,List.length_cons,List.length_nil,List.replicate,List.cons_append,List.nil_append,Nat.reduceAdd,Nat.reduceSub,List.mem_cons,List.not_mem_nil,or_false,forall_eq_or_imp,forall_eq,implies_true,true_and,and_true,if_true,if_false,Bool.false_eq_true,decide_eq_true_eq,Bool.not_eq_true',decide_eq_false_iff_not,Bool.not_eq_eq_eq_not,Bool.not_true,Bool.not_false,beq_self_eq_true,reduceCtorEq,beq_iff_eq,low_length,row_length,fdiv_nat,fmod_nat,two_pow,one_shl,shr,shl,and_mask,clip_nat,Int.one_mul]
  refine m_law_whole (k := k + 9) hw1 hw9 ?_
  refine ⟨by (clear sr sq hB hw1 hQ hb ha hw9 hw hrow; omega), b8, ?_⟩
  try simp only [orAnd,andAnd,Za,Zb,Zc,Zd,Ze,Zf,Zg,Zh,Zi,Zj,Zk,Zl,Zm,Zn,Zo,Zp,Zq,Zr,Zs,Zt,Zu,Zv,Zw,Zx,Zy,Zz,ZA,ZB,ZC,ZD,ZE,ZF,ZG,ZH,ZI,ZJ,ZK,ZL,ZM,ZN,ZO,ZP,ZQ,ZR,ZS,ZT,ZU,ZV,ZW,ZX,ZY,ZZ,Ya,Yb,Yc,Yd,Ye,Yf,Yg,Yh,Yi,Yj,Yk,Yl,Ym,Yn,Yo,Yp,Yq,Yr,Ys,Yt,Yu,Yv,Yw,Yx,Yy,Yz,YA,YB,YC,YD,YE,YF,YG,YH,YI,row₀,List.getElem?_cons_zero,List.getElem?_cons_succ,List.set_cons_zero,List.set_cons_succ,List.map_cons,List.map_nil,List.length_cons,List.length_nil,List.replicate,List.cons_append,List.nil_append,Nat.reduceAdd,Nat.reduceSub,List.mem_cons,List.not_mem_nil,or_false,forall_eq_or_imp,forall_eq,implies_true,true_and,and_true,if_true,if_false,Bool.false_eq_true,decide_eq_true_eq,Bool.not_eq_true',decide_eq_false_iff_not,Bool.not_eq_eq_eq_not,Bool.not_true,Bool.not_false,beq_self_eq_true,reduceCtorEq,beq_iff_eq,low_length,row_length,fdiv_nat,fmod_nat,two_pow,one_shl,shr,shl,and_mask,clip_nat,Int.one_mul]
  refine m_law_whole (k := k + 9) hw1 hw9 ?_
  refine ⟨by (clear sr sq hB hw1 hQ hb ha hw9 hw hrow; omega), ?_⟩
  try simp only [orAnd,andAnd,Za,Zb,Zc,Zd,Ze,Zf,Zg,Zh,Zi,Zj,Zk,Zl,Zm,Zn,Zo,Zp,Zq,Zr,Zs,Zt,Zu,Zv,Zw,Zx,Zy,Zz,ZA,ZB,ZC,ZD,ZE,ZF,ZG,ZH,ZI,ZJ,ZK,ZL,ZM,ZN,ZO,ZP,ZQ,ZR,ZS,ZT,ZU,ZV,ZW,ZX,ZY,ZZ,Ya,Yb,Yc,Yd,Ye,Yf,Yg,Yh,Yi,Yj,Yk,Yl,Ym,Yn,Yo,Yp,Yq,Yr,Ys,Yt,Yu,Yv,Yw,Yx,Yy,Yz,YA,YB,YC,YD,YE,YF,YG,YH,YI,row₀,List.getElem?_cons_zero,List.getElem?_cons_succ,List.set_cons_zero,List.set_cons_succ,List.map_cons,List.map_nil,List.length_cons,List.length_nil,List.replicate,List.cons_append,List.nil_append,Nat.reduceAdd,Nat.reduceSub,List.mem_cons,List.not_mem_nil,or_false,forall_eq_or_imp,forall_eq,implies_true,true_and,and_true,if_true,if_false,Bool.false_eq_true,decide_eq_true_eq,Bool.not_eq_true',decide_eq_false_iff_not,Bool.not_eq_eq_eq_not,Bool.not_true,Bool.not_false,beq_self_eq_true,reduceCtorEq,beq_iff_eq,low_length,row_length,fdiv_nat,fmod_nat,two_pow,one_shl,shr,shl,and_mask,clip_nat,Int.one_mul]
  exact hQ

theorem ceil_neg (a b : Nat) (hb : 0 < b) : (0 : Int) - ((0 : Int) - (a : Int)).fdiv b = ((if a % b = 0 then a / b else a / b + 1 : Nat) : Int) := by
  rw [Int.fdiv_eq_ediv_of_nonneg _ (Int.natCast_nonneg b)]
  have hd := Nat.div_add_mod a b
  have hm := Nat.mod_lt a hb
  generalize a / b = q at *
  generalize a % b = r at *
  subst hd
  split
  · subst r
    have : (0 : Int) - ((b * q + 0 : Nat) : Int) = (b : Int) * (-(q : Int)) := by push_cast; grind
    rw [this, Int.mul_ediv_cancel_left _ (by omega)]
    (clear this hm hb; omega)
  · have : (0 : Int) - ((b * q + r : Nat) : Int) = ((b : Int) - r) + (b : Int) * (-(q : Int) - 1) := by push_cast; grind
    rw [this, Int.add_mul_ediv_left _ _ (by omega), Int.ediv_eq_zero_of_lt (by omega) (by omega)]
    (clear this hm hb; omega)

theorem all_tail (hw : 2 ≤ w) (hw9 : w ≤ 9) (ha : Sm a) (hb : Sm b) (hb0 : 0 < b) (hl : 1 ≤ l) (hQ : Q (.bool true) σ) (x y : Option V) (z : Int) (hz : z = near a b) :
    WSs W (k + 24) (tl (tl (tl (tl (tl (tl b_law_all_right)))))) (fun fl _ _ σ' => match fl with | .ret v => Q v σ' | .next => False)
      [some .box, some (.int w), some (.int a), some (.int b), some (.told h n l), some (.list (row (2 ^ w) a)), some (.list (row (2 ^ w) b)), x, y, some (.int z)] none σ := by
  have hw1 : 1 ≤ w := by omega
  have hB := w_pow hw1
  subst hz
  unfold b_law_all_right
  simp only [tl]
  refine WSs.ite ?_
  try simp only [orAnd,andAnd,Za,Zb,Zc,Zd,Ze,Zf,Zg,Zh,Zi,Zj,Zk,Zl,Zm,Zn,Zo,Zp,Zq,Zr,Zs,Zt,Zu,Zv,Zw,Zx,Zy,Zz,ZA,ZB,ZC,ZD,ZE,ZF,ZG,ZH,ZI,ZJ,ZK,ZL,ZM,ZN,ZO,ZP,ZQ,ZR,ZS,ZT,ZU,ZV,ZW,ZX,ZY,ZZ,Ya,Yb,Yc,Yd,Ye,Yf,Yg,Yh,Yi,Yj,Yk,Yl,Ym,Yn,Yo,Yp,Yq,Yr,Ys,Yt,Yu,Yv,Yw,Yx,Yy,Yz,YA,YB,YC,YD,YE,YF,YG,YH,YI,row₀,List.getElem?_cons_zero,List.getElem?_cons_succ,List.set_cons_zero,List.set_cons_succ,List.map_cons,List.map_nil,List.length_cons,List.length_nil,List.replicate,List.cons_append,List.nil_append,Nat.reduceAdd,Nat.reduceSub,List.mem_cons,List.not_mem_nil,or_false,forall_eq_or_imp,forall_eq,implies_true,true_and,and_true,if_true,if_false,Bool.false_eq_true,decide_eq_true_eq,Bool.not_eq_true',decide_eq_false_iff_not,Bool.not_eq_eq_eq_not,Bool.not_true,Bool.not_false,beq_self_eq_true,reduceCtorEq,beq_iff_eq,low_length,row_length,fdiv_nat,fmod_nat,two_pow,one_shl,shr,shl,and_mask,clip_nat,Int.one_mul]
  refine m_quotient_near (k := k + 1) hw hw9 ha hb hb0 hl ?_
  refine m_law_whole (k := k + 23) hw1 hw9 ?_
  try simp only [orAnd,andAnd,Za,Zb,Zc,Zd,Ze,Zf,Zg,Zh,Zi,Zj,Zk,Zl,Zm,Zn,Zo,Zp,Zq,Zr,Zs,Zt,Zu,Zv,Zw,Zx,Zy,Zz,ZA,ZB,ZC,ZD,ZE,ZF,ZG,ZH,ZI,ZJ,ZK,ZL,ZM,ZN,ZO,ZP,ZQ,ZR,ZS,ZT,ZU,ZV,ZW,ZX,ZY,ZZ,Ya,Yb,Yc,Yd,Ye,Yf,Yg,Yh,Yi,Yj,Yk,Yl,Ym,Yn,Yo,Yp,Yq,Yr,Ys,Yt,Yu,Yv,Yw,Yx,Yy,Yz,YA,YB,YC,YD,YE,YF,YG,YH,YI,row₀,List.getElem?_cons_zero,List.getElem?_cons_succ,List.set_cons_zero,List.set_cons_succ,List.map_cons,List.map_nil,List.length_cons,List.length_nil,List.replicate,List.cons_append,List.nil_append,Nat.reduceAdd,Nat.reduceSub,List.mem_cons,List.not_mem_nil,or_false,forall_eq_or_imp,forall_eq,implies_true,true_and,and_true,if_true,if_false,Bool.false_eq_true,decide_eq_true_eq,Bool.not_eq_true',decide_eq_false_iff_not,Bool.not_eq_eq_eq_not,Bool.not_true,Bool.not_false,beq_self_eq_true,reduceCtorEq,beq_iff_eq,low_length,row_length,fdiv_nat,fmod_nat,two_pow,one_shl,shr,shl,and_mask,clip_nat,Int.one_mul]
  rw [if_neg (fun f => f trivial)]
  refine WSs.nil ?_
  refine WSs.ite ?_
  try simp only [orAnd,andAnd,Za,Zb,Zc,Zd,Ze,Zf,Zg,Zh,Zi,Zj,Zk,Zl,Zm,Zn,Zo,Zp,Zq,Zr,Zs,Zt,Zu,Zv,Zw,Zx,Zy,Zz,ZA,ZB,ZC,ZD,ZE,ZF,ZG,ZH,ZI,ZJ,ZK,ZL,ZM,ZN,ZO,ZP,ZQ,ZR,ZS,ZT,ZU,ZV,ZW,ZX,ZY,ZZ,Ya,Yb,Yc,Yd,Ye,Yf,Yg,Yh,Yi,Yj,Yk,Yl,Ym,Yn,Yo,Yp,Yq,Yr,Ys,Yt,Yu,Yv,Yw,Yx,Yy,Yz,YA,YB,YC,YD,YE,YF,YG,YH,YI,row₀,List.getElem?_cons_zero,List.getElem?_cons_succ,List.set_cons_zero,List.set_cons_succ,List.map_cons,List.map_nil,List.length_cons,List.length_nil,List.replicate,List.cons_append,List.nil_append,Nat.reduceAdd,Nat.reduceSub,List.mem_cons,List.not_mem_nil,or_false,forall_eq_or_imp,forall_eq,implies_true,true_and,and_true,if_true,if_false,Bool.false_eq_true,decide_eq_true_eq,Bool.not_eq_true',decide_eq_false_iff_not,Bool.not_eq_eq_eq_not,Bool.not_true,Bool.not_false,beq_self_eq_true,reduceCtorEq,beq_iff_eq,low_length,row_length,fdiv_nat,fmod_nat,two_pow,one_shl,shr,shl,and_mask,clip_nat,Int.one_mul]
  refine m_divides hw hw9 ha hb hb0 hl ?_
  try simp only [orAnd,andAnd,Za,Zb,Zc,Zd,Ze,Zf,Zg,Zh,Zi,Zj,Zk,Zl,Zm,Zn,Zo,Zp,Zq,Zr,Zs,Zt,Zu,Zv,Zw,Zx,Zy,Zz,ZA,ZB,ZC,ZD,ZE,ZF,ZG,ZH,ZI,ZJ,ZK,ZL,ZM,ZN,ZO,ZP,ZQ,ZR,ZS,ZT,ZU,ZV,ZW,ZX,ZY,ZZ,Ya,Yb,Yc,Yd,Ye,Yf,Yg,Yh,Yi,Yj,Yk,Yl,Ym,Yn,Yo,Yp,Yq,Yr,Ys,Yt,Yu,Yv,Yw,Yx,Yy,Yz,YA,YB,YC,YD,YE,YF,YG,YH,YI,row₀,List.getElem?_cons_zero,List.getElem?_cons_succ,List.set_cons_zero,List.set_cons_succ,List.map_cons,List.map_nil,List.length_cons,List.length_nil,List.replicate,List.cons_append,List.nil_append,Nat.reduceAdd,Nat.reduceSub,List.mem_cons,List.not_mem_nil,or_false,forall_eq_or_imp,forall_eq,implies_true,true_and,and_true,if_true,if_false,Bool.false_eq_true,decide_eq_true_eq,Bool.not_eq_true',decide_eq_false_iff_not,Bool.not_eq_eq_eq_not,Bool.not_true,Bool.not_false,beq_self_eq_true,reduceCtorEq,beq_iff_eq,low_length,row_length,fdiv_nat,fmod_nat,two_pow,one_shl,shr,shl,and_mask,clip_nat,Int.one_mul]
  refine ⟨by (clear hB hw1 hQ hl hb ha hw9 hw; omega), ?_⟩
  rw [if_pos (by
    by_cases hc : a % b = 0
    · rw [if_pos hc, if_pos (by (clear hB hw1 hQ hl hb0 hb ha hw9 hw; omega))]; exact bne_self_eq_false ..
    · rw [if_neg hc, if_neg (by (clear hB hw1 hQ hl hb0 hb ha hw9 hw; omega))]; exact bne_self_eq_false ..)]
  refine ⟨[], rfl, by decide, ?_⟩
  refine m_divides0 hw ?_
  rw [decide_eq_decide.mpr (show a = 0 ↔ (a : Int) = 0 by (clear hB hw1 hQ hl hb0 hb ha hw9 hw; omega))]
  try simp only [orAnd,andAnd,Za,Zb,Zc,Zd,Ze,Zf,Zg,Zh,Zi,Zj,Zk,Zl,Zm,Zn,Zo,Zp,Zq,Zr,Zs,Zt,Zu,Zv,Zw,Zx,Zy,Zz,ZA,ZB,ZC,ZD,ZE,ZF,ZG,ZH,ZI,ZJ,ZK,ZL,ZM,ZN,ZO,ZP,ZQ,ZR,ZS,ZT,ZU,ZV,ZW,ZX,ZY,ZZ,Ya,Yb,Yc,Yd,Ye,Yf,Yg,Yh,Yi,Yj,Yk,Yl,Ym,Yn,Yo,Yp,Yq,Yr,Ys,Yt,Yu,Yv,Yw,Yx,Yy,Yz,YA,YB,YC,YD,YE,YF,YG,YH,YI,row₀,List.getElem?_cons_zero,List.getElem?_cons_succ,List.set_cons_zero,List.set_cons_succ,List.map_cons,List.map_nil,List.length_cons,List.length_nil,List.replicate,List.cons_append,List.nil_append,Nat.reduceAdd,Nat.reduceSub,List.mem_cons,List.not_mem_nil,or_false,forall_eq_or_imp,forall_eq,implies_true,true_and,and_true,if_true,if_false,Bool.false_eq_true,decide_eq_true_eq,Bool.not_eq_true',decide_eq_false_iff_not,Bool.not_eq_eq_eq_not,Bool.not_true,Bool.not_false,beq_self_eq_true,reduceCtorEq,beq_iff_eq,low_length,row_length,fdiv_nat,fmod_nat,two_pow,one_shl,shr,shl,and_mask,clip_nat,Int.one_mul]
  rw [if_pos (bne_self_eq_false ..)]
  refine WSs.nil ?_
  refine WSs.ret ?_
  try simp only [orAnd,andAnd,Za,Zb,Zc,Zd,Ze,Zf,Zg,Zh,Zi,Zj,Zk,Zl,Zm,Zn,Zo,Zp,Zq,Zr,Zs,Zt,Zu,Zv,Zw,Zx,Zy,Zz,ZA,ZB,ZC,ZD,ZE,ZF,ZG,ZH,ZI,ZJ,ZK,ZL,ZM,ZN,ZO,ZP,ZQ,ZR,ZS,ZT,ZU,ZV,ZW,ZX,ZY,ZZ,Ya,Yb,Yc,Yd,Ye,Yf,Yg,Yh,Yi,Yj,Yk,Yl,Ym,Yn,Yo,Yp,Yq,Yr,Ys,Yt,Yu,Yv,Yw,Yx,Yy,Yz,YA,YB,YC,YD,YE,YF,YG,YH,YI,row₀,List.getElem?_cons_zero,List.getElem?_cons_succ,List.set_cons_zero,List.set_cons_succ,List.map_cons,List.map_nil,List.length_cons,List.length_nil,List.replicate,List.cons_append,List.nil_append,Nat.reduceAdd,Nat.reduceSub,List.mem_cons,List.not_mem_nil,or_false,forall_eq_or_imp,forall_eq,implies_true,true_and,and_true,if_true,if_false,Bool.false_eq_true,decide_eq_true_eq,Bool.not_eq_true',decide_eq_false_iff_not,Bool.not_eq_eq_eq_not,Bool.not_true,Bool.not_false,beq_self_eq_true,reduceCtorEq,beq_iff_eq,low_length,row_length,fdiv_nat,fmod_nat,two_pow,one_shl,shr,shl,and_mask,clip_nat,Int.one_mul]
  refine m_law_row (k := k + 23) hw1 hw9 ha.bd ?_
  try simp only [orAnd,andAnd,Za,Zb,Zc,Zd,Ze,Zf,Zg,Zh,Zi,Zj,Zk,Zl,Zm,Zn,Zo,Zp,Zq,Zr,Zs,Zt,Zu,Zv,Zw,Zx,Zy,Zz,ZA,ZB,ZC,ZD,ZE,ZF,ZG,ZH,ZI,ZJ,ZK,ZL,ZM,ZN,ZO,ZP,ZQ,ZR,ZS,ZT,ZU,ZV,ZW,ZX,ZY,ZZ,Ya,Yb,Yc,Yd,Ye,Yf,Yg,Yh,Yi,Yj,Yk,Yl,Ym,Yn,Yo,Yp,Yq,Yr,Ys,Yt,Yu,Yv,Yw,Yx,Yy,Yz,YA,YB,YC,YD,YE,YF,YG,YH,YI,row₀,List.getElem?_cons_zero,List.getElem?_cons_succ,List.set_cons_zero,List.set_cons_succ,List.map_cons,List.map_nil,List.length_cons,List.length_nil,List.replicate,List.cons_append,List.nil_append,Nat.reduceAdd,Nat.reduceSub,List.mem_cons,List.not_mem_nil,or_false,forall_eq_or_imp,forall_eq,implies_true,true_and,and_true,if_true,if_false,Bool.false_eq_true,decide_eq_true_eq,Bool.not_eq_true',decide_eq_false_iff_not,Bool.not_eq_eq_eq_not,Bool.not_true,Bool.not_false,beq_self_eq_true,reduceCtorEq,beq_iff_eq,low_length,row_length,fdiv_nat,fmod_nat,two_pow,one_shl,shr,shl,and_mask,clip_nat,Int.one_mul]
  refine m_law_row (k := k + 23) hw1 hw9 hb.bd ?_
  try simp only [orAnd,andAnd,Za,Zb,Zc,Zd,Ze,Zf,Zg,Zh,Zi,Zj,Zk,Zl,Zm,Zn,Zo,Zp,Zq,Zr,Zs,Zt,Zu,Zv,Zw,Zx,Zy,Zz,ZA,ZB,ZC,ZD,ZE,ZF,ZG,ZH,ZI,ZJ,ZK,ZL,ZM,ZN,ZO,ZP,ZQ,ZR,ZS,ZT,ZU,ZV,ZW,ZX,ZY,ZZ,Ya,Yb,Yc,Yd,Ye,Yf,Yg,Yh,Yi,Yj,Yk,Yl,Ym,Yn,Yo,Yp,Yq,Yr,Ys,Yt,Yu,Yv,Yw,Yx,Yy,Yz,YA,YB,YC,YD,YE,YF,YG,YH,YI,row₀,List.getElem?_cons_zero,List.getElem?_cons_succ,List.set_cons_zero,List.set_cons_succ,List.map_cons,List.map_nil,List.length_cons,List.length_nil,List.replicate,List.cons_append,List.nil_append,Nat.reduceAdd,Nat.reduceSub,List.mem_cons,List.not_mem_nil,or_false,forall_eq_or_imp,forall_eq,implies_true,true_and,and_true,if_true,if_false,Bool.false_eq_true,decide_eq_true_eq,Bool.not_eq_true',decide_eq_false_iff_not,Bool.not_eq_eq_eq_not,Bool.not_true,Bool.not_false,beq_self_eq_true,reduceCtorEq,beq_iff_eq,low_length,row_length,fdiv_nat,fmod_nat,two_pow,one_shl,shr,shl,and_mask,clip_nat,Int.one_mul]
  exact hQ

theorem m_law_all_right (hrow : IsRowOk W) (hw : 2 ≤ w) (hw9 : w ≤ 9) (ha : Sm a) (hb : Sm b) (hb0 : 0 < b) (hl : 1 ≤ l) (hQ : Q (.bool true) σ) :
    Meets W (k + 25) "_law_all_right" [.box, .int w, .int a, .int b, .told h n l] Q σ := by
  have hw1 : 1 ≤ w := by omega
  have hB := w_pow hw1
  have b8 : ∃ k, k ≤ 8000 ∧ (b : Int).natAbs < 2 ^ k := ⟨112, by decide, by rw [Int.natAbs_natCast]; exact hb⟩
  have sq : Sm (a / b) := Nat.lt_of_le_of_lt (Nat.div_le_self ..) ha
  have sr : Sm (a % b) := Nat.lt_of_le_of_lt (Nat.mod_le ..) ha
  refine meets c_law_all_right rfl ?_
  refine WSs.swap ?_
  try simp only [orAnd,andAnd,Za,Zb,Zc,Zd,Ze,Zf,Zg,Zh,Zi,Zj,Zk,Zl,Zm,Zn,Zo,Zp,Zq,Zr,Zs,Zt,Zu,Zv,Zw,Zx,Zy,Zz,ZA,ZB,ZC,ZD,ZE,ZF,ZG,ZH,ZI,ZJ,ZK,ZL,ZM,ZN,ZO,ZP,ZQ,ZR,ZS,ZT,ZU,ZV,ZW,ZX,ZY,ZZ,Ya,Yb,Yc,Yd,Ye,Yf,Yg,Yh,Yi,Yj,Yk,Yl,Ym,Yn,Yo,Yp,Yq,Yr,Ys,Yt,Yu,Yv,Yw,Yx,Yy,Yz,YA,YB,YC,YD,YE,YF,YG,YH,YI,row₀,List.getElem?_cons_zero,List.getElem?_cons_succ,List.set_cons_zero,List.set_cons_succ,List.map_cons,List.map_nil,List.length_cons,List.length_nil,List.replicate,List.cons_append,List.nil_append,Nat.reduceAdd,Nat.reduceSub,List.mem_cons,List.not_mem_nil,or_false,forall_eq_or_imp,forall_eq,implies_true,true_and,and_true,if_true,if_false,Bool.false_eq_true,decide_eq_true_eq,Bool.not_eq_true',decide_eq_false_iff_not,Bool.not_eq_eq_eq_not,Bool.not_true,Bool.not_false,beq_self_eq_true,reduceCtorEq,beq_iff_eq,low_length,row_length,fdiv_nat,fmod_nat,two_pow,one_shl,shr,shl,and_mask,clip_nat,Int.one_mul]
  refine m_law_row (k := k + 23) hw1 hw9 ha.bd ?_
  refine m_law_row (k := k + 23) hw1 hw9 hb.bd ?_
  refine WSs.ite ?_
  try simp only [orAnd,andAnd,Za,Zb,Zc,Zd,Ze,Zf,Zg,Zh,Zi,Zj,Zk,Zl,Zm,Zn,Zo,Zp,Zq,Zr,Zs,Zt,Zu,Zv,Zw,Zx,Zy,Zz,ZA,ZB,ZC,ZD,ZE,ZF,ZG,ZH,ZI,ZJ,ZK,ZL,ZM,ZN,ZO,ZP,ZQ,ZR,ZS,ZT,ZU,ZV,ZW,ZX,ZY,ZZ,Ya,Yb,Yc,Yd,Ye,Yf,Yg,Yh,Yi,Yj,Yk,Yl,Ym,Yn,Yo,Yp,Yq,Yr,Ys,Yt,Yu,Yv,Yw,Yx,Yy,Yz,YA,YB,YC,YD,YE,YF,YG,YH,YI,row₀,List.getElem?_cons_zero,List.getElem?_cons_succ,List.set_cons_zero,List.set_cons_succ,List.map_cons,List.map_nil,List.length_cons,List.length_nil,List.replicate,List.cons_append,List.nil_append,Nat.reduceAdd,Nat.reduceSub,List.mem_cons,List.not_mem_nil,or_false,forall_eq_or_imp,forall_eq,implies_true,true_and,and_true,if_true,if_false,Bool.false_eq_true,decide_eq_true_eq,Bool.not_eq_true',decide_eq_false_iff_not,Bool.not_eq_eq_eq_not,Bool.not_true,Bool.not_false,beq_self_eq_true,reduceCtorEq,beq_iff_eq,low_length,row_length,fdiv_nat,fmod_nat,two_pow,one_shl,shr,shl,and_mask,clip_nat,Int.one_mul]
  refine m_divide_any (k := k + 2) hw hw9 ha hb hb0 hl ?_
  refine m_law_right (k := k + 13) hrow hw hw9 ha hb hb0 ?_
  try simp only [orAnd,andAnd,Za,Zb,Zc,Zd,Ze,Zf,Zg,Zh,Zi,Zj,Zk,Zl,Zm,Zn,Zo,Zp,Zq,Zr,Zs,Zt,Zu,Zv,Zw,Zx,Zy,Zz,ZA,ZB,ZC,ZD,ZE,ZF,ZG,ZH,ZI,ZJ,ZK,ZL,ZM,ZN,ZO,ZP,ZQ,ZR,ZS,ZT,ZU,ZV,ZW,ZX,ZY,ZZ,Ya,Yb,Yc,Yd,Ye,Yf,Yg,Yh,Yi,Yj,Yk,Yl,Ym,Yn,Yo,Yp,Yq,Yr,Ys,Yt,Yu,Yv,Yw,Yx,Yy,Yz,YA,YB,YC,YD,YE,YF,YG,YH,YI,row₀,List.getElem?_cons_zero,List.getElem?_cons_succ,List.set_cons_zero,List.set_cons_succ,List.map_cons,List.map_nil,List.length_cons,List.length_nil,List.replicate,List.cons_append,List.nil_append,Nat.reduceAdd,Nat.reduceSub,List.mem_cons,List.not_mem_nil,or_false,forall_eq_or_imp,forall_eq,implies_true,true_and,and_true,if_true,if_false,Bool.false_eq_true,decide_eq_true_eq,Bool.not_eq_true',decide_eq_false_iff_not,Bool.not_eq_eq_eq_not,Bool.not_true,Bool.not_false,beq_self_eq_true,reduceCtorEq,beq_iff_eq,low_length,row_length,fdiv_nat,fmod_nat,two_pow,one_shl,shr,shl,and_mask,clip_nat,Int.one_mul]
  refine WSs.nil (WSs.ite ?_)
  try simp only [orAnd,andAnd,Za,Zb,Zc,Zd,Ze,Zf,Zg,Zh,Zi,Zj,Zk,Zl,Zm,Zn,Zo,Zp,Zq,Zr,Zs,Zt,Zu,Zv,Zw,Zx,Zy,Zz,ZA,ZB,ZC,ZD,ZE,ZF,ZG,ZH,ZI,ZJ,ZK,ZL,ZM,ZN,ZO,ZP,ZQ,ZR,ZS,ZT,ZU,ZV,ZW,ZX,ZY,ZZ,Ya,Yb,Yc,Yd,Ye,Yf,Yg,Yh,Yi,Yj,Yk,Yl,Ym,Yn,Yo,Yp,Yq,Yr,Ys,Yt,Yu,Yv,Yw,Yx,Yy,Yz,YA,YB,YC,YD,YE,YF,YG,YH,YI,row₀,List.getElem?_cons_zero,List.getElem?_cons_succ,List.set_cons_zero,List.set_cons_succ,List.map_cons,List.map_nil,List.length_cons,List.length_nil,List.replicate,List.cons_append,List.nil_append,Nat.reduceAdd,Nat.reduceSub,List.mem_cons,List.not_mem_nil,or_false,forall_eq_or_imp,forall_eq,implies_true,true_and,and_true,if_true,if_false,Bool.false_eq_true,decide_eq_true_eq,Bool.not_eq_true',decide_eq_false_iff_not,Bool.not_eq_eq_eq_not,Bool.not_true,Bool.not_false,beq_self_eq_true,reduceCtorEq,beq_iff_eq,low_length,row_length,fdiv_nat,fmod_nat,two_pow,one_shl,shr,shl,and_mask,clip_nat,Int.one_mul]
  refine m_quotient_of (k := k + 1) hw hw9 ha hb hb0 hl ?_
  refine ⟨by (clear sr sq hB hw1 hQ hl hb ha hw9 hw hrow; omega), b8, ?_⟩
  refine m_law_row (k := k + 23) hw1 hw9 sq.bd ?_
  try simp only [orAnd,andAnd,Za,Zb,Zc,Zd,Ze,Zf,Zg,Zh,Zi,Zj,Zk,Zl,Zm,Zn,Zo,Zp,Zq,Zr,Zs,Zt,Zu,Zv,Zw,Zx,Zy,Zz,ZA,ZB,ZC,ZD,ZE,ZF,ZG,ZH,ZI,ZJ,ZK,ZL,ZM,ZN,ZO,ZP,ZQ,ZR,ZS,ZT,ZU,ZV,ZW,ZX,ZY,ZZ,Ya,Yb,Yc,Yd,Ye,Yf,Yg,Yh,Yi,Yj,Yk,Yl,Ym,Yn,Yo,Yp,Yq,Yr,Ys,Yt,Yu,Yv,Yw,Yx,Yy,Yz,YA,YB,YC,YD,YE,YF,YG,YH,YI,row₀,List.getElem?_cons_zero,List.getElem?_cons_succ,List.set_cons_zero,List.set_cons_succ,List.map_cons,List.map_nil,List.length_cons,List.length_nil,List.replicate,List.cons_append,List.nil_append,Nat.reduceAdd,Nat.reduceSub,List.mem_cons,List.not_mem_nil,or_false,forall_eq_or_imp,forall_eq,implies_true,true_and,and_true,if_true,if_false,Bool.false_eq_true,decide_eq_true_eq,Bool.not_eq_true',decide_eq_false_iff_not,Bool.not_eq_eq_eq_not,Bool.not_true,Bool.not_false,beq_self_eq_true,reduceCtorEq,beq_iff_eq,low_length,row_length,fdiv_nat,fmod_nat,two_pow,one_shl,shr,shl,and_mask,clip_nat,Int.one_mul]
  refine m_rest_of (k := k + 1) hw hw9 ha hb hb0 hl ?_
  refine ⟨by (clear sr sq hB hw1 hQ hl hb ha hw9 hw hrow; omega), ?_⟩
  refine m_law_row (k := k + 23) hw1 hw9 sr.bd ?_
  try simp only [orAnd,andAnd,Za,Zb,Zc,Zd,Ze,Zf,Zg,Zh,Zi,Zj,Zk,Zl,Zm,Zn,Zo,Zp,Zq,Zr,Zs,Zt,Zu,Zv,Zw,Zx,Zy,Zz,ZA,ZB,ZC,ZD,ZE,ZF,ZG,ZH,ZI,ZJ,ZK,ZL,ZM,ZN,ZO,ZP,ZQ,ZR,ZS,ZT,ZU,ZV,ZW,ZX,ZY,ZZ,Ya,Yb,Yc,Yd,Ye,Yf,Yg,Yh,Yi,Yj,Yk,Yl,Ym,Yn,Yo,Yp,Yq,Yr,Ys,Yt,Yu,Yv,Yw,Yx,Yy,Yz,YA,YB,YC,YD,YE,YF,YG,YH,YI,row₀,List.getElem?_cons_zero,List.getElem?_cons_succ,List.set_cons_zero,List.set_cons_succ,List.map_cons,List.map_nil,List.length_cons,List.length_nil,List.replicate,List.cons_append,List.nil_append,Nat.reduceAdd,Nat.reduceSub,List.mem_cons,List.not_mem_nil,or_false,forall_eq_or_imp,forall_eq,implies_true,true_and,and_true,if_true,if_false,Bool.false_eq_true,decide_eq_true_eq,Bool.not_eq_true',decide_eq_false_iff_not,Bool.not_eq_eq_eq_not,Bool.not_true,Bool.not_false,beq_self_eq_true,reduceCtorEq,beq_iff_eq,low_length,row_length,fdiv_nat,fmod_nat,two_pow,one_shl,shr,shl,and_mask,clip_nat,Int.one_mul]
  refine WSs.nil (WSs.ite ?_)
  try simp only [orAnd,andAnd,Za,Zb,Zc,Zd,Ze,Zf,Zg,Zh,Zi,Zj,Zk,Zl,Zm,Zn,Zo,Zp,Zq,Zr,Zs,Zt,Zu,Zv,Zw,Zx,Zy,Zz,ZA,ZB,ZC,ZD,ZE,ZF,ZG,ZH,ZI,ZJ,ZK,ZL,ZM,ZN,ZO,ZP,ZQ,ZR,ZS,ZT,ZU,ZV,ZW,ZX,ZY,ZZ,Ya,Yb,Yc,Yd,Ye,Yf,Yg,Yh,Yi,Yj,Yk,Yl,Ym,Yn,Yo,Yp,Yq,Yr,Ys,Yt,Yu,Yv,Yw,Yx,Yy,Yz,YA,YB,YC,YD,YE,YF,YG,YH,YI,row₀,List.getElem?_cons_zero,List.getElem?_cons_succ,List.set_cons_zero,List.set_cons_succ,List.map_cons,List.map_nil,List.length_cons,List.length_nil,List.replicate,List.cons_append,List.nil_append,Nat.reduceAdd,Nat.reduceSub,List.mem_cons,List.not_mem_nil,or_false,forall_eq_or_imp,forall_eq,implies_true,true_and,and_true,if_true,if_false,Bool.false_eq_true,decide_eq_true_eq,Bool.not_eq_true',decide_eq_false_iff_not,Bool.not_eq_eq_eq_not,Bool.not_true,Bool.not_false,beq_self_eq_true,reduceCtorEq,beq_iff_eq,low_length,row_length,fdiv_nat,fmod_nat,two_pow,one_shl,shr,shl,and_mask,clip_nat,Int.one_mul]
  refine m_quotient_up (k := k + 1) hw hw9 ha hb hb0 hl ?_
  refine m_law_whole (k := k + 23) hw1 hw9 ?_
  refine ⟨by (clear sr sq hB hw1 hQ hl hb ha hw9 hw hrow; omega), b8, ?_⟩
  try simp only [orAnd,andAnd,Za,Zb,Zc,Zd,Ze,Zf,Zg,Zh,Zi,Zj,Zk,Zl,Zm,Zn,Zo,Zp,Zq,Zr,Zs,Zt,Zu,Zv,Zw,Zx,Zy,Zz,ZA,ZB,ZC,ZD,ZE,ZF,ZG,ZH,ZI,ZJ,ZK,ZL,ZM,ZN,ZO,ZP,ZQ,ZR,ZS,ZT,ZU,ZV,ZW,ZX,ZY,ZZ,Ya,Yb,Yc,Yd,Ye,Yf,Yg,Yh,Yi,Yj,Yk,Yl,Ym,Yn,Yo,Yp,Yq,Yr,Ys,Yt,Yu,Yv,Yw,Yx,Yy,Yz,YA,YB,YC,YD,YE,YF,YG,YH,YI,row₀,List.getElem?_cons_zero,List.getElem?_cons_succ,List.set_cons_zero,List.set_cons_succ,List.map_cons,List.map_nil,List.length_cons,List.length_nil,List.replicate,List.cons_append,List.nil_append,Nat.reduceAdd,Nat.reduceSub,List.mem_cons,List.not_mem_nil,or_false,forall_eq_or_imp,forall_eq,implies_true,true_and,and_true,if_true,if_false,Bool.false_eq_true,decide_eq_true_eq,Bool.not_eq_true',decide_eq_false_iff_not,Bool.not_eq_eq_eq_not,Bool.not_true,Bool.not_false,beq_self_eq_true,reduceCtorEq,beq_iff_eq,low_length,row_length,fdiv_nat,fmod_nat,two_pow,one_shl,shr,shl,and_mask,clip_nat,Int.one_mul]
  rw [ceil_neg a b hb0]
  try simp only [orAnd,andAnd,Za,Zb,Zc,Zd,Ze,Zf,Zg,Zh,Zi,Zj,Zk,Zl,Zm,Zn,Zo,Zp,Zq,Zr,Zs,Zt,Zu,Zv,Zw,Zx,Zy,Zz,ZA,ZB,ZC,ZD,ZE,ZF,ZG,ZH,ZI,ZJ,ZK,ZL,ZM,ZN,ZO,ZP,ZQ,ZR,ZS,ZT,ZU,ZV,ZW,ZX,ZY,ZZ,Ya,Yb,Yc,Yd,Ye,Yf,Yg,Yh,Yi,Yj,Yk,Yl,Ym,Yn,Yo,Yp,Yq,Yr,Ys,Yt,Yu,Yv,Yw,Yx,Yy,Yz,YA,YB,YC,YD,YE,YF,YG,YH,YI,row₀,List.getElem?_cons_zero,List.getElem?_cons_succ,List.set_cons_zero,List.set_cons_succ,List.map_cons,List.map_nil,List.length_cons,List.length_nil,List.replicate,List.cons_append,List.nil_append,Nat.reduceAdd,Nat.reduceSub,List.mem_cons,List.not_mem_nil,or_false,forall_eq_or_imp,forall_eq,implies_true,true_and,and_true,if_true,if_false,Bool.false_eq_true,decide_eq_true_eq,Bool.not_eq_true',decide_eq_false_iff_not,Bool.not_eq_eq_eq_not,Bool.not_true,Bool.not_false,beq_self_eq_true,reduceCtorEq,beq_iff_eq,low_length,row_length,fdiv_nat,fmod_nat,two_pow,one_shl,shr,shl,and_mask,clip_nat,Int.one_mul]
  rw [if_neg (fun f => f trivial)]
  refine WSs.nil ?_
  refine WSs.swap ?_
  try simp only [orAnd,andAnd,Za,Zb,Zc,Zd,Ze,Zf,Zg,Zh,Zi,Zj,Zk,Zl,Zm,Zn,Zo,Zp,Zq,Zr,Zs,Zt,Zu,Zv,Zw,Zx,Zy,Zz,ZA,ZB,ZC,ZD,ZE,ZF,ZG,ZH,ZI,ZJ,ZK,ZL,ZM,ZN,ZO,ZP,ZQ,ZR,ZS,ZT,ZU,ZV,ZW,ZX,ZY,ZZ,Ya,Yb,Yc,Yd,Ye,Yf,Yg,Yh,Yi,Yj,Yk,Yl,Ym,Yn,Yo,Yp,Yq,Yr,Ys,Yt,Yu,Yv,Yw,Yx,Yy,Yz,YA,YB,YC,YD,YE,YF,YG,YH,YI,row₀,List.getElem?_cons_zero,List.getElem?_cons_succ,List.set_cons_zero,List.set_cons_succ,List.map_cons,List.map_nil,List.length_cons,List.length_nil,List.replicate,List.cons_append,List.nil_append,Nat.reduceAdd,Nat.reduceSub,List.mem_cons,List.not_mem_nil,or_false,forall_eq_or_imp,forall_eq,implies_true,true_and,and_true,if_true,if_false,Bool.false_eq_true,decide_eq_true_eq,Bool.not_eq_true',decide_eq_false_iff_not,Bool.not_eq_eq_eq_not,Bool.not_true,Bool.not_false,beq_self_eq_true,reduceCtorEq,beq_iff_eq,low_length,row_length,fdiv_nat,fmod_nat,two_pow,one_shl,shr,shl,and_mask,clip_nat,Int.one_mul]
  refine ⟨by (clear sr sq hB hw1 hQ hl hb ha hw9 hw hrow; omega), .inl (by decide), by (clear sr sq hB hw1 hQ hl hb ha hw9 hw hrow; omega), b8, ?_⟩
  have key := all_tail (W := W) (k := k) (σ := σ) (h := h) (n := n) (Q := Q) hw hw9 ha hb hb0 hl hQ
  refine WSs.set ?_
  try simp only [orAnd,andAnd,Za,Zb,Zc,Zd,Ze,Zf,Zg,Zh,Zi,Zj,Zk,Zl,Zm,Zn,Zo,Zp,Zq,Zr,Zs,Zt,Zu,Zv,Zw,Zx,Zy,Zz,ZA,ZB,ZC,ZD,ZE,ZF,ZG,ZH,ZI,ZJ,ZK,ZL,ZM,ZN,ZO,ZP,ZQ,ZR,ZS,ZT,ZU,ZV,ZW,ZX,ZY,ZZ,Ya,Yb,Yc,Yd,Ye,Yf,Yg,Yh,Yi,Yj,Yk,Yl,Ym,Yn,Yo,Yp,Yq,Yr,Ys,Yt,Yu,Yv,Yw,Yx,Yy,Yz,YA,YB,YC,YD,YE,YF,YG,YH,YI,row₀,List.getElem?_cons_zero,List.getElem?_cons_succ,List.set_cons_zero,List.set_cons_succ,List.map_cons,List.map_nil,List.length_cons,List.length_nil,List.replicate,List.cons_append,List.nil_append,Nat.reduceAdd,Nat.reduceSub,List.mem_cons,List.not_mem_nil,or_false,forall_eq_or_imp,forall_eq,implies_true,true_and,and_true,if_true,if_false,Bool.false_eq_true,decide_eq_true_eq,Bool.not_eq_true',decide_eq_false_iff_not,Bool.not_eq_eq_eq_not,Bool.not_true,Bool.not_false,beq_self_eq_true,reduceCtorEq,beq_iff_eq,low_length,row_length,fdiv_nat,fmod_nat,two_pow,one_shl,shr,shl,and_mask,clip_nat,Int.one_mul]
  by_cases c1 : (b : Int) < 2 * ((a % b : Nat) : Int)
  · rw [if_neg (by (clear key sr sq hB hw1 hQ hl hb0 hb ha hw9 hw hrow; omega)), if_pos c1]
    exact key _ _ _ (by unfold near; rw [if_pos (.inl (by (clear key sr sq hB hw1 hQ hl hb0 hb ha hw9 hw hrow; omega)))]; rfl)
  rw [if_pos c1]
  by_cases c2 : 2 * ((a % b : Nat) : Int) = b
  · rw [if_pos c2]
    refine ⟨by decide, ?_⟩
    rw [fmod_two]
    by_cases c4 : a / b % 2 = 1
    · rw [if_pos (by (clear c2 c1 key sr sq hB hw1 hQ hl hb0 hb ha hw9 hw hrow; omega))]
      exact key _ _ _ (by unfold near; rw [if_pos (.inr ⟨by (clear c4 c1 key sr sq hB hw1 hQ hl hb0 hb ha hw9 hw hrow; omega), c4⟩)]; rfl)
    · rw [if_neg (by (clear c2 c1 key sr sq hB hw1 hQ hl hb0 hb ha hw9 hw hrow; omega)), if_pos (by (clear c2 c1 key sr sq hB hw1 hQ hl hb0 hb ha hw9 hw hrow; omega))]
      exact key _ _ _ (by unfold near; rw [if_neg (by (clear c1 key sr sq hB hw1 hQ hl hb0 hb ha hw9 hw hrow; omega))])
  · rw [if_neg c2, if_pos c2]
    exact key _ _ _ (by unfold near; rw [if_neg (by (clear key sr sq hB hw1 hQ hl hb0 hb ha hw9 hw hrow; omega))])
end
end
section
open PySem PySem.W PyProof.Rows

/-- a place of n signs on line l -/
noncomputable def onLn (l c n : Nat) : Pos := { line := l, col := c, endLine := l, endCol := c + n }
/-- self.x = x, where x has n letters -/
noncomputable def keptI (x : Str) (l n : Nat) : Stmt := .Assign [.Attribute (.Name "self" (onLn l 8 4)) x (onLn l 8 (5 + n))] (.Name x (onLn l (16 + n) n)) (onLn l 8 (8 + 2 * n))
/-- what the class's maker is: it keeps what it is handed under the same names -/
noncomputable def fdI : FuncData := {
  name := "__init__", qualname := "Dividing.__init__", params := ⟨[], ([("self", 17, 4), ("halves", 23, 6), ("newton", 31, 6), ("least", 39, 5), ("mul", 46, 3), ("base", 51, 4)] : List (Str × Nat × Nat)).map (fun (x : Str × Nat × Nat) => (⟨x.1, none, onLn 73 x.2.1 x.2.2⟩ : Arg)), none, [], [], none, []⟩,
  body := .stmts [keptI "halves" 74 6, keptI "newton" 75 6, keptI "least" 76 5, keptI "mul" 77 3, keptI "base" 78 4],
  scope := { kind := .function, names := (["self", "halves", "newton", "least", "mul", "base"] : List Str).map (fun x => (x, NameKind.local)), isGenerator := false, isCoroutine := false },
  globals := 3, closure := [], defaults := .none, kwdefaults := .none, pyModule := .str "gmp.divide" 339, code := .ref 127 }
noncomputable def KD (P : Params) : Frag := [
  (3, ({ cls := Value.type "dict", data := Data.dict #[{ hash := PyData.keyHash P (Str.ofString "__name__"), key := Value.str (Str.ofString "__name__") 165, val := Value.str (Str.ofString "law_nn0028_01") 619 }, { hash := PyData.keyHash P (Str.ofString "__doc__"), key := Value.str (Str.ofString "__doc__") 166, val := Value.none }, { hash := PyData.keyHash P (Str.ofString "__package__"), key := Value.str (Str.ofString "__package__") 167, val := Value.none }, { hash := PyData.keyHash P (Str.ofString "__loader__"), key := Value.str (Str.ofString "__loader__") 168, val := Value.builtin "__main__.__loader__#opaque" }, { hash := PyData.keyHash P (Str.ofString "__spec__"), key := Value.str (Str.ofString "__spec__") 169, val := Value.none }, { hash := PyData.keyHash P (Str.ofString "__annotations__"), key := Value.str (Str.ofString "__annotations__") 170, val := Value.ref 6 }, { hash := PyData.keyHash P (Str.ofString "__builtins__"), key := Value.str (Str.ofString "__builtins__") 171, val := Value.ref 4 }, { hash := PyData.keyHash P (Str.ofString "__file__"), key := Value.str (Str.ofString "__file__") 173, val := Value.str (Str.ofString "/claim/cut.py") 172 }, { hash := PyData.keyHash P (Str.ofString "__cached__"), key := Value.str (Str.ofString "__cached__") 174, val := Value.none }, { hash := PyData.keyHash P (Str.ofString "GmpError"), key := Value.str (Str.ofString "GmpError") 208, val := Value.ref 24 }, { hash := PyData.keyHash P (Str.ofString "DivisionByZero"), key := Value.str (Str.ofString "DivisionByZero") 224, val := Value.ref 37 }, { hash := PyData.keyHash P (Str.ofString "OutOfRange"), key := Value.str (Str.ofString "OutOfRange") 240, val := Value.ref 49 }, { hash := PyData.keyHash P (Str.ofString "normal"), key := Value.str (Str.ofString "normal") 248, val := Value.ref 58 }, { hash := PyData.keyHash P (Str.ofString "compare"), key := Value.str (Str.ofString "compare") 257, val := Value.ref 65 }, { hash := PyData.keyHash P (Str.ofString "add"), key := Value.str (Str.ofString "add") 270, val := Value.ref 72 }, { hash := PyData.keyHash P (Str.ofString "sub"), key := Value.str (Str.ofString "sub") 284, val := Value.ref 79 }, { hash := PyData.keyHash P (Str.ofString "lifted"), key := Value.str (Str.ofString "lifted") 292, val := Value.ref 86 }, { hash := PyData.keyHash P (Str.ofString "shift_left"), key := Value.str (Str.ofString "shift_left") 307, val := Value.ref 93 }, { hash := PyData.keyHash P (Str.ofString "shift_right"), key := Value.str (Str.ofString "shift_right") 322, val := Value.ref 100 }, { hash := PyData.keyHash P (Str.ofString "bits"), key := Value.str (Str.ofString "bits") 330, val := Value.ref 107 }, { hash := PyData.keyHash P (Str.ofString "split"), key := Value.str (Str.ofString "split") 338, val := Value.ref 114 }, { hash := PyData.keyHash P (Str.ofString "FEW_LIMBS"), key := Value.str (Str.ofString "FEW_LIMBS") 342, val := Value.int 3 341 }, { hash := PyData.keyHash P (Str.ofString "Dividing"), key := Value.str (Str.ofString "Dividing") 379, val := Value.ref 131 }, { hash := PyData.keyHash P (Str.ofString "down"), key := Value.str (Str.ofString "down") 387, val := Value.ref 142 }, { hash := PyData.keyHash P (Str.ofString "lowest"), key := Value.str (Str.ofString "lowest") 395, val := Value.ref 149 }, { hash := PyData.keyHash P (Str.ofString "all_ones"), key := Value.str (Str.ofString "all_ones") 403, val := Value.ref 156 }, { hash := PyData.keyHash P (Str.ofString "halves_size"), key := Value.str (Str.ofString "halves_size") 412, val := Value.ref 163 }, { hash := PyData.keyHash P (Str.ofString "three_halves"), key := Value.str (Str.ofString "three_halves") 431, val := Value.ref 170 }, { hash := PyData.keyHash P (Str.ofString "two_halves"), key := Value.str (Str.ofString "two_halves") 448, val := Value.ref 177 }, { hash := PyData.keyHash P (Str.ofString "divrem_halves"), key := Value.str (Str.ofString "divrem_halves") 470, val := Value.ref 184 }, { hash := PyData.keyHash P (Str.ofString "bits_of_quotient"), key := Value.str (Str.ofString "bits_of_quotient") 482, val := Value.ref 191 }, { hash := PyData.keyHash P (Str.ofString "whole_of_power"), key := Value.str (Str.ofString "whole_of_power") 492, val := Value.ref 198 }, { hash := PyData.keyHash P (Str.ofString "corrected"), key := Value.str (Str.ofString "corrected") 506, val := Value.ref 205 }, { hash := PyData.keyHash P (Str.ofString "newton_step"), key := Value.str (Str.ofString "newton_step") 519, val := Value.ref 212 }, { hash := PyData.keyHash P (Str.ofString "reciprocal"), key := Value.str (Str.ofString "reciprocal") 534, val := Value.ref 219 }, { hash := PyData.keyHash P (Str.ofString "divrem_newton"), key := Value.str (Str.ofString "divrem_newton") 546, val := Value.ref 226 }, { hash := PyData.keyHash P (Str.ofString "divide_any"), key := Value.str (Str.ofString "divide_any") 559, val := Value.ref 233 }, { hash := PyData.keyHash P (Str.ofString "quotient_of"), key := Value.str (Str.ofString "quotient_of") 571, val := Value.ref 240 }, { hash := PyData.keyHash P (Str.ofString "rest_of"), key := Value.str (Str.ofString "rest_of") 583, val := Value.ref 247 }, { hash := PyData.keyHash P (Str.ofString "quotient_up"), key := Value.str (Str.ofString "quotient_up") 595, val := Value.ref 254 }, { hash := PyData.keyHash P (Str.ofString "quotient_near"), key := Value.str (Str.ofString "quotient_near") 608, val := Value.ref 261 }, { hash := PyData.keyHash P (Str.ofString "divides"), key := Value.str (Str.ofString "divides") 618, val := Value.ref 268 }, { hash := PyData.keyHash P (Str.ofString "_law_take"), key := Value.str (Str.ofString "_law_take") 629, val := Value.ref 275 }, { hash := PyData.keyHash P (Str.ofString "_law_total"), key := Value.str (Str.ofString "_law_total") 638, val := Value.ref 282 }, { hash := PyData.keyHash P (Str.ofString "_law_row"), key := Value.str (Str.ofString "_law_row") 647, val := Value.ref 289 }, { hash := PyData.keyHash P (Str.ofString "_law_whole"), key := Value.str (Str.ofString "_law_whole") 657, val := Value.ref 296 }, { hash := PyData.keyHash P (Str.ofString "_law_is_row"), key := Value.str (Str.ofString "_law_is_row") 663, val := Value.ref 301 }, { hash := PyData.keyHash P (Str.ofString "_law_times"), key := Value.str (Str.ofString "_law_times") 672, val := Value.ref 308 }, { hash := PyData.keyHash P (Str.ofString "_law_parts"), key := Value.str (Str.ofString "_law_parts") 683, val := Value.ref 315 }, { hash := PyData.keyHash P (Str.ofString "_law_drawn"), key := Value.str (Str.ofString "_law_drawn") 696, val := Value.ref 322 }, { hash := PyData.keyHash P (Str.ofString "_law_shares"), key := Value.str (Str.ofString "_law_shares") 707, val := Value.ref 329 }, { hash := PyData.keyHash P (Str.ofString "_law_right"), key := Value.str (Str.ofString "_law_right") 719, val := Value.ref 336 }, { hash := PyData.keyHash P (Str.ofString "_law_refuses"), key := Value.str (Str.ofString "_law_refuses") 727, val := Value.ref 343 }, { hash := PyData.keyHash P (Str.ofString "_law_all_right"), key := Value.str (Str.ofString "_law_all_right") 743, val := Value.ref 350 }, { hash := PyData.keyHash P (Str.ofString "law"), key := Value.str (Str.ofString "law") 759, val := Value.ref 357 }] 55 } : Obj)),
  (127, ({ cls := Value.type "code", data := Data.fields #[Value.str (Str.ofString "__init__") 355, Value.str (Str.ofString "Dividing.__init__") 356, Value.str (Str.ofString "/claim/cut.py") 357, Value.int 73 0, Value.int 6 0, Value.int 0 0, Value.int 0 0, Value.int 3 0, Value.ref 122, Value.bool true, Value.int 181 0, Value.ref 123, Value.none, Value.ref 124, Value.ref 125, Value.ref 126, Value.int 364 0, Value.int 73 0, Value.str (Str.ofString "/claim/cut.py") 365] } : Obj)),
  (128, ({ cls := Value.type "function", data := Data.func fdI } : Obj)),
  (130, ({ cls := Value.type "dict", data := Data.dict #[{ hash := PyData.keyHash P (Str.ofString "__module__"), key := Value.str (Str.ofString "__module__") 350, val := Value.str (Str.ofString "gmp.divide") 339 }, { hash := PyData.keyHash P (Str.ofString "__firstlineno__"), key := Value.str (Str.ofString "__firstlineno__") 354, val := Value.int 71 353 }, { hash := PyData.keyHash P (Str.ofString "__init__"), key := Value.str (Str.ofString "__init__") 366, val := Value.ref 128 }, { hash := PyData.keyHash P (Str.ofString "__static_attributes__"), key := Value.str (Str.ofString "__static_attributes__") 372, val := Value.ref 129 }, { hash := PyData.keyHash P (Str.ofString "__dict__"), key := Value.str (Str.ofString "__dict__") 374, val := Value.ref 132 }, { hash := PyData.keyHash P (Str.ofString "__weakref__"), key := Value.str (Str.ofString "__weakref__") 376, val := Value.ref 133 }, { hash := PyData.keyHash P (Str.ofString "__doc__"), key := Value.str (Str.ofString "__doc__") 377, val := Value.none }] 4 } : Obj)),
  (131, ({ cls := Value.type "type", data := Data.cls { name := Str.ofString "Dividing", bases := [Value.type "object"], mro := [Value.ref 131, Value.type "object"], ns := 130, qualname := Str.ofString "Dividing" }, slots := #[none, none, some (Value.str (Str.ofString "Dividing") 343), some (Value.str (Str.ofString "Dividing") 351), some (Value.builtin "object.__new__"), some (Value.bool true)] } : Obj))]

theorem kd_makes (P : Params) : makesIn (KD P) 131 = true := by rfl
theorem kd_init (P : Params) : findIn (KD P) (.ref 131) "__init__" = some (some (.ref 128)) := by rfl
theorem kd_fn (P : Params) : typeIn (KD P) (.ref 128) = some (.type "function") := by rfl
theorem kd_set (P : Params) : findIn (KD P) (.ref 131) "__setattr__" = some (some (.builtin "object.__setattr__")) := by rfl
theorem kd_plain (P : Params) : plainOver (KD P) 131 = true := by rfl
theorem kd_dict (P : Params) : hasDictIn (KD P) 131 = true := by rfl
theorem kd_get (P : Params) : findIn (KD P) (.ref 131) "__getattribute__" = some (some (.builtin "object.__getattribute__")) := by rfl
theorem kd_code (P : Params) : codeIn (KD P) (.ref 127) "Dividing.__init__" = true := by rfl
theorem kd_few (P : Params) : nsIn (KD P) mainGlobals "FEW_LIMBS" = some (some (.int 3 341)) := by rfl
theorem kd_div (P : Params) : nsIn (KD P) mainGlobals "Dividing" = some (some (.ref 131)) := by rfl
end
section
open PySem PySem.Spec PySem.W PyProof.Rows

noncomputable abbrev mkE (P : Params) (x : Str) (t : Tok) (v : Value) : DictEntry := ⟨PyData.keyHash P x, .str x t, v⟩

noncomputable def ToldAt (P : Params) (mg : Str → Option Value) (v : Value) (h n l : Int) (g : FH) : Prop :=
  ∃ x dx t1 t2 t3 t4 t5 u1 u2 u3 am ab, v = .ref x ∧ g x = some (instObj 131 dx) ∧
    g dx = some (dictOf [mkE P "halves" t1 (.int h u1), mkE P "newton" t2 (.int n u2), mkE P "least" t3 (.int l u3), mkE P "mul" t4 (.ref am), mkE P "base" t5 (.ref ab)] 5) ∧
    mg "_law_times" = some (.ref am) ∧ mg "_law_parts" = some (.ref ab)

theorem told_mono {P : Params} {mg : Str → Option Value} (v : Value) (h n l : Int) (g g' : FH) (k : ∀ a o, g a = some o → g' a = some o) (t : ToldAt P mg v h n l g) : ToldAt P mg v h n l g' := by
  obtain ⟨x, dx, t1, t2, t3, t4, t5, u1, u2, u3, am, ab, rfl, h1, h2, h3⟩ := t
  exact ⟨x, dx, t1, t2, t3, t4, t5, u1, u2, u3, am, ab, rfl, k _ _ h1, k _ _ h2, h3⟩

theorem told_attr {prog : Program} {w : World} {H : Heap} {mg : Str → Option Value} (X : (KD w.params).In H) {v : Value} {h n l : Int} {g : FH} {s : Shared} {A : Around} {Ex : Value → Shared → Prop} {Q : Value → Shared → Prop}
    (x : Str) (t : ToldAt w.params mg v h n l g) (hg : ∀ a o, g a = some o → s.heap.get? a = some o) (hH : ∀ a o, H.get? a = some o → g a = some o)
    (hx : x = "halves" ∨ x = "newton" ∨ x = "least" ∨ x = "mul" ∨ x = "base")
    (q1 : x = "halves" → ∀ t, Q (.int h t) { s with toks := s.toks + 1 }) (q2 : x = "newton" → ∀ t, Q (.int n t) { s with toks := s.toks + 1 }) (q3 : x = "least" → ∀ t, Q (.int l t) { s with toks := s.toks + 1 })
    (q4 : x = "mul" → ∀ a, mg "_law_times" = some (.ref a) → Q (.ref a) { s with toks := s.toks + 1 }) (q5 : x = "base" → ∀ a, mg "_law_parts" = some (.ref a) → Q (.ref a) { s with toks := s.toks + 1 }) :
    wpAny (model prog w) A (getAttr v x true) Q Ex s := by
  obtain ⟨x', dx, t1, t2, t3, t4, t5, u1, u2, u3, am, ab, rfl, h1, h2, h3, h4⟩ := t
  have X' : (KD w.params).In s.heap := fun a o e => hg _ _ (hH _ _ (X _ _ e))
  have I : InstAt s.heap x' (instObj 131 dx) 131 (some (dictOf [mkE w.params "halves" t1 (.int h u1), mkE w.params "newton" t2 (.int n u2), mkE w.params "least" t3 (.int l u3), mkE w.params "mul" t4 (.ref am), mkE w.params "base" t5 (.ref ab)] 5)) :=
    ⟨hg _ _ h1, rfl, rfl, hg _ _ h2⟩
  rcases hx with rfl | rfl | rfl | rfl | rfl
  · exact get_value X' I (kd_get _) (findObj_own (attr := none) (kd_dict _) (by rfl) (by rfl) (by rfl)) rfl (q1 rfl _)
  · exact get_value X' I (kd_get _) (findObj_own (attr := none) (kd_dict _) (by rfl) (by rfl) (by rfl)) rfl (q2 rfl _)
  · exact get_value X' I (kd_get _) (findObj_own (attr := none) (kd_dict _) (by rfl) (by rfl) (by rfl)) rfl (q3 rfl _)
  · exact get_value X' I (kd_get _) (findObj_own (attr := none) (kd_dict _) (by rfl) (by rfl) (by rfl)) rfl (q4 rfl _ h3)
  · exact get_value X' I (kd_get _) (findObj_own (attr := none) (kd_dict _) (by rfl) (by rfl) (by rfl)) rfl (q5 rfl _ h4)
end
section
open PySem PySem.W PyProof.Rows
set_option exponentiation.threshold 5000

noncomputable def b_is_row : Ss := .cons (.ite (.bo .Or (.cons (.not (.isl 0)) (.cons (.intsNe 0) .nil))) (.cons (.ret (.bool false)) .nil) .nil)
  (.cons (.ret (.bo .And (.cons (.bndEq 0 1) (.cons (.bo .Or (.cons (.cmp .Eq (.var 0) (.list .nil)) (.cons (.cmp .Gt (.sub (.var 0) (.neg 1)) (.int 0)) .nil))) .nil)))) .nil)
theorem c_is_row : chk "_law_is_row" ["row", "w"] ["row", "w"] b_is_row = true := by decide +kernel

theorem row_mem {B : Nat} (hB : 2 ≤ B) {x : Nat} {z : Int} (h : z ∈ row B x) : 0 ≤ z ∧ z < B := by
  unfold row low at h
  obtain ⟨i, _, rfl⟩ := List.mem_map.mp h
  have := dig_lt hB x i
  omega

theorem is_row_ok (W : Wd) : IsRowOk W := by
  intro k w x Q σ hw hw9 hx hQ
  have hB := w_pow hw
  refine meets c_is_row rfl ?_
  unfold rw_
  refine WSs.ite ?_
  try simp only [orAnd,andAnd,Za,Zb,Zc,Zd,Ze,Zf,Zg,Zh,Zi,Zj,Zk,Zl,Zm,Zn,Zo,Zp,Zq,Zr,Zs,Zt,Zu,Zv,Zw,Zx,Zy,Zz,ZA,ZB,ZC,ZD,ZE,ZF,ZG,ZH,ZI,ZJ,ZK,ZL,ZM,ZN,ZO,ZP,ZQ,ZR,ZS,ZT,ZU,ZV,ZW,ZX,ZY,ZZ,Ya,Yb,Yc,Yd,Ye,Yf,Yg,Yh,Yi,Yj,Yk,Yl,Ym,Yn,Yo,Yp,Yq,Yr,Ys,Yt,Yu,Yv,Yw,Yx,Yy,Yz,YA,YB,YC,YD,YE,YF,YG,YH,YI,row₀,List.getElem?_cons_zero,List.getElem?_cons_succ,List.set_cons_zero,List.set_cons_succ,List.map_cons,List.map_nil,List.length_cons,List.length_nil,List.replicate,List.cons_append,List.nil_append,Nat.reduceAdd,Nat.reduceSub,List.mem_cons,List.not_mem_nil,or_false,forall_eq_or_imp,forall_eq,implies_true,true_and,and_true,if_true,if_false,Bool.false_eq_true,decide_eq_true_eq,Bool.not_eq_true',decide_eq_false_iff_not,Bool.not_eq_eq_eq_not,Bool.not_true,Bool.not_false,beq_self_eq_true,reduceCtorEq,beq_iff_eq,low_length,row_length,fdiv_nat,fmod_nat,two_pow,one_shl,shr,shl,and_mask,clip_nat,Int.one_mul]
  refine WSs.nil (WSs.ret ?_)
  try simp only [orAnd,andAnd,Za,Zb,Zc,Zd,Ze,Zf,Zg,Zh,Zi,Zj,Zk,Zl,Zm,Zn,Zo,Zp,Zq,Zr,Zs,Zt,Zu,Zv,Zw,Zx,Zy,Zz,ZA,ZB,ZC,ZD,ZE,ZF,ZG,ZH,ZI,ZJ,ZK,ZL,ZM,ZN,ZO,ZP,ZQ,ZR,ZS,ZT,ZU,ZV,ZW,ZX,ZY,ZZ,Ya,Yb,Yc,Yd,Ye,Yf,Yg,Yh,Yi,Yj,Yk,Yl,Ym,Yn,Yo,Yp,Yq,Yr,Ys,Yt,Yu,Yv,Yw,Yx,Yy,Yz,YA,YB,YC,YD,YE,YF,YG,YH,YI,row₀,List.getElem?_cons_zero,List.getElem?_cons_succ,List.set_cons_zero,List.set_cons_succ,List.map_cons,List.map_nil,List.length_cons,List.length_nil,List.replicate,List.cons_append,List.nil_append,Nat.reduceAdd,Nat.reduceSub,List.mem_cons,List.not_mem_nil,or_false,forall_eq_or_imp,forall_eq,implies_true,true_and,and_true,if_true,if_false,Bool.false_eq_true,decide_eq_true_eq,Bool.not_eq_true',decide_eq_false_iff_not,Bool.not_eq_eq_eq_not,Bool.not_true,Bool.not_false,beq_self_eq_true,reduceCtorEq,beq_iff_eq,low_length,row_length,fdiv_nat,fmod_nat,two_pow,one_shl,shr,shl,and_mask,clip_nat,Int.one_mul]
  refine ⟨by omega, by omega, fun z hz => ?_, ?_⟩
  · have := row_mem hB hz
    exact this
  refine ⟨[], rfl, by decide, ?_⟩
  by_cases h0 : row (2 ^ w) x = []
  · rw [decide_eq_true h0, if_neg (by simpa using h0)]
    exact hQ
  · rw [decide_eq_false h0, if_pos h0]
    have hx0 : 0 < x := by
      rcases Nat.eq_zero_or_pos x with q | q
      · exact absurd ((row_nil hB).mpr q) h0
      · exact q
    obtain ⟨hl0, hl1⟩ := len_low hB hx0
    refine .inr ⟨by decide, by rw [row_length]; (clear hl1 hx0 h0 hB hQ hx hw9 hw; omega), ?_⟩
    rw [show ((-1 : Int) + (row (2 ^ w) x).length).toNat = len (2 ^ w) x - 1 by rw [row_length]; (clear hl1 hx0 h0 hB hQ hx hw9 hw; omega), row_getD hB]
    try simp only [orAnd,andAnd,Za,Zb,Zc,Zd,Ze,Zf,Zg,Zh,Zi,Zj,Zk,Zl,Zm,Zn,Zo,Zp,Zq,Zr,Zs,Zt,Zu,Zv,Zw,Zx,Zy,Zz,ZA,ZB,ZC,ZD,ZE,ZF,ZG,ZH,ZI,ZJ,ZK,ZL,ZM,ZN,ZO,ZP,ZQ,ZR,ZS,ZT,ZU,ZV,ZW,ZX,ZY,ZZ,Ya,Yb,Yc,Yd,Ye,Yf,Yg,Yh,Yi,Yj,Yk,Yl,Ym,Yn,Yo,Yp,Yq,Yr,Ys,Yt,Yu,Yv,Yw,Yx,Yy,Yz,YA,YB,YC,YD,YE,YF,YG,YH,YI,row₀,List.getElem?_cons_zero,List.getElem?_cons_succ,List.set_cons_zero,List.set_cons_succ,List.map_cons,List.map_nil,List.length_cons,List.length_nil,List.replicate,List.cons_append,List.nil_append,Nat.reduceAdd,Nat.reduceSub,List.mem_cons,List.not_mem_nil,or_false,forall_eq_or_imp,forall_eq,implies_true,true_and,and_true,if_true,if_false,Bool.false_eq_true,decide_eq_true_eq,Bool.not_eq_true',decide_eq_false_iff_not,Bool.not_eq_eq_eq_not,Bool.not_true,Bool.not_false,beq_self_eq_true,reduceCtorEq,beq_iff_eq,low_length,row_length,fdiv_nat,fmod_nat,two_pow,one_shl,shr,shl,and_mask,clip_nat,Int.one_mul]
    have ht : dig (2 ^ w) x (len (2 ^ w) x - 1) = x / (2 ^ w) ^ (len (2 ^ w) x - 1) := dig_top hB (by rw [Nat.sub_add_cancel hl0]; exact lt_len hB x)
    have : 0 < x / (2 ^ w) ^ (len (2 ^ w) x - 1) := Nat.div_pos hl1 (Nat.pow_pos (by (clear ht hl1 hl0 hx0 h0 hQ hx hw9 hw; omega)))
    rw [decide_eq_true (by (clear hl1 hl0 hx0 h0 hB hQ hx hw9 hw; omega))]
    exact hQ
end
section
open PySem PySem.Spec PySem.Calls PySem.W PyProof.Rows

noncomputable def bodyI : List Stmt := match fdI.body with | .stmts b => b | _ => []

section
variable {prog : Program} {w : World} {A : Around} {E : Value → Shared → Prop}

theorem set_step {s : Shared} {hh : Heap} {L x dx : Addr} {m : Str → Option Value} {es : List DictEntry} {n : Nat} {y : Str} {v : Value} {env : Env} {p1 p2 p3 p4 : Pos} {Q : Flow → Shared → Prop}
    (hk : env.scope.kind = .function) (hs : env.kindOf "self" = some .local) (hyk : env.kindOf y = some .local) (hL : env.locals = L) (hdb : (y == ("__debug__" : Str)) = false)
    (X : (KD w.params).In hh) (F : Fr hh L s.heap m) (N : News hh L s.heap [(x, instObj 131 dx), (dx, dictOf es n)]) (hxd : x ≠ dx) (m1 : m "self" = some (.ref x)) (m2 : m y = some v)
    (ht : takerIn (KD w.params) 131 y = some none) (hl : (getL y es).isSome = true) (hes : ∀ tk, putL y (PyData.keyHash w.params y) (.str y tk) v es = es ++ [mkE w.params y tk v]) (hn : putN y es n = n + 1) (hz : es.length ≤ 900)
    (h : ∀ h' tk tk', Fr hh L h' m → News hh L h' [(x, instObj 131 dx), (dx, dictOf (es ++ [mkE w.params y tk v]) (n + 1))] → Q .next { s with heap := h', toks := tk' }) :
    wpAny (model prog w) A (exec (.Assign [.Attribute (.Name "self" p1) y p2] (.Name y p3) p4) env) Q E s := by
  subst hL
  refine plainObj_wpAny_Assign_Attribute (wpAny_Name (wpAny_loadName_local hk hyk F.ns m2 (wpAny_Name (wpAny_loadName_local hk hs F.ns m1 ?_))) hdb) rfl
  refine set_dict F X N (InstAt.of_news N (.head _) (.tail _ (.head _))) rfl (kd_set _) (kd_plain _) ht (kd_dict _) hl (by rw [hes, hn]) (.tail hxd (.head fun p hp => nomatch hp)) (by rw [List.length_append]; simp; omega) fun h' F' N' => h h' _ _ F' N'

theorem told_make {H : Heap} {mg : Str → Option Value} (X : (KD w.params).In H) (hnl : H.NoLimit) {h n l : Int} {t1 t2 t3 : Tok} {am ab : Addr} {s : Shared} {Q : Value → Shared → Prop} (hH : ∀ a o, H.get? a = some o → s.heap.get? a = some o)
    (hm : mg "_law_times" = some (.ref am)) (hb : mg "_law_parts" = some (.ref ab)) (hd : A.depth + 2 ≤ recursionLimit)
    (hq : ∀ h' tk x dx ox od, (∀ a o, s.heap.get? a = some o → h'.get? a = some o) → x ≠ dx → s.heap.get? x = none → s.heap.get? dx = none → h'.get? x = some ox → h'.get? dx = some od →
      (∀ g : FH, g x = some ox → g dx = some od → ToldAt w.params mg (.ref x) h n l g) → Q (.ref x) { s with heap := h', toks := tk }) :
    wpAny (model prog w) A (PySem.call (.ref 131) [.int h t1, .int n t2, .int l t3, .ref am, .ref ab]) Q E s := by
  obtain ⟨hh, gg, d, t, os⟩ := s
  have X' : (KD w.params).In hh := fun a o e => hH _ _ (X _ _ e)
  refine wpAny_call (make_core (init := .ref 128) (makes_of X' (kd_makes _)) (looks_findIn X' (kd_init _)) (fun self => bind_fn X' self (kd_fn _)) (.inl rfl) ?_)
  have k2 : ∀ b o, hh.get? b = some o → ((hh.push emptyDict).push (instObj 131 hh.objs.size)).get? b = some o := fun b o e => Heap.get?_push_of_some _ (Heap.get?_push_of_some _ e)
  have X2 : (KD w.params).In ((hh.push emptyDict).push (instObj 131 hh.objs.size)) := X'.keeps k2
  refine codeAny_call_def (fd := fdI) (body := bodyI) (binds := [("self", .ref (hh.objs.size + 1)), ("halves", .int h t1), ("newton", .int n t2), ("least", .int l t3), ("mul", .ref am), ("base", .ref ab)]) ?_ (X2 128 _ rfl) rfl
    (hnl.keeps fun b o e => k2 b o (hH b o e)) (codeRec_of X2 (kd_code _)) rfl (BindsTo.of_eq (by rfl)) (by decide) (locs rfl) (fun h₁ hns hk₁ => ?_)
  · rw [depth_under_make]; omega
  have hsz : ((hh.push emptyDict).push (instObj 131 hh.objs.size)).objs.size = hh.objs.size + 2 := by rw [Heap.size_push, Heap.size_push]
  dsimp only at hns hk₁ hH hq ⊢
  rw [hsz] at hns
  generalize hm0 : (fun x : Str => List.lookup x [(("self" : Str), Value.ref (hh.objs.size + 1)), ("halves", .int h t1), ("newton", .int n t2), ("least", .int l t3), ("mul", .ref am), ("base", .ref ab)].reverse) = m at hns
  have F : Fr hh (hh.objs.size + 2) h₁ m := ⟨hns, fun b o e => hk₁ b o (k2 b o e), by omega⟩
  have nn : ∀ c, hh.objs.size ≤ c → hh.get? c = none := fun c hc => by
    cases q : hh.get? c with
    | none => rfl
    | some o => exact absurd (Heap.lt_size q) (Nat.not_lt.mpr hc)
  have N : News hh (hh.objs.size + 2) h₁ [(hh.objs.size + 1, instObj 131 hh.objs.size), (hh.objs.size, dictOf [] 0)] := fun p hp => by
    rcases List.mem_cons.mp hp with rfl | hp
    · refine ⟨hk₁ _ _ ?_, by simp, nn _ (by simp)⟩
      have := Heap.get?_push_size (hh.push emptyDict) (o := instObj 131 hh.objs.size) rfl
      rw [Heap.size_push] at this
      exact this
    · rcases List.mem_cons.mp hp with rfl | hp
      · exact ⟨hk₁ _ _ (Heap.get?_push_of_some _ (Heap.get?_push_size _ rfl)), by simp, nn _ (by simp)⟩
      · cases hp
  have hxd : hh.objs.size + 1 ≠ hh.objs.size := by omega
  have e1 : m "self" = some (.ref (hh.objs.size + 1)) := by rw [← hm0]; rfl
  have e2 : m "halves" = some (.int h t1) := by rw [← hm0]; rfl
  have e3 : m "newton" = some (.int n t2) := by rw [← hm0]; rfl
  have e4 : m "least" = some (.int l t3) := by rw [← hm0]; rfl
  have e5 : m "mul" = some (.ref am) := by rw [← hm0]; rfl
  have e6 : m "base" = some (.ref ab) := by rw [← hm0]; rfl
  rw [hsz]
  unfold bodyI
  refine wpAny_execs_cons (set_step rfl rfl rfl rfl (by decide) X' F N hxd e1 e2 rfl rfl (fun _ => rfl) rfl (by decide) fun h2 k2 tk2 F N => ?_)
  refine wpAny_execs_cons (set_step rfl rfl rfl rfl (by decide) X' F N hxd e1 e3 rfl rfl (fun _ => rfl) rfl (by simp) fun h3 k3 tk3 F N => ?_)
  refine wpAny_execs_cons (set_step rfl rfl rfl rfl (by decide) X' F N hxd e1 e4 rfl rfl (fun _ => rfl) rfl (by simp) fun h4 k4 tk4 F N => ?_)
  refine wpAny_execs_cons (set_step rfl rfl rfl rfl (by decide) X' F N hxd e1 e5 rfl rfl (fun _ => rfl) rfl (by simp) fun h5 k5 tk5 F N => ?_)
  refine wpAny_execs_cons (set_step rfl rfl rfl rfl (by decide) X' F N hxd e1 e6 rfl rfl (fun _ => rfl) rfl (by simp) fun h6 k6 tk6 F N => ?_)
  refine wpAny_execs_nil ⟨rfl, ?_⟩
  refine hq h6 tk6 (hh.objs.size + 1) hh.objs.size _ _ F.keep hxd (nn _ (by omega)) (nn _ (by omega)) (N _ (.head _)).1 (N _ (.tail _ (.head _))).1 fun g g1 g2 => ?_
  exact ⟨_, _, _, _, _, _, _, _, _, _, _, _, rfl, g1, g2, hm, hb⟩
end
end
section
open PySem PySem.W PyProof.Rows
set_option exponentiation.threshold 5000

noncomputable abbrev e2 (a b : E) : Es := .cons a (.cons b .nil)
noncomputable def rowOf (i : E) : E := .call (.fn "_law_row") (e2 i (.var 2))
noncomputable def takeOf (n : Int) : E := .call (.fn "_law_take") (e2 (.var 1) (.int n))
noncomputable def no_ : Ss := .cons (.ret (.bool false)) .nil
noncomputable def s1 : S := .set 2 (.bin .Add (.int 2) (takeOf 8))
noncomputable def s2 : S := .two 3 4 (.call (.fn "_law_shares") (e2 (.var 1) (.var 2)))
noncomputable def s3 : S := .two 5 6 (.pair (rowOf (.var 4)) (rowOf (.var 3)))
noncomputable def s4 : S := .set 7 (.bin .Add (.int 1) (takeOf 4))
noncomputable def halvesOf (x y : E) : E := .call (.fn "divrem_halves") (.cons x (.cons y (.cons (.var 2) (.cons (.var 7) (.cons (.fn "_law_times") (.cons (.fn "_law_parts") .nil))))))
noncomputable def rightOf (x a b : E) : E := .call (.fn "_law_right") (.cons x (.cons a (.cons b (.cons (.var 2) .nil))))
noncomputable def s5 : S := .ite (.not (rightOf (halvesOf (.var 5) (.var 6)) (.var 4) (.var 3))) no_ .nil
noncomputable def s6 : S := .ite (.bo .Or (e2 (.cmp .NotEq (.var 5) (rowOf (.var 4))) (.cmp .NotEq (.var 6) (rowOf (.var 3))))) no_ .nil
noncomputable def s7 : S := .ite (.not (rightOf (halvesOf (.var 6) (rowOf (.bin .Add (.var 4) (.int 1)))) (.var 3) (.bin .Add (.var 4) (.int 1)))) no_ .nil
noncomputable def s8 : S := .set 8 (.bin .Add (.int 1) (takeOf 5))
noncomputable def s9 : S := .set 9 (.make (.cons (.var 8) (.cons (.bin .Add (.var 8) (takeOf 4)) (.cons (.var 7) (.cons (.fn "_law_times") (.cons (.fn "_law_parts") .nil))))))
noncomputable def pick : E := .sub (.list (e2 (.var 4) (.bin .Mult (.bin .FloorDiv (.var 3) (.int 2)) (.bin .Add (.bin .Mult (.int 2) (.bin .FloorDiv (.var 4) (.var 3))) (.int 1))))) (takeOf 2)
noncomputable def s10 : S := .ite (.not (.call (.fn "_law_all_right") (.cons (.var 1) (.cons (.var 2) (.cons pick (.cons (.var 3) (.cons (.var 9) .nil))))))) no_ .nil
noncomputable def b_mid : Ss := .cons s1 (.cons s2 (.cons s3 (.cons s4 (.cons s5 (.cons s6 (.cons s7 (.cons s8 (.cons s9 (.cons s10 .nil)))))))))
noncomputable def lawNs : List Str := ["script", "box", "w", "b", "a", "here", "there", "least", "halves", "told"]


section
variable {W : Wd} {σ : Bx} {k : Nat}

theorem WSub_list2 {a b : Int} {d : Nat} {Q : V → Bx → Prop} (hd : d < 2) (h : ∀ z : Int, z = a ∨ z = b → Q (.int z) σ) : WSub (.list [a, b]) (.int d) Q σ := by
  refine WSub_at d rfl (by simpa using hd) (h _ ?_)
  rcases d with _ | _ | d
  · exact .inl rfl
  · exact .inr rfl
  · omega

theorem mid {Q : PS} {x0 : Option V} (hσ : Gd σ) (hQ : ∀ (w a b l h : Nat) (n : Int) (σ' : Bx), Q .next [x0, some .box, some (.int w), some (.int b), some (.int a), some (rw_ w a), some (rw_ w b), some (.int l), some (.int h), some (.told h n l)] none σ') :
    WSs W (k + 26) b_mid Q [x0, some .box, none, none, none, none, none, none, none, none] none σ := by
  have hrow := is_row_ok W
  unfold b_mid s1 s2 s3 s4 s5 s6 s7 s8 s9 s10 takeOf rowOf no_ halvesOf rightOf pick takeOf
  have tk : ∀ (n : Nat), 1 ≤ n → n ≤ 16 → 1 ≤ n ∧ Bd n := fun n h1 h2 => ⟨h1, Bd.of (n := 5) (by omega) (by decide)⟩
  refine WSs.set ?_
  try simp only [orAnd,andAnd,Za,Zb,Zc,Zd,Ze,Zf,Zg,Zh,Zi,Zj,Zk,Zl,Zm,Zn,Zo,Zp,Zq,Zr,Zs,Zt,Zu,Zv,Zw,Zx,Zy,Zz,ZA,ZB,ZC,ZD,ZE,ZF,ZG,ZH,ZI,ZJ,ZK,ZL,ZM,ZN,ZO,ZP,ZQ,ZR,ZS,ZT,ZU,ZV,ZW,ZX,ZY,ZZ,Ya,Yb,Yc,Yd,Ye,Yf,Yg,Yh,Yi,Yj,Yk,Yl,Ym,Yn,Yo,Yp,Yq,Yr,Ys,Yt,Yu,Yv,Yw,Yx,Yy,Yz,YA,YB,YC,YD,YE,YF,YG,YH,YI,row₀,List.getElem?_cons_zero,List.getElem?_cons_succ,List.set_cons_zero,List.set_cons_succ,List.map_cons,List.map_nil,List.length_cons,List.length_nil,List.replicate,List.cons_append,List.nil_append,Nat.reduceAdd,Nat.reduceSub,List.mem_cons,List.not_mem_nil,or_false,forall_eq_or_imp,forall_eq,implies_true,true_and,and_true,if_true,if_false,Bool.false_eq_true,decide_eq_true_eq,Bool.not_eq_true',decide_eq_false_iff_not,Bool.not_eq_eq_eq_not,Bool.not_true,Bool.not_false,beq_self_eq_true,reduceCtorEq,beq_iff_eq,low_length,row_length,fdiv_nat,fmod_nat,two_pow,one_shl,shr,shl,and_mask,clip_nat,Int.one_mul]
  refine m_take (k := k + 25) (m := 8) (by decide) (tk 8 (by decide) (by decide)).2 hσ fun d1 σ1 hd1 hσ1 => ?_
  try simp only [orAnd,andAnd,Za,Zb,Zc,Zd,Ze,Zf,Zg,Zh,Zi,Zj,Zk,Zl,Zm,Zn,Zo,Zp,Zq,Zr,Zs,Zt,Zu,Zv,Zw,Zx,Zy,Zz,ZA,ZB,ZC,ZD,ZE,ZF,ZG,ZH,ZI,ZJ,ZK,ZL,ZM,ZN,ZO,ZP,ZQ,ZR,ZS,ZT,ZU,ZV,ZW,ZX,ZY,ZZ,Ya,Yb,Yc,Yd,Ye,Yf,Yg,Yh,Yi,Yj,Yk,Yl,Ym,Yn,Yo,Yp,Yq,Yr,Ys,Yt,Yu,Yv,Yw,Yx,Yy,Yz,YA,YB,YC,YD,YE,YF,YG,YH,YI,row₀,List.getElem?_cons_zero,List.getElem?_cons_succ,List.set_cons_zero,List.set_cons_succ,List.map_cons,List.map_nil,List.length_cons,List.length_nil,List.replicate,List.cons_append,List.nil_append,Nat.reduceAdd,Nat.reduceSub,List.mem_cons,List.not_mem_nil,or_false,forall_eq_or_imp,forall_eq,implies_true,true_and,and_true,if_true,if_false,Bool.false_eq_true,decide_eq_true_eq,Bool.not_eq_true',decide_eq_false_iff_not,Bool.not_eq_eq_eq_not,Bool.not_true,Bool.not_false,beq_self_eq_true,reduceCtorEq,beq_iff_eq,low_length,row_length,fdiv_nat,fmod_nat,two_pow,one_shl,shr,shl,and_mask,clip_nat,Int.one_mul]
  rw [show (2 : Int) + (d1 : Int) = ((2 + d1 : Nat) : Int) by omega]
  generalize hw : 2 + d1 = w
  have hw2 : 2 ≤ w := by omega
  have hw1 : 1 ≤ w := by omega
  have hw9 : w ≤ 9 := by omega
  have hB := w_pow hw1
  refine WSs.two ?_
  try simp only [orAnd,andAnd,Za,Zb,Zc,Zd,Ze,Zf,Zg,Zh,Zi,Zj,Zk,Zl,Zm,Zn,Zo,Zp,Zq,Zr,Zs,Zt,Zu,Zv,Zw,Zx,Zy,Zz,ZA,ZB,ZC,ZD,ZE,ZF,ZG,ZH,ZI,ZJ,ZK,ZL,ZM,ZN,ZO,ZP,ZQ,ZR,ZS,ZT,ZU,ZV,ZW,ZX,ZY,ZZ,Ya,Yb,Yc,Yd,Ye,Yf,Yg,Yh,Yi,Yj,Yk,Yl,Ym,Yn,Yo,Yp,Yq,Yr,Ys,Yt,Yu,Yv,Yw,Yx,Yy,Yz,YA,YB,YC,YD,YE,YF,YG,YH,YI,row₀,List.getElem?_cons_zero,List.getElem?_cons_succ,List.set_cons_zero,List.set_cons_succ,List.map_cons,List.map_nil,List.length_cons,List.length_nil,List.replicate,List.cons_append,List.nil_append,Nat.reduceAdd,Nat.reduceSub,List.mem_cons,List.not_mem_nil,or_false,forall_eq_or_imp,forall_eq,implies_true,true_and,and_true,if_true,if_false,Bool.false_eq_true,decide_eq_true_eq,Bool.not_eq_true',decide_eq_false_iff_not,Bool.not_eq_eq_eq_not,Bool.not_true,Bool.not_false,beq_self_eq_true,reduceCtorEq,beq_iff_eq,low_length,row_length,fdiv_nat,fmod_nat,two_pow,one_shl,shr,shl,and_mask,clip_nat,Int.one_mul]
  refine m_shares (k := k + 23) hw1 hw9 hσ1 fun b a σ2 hb1 hb2 ha2 hσ2 => ?_
  try simp only [orAnd,andAnd,Za,Zb,Zc,Zd,Ze,Zf,Zg,Zh,Zi,Zj,Zk,Zl,Zm,Zn,Zo,Zp,Zq,Zr,Zs,Zt,Zu,Zv,Zw,Zx,Zy,Zz,ZA,ZB,ZC,ZD,ZE,ZF,ZG,ZH,ZI,ZJ,ZK,ZL,ZM,ZN,ZO,ZP,ZQ,ZR,ZS,ZT,ZU,ZV,ZW,ZX,ZY,ZZ,Ya,Yb,Yc,Yd,Ye,Yf,Yg,Yh,Yi,Yj,Yk,Yl,Ym,Yn,Yo,Yp,Yq,Yr,Ys,Yt,Yu,Yv,Yw,Yx,Yy,Yz,YA,YB,YC,YD,YE,YF,YG,YH,YI,row₀,List.getElem?_cons_zero,List.getElem?_cons_succ,List.set_cons_zero,List.set_cons_succ,List.map_cons,List.map_nil,List.length_cons,List.length_nil,List.replicate,List.cons_append,List.nil_append,Nat.reduceAdd,Nat.reduceSub,List.mem_cons,List.not_mem_nil,or_false,forall_eq_or_imp,forall_eq,implies_true,true_and,and_true,if_true,if_false,Bool.false_eq_true,decide_eq_true_eq,Bool.not_eq_true',decide_eq_false_iff_not,Bool.not_eq_eq_eq_not,Bool.not_true,Bool.not_false,beq_self_eq_true,reduceCtorEq,beq_iff_eq,low_length,row_length,fdiv_nat,fmod_nat,two_pow,one_shl,shr,shl,and_mask,clip_nat,Int.one_mul]
  have hb : Sm b := by unfold Sm; (clear hσ2 ha2 hB hw9 hw1 hw2 hw hσ1 hd1 tk hrow hQ hσ; omega)
  have ha : Sm a := by unfold Sm; (clear hb hσ2 hb2 hb1 hB hw9 hw1 hw2 hw hσ1 hd1 tk hrow hQ hσ; omega)
  have ha1 : Sm (a + 1) := by unfold Sm; (clear ha hb hσ2 hb2 hb1 hB hw9 hw1 hw2 hw hσ1 hd1 tk hrow hQ hσ; omega)
  have b8 : ∃ k, k ≤ 8000 ∧ (b : Int).natAbs < 2 ^ k := ⟨112, by decide, by rw [Int.natAbs_natCast]; exact hb⟩
  refine WSs.two ?_
  try simp only [orAnd,andAnd,Za,Zb,Zc,Zd,Ze,Zf,Zg,Zh,Zi,Zj,Zk,Zl,Zm,Zn,Zo,Zp,Zq,Zr,Zs,Zt,Zu,Zv,Zw,Zx,Zy,Zz,ZA,ZB,ZC,ZD,ZE,ZF,ZG,ZH,ZI,ZJ,ZK,ZL,ZM,ZN,ZO,ZP,ZQ,ZR,ZS,ZT,ZU,ZV,ZW,ZX,ZY,ZZ,Ya,Yb,Yc,Yd,Ye,Yf,Yg,Yh,Yi,Yj,Yk,Yl,Ym,Yn,Yo,Yp,Yq,Yr,Ys,Yt,Yu,Yv,Yw,Yx,Yy,Yz,YA,YB,YC,YD,YE,YF,YG,YH,YI,row₀,List.getElem?_cons_zero,List.getElem?_cons_succ,List.set_cons_zero,List.set_cons_succ,List.map_cons,List.map_nil,List.length_cons,List.length_nil,List.replicate,List.cons_append,List.nil_append,Nat.reduceAdd,Nat.reduceSub,List.mem_cons,List.not_mem_nil,or_false,forall_eq_or_imp,forall_eq,implies_true,true_and,and_true,if_true,if_false,Bool.false_eq_true,decide_eq_true_eq,Bool.not_eq_true',decide_eq_false_iff_not,Bool.not_eq_eq_eq_not,Bool.not_true,Bool.not_false,beq_self_eq_true,reduceCtorEq,beq_iff_eq,low_length,row_length,fdiv_nat,fmod_nat,two_pow,one_shl,shr,shl,and_mask,clip_nat,Int.one_mul]
  refine m_law_row (k := k + 25) hw1 hw9 ha.bd ?_
  refine m_law_row (k := k + 25) hw1 hw9 hb.bd ?_
  try simp only [orAnd,andAnd,Za,Zb,Zc,Zd,Ze,Zf,Zg,Zh,Zi,Zj,Zk,Zl,Zm,Zn,Zo,Zp,Zq,Zr,Zs,Zt,Zu,Zv,Zw,Zx,Zy,Zz,ZA,ZB,ZC,ZD,ZE,ZF,ZG,ZH,ZI,ZJ,ZK,ZL,ZM,ZN,ZO,ZP,ZQ,ZR,ZS,ZT,ZU,ZV,ZW,ZX,ZY,ZZ,Ya,Yb,Yc,Yd,Ye,Yf,Yg,Yh,Yi,Yj,Yk,Yl,Ym,Yn,Yo,Yp,Yq,Yr,Ys,Yt,Yu,Yv,Yw,Yx,Yy,Yz,YA,YB,YC,YD,YE,YF,YG,YH,YI,row₀,List.getElem?_cons_zero,List.getElem?_cons_succ,List.set_cons_zero,List.set_cons_succ,List.map_cons,List.map_nil,List.length_cons,List.length_nil,List.replicate,List.cons_append,List.nil_append,Nat.reduceAdd,Nat.reduceSub,List.mem_cons,List.not_mem_nil,or_false,forall_eq_or_imp,forall_eq,implies_true,true_and,and_true,if_true,if_false,Bool.false_eq_true,decide_eq_true_eq,Bool.not_eq_true',decide_eq_false_iff_not,Bool.not_eq_eq_eq_not,Bool.not_true,Bool.not_false,beq_self_eq_true,reduceCtorEq,beq_iff_eq,low_length,row_length,fdiv_nat,fmod_nat,two_pow,one_shl,shr,shl,and_mask,clip_nat,Int.one_mul]
  refine WSs.set ?_
  try simp only [orAnd,andAnd,Za,Zb,Zc,Zd,Ze,Zf,Zg,Zh,Zi,Zj,Zk,Zl,Zm,Zn,Zo,Zp,Zq,Zr,Zs,Zt,Zu,Zv,Zw,Zx,Zy,Zz,ZA,ZB,ZC,ZD,ZE,ZF,ZG,ZH,ZI,ZJ,ZK,ZL,ZM,ZN,ZO,ZP,ZQ,ZR,ZS,ZT,ZU,ZV,ZW,ZX,ZY,ZZ,Ya,Yb,Yc,Yd,Ye,Yf,Yg,Yh,Yi,Yj,Yk,Yl,Ym,Yn,Yo,Yp,Yq,Yr,Ys,Yt,Yu,Yv,Yw,Yx,Yy,Yz,YA,YB,YC,YD,YE,YF,YG,YH,YI,row₀,List.getElem?_cons_zero,List.getElem?_cons_succ,List.set_cons_zero,List.set_cons_succ,List.map_cons,List.map_nil,List.length_cons,List.length_nil,List.replicate,List.cons_append,List.nil_append,Nat.reduceAdd,Nat.reduceSub,List.mem_cons,List.not_mem_nil,or_false,forall_eq_or_imp,forall_eq,implies_true,true_and,and_true,if_true,if_false,Bool.false_eq_true,decide_eq_true_eq,Bool.not_eq_true',decide_eq_false_iff_not,Bool.not_eq_eq_eq_not,Bool.not_true,Bool.not_false,beq_self_eq_true,reduceCtorEq,beq_iff_eq,low_length,row_length,fdiv_nat,fmod_nat,two_pow,one_shl,shr,shl,and_mask,clip_nat,Int.one_mul]
  refine m_take (k := k + 25) (m := 4) (by decide) (tk 4 (by decide) (by decide)).2 hσ2 fun d2 σ3 hd2 hσ3 => ?_
  try simp only [orAnd,andAnd,Za,Zb,Zc,Zd,Ze,Zf,Zg,Zh,Zi,Zj,Zk,Zl,Zm,Zn,Zo,Zp,Zq,Zr,Zs,Zt,Zu,Zv,Zw,Zx,Zy,Zz,ZA,ZB,ZC,ZD,ZE,ZF,ZG,ZH,ZI,ZJ,ZK,ZL,ZM,ZN,ZO,ZP,ZQ,ZR,ZS,ZT,ZU,ZV,ZW,ZX,ZY,ZZ,Ya,Yb,Yc,Yd,Ye,Yf,Yg,Yh,Yi,Yj,Yk,Yl,Ym,Yn,Yo,Yp,Yq,Yr,Ys,Yt,Yu,Yv,Yw,Yx,Yy,Yz,YA,YB,YC,YD,YE,YF,YG,YH,YI,row₀,List.getElem?_cons_zero,List.getElem?_cons_succ,List.set_cons_zero,List.set_cons_succ,List.map_cons,List.map_nil,List.length_cons,List.length_nil,List.replicate,List.cons_append,List.nil_append,Nat.reduceAdd,Nat.reduceSub,List.mem_cons,List.not_mem_nil,or_false,forall_eq_or_imp,forall_eq,implies_true,true_and,and_true,if_true,if_false,Bool.false_eq_true,decide_eq_true_eq,Bool.not_eq_true',decide_eq_false_iff_not,Bool.not_eq_eq_eq_not,Bool.not_true,Bool.not_false,beq_self_eq_true,reduceCtorEq,beq_iff_eq,low_length,row_length,fdiv_nat,fmod_nat,two_pow,one_shl,shr,shl,and_mask,clip_nat,Int.one_mul]
  rw [show (1 : Int) + (d2 : Int) = ((1 + d2 : Nat) : Int) by (clear hσ3 hd2 ha1 ha hb hσ2 ha2 hb2 hb1 hB hw9 hw1 hw2 hw hσ1 hd1 tk hrow hQ hσ; omega)]
  generalize hl : 1 + d2 = l
  have hl1 : 1 ≤ l := by (clear hσ3 ha1 ha hb hσ2 ha2 hb2 hb1 hB hw9 hw1 hw2 hw hσ1 hd1 tk hrow hQ hσ; omega)
  refine WSs.ite ?_
  try simp only [orAnd,andAnd,Za,Zb,Zc,Zd,Ze,Zf,Zg,Zh,Zi,Zj,Zk,Zl,Zm,Zn,Zo,Zp,Zq,Zr,Zs,Zt,Zu,Zv,Zw,Zx,Zy,Zz,ZA,ZB,ZC,ZD,ZE,ZF,ZG,ZH,ZI,ZJ,ZK,ZL,ZM,ZN,ZO,ZP,ZQ,ZR,ZS,ZT,ZU,ZV,ZW,ZX,ZY,ZZ,Ya,Yb,Yc,Yd,Ye,Yf,Yg,Yh,Yi,Yj,Yk,Yl,Ym,Yn,Yo,Yp,Yq,Yr,Ys,Yt,Yu,Yv,Yw,Yx,Yy,Yz,YA,YB,YC,YD,YE,YF,YG,YH,YI,row₀,List.getElem?_cons_zero,List.getElem?_cons_succ,List.set_cons_zero,List.set_cons_succ,List.map_cons,List.map_nil,List.length_cons,List.length_nil,List.replicate,List.cons_append,List.nil_append,Nat.reduceAdd,Nat.reduceSub,List.mem_cons,List.not_mem_nil,or_false,forall_eq_or_imp,forall_eq,implies_true,true_and,and_true,if_true,if_false,Bool.false_eq_true,decide_eq_true_eq,Bool.not_eq_true',decide_eq_false_iff_not,Bool.not_eq_eq_eq_not,Bool.not_true,Bool.not_false,beq_self_eq_true,reduceCtorEq,beq_iff_eq,low_length,row_length,fdiv_nat,fmod_nat,two_pow,one_shl,shr,shl,and_mask,clip_nat,Int.one_mul]
  refine m_divrem_halves (k := k + 5) hw2 hw9 ha hb hb1 hl1 ?_
  refine m_law_right (k := k + 15) hrow hw2 hw9 ha hb hb1 ?_
  try simp only [orAnd,andAnd,Za,Zb,Zc,Zd,Ze,Zf,Zg,Zh,Zi,Zj,Zk,Zl,Zm,Zn,Zo,Zp,Zq,Zr,Zs,Zt,Zu,Zv,Zw,Zx,Zy,Zz,ZA,ZB,ZC,ZD,ZE,ZF,ZG,ZH,ZI,ZJ,ZK,ZL,ZM,ZN,ZO,ZP,ZQ,ZR,ZS,ZT,ZU,ZV,ZW,ZX,ZY,ZZ,Ya,Yb,Yc,Yd,Ye,Yf,Yg,Yh,Yi,Yj,Yk,Yl,Ym,Yn,Yo,Yp,Yq,Yr,Ys,Yt,Yu,Yv,Yw,Yx,Yy,Yz,YA,YB,YC,YD,YE,YF,YG,YH,YI,row₀,List.getElem?_cons_zero,List.getElem?_cons_succ,List.set_cons_zero,List.set_cons_succ,List.map_cons,List.map_nil,List.length_cons,List.length_nil,List.replicate,List.cons_append,List.nil_append,Nat.reduceAdd,Nat.reduceSub,List.mem_cons,List.not_mem_nil,or_false,forall_eq_or_imp,forall_eq,implies_true,true_and,and_true,if_true,if_false,Bool.false_eq_true,decide_eq_true_eq,Bool.not_eq_true',decide_eq_false_iff_not,Bool.not_eq_eq_eq_not,Bool.not_true,Bool.not_false,beq_self_eq_true,reduceCtorEq,beq_iff_eq,low_length,row_length,fdiv_nat,fmod_nat,two_pow,one_shl,shr,shl,and_mask,clip_nat,Int.one_mul]
  refine WSs.nil (WSs.ite ?_)
  try simp only [orAnd,andAnd,Za,Zb,Zc,Zd,Ze,Zf,Zg,Zh,Zi,Zj,Zk,Zl,Zm,Zn,Zo,Zp,Zq,Zr,Zs,Zt,Zu,Zv,Zw,Zx,Zy,Zz,ZA,ZB,ZC,ZD,ZE,ZF,ZG,ZH,ZI,ZJ,ZK,ZL,ZM,ZN,ZO,ZP,ZQ,ZR,ZS,ZT,ZU,ZV,ZW,ZX,ZY,ZZ,Ya,Yb,Yc,Yd,Ye,Yf,Yg,Yh,Yi,Yj,Yk,Yl,Ym,Yn,Yo,Yp,Yq,Yr,Ys,Yt,Yu,Yv,Yw,Yx,Yy,Yz,YA,YB,YC,YD,YE,YF,YG,YH,YI,row₀,List.getElem?_cons_zero,List.getElem?_cons_succ,List.set_cons_zero,List.set_cons_succ,List.map_cons,List.map_nil,List.length_cons,List.length_nil,List.replicate,List.cons_append,List.nil_append,Nat.reduceAdd,Nat.reduceSub,List.mem_cons,List.not_mem_nil,or_false,forall_eq_or_imp,forall_eq,implies_true,true_and,and_true,if_true,if_false,Bool.false_eq_true,decide_eq_true_eq,Bool.not_eq_true',decide_eq_false_iff_not,Bool.not_eq_eq_eq_not,Bool.not_true,Bool.not_false,beq_self_eq_true,reduceCtorEq,beq_iff_eq,low_length,row_length,fdiv_nat,fmod_nat,two_pow,one_shl,shr,shl,and_mask,clip_nat,Int.one_mul]
  refine m_law_row (k := k + 25) hw1 hw9 ha.bd ?_
  try simp only [orAnd,andAnd,Za,Zb,Zc,Zd,Ze,Zf,Zg,Zh,Zi,Zj,Zk,Zl,Zm,Zn,Zo,Zp,Zq,Zr,Zs,Zt,Zu,Zv,Zw,Zx,Zy,Zz,ZA,ZB,ZC,ZD,ZE,ZF,ZG,ZH,ZI,ZJ,ZK,ZL,ZM,ZN,ZO,ZP,ZQ,ZR,ZS,ZT,ZU,ZV,ZW,ZX,ZY,ZZ,Ya,Yb,Yc,Yd,Ye,Yf,Yg,Yh,Yi,Yj,Yk,Yl,Ym,Yn,Yo,Yp,Yq,Yr,Ys,Yt,Yu,Yv,Yw,Yx,Yy,Yz,YA,YB,YC,YD,YE,YF,YG,YH,YI,row₀,List.getElem?_cons_zero,List.getElem?_cons_succ,List.set_cons_zero,List.set_cons_succ,List.map_cons,List.map_nil,List.length_cons,List.length_nil,List.replicate,List.cons_append,List.nil_append,Nat.reduceAdd,Nat.reduceSub,List.mem_cons,List.not_mem_nil,or_false,forall_eq_or_imp,forall_eq,implies_true,true_and,and_true,if_true,if_false,Bool.false_eq_true,decide_eq_true_eq,Bool.not_eq_true',decide_eq_false_iff_not,Bool.not_eq_eq_eq_not,Bool.not_true,Bool.not_false,beq_self_eq_true,reduceCtorEq,beq_iff_eq,low_length,row_length,fdiv_nat,fmod_nat,two_pow,one_shl,shr,shl,and_mask,clip_nat,Int.one_mul]
  refine m_law_row (k := k + 25) hw1 hw9 hb.bd ?_
  try simp only [orAnd,andAnd,Za,Zb,Zc,Zd,Ze,Zf,Zg,Zh,Zi,Zj,Zk,Zl,Zm,Zn,Zo,Zp,Zq,Zr,Zs,Zt,Zu,Zv,Zw,Zx,Zy,Zz,ZA,ZB,ZC,ZD,ZE,ZF,ZG,ZH,ZI,ZJ,ZK,ZL,ZM,ZN,ZO,ZP,ZQ,ZR,ZS,ZT,ZU,ZV,ZW,ZX,ZY,ZZ,Ya,Yb,Yc,Yd,Ye,Yf,Yg,Yh,Yi,Yj,Yk,Yl,Ym,Yn,Yo,Yp,Yq,Yr,Ys,Yt,Yu,Yv,Yw,Yx,Yy,Yz,YA,YB,YC,YD,YE,YF,YG,YH,YI,row₀,List.getElem?_cons_zero,List.getElem?_cons_succ,List.set_cons_zero,List.set_cons_succ,List.map_cons,List.map_nil,List.length_cons,List.length_nil,List.replicate,List.cons_append,List.nil_append,Nat.reduceAdd,Nat.reduceSub,List.mem_cons,List.not_mem_nil,or_false,forall_eq_or_imp,forall_eq,implies_true,true_and,and_true,if_true,if_false,Bool.false_eq_true,decide_eq_true_eq,Bool.not_eq_true',decide_eq_false_iff_not,Bool.not_eq_eq_eq_not,Bool.not_true,Bool.not_false,beq_self_eq_true,reduceCtorEq,beq_iff_eq,low_length,row_length,fdiv_nat,fmod_nat,two_pow,one_shl,shr,shl,and_mask,clip_nat,Int.one_mul]
  refine WSs.nil ?_
  refine WSs.ite ?_
  try simp only [orAnd,andAnd,Za,Zb,Zc,Zd,Ze,Zf,Zg,Zh,Zi,Zj,Zk,Zl,Zm,Zn,Zo,Zp,Zq,Zr,Zs,Zt,Zu,Zv,Zw,Zx,Zy,Zz,ZA,ZB,ZC,ZD,ZE,ZF,ZG,ZH,ZI,ZJ,ZK,ZL,ZM,ZN,ZO,ZP,ZQ,ZR,ZS,ZT,ZU,ZV,ZW,ZX,ZY,ZZ,Ya,Yb,Yc,Yd,Ye,Yf,Yg,Yh,Yi,Yj,Yk,Yl,Ym,Yn,Yo,Yp,Yq,Yr,Ys,Yt,Yu,Yv,Yw,Yx,Yy,Yz,YA,YB,YC,YD,YE,YF,YG,YH,YI,row₀,List.getElem?_cons_zero,List.getElem?_cons_succ,List.set_cons_zero,List.set_cons_succ,List.map_cons,List.map_nil,List.length_cons,List.length_nil,List.replicate,List.cons_append,List.nil_append,Nat.reduceAdd,Nat.reduceSub,List.mem_cons,List.not_mem_nil,or_false,forall_eq_or_imp,forall_eq,implies_true,true_and,and_true,if_true,if_false,Bool.false_eq_true,decide_eq_true_eq,Bool.not_eq_true',decide_eq_false_iff_not,Bool.not_eq_eq_eq_not,Bool.not_true,Bool.not_false,beq_self_eq_true,reduceCtorEq,beq_iff_eq,low_length,row_length,fdiv_nat,fmod_nat,two_pow,one_shl,shr,shl,and_mask,clip_nat,Int.one_mul]
  rw [show (a : Int) + 1 = ((a + 1 : Nat) : Int) by (clear hl1 hl hσ3 hd2 ha1 ha hb hσ2 ha2 hb2 hb1 hB hw9 hw1 hw2 hw hσ1 hd1 tk hrow hQ hσ; omega)]
  refine m_law_row (k := k + 25) hw1 hw9 ha1.bd ?_
  refine m_divrem_halves (k := k + 5) hw2 hw9 hb ha1 (by (clear hl1 hl hσ3 hd2 ha1 ha hb hσ2 hb2 hb1 hB hw9 hw1 hw2 hw hσ1 hd1 tk hrow hQ hσ; omega)) hl1 ?_
  refine m_law_right (k := k + 15) hrow hw2 hw9 hb ha1 (by (clear hl1 hl hσ3 hd2 ha1 ha hb hσ2 hb2 hb1 hB hw9 hw1 hw2 hw hσ1 hd1 tk hrow hQ hσ; omega)) ?_
  try simp only [orAnd,andAnd,Za,Zb,Zc,Zd,Ze,Zf,Zg,Zh,Zi,Zj,Zk,Zl,Zm,Zn,Zo,Zp,Zq,Zr,Zs,Zt,Zu,Zv,Zw,Zx,Zy,Zz,ZA,ZB,ZC,ZD,ZE,ZF,ZG,ZH,ZI,ZJ,ZK,ZL,ZM,ZN,ZO,ZP,ZQ,ZR,ZS,ZT,ZU,ZV,ZW,ZX,ZY,ZZ,Ya,Yb,Yc,Yd,Ye,Yf,Yg,Yh,Yi,Yj,Yk,Yl,Ym,Yn,Yo,Yp,Yq,Yr,Ys,Yt,Yu,Yv,Yw,Yx,Yy,Yz,YA,YB,YC,YD,YE,YF,YG,YH,YI,row₀,List.getElem?_cons_zero,List.getElem?_cons_succ,List.set_cons_zero,List.set_cons_succ,List.map_cons,List.map_nil,List.length_cons,List.length_nil,List.replicate,List.cons_append,List.nil_append,Nat.reduceAdd,Nat.reduceSub,List.mem_cons,List.not_mem_nil,or_false,forall_eq_or_imp,forall_eq,implies_true,true_and,and_true,if_true,if_false,Bool.false_eq_true,decide_eq_true_eq,Bool.not_eq_true',decide_eq_false_iff_not,Bool.not_eq_eq_eq_not,Bool.not_true,Bool.not_false,beq_self_eq_true,reduceCtorEq,beq_iff_eq,low_length,row_length,fdiv_nat,fmod_nat,two_pow,one_shl,shr,shl,and_mask,clip_nat,Int.one_mul]
  refine WSs.nil ?_
  refine WSs.set ?_
  try simp only [orAnd,andAnd,Za,Zb,Zc,Zd,Ze,Zf,Zg,Zh,Zi,Zj,Zk,Zl,Zm,Zn,Zo,Zp,Zq,Zr,Zs,Zt,Zu,Zv,Zw,Zx,Zy,Zz,ZA,ZB,ZC,ZD,ZE,ZF,ZG,ZH,ZI,ZJ,ZK,ZL,ZM,ZN,ZO,ZP,ZQ,ZR,ZS,ZT,ZU,ZV,ZW,ZX,ZY,ZZ,Ya,Yb,Yc,Yd,Ye,Yf,Yg,Yh,Yi,Yj,Yk,Yl,Ym,Yn,Yo,Yp,Yq,Yr,Ys,Yt,Yu,Yv,Yw,Yx,Yy,Yz,YA,YB,YC,YD,YE,YF,YG,YH,YI,row₀,List.getElem?_cons_zero,List.getElem?_cons_succ,List.set_cons_zero,List.set_cons_succ,List.map_cons,List.map_nil,List.length_cons,List.length_nil,List.replicate,List.cons_append,List.nil_append,Nat.reduceAdd,Nat.reduceSub,List.mem_cons,List.not_mem_nil,or_false,forall_eq_or_imp,forall_eq,implies_true,true_and,and_true,if_true,if_false,Bool.false_eq_true,decide_eq_true_eq,Bool.not_eq_true',decide_eq_false_iff_not,Bool.not_eq_eq_eq_not,Bool.not_true,Bool.not_false,beq_self_eq_true,reduceCtorEq,beq_iff_eq,low_length,row_length,fdiv_nat,fmod_nat,two_pow,one_shl,shr,shl,and_mask,clip_nat,Int.one_mul]
  refine m_take (k := k + 25) (m := 5) (by decide) (tk 5 (by decide) (by decide)).2 hσ3 fun d3 σ4 hd3 hσ4 => ?_
  try simp only [orAnd,andAnd,Za,Zb,Zc,Zd,Ze,Zf,Zg,Zh,Zi,Zj,Zk,Zl,Zm,Zn,Zo,Zp,Zq,Zr,Zs,Zt,Zu,Zv,Zw,Zx,Zy,Zz,ZA,ZB,ZC,ZD,ZE,ZF,ZG,ZH,ZI,ZJ,ZK,ZL,ZM,ZN,ZO,ZP,ZQ,ZR,ZS,ZT,ZU,ZV,ZW,ZX,ZY,ZZ,Ya,Yb,Yc,Yd,Ye,Yf,Yg,Yh,Yi,Yj,Yk,Yl,Ym,Yn,Yo,Yp,Yq,Yr,Ys,Yt,Yu,Yv,Yw,Yx,Yy,Yz,YA,YB,YC,YD,YE,YF,YG,YH,YI,row₀,List.getElem?_cons_zero,List.getElem?_cons_succ,List.set_cons_zero,List.set_cons_succ,List.map_cons,List.map_nil,List.length_cons,List.length_nil,List.replicate,List.cons_append,List.nil_append,Nat.reduceAdd,Nat.reduceSub,List.mem_cons,List.not_mem_nil,or_false,forall_eq_or_imp,forall_eq,implies_true,true_and,and_true,if_true,if_false,Bool.false_eq_true,decide_eq_true_eq,Bool.not_eq_true',decide_eq_false_iff_not,Bool.not_eq_eq_eq_not,Bool.not_true,Bool.not_false,beq_self_eq_true,reduceCtorEq,beq_iff_eq,low_length,row_length,fdiv_nat,fmod_nat,two_pow,one_shl,shr,shl,and_mask,clip_nat,Int.one_mul]
  rw [show (1 : Int) + (d3 : Int) = ((1 + d3 : Nat) : Int) by (clear hσ4 hd3 hl1 hl hσ3 hd2 ha1 ha hb hσ2 ha2 hb2 hb1 hB hw9 hw1 hw2 hw hσ1 hd1 tk hrow hQ hσ; omega)]
  refine WSs.set ?_
  try simp only [orAnd,andAnd,Za,Zb,Zc,Zd,Ze,Zf,Zg,Zh,Zi,Zj,Zk,Zl,Zm,Zn,Zo,Zp,Zq,Zr,Zs,Zt,Zu,Zv,Zw,Zx,Zy,Zz,ZA,ZB,ZC,ZD,ZE,ZF,ZG,ZH,ZI,ZJ,ZK,ZL,ZM,ZN,ZO,ZP,ZQ,ZR,ZS,ZT,ZU,ZV,ZW,ZX,ZY,ZZ,Ya,Yb,Yc,Yd,Ye,Yf,Yg,Yh,Yi,Yj,Yk,Yl,Ym,Yn,Yo,Yp,Yq,Yr,Ys,Yt,Yu,Yv,Yw,Yx,Yy,Yz,YA,YB,YC,YD,YE,YF,YG,YH,YI,row₀,List.getElem?_cons_zero,List.getElem?_cons_succ,List.set_cons_zero,List.set_cons_succ,List.map_cons,List.map_nil,List.length_cons,List.length_nil,List.replicate,List.cons_append,List.nil_append,Nat.reduceAdd,Nat.reduceSub,List.mem_cons,List.not_mem_nil,or_false,forall_eq_or_imp,forall_eq,implies_true,true_and,and_true,if_true,if_false,Bool.false_eq_true,decide_eq_true_eq,Bool.not_eq_true',decide_eq_false_iff_not,Bool.not_eq_eq_eq_not,Bool.not_true,Bool.not_false,beq_self_eq_true,reduceCtorEq,beq_iff_eq,low_length,row_length,fdiv_nat,fmod_nat,two_pow,one_shl,shr,shl,and_mask,clip_nat,Int.one_mul]
  refine ⟨by (clear hσ4 hd3 hl1 hl hσ3 hd2 ha1 ha hb hσ2 ha2 hb2 hb1 hB hw9 hw1 hw2 hw hσ1 hd1 tk hrow hQ hσ; omega), ?_⟩
  refine m_take (k := k + 25) (m := 4) (by decide) (tk 4 (by decide) (by decide)).2 hσ4 fun d4 σ5 hd4 hσ5 => ?_
  try simp only [orAnd,andAnd,Za,Zb,Zc,Zd,Ze,Zf,Zg,Zh,Zi,Zj,Zk,Zl,Zm,Zn,Zo,Zp,Zq,Zr,Zs,Zt,Zu,Zv,Zw,Zx,Zy,Zz,ZA,ZB,ZC,ZD,ZE,ZF,ZG,ZH,ZI,ZJ,ZK,ZL,ZM,ZN,ZO,ZP,ZQ,ZR,ZS,ZT,ZU,ZV,ZW,ZX,ZY,ZZ,Ya,Yb,Yc,Yd,Ye,Yf,Yg,Yh,Yi,Yj,Yk,Yl,Ym,Yn,Yo,Yp,Yq,Yr,Ys,Yt,Yu,Yv,Yw,Yx,Yy,Yz,YA,YB,YC,YD,YE,YF,YG,YH,YI,row₀,List.getElem?_cons_zero,List.getElem?_cons_succ,List.set_cons_zero,List.set_cons_succ,List.map_cons,List.map_nil,List.length_cons,List.length_nil,List.replicate,List.cons_append,List.nil_append,Nat.reduceAdd,Nat.reduceSub,List.mem_cons,List.not_mem_nil,or_false,forall_eq_or_imp,forall_eq,implies_true,true_and,and_true,if_true,if_false,Bool.false_eq_true,decide_eq_true_eq,Bool.not_eq_true',decide_eq_false_iff_not,Bool.not_eq_eq_eq_not,Bool.not_true,Bool.not_false,beq_self_eq_true,reduceCtorEq,beq_iff_eq,low_length,row_length,fdiv_nat,fmod_nat,two_pow,one_shl,shr,shl,and_mask,clip_nat,Int.one_mul]
  refine WSs.ite ?_
  try simp only [orAnd,andAnd,Za,Zb,Zc,Zd,Ze,Zf,Zg,Zh,Zi,Zj,Zk,Zl,Zm,Zn,Zo,Zp,Zq,Zr,Zs,Zt,Zu,Zv,Zw,Zx,Zy,Zz,ZA,ZB,ZC,ZD,ZE,ZF,ZG,ZH,ZI,ZJ,ZK,ZL,ZM,ZN,ZO,ZP,ZQ,ZR,ZS,ZT,ZU,ZV,ZW,ZX,ZY,ZZ,Ya,Yb,Yc,Yd,Ye,Yf,Yg,Yh,Yi,Yj,Yk,Yl,Ym,Yn,Yo,Yp,Yq,Yr,Ys,Yt,Yu,Yv,Yw,Yx,Yy,Yz,YA,YB,YC,YD,YE,YF,YG,YH,YI,row₀,List.getElem?_cons_zero,List.getElem?_cons_succ,List.set_cons_zero,List.set_cons_succ,List.map_cons,List.map_nil,List.length_cons,List.length_nil,List.replicate,List.cons_append,List.nil_append,Nat.reduceAdd,Nat.reduceSub,List.mem_cons,List.not_mem_nil,or_false,forall_eq_or_imp,forall_eq,implies_true,true_and,and_true,if_true,if_false,Bool.false_eq_true,decide_eq_true_eq,Bool.not_eq_true',decide_eq_false_iff_not,Bool.not_eq_eq_eq_not,Bool.not_true,Bool.not_false,beq_self_eq_true,reduceCtorEq,beq_iff_eq,low_length,row_length,fdiv_nat,fmod_nat,two_pow,one_shl,shr,shl,and_mask,clip_nat,Int.one_mul]
  rw [fdiv_two, show ((b / 2 : Nat) : Int) * (2 * ((a / b : Nat) : Int) + 1) = ((b / 2 * (2 * (a / b) + 1) : Nat) : Int) by push_cast; rfl]
  refine ⟨by decide, ⟨64, by decide, by decide⟩, by (clear hσ5 hd4 hσ4 hd3 hl1 hl hσ3 hd2 ha1 ha hb hσ2 ha2 hB hw9 hw1 hw2 hw hσ1 hd1 tk hrow hQ hσ; omega), b8, .inl (by decide), .inl (by rw [Int.natAbs_natCast]; (clear hσ5 hd4 hσ4 hd3 hl1 hl hσ3 hd2 ha1 ha hb hσ2 ha2 hB hw9 hw1 hw2 hw hσ1 hd1 tk hrow hQ hσ; omega)), [(a : Int), ((b / 2 * (2 * (a / b) + 1) : Nat) : Int)], rfl, by simp, ?_⟩
  have hpick : Sm (b / 2 * (2 * (a / b) + 1)) := by
    have h1 : b / 2 * (2 * (a / b) + 1) ≤ b * (a / b) + b := by
      have h2 : b / 2 * 2 ≤ b := Nat.div_mul_le_self ..
      have h3 : b / 2 * (2 * (a / b) + 1) = b / 2 * 2 * (a / b) + b / 2 := by grind
      have h4 := Nat.mul_le_mul_right (a / b) h2
      (clear hσ5 hd4 hσ4 hd3 hl1 hl hσ3 hd2 ha1 ha hb hσ2 ha2 hB hw9 hw1 hw2 hw hσ1 hd1 tk hrow hQ hσ; omega)
    have h5 : b * (a / b) ≤ a := Nat.mul_div_le ..
    unfold Sm
    (clear hσ5 hd4 hσ4 hd3 hl1 hl hσ3 hd2 ha1 ha hb hσ2 hB hw9 hw1 hw2 hw hσ1 hd1 tk hrow hQ hσ; omega)
  refine m_take (k := k + 25) (m := 2) (by decide) (tk 2 (by decide) (by decide)).2 hσ5 fun d5 σ6 hd5 hσ6 => ?_
  refine WSub_list2 hd5 fun z hz => ?_
  obtain ⟨u, rfl, hu⟩ : ∃ u : Nat, z = u ∧ Sm u := by
    rcases hz with rfl | rfl
    · exact ⟨a, rfl, ha⟩
    · exact ⟨_, rfl, hpick⟩
  refine m_law_all_right (k := k + 1) hrow hw2 hw9 hu hb hb1 hl1 ?_
  try simp only [orAnd,andAnd,Za,Zb,Zc,Zd,Ze,Zf,Zg,Zh,Zi,Zj,Zk,Zl,Zm,Zn,Zo,Zp,Zq,Zr,Zs,Zt,Zu,Zv,Zw,Zx,Zy,Zz,ZA,ZB,ZC,ZD,ZE,ZF,ZG,ZH,ZI,ZJ,ZK,ZL,ZM,ZN,ZO,ZP,ZQ,ZR,ZS,ZT,ZU,ZV,ZW,ZX,ZY,ZZ,Ya,Yb,Yc,Yd,Ye,Yf,Yg,Yh,Yi,Yj,Yk,Yl,Ym,Yn,Yo,Yp,Yq,Yr,Ys,Yt,Yu,Yv,Yw,Yx,Yy,Yz,YA,YB,YC,YD,YE,YF,YG,YH,YI,row₀,List.getElem?_cons_zero,List.getElem?_cons_succ,List.set_cons_zero,List.set_cons_succ,List.map_cons,List.map_nil,List.length_cons,List.length_nil,List.replicate,List.cons_append,List.nil_append,Nat.reduceAdd,Nat.reduceSub,List.mem_cons,List.not_mem_nil,or_false,forall_eq_or_imp,forall_eq,implies_true,true_and,and_true,if_true,if_false,Bool.false_eq_true,decide_eq_true_eq,Bool.not_eq_true',decide_eq_false_iff_not,Bool.not_eq_eq_eq_not,Bool.not_true,Bool.not_false,beq_self_eq_true,reduceCtorEq,beq_iff_eq,low_length,row_length,fdiv_nat,fmod_nat,two_pow,one_shl,shr,shl,and_mask,clip_nat,Int.one_mul]
  exact WSs.nil (WSs.nil (hQ w a b l (1 + d3) _ _))
end
end
section
open PySem PySem.Spec PySem.Calls PySem.W PyProof.Rows

/-- a lambda's data, without arguments -/
noncomputable def lamFd (qual : Str) (lb : Expr) (ls : Scope) (cl : List (Str × Addr)) (ct cd pm : Value) : FuncData :=
  { name := "<lambda>", qualname := qual, params := ⟨[], [], none, [], [], none, []⟩, body := .expr lb, scope := ls, globals := mainGlobals, closure := cl, closureTuple := ct, code := cd, builtins := builtinsNs, defaults := .none, kwdefaults := .none, annotations := none, pyModule := pm, doc := .none }

section
variable {M : Model} {A : Around} {E : Value → Shared → Prop} {s : Shared}

theorem lam_make {env : Env} {lb : Expr} {ls : Scope} {pos : Pos} {c P : Addr} {mg : Str → Option Value} {cl : List (Str × Addr)} {Q : Value → Shared → Prop} (hne : cl.isEmpty = false) (hcl : closureFor ls env = pure cl) (hge : env.globals = mainGlobals)
    (hg : s.heap.Ns mainGlobals mg) (hcode : env.code = .ref c) (hC : s.heap.IsCode c P #[]) (hT : s.heap.TableAt c P #[]) (hgP : mainGlobals ≠ P) (hb : s.heap.BuiltinsAt mg P)
    (h : ∀ c' ct h' tk, Heap.ExtBut P s.heap h' → h'.CodeRec (.ref c') (env.qual ++ "<lambda>") → h'.IsCode c P (#[] ++ #[rawInt pos.line, rawInt pos.col, .ref c']) → h'.TableAt c P (#[] ++ #[rawInt pos.line, rawInt pos.col, .ref c']) → s.heap.objs.size ≤ h'.objs.size →
      Q (.ref h'.objs.size) { s with heap := h'.push { cls := .type "function", data := .func (lamFd (env.qual ++ "<lambda>") lb ls cl ct (.ref c') ((mg "__name__").getD .none)) }, toks := tk }) :
    wpAny M A (eval (.Lambda ⟨[], [], none, [], [], none, []⟩ lb ls pos) env) Q E s := by
  rw [arm_eval_Lambda]
  show wpAny M A (do let dv ← evalAll []; let kdv ← holding dv (evalAllOpt []); makeFunction "<lambda>" (env.qual ++ "<lambda>") ⟨[], [], none, [], [], none, []⟩ (.expr lb) ls env dv kdv [] pos pos.line) Q E s
  refine wpAny_bind (wpAny_pure (wpAny_bind (wpAny_holding (wpAny_pure ?_))))
  rw [makeFunction_eq]
  simp only [List.zip_nil_right, List.filterMap_nil, List.isEmpty_nil, if_true, pure_bind]
  obtain ⟨bm, ob, hbm, hne0, _, hneP, hbo, hcls, hdict, hdata⟩ := hb
  unfold makeTail
  rw [hcl, hge]
  refine wpAny_bind (wpAny_pure ?_)
  simp only [hne, Bool.false_eq_true, if_false]
  refine wpAny_bind (wpAny_newTextTuple ?_)
  refine wpAny_bind (wpAny_functionCodeX hcode (hC.push _) (hT.push _) (by rfl) fun c' h' tk hx hsz hlt hic hrec htb _ => ?_)
  have hx' : Heap.ExtBut P s.heap h' := fun b o hb' e => hx b o hb' (Heap.get?_push_of_some _ e)
  have hg' := hg.extBut hx' hgP
  refine wpAny_bind (wpAny_builtinsFor hg' hbm hne0 (hx' _ _ hneP hbo) hcls hdict hdata (wpAny_bind (wpAny_nsGet hg' (wpAny_bind (wpAny_pure (wpAny_newObj_type ?_ (by size_fits)))))))
  refine h c' _ h' tk hx' hrec hic htb ?_
  rw [Heap.size_push] at hsz
  omega
end

section
variable {prog : Program} {w : World} {A : Around} {R : Result → Shared → Prop} {s : Shared}

/-- a lambda's body that raises -/
theorem lam_body {e : Expr} {env : Env}
    (h : wpAny (model prog w) (A.deeper env) (eval e env) (fun _ _ => False) (fun x s' => wpAny (model prog w) (A.deeper env) (leaving env x) (fun _ s'' => R (.error x) s'') (fun y s'' => R (.error y) s'') s') s) :
    codeAny (model prog w) A (.expr e env) R s := by
  refine codeAny_of_tree ?_
  show wpAny _ (A.deeper env) (do point; ret (← (eval e env).onRaise (leaving env))) _ _ s
  exact wpAny_bind (wpAny_point (wpAny_bind (wpAny_onRaise (wpAny_mono h (fun _ _ f => f.elim) fun _ _ q => q))))

theorem lam_call {a : Addr} {o : Obj} {qual : Str} {lb : Expr} {ls : Scope} {cl : List (Str × Addr)} {ct cd pm : Value} (hroom : A.depth < recursionLimit) (ho : s.heap.get? a = some o) (hd : o.data = .func (lamFd qual lb ls cl ct cd pm))
    (hcd : s.heap.CodeRec cd qual) (hnl : s.heap.NoLimit) (hco : ls.isCoroutine = false) (hgen : ls.isGenerator = false) (hk : ls.kind = .function) (hcell : ∀ x ∈ ls.names, x.2 ≠ .cell)
    (h : ∀ h₁, h₁.Ns s.heap.objs.size (fun _ => none) → (∀ b o, s.heap.get? b = some o → h₁.get? b = some o) →
      wpAny (model prog w) (A.deeper (callEnv (lamFd qual lb ls cl ct cd pm) s.heap.objs.size a)) (eval lb (callEnv (lamFd qual lb ls cl ct cd pm) s.heap.objs.size a)) (fun _ _ => False)
        (fun x s' => wpAny (model prog w) (A.deeper (callEnv (lamFd qual lb ls cl ct cd pm) s.heap.objs.size a)) (leaving (callEnv (lamFd qual lb ls cl ct cd pm) s.heap.objs.size a) x) (fun _ s'' => R (.error x) s'') (fun y s'' => R (.error y) s'') s') { s with heap := h₁ }) :
    codeAny (model prog w) A (.call (.ref a) ⟨[], []⟩) R s := by
  refine codeAny_of_tree ?_
  show wpAny _ A.in1 (callAny (.ref a) ⟨[], []⟩) _ _ s
  simp only [callAny]
  refine wpAny_bind (wpAny_load ho ?_)
  obtain ⟨c, oc, vs, tq, hc, hoc, hdc, hq⟩ := hcd
  subst hc
  simp only [hd, callFunction, lamFd, hco, hgen]
  refine wpAny_bind (m := field (.ref c) 1) (wpAny_field hoc hdc hq (wpAny_bind (wpAny_pure ?_)))
  have hb : bindArgs (lamFd qual lb ls cl ct (.ref c) pm) ⟨[], []⟩ = pure [] := by rfl
  refine wpAny_bind (m := bindArgs (lamFd qual lb ls cl ct (.ref c) pm) ⟨[], []⟩) ?_
  rw [hb]
  refine wpAny_pure (wpAny_bind (wpAny_newFunctionEnv hcell (fun _ h => nomatch h) (fun h₁ hns hsb => ?_) hk))
  refine wpAny_bind (wpAny_enterFrame (hnl.fresh _ hsb) hroom (wpAny_pure ⟨rfl, lam_body ?_⟩))
  exact h h₁ hns fun b o e => hsb.extBut b o (Nat.ne_of_lt (Heap.lt_size e)) (Heap.get?_push_of_some _ e)
end
end
section
open PySem PySem.Spec PySem.Calls PySem.W PyProof.Rows

/-! the law's last word: nought is refused -/

noncomputable def glb (sc : Scope) (x : Str) : Bool := sc.names.lookup x == some .globalImplicit
noncomputable def lcl (sc : Scope) (x : Str) : Bool := sc.names.lookup x == some .local
noncomputable def cll (sc : Scope) (x : Str) : Bool := sc.names.lookup x == some .cell
noncomputable def plainD (d : DefRec) (ps : List Str) : Bool :=
  d.params.posonlyargs.isEmpty && d.params.vararg.isNone && d.params.kwonlyargs.isEmpty && d.params.kw_defaults.isEmpty && d.params.kwarg.isNone && d.params.defaults.isEmpty && d.params.args.map (·.arg) == ps &&
  d.scope.kind == .function && !d.scope.isCoroutine && !d.scope.isGenerator && decide ps.Nodup && d.scope.names.all (fun x => x.2 != .cell) && ps.all (lcl d.scope)
noncomputable def nmLam : List (Str × NameKind) := [(("here" : Str), NameKind.free), (("least" : Str), .free), (("w" : Str), .free), (("divrem_halves" : Str), .globalImplicit), (("_law_times" : Str), .globalImplicit), (("_law_parts" : Str), .globalImplicit)]
noncomputable def nmIs (e : Expr) (s : Str) : Bool := onName e fun x _ => x == s
theorem nmIs_ {e : Expr} {s : Str} (h : nmIs e s = true) : ∃ p, e = .Name s p := by
  obtain ⟨x, p, rfl, j1⟩ := onName_ h
  clear h
  obtain rfl := eq_of_beq j1
  exact ⟨p, rfl⟩
/-- the lambda -/
noncomputable def okLam (ls : Scope) (lb : Expr) : Bool := onCall lb fun f as _ => onCons as fun a1 r => onCons r fun a2 r => onCons r fun a3 r => onCons r fun a4 r => onTwo r fun a5 a6 =>
  nmIs f "divrem_halves" && (nmIs a1 "here" && (okNil a2 && (nmIs a3 "w" && (nmIs a4 "least" && (nmIs a5 "_law_times" && (nmIs a6 "_law_parts" && (ls.kind == .function && (!ls.isCoroutine && (!ls.isGenerator && decide (ls.names = nmLam))))))))))
theorem okLam_ {ls : Scope} {lb : Expr} (h : okLam ls lb = true) : (∃ p0 p1 p2 p3 p4 p5 p6 p, lb = .Call (.Name "divrem_halves" p0) [.Name "here" p1, .List [] p2, .Name "w" p3, .Name "least" p4, .Name "_law_times" p5, .Name "_law_parts" p6] [] p) ∧
    ls.kind = .function ∧ ls.isCoroutine = false ∧ ls.isGenerator = false ∧ ls.names = nmLam := by
  obtain ⟨_, _, p, rfl, j1⟩ := onCall_ h
  clear h
  obtain ⟨_, _, rfl, j2⟩ := onCons_ j1
  clear j1
  obtain ⟨_, _, rfl, j3⟩ := onCons_ j2
  clear j2
  obtain ⟨_, _, rfl, j4⟩ := onCons_ j3
  clear j3
  obtain ⟨_, _, rfl, j5⟩ := onCons_ j4
  clear j4
  obtain ⟨_, _, rfl, j6⟩ := onTwo_ j5
  clear j5
  obtain ⟨h0, j7⟩ := and_ j6
  clear j6
  obtain ⟨h1, j8⟩ := and_ j7
  clear j7
  obtain ⟨h2, j9⟩ := and_ j8
  clear j8
  obtain ⟨h3, j10⟩ := and_ j9
  clear j9
  obtain ⟨h4, j11⟩ := and_ j10
  clear j10
  obtain ⟨h5, j12⟩ := and_ j11
  clear j11
  obtain ⟨h6, j13⟩ := and_ j12
  clear j12
  obtain ⟨k1, j14⟩ := and_ j13
  clear j13
  obtain ⟨k2, j15⟩ := and_ j14
  clear j14
  obtain ⟨k3, k4⟩ := and_ j15
  clear j15
  obtain ⟨p0, rfl⟩ := nmIs_ h0
  obtain ⟨p1, rfl⟩ := nmIs_ h1
  obtain ⟨p2, rfl⟩ := okNil_ h2
  obtain ⟨p3, rfl⟩ := nmIs_ h3
  obtain ⟨p4, rfl⟩ := nmIs_ h4
  obtain ⟨p5, rfl⟩ := nmIs_ h5
  obtain ⟨p6, rfl⟩ := nmIs_ h6
  exact ⟨⟨p0, p1, p2, p3, p4, p5, p6, p, rfl⟩, eq_of_beq k1, (Bool.not_eq_true' _).mp k2, (Bool.not_eq_true' _).mp k3, of_decide_eq_true k4⟩
noncomputable def noArgs (v : Arguments) : Bool := v.posonlyargs.isEmpty && (v.args.isEmpty && (v.vararg.isNone && (v.kwonlyargs.isEmpty && (v.kw_defaults.isEmpty && (v.kwarg.isNone && v.defaults.isEmpty)))))
theorem noArgs_ {v : Arguments} (h : noArgs v = true) : v = ⟨[], [], none, [], [], none, []⟩ := by
  obtain ⟨v1, v2, v3, v4, v5, v6, v7⟩ := v
  obtain ⟨h1, j1⟩ := and_ h
  clear h
  obtain ⟨h2, j2⟩ := and_ j1
  clear j1
  obtain ⟨h3, j3⟩ := and_ j2
  clear j2
  obtain ⟨h4, j4⟩ := and_ j3
  clear j3
  obtain ⟨h5, j5⟩ := and_ j4
  clear j4
  obtain ⟨h6, h7⟩ := and_ j5
  clear j5
  obtain rfl : v1 = [] := List.isEmpty_iff.mp h1
  obtain rfl : v2 = [] := List.isEmpty_iff.mp h2
  obtain rfl : v3 = none := Option.isNone_iff_eq_none.mp h3
  obtain rfl : v4 = [] := List.isEmpty_iff.mp h4
  obtain rfl : v5 = [] := List.isEmpty_iff.mp h5
  obtain rfl : v6 = none := Option.isNone_iff_eq_none.mp h6
  obtain rfl : v7 = [] := List.isEmpty_iff.mp h7
  rfl
/-- the law's last statement -/
noncomputable def okLast (sc : Scope) (x : Stmt) : Bool := onRet x fun c => onCall c fun f as _ => onOne as fun l => onLam l fun v lb ls _ => nmIs f "_law_refuses" && (noArgs v && (glb sc "_law_refuses" && (okLam ls lb && (cll sc "here" && (cll sc "w" && cll sc "least")))))
theorem okLast_ {sc : Scope} {x : Stmt} (h : okLast sc x = true) : ∃ fp lb ls lp cp rp, x = .Return (some (.Call (.Name "_law_refuses" fp) [.Lambda ⟨[], [], none, [], [], none, []⟩ lb ls lp] [] cp)) rp ∧
    glb sc "_law_refuses" = true ∧ okLam ls lb = true ∧ cll sc "here" = true ∧ cll sc "w" = true ∧ cll sc "least" = true := by
  obtain ⟨_, rp, rfl, j1⟩ := onRet_ h
  clear h
  obtain ⟨_, _, cp, rfl, j2⟩ := onCall_ j1
  clear j1
  obtain ⟨_, rfl, j3⟩ := onOne_ j2
  clear j2
  obtain ⟨_, lb, ls, lp, rfl, j4⟩ := onLam_ j3
  clear j3
  obtain ⟨h0, j5⟩ := and_ j4
  clear j4
  obtain ⟨h1, j6⟩ := and_ j5
  clear j5
  obtain ⟨h2, j7⟩ := and_ j6
  clear j6
  obtain ⟨h3, j8⟩ := and_ j7
  clear j7
  obtain ⟨h4, j9⟩ := and_ j8
  clear j8
  obtain ⟨h5, h6⟩ := and_ j9
  clear j9
  obtain ⟨fp, rfl⟩ := nmIs_ h0
  obtain rfl := noArgs_ h1
  exact ⟨fp, lb, ls, lp, cp, rp, rfl, h2, h3, h4, h5, h6⟩
/-- refused = b -/
noncomputable def okSet (x : Stmt) (b : Bool) : Bool := onAssign x fun t v => nmIs t "refused" && onBool v fun c => c == b
theorem okSet_ {x : Stmt} {b : Bool} (h : okSet x b = true) : ∃ p1 n p2 p3, x = .Assign [.Name "refused" p1] (.Constant (.bool b) n p2) p3 := by
  obtain ⟨_, _, p3, rfl, j1⟩ := onAssign_ h
  clear h
  obtain ⟨h0, j2⟩ := and_ j1
  clear j1
  obtain ⟨_, n, p2, rfl, j3⟩ := onBool_ j2
  clear j2
  obtain ⟨p1, rfl⟩ := nmIs_ h0
  obtain rfl := eq_of_beq j3
  exact ⟨p1, n, p2, p3, rfl⟩
/-- try: work() except DivisionByZero: refused = True -/
noncomputable def okHan (x : ExceptHandler) : Bool := onExc x fun t xb => onOne xb fun z => nmIs t "DivisionByZero" && okSet z true
theorem okHan_ {x : ExceptHandler} (h : okHan x = true) : ∃ p1 p2 n p3 p4 p5, x = .ExceptHandler (some (.Name "DivisionByZero" p1)) none [.Assign [.Name "refused" p2] (.Constant (.bool true) n p3) p4] p5 := by
  obtain ⟨_, _, p5, rfl, j1⟩ := onExc_ h
  clear h
  obtain ⟨_, rfl, j2⟩ := onOne_ j1
  clear j1
  obtain ⟨h0, h1⟩ := and_ j2
  clear j2
  obtain ⟨p1, rfl⟩ := nmIs_ h0
  clear h0
  obtain ⟨p2, n, p3, p4, rfl⟩ := okSet_ h1
  exact ⟨p1, p2, n, p3, p4, p5, rfl⟩
noncomputable def okWork (x : Stmt) : Bool := onExpr x fun c _ => onCall c fun f as _ => nmIs f "work" && as.isEmpty
theorem okWork_ {x : Stmt} (h : okWork x = true) : ∃ p1 p2 p3, x = .Expr (.Call (.Name "work" p1) [] [] p2) p3 := by
  obtain ⟨_, p3, rfl, j1⟩ := onExpr_ h
  clear h
  obtain ⟨_, _, p2, rfl, j2⟩ := onCall_ j1
  clear j1
  obtain ⟨h0, h1⟩ := and_ j2
  clear j2
  obtain rfl := List.isEmpty_iff.mp h1
  clear h1
  obtain ⟨p1, rfl⟩ := nmIs_ h0
  exact ⟨p1, p2, p3, rfl⟩
noncomputable def okTry (x : Stmt) : Bool := onTry x fun tb hs => onOne tb fun c => onOne hs fun x => okWork c && okHan x
theorem okTry_ {x : Stmt} (h : okTry x = true) : ∃ c x' p, x = .Try [c] [x'] [] [] p ∧ okWork c = true ∧ okHan x' = true := by
  obtain ⟨_, _, p, rfl, j1⟩ := onTry_ h
  clear h
  obtain ⟨c, rfl, j2⟩ := onOne_ j1
  clear j1
  obtain ⟨x, rfl, j3⟩ := onOne_ j2
  exact ⟨c, x, p, rfl, and_ j3⟩
noncomputable def okBack (x : Stmt) : Bool := onRet x fun r => nmIs r "refused"
theorem okBack_ {x : Stmt} (h : okBack x = true) : ∃ p1 p2, x = .Return (some (.Name "refused" p1)) p2 := by
  obtain ⟨_, p2, rfl, j1⟩ := onRet_ h
  clear h
  obtain ⟨p1, rfl⟩ := nmIs_ j1
  exact ⟨p1, p2, rfl⟩
/-- the body of _law_refuses -/
noncomputable def okRef (sc : Scope) (b : List Stmt) : Bool := onCons b fun s1 r => onTwo r fun s2 s3 => okSet s1 false && (okTry s2 && (okBack s3 && (lcl sc "refused" && (lcl sc "work" && glb sc "DivisionByZero"))))
theorem okRef_ {sc : Scope} {b : List Stmt} (h : okRef sc b = true) : ∃ s1 s2 s3, b = [s1, s2, s3] ∧ okSet s1 false = true ∧ okTry s2 = true ∧ okBack s3 = true ∧ lcl sc "refused" = true ∧ lcl sc "work" = true ∧ glb sc "DivisionByZero" = true := by
  obtain ⟨s1, _, rfl, j1⟩ := onCons_ h
  clear h
  obtain ⟨s2, s3, rfl, j2⟩ := onTwo_ j1
  clear j1
  obtain ⟨h0, j3⟩ := and_ j2
  clear j2
  obtain ⟨h1, j4⟩ := and_ j3
  clear j3
  obtain ⟨h2, j5⟩ := and_ j4
  clear j4
  obtain ⟨k1, j6⟩ := and_ j5
  exact ⟨s1, s2, s3, rfl, h0, h1, h2, k1, and_ j6⟩
/-- len(b) == 0 -/
noncomputable def okLen (e : Expr) : Bool := onCmp e fun l o z => onCall l fun f as _ => onOne as fun a => nmIs f "len" && (nmIs a "b" && (o == .Eq && onInt z fun z => z == 0))
theorem okLen_ {e : Expr} (h : okLen e = true) : ∃ lp yp cp zk zp p, e = .Compare (.Call (.Name "len" lp) [.Name "b" yp] [] cp) [.Eq] [.Constant (.int 0) zk zp] p := by
  obtain ⟨_, _, _, p, rfl, j1⟩ := onCmp_ h
  clear h
  obtain ⟨_, _, cp, rfl, j2⟩ := onCall_ j1
  clear j1
  obtain ⟨_, rfl, j3⟩ := onOne_ j2
  clear j2
  obtain ⟨h0, j4⟩ := and_ j3
  clear j3
  obtain ⟨h1, j5⟩ := and_ j4
  clear j4
  obtain ⟨h2, j6⟩ := and_ j5
  clear j5
  obtain ⟨_, zk, zp, rfl, h3⟩ := onInt_ j6
  clear j6
  obtain rfl := eq_of_beq h3
  clear h3
  obtain rfl := eq_of_beq h2
  clear h2
  obtain ⟨lp, rfl⟩ := nmIs_ h0
  clear h0
  obtain ⟨yp, rfl⟩ := nmIs_ h1
  exact ⟨lp, yp, cp, zk, zp, p, rfl⟩
/-- raise DivisionByZero("..") -/
noncomputable def okFly (s : Stmt) : Bool := onRaise s fun x => onCall x fun g bs _ => onOne bs fun m => nmIs g "DivisionByZero" && isStr m
theorem okFly_ {s : Stmt} (h : okFly s = true) : ∃ p1 str n p2 p3 p4, s = .Raise (some (.Call (.Name "DivisionByZero" p1) [.Constant (.str str) n p2] [] p3)) none p4 := by
  obtain ⟨_, p4, rfl, j1⟩ := onRaise_ h
  clear h
  obtain ⟨_, _, p3, rfl, j2⟩ := onCall_ j1
  clear j1
  obtain ⟨_, rfl, j3⟩ := onOne_ j2
  clear j2
  obtain ⟨h0, h1⟩ := and_ j3
  clear j3
  obtain ⟨p1, rfl⟩ := nmIs_ h0
  clear h0
  obtain ⟨str, n, p2, rfl⟩ := isStr_ h1
  exact ⟨p1, str, n, p2, p3, p4, rfl⟩
/-- the first statement of divrem_halves -/
noncomputable def okDiv (sc : Scope) (b : List Stmt) : Bool := onCons b fun s _ => onIfS s fun c t e _ => onOne t fun r => okLen c && (okFly r && (e.isEmpty && (glb sc "len" && (lcl sc "b" && glb sc "DivisionByZero"))))
theorem okDiv_ {sc : Scope} {b : List Stmt} (h : okDiv sc b = true) : ∃ c r ip rest, b = .If c [r] [] ip :: rest ∧ okLen c = true ∧ okFly r = true ∧ glb sc "len" = true ∧ lcl sc "b" = true ∧ glb sc "DivisionByZero" = true := by
  obtain ⟨_, rest, rfl, j1⟩ := onCons_ h
  clear h
  obtain ⟨c, _, _, ip, rfl, j2⟩ := onIfS_ j1
  clear j1
  obtain ⟨r, rfl, j3⟩ := onOne_ j2
  clear j2
  obtain ⟨h0, j4⟩ := and_ j3
  clear j3
  obtain ⟨h1, j5⟩ := and_ j4
  clear j4
  obtain ⟨h2, j6⟩ := and_ j5
  clear j5
  obtain ⟨k1, j7⟩ := and_ j6
  clear j6
  obtain rfl := List.isEmpty_iff.mp h2
  exact ⟨c, r, ip, rest, rfl, h0, h1, k1, and_ j7⟩
theorem plainD_kind {d : DefRec} {ps : List Str} (hp : plainD d ps = true) : d.scope.kind = .function := eq_of_beq (and_ (and_ (and_ (and_ (and_ (and_ hp).1).1).1).1).1).2
noncomputable def theRec (x : Str) (p : DefRec → Bool) : Bool := match (recsOf PySem.Challenge.pw_nn0028_01).find? (·.name == x) with
  | some d => p d
  | none => false
theorem c_ref : theRec "_law_refuses" (fun d => plainD d ["work"] && okRef d.scope d.body) = true := by decide +kernel
theorem c_div : theRec "divrem_halves" (fun d => plainD d ["a", "b", "w", "least", "mul", "base"] && okDiv d.scope d.body) = true := by decide +kernel

theorem theRec_ {x : Str} {p : DefRec → Bool} (h : theRec x p = true) : ∃ d ∈ recsOf PySem.Challenge.pw_nn0028_01, d.name = x ∧ p d = true := by
  unfold theRec at h
  split at h
  · rename_i d hf
    exact ⟨d, List.mem_of_find?_eq_some hf, by have := List.find?_some hf; simpa using this, h⟩
  · cases h

/-- what the top left, at a heap -/
structure Gr (mg mb : Str → Option Value) (h : Heap) : Prop where
  g : h.Ns mainGlobals mg
  b : h.Ns builtinsNs mb
  nolimit : h.NoLimit
  fn : ∀ d ∈ recsOf PySem.Challenge.pw_nn0028_01, ∃ a o pm code doc, mg d.name = some (.ref a) ∧ h.get? a = some o ∧ o.data = .func (docDef d.name d.params d.body d.scope pm code doc) ∧ h.CodeRec code d.name
  own : ∃ C, OwnClsQ "DivisionByZero" C [.type "Exception", .type "BaseException", .type "object"] "Exception.__new__" mg h
  len : mg "len" = none ∧ mb "len" = some (.builtin "len")

section
variable {prog : Program} {w : World} {mg mb : Str → Option Value}

theorem plain_call {base : Heap} (G : Gr mg mb base) {d : DefRec} (hd : d ∈ recsOf PySem.Challenge.pw_nn0028_01) {ps : List Str} (hp : plainD d ps = true) :
    ∃ fa o fd, mg d.name = some (.ref fa) ∧ base.get? fa = some o ∧ o.data = .func fd ∧ ∃ cd, ∀ {A : Around} {R : Result → Shared → Prop} {s : Shared} {args : List Value}, base.StaysIn s.heap → args.length = ps.length → A.depth < recursionLimit →
      (∀ h₁, Fr s.heap s.heap.objs.size h₁ (fun y => (ps.zip args).reverse.lookup y) →
        wpAny (model prog w) (A.deeper (envOf d.name d.scope s.heap.objs.size fa cd)) (execs d.body (envOf d.name d.scope s.heap.objs.size fa cd))
          (fun f s' => R (.ok (.ret (match f with | .ret v => v | _ => .none))) s')
          (fun e s' => wpAny (model prog w) (A.deeper (envOf d.name d.scope s.heap.objs.size fa cd)) (leaving (envOf d.name d.scope s.heap.objs.size fa cd) e) (fun _ s'' => R (.error e) s'') (fun e' s'' => R (.error e') s'') s')
          { s with heap := h₁, toks := s.toks + (ps.zip args).length }) →
      codeAny (model prog w) A (.call (.ref fa) ⟨args, []⟩) R s := by
  obtain ⟨fa, o, pm, cd, doc, h1, h2, h3, h4⟩ := G.fn d hd
  refine ⟨fa, o, _, h1, h2, h3, cd, fun {A R s args} hst hl hroom h => ?_⟩
  obtain ⟨c1, hloc⟩ := and_ hp
  obtain ⟨c2, hcell⟩ := and_ c1
  obtain ⟨c3, hnd⟩ := and_ c2
  obtain ⟨c4, hge⟩ := and_ c3
  obtain ⟨c5, hco⟩ := and_ c4
  obtain ⟨c6, hk⟩ := and_ c5
  obtain ⟨c7, hps⟩ := and_ c6
  clear c1 c2 c3 c4 c5 c6
  have hpar := plainP c7
  clear c7
  obtain rfl := eq_of_beq hps
  clear hps
  replace hnd := of_decide_eq_true hnd
  replace hge := (Bool.not_eq_true' _).mp hge
  replace hco := (Bool.not_eq_true' _).mp hco
  replace hk := eq_of_beq hk
  have h3' := h3
  rw [hpar] at h3'
  refine call_plain hroom (hst _ _ h2) h3' (G.nolimit.keeps hst) (h4.keeps hst) (bindArgs_plain hnd hl.symm) (fun x hx => ?_) h hco hge hk (fun x hx => ?_)
  · have := List.all_eq_true.mp hloc x.1 (List.of_mem_zip hx).1
    simpa [lcl] using this
  · have := List.all_eq_true.mp hcell x hx
    simpa using this

theorem frames_in {base g h : Heap} {L : Addr} {m : Str → Option Value} {env : Env} {outer : List Env} (F : Fr g L h m) (hL : L = g.objs.size) (hst : base.StaysIn g) (hf : g.FunFrames base outer) (he : env.frame = some L) (hk : env.scope.kind = .function) :
    h.FunFrames base (env :: outer) := by
  refine ⟨by rw [hk]; decide, ?_, hf.of_keeps fun b o e _ => ⟨o, F.keep b o e, rfl⟩⟩
  obtain ⟨o, es, ep, ho, hd, _⟩ := F.ns
  refine ⟨L, o, he, ?_, ho, fun vs q => by rw [hd] at q; cases q⟩
  cases q : base.get? L with
  | none => rfl
  | some o' => exact absurd (Heap.lt_size (hst _ _ q)) (by rw [hL]; exact Nat.lt_irrefl _)
end
end
section
open PySem PySem.Spec PySem.Calls PySem.W PyProof.Rows

/-- what flies up out of a call -/
noncomputable def Flies (mg : Str → Option Value) (base : Heap) (l : List Env) (s : Shared) (x : Value) (s' : Shared) : Prop :=
  ∃ e C a0, x = .ref e ∧ mg "DivisionByZero" = some (.ref C) ∧ Heap.FlyingW base l e (.ref C) a0 s'.heap ∧ s.heap.UpToSlots s'.heap ∧ s'.gens = s.gens ∧ s'.os = s.os

section
variable {prog : Program} {w : World} {mg mb : Str → Option Value}

theorem div_raises {base : Heap} (G : Gr mg mb base) : ∃ fa o fd, mg "divrem_halves" = some (.ref fa) ∧ base.get? fa = some o ∧ o.data = .func fd ∧
    ∀ {A : Around} {outer : List Env} {s : Shared} {v1 v3 v4 v5 v6 : Value} {l0 : Addr}, A.frames = some outer → A.handled = none → A.depth < recursionLimit → base.StaysIn s.heap → s.heap.FunFrames base outer → s.heap.IsList l0 #[] →
      wpAny (model prog w) A (PySem.call (.ref fa) [v1, .ref l0, v3, v4, v5, v6]) (fun _ _ => False) (Flies mg base outer s) s := by
  obtain ⟨d, hd, hn, hc⟩ := theRec_ c_div
  obtain ⟨hp, hok⟩ := Bool.and_eq_true_iff.mp hc
  obtain ⟨fa, o, fd, h1, h2, h3, cd, hcall⟩ := plain_call (prog := prog) (w := w) G hd hp
  refine ⟨fa, o, fd, hn ▸ h1, h2, h3, fun {A outer s v1 v3 v4 v5 v6 l0} hA hh hroom hst hfr hl0 => ?_⟩
  refine wpAny_call (hcall hst rfl hroom fun h₁ F => ?_)
  have hk : d.scope.kind = .function := plainD_kind hp
  have hst₁ : base.StaysIn h₁ := fun b o e => F.keep b o (hst b o e)
  have hfr₁ := frames_in (env := envOf d.name d.scope s.heap.objs.size fa cd) F rfl hst hfr rfl hk
  have hA1 : (A.deeper (envOf d.name d.scope s.heap.objs.size fa cd)).frames = some (envOf d.name d.scope s.heap.objs.size fa cd :: outer) := Around.frames_deeper hA
  obtain ⟨C, O⟩ := G.own
  obtain ⟨_, _, ip, rest, hbody, h5, h6, k1, k2, k3⟩ := okDiv_ hok
  clear hok
  obtain ⟨lp, yp, cp, zk, zp, cpp, rfl⟩ := okLen_ h5
  clear h5
  obtain ⟨dzp, str, sk, sp, dp, rp, rfl⟩ := okFly_ h6
  clear h6
  replace k1 := eq_of_beq k1
  replace k2 := eq_of_beq k2
  replace k3 := eq_of_beq k3
  rw [hbody]
  refine wpAny_execs_cons (wpAny_If (wpAny_isTrue_Compare1 ?_ (by rfl)))
  refine Call_ (Calls.Name_function_global (env := envOf d.name d.scope s.heap.objs.size fa cd) hk k1 (Calls.loadGlobal_builtin (env := envOf d.name d.scope s.heap.objs.size fa cd) (G.g.keeps hst₁) G.len.1 (G.b.keeps hst₁) G.len.2 ?_) (by decide))
  have hs : starEach [.Name "b" yp] (envOf d.name d.scope s.heap.objs.size fa cd) = [.Name "b" yp].map fun e => (false, eval e (envOf d.name d.scope s.heap.objs.size fa cd)) := rfl
  rw [hs, backTo_plain]
  refine Calls.callWith_builtin (any_plain [.Name "b" yp] _) (Calls.evalArgs_plain (f := .builtin "len") (Q := fun x s1 => wpAny (model prog w) _ (PySem.call (.builtin "len") ([] ++ x.pos) x.kw) _ _ s1) ?_)
  refine Calls.spliced_cons (ld F (v := .ref l0) (by rfl) (Calls.spliced_nil ?_) hk k2)
  have hl1 : h₁.IsList l0 #[] := let ⟨o, ho, r⟩ := hl0; ⟨o, F.keep _ _ ho, r⟩
  refine PyProof.Rows.len_list hl1 (by decide) ?_
  refine wpAny_Constant_int (PyProof.Rows.eq_int (wpAny_truthy_bool ?_))
  rw [if_pos (by decide)]
  refine wpAny_execs_cons (Raise_own (x := "DivisionByZero") F (G.g.keeps hst) (O.own.keeps hst) PySem.F.excBase_Exception hh (spliced_more (wpAny_Constant_str (spliced_none ⟨by rw [sizeLine_n]; simp only [List.length_cons, List.length_nil]; omega, F.keep, fun h' e hx => ?_⟩))) rfl rfl hk k3)
  refine wpAny_leaves_madeW hA1 rfl hst₁ hfr₁ hx fun h'' t f1 f2 f3 f4 => ?_
  exact ⟨e, C, _, rfl, O.bound, f1, ((Heap.UpToSlots.of_keeps F.keep).trans (Heap.UpToSlots.of_keeps hx.keeps)).trans f4, rfl, rfl⟩
end
end
section
open PySem PySem.Spec PySem.Calls PySem.W PyProof.Rows

section
variable {prog : Program} {w : World} {mg mb : Str → Option Value}

theorem Gr.fnAt {base : Heap} (G : Gr mg mb base) {x : Str} (h : isFn x = true) : ∃ a, mg x = some (.ref a) := by
  unfold isFn at h
  obtain ⟨d, hd, hx⟩ := List.any_eq_true.mp h
  obtain ⟨a, o, pm, code, doc, h1, _⟩ := G.fn d hd
  rw [beq_iff_eq] at hx
  subst hx
  exact ⟨a, h1⟩

theorem lam_raises {base : Heap} (G : Gr mg mb base) {A : Around} {outer : List Env} {s : Shared} {f : Addr} {o : Obj} {qual : Str} {lb : Expr} {ls : Scope} {cl : List (Str × Addr)} {ct cd pm : Value} {c1 c2 c3 : Addr} {v1 v2 v3 : Value}
    (hA : A.frames = some outer) (hh : A.handled = none) (hroom : A.depth + 1 < recursionLimit) (hst : base.StaysIn s.heap) (hfr : s.heap.FunFrames base outer) (ho : s.heap.get? f = some o) (hd : o.data = .func (lamFd qual lb ls cl ct cd pm))
    (hcd : s.heap.CodeRec cd qual) (hok : okLam ls lb = true) (e1 : cl.lookup ("here" : Str) = some c1) (e2 : cl.lookup ("w" : Str) = some c2) (e3 : cl.lookup ("least" : Str) = some c3)
    (i1 : s.heap.IsCell c1 (some v1)) (i2 : s.heap.IsCell c2 (some v2)) (i3 : s.heap.IsCell c3 (some v3)) :
    wpAny (model prog w) A (PySem.call (.ref f) []) (fun _ _ => False) (Flies mg base outer s) s := by
  obtain ⟨fa, ofa, fd, m1, m2, m3, hdiv⟩ := div_raises (prog := prog) (w := w) G
  obtain ⟨am, hm⟩ := G.fnAt isFn_times
  obtain ⟨ab, hb⟩ := G.fnAt isFn_parts
  obtain ⟨⟨dp, p1, lp, p3, p4, p5, p6, cp, rfl⟩, hk, hco, hgen, hnm⟩ := okLam_ hok
  clear hok
  refine wpAny_call (lam_call (by omega) ho hd hcd (G.nolimit.keeps hst) hco hgen hk (by rw [hnm]; decide) (fun h₁ hns hk1 => ?_))
  have F : Fr s.heap s.heap.objs.size h₁ (fun _ => none) := ⟨hns, hk1, Nat.le_refl _⟩
  have hst₁ : base.StaysIn h₁ := fun b o e => hk1 b o (hst b o e)
  generalize henv : callEnv _ s.heap.objs.size f = env
  have hks : env.scope = ls := by rw [← henv]; rfl
  have hfm : env.frame = some s.heap.objs.size := by rw [← henv]; rfl
  have hgl : env.globals = mainGlobals := by rw [← henv]; rfl
  have hcl : env.cells = cl := by rw [← henv]; rfl
  have hkk : env.scope.kind = .function := by rw [hks]; exact hk
  have hfr₁ : h₁.FunFrames base (env :: outer) := frames_in F rfl hst hfr hfm hkk
  have hA1 : (A.deeper env).frames = some (env :: outer) := Around.frames_deeper hA
  have kd : ∀ y z, List.lookup y nmLam = some z → env.kindOf y = some z := fun y z e => by
    show env.scope.names.lookup y = some z
    rw [hks, hnm]; exact e
  have gl : ∀ {x : Str} {v : Value} {p : Pos} {s1 : Shared} {E1 : Value → Shared → Prop} {Q1 : Value → Shared → Prop}, base.StaysIn s1.heap → List.lookup x nmLam = some .globalImplicit → (x == ("__debug__" : Str)) = false → mg x = some v → Q1 v s1 →
      wpAny (model prog w) (A.deeper env) (eval (.Name x p) env) Q1 E1 s1 := fun hs1 hx hdb hmx q =>
    Calls.Name_function_global (env := env) hkk (kd _ _ hx) (Calls.loadGlobal_global (env := env) (by rw [hgl]; exact G.g.keeps hs1) hmx q) hdb
  have fr : ∀ {x : Str} {c : Addr} {v : Value} {p : Pos} {s1 : Shared} {E1 : Value → Shared → Prop} {Q1 : Value → Shared → Prop}, List.lookup x nmLam = some .free → (x == ("__debug__" : Str)) = false → (x == ("__classdict__" : Str)) = false → cl.lookup x = some c → s1.heap.IsCell c (some v) → Q1 v s1 →
      wpAny (model prog w) (A.deeper env) (eval (.Name x p) env) Q1 E1 s1 := fun hx hdb hcd hc hi q =>
    wpAny_Name (wpAny_loadName_free hkk (kd _ _ hx) (by rw [hcl]; exact hc) hi q hcd) hdb
  have kc : ∀ {c : Addr} {v : Option Value} {h2 : Heap}, (∀ b o, s.heap.get? b = some o → h2.get? b = some o) → s.heap.IsCell c v → h2.IsCell c v := fun k ⟨o, ho, hd⟩ => ⟨o, k _ _ ho, hd⟩
  refine Call_ (gl hst₁ (by decide) (by decide) m1 ?_)
  have hs : starEach [.Name "here" p1, .List [] lp, .Name "w" p3, .Name "least" p4, .Name "_law_times" p5, .Name "_law_parts" p6] env = [.Name "here" p1, .List [] lp, .Name "w" p3, .Name "least" p4, .Name "_law_times" p5, .Name "_law_parts" p6].map fun e => (false, eval e env) := rfl
  rw [hs, backTo_plain]
  refine Calls.callWith_function (o := ofa) (fd := fd) (Calls.evalArgs_plain (Calls.spliced_cons (fr (by decide) (by decide) (by decide) e1 (kc hk1 i1) (Calls.spliced_cons ?_))))
  rw [arm_eval_List]
  refine wpAny_bind (wpAny_standAt (wpAny_bind (Calls.spliced_nil (wpAny_newList ?_ (Nat.zero_le _)))))
  have hk2 : ∀ b o, h₁.get? b = some o → (h₁.push { cls := .type "list", data := .seq ([] : List Value).toArray }).get? b = some o := fun b o e => Heap.get?_push_of_some _ e
  have hst₂ : base.StaysIn (h₁.push { cls := .type "list", data := .seq ([] : List Value).toArray }) := fun b o e => hk2 b o (hst₁ b o e)
  refine Calls.spliced_cons (fr (by decide) (by decide) (by decide) e2 (kc (fun b o e => hk2 b o (hk1 b o e)) i2) (Calls.spliced_cons (fr (by decide) (by decide) (by decide) e3 (kc (fun b o e => hk2 b o (hk1 b o e)) i3) ?_)))
  refine Calls.spliced_cons (gl hst₂ (by decide) (by decide) hm (Calls.spliced_cons (gl hst₂ (by decide) (by decide) hb (Calls.spliced_nil ⟨⟨hst₂ _ _ m2, m3⟩, ?_⟩))))
  refine wpAny_mono (hdiv hA1 hh (by show A.depth + 1 < _; exact hroom) hst₂ (hfr₁.of_keeps fun b o e _ => ⟨o, hk2 b o e, rfl⟩) ⟨_, Heap.get?_push_size _ rfl, rfl, 0, rfl⟩) (fun _ _ f => f.elim) fun x s' hx => ?_
  obtain ⟨e, C, a0, rfl, mC, f1, f2, g1, g2⟩ := hx
  refine wpAny_leaves_onW hA1 hfm f1 fun h' f3 f4 => ?_
  exact ⟨e, C, a0, rfl, mC, f3, ((Heap.UpToSlots.of_keeps fun b o e => hk2 b o (hk1 b o e)).trans f2).trans f4, g1, g2⟩
end
end
section
open PySem PySem.Spec PySem.Calls PySem.W PyProof.Rows

section
variable {prog : Program} {w : World} {mg mb : Str → Option Value}

theorem ref_true {base : Heap} (G : Gr mg mb base) : ∃ fa o fd, mg "_law_refuses" = some (.ref fa) ∧ base.get? fa = some o ∧ o.data = .func fd ∧
    ∀ {A : Around} {outer : List Env} {s : Shared} {f : Addr} {o : Obj} {qual : Str} {lb : Expr} {ls : Scope} {cl : List (Str × Addr)} {ct cd pm : Value} {c1 c2 c3 : Addr} {v1 v2 v3 : Value} {E : Value → Shared → Prop} {Q : Value → Shared → Prop},
      A.frames = some outer → A.handled = none → A.depth + 2 < recursionLimit → base.objs.size ≤ s.heap.objs.size → base.StaysIn s.heap → s.heap.FunFrames base outer → s.heap.get? f = some o → o.data = .func (lamFd qual lb ls cl ct cd pm) →
      s.heap.CodeRec cd qual → okLam ls lb = true → cl.lookup ("here" : Str) = some c1 → cl.lookup ("w" : Str) = some c2 → cl.lookup ("least" : Str) = some c3 →
      s.heap.IsCell c1 (some v1) → s.heap.IsCell c2 (some v2) → s.heap.IsCell c3 (some v3) → (∀ s', base.StaysIn s'.heap → s'.gens = s.gens → s'.os = s.os → Q (.bool true) s') →
      wpAny (model prog w) A (PySem.call (.ref fa) [.ref f]) Q E s := by
  obtain ⟨d, hd, hn, hc⟩ := theRec_ c_ref
  obtain ⟨hp, hok⟩ := Bool.and_eq_true_iff.mp hc
  obtain ⟨fa, ofa, fd, h1, h2, h3, cd2, hcall⟩ := plain_call (prog := prog) (w := w) G hd hp
  refine ⟨fa, ofa, fd, hn ▸ h1, h2, h3, fun {A outer s f o qual lb ls cl ct cd pm c1 c2 c3 v1 v2 v3 E Q} hA hh hroom hsz hst hfr ho hdo hcd hlam e1 e2 e3 i1 i2 i3 hQ => ?_⟩
  refine wpAny_call (hcall hst rfl (by omega) fun h₁ F => ?_)
  have hk : d.scope.kind = .function := plainD_kind hp
  obtain ⟨C, O⟩ := G.own
  obtain ⟨_, _, _, hbody, h5, h6, h7, k1, k2, k3⟩ := okRef_ hok
  clear hok
  obtain ⟨r1p, kb1, c1p, as1, rfl⟩ := okSet_ h5
  clear h5
  obtain ⟨_, _, tp, rfl, h8, h9⟩ := okTry_ h6
  clear h6
  obtain ⟨wkp, wcp, wep, rfl⟩ := okWork_ h8
  clear h8
  obtain ⟨dzp, r2p, kb2, c2p, as2, ehp, rfl⟩ := okHan_ h9
  clear h9
  obtain ⟨r3p, rp, rfl⟩ := okBack_ h7
  clear h7
  replace k1 := eq_of_beq k1
  replace k2 := eq_of_beq k2
  replace k3 := eq_of_beq k3
  rw [hbody]
  refine wpAny_execs_cons (wpAny_Assign_Name (wpAny_Constant_bool (st F (fun h2 F2 => ?_) hk k1)) rfl)
  have hst₂ : base.StaysIn h2 := fun b o e => F2.keep b o (hst b o e)
  have FB : Fr base s.heap.objs.size h2 _ := ⟨F2.ns, hst₂, hsz⟩
  have hfr₂ := frames_in (env := envOf d.name d.scope s.heap.objs.size fa cd2) F2 rfl hst hfr rfl hk
  have hA2 : (A.deeper (envOf d.name d.scope s.heap.objs.size fa cd2)).frames = some (envOf d.name d.scope s.heap.objs.size fa cd2 :: outer) := Around.frames_deeper hA
  have hint : interactive (envOf d.name d.scope s.heap.objs.size fa cd2) = false := by
    unfold interactive
    have : (envOf d.name d.scope s.heap.objs.size fa cd2).scope.kind = .function := hk
    simp [this]
  have kc : ∀ {c : Addr} {v : Option Value}, s.heap.IsCell c v → h2.IsCell c v := fun ⟨o, ho, hd⟩ => ⟨o, F2.keep _ _ ho, hd⟩
  refine wpAny_execs_cons (wpAny_Try_except (wpAny_execs_cons (wpAny_Expr ?_ hint rfl)))
  refine Call_ (ld F2 (v := .ref f) (by rfl) ?_ hk k2)
  refine Calls.callWith_function (o := o) (fd := lamFd qual lb ls cl ct cd pm) (evalArgs_nil3 ⟨⟨F2.keep _ _ ho, hdo⟩, ?_⟩)
  refine wpAny_mono (lam_raises G hA2 hh (by show A.depth + 1 + 1 < _; omega) hst₂ hfr₂ (F2.keep _ _ ho) hdo (hcd.keeps F2.keep) hlam e1 e2 e3 (kc i1) (kc i2) (kc i3)) (fun _ _ f => f.elim) fun x s3 hx => ?_
  obtain ⟨e, C', a0, rfl, mC, f1, f2, g1, g2⟩ := hx
  have : C' = C := by
    have := O.bound
    rw [mC] at this
    cases this; rfl
  subst this
  refine wpAny_looks_onW hA2 rfl f1 fun h4 hheld sm4 => ?_
  refine wpAny_landsW hheld fun h5 fl5 sm5 => ?_
  refine handleBy_own (C := C') (x := "DivisionByZero") (newId := "Exception.__new__") (mg := mg) (bmB := [.type "Exception", .type "BaseException", .type "object"]) (by decide) ?_
  refine Calls.Name_function_global (env := envOf d.name d.scope s.heap.objs.size fa cd2) hk k3 (Calls.loadGlobal_global (env := envOf d.name d.scope s.heap.objs.size fa cd2) (G.g.keeps fl5.1) mC ⟨rfl, O.keeps fl5.1, fl5.there, ?_⟩) (by decide)
  refine lands_againW fl5 fun h6 fl6 sm6 => ?_
  have F6 := FB.of_stays fl6.1 (((f2.trans sm4).trans sm5).trans sm6)
  refine wpAny_execs_cons (wpAny_Assign_Name (wpAny_Constant_bool (st F6 (fun h7 F7 => ?_) hk k1)) rfl)
  refine wpAny_execs_nil ?_
  refine wpAny_execs_cons (wpAny_Return_some (ld F7 (v := .bool true) (by rfl) ?_ hk k1))
  exact hQ _ F7.keep g1 g2
end
end
section
open PySem PySem.Spec PySem.Calls PySem.W PyProof.Rows

section
variable {W : Wd} {β : Option Addr} {s₀ : Shared} {g₀ : FH} {F : Fm} {A : Around} {k : Nat}

/-- a block with more behind it -/
theorem WSs_app (hF : Fok F) (hA : Ok k A) : ∀ (b : Ss) {body tail : List Stmt} {Ex : Value → Shared → Prop} {hd : FH} {Q : PS} {ρ : Row} {own : Own} {σ : Bx} {g : FH} {s : Shared} {R : Flow → Shared → Prop}, okSs F.sc F.ns b body = true → Iv W β s₀ g₀ F hd ρ own σ g s → WSs W k b Q ρ own σ →
    (∀ g' ρ' own' σ' s', Iv W β s₀ g₀ F hd ρ' own' σ' g' s' → Q .next ρ' own' σ' → wpAny W.M A (execs tail F.env) R Ex s') → (∀ x ρ' own' σ', ¬ Q (.ret x) ρ' own' σ') → wpAny W.M A (execs (body ++ tail) F.env) R Ex s
  | .nil, body, tail, Ex, hd, Q, ρ, own, σ, g, s, R, h, I, hw, hk, _ => by
    obtain rfl := List.isEmpty_iff.mp h
    exact hk _ _ _ _ _ I hw
  | .cons c r, body, tail, Ex, hd, Q, ρ, own, σ, g, s, R, h, I, hw, hk, hn => by
    obtain ⟨_, _, rfl, j1⟩ := onCons_ h
    clear h
    obtain ⟨h1, h2⟩ := and_ j1
    clear j1
    rw [List.cons_append]
    refine wpAny_execs_cons (wp_m (WS_sound hF hA c h1 I hw) fun fl s1 q0 => ?_)
    cases fl with
    | next =>
      obtain ⟨g1, ρ1, ow1, σ1, hs1, I1, q1⟩ := q0
      exact WSs_app hF hA r h2 I1 q1 hk hn
    | ret v =>
      obtain ⟨_, _, _, _, _, _, _, _, q⟩ := q0
      exact (hn _ _ _ _ q).elim
    | brk => exact q0.elim
    | cont => exact q0.elim

/-- the list of two ints that the law made is its box from here on -/
theorem Iv.toBox {i : Nat} {n z : Int} {hd : FH} {ρ : Row} {σ : Bx} {g : FH} {s : Shared} (hF : Fok F) (I : Iv W none s₀ g₀ F hd ρ (some (i, [n, z])) σ g s) (hil : i < ρ.length) (hhd : ∀ a, hd a = none) (hbox : ∀ (j : Nat) (X : V), ρ[j]? = some (some X) → ∃ xs : List Int, X = V.list xs) :
    ∃ b, s₀.heap.get? b = none ∧ Iv W (some b) s₀ g₀ F hd (ρ.set i (some .box)) none (n, z) g s := by
  obtain ⟨m, cm, hn, hc, hv, h0, x, oa, vs, h1, hsl, ⟨nn, hp⟩, hi, hl, hg, hs0, hL, hC, hb, hh⟩ := I.vars
  have ne : ∀ a o, g a = some o → a ≠ oa := fun a o e q => by rw [q, hg] at e; cases e
  refine ⟨oa, hs0, ⟨⟨I.ext.sh, fun a o _ e => I.ext.keep a o (by simp) e, I.ext.gg, I.ext.gs, fun a o e => ?_⟩, I.base, ?_, I.newL, I.newC, I.gL, I.gC, ?_, ?_, ?_, m, cm, hn, hc, ?_, trivial⟩⟩
  · rcases I.ext.new a o e with q | ⟨q, _⟩
    · exact .inl q
    · exact .inr ⟨q, fun r => ne a o e (Option.some.inj r)⟩
  · rintro b hb
    cases hb
    exact ⟨hg, _, vs, nn, hp, rfl, rfl, hi⟩
  · exact fun q => hL (Option.some.inj q).symm
  · exact fun y c e q => hC y c e (Option.some.inj q).symm
  · intro a o e
    rw [hhd] at e; cases e
  · intro j y X hj hX
    by_cases q : i = j
    · subst q
      rw [h1] at hj; cases hj
      rw [List.getElem?_set, if_pos rfl, if_pos hil] at hX
      cases hX
      exact ⟨_, hsl, oa, rfl, rfl⟩
    · rw [List.getElem?_set_ne q] at hX
      obtain ⟨v, r1, r2⟩ := hv j y X hj hX
      obtain ⟨xs, rfl⟩ := hbox j X hX
      exact ⟨v, r1, r2⟩
end
end
section
open PySem PySem.Spec PySem.Calls PySem.W PyProof.Rows

/-- the ground, where a table of codes has grown -/
theorem Gr.regrow {mg mb : Str → Option Value} {h h' : Heap} {P : Addr} (G : Gr mg mb h) (hP : h.get? P = some { cls := .none, data := .fields #[] }) (hs : ∀ b, b ≠ P → h'.get? b = h.get? b) : Gr mg mb h' := by
  have kp : ∀ {b o}, h.get? b = some o → (∀ vs, o.data ≠ .fields vs) → h'.get? b = some o := fun {b o} e hd => by
    rw [hs b (fun q => by rw [q, hP] at e; cases e; exact hd _ rfl)]; exact e
  have kn : ∀ {a m}, h.Ns a m → h'.Ns a m := fun {a m} ⟨o, es, ep, e, hd, r⟩ => ⟨o, es, ep, kp e (fun vs q => by rw [hd] at q; cases q), hd, r⟩
  have kcr : ∀ {cd q}, h.CodeRec cd q → h'.CodeRec cd q := fun {cd q} ⟨c, o, vs, t, e1, e2, e3, e4⟩ => ⟨c, o, vs, t, e1, by
    rw [hs c (fun q => by rw [q, hP] at e2; cases e2; cases e3; simp at e4)]; exact e2, e3, e4⟩
  refine ⟨kn G.g, kn G.b, ?_, fun d hd => ?_, ?_, G.len⟩
  · obtain ⟨mc, h1, h2⟩ := G.nolimit
    exact ⟨mc, kn h1, h2⟩
  · obtain ⟨a, o, pm, cd, doc, h1, h2, h3, h4⟩ := G.fn d hd
    exact ⟨a, o, pm, cd, doc, h1, kp h2 (fun vs q => by rw [h3] at q; cases q), h3, kcr h4⟩
  · obtain ⟨C, O⟩ := G.own
    have kt : ∀ {bmB tl}, OwnTailQ h bmB tl → OwnTailQ h' bmB tl := fun {bmB tl} T => by
      induction T with
      | base => exact .base
      | own hA hN hq _ ih => exact .own (kp hA (fun vs q => by cases q)) (kn hN) hq ih
    obtain ⟨bm, N, nm, q, bs, hdct, sn, sub, ab, col, dd, k0, k1, k2, k3, k5, mN, hC, hN, hq, T⟩ := O.obj
    exact ⟨C, O.bound, bm, N, nm, q, bs, hdct, sn, sub, ab, col, dd, k0, k1, k2, k3, k5, mN, kp hC (fun vs q => by cases q), kn hN, hq, kt T⟩

/-- what is looked up of a def whose body is read by hand -/
noncomputable def frameD (d : DefRec) (ps ns : List Str) : Bool :=
  d.params.posonlyargs.isEmpty && d.params.vararg.isNone && d.params.kwonlyargs.isEmpty && d.params.kw_defaults.isEmpty && d.params.kwarg.isNone && d.params.defaults.isEmpty && d.params.args.map (·.arg) == ps &&
  d.scope.kind == .function && !d.scope.isCoroutine && !d.scope.isGenerator && decide ns.Nodup && ns.take ps.length == ps && ps.all (okVar d.scope)
noncomputable def totalE : E := .call (.fn "_law_total") (.cons (.var 0) .nil)
noncomputable def okFirst (sc : Scope) (x : Stmt) : Bool := onAssign x fun t v => onName t fun y _ => onList v fun vs _ => onTwo vs fun c z => okAt sc lawNs 1 y && (okE sc lawNs totalE c && onInt z fun z => z == 0)
theorem okFirst_ {sc : Scope} {x : Stmt} (h : okFirst sc x = true) : ∃ yn yp c zk zp lp ap, x = .Assign [.Name yn yp] (.List [c, .Constant (.int 0) zk zp] lp) ap ∧ okAt sc lawNs 1 yn = true ∧ okE sc lawNs totalE c = true := by
  obtain ⟨_, _, ap, rfl, j1⟩ := onAssign_ h
  clear h
  obtain ⟨yn, yp, rfl, j2⟩ := onName_ j1
  clear j1
  obtain ⟨_, lp, rfl, j3⟩ := onList_ j2
  clear j2
  obtain ⟨c, _, rfl, j4⟩ := onTwo_ j3
  clear j3
  obtain ⟨h1, j5⟩ := and_ j4
  clear j4
  obtain ⟨h2, j6⟩ := and_ j5
  clear j5
  obtain ⟨_, zk, zp, rfl, j7⟩ := onInt_ j6
  clear j6
  obtain rfl := eq_of_beq j7
  exact ⟨yn, yp, c, zk, zp, lp, ap, rfl, h1, h2⟩
noncomputable def okLaw (d : DefRec) : Bool := onCons d.body fun x rest => okFirst d.scope x && (okSs d.scope lawNs b_mid rest.dropLast && onSome rest.getLast? fun y => okLast d.scope y)
theorem c_law : theRec "law" (fun d => frameD d ["script"] lawNs && okLaw d) = true := by decide +kernel

theorem closure_lam {env : Env} {ls : Scope} {c1 c2 c3 : Addr} (hn : ls.names = nmLam) (h1 : env.cells.lookup ("here" : Str) = some c1) (h2 : env.cells.lookup ("w" : Str) = some c2) (h3 : env.cells.lookup ("least" : Str) = some c3) :
    closureFor ls env = pure [(("w" : Str), c2), (("least" : Str), c3), (("here" : Str), c1)] := by
  unfold closureFor
  rw [hn]
  simp only [nmLam, List.forIn_cons, List.forIn_nil]
  have e1 : cellOf env "here" = pure c1 := by unfold cellOf; rw [h1]
  have e2 : cellOf env "w" = pure c2 := by unfold cellOf; rw [h2]
  have e3 : cellOf env "least" = pure c3 := by unfold cellOf; rw [h3]
  rw [e1, e2, e3]
  rfl
end
section
open PySem PySem.Spec PySem.Calls PySem.W PyProof.Rows

section
variable {W : Wd} {s₁ : Shared}

theorem last_ok {F : Fm} {β : Option Addr} {c P : Addr} {g₀ : FH} {hd : FH} {ρ : Row} {σ : Bx} {g : FH} {s : Shared} {x : Stmt} {A : Around} {R : Flow → Shared → Prop} {Ex : Value → Shared → Prop} {xs : List Int} {wv lv : Int}
    (hH : W.H = s₁.heap) (G : Gr W.mg W.mb s₁.heap) (hβ : ∀ b, β = some b → s₁.heap.get? b = none) (hL : F.L = s₁.heap.objs.size) (hcd : F.cd = .ref c) (hC : s₁.heap.IsCode c P #[]) (hT : s₁.heap.TableAt c P #[]) (hPs : P ≠ cStatics) (hgP : mainGlobals ≠ P)
    (hbm : s₁.heap.BuiltinsAt W.mg P) (hF : Fok F) (hA : A.frames = some [F.env]) (hh : A.handled = none) (hroom : A.depth + 2 < recursionLimit) (hok : okLast F.sc x = true) (hns : F.ns = lawNs)
    (I : Iv W β s₁ g₀ F hd ρ none σ g s) (r2 : ρ[2]? = some (some (.int wv))) (r5 : ρ[5]? = some (some (.list xs))) (r7 : ρ[7]? = some (some (.int lv)))
    (hR : ∀ s', OldK s₁.heap s'.heap → s'.gens = s₁.gens → s'.os = s₁.os → R (.ret (.bool true)) s') : wpAny W.M A (execs [x] F.env) R Ex s := by
  obtain ⟨fr, ofr, fdr, m1, m2, m3, href⟩ := ref_true (prog := W.prog) (w := W.w) G
  obtain ⟨fp, lb, ls, lp, cp, rp, rfl, k1, hlam, k2, k3, k4⟩ := okLast_ hok
  clear hok
  replace k1 := eq_of_beq k1
  replace k2 := eq_of_beq k2
  replace k3 := eq_of_beq k3
  replace k4 := eq_of_beq k4
  obtain ⟨m, cm, hn, hc, hv, _⟩ := I.vars
  obtain ⟨v1, sl1, q1⟩ := hv 5 "here" _ (by rw [hns]; rfl) r5
  obtain ⟨v2, sl2, q2⟩ := hv 2 "w" _ (by rw [hns]; rfl) r2
  obtain ⟨v3, sl3, q3⟩ := hv 7 "least" _ (by rw [hns]; rfl) r7
  obtain ⟨c1, hc1⟩ := F.cell k2
  obtain ⟨c2, hc2⟩ := F.cell k3
  obtain ⟨c3, hc3⟩ := F.cell k4
  rw [slot_cell k2] at sl1
  rw [slot_cell k3] at sl2
  rw [slot_cell k4] at sl3
  have i1 := hc.cell _ _ hc1
  have i2 := hc.cell _ _ hc2
  have i3 := hc.cell _ _ hc3
  rw [sl1] at i1
  rw [sl2] at i2
  rw [sl3] at i3
  have keep : ∀ b o, s₁.heap.get? b = some o → s.heap.get? b = some o := fun b o e => I.ext.keep b o (fun q => by rw [hβ b q.symm] at e; cases e) e
  have hnm : ls.names = nmLam := (okLam_ hlam).2.2.2.2
  have F0 : Fr s₁.heap F.L s.heap m := ⟨hn, keep, by rw [hL]; exact Nat.le_refl _⟩
  obtain ⟨hh', tk0, hsh⟩ := I.ext.sh
  have cneP : ∀ y cc, F.cells.lookup y = some cc → cc ≠ P := fun y cc e q => by
    have := I.newC y cc e
    rw [q, hT.2] at this; cases this
  refine wpAny_execs_cons (wpAny_Return_some (Call_ ?_))
  refine Calls.Name_function_global (env := F.env) hF.kind k1 (Calls.loadGlobal_global (env := F.env) (G.g.keeps keep) m1 ?_) (by decide)
  have hs : starEach [.Lambda ⟨[], [], none, [], [], none, []⟩ lb ls lp] F.env = [.Lambda ⟨[], [], none, [], [], none, []⟩ lb ls lp].map fun e => (false, eval e F.env) := rfl
  rw [hs, backTo_plain]
  refine Calls.callWith_function (o := ofr) (fd := fdr) (Calls.evalArgs_plain (Calls.spliced_cons ?_))
  refine lam_make (cl := [(("w" : Str), c2), (("least" : Str), c3), (("here" : Str), c1)]) rfl (closure_lam hnm hc1 hc2 hc3) rfl (G.g.keeps keep) hcd (hC.keeps keep) (hT.keeps keep) hgP (hbm.keeps keep) fun c' ct h' tk hx hrec hic htb hsz => ?_
  obtain ⟨B1, F1⟩ := (Based.start hC hT hPs).grow F0 hx hic htb
  generalize hbase : regrown s₁.heap P _ = base at B1 F1
  have hk2 : ∀ b o, h'.get? b = some o → (h'.push { cls := .type "function", data := .func (lamFd (F.env.qual ++ "<lambda>") lb ls [(("w" : Str), c2), (("least" : Str), c3), (("here" : Str), c1)] ct (.ref c') ((W.mg "__name__").getD .none)) }).get? b = some o := fun b o e => Heap.get?_push_of_some _ e
  have hst : base.StaysIn h' := F1.keep
  have Gb : Gr W.mg W.mb base := G.regrow hT.2 (fun b hb => by rw [← hbase]; exact Heap.get?_update_other _ _ (Ne.symm hb))
  obtain ⟨fr2, ofr2, fdr2, n1, n2, n3, href2⟩ := ref_true (prog := W.prog) (w := W.w) Gb
  rw [m1] at n1; cases n1
  have nb : ∀ b, s₁.heap.get? b = none → base.get? b = none := fun b e => B1.fresh e
  have kcell : ∀ {y cc v}, F.cells.lookup y = some cc → s.heap.IsCell cc (some v) → (h'.push { cls := .type "function", data := .func (lamFd (F.env.qual ++ "<lambda>") lb ls [(("w" : Str), c2), (("least" : Str), c3), (("here" : Str), c1)] ct (.ref c') ((W.mg "__name__").getD .none)) }).IsCell cc (some v) :=
    fun {y cc v} e ⟨o, ho, hd⟩ => ⟨o, hk2 _ _ (hx _ _ (cneP y cc e) ho), hd⟩
  have hfrP : fr ≠ P := fun q => by
    rw [q, hT.2] at m2
    cases m2; cases m3
  refine Calls.spliced_nil ⟨⟨hk2 _ _ (hx _ _ hfrP (keep _ _ m2)), m3⟩, ?_⟩
  have hstp : base.StaysIn (h'.push { cls := .type "function", data := .func (lamFd (F.env.qual ++ "<lambda>") lb ls [(("w" : Str), c2), (("least" : Str), c3), (("here" : Str), c1)] ct (.ref c') ((W.mg "__name__").getD .none)) }) := fun b o e => hk2 b o (hst b o e)
  have hLt : F.L < h'.objs.size := Nat.lt_of_lt_of_le hn.lt hsz
  have hfrs : (h'.push { cls := .type "function", data := .func (lamFd (F.env.qual ++ "<lambda>") lb ls [(("w" : Str), c2), (("least" : Str), c3), (("here" : Str), c1)] ct (.ref c') ((W.mg "__name__").getD .none)) }).FunFrames base [F.env] := by
    refine ⟨by rw [show F.env.scope.kind = .function from hF.kind]; decide, ?_, trivial⟩
    obtain ⟨o, es, ep, ho, hd, _⟩ := F1.ns
    exact ⟨F.L, o, rfl, nb _ I.newL, hk2 _ _ ho, fun vs q => by rw [hd] at q; cases q⟩
  refine href2 hA hh hroom ?_ hstp hfrs (Heap.get?_push_size _ rfl) rfl (hrec.push _) hlam rfl rfl rfl (kcell hc1 i1) (kcell hc2 i2) (kcell hc3 i3) fun s' z1 z2 z3 => ?_
  · rw [Heap.size_push]
    exact Nat.le_succ_of_le (Nat.le_of_lt (Nat.lt_of_le_of_lt F1.above hLt))
  · refine hR s' (B1.old.step_keeps z1) ?_ ?_
    · rw [z2, hsh]
    · rw [z3, hsh]
end
end
section
open PySem PySem.Spec PySem.Calls PySem.W PyProof.Rows

section
variable {W : Wd} {s₁ : Shared}

theorem law_true {a : Addr} {vs : List Value} {xs : List Int} {Q : Value → Shared → Prop} {E : Value → Shared → Prop} (hH : W.H = s₁.heap) (G : Gr W.mg W.mb s₁.heap) (hl : s₁.heap.IsList a vs.toArray) (hi : IntsAre vs xs) (hxl : xs.length ≤ 63)
    (htab : ∀ d ∈ recsOf PySem.Challenge.pw_nn0028_01, ∃ a o fd c P, W.mg d.name = some (.ref a) ∧ s₁.heap.get? a = some o ∧ o.data = .func fd ∧ fd.code = .ref c ∧ s₁.heap.IsCode c P #[] ∧ s₁.heap.TableAt c P #[] ∧ P ≠ cStatics ∧ mainGlobals ≠ P ∧ s₁.heap.BuiltinsAt W.mg P)
    (hQ : ∀ s', OldK s₁.heap s'.heap → s'.gens = s₁.gens → s'.os = s₁.os → Q (.bool true) s') :
    ∃ fa, W.mg "law" = some (.ref fa) ∧ wpAny W.M callerA (PySem.call (.ref fa) [.ref a]) Q E s₁ := by
  obtain ⟨d, hd, hn, hc⟩ := theRec_ c_law
  obtain ⟨hp, hok⟩ := Bool.and_eq_true_iff.mp hc
  obtain ⟨fa, o, pm, code, doc, h1, h2, h3, h4⟩ := G.fn d hd
  obtain ⟨fa', o', fd', c, P, t1, t2, t3, t4, t5, t6, t7, t8, t9⟩ := htab d hd
  rw [h1] at t1; cases t1
  rw [h2] at t2; cases t2
  rw [h3] at t3; cases t3
  refine ⟨fa, hn ▸ h1, ?_⟩
  obtain ⟨c1, hvar⟩ := and_ hp
  obtain ⟨c2, htk⟩ := and_ c1
  obtain ⟨c3, hnd⟩ := and_ c2
  obtain ⟨c4, hge⟩ := and_ c3
  obtain ⟨c5, hco⟩ := and_ c4
  obtain ⟨c6, hk⟩ := and_ c5
  obtain ⟨c7, hps⟩ := and_ c6
  clear hp c1 c2 c3 c4 c5 c6
  have hpar := plainP c7
  clear c7
  replace hps := eq_of_beq hps
  replace hnd := of_decide_eq_true hnd
  replace hge := (Bool.not_eq_true' _).mp hge
  replace hco := (Bool.not_eq_true' _).mp hco
  replace hk := eq_of_beq hk
  replace t4 : code = .ref c := t4
  subst t4
  rw [hpar] at h3
  have hpn : (d.params.args.map (·.arg)).Nodup := by rw [hps]; decide
  have hkind : ∀ y ∈ (d.params.args.map (·.arg)).zip [Value.ref a], d.scope.names.lookup y.1 = some .local ∨ (d.scope.names.lookup y.1 = some .cell ∧ ((cellsFrom (s₁.heap.objs.size + 1) d.scope.names []).lookup y.1).isSome = true) := fun y hy => by
    have := List.all_eq_true.mp hvar y.1 (hps ▸ (List.of_mem_zip hy).1)
    rcases (okVar_ this).1 with q | q
    · exact .inl q
    · exact .inr ⟨q, cellsFrom_some _ _ _ (.inr q)⟩
  refine wpAny_call (call_cells_ret (by decide) h2 h3 G.nolimit h4 (bindArgs_plain hpn (by rw [hps]; rfl)) hkind (fun h₁ tk fr cl => ?_) hco hge hk)
  let F : Fm := ⟨d.name, d.scope, s₁.heap.objs.size, fa, .ref c, lawNs⟩
  have hF : Fok F := ⟨hk, hnd⟩
  have hA : Ok 26 (callerA.deeper F.env) := ⟨rfl, by show (1 + claimMargin) + 1 + 26 ≤ recursionLimit; decide, by show 4 + 3 + 8 * 26 + 100 ≤ cLine; decide⟩
  have hs0 : ∀ c, s₁.heap.objs.size ≤ c → s₁.heap.get? c = none := fun c hc => by
    cases q : s₁.heap.get? c with
    | none => rfl
    | some o => exact absurd (Heap.lt_size q) (Nat.not_lt.mpr hc)
  have hcl : ∀ y c, F.cells.lookup y = some c → s₁.heap.objs.size ≤ c := fun y c e => Nat.le_of_lt (cl.above y c (mem_of_lookup e))
  have I0 : Iv W none s₁ (fun a => s₁.heap.get? a) F (fun _ => none) [some (.list xs), none, none, none, none, none, none, none, none, none] none (0, 0) (fun a => s₁.heap.get? a) { s₁ with heap := h₁, toks := tk } := by
    refine ⟨.same (fun _ _ e => e) fr.keep, fun a o e => by rw [hH] at e; exact e, fun b e => (by cases e), hs0 _ (Nat.le_refl _), fun y c e => hs0 c (hcl y c e), hs0 _ (Nat.le_refl _), fun y c e => hs0 c (hcl y c e), (fun e => by cases e), (fun y c e q => by cases q),
      (fun a o e => by cases e), _, _, fr.ns, cl, fun i y X hy hX => ?_, trivial⟩
    rcases i with _ | i
    · have hy' : y = "script" := by
        have : (lawNs[0]?) = some y := hy
        simpa [lawNs] using this.symm
      subst hy'
      cases hX
      obtain ⟨o, ho, hoc, nn, hod⟩ := id hl
      refine ⟨.ref a, ?_, a, rfl, o, vs, nn, ho, hoc, hod, hi, by rw [sizeLine_n]; omega⟩
      have hz : (("script" : Str), Value.ref a) ∈ (d.params.args.map (·.arg)).zip [Value.ref a] := by rw [hps]; exact .head _
      have hoy := List.all_eq_true.mp hvar "script" (.head _)
      rcases (okVar_ hoy).1 with q | q
      · rw [slot_local q]; exact bindL_zip q hpn hz
      · rw [slot_cell q]; exact bindC_zip q hpn hz
    · have : ∀ i : Nat, ([none, none, none, none, none, none, none, none, none] : Row)[i]? ≠ some (some X) := fun i q => by
        have := List.mem_of_getElem? q
        simp at this
      exact absurd hX (this i)
  obtain ⟨x0, rest, hbody, j1⟩ := onCons_ hok
  rw [hbody]
  obtain ⟨hfst, j2⟩ := and_ j1
  obtain ⟨hmid, j3⟩ := and_ j2
  obtain ⟨y, hgl, hlast⟩ := onSome_ j3
  clear hok j1 j2 j3
  have hrest : rest.dropLast ++ [y] = rest := by
    obtain ⟨ys, rfl⟩ := List.getLast?_eq_some_iff.mp hgl
    simp
  obtain ⟨yn, yp, cc, zk, zp, lp, ap, rfl, hat, hE⟩ := okFirst_ hfst
  clear hfst
  refine wpAny_execs_cons (wpAny_Assign_Name ?_ rfl)
  show wpAny W.M (callerA.deeper F.env) (eval _ F.env) _ _ _
  rw [arm_eval_List]
  refine wpAny_bind (wpAny_standAt (wpAny_bind ?_))
  have hs : starEach [cc, .Constant (.int 0) zk zp] F.env = [cc, .Constant (.int 0) zk zp].map fun e => (false, eval e F.env) := star_cons (ok_plain hE) _ _
  rw [hs, backTo_plain]
  have hwE : WE W 26 [some (.list xs), none, none, none, none, none, none, none, none, none] totalE (fun v _ => ∃ n : Nat, v = .int n) (0, 0) := by
    unfold totalE
    try simp only [orAnd,andAnd,Za,Zb,Zc,Zd,Ze,Zf,Zg,Zh,Zi,Zj,Zk,Zl,Zm,Zn,Zo,Zp,Zq,Zr,Zs,Zt,Zu,Zv,Zw,Zx,Zy,Zz,ZA,ZB,ZC,ZD,ZE,ZF,ZG,ZH,ZI,ZJ,ZK,ZL,ZM,ZN,ZO,ZP,ZQ,ZR,ZS,ZT,ZU,ZV,ZW,ZX,ZY,ZZ,Ya,Yb,Yc,Yd,Ye,Yf,Yg,Yh,Yi,Yj,Yk,Yl,Ym,Yn,Yo,Yp,Yq,Yr,Ys,Yt,Yu,Yv,Yw,Yx,Yy,Yz,YA,YB,YC,YD,YE,YF,YG,YH,YI,row₀,List.getElem?_cons_zero,List.getElem?_cons_succ,List.set_cons_zero,List.set_cons_succ,List.map_cons,List.map_nil,List.length_cons,List.length_nil,List.replicate,List.cons_append,List.nil_append,Nat.reduceAdd,Nat.reduceSub,List.mem_cons,List.not_mem_nil,or_false,forall_eq_or_imp,forall_eq,implies_true,true_and,and_true,if_true,if_false,Bool.false_eq_true,decide_eq_true_eq,Bool.not_eq_true',decide_eq_false_iff_not,Bool.not_eq_eq_eq_not,Bool.not_true,Bool.not_false,beq_self_eq_true,reduceCtorEq,beq_iff_eq,low_length,row_length,fdiv_nat,fmod_nat,two_pow,one_shl,shr,shl,and_mask,clip_nat,Int.one_mul]
    exact m_total (k := 25) fun n => ⟨n, rfl⟩
  refine Calls.spliced_cons (wpE (WE_sound (F := F) hF hA totalE hE I0 hwE) fun v s2 g2 X σ2 ex2 b2 hx q0 => ?_)
  obtain ⟨n, hX⟩ := q0
  subst hX
  obtain ⟨t, rfl⟩ := hx
  refine Calls.spliced_cons (wpAny_Constant_int (Calls.spliced_nil (wpAny_newList ?_ (by rw [sizeLine_n]; simp only [List.length_cons, List.length_nil]; omega))))
  have I2 := I0.step ex2 b2
  obtain ⟨f1, f2, f3, f4, f5⟩ := fresh_facts I2 (size_none s2.heap)
  have I3 := I2.grow (h' := s2.heap.push { cls := .type "list", data := .seq [Value.int n t, .int 0 s2.toks].toArray }) (tk := s2.toks + 1) fun a o e => Heap.get?_push_of_some _ e
  refine I3.storeOwn hF (okAt_ hat).1 (okAt_ hat).2 (vs := [Value.int n t, .int 0 s2.toks]) (xs := [(n : Int), 0]) ⟨0, Heap.get?_push_size _ rfl⟩ (.cons _ _ (.cons _ _ .nil)) (by rw [sizeLine_n]; simp only [List.length_cons, List.length_nil]; omega) f1 f2 f3.1 f3.2 f4 f5 fun h' tk' I4 => ?_
  have hbox : ∀ (j : Nat) (X : V), (([some (.list xs), none, none, none, none, none, none, none, none, none] : Row).set 1 none)[j]? = some (some X) → ∃ xs : List Int, X = V.list xs := fun j X hX => by
    rcases j with _ | j
    · cases hX; exact ⟨xs, rfl⟩
    · have : ∀ i : Nat, ([none, none, none, none, none, none, none, none, none] : Row)[i]? ≠ some (some X) := fun i q => by
        have := List.mem_of_getElem? q
        simp at this
      exact absurd hX (this j)
  obtain ⟨b, hb0, I5⟩ := I4.toBox hF (by simp) (fun _ => rfl) hbox
  show wpAny W.M (callerA.deeper F.env) (execs rest F.env) _ _ _
  rw [← hrest]
  refine WSs_app hF hA b_mid (Q := fun fl ρ o σ => match fl with
      | .next => ∃ (w b a l h : Nat) (n : Int), ρ = [some (.list xs), some .box, some (.int w), some (.int b), some (.int a), some (rw_ w a), some (rw_ w b), some (.int l), some (.int h), some (.told h n l)] ∧ o = none
      | .ret _ => False) hmid I5 (mid (k := 0) ⟨by simp, by simp⟩ fun w a b l h n σ' => ⟨w, b, a, l, h, n, rfl, rfl⟩) (fun g' ρ' own' σ' s' I' ⟨w, b', a', l, h, nn, hρ, ho⟩ => ?_) (fun _ _ _ _ h => h)
  subst hρ ho
  exact last_ok hH G (fun b' e => by cases e; exact hb0) rfl rfl t5 t6 t7 t8 t9 hF rfl rfl (by show (1 + claimMargin) + 1 + 2 < recursionLimit; decide) hlast rfl I' rfl rfl rfl hQ
end
end
section
open PySem PySem.Spec PySem.Calls PySem.W PyProof.Rows

noncomputable def builtNames : List Str := ["len", "range", "min", "max", "abs", "repr", "isinstance", "list", "bool", "int"]
/-- what is asked of the view -/
structure View (q : Program) : Prop where
  recs : recsOf q = recsOf PySem.Challenge.pw_nn0028_01
  free : ∀ x ∈ builtNames, x ∉ startupNames ∧ x ∉ looseW q [] ∧ x ∉ (recsOf q).map (·.name) ∧ x ∉ (litsOf q).map (·.1) ∧ x ∉ (clssOf q (looseW q [])).map (·.name)
  spec : specOf q "DivisionByZero" = some ("Exception.__new__", [.type "Exception", .type "BaseException", .type "object"])

theorem kd_keep (P : Params) : keepIn (KD P) (.ref 131) = true := by rfl

section
variable {prog q : Program} {w : World} {mg mb : Str → Option Value} {h : Heap} {mean : ExcName → Option Value}

noncomputable def theWd (T : Top q (looseW q []) mean mg mb h) (V : View q) (X : (KD w.params).In h) (prog : Program) : Wd where
  prog := prog
  w := w
  H := h
  mg := mg
  mb := mb
  g := T.g
  b := T.b
  nolimit := T.nolimit
  fn := by rw [← V.recs]; exact T.fn
  bi := fun x v hv hn _ => (T.builtins x hn).trans hv
  nob := by
    have f : ∀ x ∈ builtNames, mg x = none := fun x hx => let ⟨a, b, c, d, e⟩ := V.free x hx; T.free x a b c d e
    refine ⟨f _ ?_, f _ ?_, f _ ?_, f _ ?_, f _ ?_, f _ ?_, f _ ?_, f _ ?_, f _ ?_, f _ ?_⟩ <;> simp [builtNames]
  few := ⟨341, mg_of X T.g (kd_few _)⟩
  told := ToldAt w.params mg
  told_mono := told_mono
  told_attr := fun x t hg hH hx q1 q2 q3 q4 q5 => told_attr X x t hg hH hx q1 q2 q3 q4 q5
  dv := 131
  dv_mg := mg_of X T.g (kd_div _)
  told_make := fun hH hm hb hd hq => told_make X T.nolimit hH hm hb hd hq
  dv_keep := fun h' hk => keeps_K (kd_keep w.params) h' (X.keeps hk)

theorem theGr (T : Top q (looseW q []) mean mg mb h) (V : View q) : Gr mg mb h where
  g := T.g
  b := T.b
  nolimit := T.nolimit
  fn := by rw [← V.recs]; exact T.fn
  own := let ⟨C, O, _⟩ := T.ownAt V.spec; ⟨C, O⟩
  len := ⟨let ⟨a, b, c, d, e⟩ := V.free "len" (.head _); T.free _ a b c d e, (T.builtins "len" (by decide)).trans (by decide +kernel)⟩

theorem theTab (T : Top q (looseW q []) mean mg mb h) (V : View q) : ∀ d ∈ recsOf PySem.Challenge.pw_nn0028_01, ∃ a o fd c P, mg d.name = some (.ref a) ∧ h.get? a = some o ∧ o.data = .func fd ∧ fd.code = .ref c ∧ h.IsCode c P #[] ∧ h.TableAt c P #[] ∧ P ≠ cStatics ∧ mainGlobals ≠ P ∧ h.BuiltinsAt mg P := by
  intro d hd
  rw [← V.recs] at hd
  obtain ⟨a, o, fd, c, P, t1, t2, t3, t4, t5, t6⟩ := T.tab d hd
  refine ⟨a, o, fd, c, P, t1, t2, t3, t4, t5, t6, fun e => ?_, fun e => ?_, ?_⟩
  · obtain ⟨_, ⟨oc, _, _, e1, e2, _⟩, _⟩ := T.nodigits
    rw [← e, t6.2] at e1; cases e1; cases e2
  · obtain ⟨og, _, _, e1, e2, _⟩ := T.g
    rw [e, t6.2] at e1; cases e1; cases e2
  · obtain ⟨bm, ob, b1, b2, b3, b4, b5, b6⟩ := T.bmain
    refine ⟨bm, ob, b1, b2, fun e => ?_, fun e => ?_, b3, b4, b5, b6⟩
    · obtain ⟨og, _, _, e1, e2, _⟩ := T.g
      rw [← e, b3] at e1; cases e1; rw [b6] at e2; cases e2
    · rw [e, t6.2] at b3; cases b3; cases b4
end
end
section
open PySem PySem.Spec PySem.Calls PySem.W PyProof.Rows

theorem kd_as : ∀ P, [3, 127, 128, 130, 131] = (KD P).map (·.1) := fun _ => rfl

theorem the_walk {q : Program} (V : View q) {d : DefRec} (hdn : d.name = "law") {XP : (Str → Option Value) → Heap → Prop} :
    WalkO q [] XP (kHook KD [3, 127, 128, 130, 131] kd_as).says PySem.Challenge.rw_nn0028_01.row.toRowW d [] fun f vs => PySem.call f vs := by
  intro w s₀ s₁ mg mb G Y fa o pm cd doc dV kV ho hd hcd hD hmg hg args vals as hpre hlay hrd hwl hlo
  have X := kIn_of Y
  have T := G.T
  clear hcd hD ho hd G Y
  rw [hdn] at hmg
  wrow_args hpre hlay hrd hwl hlo
  rename_i xs hs lay0 hLay hr0 hl2 as1 as2 a vs as3 hL ra w1 r0 hI hr hc1 hc2
  have hQ : ∀ s', OldK s₁.heap s'.heap → s'.gens = s₁.gens → s'.os = s₁.os → GoodWG PySem.Challenge.rw_nn0028_01.row.toRowW.claim (classAt s₀.heap) (ExcName.means s₀.heap) [ofPy (PyData.list (List.map PyData.int xs))] s₁ (.ok (.ret (.bool true))) s' := fun s' hk hgn hos => by
    refine ⟨.inl ⟨.bool true, .bool true, [], rfl, ?_, .bool true, ?_, unshared_nil⟩, hk, hos, .of_eq (hgn.trans hg)⟩
    · exact raisesW_false (by wrow_none_raised)
    · wrow_post
  obtain ⟨fa', m1, hw⟩ := law_true (W := theWd T V X PySem.Challenge.rw_nn0028_01.row.toRowW.prog) (s₁ := s₁) (E := fun e s' => GoodWG PySem.Challenge.rw_nn0028_01.row.toRowW.claim (classAt s₀.heap) (ExcName.means s₀.heap) [ofPy (PyData.list (List.map PyData.int xs))] s₁ (.error e) s')
    (Q := fun v s' => GoodWG PySem.Challenge.rw_nn0028_01.row.toRowW.claim (classAt s₀.heap) (ExcName.means s₀.heap) [ofPy (PyData.list (List.map PyData.int xs))] s₁ (.ok (.ret v)) s') rfl (theGr T V) hL hI (by omega) (theTab T V) hQ
  have m1 : mg "law" = some (.ref fa') := m1
  rw [hmg] at m1; cases m1
  exact hw
end
end Mine
open PySem PySem.W PyProof.Rows
set_option maxRecDepth 100000 in
set_option maxHeartbeats 0 in
theorem PySem.Challenge.cw_nn0028_01_holds : PySem.Challenge.rw_nn0028_01.Holds := by
  (w_on; o_law; o_head (kHook Mine.KD [3, 127, 128, 130, 131] Mine.kd_as); (case hw => w_witness2); (case hc => exact Mine.the_walk ⟨by rfl, by decide +kernel, by rfl⟩ rfl))
