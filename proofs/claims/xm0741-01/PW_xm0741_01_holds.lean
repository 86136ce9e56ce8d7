import PyProof.Rows.All
import Wide.All
import OpenK.AllK
import Wide.FinOn
import Lean
import PySem.Challenge.RW_xm0741_01
open PySem PySem.W PyProof.Rows PySem.Calls PySem.Spec
set_option Elab.async false
set_option maxRecDepth 100000

namespace Mine

abbrev Led := List (Addr × Obj)
abbrev Loc := Str → Option Value

/-- the state that a frame sees: its locals, the ledger of what the call has made, each address once -/
structure St (h₀ : Heap) (L : Addr) (m : Loc) (n : Led) (h : Heap) : Prop where
  F : Fr h₀ L h m
  N : News h₀ L h n
  nd : (n.map (·.1)).Nodup

abbrev NF : Value → Shared → Prop := fun _ _ => False

theorem nf {M : Model} {A : Around} {α : Type} {t : Sem α} {Q : α → Shared → Prop} {E : Value → Shared → Prop} {s : Shared} (h : wpAny M A t Q NF s) : wpAny M A t Q E s :=
  wpAny_mono h (fun _ _ x => x) fun _ _ x => x.elim

/-- only heap and tokens have turned -/
def Sh (s s' : Shared) : Prop := ∃ h tk, s' = { s with heap := h, toks := tk }
theorem Sh.refl (s : Shared) : Sh s s := ⟨s.heap, s.toks, rfl⟩
theorem Sh.mk (s : Shared) (h : Heap) (tk : Nat) : Sh s { s with heap := h, toks := tk } := ⟨h, tk, rfl⟩
theorem Sh.trans {a b c : Shared} (x : Sh a b) (y : Sh b c) : Sh a c := by
  obtain ⟨h, t, rfl⟩ := x
  obtain ⟨h', t', rfl⟩ := y
  exact ⟨h', t', rfl⟩

def Post {α : Type} (h₀ : Heap) (L : Addr) (m : Loc) (n B : Led) (s : Shared) (R : Led → α → Prop) (v : α) (s' : Shared) : Prop :=
  ∃ tl, Sh s s' ∧ St h₀ L m (tl ++ n) s'.heap ∧ R (tl ++ B) v

/-- the tree ends without raising, the ledger only grows; X: what is read besides; B: what the value's relation may lean on -/
def Tr {α : Type} (prog : Program) (w : World) (A : Around) (h₀ : Heap) (L : Addr) (m : Loc) (X B : Led) (t : Sem α) (R : Led → α → Prop) : Prop :=
  ∀ n s, (∀ p ∈ X, p ∈ n) → (∀ p ∈ B, p ∈ n) → St h₀ L m n s.heap → wpAny (model prog w) A t (Post h₀ L m n B s R) NF s

def Mo {α : Type} (R : Led → α → Prop) : Prop := ∀ n n' v, (∀ p ∈ n, p ∈ n') → R n v → R n' v

theorem sub_app {a b c : Led} (h : ∀ p ∈ b, p ∈ c) : ∀ p ∈ a ++ b, p ∈ a ++ c := fun _ hp => (List.mem_append.mp hp).elim (fun h => List.mem_append.mpr (.inl h)) fun q => List.mem_append.mpr (.inr (h _ q))
theorem sub_right {a b : Led} : ∀ p ∈ b, p ∈ a ++ b := fun _ hp => List.mem_append.mpr (.inr hp)
theorem sub_left {a b : Led} : ∀ p ∈ a, p ∈ a ++ b := fun _ hp => List.mem_append.mpr (.inl hp)
theorem sub_rr {a b c : Led} (h : ∀ p ∈ b, p ∈ c) : ∀ p ∈ b, p ∈ a ++ c := fun p hp => sub_right p (h p hp)

section
variable {prog : Program} {w : World} {A : Around} {h₀ : Heap} {L : Addr} {m : Loc} {X B : Led} {α β : Type}

theorem Tr.bind {t : Sem α} {f : α → Sem β} {R₁ : Led → α → Prop} {R : Led → β → Prop} (h : Tr prog w A h₀ L m X B t R₁) (k : ∀ tl v, R₁ (tl ++ B) v → Tr prog w A h₀ L m X (tl ++ B) (f v) R) :
    Tr prog w A h₀ L m X B (t >>= f) R := by
  intro n s hX hB S
  refine wpAny_bind (wpAny_mono (h n s hX hB S) ?_ fun _ _ e => e)
  rintro v s' ⟨tl, sh, S', r⟩
  refine wpAny_mono (k tl v r (tl ++ n) s' (sub_rr hX) (sub_app hB) S') ?_ fun _ _ e => e
  rintro v' s'' ⟨tl', sh', S'', r'⟩
  exact ⟨tl' ++ tl, sh.trans sh', by rw [List.append_assoc]; exact S'', by rw [List.append_assoc]; exact r'⟩

/-- bind for rules in the continuation's shape -/
theorem Tr.then {t : Sem α} {u : Sem β} {R₁ : Led → α → Prop} {R : Led → β → Prop} (K : α → Sem β) (h : Tr prog w A h₀ L m X B t R₁)
    (rule : ∀ (Q : β → Shared → Prop) s, wpAny (model prog w) A t (fun v s' => wpAny (model prog w) A (K v) Q NF s') NF s → wpAny (model prog w) A u Q NF s)
    (k : ∀ tl v, R₁ (tl ++ B) v → Tr prog w A h₀ L m X (tl ++ B) (K v) R) : Tr prog w A h₀ L m X B u R := by
  intro n s hX hB S
  refine rule _ s (wpAny_mono (h n s hX hB S) ?_ fun _ _ e => e)
  rintro v s' ⟨tl, sh, S', r⟩
  refine wpAny_mono (k tl v r (tl ++ n) s' (sub_rr hX) (sub_app hB) S') ?_ fun _ _ e => e
  rintro v' s'' ⟨tl', sh', S'', r'⟩
  exact ⟨tl' ++ tl, sh.trans sh', by rw [List.append_assoc]; exact S'', by rw [List.append_assoc]; exact r'⟩

theorem Tr.mono {t : Sem α} {R R' : Led → α → Prop} (h : Tr prog w A h₀ L m X B t R) (k : ∀ tl v, R (tl ++ B) v → R' (tl ++ B) v) : Tr prog w A h₀ L m X B t R' := by
  intro n s hX hB S
  refine wpAny_mono (h n s hX hB S) ?_ fun _ _ e => e
  rintro v s' ⟨tl, sh, S', r⟩
  exact ⟨tl, sh, S', k tl v r⟩

/-- more may be read, more may be leant on -/
theorem Tr.up {t : Sem α} {R : Led → α → Prop} {X' B' : Led} (h : Tr prog w A h₀ L m X B t R) (hR : Mo R) (hX : ∀ p ∈ X, p ∈ X' ++ B') (hB : ∀ p ∈ B, p ∈ B') : Tr prog w A h₀ L m X' B' t R := by
  intro n s hX' hB' S
  refine wpAny_mono (h n s (fun p hp => (List.mem_append.mp (hX p hp)).elim (hX' p) (hB' p)) (fun p hp => hB' p (hB p hp)) S) ?_ fun _ _ e => e
  rintro v s' ⟨tl, sh, S', r⟩
  exact ⟨tl, sh, S', hR _ _ _ (sub_app hB) r⟩
theorem Tr.up' {t : Sem α} {R : Led → α → Prop} {tl : Led} (h : Tr prog w A h₀ L m X B t R) (hR : Mo R) : Tr prog w A h₀ L m X (tl ++ B) t R := h.up hR sub_left sub_right

theorem Tr.pure {v : α} {R : Led → α → Prop} (r : R B v) : Tr prog w A h₀ L m X B (Pure.pure v) R := fun _ s _ _ S => wpAny_pure ⟨[], Sh.refl s, S, r⟩

/-- a tree that ends with one value and leaves all as it is -/
theorem Tr.same {t : Sem α} {v : α} {R : Led → α → Prop} (h : ∀ (Q : α → Shared → Prop) n s, (∀ p ∈ X, p ∈ n) → (∀ p ∈ B, p ∈ n) → St h₀ L m n s.heap → Q v s → wpAny (model prog w) A t Q NF s) (r : R B v) : Tr prog w A h₀ L m X B t R :=
  fun n s hX hB S => h _ n s hX hB S ⟨[], Sh.refl s, S, r⟩

theorem St.keeps {n : Led} {h h' : Heap} (S : St h₀ L m n h) (k : ∀ b o, h.get? b = some o → h'.get? b = some o) : St h₀ L m n h' := ⟨S.F.keeps k, S.N.grown k, S.nd⟩
theorem St.cons {n : Led} {h h' : Heap} {D : Addr} {o : Obj} (S : St h₀ L m n h) (F : Fr h₀ L h' m) (N : News h₀ L h' ((D, o) :: n)) (hD : ∀ p ∈ n, p.1 < D) : St h₀ L m ((D, o) :: n) h' :=
  ⟨F, N, by
    rw [List.map_cons, List.nodup_cons]
    refine ⟨fun hm => ?_, S.nd⟩
    obtain ⟨p, hp, e⟩ := List.mem_map.mp hm
    have := hD p hp
    rw [e] at this
    exact Nat.lt_irrefl _ this⟩
theorem St.lt {n : Led} {h : Heap} (S : St h₀ L m n h) : ∀ p ∈ n, p.1 < h.objs.size := fun p hp => Heap.lt_size (S.N p hp).1
theorem St.perm {n n' : Led} {h : Heap} (S : St h₀ L m n h) (p : n'.Perm n) : St h₀ L m n' h :=
  ⟨S.F, fun q hq => S.N q (p.mem_iff.mp hq), (p.map _).nodup_iff.mpr S.nd⟩
theorem St.tail {a n : Led} {h : Heap} (S : St h₀ L m (a ++ n) h) : St h₀ L m n h :=
  ⟨S.F, fun q hq => S.N q (sub_right q hq), by have := S.nd; rw [List.map_append] at this; exact (List.nodup_append.mp this).2.1⟩
theorem St.toks {n : Led} {h : Heap} (S : St h₀ L m n h) : St h₀ L m n h := S

/-- a new object on the ledger -/
theorem post_new {n : Led} {s s' : Shared} {D : Addr} {o : Obj} {v : α} {R : Led → α → Prop} (S : St h₀ L m n s.heap) (sh : Sh s s') (F : Fr h₀ L s'.heap m) (N : News h₀ L s'.heap ((D, o) :: n)) (hD : ∀ p ∈ n, p.1 < D) (r : R ((D, o) :: B) v) :
    Post h₀ L m n B s R v s' := ⟨[(D, o)], sh, S.cons F N hD, r⟩
theorem post_same {n : Led} {s s' : Shared} {v : α} {R : Led → α → Prop} (S : St h₀ L m n s.heap) (sh : Sh s s') (F : Fr h₀ L s'.heap m) (N : News h₀ L s'.heap n) (r : R B v) : Post h₀ L m n B s R v s' := ⟨[], sh, ⟨F, N, S.nd⟩, r⟩
theorem post_toks {n : Led} {s s' : Shared} {v : α} {R : Led → α → Prop} (S : St h₀ L m n s.heap) (sh : Sh s s') (e : s'.heap = s.heap) (r : R B v) : Post h₀ L m n B s R v s' := ⟨[], sh, by rw [e]; exact S, r⟩
end

abbrev IsD (d : Dat) : Led → Value → Prop := fun n v => DatIn n v d
theorem mo_isD (d : Dat) : Mo (IsD d) := fun _ _ _ h x => x.mono h
abbrev IsB (b : Bool) : Led → Bool → Prop := fun _ c => c = b
theorem mo_isB (b : Bool) : Mo (IsB b) := fun _ _ _ _ x => x
theorem dIn {B : Led} {v : Value} {d : Dat} (tl : Led) (h : DatIn B v d) : DatIn (tl ++ B) v d := h.mono sub_right
theorem dAll {B : Led} {v : List Value} {d : List Dat} (tl : Led) (h : DatAll B v d) : DatAll (tl ++ B) v d := h.mono sub_right

/-- what holds of the frame at hand and of the module -/
structure Cx (prog : Program) (w : World) (K : Frag) (A : Around) (env : Env) (h₀ : Heap) (L : Addr) (dp un : Nat) : Prop where
  ex : ∃ A₀ base outer, Below A₀ base outer h₀ ∧ A.frames = some (env :: outer)
  X : K.In h₀
  T : ∃ p loose mean mg mb, Top p loose mean mg mb h₀
  hh : A.handled = none
  hf : env.frame = some L
  hk : env.scope.kind = .function
  d : A.depth ≤ dp
  u : A.units ≤ un

end Mine

namespace Mine

section
variable {prog : Program} {w : World} {A : Around} {h₀ : Heap} {L : Addr} {m : Loc} {X B : Led} {α β : Type}

theorem Post.chain {n tl : Led} {s s' : Shared} {R : Led → α → Prop} (sh : Sh s s') {v : α} {s'' : Shared} (p : Post h₀ L m (tl ++ n) (tl ++ B) s' R v s'') : Post h₀ L m n B s R v s'' := by
  obtain ⟨tl', sh', S', r'⟩ := p
  exact ⟨tl' ++ tl, sh.trans sh', by rw [List.append_assoc]; exact S', by rw [List.append_assoc]; exact r'⟩

theorem Tr.go {t : Sem α} {R : Led → α → Prop} {n : Led} {s : Shared} {Q : α → Shared → Prop} (h : Tr prog w A h₀ L m X B t R) (hX : ∀ p ∈ X, p ∈ n) (hB : ∀ p ∈ B, p ∈ n) (S : St h₀ L m n s.heap)
    (k : ∀ tl v s', Sh s s' → St h₀ L m (tl ++ n) s'.heap → R (tl ++ B) v → Q v s') : wpAny (model prog w) A t Q NF s :=
  wpAny_mono (h n s hX hB S) (fun v s' ⟨tl, sh, S', r⟩ => k tl v s' sh S' r) fun _ _ e => e

/-- go on behind a value: the base has grown -/
theorem Tr.next {t : Sem α} {n tl : Led} {s s' : Shared} {R : Led → α → Prop} (h : Tr prog w A h₀ L m X (tl ++ B) t R) (hX : ∀ p ∈ X, p ∈ n) (hB : ∀ p ∈ B, p ∈ n) (sh : Sh s s') (S : St h₀ L m (tl ++ n) s'.heap) :
    wpAny (model prog w) A t (Post h₀ L m n B s R) NF s' :=
  wpAny_mono (h (tl ++ n) s' (sub_rr hX) (sub_app hB) S) (fun _ _ p => Post.chain sh p) fun _ _ e => e

variable {env : Env}

theorem ev_int {i : Int} {k pos} : Tr prog w A h₀ L m X B (eval (.Constant (.int i) k pos) env) (IsD (.int i)) :=
  fun _ s _ _ S => wpAny_Constant_int ⟨[], Sh.mk s _ _, S, .int _ _⟩
theorem ev_bool {b : Bool} {k pos} : Tr prog w A h₀ L m X B (eval (.Constant (.bool b) k pos) env) (fun _ v => v = .bool b) :=
  fun _ s _ _ S => wpAny_Constant_bool ⟨[], Sh.refl s, S, rfl⟩
theorem ev_str {x : Str} {k pos} : Tr prog w A h₀ L m X B (eval (.Constant (.str x) k pos) env) (IsD (.str x)) :=
  fun _ s _ _ S => wpAny_Constant_str ⟨[], Sh.mk s _ _, S, .str _ _⟩

theorem ev_bin {l r op pos} {R₁ R₂ R : Led → Value → Prop} (h1 : Tr prog w A h₀ L m X B (eval l env) R₁) (h2 : Tr prog w A h₀ L m X B (eval r env) R₂) (m1 : Mo R₁) (m2 : Mo R₂)
    (k : ∀ tl a b, R₁ (tl ++ B) a → R₂ (tl ++ B) b → Tr prog w A h₀ L m X (tl ++ B) (binaryOp op a b) R) : Tr prog w A h₀ L m X B (eval (.BinOp l op r pos) env) R := by
  intro n s hX hB S
  refine wpAny_BinOp (h1.go hX hB S fun tl a s1 sh1 S1 r1 => ?_)
  refine (h2.up' m2 (tl := tl)).go (sub_rr hX) (sub_app hB) S1 fun tl2 b s2 sh2 S2 r2 => ?_
  rw [← List.append_assoc] at S2 r2
  exact (k (tl2 ++ tl) a b (by rw [List.append_assoc]; exact m1 _ _ _ sub_right r1) r2).next hX hB (sh1.trans sh2) S2

theorem ev_cmp {l r op pos} {R₁ R₂ R : Led → Value → Prop} (h1 : Tr prog w A h₀ L m X B (eval l env) R₁) (h2 : Tr prog w A h₀ L m X B (eval r env) R₂) (m1 : Mo R₁) (m2 : Mo R₂)
    (k : ∀ tl a b, R₁ (tl ++ B) a → R₂ (tl ++ B) b → Tr prog w A h₀ L m X (tl ++ B) (compareOp op a b) R)
    (hm : behindInMarks op r = false := by with_unfolding_all rfl) : Tr prog w A h₀ L m X B (eval (.Compare l [op] [r] pos) env) R := by
  intro n s hX hB S
  refine wpAny_Compare1 (hm := hm) (h1.go hX hB S fun tl a s1 sh1 S1 r1 => ?_)
  refine (h2.up' m2 (tl := tl)).go (sub_rr hX) (sub_app hB) S1 fun tl2 b s2 sh2 S2 r2 => ?_
  rw [← List.append_assoc] at S2 r2
  exact (k (tl2 ++ tl) a b (by rw [List.append_assoc]; exact m1 _ _ _ sub_right r1) r2).next hX hB (sh1.trans sh2) S2

theorem tr_truthy_bool {b : Bool} : Tr prog w A h₀ L m X B (truthy (.bool b)) (IsB b) := fun _ s _ _ S => wpAny_truthy_bool ⟨[], Sh.refl s, S, rfl⟩

/-- a comparison as a test -/
theorem ts_cmp {l r op pos whole} {b : Bool} {R₁ R₂ : Led → Value → Prop} (h1 : Tr prog w A h₀ L m X B (eval l env) R₁) (h2 : Tr prog w A h₀ L m X B (eval r env) R₂) (m1 : Mo R₁) (m2 : Mo R₂)
    (k : ∀ tl x y, R₁ (tl ++ B) x → R₂ (tl ++ B) y → Tr prog w A h₀ L m X (tl ++ B) (compareOp op x y) (fun _ v => v = .bool b))
    (hm : behindInMarks op r = false := by with_unfolding_all rfl) : Tr prog w A h₀ L m X B (isTrue (.Compare l [op] [r] pos) env whole) (IsB b) := by
  intro n s hX hB S
  refine wpAny_isTrue_Compare1 (hm := hm) (h1.go hX hB S fun tl a s1 sh1 S1 r1 => ?_)
  refine (h2.up' m2 (tl := tl)).go (sub_rr hX) (sub_app hB) S1 fun tl2 y s2 sh2 S2 r2 => ?_
  rw [← List.append_assoc] at S2 r2
  refine wpAny_mono (k (tl2 ++ tl) a y (by rw [List.append_assoc]; exact m1 _ _ _ sub_right r1) r2 _ _ (sub_rr hX) (sub_app hB) S2) ?_ fun _ _ e => e
  rintro v s3 ⟨tl3, sh3, S3, rfl⟩
  rw [← List.append_assoc] at S3
  exact wpAny_truthy_bool ⟨_, (sh1.trans sh2).trans sh3, S3, rfl⟩

/-- a value as a test -/
theorem ts_val {e : Expr} {b : Bool} (h : Tr prog w A h₀ L m X B (eval e env) (fun _ v => v = .bool b))
    (he : isTrue e env (eval e env) = (do let v ← eval e env; standAt e.pos; holding [v] (truthy v)) := by rfl) : Tr prog w A h₀ L m X B (isTrue e env (eval e env)) (IsB b) := by
  intro n s hX hB S
  refine wpAny_isTrue_value (he := he) (h.go hX hB S fun tl v s1 sh1 S1 r1 => ?_)
  subst r1
  exact wpAny_truthy_bool ⟨tl, sh1, S1, rfl⟩
theorem ts_name_bool {x pos} {b : Bool} (h : Tr prog w A h₀ L m X B (eval (.Name x pos) env) (fun _ v => v = .bool b)) : Tr prog w A h₀ L m X B (isTrue (.Name x pos) env (eval (.Name x pos) env)) (IsB b) := ts_val h

theorem ts_not {e : Expr} {pos whole} {b : Bool} (h : Tr prog w A h₀ L m X B (isTrue e env (eval e env)) (IsB b)) : Tr prog w A h₀ L m X B (isTrue (.UnaryOp .Not e pos) env whole) (IsB (!b)) := by
  intro n s hX hB S
  refine wpAny_isTrue_Not (h.go hX hB S fun tl v s1 sh1 S1 r1 => ?_)
  subst r1
  exact ⟨tl, sh1, S1, rfl⟩

theorem ts_and2 {e₁ e₂ : Expr} {pos whole} {b c : Bool} (h1 : Tr prog w A h₀ L m X B (isTrue e₁ env (eval e₁ env)) (IsB b)) (h2 : b = true → Tr prog w A h₀ L m X B (isTrue e₂ env (eval e₂ env)) (IsB c)) :
    Tr prog w A h₀ L m X B (isTrue (.BoolOp .And [e₁, e₂] pos) env whole) (IsB (b && c)) := by
  intro n s hX hB S
  refine wpAny_isTrue_BoolOp (wpAny_allTrue_And_cons (h1.go hX hB S fun tl v s1 sh1 S1 r1 => ?_))
  subst r1
  cases v with
  | false => exact ⟨tl, sh1, S1, rfl⟩
  | true =>
    simp only [if_true]
    refine wpAny_allTrue_And_cons (((h2 rfl).up' (mo_isB _) (tl := tl)).go (sub_rr hX) (sub_app hB) S1 fun tl2 v s2 sh2 S2 r2 => ?_)
    subst r2
    rw [← List.append_assoc] at S2
    cases v with
    | false => exact ⟨_, sh1.trans sh2, S2, rfl⟩
    | true => exact wpAny_allTrue_And_nil ⟨_, sh1.trans sh2, S2, rfl⟩
theorem ts_or2 {e₁ e₂ : Expr} {pos whole} {b c : Bool} (h1 : Tr prog w A h₀ L m X B (isTrue e₁ env (eval e₁ env)) (IsB b)) (h2 : b = false → Tr prog w A h₀ L m X B (isTrue e₂ env (eval e₂ env)) (IsB c)) :
    Tr prog w A h₀ L m X B (isTrue (.BoolOp .Or [e₁, e₂] pos) env whole) (IsB (b || c)) := by
  intro n s hX hB S
  refine wpAny_isTrue_BoolOp (wpAny_allTrue_Or_cons (h1.go hX hB S fun tl v s1 sh1 S1 r1 => ?_))
  subst r1
  cases v with
  | true => exact ⟨tl, sh1, S1, rfl⟩
  | false =>
    simp only [Bool.false_eq_true, if_false]
    refine wpAny_allTrue_Or_cons (((h2 rfl).up' (mo_isB _) (tl := tl)).go (sub_rr hX) (sub_app hB) S1 fun tl2 v s2 sh2 S2 r2 => ?_)
    subst r2
    rw [← List.append_assoc] at S2
    cases v with
    | true => exact ⟨_, sh1.trans sh2, S2, rfl⟩
    | false => exact wpAny_allTrue_Or_nil ⟨_, sh1.trans sh2, S2, rfl⟩

/-- x and y as a value, both bools -/
theorem ev_and2 {e₁ e₂ : Expr} {pos} {b c : Bool} (h1 : Tr prog w A h₀ L m X B (eval e₁ env) (fun _ v => v = .bool b)) (h2 : b = true → Tr prog w A h₀ L m X B (eval e₂ env) (fun _ v => v = .bool c)) :
    Tr prog w A h₀ L m X B (eval (.BoolOp .And [e₁, e₂] pos) env) (fun _ v => v = .bool (b && c)) := by
  intro n s hX hB S
  refine wpAny_And2 (h1.go hX hB S fun tl v s1 sh1 S1 r1 => ?_)
  subst r1
  refine wpAny_truthy_bool ?_
  cases b with
  | false => exact ⟨tl, sh1, S1, rfl⟩
  | true =>
    simp only [if_true]
    exact ((h2 rfl).up' (fun _ _ _ _ x => x) (tl := tl)).next hX hB sh1 S1

theorem ev_ifexp {t a b : Expr} {pos} {c : Bool} {R : Led → Value → Prop} (ht : Tr prog w A h₀ L m X B (isTrue t env (eval t env)) (IsB c)) (hR : Mo R)
    (h1 : c = true → Tr prog w A h₀ L m X B (eval a env) R) (h2 : c = false → Tr prog w A h₀ L m X B (eval b env) R) : Tr prog w A h₀ L m X B (eval (.IfExp t a b pos) env) R := by
  intro n s hX hB S
  refine wpAny_IfExp (ht.go hX hB S fun tl v s1 sh1 S1 r1 => ?_)
  subst r1
  cases v with
  | true => simp only [if_true]; exact ((h1 rfl).up' hR (tl := tl)).next hX hB sh1 S1
  | false => simp only [Bool.false_eq_true, if_false]; exact ((h2 rfl).up' hR (tl := tl)).next hX hB sh1 S1

/-- the items of a display, the arguments of a call -/
theorem tr_items_nil {pos : Pos} : Tr prog w A h₀ L m X B (spliced (backTo pos (starEach [] env))) (fun _ vs => vs = []) := fun _ s _ _ S => wpAny_items_nil ⟨[], Sh.refl s, S, rfl⟩
theorem tr_items_cons {pos : Pos} {e : Expr} {rest : List Expr} {R₁ : Led → Value → Prop} {R₂ : Led → List Value → Prop} (m1 : Mo R₁) (m2 : Mo R₂) (h1 : Tr prog w A h₀ L m X B (eval e env) R₁) (h2 : Tr prog w A h₀ L m X B (spliced (backTo pos (starEach rest env))) R₂)
    (he : starEach (e :: rest) env = (false, eval e env) :: starEach rest env := by rfl) :
    Tr prog w A h₀ L m X B (spliced (backTo pos (starEach (e :: rest) env))) (fun n vs => ∃ v r, vs = v :: r ∧ R₁ n v ∧ R₂ n r) := by
  intro n s hX hB S
  refine wpAny_items_cons (he := he) (h1.go hX hB S fun tl v s1 sh1 S1 r1 => ?_)
  refine (h2.up' m2 (tl := tl)).go (sub_rr hX) (sub_app hB) S1 fun tl2 vs s2 sh2 S2 r2 => ?_
  rw [← List.append_assoc] at S2 r2
  exact ⟨tl2 ++ tl, sh1.trans sh2, S2, v, vs, rfl, by rw [List.append_assoc]; exact m1 _ _ _ sub_right r1, r2⟩
theorem mo_eq {α : Type} {x : α} : Mo (fun (_ : Led) v => v = x) := fun _ _ _ _ e => e
theorem mo_cons {R₁ : Led → Value → Prop} {R₂ : Led → List Value → Prop} (m1 : Mo R₁) (m2 : Mo R₂) : Mo (fun n vs => ∃ v r, vs = v :: r ∧ R₁ n v ∧ R₂ n r) :=
  fun _ _ _ h ⟨v, r, e, a, b⟩ => ⟨v, r, e, m1 _ _ _ h a, m2 _ _ _ h b⟩
theorem items1 {pos : Pos} {e : Expr} {R₁ : Led → Value → Prop} (m1 : Mo R₁) (h1 : Tr prog w A h₀ L m X B (eval e env) R₁) (he : starEach [e] env = (false, eval e env) :: starEach [] env := by rfl) :
    Tr prog w A h₀ L m X B (spliced (backTo pos (starEach [e] env))) (fun n vs => ∃ v, vs = [v] ∧ R₁ n v) :=
  (tr_items_cons m1 mo_eq h1 tr_items_nil he).mono fun _ _ ⟨v, _, e, a, b⟩ => ⟨v, by rw [e, b], a⟩
theorem items2 {pos : Pos} {e₁ e₂ : Expr} {R₁ R₂ : Led → Value → Prop} (m1 : Mo R₁) (m2 : Mo R₂) (h1 : Tr prog w A h₀ L m X B (eval e₁ env) R₁) (h2 : Tr prog w A h₀ L m X B (eval e₂ env) R₂)
    (he₁ : starEach [e₁, e₂] env = (false, eval e₁ env) :: starEach [e₂] env := by rfl) (he₂ : starEach [e₂] env = (false, eval e₂ env) :: starEach [] env := by rfl) :
    Tr prog w A h₀ L m X B (spliced (backTo pos (starEach [e₁, e₂] env))) (fun n vs => ∃ a b, vs = [a, b] ∧ R₁ n a ∧ R₂ n b) :=
  (tr_items_cons m1 (fun _ _ _ h ⟨v, e, a⟩ => ⟨v, e, m2 _ _ _ h a⟩) h1 (items1 m2 h2 he₂) he₁).mono fun _ _ ⟨v, _, e, a, b, e', c⟩ => ⟨v, b, by rw [e, e'], a, c⟩
theorem mo1 {R₁ : Led → Value → Prop} (m1 : Mo R₁) : Mo (fun n vs => ∃ v, vs = [v] ∧ R₁ n v) := fun _ _ _ h ⟨v, e, a⟩ => ⟨v, e, m1 _ _ _ h a⟩
theorem mo2 {R₁ R₂ : Led → Value → Prop} (m1 : Mo R₁) (m2 : Mo R₂) : Mo (fun n vs => ∃ a b, vs = [a, b] ∧ R₁ n a ∧ R₂ n b) := fun _ _ _ h ⟨a, b, e, x, y⟩ => ⟨a, b, e, m1 _ _ _ h x, m2 _ _ _ h y⟩
theorem items3 {pos : Pos} {e₁ e₂ e₃ : Expr} {R₁ R₂ R₃ : Led → Value → Prop} (m1 : Mo R₁) (m2 : Mo R₂) (m3 : Mo R₃) (h1 : Tr prog w A h₀ L m X B (eval e₁ env) R₁) (h2 : Tr prog w A h₀ L m X B (eval e₂ env) R₂) (h3 : Tr prog w A h₀ L m X B (eval e₃ env) R₃)
    (he₁ : starEach [e₁, e₂, e₃] env = (false, eval e₁ env) :: starEach [e₂, e₃] env := by rfl) (he₂ : starEach [e₂, e₃] env = (false, eval e₂ env) :: starEach [e₃] env := by rfl) (he₃ : starEach [e₃] env = (false, eval e₃ env) :: starEach [] env := by rfl) :
    Tr prog w A h₀ L m X B (spliced (backTo pos (starEach [e₁, e₂, e₃] env))) (fun n vs => ∃ a b c, vs = [a, b, c] ∧ R₁ n a ∧ R₂ n b ∧ R₃ n c) :=
  (tr_items_cons m1 (mo2 m2 m3) h1 (items2 m2 m3 h2 h3 he₂ he₃) he₁).mono fun _ _ ⟨v, _, e, a, b, c, e', x, y⟩ => ⟨v, b, c, by rw [e, e'], a, x, y⟩
theorem mo3 {R₁ R₂ R₃ : Led → Value → Prop} (m1 : Mo R₁) (m2 : Mo R₂) (m3 : Mo R₃) : Mo (fun n vs => ∃ a b c, vs = [a, b, c] ∧ R₁ n a ∧ R₂ n b ∧ R₃ n c) :=
  fun _ _ _ h ⟨a, b, c, e, x, y, z⟩ => ⟨a, b, c, e, m1 _ _ _ h x, m2 _ _ _ h y, m3 _ _ _ h z⟩
theorem items4 {pos : Pos} {e₁ e₂ e₃ e₄ : Expr} {R₁ R₂ R₃ R₄ : Led → Value → Prop} (m1 : Mo R₁) (m2 : Mo R₂) (m3 : Mo R₃) (m4 : Mo R₄) (h1 : Tr prog w A h₀ L m X B (eval e₁ env) R₁) (h2 : Tr prog w A h₀ L m X B (eval e₂ env) R₂) (h3 : Tr prog w A h₀ L m X B (eval e₃ env) R₃) (h4 : Tr prog w A h₀ L m X B (eval e₄ env) R₄)
    (he₁ : starEach [e₁, e₂, e₃, e₄] env = (false, eval e₁ env) :: starEach [e₂, e₃, e₄] env := by rfl) (he₂ : starEach [e₂, e₃, e₄] env = (false, eval e₂ env) :: starEach [e₃, e₄] env := by rfl) (he₃ : starEach [e₃, e₄] env = (false, eval e₃ env) :: starEach [e₄] env := by rfl) (he₄ : starEach [e₄] env = (false, eval e₄ env) :: starEach [] env := by rfl) :
    Tr prog w A h₀ L m X B (spliced (backTo pos (starEach [e₁, e₂, e₃, e₄] env))) (fun n vs => ∃ a b c d, vs = [a, b, c, d] ∧ R₁ n a ∧ R₂ n b ∧ R₃ n c ∧ R₄ n d) :=
  (tr_items_cons m1 (mo3 m2 m3 m4) h1 (items3 m2 m3 m4 h2 h3 h4 he₂ he₃ he₄) he₁).mono fun _ _ ⟨v, _, e, a, b, c, d, e', x, y, z⟩ => ⟨v, b, c, d, by rw [e, e'], a, x, y, z⟩

/-- a list display of data -/
theorem tr_newList {vs : List Value} {ds : List Dat} (h : DatAll B vs ds) (hz : ds.length ≤ sizeLine) : Tr prog w A h₀ L m X B (newList vs) (IsD (.list ds)) := by
  intro n s hX hB S
  refine newList_N S.F S.N (fun h' F' N' => ?_) (by rw [h.length]; exact hz)
  refine post_new S (Sh.mk s h' s.toks) F' N' S.lt ?_
  exact DatIn.list (List.mem_cons_self ..) (h.mono fun p hp => List.mem_cons_of_mem _ hp)
theorem tr_newTuple {vs : List Value} {ds : List Dat} (h : DatAll B vs ds) (hz : ds.length ≤ sizeLine) : Tr prog w A h₀ L m X B (newTuple vs) (IsD (.tuple ds)) := by
  intro n s hX hB S
  refine newTuple_N S.F S.N (fun h' F' N' => ?_) (by rw [h.length]; exact hz)
  refine post_new S (Sh.mk s h' s.toks) F' N' S.lt ?_
  exact DatIn.tuple (List.mem_cons_self ..) (h.mono fun p hp => List.mem_cons_of_mem _ hp)
theorem ev_list {elts pos} {R : Led → List Value → Prop} {ds : List Dat} (h : Tr prog w A h₀ L m X B (spliced (backTo pos (starEach elts env))) R) (k : ∀ n vs, R n vs → DatAll n vs ds) (hz : ds.length ≤ sizeLine) :
    Tr prog w A h₀ L m X B (eval (.List elts pos) env) (IsD (.list ds)) := by
  intro n s hX hB S
  refine List_ (h.go hX hB S fun tl vs s1 sh1 S1 r1 => ?_)
  exact (tr_newList (k _ _ r1) hz).next hX hB sh1 S1
theorem ev_tuple {elts k pos} {R : Led → List Value → Prop} {ds : List Dat} (h : Tr prog w A h₀ L m X B (spliced (backTo pos (starEach elts env))) R) (kk : ∀ n vs, R n vs → DatAll n vs ds) (hz : ds.length ≤ sizeLine) :
    Tr prog w A h₀ L m X B (eval (.Tuple elts k pos) env) (IsD (.tuple ds)) := by
  intro n s hX hB S
  refine Tuple_ (h.go hX hB S fun tl vs s1 sh1 S1 r1 => ?_)
  exact (tr_newTuple (kk _ _ r1) hz).next hX hB sh1 S1
end
end Mine

namespace Mine

theorem DatAll.take {n : Led} {vs : List Value} {ds : List Dat} (h : DatAll n vs ds) : ∀ k, DatAll n (vs.take k) (ds.take k) := by
  induction vs generalizing ds with
  | nil => cases h; intro k; simp; exact .nil
  | cons v vs ih =>
    cases h with
    | cons a r =>
      intro k
      cases k with
      | zero => simp; exact .nil
      | succ k => simp only [List.take_succ_cons]; exact .cons a (ih r k)
theorem DatAll.drop {n : Led} {vs : List Value} {ds : List Dat} (h : DatAll n vs ds) : ∀ k, DatAll n (vs.drop k) (ds.drop k) := by
  induction vs generalizing ds with
  | nil => cases h; intro k; simp; exact .nil
  | cons v vs ih =>
    cases h with
    | cons a r =>
      intro k
      cases k with
      | zero => simp; exact .cons a r
      | succ k => simp only [List.drop_succ_cons]; exact ih r k
theorem DatAll.item {n : Led} {vs : List Value} {ds : List Dat} (h : DatAll n vs ds) : ∀ (i : Nat) (v : Value), vs[i]? = some v → ∃ d, ds[i]? = some d ∧ DatIn n v d := by
  induction vs generalizing ds with
  | nil => cases h; intro i v e; simp at e
  | cons u vs ih =>
    cases h with
    | cons a r =>
      intro i v e
      cases i with
      | zero => simp at e; subst e; exact ⟨_, rfl, a⟩
      | succ i => simp at e; exact ih r i v e

def dI (l : List Int) : List Dat := l.map Dat.int
def dL (l : List Int) : Dat := .list (dI l)
def dLL (l : List (List Int)) : Dat := .list (l.map dL)
theorem intsAre {n : Led} {vs : List Value} {l : List Int} (h : DatAll n vs (dI l)) : IntsAre vs l := by
  induction l generalizing vs with
  | nil => cases h; exact .nil
  | cons i l ih =>
    cases h with
    | cons a r => cases a; exact .cons _ _ (ih r)
theorem dI_length (l : List Int) : (dI l).length = l.length := List.length_map _
theorem ofInts {vs : List Value} {l : List Int} (n : Led) (h : IntsAre vs l) : DatAll n vs (dI l) := by
  induction h with
  | nil => exact .nil
  | cons i t _ ih => exact .cons (.int _ _) ih
theorem dI_inj {a b : List Int} : dI a = dI b ↔ a = b := by
  constructor
  · intro h
    induction a generalizing b with
    | nil => cases b with
      | nil => rfl
      | cons => simp [dI] at h
    | cons x a ih => cases b with
      | nil => simp [dI] at h
      | cons y b =>
        simp only [dI, List.map_cons, List.cons.injEq, Dat.int.injEq] at h
        rw [h.1, ih h.2]
  · intro h; rw [h]
theorem dL_inj {a b : List Int} : dL a = dL b ↔ a = b := by
  unfold dL; rw [Dat.list.injEq]; exact dI_inj
theorem dI_ok (l : List Int) : ∀ d ∈ dI l, kqdOk 8 d = true := by
  intro d h
  obtain ⟨i, _, rfl⟩ := List.mem_map.mp h
  rfl
theorem dI_ok7 (l : List Int) : ∀ d ∈ dI l, kqdOk 7 d = true := by
  intro d h
  obtain ⟨i, _, rfl⟩ := List.mem_map.mp h
  rfl
theorem dL_ok (l : List Int) : kqdOk 8 (dL l) = true := by
  unfold dL
  simp only [kqdOk, List.all_eq_true]
  exact dI_ok7 l
theorem dLs_ok (l : List (List Int)) : ∀ d ∈ l.map dL, kqdOk 8 d = true := by
  intro d h
  obtain ⟨i, _, rfl⟩ := List.mem_map.mp h
  exact dL_ok i
theorem dI_mem {i : Int} {l : List Int} : Dat.int i ∈ dI l ↔ i ∈ l := by
  unfold dI
  rw [List.mem_map]
  constructor
  · rintro ⟨a, h, e⟩; cases e; exact h
  · intro h; exact ⟨i, h, rfl⟩
theorem dLs_mem {i : List Int} {l : List (List Int)} : dL i ∈ l.map dL ↔ i ∈ l := by
  rw [List.mem_map]
  constructor
  · rintro ⟨a, h, e⟩; rw [dL_inj.mp e] at h; exact h
  · intro h; exact ⟨i, h, rfl⟩
theorem dLs_inj {a b : List (List Int)} : a.map dL = b.map dL ↔ a = b := by
  constructor
  · intro h
    induction a generalizing b with
    | nil => cases b with
      | nil => rfl
      | cons => simp at h
    | cons x a ih => cases b with
      | nil => simp at h
      | cons y b =>
        simp only [List.map_cons, List.cons.injEq] at h
        rw [dL_inj.mp h.1, ih h.2]
  · intro h; rw [h]
theorem dI_append (a b : List Int) : dI a ++ dI b = dI (a ++ b) := (List.map_append ..).symm
theorem dI_take (a : List Int) (k : Nat) : (dI a).take k = dI (a.take k) := (List.map_take ..).symm
theorem dI_drop (a : List Int) (k : Nat) : (dI a).drop k = dI (a.drop k) := (List.map_drop ..).symm
theorem dI_get (a : List Int) (k : Nat) : (dI a)[k]? = a[k]?.map Dat.int := List.getElem?_map ..

section
variable {prog : Program} {w : World} {A : Around} {h₀ : Heap} {L : Addr} {m : Loc} {X B : Led} {α β : Type} {env : Env}

theorem op_add_int {a b : Value} {i j : Int} (ha : DatIn B a (.int i)) (hb : DatIn B b (.int j)) : Tr prog w A h₀ L m X B (binaryOp .Add a b) (IsD (.int (i + j))) := by
  cases ha; cases hb
  exact fun n s _ _ S => add_int ⟨[], Sh.mk s _ _, S, .int _ _⟩
theorem op_sub_int {a b : Value} {i j : Int} (ha : DatIn B a (.int i)) (hb : DatIn B b (.int j)) : Tr prog w A h₀ L m X B (binaryOp .Sub a b) (IsD (.int (i - j))) := by
  cases ha; cases hb
  exact fun n s _ _ S => sub_int ⟨[], Sh.mk s _ _, S, .int _ _⟩
theorem op_mul_int {a b : Value} {i j : Int} (ha : DatIn B a (.int i)) (hb : DatIn B b (.int j)) (hm : IntMulOk i j) : Tr prog w A h₀ L m X B (binaryOp .Mult a b) (IsD (.int (i * j))) := by
  cases ha; cases hb
  exact fun n s _ _ S => mul_int ⟨[], Sh.mk s _ _, S, .int _ _⟩ hm
theorem op_mod_int {a b : Value} {i j : Int} (ha : DatIn B a (.int i)) (hb : DatIn B b (.int j)) (hj : j ≠ 0) : Tr prog w A h₀ L m X B (binaryOp .Mod a b) (IsD (.int (i.fmod j))) := by
  cases ha; cases hb
  exact fun n s _ _ S => mod_int' hj ⟨[], Sh.mk s _ _, S, .int _ _⟩
theorem op_div_int {a b : Value} {i j : Int} (ha : DatIn B a (.int i)) (hb : DatIn B b (.int j)) (hj : j ≠ 0) (hs : j.natAbs < 1073741824) : Tr prog w A h₀ L m X B (binaryOp .FloorDiv a b) (IsD (.int (i.fdiv j))) := by
  cases ha; cases hb
  exact fun n s _ _ S => floordiv_int hj ⟨[], Sh.mk s _ _, S, .int _ _⟩ (.inl (PyProof.noPylong_small hs))
theorem op_pow_int {a b : Value} {i j : Int} (ha : DatIn B a (.int i)) (hb : DatIn B b (.int j)) (h0 : 0 ≤ j) (h1 : j ≤ 1000000) (hi : i.natAbs < 2 ^ 64) : Tr prog w A h₀ L m X B (binaryOp .Pow a b) (IsD (.int (i ^ j.toNat))) := by
  cases ha; cases hb
  exact fun n s _ _ S => pow_int_small h0 h1 hi ⟨[], Sh.mk s _ _, S, .int _ _⟩
theorem op_mul_bool {a b : Value} {i : Int} {c : Bool} (ha : DatIn B a (.int i)) (hb : b = .bool c) : Tr prog w A h₀ L m X B (binaryOp .Mult a b) (IsD (.int (i * if c = true then (1 : Int) else 0))) := by
  cases ha; subst hb
  exact fun n s _ _ S => IntBool.mul_int_bool ⟨[], Sh.mk s _ _, S, .int _ _⟩
theorem op_add_list {a b : Value} {ds es : List Dat} (ha : DatIn B a (.list ds)) (hb : DatIn B b (.list es)) (hz : ds.length + es.length ≤ sizeLine) : Tr prog w A h₀ L m X B (binaryOp .Add a b) (IsD (.list (ds ++ es))) := by
  cases ha with
  | list h1 d1 =>
    cases hb with
    | list h2 d2 =>
      intro n s hX hB S
      refine add_arrays S.F S.N (News.isList S.N (hB _ h1)) (News.isList S.N (hB _ h2)) (fun h' F' N' => ?_) (by simp only [List.size_toArray]; rw [d1.length, d2.length]; exact hz)
      refine post_new S (Sh.mk s h' s.toks) F' N' S.lt ?_
      exact DatIn.list (List.mem_cons_self ..) ((d1.append d2).mono fun p hp => List.mem_cons_of_mem _ hp)
theorem op_add_str {a b : Value} {x y : Str} (ha : DatIn B a (.str x)) (hb : DatIn B b (.str y)) (hz : x.length + y.length ≤ sizeLine) : Tr prog w A h₀ L m X B (binaryOp .Add a b) (IsD (.str (x ++ y))) := by
  cases ha; cases hb
  exact fun n s _ _ S => add_str (fun t' tk => ⟨[], Sh.mk s s.heap tk, S, .str _ _⟩) hz

abbrev VB (b : Bool) : Led → Value → Prop := fun _ v => v = .bool b
theorem mo_VB (b : Bool) : Mo (VB b) := fun _ _ _ _ e => e

theorem cp_eq_int {a b : Value} {i j : Int} (ha : DatIn B a (.int i)) (hb : DatIn B b (.int j)) : Tr prog w A h₀ L m X B (compareOp .Eq a b) (VB (decide (i = j))) := by
  cases ha; cases hb
  exact fun n s _ _ S => eq_int ⟨[], Sh.refl s, S, congrArg Value.bool (Bool.eq_iff_iff.mpr (by simp))⟩
theorem cp_lt_int {a b : Value} {i j : Int} (ha : DatIn B a (.int i)) (hb : DatIn B b (.int j)) : Tr prog w A h₀ L m X B (compareOp .Lt a b) (VB (decide (i < j))) := by
  cases ha; cases hb
  exact fun n s _ _ S => lt_int ⟨[], Sh.refl s, S, rfl⟩
theorem cp_gt_int {a b : Value} {i j : Int} (ha : DatIn B a (.int i)) (hb : DatIn B b (.int j)) : Tr prog w A h₀ L m X B (compareOp .Gt a b) (VB (decide (j < i))) := by
  cases ha; cases hb
  exact fun n s _ _ S => gt_int ⟨[], Sh.refl s, S, rfl⟩
theorem cp_ge_int {a b : Value} {i j : Int} (ha : DatIn B a (.int i)) (hb : DatIn B b (.int j)) : Tr prog w A h₀ L m X B (compareOp .GtE a b) (VB (decide (j ≤ i))) := by
  cases ha; cases hb
  exact fun n s _ _ S => ge_int ⟨[], Sh.refl s, S, rfl⟩
theorem cp_eq_str {a b : Value} {x y : Str} (ha : DatIn B a (.str x)) (hb : DatIn B b (.str y)) : Tr prog w A h₀ L m X B (compareOp .Eq a b) (VB (x == y)) := by
  cases ha; cases hb
  exact fun n s _ _ S => eq_str ⟨[], Sh.refl s, S, rfl⟩
theorem cp_ne_str {a b : Value} {x y : Str} (ha : DatIn B a (.str x)) (hb : DatIn B b (.str y)) : Tr prog w A h₀ L m X B (compareOp .NotEq a b) (VB (x != y)) := by
  cases ha; cases hb
  exact fun n s _ _ S => ne_str ⟨[], Sh.refl s, S, rfl⟩
theorem cp_eq_bool {a b : Value} {x y : Bool} (ha : a = .bool x) (hb : b = .bool y) : Tr prog w A h₀ L m X B (compareOp .Eq a b) (VB (x == y)) := by
  subst ha; subst hb
  exact fun n s _ _ S => eq_bool ⟨[], Sh.refl s, S, rfl⟩
theorem cp_ne_bool {a b : Value} {x y : Bool} (ha : a = .bool x) (hb : b = .bool y) : Tr prog w A h₀ L m X B (compareOp .NotEq a b) (VB (x != y)) := by
  subst ha; subst hb
  exact fun n s _ _ S => ne_bool ⟨[], Sh.refl s, S, rfl⟩
theorem dec_eq {p : Prop} [Decidable p] {b : Bool} (h : b = true ↔ p) : decide p = b := by
  cases b with
  | true => exact decide_eq_true (h.mp rfl)
  | false => exact decide_eq_false fun q => by cases h.mpr q
theorem dec_ne {p : Prop} [Decidable p] {b : Bool} (h : b = true ↔ ¬ p) : (!decide p) = b := by
  by_cases q : p
  · rw [decide_eq_true q]
    cases b with
    | true => exact absurd q (h.mp rfl)
    | false => rfl
  · rw [decide_eq_false q]
    exact (h.mpr q).symm
theorem cp_eq_list {a b : Value} {ds es : List Dat} {c : Bool} (ha : DatIn B a (.list ds)) (hb : DatIn B b (.list es)) (h1 : ∀ d ∈ ds, kqdOk 8 d = true) (h2 : ∀ d ∈ es, kqdOk 8 d = true) (hu : A.units + 64 < cLine) (hc : c = true ↔ ds = es) :
    Tr prog w A h₀ L m X B (compareOp .Eq a b) (VB c) := by
  cases ha with
  | list m1 d1 =>
    cases hb with
    | list m2 d2 =>
      intro n s hX hB S
      refine kqd_eq S.N (hB _ m1) rfl rfl d1 hB (hB _ m2) rfl rfl d2 hB h1 h2 hu ⟨[], Sh.refl s, S, congrArg Value.bool (@dec_eq _ (_) _ hc)⟩
theorem cp_ne_list {a b : Value} {ds es : List Dat} {c : Bool} (ha : DatIn B a (.list ds)) (hb : DatIn B b (.list es)) (h1 : ∀ d ∈ ds, kqdOk 8 d = true) (h2 : ∀ d ∈ es, kqdOk 8 d = true) (hu : A.units + 64 < cLine) (hc : c = true ↔ ¬ ds = es) :
    Tr prog w A h₀ L m X B (compareOp .NotEq a b) (VB c) := by
  cases ha with
  | list m1 d1 =>
    cases hb with
    | list m2 d2 =>
      intro n s hX hB S
      refine kqd_ne S.N (hB _ m1) rfl rfl d1 hB (hB _ m2) rfl rfl d2 hB h1 h2 hu ⟨[], Sh.refl s, S, congrArg Value.bool (@dec_ne _ (_) _ hc)⟩
theorem cp_in_list {a b : Value} {d : Dat} {es : List Dat} {c : Bool} (ha : DatIn B a d) (hb : DatIn B b (.list es)) (h1 : kqdOk 8 d = true) (h2 : ∀ d ∈ es, kqdOk 8 d = true) (hu : A.units + 64 < cLine) (hc : c = true ↔ d ∈ es) :
    Tr prog w A h₀ L m X B (compareOp .In a b) (VB c) := by
  cases hb with
  | list m2 d2 =>
    intro n s hX hB S
    refine kqd_isIn S.N (hB _ m2) rfl rfl d2 hB ha hB h2 h1 hu ⟨[], Sh.refl s, S, congrArg Value.bool (@dec_eq _ (_) _ hc)⟩
theorem cp_notin_list {a b : Value} {d : Dat} {es : List Dat} {c : Bool} (ha : DatIn B a d) (hb : DatIn B b (.list es)) (h1 : kqdOk 8 d = true) (h2 : ∀ d ∈ es, kqdOk 8 d = true) (hu : A.units + 64 < cLine) (hc : c = true ↔ ¬ d ∈ es) :
    Tr prog w A h₀ L m X B (compareOp .NotIn a b) (VB c) := by
  cases hb with
  | list m2 d2 =>
    intro n s hX hB S
    refine kqd_notIn S.N (hB _ m2) rfl rfl d2 hB ha hB h2 h1 hu ⟨[], Sh.refl s, S, congrArg Value.bool (@dec_ne _ (_) _ hc)⟩

theorem strsAre {n : Led} {vs : List Value} {l : List Str} (h : DatAll n vs (l.map Dat.str)) : StrsAre vs l := by
  induction l generalizing vs with
  | nil => cases h; exact .nil
  | cons i l ih =>
    cases h with
    | cons a r => cases a; exact .cons _ _ (ih r)
theorem cp_in_tuple {a b : Value} {x : Str} {l : List Str} (ha : DatIn B a (.str x)) (hb : DatIn B b (.tuple (l.map Dat.str))) : Tr prog w A h₀ L m X B (compareOp .In a b) (VB (l.any (· == x))) := by
  cases ha
  cases hb with
  | tuple m2 d2 =>
    intro n s hX hB S
    exact in_tuple_strs (ys := l) ⟨_, S.N.get (hB _ m2), rfl, _, rfl⟩ (by simpa using strsAre d2) ⟨[], Sh.refl s, S, rfl⟩
end
end Mine

namespace Mine

theorem pick_upto (items : Array Value) {y : Int} (h : 0 ≤ y) : slicePick items none (some y) none = (items.toList.take y.toNat).toArray := by
  have e : sliceBounds none (some y) none items.size = (((0 : Nat) : Int), ((min y.toNat items.size : Nat) : Int), 1) := by
    simp only [sliceBounds, Option.getD_none, show (1 : Int) > 0 by decide, if_true, if_neg (show ¬ (y < 0) by omega)]
    congr 1
    congr 1
    omega
  rw [kmk_pick_nat _ e, List.drop_zero, Nat.sub_zero, show items.size = items.toList.length by simp, kmk_take_min]
theorem pick_from (items : Array Value) {x : Int} (h : 0 ≤ x) : slicePick items (some x) none none = (items.toList.drop x.toNat).toArray := by
  have e : sliceBounds (some x) none none items.size = (((min x.toNat items.size : Nat) : Int), ((items.size : Nat) : Int), 1) := by
    simp only [sliceBounds, Option.getD_none, show (1 : Int) > 0 by decide, if_true, if_neg (show ¬ (x < 0) by omega)]
    congr 1
    omega
  rw [kmk_pick_nat _ e, show items.size = items.toList.length by simp, kmk_drop_min, List.take_of_length_le (by rw [List.length_drop]; omega)]

theorem sub_mid {a b c : Led} : ∀ p ∈ b ++ c, p ∈ (a ++ b) ++ c := fun p hp => by rw [List.append_assoc]; exact sub_right p hp

section
variable {prog : Program} {w : World} {A : Around} {h₀ : Heap} {L : Addr} {m : Loc} {X B : Led} {α β : Type} {env : Env}

/-- xs[k] -/
theorem ev_item {value slice : Expr} {pos} {ds : List Dat} {k : Int} {d : Dat} (hv : Tr prog w A h₀ L m X B (eval value env) (IsD (.list ds))) (hi : Tr prog w A h₀ L m X B (eval slice env) (IsD (.int k)))
    (h0 : 0 ≤ k) (hd : ds[k.toNat]? = some d) (hfit : k < 2 ^ 63)
    (hs : ∀ l u, subscripted slice false (.ref l) (.int k u) = operate [.ref l, .int k u] (getItem (.ref l) (.int k u)) := by intro _ _; with_unfolding_all rfl) :
    Tr prog w A h₀ L m X B (eval (.Subscript value slice pos) env) (IsD d) := by
  intro n s hX hB S
  refine Subscript_ (hv.go hX hB S fun tl a s1 sh1 S1 r1 => ?_)
  refine (hi.up' (mo_isD _) (tl := tl)).go (sub_rr hX) (sub_app hB) S1 fun tl2 b s2 sh2 S2 r2 => ?_
  rw [← List.append_assoc] at S2
  cases r2
  cases r1 with
  | list hm hd' =>
    have hlt : k.toNat < ds.length := by
      rcases Nat.lt_or_ge k.toNat ds.length with h | h
      · exact h
      · rw [List.getElem?_eq_none h] at hd; cases hd
    refine kd_item S2.N (by rw [List.append_assoc]; exact sub_right _ (sub_app hB _ hm)) hd' h0 (by omega) hfit (fun v d' e _ r => ?_) (hs _ _)
    rw [hd] at e
    cases e
    exact ⟨tl2 ++ tl, sh1.trans sh2, S2, by rw [List.append_assoc]; exact r.mono sub_right⟩

/-- the slices xs[:k] and xs[k:] of a name -/
theorem ev_upto {x : Str} {px pos p : Pos} {e : Expr} {ds : List Dat} {k : Int} (hv : Tr prog w A h₀ L m X B (eval (.Name x px) env) (IsD (.list ds))) (hi : Tr prog w A h₀ L m X B (eval e env) (IsD (.int k)))
    (h0 : 0 ≤ k) (hz : ds.length ≤ sizeLine)
    (hs : ∀ l u, subscripted (.Slice none (some e) none p) false (.ref l) (.ref u) = operate [.ref u, .ref l] (getItem (.ref l) (.ref u)) := by intro _ _; with_unfolding_all rfl) :
    Tr prog w A h₀ L m X B (eval (.Subscript (.Name x px) (.Slice none (some e) none p) pos) env) (IsD (.list (ds.take k.toNat))) := by
  intro n s hX hB S
  refine Subscript_ (hv.go hX hB S fun tl a s1 sh1 S1 r1 => ?_)
  refine wpAny_Slice ?_
  rw [PySem.evalPart_none]
  refine wpAny_pure ?_
  rw [PySem.evalPart_some]
  refine (hi.up' (mo_isD _) (tl := tl)).go (sub_rr hX) (sub_app hB) S1 fun tl2 b s2 sh2 S2 r2 => wpAny_pure ?_
  rw [← List.append_assoc] at S2
  cases r2
  cases r1 with
  | list hm hd' =>
    rename_i l us c
    refine kmk_slice S2.F S2.N (News.isList S2.N (by rw [List.append_assoc]; exact sub_right _ (sub_app hB _ hm))) .none (.int _ _) (fun D h' F' N' l1 => ?_) (hs _ _) (fun _ => rfl) (by rw [List.size_toArray, hd'.length]; exact hz)
    rw [pick_upto _ h0] at N'
    refine ⟨(D, listOf (us.take k.toNat).toArray 0) :: (tl2 ++ tl), (sh1.trans sh2).trans (Sh.mk s2 h' s2.toks), S2.cons F' N' l1, ?_⟩
    exact DatIn.list (List.mem_cons_self ..) ((DatAll.take hd' _).mono fun p hp => List.mem_cons_of_mem _ (sub_mid p hp))
theorem ev_from {x : Str} {px pos p : Pos} {e : Expr} {ds : List Dat} {k : Int} (hv : Tr prog w A h₀ L m X B (eval (.Name x px) env) (IsD (.list ds))) (hi : Tr prog w A h₀ L m X B (eval e env) (IsD (.int k)))
    (h0 : 0 ≤ k) (hz : ds.length ≤ sizeLine)
    (hs : ∀ l u, subscripted (.Slice (some e) none none p) false (.ref l) (.ref u) = operate [.ref u, .ref l] (getItem (.ref l) (.ref u)) := by intro _ _; with_unfolding_all rfl) :
    Tr prog w A h₀ L m X B (eval (.Subscript (.Name x px) (.Slice (some e) none none p) pos) env) (IsD (.list (ds.drop k.toNat))) := by
  intro n s hX hB S
  refine Subscript_ (hv.go hX hB S fun tl a s1 sh1 S1 r1 => ?_)
  refine wpAny_Slice ?_
  rw [PySem.evalPart_some]
  refine (hi.up' (mo_isD _) (tl := tl)).go (sub_rr hX) (sub_app hB) S1 fun tl2 b s2 sh2 S2 r2 => ?_
  rw [PySem.evalPart_none]
  refine wpAny_pure (wpAny_pure ?_)
  rw [← List.append_assoc] at S2
  cases r2
  cases r1 with
  | list hm hd' =>
    rename_i l us c
    refine kmk_slice S2.F S2.N (News.isList S2.N (by rw [List.append_assoc]; exact sub_right _ (sub_app hB _ hm))) (.int _ _) .none (fun D h' F' N' l1 => ?_) (hs _ _) (fun _ => rfl) (by rw [List.size_toArray, hd'.length]; exact hz)
    rw [pick_from _ h0] at N'
    refine ⟨(D, listOf (us.drop k.toNat).toArray 0) :: (tl2 ++ tl), (sh1.trans sh2).trans (Sh.mk s2 h' s2.toks), S2.cons F' N' l1, ?_⟩
    exact DatIn.list (List.mem_cons_self ..) ((DatAll.drop hd' _).mono fun p hp => List.mem_cons_of_mem _ (sub_mid p hp))

/-- calls: of a built-in function, of a class, of a def -/
theorem ev_callB {f e : Expr} {rest : List Expr} {pos : Pos} {id : String} {RA : Led → List Value → Prop} {R : Led → Value → Prop} (hf : Tr prog w A h₀ L m X B (eval f env) (fun _ v => v = .builtin id))
    (ha : Tr prog w A h₀ L m X B (spliced (backTo pos (starEach (e :: rest) env))) RA) (mA : Mo RA) (k : ∀ tl vs, RA (tl ++ B) vs → Tr prog w A h₀ L m X (tl ++ B) (call (.builtin id) vs) R)
    (hc : eval (.Call f (e :: rest) [] pos) env = (do callWith pos (← eval f env) [] (backTo pos (starEach (e :: rest) env)) (backToKw pos (keywordEach [] env))) := by rfl)
    (he : starEach (e :: rest) env = (false, eval e env) :: starEach rest env := by rfl) (hplain : (backTo pos (starEach rest env)).any (·.1) = false := by rfl) :
    Tr prog w A h₀ L m X B (eval (.Call f (e :: rest) [] pos) env) R := by
  intro n s hX hB S
  refine Call_ (he := hc) (hf.go hX hB S fun tl v s1 sh1 S1 r1 => ?_)
  subst r1
  refine PyProof.Rows.callWith_builtin1 (he := he) (hplain := hplain) ((ha.up' mA (tl := tl)).go (sub_rr hX) (sub_app hB) S1 fun tl2 vs s2 sh2 S2 r2 => ?_)
  rw [← List.append_assoc] at S2 r2
  exact (k (tl2 ++ tl) vs r2).next hX hB (sh1.trans sh2) S2
theorem ev_callT {f e : Expr} {rest : List Expr} {pos : Pos} {T : String} {RA : Led → List Value → Prop} {R : Led → Value → Prop} (hf : Tr prog w A h₀ L m X B (eval f env) (fun _ v => v = .type T))
    (ha : Tr prog w A h₀ L m X B (spliced (backTo pos (starEach (e :: rest) env))) RA) (mA : Mo RA) (k : ∀ tl vs, RA (tl ++ B) vs → Tr prog w A h₀ L m X (tl ++ B) (call (.type T) vs) R)
    (hc : eval (.Call f (e :: rest) [] pos) env = (do callWith pos (← eval f env) [] (backTo pos (starEach (e :: rest) env)) (backToKw pos (keywordEach [] env))) := by rfl)
    (he : starEach (e :: rest) env = (false, eval e env) :: starEach rest env := by rfl) (hplain : (backTo pos (starEach rest env)).any (·.1) = false := by rfl) :
    Tr prog w A h₀ L m X B (eval (.Call f (e :: rest) [] pos) env) R := by
  intro n s hX hB S
  refine Call_ (he := hc) (hf.go hX hB S fun tl v s1 sh1 S1 r1 => ?_)
  subst r1
  refine PyProof.Rows.callWith_type1 (he := he) (hplain := hplain) ((ha.up' mA (tl := tl)).go (sub_rr hX) (sub_app hB) S1 fun tl2 vs s2 sh2 S2 r2 => ?_)
  rw [← List.append_assoc] at S2 r2
  exact (k (tl2 ++ tl) vs r2).next hX hB (sh1.trans sh2) S2
theorem ev_callF {K : Frag} {g : Addr} {f e : Expr} {rest : List Expr} {pos : Pos} {RA : Led → List Value → Prop} {R : Led → Value → Prop} (hK : K.In h₀) (hkeep : keepIn K (.ref g) = true) (hf : Tr prog w A h₀ L m X B (eval f env) (fun _ v => v = .ref g))
    (ha : Tr prog w A h₀ L m X B (spliced (backTo pos (starEach (e :: rest) env))) RA) (mA : Mo RA) (k : ∀ tl vs, RA (tl ++ B) vs → Tr prog w A h₀ L m X (tl ++ B) (call (.ref g) vs) R)
    (hc : eval (.Call f (e :: rest) [] pos) env = (do callWith pos (← eval f env) [] (backTo pos (starEach (e :: rest) env)) (backToKw pos (keywordEach [] env))) := by rfl)
    (he : starEach (e :: rest) env = (false, eval e env) :: starEach rest env := by rfl) (hplain : (backTo pos (starEach rest env)).any (·.1) = false := by rfl) :
    Tr prog w A h₀ L m X B (eval (.Call f (e :: rest) [] pos) env) R := by
  intro n s hX hB S
  refine Call_ (he := hc) (hf.go hX hB S fun tl v s1 sh1 S1 r1 => ?_)
  subst r1
  refine callWith_K (he := he) (hplain := hplain) hK hkeep ((ha.up' mA (tl := tl)).go (sub_rr hX) (sub_app hB) S1 fun tl2 vs s2 sh2 S2 r2 => ?_)
  rw [← List.append_assoc] at S2 r2
  exact ⟨hK.keeps S2.F.keep, (k (tl2 ++ tl) vs r2).next hX hB (sh1.trans sh2) S2⟩

theorem cl_len {v : Value} {ds : List Dat} (h : DatIn B v (.list ds)) (hz : ds.length < 2 ^ 63) : Tr prog w A h₀ L m X B (call (.builtin "len") [v]) (IsD (.int ds.length)) := by
  cases h with
  | list hm hd => exact fun n s hX hB S => kd_len S.N (hB _ hm) hd (by omega) ⟨[], Sh.mk s _ _, S, .int _ _⟩

/-- a range object -/
abbrev IsRg (a b : Int) : Led → Value → Prop := fun n v => ∃ r t u x, v = .ref r ∧ (r, ({ cls := .type "range", data := .fields #[.int a t, .int b u, .int 1 x] } : Obj)) ∈ n
theorem mo_IsRg (a b : Int) : Mo (IsRg a b) := fun _ _ _ h ⟨r, t, u, x, e, hm⟩ => ⟨r, t, u, x, e, h _ hm⟩
theorem tr_alloc {s : Shared} {n : Led} {o : Obj} {tk : Nat} {R : Led → Value → Prop} (S : St h₀ L m n s.heap) (ho : o.isFreed = false) (r : R ((s.heap.objs.size, o) :: B) (.ref s.heap.objs.size)) :
    Post h₀ L m n B s R (.ref s.heap.objs.size) { s with heap := s.heap.push o, toks := tk } :=
  post_new S (Sh.mk s _ _) (S.F.push o) (S.N.push S.F o ho) S.lt r
theorem cl_range1 {v : Value} {b : Int} (h : DatIn B v (.int b)) : Tr prog w A h₀ L m X B (call (.type "range") [v]) (IsRg 0 b) := by
  cases h
  exact fun n s hX hB S => call_range_1 (tr_alloc S rfl ⟨_, _, _, _, rfl, List.mem_cons_self ..⟩)
theorem cl_range2 {v u : Value} {a b : Int} (h : DatIn B v (.int a)) (h' : DatIn B u (.int b)) : Tr prog w A h₀ L m X B (call (.type "range") [v, u]) (IsRg a b) := by
  cases h; cases h'
  exact fun n s hX hB S => call_range_2 (tr_alloc S rfl ⟨_, _, _, _, rfl, List.mem_cons_self ..⟩)
theorem cl_sum {v : Value} {l : List Int} (hh : A.handled = none) (h : DatIn B v (dL l)) : Tr prog w A h₀ L m X B (call (.builtin "sum") [v]) (IsD (.int l.sum)) := by
  cases h with
  | list hm hd =>
    intro n s hX hB S
    exact LSm.sum_ints S.F S.N hh (News.isList S.N (hB _ hm)) (intsAre hd) fun h' tk t' F' N' => post_same S (Sh.mk s h' tk) F' N' (.int _ _)
theorem cl_sorted {v : Value} {l : List Int} (h : DatIn B v (dL l)) (h64 : l.length < 64) : Tr prog w A h₀ L m X B (call (.builtin "sorted") [v]) (fun n v => ∃ l' : List Int, l'.Perm l ∧ l'.Pairwise (· ≤ ·) ∧ DatIn n v (dL l')) := by
  cases h with
  | list hm hd =>
    intro n s hX hB S
    refine kso_sorted S.F S.N (News.isList S.N (hB _ hm)) (intsAre hd) h64 fun D vs' ns' c h' F' N' l1 hI _ hp hs _ => ?_
    refine post_new S (Sh.mk s h' s.toks) F' N' l1 ⟨ns', hp, hs, ?_⟩
    exact DatIn.list (List.mem_cons_self ..) (ofInts _ hI)
theorem mo_sorted {l : List Int} : Mo (fun n v => ∃ l' : List Int, l'.Perm l ∧ l'.Pairwise (· ≤ ·) ∧ DatIn n v (dL l')) := fun _ _ _ h ⟨l', a, b, c⟩ => ⟨l', a, b, c.mono h⟩
theorem cl_max {v u : Value} {a b : Int} (hh : A.handled = none) (h : DatIn B v (.int a)) (h' : DatIn B u (.int b)) : Tr prog w A h₀ L m X B (call (.builtin "max") [v, u]) (IsD (.int (max a b))) := by
  cases h; cases h'
  intro n s hX hB S
  refine max_two_N hh S.F S.N fun g tk F' N' => post_same S (Sh.mk s g tk) F' N' ?_
  have e : (if b > a then b else a) = max a b := by rw [Int.max_def]; split <;> split <;> omega
  rw [e]
  exact .int _ _
theorem cl_int_int {v : Value} {a : Int} (h : DatIn B v (.int a)) : Tr prog w A h₀ L m X B (call (.type "int") [v]) (IsD (.int a)) := by
  cases h
  exact fun n s hX hB S => call_int_int ⟨[], Sh.refl s, S, .int _ _⟩
theorem cl_int_bool {v : Value} {b : Bool} (h : v = .bool b) : Tr prog w A h₀ L m X B (call (.type "int") [v]) (IsD (.int (if b then 1 else 0))) := by
  subst h
  exact fun n s hX hB S => call_int_bool ⟨[], Sh.mk s _ _, S, .int _ _⟩
theorem cl_str_int {v : Value} {a : Int} (h : DatIn B v (.int a)) (h1 : a.natAbs < 1000000) : Tr prog w A h₀ L m X B (call (.type "str") [v]) (IsD (.str (Str.ofString (toString a)))) := by
  cases h
  intro n s hX hB S
  refine str_of_int_fit (N := 1000000) (by split <;> omega) (by decide) fun _ => ⟨[], Sh.mk s _ _, S, .str _ _⟩
theorem cl_list {v : Value} {ds : List Dat} (h : DatIn B v (.list ds)) (hz : ds.length ≤ sizeLine) : Tr prog w A h₀ L m X B (call (.type "list") [v]) (IsD (.list ds)) := by
  cases h with
  | list hm hd =>
    intro n s hX hB S
    refine list_copyK S.F S.N (News.isList S.N (hB _ hm)) (fun D c h' F' N' l1 => ?_) (by rw [List.size_toArray, hd.length]; exact hz)
    exact post_new S (Sh.mk s h' s.toks) F' N' l1 (DatIn.list (List.mem_cons_self ..) (hd.mono fun p hp => List.mem_cons_of_mem _ hp))

/-- xs.index(k) -/
theorem index_ints {s : Shared} {l : Addr} {vs : List Value} {ns : List Int} {k : Int} {t : Tok} {Q : Value → Shared → Prop} {E : Value → Shared → Prop} (hl : s.heap.IsList l vs.toArray) (hi : IntsAre vs ns)
    (hz : ns.length < 2 ^ 62) (hk : k ∈ ns) (h : Q (.int (ns.idxOf k : Nat) s.toks) { s with toks := s.toks + 1 }) :
    wpAny (model prog w) A (call (.builtin "list.index") [.ref l, .int k t]) Q E s := by
  obtain ⟨⟨cls, dd, data, sl⟩, ho, hc, n, hd⟩ := id hl
  simp only at hc hd
  subst hc hd
  have hlen := hi.length
  have hj : ns.idxOf k < ns.length := List.idxOf_lt_length_iff.mpr hk
  refine call_meets PySem.F.slot_list_index ⟨_, ho, rfl⟩ PySem.F.entry_list_index (PySem.F.args_list_index_2 _ _)
    (PySem.SeqAt.list_indexAt l vs.toArray n dd sl (.int k t) (isInt k) (ns.idxOf k) (by simpa [hlen] using hj) (by omega) ?_ ?_) ⟨ho, fun y hy => (eq_isInt k t hi y (by simpa using hy)).at _ _, h⟩
  · show isInt k vs[ns.idxOf k] = true
    rw [isInt_at k hi _ (by omega) hj]
    simpa using List.getElem_idxOf hj
  · intro j hjs hlt
    show isInt k vs[j] = false
    rw [isInt_at k hi j (by simpa using hjs) (by omega)]
    exact ne_of_lt_idxOf hlt _
theorem ev_index {o e : Expr} {apos pos : Pos} {l : List Int} {k : Int} (hv : Tr prog w A h₀ L m X B (eval o env) (IsD (dL l))) (hi : Tr prog w A h₀ L m X B (eval e env) (IsD (.int k))) (hk : k ∈ l) (hz : l.length < 2 ^ 62)
    (he₀ : ∃ pl : Sem Bool, eval (.Call (.Attribute o (Str.ofString "index") apos) [e] [] pos) env = (do
      let ov ← eval o env
      standAt apos.atName
      let (f, first) ← holding [ov] (getMethod ov (Str.ofString "index") pl)
      callWith pos f first (backTo pos (starEach [e] env)) []) := by exact ⟨_, rfl⟩)
    (he : starEach [e] env = (false, eval e env) :: starEach [] env := by rfl) :
    Tr prog w A h₀ L m X B (eval (.Call (.Attribute o (Str.ofString "index") apos) [e] [] pos) env) (IsD (.int (l.idxOf k : Nat))) := by
  intro n s hX hB S
  obtain ⟨pl, he₀⟩ := he₀
  refine MethodCall_ (he := he₀) (hv.go hX hB S fun tl v s1 sh1 S1 r1 => ?_)
  cases r1 with
  | list hm hd =>
    refine kf_method S1.N (sub_app hB _ hm) PySem.F.slot_list_index PySem.F.type_list_index ?_
    refine callWith_method1 (he := he) (hplain := rfl) (((items1 (mo_isD _) hi he).up' (mo1 (mo_isD _)) (tl := tl)).go (sub_rr hX) (sub_app hB) S1 fun tl2 vs s2 sh2 S2 r2 => ?_)
    obtain ⟨x, rfl, r2⟩ := r2
    cases r2
    rw [← List.append_assoc] at S2
    exact index_ints (News.isList S2.N (by rw [List.append_assoc]; exact sub_right _ (sub_app hB _ hm))) (intsAre hd) hz hk ⟨tl2 ++ tl, (sh1.trans sh2).trans (Sh.mk s2 _ _), S2, .int _ _⟩

/-- all(bools) -/
theorem bools_at {n : Led} {vs : List Value} {bs : List Bool} (h : DatAll n vs (bs.map Dat.bool)) : ∀ i v, vs[i]? = some v → v = Value.bool (bs.getD i true) := by
  intro i v e
  obtain ⟨d, hd, r⟩ := DatAll.item h i v e
  rw [List.getElem?_map] at hd
  cases q : bs[i]? with
  | none => rw [q] at hd; cases hd
  | some b =>
    rw [q] at hd
    cases hd
    cases r
    rw [List.getD_eq_getElem?_getD, q]; rfl
theorem all_getD (bs : List Bool) : (List.range bs.length).all (fun i => bs.getD i true) = bs.all id := by
  rw [Bool.eq_iff_iff, List.all_eq_true, List.all_eq_true]
  constructor
  · intro h b hb
    obtain ⟨i, hi, e⟩ := List.mem_iff_getElem.mp hb
    have := h i (List.mem_range.mpr hi)
    rw [List.getD_eq_getElem?_getD, List.getElem?_eq_getElem hi, e] at this
    exact this
  · intro h i hi
    have hi := List.mem_range.mp hi
    rw [List.getD_eq_getElem?_getD, List.getElem?_eq_getElem hi]
    exact h _ (List.getElem_mem hi)
theorem cl_all {v : Value} {bs : List Bool} (hh : A.handled = none) (h : DatIn B v (.list (bs.map Dat.bool))) : Tr prog w A h₀ L m X B (call (.builtin "all") [v]) (VB (bs.all id)) := by
  cases h with
  | list hm hd =>
    rename_i l us c
    intro n s hX hB S
    have hl : s.heap.IsList l us.toArray := News.isList S.N (hB _ hm)
    have hlt : l < s.heap.objs.size := by obtain ⟨_, e, _⟩ := hl; exact Heap.lt_size e
    refine call_all_walk (wpAny_pyIter_list hl ⟨s.heap.objs.size, _, _, us.toArray.size, _, _, fun i => bs.getD i true, rfl, Walks.list (A := A.in1) hh s.heap.objs.size l (Nat.ne_of_lt hlt) us.toArray, ?_, ?_, ?_⟩)
    · exact ⟨⟨_, Heap.get?_push_size _ rfl, rfl, rfl⟩, hl.push _⟩
    · intro i v s Q E hP hQ
      have e : us[i]? = some v := by simpa using hP
      rw [bools_at hd i v e]
      exact wpAny_truthy_bool hQ
    · intro h' tk hk
      have up : ∀ b o, s.heap.get? b = some o → h'.get? b = some o := fun b o e => hk b o (by
        intro hm'
        rw [List.mem_singleton.mp hm'] at e
        exact absurd (Heap.lt_size e) (Nat.lt_irrefl _)) (Heap.get?_push_of_some _ e)
      have e : us.toArray.size = bs.length := by rw [List.size_toArray, hd.length, List.length_map]
      rw [e, all_getD]
      exact ⟨[], Sh.mk s h' tk, S.keeps up, rfl⟩

/-- the dict of what must stand ahead -/
def IsAh (prog : Program) (w : World) (al : List (Int × List Int)) : Led → Value → Prop := fun n v =>
  ∃ d o kvs, v = .ref d ∧ (d, o) ∈ n ∧ o.IsDictOf (PySem.intKind prog w) kvs ∧ ∀ i l, al.lookup i = some l → ∃ u, valueAt kvs i = some u ∧ DatIn n u (dL l)
theorem mo_IsAh (al : List (Int × List Int)) : Mo (IsAh prog w al) := fun _ _ _ h ⟨d, o, kvs, e, hm, hd, k⟩ => ⟨d, o, kvs, e, h _ hm, hd, fun i l q => let ⟨u, a, b⟩ := k i l q; ⟨u, a, b.mono h⟩⟩
theorem ev_ahead {value slice : Expr} {pos} {al : List (Int × List Int)} {i : Int} {l : List Int} (hv : Tr prog w A h₀ L m X B (eval value env) (IsAh prog w al)) (hi : Tr prog w A h₀ L m X B (eval slice env) (IsD (.int i)))
    (hl : al.lookup i = some l)
    (hs : ∀ d u, subscripted slice false (.ref d) (.int i u) = operate [.ref d, .int i u] (getItem (.ref d) (.int i u)) := by intro _ _; with_unfolding_all rfl) :
    Tr prog w A h₀ L m X B (eval (.Subscript value slice pos) env) (IsD (dL l)) := by
  intro n s hX hB S
  refine Subscript_ (hv.go hX hB S fun tl a s1 sh1 S1 r1 => ?_)
  refine (hi.up' (mo_isD _) (tl := tl)).go (sub_rr hX) (sub_app hB) S1 fun tl2 b s2 sh2 S2 r2 => ?_
  rw [← List.append_assoc] at S2
  cases r2
  obtain ⟨d, o, kvs, rfl, hm, hd, k⟩ := r1
  obtain ⟨u, hu, r⟩ := k i l hl
  have hmn : (d, o) ∈ (tl2 ++ tl) ++ n := by rw [List.append_assoc]; exact sub_right _ (sub_app hB _ hm)
  refine tail_any (T := "dict") (kda_dict S2.N hmn hd).typeIs slot_dict_getitem.lookup (kdt_getItem S2.N hmn hd (by simp [PySem.intKind, PySem.Value.isInt]) hu ?_) (hs _ _)
  exact ⟨tl2 ++ tl, (sh1.trans sh2).trans (Sh.mk s2 _ _), S2, by rw [List.append_assoc]; exact r.mono sub_right⟩
end
end Mine

namespace Mine

section
variable {prog : Program} {w : World} {A : Around} {h₀ : Heap} {L : Addr} {m : Loc} {X B : Led} {env : Env} {K : Frag} {R : Led → Value → Prop}
  {cn : Str} {cs : Scope} {a : Addr} {ccd : Value} {cl : List (Str × Addr)} {x : Str} {pos : Pos} {v : Value} {c C : Addr} {o oC : Obj} {scope : Scope} {m₂ : Loc}

/-- names of a def's frame -/
theorem nm_local (hv : m x = some v) (r : R B v) (hk : cs.kind = .function := by rfl) (hx : (envX cn cs L a ccd cl).kindOf x = some .local := by rfl) (hd : (x == ("__debug__" : Str)) = false := by decide) :
    Tr prog w A h₀ L m X B (eval (.Name x pos) (envX cn cs L a ccd cl)) R :=
  Tr.same (fun _ _ _ _ _ S q => nameX_L S.F hv q hk hx hd) r
theorem nm_cell (hc : cl.lookup x = some c) (hm : (c, o) ∈ X) (ho : o.data = .cell (some v)) (r : R B v) (hk : cs.kind = .function := by rfl) (hx : (envX cn cs L a ccd cl).kindOf x = some .cell := by rfl) (hd : (x == ("__debug__" : Str)) = false := by decide) :
    Tr prog w A h₀ L m X B (eval (.Name x pos) (envX cn cs L a ccd cl)) R :=
  Tr.same (fun _ _ _ hX _ S q => nameX_C S.N hc (hX _ hm) ho q hk hx hd) r
theorem nm_global (T : ∃ p loose mean mg mb, Top p loose mean mg mb h₀) (hK : K.In h₀) (e : nsIn K mainGlobals x = some (some v)) (r : R B v) (hk : cs.kind = .function := by rfl) (hx : (envX cn cs L a ccd cl).kindOf x = some .globalImplicit := by rfl) (hd : (x == ("__debug__" : Str)) = false := by decide) :
    Tr prog w A h₀ L m X B (eval (.Name x pos) (envX cn cs L a ccd cl)) R := by
  obtain ⟨p, loose, mean, mg, mb, T⟩ := T
  exact Tr.same (fun _ _ _ _ _ S q => nameX_K S.F hK (topRead_of T) e q hk hx hd) r
theorem nm_builtin (T : ∃ p loose mean mg mb, Top p loose mean mg mb h₀) (hK : K.In h₀) (e : nsIn K mainGlobals x = some none) (hv : bootBuiltins x = some v) (hn : x ≠ "__name__") (r : R B v) (hk : cs.kind = .function := by rfl) (hx : (envX cn cs L a ccd cl).kindOf x = some .globalImplicit := by rfl) (hd : (x == ("__debug__" : Str)) = false := by decide) :
    Tr prog w A h₀ L m X B (eval (.Name x pos) (envX cn cs L a ccd cl)) R := by
  obtain ⟨p, loose, mean, mg, mb, T⟩ := T
  exact Tr.same (fun _ _ _ _ _ S q => nameX_B S.F hK (topRead_of T) e hv hn q hk hx hd) r

/-- names of a comprehension's block -/
theorem nc_own (hm : (C, oC) ∈ X) (hC : LCg.NsObj oC m₂) (hv : m₂ x = some v) (r : R B v) (hk : (compEnvC scope cl C env).scope.kind = .function := by rfl) (hx : (compEnvC scope cl C env).kindOf x = some .local := by rfl) (hd : (x == ("__debug__" : Str)) = false := by decide) :
    Tr prog w A h₀ L m X B (eval (.Name x pos) (compEnvC scope cl C env)) R :=
  Tr.same (fun _ _ _ hX _ S q => LCgL.ld_own S.N (hX _ hm) hC hv q hk hx hd) r
theorem nc_cell (hc : cl.lookup x = some c) (hm : (c, o) ∈ X) (ho : o.data = .cell (some v)) (r : R B v) (hk : (compEnvC scope cl C env).scope.kind = .function := by rfl) (hx : (compEnvC scope cl C env).kindOf x = some .cell := by rfl) (hd : (x == ("__debug__" : Str)) = false := by decide) :
    Tr prog w A h₀ L m X B (eval (.Name x pos) (compEnvC scope cl C env)) R :=
  Tr.same (fun _ _ _ hX _ S q => lcf_cell S.N hc (hX _ hm) ho q hk hx hd) r
theorem nc_free (hc : cl.lookup x = some c) (hm : (c, o) ∈ X) (ho : o.data = .cell (some v)) (r : R B v) (hk : (compEnvC scope cl C env).scope.kind = .function := by rfl) (hx : (compEnvC scope cl C env).kindOf x = some .free := by rfl) (hd : (x == ("__debug__" : Str)) = false := by decide) (hn : (x == ("__classdict__" : Str)) = false := by decide) :
    Tr prog w A h₀ L m X B (eval (.Name x pos) (compEnvC scope cl C env)) R :=
  Tr.same (fun _ _ _ hX _ S q => lcf_free S.N hc (hX _ hm) ho q hk hx hd hn) r
theorem nc_global (T : ∃ p loose mean mg mb, Top p loose mean mg mb h₀) (hK : K.In h₀) (e : nsIn K mainGlobals x = some (some v)) (r : R B v) (hg : env.globals = mainGlobals := by rfl) (hk : (compEnvC scope cl C env).scope.kind = .function := by rfl) (hx : (compEnvC scope cl C env).kindOf x = some .globalImplicit := by rfl) (hd : (x == ("__debug__" : Str)) = false := by decide) :
    Tr prog w A h₀ L m X B (eval (.Name x pos) (compEnvC scope cl C env)) R := by
  obtain ⟨p, loose, mean, mg, mb, T⟩ := T
  exact Tr.same (fun _ _ _ _ _ S q => LCgL.ld_global S.F hK T e q hg hk hx hd) r
theorem nc_builtin (T : ∃ p loose mean mg mb, Top p loose mean mg mb h₀) (hK : K.In h₀) (e : nsIn K mainGlobals x = some none) (hv : bootBuiltins x = some v) (hn : x ≠ "__name__") (r : R B v) (hg : env.globals = mainGlobals := by rfl) (hb : env.builtins = builtinsNs := by rfl) (hk : (compEnvC scope cl C env).scope.kind = .function := by rfl) (hx : (compEnvC scope cl C env).kindOf x = some .globalImplicit := by rfl) (hd : (x == ("__debug__" : Str)) = false := by decide) :
    Tr prog w A h₀ L m X B (eval (.Name x pos) (compEnvC scope cl C env)) R := by
  obtain ⟨p, loose, mean, mg, mb, T⟩ := T
  exact Tr.same (fun _ _ _ _ _ S q => LCgL.ld_built S.F hK T e hv hn q hg hb hk hx hd) r
end
end Mine

namespace Mine

section
variable {prog : Program} {w : World} {A : Around} {h₀ : Heap} {L : Addr} {m : Loc} {X B : Led} {env : Env}

def rg (a : Int) (n : Nat) : List Dat := (List.range n).map fun (i : Nat) => Dat.int (a + (i : Int))
theorem rg_len (a : Int) (n : Nat) : (rg a n).length = n := by simp [rg]
theorem rg_get {a : Int} {n i : Nat} (h : i < n) : (rg a n)[i]? = some (.int (a + (i : Int))) := by
  rw [rg, List.getElem?_map, List.getElem?_range h]; rfl

/-- an iterator I that hands out the data ds -/
structure Src (prog : Program) (w : World) (A : Around) (h₀ : Heap) (L : Addr) (B : Led) (I : Addr) (ds : List Dat) (Stt : Nat → Heap → Prop) : Prop where
  W : ∃ fp, Walks prog w A I fp [I] ds.length (fun i v => ∃ d, ds[i]? = some d ∧ DatIn B v d) Stt
  obj : ∀ i h, Stt i h → ∃ o, h.get? I = some o
  stay : ∀ i h h' o nw, Stt i h → h.get? I = some o → h'.get? I = some o → (∀ b o, h₀.get? b = some o → h'.get? b = some o) → News h₀ L h' nw → (∀ p ∈ B, p ∈ nw) → Stt i h'

theorem walks_imp {I : Addr} {fp wr : List Addr} {n : Nat} {P P' : Nat → Value → Prop} {Stt : Nat → Heap → Prop} (W : Walks prog w A I fp wr n P Stt) (h : ∀ i v, P i v → P' i v) : Walks prog w A I fp wr n P' Stt :=
  { sub := W.sub, frame := W.frame, done := W.done, self := W.self, item := fun i s Q E hi st hQ => W.item i s Q E hi st fun v h' tk hP => hQ v h' tk (h i v hP) }

theorem src_list {l I : Addr} {us : List Value} {k : Nat} {ds : List Dat} (hh : A.handled = none) (hm : (l, listOf us.toArray k) ∈ B) (hd : DatAll B us ds) (hne : l ≠ I) :
    Src prog w A h₀ L B I ds (fun i h => h.IsListIter I l i ∧ h.IsList l us.toArray) where
  W := by
    have W := walks_imp (Walks.list (prog := prog) (w := w) hh I l hne us.toArray) (P' := fun i v => ∃ d, ds[i]? = some d ∧ DatIn B v d) fun i v e => DatAll.item hd i v (by simpa using e)
    have e : us.toArray.size = ds.length := by rw [List.size_toArray, hd.length]
    rw [e] at W
    exact ⟨_, W⟩
  obj := fun i h st => by obtain ⟨o, e, _⟩ := st.1; exact ⟨o, e⟩
  stay := fun i h h' o nw st e e' _ N S => ⟨by obtain ⟨o', q, r⟩ := st.1; rw [e] at q; cases q; exact ⟨o, e', r⟩, News.isList N (S _ hm)⟩

theorem src_range {I : Addr} (hh : A.handled = none) (a : Int) (n : Nat) :
    Src prog w A h₀ L B I (rg a n) (fun i h => IsRangeIter h I (a + (i : Nat) * 1) ((n : Int) - (i : Nat)) 1) where
  W := by
    let W₀ : Walks prog w A I [I] [I] n (fun i v => i < n ∧ ∃ t, v = .int (a + i * 1) t) (fun i h => IsRangeIter h I (a + (i : Nat) * 1) ((n : Int) - (i : Nat)) 1) := (Walks.range hh I a 1 n).bound
    have W := walks_imp W₀ (P' := fun i v => ∃ d, (rg a n)[i]? = some d ∧ DatIn B v d) fun i v ⟨hi, t, e⟩ => ⟨.int (a + i), rg_get hi, by rw [e, Int.mul_one]; exact .int _ _⟩
    rw [rg_len]
    exact ⟨_, W⟩
  obj := fun i h st => ⟨_, st⟩
  stay := fun i h h' o nw st e e' _ _ _ => by
    have st' : h.get? I = some _ := st
    show h'.get? I = some _
    rw [e', ← e]; exact st'

/-- the loop over an iterator, whatever the code that turns it -/
theorem src_loop {I : Addr} {ds : List Dat} {Stt : Nat → Heap → Prop} {n : Led} {oI : Obj} {s : Shared} (S₀ : Src prog w A h₀ L B I ds Stt)
    (J : Nat → Loc → Led → Prop) (Rn : Shared → Prop) (Bd : Value → (Shared → Prop) → Shared → Prop) {E : Value → Shared → Prop} {Res : Prop}
    (turnc : ∀ (Iv : Nat → Shared → Prop), (∀ k s', Iv k s' → wpAny (model prog w) A (pyNext (.ref I)) (fun r s₁ => match r with | none => Rn s₁ | some v => Bd v (fun s₂ => ∃ k', k' < k ∧ Iv k' s₂) s₁) E s') → ∀ k, Iv k s → Res)
    (st0 : Stt 0 s.heap) (S : St h₀ L m ((I, oI) :: n) s.heap) (j0 : J 0 m n) (keep : ∀ i m n, J i m n → ∀ p ∈ B, p ∈ n)
    (body : ∀ i d v m n oI s₁ nx, ds[i]? = some d → DatIn B v d → J i m n → Sh s s₁ → St h₀ L m ((I, oI) :: n) s₁.heap →
      (∀ s₂ m' n', Sh s s₂ → St h₀ L m' ((I, oI) :: n') s₂.heap → J (i + 1) m' n' → nx s₂) → Bd v nx s₁)
    (done : ∀ m n s₁, J ds.length m n → Sh s s₁ → St h₀ L m n s₁.heap → Rn s₁) : Res := by
  obtain ⟨fp, W⟩ := S₀.W
  refine turnc (fun k s' => ∃ i m' n' oI, Sh s s' ∧ i ≤ ds.length ∧ k = ds.length + 1 - i ∧ Stt i s'.heap ∧ St h₀ L m' ((I, oI) :: n') s'.heap ∧ J i m' n') ?_ (ds.length + 1)
    ⟨0, m, n, oI, Sh.refl s, Nat.zero_le _, rfl, st0, S, j0⟩
  rintro k s' ⟨i, m', n', oI', sh, hi, rfl, hst, S', hJ⟩
  have hIL : L ≠ I := Ne.symm (S'.N (I, oI') (List.mem_cons_self ..)).2.1
  have hI₀ : h₀.get? I = none := (S'.N (I, oI') (List.mem_cons_self ..)).2.2
  have nd := S'.nd
  rw [List.map_cons, List.nodup_cons] at nd
  have off : ∀ p ∈ n', p.1 ≠ I := fun p hp e => nd.1 (List.mem_map.mpr ⟨p, hp, e⟩)
  have N' : News h₀ L s'.heap n' := fun p hp => S'.N p (List.mem_cons_of_mem _ hp)
  by_cases hlt : i < ds.length
  · refine W.item i _ _ _ hlt hst fun v h₁ tk₁ hP hst₁ hk₁ => ?_
    obtain ⟨d, hd, hv⟩ := hP
    obtain ⟨o₁, ho₁⟩ := S₀.obj _ _ hst₁
    have S₁ : St h₀ L m' ((I, o₁) :: n') h₁ := ⟨LCg.fr_but S'.F hk₁ hIL hI₀, fun p hp => by
      rcases List.mem_cons.mp hp with rfl | hp
      · exact ⟨ho₁, Ne.symm hIL, hI₀⟩
      · exact LCg.news_but N' hk₁ off p hp, S'.nd⟩
    refine body i d v m' n' o₁ _ _ hd hv hJ (sh.trans (Sh.mk s' h₁ tk₁)) S₁ fun s₂ m₂ n₂ sh₂ S₂ hJ₂ => ⟨ds.length + 1 - (i + 1), by omega, i + 1, m₂, n₂, o₁, sh₂, hlt, rfl, ?_, S₂, hJ₂⟩
    exact S₀.stay _ _ _ _ n₂ hst₁ ho₁ (S₂.N (I, o₁) (List.mem_cons_self ..)).1 S₂.F.keep (fun p hp => S₂.N p (List.mem_cons_of_mem _ hp)) (keep _ _ _ hJ₂)
  · obtain rfl : i = ds.length := Nat.le_antisymm hi (Nat.not_lt.mp hlt)
    refine W.done _ _ _ hst fun h₁ tk₁ hk₁ => ?_
    exact done m' n' _ hJ (sh.trans (Sh.mk s' h₁ tk₁)) ⟨LCg.fr_but S'.F hk₁ hIL hI₀, LCg.news_but N' hk₁ off, nd.2⟩

/-- what may be iterated: a list of data, a short range -/
def IsSrc (ds : List Dat) : Led → Value → Prop := fun n v => DatIn n v (.list ds) ∨ ∃ a b : Int, ∃ c : Nat, IsRg a b n v ∧ 0 ≤ a ∧ a ≤ 1000000 ∧ b = a + c ∧ c ≤ 1000000 ∧ ds = rg a c
theorem mo_IsSrc (ds : List Dat) : Mo (IsSrc ds) := fun _ _ _ h r => r.elim (fun r => .inl (r.mono h)) fun ⟨a, b, c, r, q⟩ => .inr ⟨a, b, c, mo_IsRg _ _ _ _ _ h r, q⟩

theorem iter_start {v : Value} {ds : List Dat} {n : Led} {s : Shared} (hh : A.handled = none) (hv : IsSrc ds B v) (hB : ∀ p ∈ B, p ∈ n) (S : St h₀ L m n s.heap) :
    wpAny (model prog w) A (pyIter v) (fun it s' => ∃ I Stt oI, it = .ref I ∧ Sh s s' ∧ Src prog w A h₀ L B I ds Stt ∧ Stt 0 s'.heap ∧ St h₀ L m ((I, oI) :: n) s'.heap) NF s := by
  have new : ∀ o : Obj, o.isFreed = false → St h₀ L m ((s.heap.objs.size, o) :: n) (s.heap.push o) := fun o ho => S.cons (S.F.push o) (S.N.push S.F o ho) S.lt
  rcases hv with hv | ⟨a, b, c, ⟨r, t, u, x, rfl, hm⟩, h0, h1, rfl, h2, rfl⟩
  · cases hv with
    | list hm hd =>
      have hl := News.isList S.N (hB _ hm)
      have hlt := S.lt _ (hB _ hm)
      exact wpAny_pyIter_list hl ⟨_, _, _, rfl, Sh.mk s _ s.toks, src_list hh hm hd (Nat.ne_of_lt hlt), ⟨⟨_, Heap.get?_push_size _ rfl, rfl, rfl⟩, hl.push _⟩, new _ rfl⟩
  · have hsz : Builtin.Range.rangeSize a (a + (c : Int)) 1 = (c : Int) := by
      simp only [Builtin.Range.rangeSize]
      split <;> (try omega) <;> simp <;> omega
    refine wpAny_pyIter_range (t := t) (u := u) (v := x) (S.N _ (hB _ hm)).1 ?_ ⟨_, _, _, rfl, Sh.mk s _ s.toks, src_range hh a c, ?_, new _ rfl⟩
    · have fits : ∀ i : Int, 0 ≤ i → i ≤ 3000000 → Builtin.Range.rangeFitsLong i = true := fun i h h' => by
        simp only [Builtin.Range.rangeFitsLong, decide_eq_true_eq, Bool.and_eq_true]
        omega
      unfold Builtin.Range.small
      rw [hsz, fits a (by omega) (by omega), fits (a + (c : Int)) (by omega) (by omega), fits 1 (by omega) (by omega), fits (c : Int) (by omega) (by omega)]
      simp only [show (1 : Int) > 0 by decide, if_true]
      rw [fits (a + (c : Int) + (1 - 1)) (by omega) (by omega)]
      simp
    · show IsRangeIter _ _ _ _ _
      rw [hsz]
      simpa using Heap.get?_push_size _ rfl
end
end Mine

namespace Mine

section
variable {prog : Program} {w : World} {A : Around} {h₀ : Heap} {L : Addr} {m : Loc} {X B : Led} {env : Env}

theorem St.set {pre post : Led} {C : Addr} {o o' : Obj} {h h' : Heap} (S : St h₀ L m (pre ++ (C, o) :: post) h) (hs : Heap.SameBut C h h') (e : h'.get? C = some o') : St h₀ L m (pre ++ (C, o') :: post) h' := by
  have hm := S.N (C, o) (List.mem_append_right _ (.head _))
  have nd := S.nd
  rw [List.map_append, List.map_cons, List.nodup_append] at nd
  obtain ⟨_, nd2, nd3⟩ := nd
  rw [List.nodup_cons] at nd2
  refine ⟨S.F.change hs hm.2.1 hm.2.2, news_set S.N (fun p hp q => ?_) (fun p hp q => ?_) hs e, ?_⟩
  · exact nd3 p.1 (List.mem_map_of_mem hp) C (List.mem_cons_self ..) q
  · exact nd2.1 (List.mem_map.mpr ⟨p, hp, q⟩)
  · have := S.nd
    rw [List.map_append, List.map_cons] at this ⊢
    exact this

theorem perm1 {α : Type} (I D : α) (own t rest : List α) : (I :: (own ++ D :: (t ++ rest))).Perm (t ++ (own ++ I :: D :: rest)) :=
  (List.perm_middle.symm).trans ((List.Perm.append_left own ((List.Perm.cons I List.perm_middle.symm).trans List.perm_middle.symm)).trans (List.perm_append_comm_assoc own t (I :: D :: rest)))
theorem perm2 {α : Type} (I D : α) (own t b : List α) : ((I :: own) ++ D :: (t ++ b)).Perm (t ++ (I :: (own ++ D :: b))) :=
  (List.Perm.append_left (I :: own) List.perm_middle.symm).trans (List.perm_append_comm_assoc (I :: own) t (D :: b))

abbrev tests (ifs : List Expr) (env : Env) : Sem Bool := forIn ifs true fun c r => if r = true then do let ok ← isTrue c env (eval c env); pure (ForInStep.yield ok) else pure (ForInStep.yield r)
theorem tests_nil : Tr prog w A h₀ L m X B (tests [] env) (IsB true) := fun _ s _ _ S => wpAny_tests_nil ⟨[], Sh.refl s, S, rfl⟩
theorem tests_one {c : Expr} {b : Bool} (h : Tr prog w A h₀ L m X B (isTrue c env (eval c env)) (IsB b)) : Tr prog w A h₀ L m X B (tests [c] env) (IsB b) := fun n s hX hB S => wpAny_tests_one (h n s hX hB S)

/-- how a block's own names stand on the ledger, and how its variable is bound -/
structure Tgt (prog : Program) (w : World) (A : Around) (h₀ : Heap) (L : Addr) (m : Loc) (env : Env) (scope : Scope) (x : Str) (px : Pos) (Own : Addr → List (Str × Addr) → Led → Prop) (OwnV : Addr → List (Str × Addr) → Led → Value → Prop) : Prop where
  asg : ∀ C cl own n s v, Own C cl own → St h₀ L m (own ++ n) s.heap → wpAny (model prog w) A (assign (.Name x px) (compEnvC scope cl C env) v) (fun _ s' => ∃ own', OwnV C cl own' v ∧ Sh s s' ∧ St h₀ L m (own' ++ n) s'.heap) NF s
  of : ∀ C cl own v, OwnV C cl own v → Own C cl own
  ns : ∀ C cl own, Own C cl own → ∃ oC m₂ rest, own = (C, oC) :: rest ∧ LCg.NsObj oC m₂

abbrev compBd (prog : Program) (w : World) (A : Around) (elt : Expr) (ifs : List Expr) (x : Str) (px : Pos) (cenv : Env) (D : Addr) (E : Value → Shared → Prop) (v : Value) (nx : Shared → Prop) (s₁ : Shared) : Prop :=
  wpAny (model prog w) A (assign (.Name x px) cenv v) (fun _ s₂ => wpAny (model prog w) A (tests ifs cenv) (fun ok s₃ =>
    if ok = true then wpAny (model prog w) A (eval elt cenv) (fun y s₄ => wpAny (model prog w) A (call (.builtin "list.append") [.ref D, y]) (fun _ s₅ => nx s₅) E s₄) E s₃ else nx s₃) E s₂) E s₁

/-- the loop of a comprehension of one clause -/
theorem comp_loop {elt iter : Expr} {ifs : List Expr} {scope : Scope} {x : Str} {px pos : Pos} {Own : Addr → List (Str × Addr) → Led → Prop} {OwnV : Addr → List (Str × Addr) → Led → Value → Prop} (T : Tgt prog w A h₀ L m env scope x px Own OwnV)
    {ds : List Dat} (p : Dat → Bool) (f : Dat → Dat) {I C D : Addr} {cl : List (Str × Addr)} {Stt : Nat → Heap → Prop} {oI : Obj} {own n : Led} {s : Shared} {R : Result → Shared → Prop}
    (hX : ∀ q ∈ X, q ∈ n) (hB : ∀ q ∈ B, q ∈ n) (hz : ds.length ≤ sizeLine)
    (htest : ∀ d ∈ ds, ∀ v own tl, OwnV C cl own v → DatIn (tl ++ B) v d → Tr prog w A h₀ L m (own ++ X) (tl ++ B) (tests ifs (compEnvC scope cl C env)) (IsB (p d)))
    (helt : ∀ d ∈ ds, p d = true → ∀ v own tl, OwnV C cl own v → DatIn (tl ++ B) v d → Tr prog w A h₀ L m (own ++ X) (tl ++ B) (eval elt (compEnvC scope cl C env)) (IsD (f d)))
    (S₀ : Src prog w A h₀ L B I ds Stt) (st0 : Stt 0 s.heap) (S : St h₀ L m ((I, oI) :: (own ++ (D, LCg.lst []) :: n)) s.heap) (hown : Own C cl own)
    (fin : ∀ own tl ys s', Own C cl own → Sh s s' → St h₀ L m (own ++ (D, LCg.lst ys) :: (tl ++ n)) s'.heap → DatAll (tl ++ B) ys ((ds.filter p).map f) → R (.ok .next) s') :
    codeAny (model prog w) A (.compLoop (.ListComp elt [⟨.Name x px, iter, ifs, 0⟩] scope pos) 0 (.ref I) (.ref D) (compEnvC scope cl C env)) R s := by
  refine src_loop (A := A) (B := B) S₀
    (fun i m' n' => m' = m ∧ ∃ own tl ys, n' = own ++ (D, LCg.lst ys) :: (tl ++ n) ∧ Own C cl own ∧ ys.length ≤ i ∧ DatAll (tl ++ B) ys (((ds.take i).filter p).map f))
    (fun s' => R (.ok .next) s') (compBd prog w A elt ifs x px (compEnvC scope cl C env) D (notedBy (model prog w) A (compEnvC scope cl C env) fun e s' => R (.error e) s')) (E := notedBy (model prog w) A (compEnvC scope cl C env) fun e s' => R (.error e) s')
    (fun Iv turn k h => codeAny_compLoop_tests Iv turn k h) st0 S ⟨rfl, own, [], [], rfl, hown, Nat.le_refl _, .nil⟩ ?_ ?_ ?_
  · rintro i m' n' ⟨_, own, tl, ys, rfl, _⟩ q hq
    exact sub_right _ (List.mem_cons_of_mem _ (sub_right _ (hB q hq)))
  · rintro i d v m' n' oI' s₁ nx hd hv ⟨rfl, own₁, tl, ys, rfl, hown₁, hyl, hys⟩ sh S₁ next
    have hdm : d ∈ ds := List.mem_of_getElem? hd
    have S₁' : St h₀ L m' (own₁ ++ ((I, oI') :: (D, LCg.lst ys) :: (tl ++ n))) s₁.heap := S₁.perm List.perm_middle
    refine wpAny_mono (T.asg C cl own₁ _ s₁ v hown₁ S₁') ?_ fun _ _ e => e.elim
    rintro _ s₂ ⟨own₂, hV, sh₂, S₂⟩
    have subX : ∀ q ∈ own₂ ++ X, q ∈ own₂ ++ ((I, oI') :: (D, LCg.lst ys) :: (tl ++ n)) := sub_app fun q hq => List.mem_cons_of_mem _ (List.mem_cons_of_mem _ (sub_right _ (hX q hq)))
    have subB : ∀ q ∈ tl ++ B, q ∈ own₂ ++ ((I, oI') :: (D, LCg.lst ys) :: (tl ++ n)) := fun q hq => sub_right _ (List.mem_cons_of_mem _ (List.mem_cons_of_mem _ (sub_app hB q hq)))
    refine nf ((htest d hdm v own₂ tl hV (hv.mono sub_right)).go subX subB S₂ fun tl₃ ok s₃ sh₃ S₃ r₃ => ?_)
    have r₃ : ok = p d := r₃
    have hs : ds.take (i + 1) = ds.take i ++ [d] := by simp [List.take_add_one, hd]
    have pm : (((I, oI') :: (own₂ ++ (D, LCg.lst ys) :: ((tl₃ ++ tl) ++ n)))).Perm (tl₃ ++ (own₂ ++ (I, oI') :: (D, LCg.lst ys) :: (tl ++ n))) := by
      rw [List.append_assoc]
      exact perm1 _ _ _ _ _
    subst r₃
    cases hp : p d with
    | false =>
      simp only [Bool.false_eq_true, if_false]
      refine next s₃ m' _ ((sh.trans sh₂).trans sh₃) (S₃.perm pm) ⟨rfl, own₂, tl₃ ++ tl, ys, rfl, T.of _ _ _ _ hV, Nat.le_succ_of_le hyl, ?_⟩
      rw [hs, List.filter_append, List.map_append]
      simp only [List.filter_cons, hp, List.filter_nil, List.map_nil, List.append_nil, Bool.false_eq_true, if_false]
      exact hys.mono sub_mid
    | true =>
      simp only [if_true]
      have subX' : ∀ q ∈ own₂ ++ X, q ∈ (I, oI') :: (own₂ ++ (D, LCg.lst ys) :: ((tl₃ ++ tl) ++ n)) := fun q hq => List.mem_cons_of_mem _ (sub_app (fun q hq => List.mem_cons_of_mem _ (sub_right _ (hX q hq))) q hq)
      have subB' : ∀ q ∈ (tl₃ ++ tl) ++ B, q ∈ (I, oI') :: (own₂ ++ (D, LCg.lst ys) :: ((tl₃ ++ tl) ++ n)) := fun q hq => List.mem_cons_of_mem _ (sub_right _ (List.mem_cons_of_mem _ (sub_app hB q hq)))
      refine nf ((helt d hdm hp v own₂ (tl₃ ++ tl) hV (hv.mono sub_right)).go subX' subB' (S₃.perm pm) fun tl₄ y s₄ sh₄ S₄ r₄ => ?_)
      have pm4 : (((I, oI') :: own₂) ++ (D, LCg.lst ys) :: ((tl₄ ++ (tl₃ ++ tl)) ++ n)).Perm (tl₄ ++ ((I, oI') :: (own₂ ++ (D, LCg.lst ys) :: ((tl₃ ++ tl) ++ n)))) := by
        rw [List.append_assoc tl₄ (tl₃ ++ tl) n]
        exact perm2 _ _ _ _ _
      have S₄' := S₄.perm pm4
      have zD := (S₄'.N (D, LCg.lst ys) (List.mem_append_right _ (.head _))).1
      refine append_at (hsz := by show ys.toArray.size ≤ sizeLine; rw [List.size_toArray]; have := (List.getElem?_eq_some_iff.mp hd).1; omega) zD fun h₅ hs₅ hD₅ => ?_
      refine next _ m' _ ((((sh.trans sh₂).trans sh₃).trans sh₄).trans (Sh.mk s₄ h₅ s₄.toks)) (S₄'.set hs₅ (hD₅.trans (congrArg some (LCg.lst_snoc ys y)))) ⟨rfl, own₂, tl₄ ++ (tl₃ ++ tl), ys ++ [y], rfl, T.of _ _ _ _ hV, by rw [List.length_append, List.length_singleton]; omega, ?_⟩
      rw [hs, List.filter_append, List.map_append]
      simp only [List.filter_cons, hp, List.filter_nil, List.map_cons, List.map_nil, if_true]
      refine DatAll.append (hys.mono ?_) (DatAll.one ?_)
      · intro q hq
        rw [List.append_assoc, List.append_assoc]
        exact sub_right _ (sub_right _ hq)
      · rw [List.append_assoc]; exact r₄
  · rintro m' n' s₁ ⟨rfl, own, tl, ys, rfl, hown, _, hys⟩ sh S₁
    rw [List.take_length] at hys
    exact fin own tl ys s₁ hown sh S₁ hys
end
end Mine

namespace Mine

section
variable {prog : Program} {w : World} {A : Around} {h₀ : Heap} {L : Addr} {m : Loc} {X B : Led} {env : Env}

/-- own names: one dict -/
def OwnL (clo : List (Str × Addr)) (C : Addr) (cl : List (Str × Addr)) (own : Led) : Prop := cl = clo ∧ ∃ oC m₂, own = [(C, oC)] ∧ LCg.NsObj oC m₂
def OwnLV (clo : List (Str × Addr)) (x : Str) (C : Addr) (cl : List (Str × Addr)) (own : Led) (v : Value) : Prop := cl = clo ∧ ∃ oC m₂, own = [(C, oC)] ∧ LCg.NsObj oC m₂ ∧ m₂ x = some v

/-- a name stored into a block's dict -/
theorem asg_own {scope : Scope} {cl : List (Str × Addr)} {C : Addr} {x : Str} {px : Pos} {oC : Obj} {m₂ : Loc} {n : Led} {s : Shared} {v : Value} (hkind : scope.kind = .function) (hx : scope.names.lookup x = some .local)
    (hC : LCg.NsObj oC m₂) (S : St h₀ L m ((C, oC) :: n) s.heap) :
    wpAny (model prog w) A (assign (.Name x px) (compEnvC scope cl C env) v) (fun _ s' => ∃ oC', LCg.NsObj oC' (fun y => if y = x then some v else m₂ y) ∧ Sh s s' ∧ St h₀ L m ((C, oC') :: n) s'.heap) NF s := by
  have e := (S.N (C, oC) (List.mem_cons_self ..)).1
  refine wpAny_assign_Name (wpAny_storeName_local (lookup_relabel_local hx) (hC.ns e) (fun h₂ hn₂ hs₂ => ?_) (by simp [compEnvC, relabel, hkind]))
  obtain ⟨o₂, e₂, ho₂⟩ := LCg.ns_obj hn₂
  exact ⟨o₂, ho₂, Sh.mk s _ _, St.set (pre := []) S hs₂ e₂⟩

theorem tgtL {scope : Scope} {clo : List (Str × Addr)} {x : Str} {px : Pos} (hkind : scope.kind = .function) (hx : scope.names.lookup x = some .local) : Tgt prog w A h₀ L m env scope x px (OwnL clo) (OwnLV clo x) where
  asg := by
    rintro C cl own n s v ⟨rfl, oC, m₂, rfl, hC⟩ S
    refine wpAny_mono (asg_own (n := n) hkind hx hC S) ?_ fun _ _ e => e
    rintro _ s' ⟨oC', h', sh, S'⟩
    exact ⟨[(C, oC')], ⟨rfl, oC', _, rfl, h', by simp⟩, sh, S'⟩
  of := by rintro C cl own v ⟨rfl, oC, m₂, rfl, h, _⟩; exact ⟨rfl, oC, m₂, rfl, h⟩
  ns := by rintro C cl own ⟨rfl, oC, m₂, rfl, h⟩; exact ⟨oC, m₂, [], rfl, h⟩

/-- making the block -/
def Mk (prog : Program) (w : World) (A : Around) (h₀ : Heap) (L : Addr) (m : Loc) (env : Env) (scope : Scope) (cl : List (Str × Addr)) (Own : Addr → List (Str × Addr) → Led → Prop) : Prop :=
  ∀ n s, St h₀ L m n s.heap → wpAny (model prog w) A (newFunctionEnv scope env.globals cl [] env.qual none .none (some env)) (fun cenv s' =>
    ∃ own cl', { cenv with scope := relabel scope env } = compEnvC scope cl' cenv.locals env ∧ Own cenv.locals cl' own ∧ Sh s s' ∧ St h₀ L m (own ++ n) s'.heap) NF s

theorem mkL {scope : Scope} {cl : List (Str × Addr)} (hkind : scope.kind = .function) (hcell : ∀ y ∈ scope.names, y.2 ≠ .cell) : Mk prog w A h₀ L m env scope cl (OwnL cl) := by
  intro n s S
  refine wpAny_newFunctionEnv hcell (by intro y hy; simp at hy) (fun h₁ hns₁ hsb₁ => ?_) hkind
  obtain ⟨o, e, ho⟩ := LCg.ns_obj hns₁
  have N₁ := S.cons (S.F.push { cls := .type (if (some env).isSome then "dict" else "frame"), data := .dict #[] }) (S.N.push S.F _ rfl) S.lt
  exact ⟨[(s.heap.objs.size, o)], cl, rfl, ⟨rfl, o, _, rfl, ho⟩, Sh.mk s _ _, St.set (pre := []) N₁ hsb₁ e⟩

/-- up to the loop -/
theorem comp_pre {elt target iter : Expr} {ifs : List Expr} {rest : List Comprehension} {scope : Scope} {cl : List (Str × Addr)} {pos : Pos} {Own : Addr → List (Str × Addr) → Led → Prop} {ds : List Dat} {xv : Value} {n : Led} {s : Shared}
    {RR : Value → Addr → Result → Shared → Prop} (hh : A.handled = none) (hmk : Mk prog w A h₀ L m env scope cl Own) (hv : IsSrc ds B xv) (hB : ∀ p ∈ B, p ∈ n) (S : St h₀ L m n s.heap)
    (loop : ∀ I Stt oI C cl' own D s', Src prog w A h₀ L B I ds Stt → Stt 0 s'.heap → Own C cl' own → Sh s s' → St h₀ L m ((I, oI) :: (own ++ (D, LCg.lst []) :: n)) s'.heap →
      codeAny (model prog w) A (.compLoop (.ListComp elt (⟨target, iter, ifs, 0⟩ :: rest) scope pos) 0 (.ref I) (.ref D) (compEnvC scope cl' C env)) (RR (.ref D) C) s') :
    wpAny (model prog w) A (pyIter xv) (fun it s₂ => wpAny (model prog w) A (newList []) (fun acc s₃ => wpAny (model prog w) A (newFunctionEnv scope env.globals cl [] env.qual none .none (some env)) (fun cenv s₄ =>
      codeAny (model prog w) A (.compStart (.ListComp elt (⟨target, iter, ifs, 0⟩ :: rest) scope pos) 0 it acc { cenv with scope := relabel scope env }) (RR acc cenv.locals) s₄) NF s₃) NF s₂) NF s := by
  refine wpAny_mono (iter_start hh hv hB S) ?_ fun _ _ e => e
  rintro it s₂ ⟨I, Stt, oI, rfl, sh₂, S₀, st₂, S₂⟩
  refine newList_N S₂.F S₂.N (fun h₃ F₃ N₃ => ?_) (Nat.zero_le _)
  have up₃ : ∀ b o, s₂.heap.get? b = some o → h₃.get? b = some o → True := fun _ _ _ _ => trivial
  have S₃ := S₂.cons F₃ N₃ S₂.lt
  refine wpAny_mono (hmk _ { s₂ with heap := h₃ } S₃) ?_ fun _ _ e => e
  rintro cenv s₄ ⟨own, cl', ec, hown, sh₄, S₄⟩
  rw [ec]
  have e2 : (s₂.heap.objs.size, ({ cls := .type "list", data := .seq ([] : List Value).toArray } : Obj)) = (s₂.heap.objs.size, LCg.lst []) := rfl
  rw [e2] at S₄
  have pm : ((I, oI) :: (own ++ (s₂.heap.objs.size, LCg.lst []) :: n)).Perm (own ++ (s₂.heap.objs.size, LCg.lst []) :: (I, oI) :: n) :=
    (List.perm_middle.symm).trans (List.Perm.append_left own (List.Perm.swap ..))
  have S₄' := S₄.perm pm
  have st₄ : Stt 0 s₄.heap := S₀.stay _ _ _ oI n st₂ (S₂.N (I, oI) (List.mem_cons_self ..)).1 (S₄'.N (I, oI) (List.mem_cons_self ..)).1 S₄'.F.keep
    (fun p hp => S₄'.N p (List.mem_cons_of_mem _ (sub_right _ (List.mem_cons_of_mem _ hp)))) hB
  have sh : Sh s s₄ := sh₂.trans ((Sh.mk s₂ h₃ s₂.toks).trans sh₄)
  have go := loop I Stt oI cenv.locals cl' own s₂.heap.objs.size s₄ S₀ st₄ hown sh S₄'
  obtain ⟨fp, W⟩ := S₀.W
  exact codeAny_compStart_list go (W.self 0 _ _ _ st₄ go)

/-- a comprehension of one clause, as a value -/
theorem ev_comp {elt iter : Expr} {ifs : List Expr} {scope : Scope} {cl : List (Str × Addr)} {x : Str} {px pos : Pos} {Own : Addr → List (Str × Addr) → Led → Prop} {OwnV : Addr → List (Str × Addr) → Led → Value → Prop}
    {ds : List Dat} (p : Dat → Bool) (f : Dat → Dat) (hh : A.handled = none) (T : Tgt prog w A h₀ L m env scope x px Own OwnV) (hmk : Mk prog w A h₀ L m env scope cl Own)
    (hclos : closureFor scope env = pure cl) (hkind : scope.kind = .function) (hnames : ∀ y ∈ scope.names, y.2 = .local → scope.names.lookup y.1 = some .local) (hz : ds.length ≤ sizeLine)
    (hi : Tr prog w A h₀ L m X B (eval iter env) (IsSrc ds))
    (htest : ∀ C cl', ∀ d ∈ ds, ∀ v own tl, OwnV C cl' own v → DatIn (tl ++ B) v d → Tr prog w A h₀ L m (own ++ X) (tl ++ B) (tests ifs (compEnvC scope cl' C env)) (IsB (p d)))
    (helt : ∀ C cl', ∀ d ∈ ds, p d = true → ∀ v own tl, OwnV C cl' own v → DatIn (tl ++ B) v d → Tr prog w A h₀ L m (own ++ X) (tl ++ B) (eval elt (compEnvC scope cl' C env)) (IsD (f d)))
    (hs : ∀ x, foldedSetIterable iter env x = pure x := by intro _; rfl) :
    Tr prog w A h₀ L m X B (eval (.ListComp elt [⟨.Name x px, iter, ifs, 0⟩] scope pos) env) (IsD (.list ((ds.filter p).map f))) := by
  intro n s hX hB S
  rw [eval_ListComp]
  refine wpAny_comprehension_free (use := none) rfl hs hclos hkind hnames (hi.go hX hB S fun tl₁ xv s₁ sh₁ S₁ r₁ => ?_)
  refine comp_pre (B := tl₁ ++ B) hh hmk r₁ (sub_app hB) S₁ fun I Stt oI C cl' own D s₂ S₀ st₂ hown sh₂ S₂ => ?_
  refine comp_loop (X := X) (B := tl₁ ++ B) T p f (sub_rr hX) (sub_app hB) hz ?_ ?_ S₀ st₂ S₂ hown fun own' tl ys s₃ hown' sh₃ S₃ hys => ?_
  · intro d hd v own tl hV hv
    have := htest C cl' d hd v own (tl ++ tl₁) hV (by rw [List.append_assoc]; exact hv)
    rw [List.append_assoc] at this
    exact this
  · intro d hd hp v own tl hV hv
    have := helt C cl' d hd hp v own (tl ++ tl₁) hV (by rw [List.append_assoc]; exact hv)
    rw [List.append_assoc] at this
    exact this
  · obtain ⟨oC, m₂, rest, rfl, hC⟩ := T.ns _ _ _ hown'
    have zC := (S₃.N (C, oC) (List.mem_append_left _ (List.mem_cons_self ..))).1
    refine ⟨m₂, hC.ns zC, fun h' hs' => ?_⟩
    have hL := (S₃.N (C, oC) (List.mem_append_left _ (List.mem_cons_self ..))).2
    have nd := S₃.nd
    have S₄ : St h₀ L m (rest ++ (D, LCg.lst ys) :: (tl ++ (tl₁ ++ n))) h' := by
      refine ⟨S₃.F.change hs' hL.1 hL.2, fun q hq => ?_, ?_⟩
      · have z := S₃.N q (by rw [List.cons_append]; exact List.mem_cons_of_mem _ hq)
        refine ⟨(hs'.2 q.1 fun e => ?_).trans z.1, z.2⟩
        rw [List.cons_append, List.map_cons, List.nodup_cons] at nd
        exact nd.1 (List.mem_map.mpr ⟨q, hq, e⟩)
      · rw [List.cons_append, List.map_cons, List.nodup_cons] at nd
        exact nd.2
    have S₅ : St h₀ L m ((D, LCg.lst ys) :: (tl ++ (tl₁ ++ n))) h' := S₄.tail
    refine ⟨(D, LCg.lst ys) :: (tl ++ tl₁), (sh₁.trans (sh₂.trans sh₃)).trans (Sh.mk s₃ h' s₃.toks), ?_, ?_⟩
    · show St h₀ L m (((D, LCg.lst ys) :: (tl ++ tl₁)) ++ n) h'
      rw [List.cons_append, List.append_assoc]; exact S₅
    · exact DatIn.list (List.mem_cons_self ..) (hys.mono fun q hq => List.mem_cons_of_mem _ (by rw [← List.append_assoc] at hq; exact hq))
end
end Mine

namespace Mine

section
variable {prog : Program} {w : World} {A : Around} {h₀ : Heap} {L : Addr} {m : Loc} {X B : Led} {env : Env} {K : Frag} {dp un : Nat}
  {R : Led → Value → Prop} {name qual : Str} {params : Arguments} {body : List Stmt} {scope : Scope} {dV kV doc pm cdv ct oc : Value} {an od : Option Addr} {osl : Array (Option Value)} {f : Addr} {vs : List Value} {binds : List (Str × Value)}

theorem Cx.deeper {env' : Env} {L' : Addr} {g : Heap} (C : Cx prog w K A env h₀ L dp un) {base : Heap} {outer : List Env} {A' : Around} (hB : Below A' base outer g) (hA : (A.deeper env').frames = some (env' :: outer)) (X' : K.In g) (T : ∃ p loose mean mg mb, Top p loose mean mg mb g)
    (hf : env'.frame = some L') (hk : env'.scope.kind = .function) : Cx prog w K (A.deeper env') env' g L' (dp + 1) (un + 3) :=
  ⟨⟨A', base, outer, hB, hA⟩, X', T, C.hh, hf, hk, Nat.add_le_add_right C.d 1, Nat.add_le_add_right C.u 3⟩

/-- a call of a def without cells -/
theorem tr_call (C : Cx prog w K A env h₀ L dp un) (ho : K.lookup f = some ⟨oc, od, .func (fnOf name qual params body scope dV kV doc pm an cdv ct), osl⟩) (hcd : codeIn K cdv qual = true) (hroom : dp < recursionLimit)
    (hbind : ∀ s, BindsTo s (fnOf name qual params body scope dV kV doc pm an cdv ct) ⟨vs, []⟩ binds) (hloc : ∀ y ∈ binds, scope.names.lookup y.1 = some .local)
    (hco : scope.isCoroutine = false) (hgen : scope.isGenerator = false) (hk : scope.kind = .function) (hcell : ∀ x ∈ scope.names, x.2 ≠ .cell)
    (hb : ∀ A' g L' n s, Cx prog w K A' (envOf qual scope L' f cdv) g L' (dp + 1) (un + 3) → (∀ p ∈ B, p ∈ n) → St g L' (fun y => binds.reverse.lookup y) n s.heap →
      wpAny (model prog w) A' (execs body (envOf qual scope L' f cdv)) (fun fl s' => ∃ m' tl v, fl = .ret v ∧ Sh s s' ∧ St g L' m' (tl ++ n) s'.heap ∧ R (tl ++ B) v) NF s) :
    Tr prog w A h₀ L m X B (call (.ref f) vs) R := by
  intro n s _ hB S
  obtain ⟨A₀, base, outer, hBelow, hA⟩ := C.ex
  obtain ⟨p, loose, mean, mg, mb, T⟩ := C.T
  refine wpAny_call (code_def hBelow S.F C.X S.N T hA C.hf C.hk ho hcd (Nat.lt_of_le_of_lt C.d hroom) (hbind s) hloc (fun g L' h₁ FG F' N' B' X' T' => ?_) hco hgen hk hcell)
  have C' : Cx prog w K (A.deeper (envOf qual scope L' f cdv)) (envOf qual scope L' f cdv) g L' (dp + 1) (un + 3) :=
    C.deeper B' (Around.frames_deeper hA) X' ⟨_, _, _, _, _, T'⟩ rfl hk
  refine wpAny_mono (hb _ g L' n _ C' hB ⟨F', N', S.nd⟩) ?_ fun _ _ e => e.elim
  rintro fl s' ⟨m', tl, v, rfl, sh, S', r⟩
  have sh' : Sh s s' := (Sh.mk s _ _).trans sh
  exact ⟨L', m', tl ++ n, S'.F, S'.N, fun F₂ N₂ => ⟨tl, sh', ⟨F₂, N₂, S'.nd⟩, r⟩⟩

/-- a call of a def with cells -/
theorem tr_callC (C : Cx prog w K A env h₀ L dp un) (ho : K.lookup f = some ⟨oc, od, .func (fnOf name qual params body scope dV kV doc pm an cdv ct), osl⟩) (hcd : codeIn K cdv qual = true) (hroom : dp < recursionLimit)
    (hbind : ∀ s, BindsTo s (fnOf name qual params body scope dV kV doc pm an cdv ct) ⟨vs, []⟩ binds) (hkind : (binds.all fun y => scope.names.lookup y.1 == some .local || scope.names.lookup y.1 == some .cell) = true)
    (hnd : ((cellsFrom 0 scope.names []).map (·.1)).Nodup)
    (hco : scope.isCoroutine = false) (hgen : scope.isGenerator = false) (hk : scope.kind = .function)
    (hb : ∀ A' g L' n s cells, Cx prog w K A' (envOfC qual scope L' f cdv) g L' (dp + 1) (un + 3) → (∀ p ∈ B, p ∈ n) → CellsAre (bindC (envOfC qual scope L' f cdv).kindOf binds fun _ => none) (cellsFrom (L' + 1) scope.names []) cells →
      Fr g L' s.heap (bindL (envOfC qual scope L' f cdv).kindOf binds fun _ => none) → News g L' s.heap (cells ++ n) → (n.map (·.1)).Nodup → (∀ p ∈ n, p.1 < L') →
      wpAny (model prog w) A' (execs body (envOfC qual scope L' f cdv)) (fun fl s' => ∃ m' tl v, fl = .ret v ∧ Sh s s' ∧ St g L' m' (tl ++ n) s'.heap ∧ R (tl ++ B) v) NF s) :
    Tr prog w A h₀ L m X B (call (.ref f) vs) R := by
  intro n s _ hB S
  obtain ⟨A₀, base, outer, hBelow, hA⟩ := C.ex
  obtain ⟨p, loose, mean, mg, mb, T⟩ := C.T
  refine wpAny_call (code_defC hBelow S.F C.X S.N T hA C.hf C.hk ho hcd (Nat.lt_of_le_of_lt C.d hroom) (hbind s) hkind hnd (fun g L' h₁ tk cells FG F' N' Y B' X' T' lt => ?_) hco hgen hk)
  have C' : Cx prog w K (A.deeper (envOfC qual scope L' f cdv)) (envOfC qual scope L' f cdv) g L' (dp + 1) (un + 3) :=
    C.deeper B' (Around.frames_deeper hA) X' ⟨_, _, _, _, _, T'⟩ rfl hk
  refine wpAny_mono (hb _ g L' n _ cells C' hB Y F' N' S.nd lt) ?_ fun _ _ e => e.elim
  rintro fl s' ⟨m', tl, v, rfl, sh, S', r⟩
  have sh' : Sh s s' := (Sh.mk s _ _).trans sh
  exact ⟨L', m', tl ++ n, S'.F, S'.N, fun F₂ N₂ => ⟨tl, sh', ⟨F₂, N₂, S'.nd⟩, r⟩⟩

theorem St.cells1 {g : Heap} {L' c : Addr} {h : Heap} {m' : Loc} {o : Obj} {n : Led} (F : Fr g L' h m') (N : News g L' h ((c, o) :: n)) (nd : (n.map (·.1)).Nodup) (lt : ∀ p ∈ n, p.1 < L') (hc : L' < c) : St g L' m' ([(c, o)] ++ n) h := by
  refine ⟨F, N, ?_⟩
  show (c :: n.map (·.1)).Nodup
  rw [List.nodup_cons]
  refine ⟨fun h => ?_, nd⟩
  obtain ⟨p, hp, e⟩ := List.mem_map.mp h
  have := lt p hp
  rw [e] at this
  exact absurd (Nat.lt_trans this hc) (Nat.lt_irrefl _)
theorem nodup_cons_lt {n : List Addr} {c : Addr} (nd : n.Nodup) (h : ∀ p ∈ n, p < c) : (c :: n).Nodup := by
  rw [List.nodup_cons]
  exact ⟨fun q => absurd (h c q) (Nat.lt_irrefl _), nd⟩

/-- statements, in the shape of what goes on behind them; mut: what may be stored into -/
theorem Tr.goM {α : Type} {t : Sem α} {R : Led → α → Prop} {mu n : Led} {s : Shared} {Q : α → Shared → Prop} (h : Tr prog w A h₀ L m X B t R) (hX : ∀ p ∈ X, p ∈ mu ++ n) (hB : ∀ p ∈ B, p ∈ mu ++ n) (S : St h₀ L m (mu ++ n) s.heap)
    (k : ∀ tl v s', Sh s s' → St h₀ L m (mu ++ (tl ++ n)) s'.heap → R (tl ++ B) v → Q v s') : wpAny (model prog w) A t Q NF s :=
  h.go hX hB S fun tl v s' sh S' r => k tl v s' sh (S'.perm (List.perm_append_comm_assoc mu tl n)) r

variable {cn : Str} {cs : Scope} {a : Addr} {ccd : Value} {cl : List (Str × Addr)} {Q : Flow → Shared → Prop} {mu n : Led} {s : Shared}

theorem st_return {e : Expr} {pos : Pos} {env : Env} (h : Tr prog w A h₀ L m X B (eval e env) R) (hX : ∀ p ∈ X, p ∈ mu ++ n) (hB : ∀ p ∈ B, p ∈ mu ++ n) (S : St h₀ L m (mu ++ n) s.heap)
    (k : ∀ tl v s', Sh s s' → St h₀ L m (mu ++ (tl ++ n)) s'.heap → R (tl ++ B) v → Q (.ret v) s') : wpAny (model prog w) A (exec (.Return (some e) pos) env) Q NF s :=
  wpAny_Return_some (h.goM hX hB S k)

theorem st_assign {x : Str} {px pos : Pos} {e : Expr} (h : Tr prog w A h₀ L m X B (eval e (envX cn cs L a ccd cl)) R) (hX : ∀ p ∈ X, p ∈ mu ++ n) (hB : ∀ p ∈ B, p ∈ mu ++ n) (S : St h₀ L m (mu ++ n) s.heap)
    (k : ∀ tl v s', Sh s s' → St h₀ L (fun y => if y = x then some v else m y) (mu ++ (tl ++ n)) s'.heap → R (tl ++ B) v → Q .next s')
    (hk : cs.kind = .function := by rfl) (hx : (envX cn cs L a ccd cl).kindOf x = some .local := by rfl)
    (hs : swapsWith e (some (.Name x px)) pos.line (envX cn cs L a ccd cl) = pure false := by rfl) : wpAny (model prog w) A (exec (.Assign [.Name x px] e pos) (envX cn cs L a ccd cl)) Q NF s :=
  wpAny_Assign_Name (hs := hs) (h.goM hX hB S fun tl v s' sh S' r => storeX_L S'.F S'.N (fun h' F' N' => k tl v _ (sh.trans (Sh.mk s' _ _)) ⟨F', N', S'.nd⟩ r) hk hx)

theorem st_store_cell {x : Str} {v : Value} {c : Addr} {o : Obj} {v₀ : Option Value} {mu₁ mu₂ : Led} {Q : Unit → Shared → Prop} (S : St h₀ L m ((mu₁ ++ (c, o) :: mu₂) ++ n) s.heap) (hc : cl.lookup x = some c) (ho : o.data = .cell v₀)
    (k : ∀ o' s', Sh s s' → o'.data = .cell (some v) → St h₀ L m ((mu₁ ++ (c, o') :: mu₂) ++ n) s'.heap → Q () s')
    (hk : cs.kind = .function := by rfl) (hx : (envX cn cs L a ccd cl).kindOf x = some .cell := by rfl) : wpAny (model prog w) A (storeName (envX cn cs L a ccd cl) x v) Q NF s := by
  have hm := S.N (c, o) (List.mem_append_left _ (List.mem_append_right _ (.head _)))
  refine wpAny_storeName_cell hk hx hc ⟨o, hm.1, ho⟩ fun h' hv hs => ?_
  obtain ⟨o', ho', hd'⟩ := hv
  refine k o' _ (Sh.mk s h' s.toks) hd' ?_
  rw [List.append_assoc, List.cons_append] at S ⊢
  exact S.set hs ho'

theorem st_assign_cell {x : Str} {px pos : Pos} {e : Expr} {c : Addr} {o : Obj} {v₀ : Option Value} {mu₁ mu₂ : Led} (h : Tr prog w A h₀ L m X B (eval e (envX cn cs L a ccd cl)) R) (hX : ∀ p ∈ X, p ∈ (mu₁ ++ (c, o) :: mu₂) ++ n) (hB : ∀ p ∈ B, p ∈ (mu₁ ++ (c, o) :: mu₂) ++ n)
    (S : St h₀ L m ((mu₁ ++ (c, o) :: mu₂) ++ n) s.heap) (hc : cl.lookup x = some c) (ho : o.data = .cell v₀)
    (k : ∀ tl v o' s', Sh s s' → o'.data = .cell (some v) → St h₀ L m ((mu₁ ++ (c, o') :: mu₂) ++ (tl ++ n)) s'.heap → R (tl ++ B) v → Q .next s')
    (hk : cs.kind = .function := by rfl) (hx : (envX cn cs L a ccd cl).kindOf x = some .cell := by rfl)
    (hs : swapsWith e (some (.Name x px)) pos.line (envX cn cs L a ccd cl) = pure false := by rfl) : wpAny (model prog w) A (exec (.Assign [.Name x px] e pos) (envX cn cs L a ccd cl)) Q NF s :=
  wpAny_Assign_Name (hs := hs) (h.goM hX hB S fun tl v s' sh S' r => st_store_cell S' hc ho (fun o' s'' sh' hd S'' => k tl v o' s'' (sh.trans sh') hd S'' r) hk hx)

theorem st_if {t : Expr} {b : Bool} {body orelse : List Stmt} {pos : Pos} {env : Env} (h : Tr prog w A h₀ L m X B (isTrue t env (eval t env)) (IsB b)) (hX : ∀ p ∈ X, p ∈ mu ++ n) (hB : ∀ p ∈ B, p ∈ mu ++ n) (S : St h₀ L m (mu ++ n) s.heap)
    (k1 : b = true → ∀ tl s', Sh s s' → St h₀ L m (mu ++ (tl ++ n)) s'.heap → wpAny (model prog w) A (execs body env) Q NF s') (k2 : b = false → ∀ tl s', Sh s s' → St h₀ L m (mu ++ (tl ++ n)) s'.heap → wpAny (model prog w) A (execs orelse env) Q NF s') :
    wpAny (model prog w) A (exec (.If t body orelse pos) env) Q NF s := by
  refine wpAny_If (h.goM hX hB S fun tl v s' sh S' r => ?_)
  have r : v = b := r
  subst r
  cases v with
  | true => simp only [if_true]; exact k1 rfl tl s' sh S'
  | false => simp only [Bool.false_eq_true, if_false]; exact k2 rfl tl s' sh S'

/-- y = [.. for x in ..] where the name and the block are exchanged -/
theorem st_assign_comp {elt iter : Expr} {ifs : List Expr} {scope : Scope} {clo : List (Str × Addr)} {x y : Str} {px py pos spos : Pos} {Own : Addr → List (Str × Addr) → Led → Prop} {OwnV : Addr → List (Str × Addr) → Led → Value → Prop}
    {ds : List Dat} (p : Dat → Bool) (f : Dat → Dat) (hh : A.handled = none) (T : Tgt prog w A h₀ L m (envX cn cs L a ccd cl) scope x px Own OwnV) (hmk : Mk prog w A h₀ L m (envX cn cs L a ccd cl) scope clo Own)
    (hclos : closureFor scope (envX cn cs L a ccd cl) = pure clo) (hkind : scope.kind = .function) (hnames : ∀ y ∈ scope.names, y.2 = .local → scope.names.lookup y.1 = some .local) (hz : ds.length ≤ sizeLine)
    (hi : Tr prog w A h₀ L m X B (eval iter (envX cn cs L a ccd cl)) (IsSrc ds))
    (htest : ∀ C cl', ∀ d ∈ ds, ∀ v own tl, OwnV C cl' own v → DatIn (tl ++ B) v d → Tr prog w A h₀ L m (own ++ X) (tl ++ B) (tests ifs (compEnvC scope cl' C (envX cn cs L a ccd cl))) (IsB (p d)))
    (helt : ∀ C cl', ∀ d ∈ ds, p d = true → ∀ v own tl, OwnV C cl' own v → DatIn (tl ++ B) v d → Tr prog w A h₀ L m (own ++ X) (tl ++ B) (eval elt (compEnvC scope cl' C (envX cn cs L a ccd cl))) (IsD (f d)))
    (hX : ∀ p ∈ X, p ∈ mu ++ n) (hB : ∀ p ∈ B, p ∈ mu ++ n) (S : St h₀ L m (mu ++ n) s.heap)
    (k : ∀ tl v s', Sh s s' → St h₀ L (fun z => if z = y then some v else m z) (mu ++ (tl ++ n)) s'.heap → DatIn (tl ++ B) v (.list ((ds.filter p).map f)) → Q .next s')
    (hk : cs.kind = .function := by rfl) (hy : (envX cn cs L a ccd cl).kindOf y = some .local := by rfl)
    (hsw : swapsWith (.ListComp elt [⟨.Name x px, iter, ifs, 0⟩] scope pos) (some (.Name y py)) spos.line (envX cn cs L a ccd cl) = pure true := by with_unfolding_all rfl)
    (hs : ∀ x, foldedSetIterable iter (envX cn cs L a ccd cl) x = pure x := by intro _; rfl) :
    wpAny (model prog w) A (exec (.Assign [.Name y py] (.ListComp elt [⟨.Name x px, iter, ifs, 0⟩] scope pos) spos) (envX cn cs L a ccd cl)) Q NF s := by
  rw [exec_Assign_Name_used _ _ _ _ hsw]
  refine wpAny_bind (wpAny_standAt (wpAny_bind ?_))
  show wpAny _ A (do let _ ← comprehension (.ListComp elt [⟨.Name x px, iter, ifs, 0⟩] scope pos) scope (envX cn cs L a ccd cl) _ (newList []) false (eval iter (envX cn cs L a ccd cl)) (some (assign (.Name y py) (envX cn cs L a ccd cl)))) _ _ s
  refine wpAny_bind (wpAny_mono (wpAny_comprehension_free (use := some (assign (.Name y py) (envX cn cs L a ccd cl))) (Q := fun _ s' => Q .next s') rfl hs hclos hkind hnames
    (hi.go hX hB S fun tl₁ xv s₁ sh₁ S₁ r₁ => ?_)) (fun _ s' hq => wpAny_pure (wpAny_pure hq)) fun _ _ e => e)
  refine comp_pre (B := tl₁ ++ B) hh hmk r₁ (sub_app hB) S₁ fun I Stt oI C cl' own D s₂ S₀ st₂ hown sh₂ S₂ => ?_
  refine comp_loop (X := X) (B := tl₁ ++ B) T p f (sub_rr hX) (sub_app hB) hz ?_ ?_ S₀ st₂ S₂ hown fun own' tl ys s₃ hown' sh₃ S₃ hys => ?_
  · intro d hd v own tl hV hv
    have := htest C cl' d hd v own (tl ++ tl₁) hV (by rw [List.append_assoc]; exact hv)
    rw [List.append_assoc] at this
    exact this
  · intro d hd hp v own tl hV hv
    have := helt C cl' d hd hp v own (tl ++ tl₁) hV (by rw [List.append_assoc]; exact hv)
    rw [List.append_assoc] at this
    exact this
  · obtain ⟨oC, m₂, rest, rfl, hC⟩ := T.ns _ _ _ hown'
    show wpAny _ A (assign (.Name y py) (envX cn cs L a ccd cl) (.ref D)) _ _ _
    refine wpAny_assign_Name (storeX_L S₃.F S₃.N (fun h₄ F₄ N₄ => ?_) hk hy)
    have S₄' : St h₀ L (fun z => if z = y then some (.ref D) else m z) (((C, oC) :: rest) ++ (D, LCg.lst ys) :: (tl ++ (tl₁ ++ (mu ++ n)))) h₄ := ⟨F₄, N₄, S₃.nd⟩
    have zC := (S₄'.N (C, oC) (List.mem_append_left _ (List.mem_cons_self ..))).1
    refine ⟨m₂, hC.ns zC, fun h' hs' => ?_⟩
    have hL := (S₄'.N (C, oC) (List.mem_append_left _ (List.mem_cons_self ..))).2
    have nd := S₄'.nd
    have S₅ : St h₀ L (fun z => if z = y then some (.ref D) else m z) (rest ++ (D, LCg.lst ys) :: (tl ++ (tl₁ ++ (mu ++ n)))) h' := by
      refine ⟨S₄'.F.change hs' hL.1 hL.2, fun q hq => ?_, ?_⟩
      · have z := S₄'.N q (by rw [List.cons_append]; exact List.mem_cons_of_mem _ hq)
        refine ⟨(hs'.2 q.1 fun e => ?_).trans z.1, z.2⟩
        rw [List.cons_append, List.map_cons, List.nodup_cons] at nd
        exact nd.1 (List.mem_map.mpr ⟨q, hq, e⟩)
      · rw [List.cons_append, List.map_cons, List.nodup_cons] at nd
        exact nd.2
    have S₆ := (S₅.tail).perm (n' := mu ++ (((D, LCg.lst ys) :: (tl ++ tl₁)) ++ n)) (by
      rw [List.cons_append, List.append_assoc]
      have : ((D, LCg.lst ys) :: (tl ++ (tl₁ ++ (mu ++ n)))) = ((D, LCg.lst ys) :: (tl ++ tl₁)) ++ (mu ++ n) := by simp
      rw [this]
      have : ((D, LCg.lst ys) :: (tl ++ (tl₁ ++ n))) = ((D, LCg.lst ys) :: (tl ++ tl₁)) ++ n := by simp
      rw [this]
      exact List.perm_append_comm_assoc ..)
    refine k ((D, LCg.lst ys) :: (tl ++ tl₁)) (.ref D) _ (((sh₁.trans (sh₂.trans sh₃)).trans (Sh.mk s₃ _ _)).trans (Sh.mk _ h' _)) S₆ ?_
    exact DatIn.list (List.mem_cons_self ..) (hys.mono fun q hq => List.mem_cons_of_mem _ (by rw [← List.append_assoc] at hq; exact hq))
end
end Mine

namespace Mine

def fnBody : Stmt → List Stmt
  | .FunctionDef _ _ b _ _ _ _ _ _ _ => b
  | _ => []
def fnParams : Stmt → Arguments
  | .FunctionDef _ a _ _ _ _ _ _ _ _ => a
  | _ => { posonlyargs := [], args := [], vararg := none, kwonlyargs := [], kw_defaults := [], kwarg := none, defaults := [] }
def fnScope : Stmt → Scope
  | .FunctionDef _ _ _ _ _ _ s _ _ _ => s
  | _ => { kind := .function, names := [], isGenerator := false, isCoroutine := false, more := [] }
def stAt (i : Nat) : Stmt := match (PySem.Challenge.pw_xm0741_01.main.body)[i]? with
  | some s => s
  | none => .Pass ⟨0, 0, 0, 0⟩

/-- a def of the text stands at f -/
structure FnAt (K : Frag) (f : Addr) (i : Nat) (name : Str) : Prop where
  at_ : ∃ oc od doc pm an cdv ct osl, K.lookup f = some ⟨oc, od, .func (fnOf name name (fnParams (stAt i)) (fnBody (stAt i)) (fnScope (stAt i)) .none .none doc pm an cdv ct), osl⟩ ∧ codeIn K cdv name = true
  ns : nsIn K mainGlobals name = some (some (.ref f))
  keep : keepIn K (.ref f) = true

structure KH (K : Frag) : Prop where
  kept : FnAt K 21 1 "kept_ahead"
  may : FnAt K 26 2 "may_follow"
  orders : FnAt K 31 3 "all_orders"
  told : FnAt K 38 4 "told_orders"
  pool : FnAt K 45 6 "_law_pool"
  take : FnAt K 52 7 "_law_take"
  one : FnAt K 59 8 "_law_one"
  shuffled : FnAt K 66 9 "_law_shuffled"
  isLet : FnAt K 71 10 "_law_is_let"
  rowRight : FnAt K 76 11 "_law_row_right"
  allRight : FnAt K 81 12 "_law_all_right"
  right : FnAt K 86 13 "_law_right"
  built : ∀ x ∈ (["len", "range", "all", "max", "int", "list", "sum", "sorted", "str"] : List Str), nsIn K mainGlobals x = some none
end Mine

namespace Mine

def mayF (number : Int) (row l : List Int) : Bool := !(row.contains number) && l.all (row.contains ·)

theorem filter_tt {α : Type} (l : List α) : l.filter (fun _ => true) = l := List.filter_eq_self.mpr fun _ _ => rfl

section
variable {prog : Program} {w : World} {A : Around} {h₀ : Heap} {L : Addr} {m : Loc} {X B : Led} {env : Env} {K : Frag} {dp un : Nat}

theorem may_follow_spec (H : KH K) (C : Cx prog w K A env h₀ L dp un) (hd : dp ≤ 600) (hu : un ≤ 6000) {a b c : Value} {number : Int} {row l : List Int} {al : List (Int × List Int)}
    (ha : DatIn B a (.int number)) (hb : DatIn B b (dL row)) (hc : IsAh prog w al B c) (hl : al.lookup number = some l) (hz : l.length ≤ 1000) :
    Tr prog w A h₀ L m X B (call (.ref 26) [a, b, c]) (VB (mayF number row l)) := by
  obtain ⟨⟨oc, od, doc, pm, an, cdv, ct, osl, ho, hcd⟩, _, _⟩ := H.may
  refine tr_callC (binds := [("number", a), ("row", b), ("ahead", c)]) C ho hcd (Nat.lt_of_le_of_lt hd (by decide)) (fun s => BindsTo.of_eq (by rfl)) (by rfl) (by decide +kernel) rfl rfl rfl ?_
  intro A' g L' n s cells C' hB Y F N nd lt
  obtain ⟨o, rfl, d1⟩ := CellsAre.one Y
  have S := St.cells1 F N nd lt (Nat.lt_succ_self _)
  have hu' : A'.units + 64 < cLine := by have := C'.u; rw [cLine_is]; omega
  refine wpAny_execs_cons ?_
  refine st_return (X := [(L' + 1, o)]) (B := B) (R := VB (mayF number row l)) ?_ sub_left (sub_rr hB) S fun tl v s' sh S' r => ⟨_, tl, v, rfl, sh, S'.tail, r⟩
  refine ev_and2 (b := !(row.contains number)) (c := l.all (row.contains ·)) ?_ fun _ => ?_
  · refine ev_cmp (nm_local (by rfl) ha) (nm_cell (by rfl) (List.mem_cons_self ..) d1 hb) (mo_isD _) (mo_isD _) fun tl a b r1 r2 => ?_
    refine cp_notin_list r1 r2 rfl (dI_ok _) hu' ?_
    rw [dI_mem]
    simp
  · have hB1 : (l.all (row.contains ·)) = (l.map (row.contains ·)).all id := by rw [List.all_map]; rfl
    rw [hB1]
    refine ev_callB (id := "all") (nm_builtin C'.T C'.X (H.built _ (by simp)) (by rfl) (by decide) rfl) (items1 (mo_isD (.list ((l.map (row.contains ·)).map Dat.bool))) ?_) (mo1 (mo_isD _)) fun tl vs r => ?_
    · refine (ev_comp (ds := dI l) (fun _ => true) (fun d => .bool (match d with | .int i => row.contains i | _ => false)) C'.hh (tgtL (by rfl) (by rfl)) (mkL (by rfl) (by decide)) (by rfl) (by rfl) (by decide)
        (by rw [dI_length, sizeLine_eq]; omega) ((ev_ahead (nm_local (by rfl) hc) (nm_local (by rfl) ha) hl).mono fun _ _ r => .inl r) (fun _ _ _ _ _ _ _ _ _ => tests_nil) ?_).mono fun tl v r => ?_
      · rintro Cc cl' d hd _ v own tl ⟨rfl, oC, m₂, rfl, hC, hv⟩ hdv
        obtain ⟨i, hi, rfl⟩ := List.mem_map.mp hd
        refine ev_cmp (R₁ := IsD (.int i)) (R₂ := IsD (dL row)) (nc_own (List.mem_cons_self ..) hC hv hdv) (nc_cell (by rfl) (List.mem_cons_of_mem _ (List.mem_cons_self ..)) d1 (hb.mono sub_right)) (mo_isD _) (mo_isD _) fun tl a b r1 r2 => ?_
        refine (cp_in_list (c := row.contains i) r1 r2 rfl (dI_ok _) hu' ?_).mono fun _ _ r => ?_
        · rw [dI_mem]; simp
        · rw [r]; exact .bool _
      · rw [filter_tt, dI, List.map_map] at r
        rw [List.map_map]
        exact r
    · obtain ⟨v, rfl, r⟩ := r
      exact cl_all C'.hh r
end
end Mine

namespace Mine

section
variable {prog : Program} {w : World} {A : Around} {h₀ : Heap} {L : Addr} {m : Loc} {X B : Led} {K : Frag} {dp un : Nat}
  {cn : Str} {cs : Scope} {a : Addr} {ccd : Value} {cl : List (Str × Addr)} {Q : Flow → Shared → Prop} {mu n : Led} {s : Shared}

theorem as_local {x : Str} {px : Pos} {v : Value} {Q : Unit → Shared → Prop} (S : St h₀ L m n s.heap) (k : ∀ s', Sh s s' → St h₀ L (fun y => if y = x then some v else m y) n s'.heap → Q () s')
    (hk : cs.kind = .function := by rfl) (hx : (envX cn cs L a ccd cl).kindOf x = some .local := by rfl) : wpAny (model prog w) A (assign (.Name x px) (envX cn cs L a ccd cl) v) Q NF s :=
  wpAny_assign_Name (storeX_L S.F S.N (fun h' F' N' => k _ (Sh.mk s h' _) ⟨F', N', S.nd⟩) hk hx)
theorem as_cell {x : Str} {px : Pos} {v : Value} {c : Addr} {o : Obj} {v₀ : Option Value} {mu₁ mu₂ : Led} {Q : Unit → Shared → Prop} (S : St h₀ L m ((mu₁ ++ (c, o) :: mu₂) ++ n) s.heap) (hc : cl.lookup x = some c) (ho : o.data = .cell v₀)
    (k : ∀ o' s', Sh s s' → o'.data = .cell (some v) → St h₀ L m ((mu₁ ++ (c, o') :: mu₂) ++ n) s'.heap → Q () s')
    (hk : cs.kind = .function := by rfl) (hx : (envX cn cs L a ccd cl).kindOf x = some .cell := by rfl) : wpAny (model prog w) A (assign (.Name x px) (envX cn cs L a ccd cl) v) Q NF s :=
  wpAny_assign_Name (st_store_cell S hc ho k hk hx)

/-- a for over a source; mu: what is stored into, tl: what is made -/
theorem st_for {x : Str} {px pos : Pos} {iter : Expr} {body : List Stmt} {env : Env} {ds : List Dat} (hh : A.handled = none) (J : Nat → Loc → Led → Led → Prop)
    (hi : Tr prog w A h₀ L m X B (eval iter env) (IsSrc ds)) (hX : ∀ p ∈ X, p ∈ mu ++ n) (hB : ∀ p ∈ B, p ∈ n) (S : St h₀ L m (mu ++ n) s.heap) (j0 : ∀ tl, J 0 m mu tl)
    (turn : ∀ I i d v m' mu' tl oI s₁, ds[i]? = some d → DatIn (tl ++ B) v d → J i m' mu' tl → Sh s s₁ → St h₀ L m' (((I, oI) :: mu') ++ (tl ++ n)) s₁.heap →
      wpAny (model prog w) A (assign (.Name x px) env v) (fun _ s₂ => wpAny (model prog w) A (execs body env) (fun f s₃ => match f with
        | .next | .cont => ∃ m'' mu'' tl', Sh s s₃ ∧ St h₀ L m'' (((I, oI) :: mu'') ++ (tl' ++ (tl ++ n))) s₃.heap ∧ J (i + 1) m'' mu'' (tl' ++ tl)
        | .brk => Q .next s₃
        | .ret v => Q (.ret v) s₃) NF s₂) NF s₁)
    (done : ∀ m' mu' tl s', J ds.length m' mu' tl → Sh s s' → St h₀ L m' (mu' ++ (tl ++ n)) s'.heap → Q .next s')
    (hs : ∀ x, foldedSetIterable iter env x = pure x := by intro _; rfl) : wpAny (model prog w) A (exec (.For (.Name x px) iter body [] pos) env) Q NF s := by
  refine wpAny_For (hi.goM hX (sub_rr hB) S fun tl₁ xv s₁ sh₁ S₁ r₁ => ?_) hs
  refine wpAny_mono (iter_start (B := tl₁ ++ B) hh r₁ (fun p hp => sub_right _ (sub_app hB p hp)) S₁) ?_ fun _ _ e => e
  rintro it s₂ ⟨I, Stt, oI, rfl, sh₂, S₀, st₂, S₂⟩
  refine src_loop (A := A) (B := tl₁ ++ B) S₀ (fun i m' n' => ∃ mu' tl', n' = mu' ++ ((tl' ++ tl₁) ++ n) ∧ J i m' mu' (tl' ++ tl₁))
    (fun s' => Q .next s')
    (fun v nx s₁ => wpAny (model prog w) A (assign (.Name x px) env v) (fun _ s₂ => wpAny (model prog w) A (execs body env) (fun f s₃ => match f with
          | .next | .cont => nx s₃
          | .brk => Q .next s₃
          | .ret v => Q (.ret v) s₃) (notedBy (model prog w) A env fun e s' => cameBackBy (model prog w) A env NF e s') s₂) (notedBy (model prog w) A env fun e s' => cameBackBy (model prog w) A env NF e s') s₁)
    (E := notedBy (model prog w) A env fun e s' => cameBackBy (model prog w) A env NF e s')
    (fun Iv turn k h => codeAny_forLoop Iv (fun k s' h => wpAny_mono (turn k s' h) (fun r s₁ q => by
      cases r with
      | none => exact wpAny_execs_nil q
      | some v => exact q) fun _ _ e => e) k h) st₂ S₂ ⟨mu, [], rfl, j0 _⟩ ?_ ?_ ?_
  · rintro i m' n' ⟨mu', tl', rfl, _⟩ p hp
    refine sub_right _ ?_
    rw [List.append_assoc]
    exact sub_right _ (sub_app hB p hp)
  · rintro i d v m' n' oI' s₃ nx hd hv ⟨mu', tl', rfl, hJ⟩ sh₃ S₃ next
    refine wpAny_mono (turn I i d v m' mu' (tl' ++ tl₁) oI' s₃ hd (by rw [List.append_assoc]; exact hv.mono sub_right) hJ ((sh₁.trans sh₂).trans sh₃) S₃) ?_ fun _ _ e => e.elim
    intro _ s₄ h₄
    refine wpAny_mono h₄ ?_ fun _ _ e => e.elim
    intro f s₅ h₅
    have go : (∃ m'' mu'' tl'', Sh s s₅ ∧ St h₀ L m'' (((I, oI') :: mu'') ++ (tl'' ++ ((tl' ++ tl₁) ++ n))) s₅.heap ∧ J (i + 1) m'' mu'' (tl'' ++ (tl' ++ tl₁))) → nx s₅ := by
      rintro ⟨m'', mu'', tl'', sh₅, S₅, hJ₅⟩
      refine next s₅ m'' (mu'' ++ (((tl'' ++ tl') ++ tl₁) ++ n)) ?_ (by
        simp only [List.append_assoc, List.cons_append] at S₅ ⊢
        exact S₅) ⟨mu'', tl'' ++ tl', rfl, by rw [List.append_assoc]; exact hJ₅⟩
      obtain ⟨h1, t1, e1⟩ := sh₅
      obtain ⟨h2, t2, e2⟩ := sh₁.trans sh₂
      exact ⟨h1, t1, by rw [e1, e2]⟩
    cases f with
    | next => exact go h₅
    | cont => exact go h₅
    | brk => exact h₅
    | ret v => exact h₅
  · rintro m' n' s₃ ⟨mu', tl', rfl, hJ⟩ sh₃ S₃
    exact done m' mu' (tl' ++ tl₁) s₃ hJ ((sh₁.trans sh₂).trans sh₃) S₃
end
end Mine

namespace Mine

def letAt (numbers : List Int) (kinds : List Str) (row : List Int) (spot : Nat) : Bool :=
  !(kinds.getD (numbers.idxOf (row.getD spot 0)) "inner" != "inner") || ((numbers.take (numbers.idxOf (row.getD spot 0))).filter (fun one => !((row.take spot).contains one))).isEmpty
def letF (numbers : List Int) (kinds : List Str) (row : List Int) : Bool := (List.range row.length).all (letAt numbers kinds row)

theorem upd_ne {m : Loc} {x y : Str} {v : Value} (h : y ≠ x) : (fun z => if z = x then some v else m z) y = m y := if_neg h
theorem ret_done {g : Heap} {L' : Addr} {m' : Loc} {k tl n B : Led} {v : Value} {R : Led → Value → Prop} {s s' : Shared} (S : St g L' m' k s'.heap) (sh : Sh s s') (e : k = tl ++ n) (r : R (tl ++ B) v) :
    ∃ m' tl v', Flow.ret v = .ret v' ∧ Sh s s' ∧ St g L' m' (tl ++ n) s'.heap ∧ R (tl ++ B) v' := by
  subst e
  exact ⟨m', tl, v, rfl, sh, S, r⟩
theorem next_done {g : Heap} {L' I : Addr} {oI : Obj} {m' : Loc} {k mu' tl tl' n : Led} {J : Nat → Loc → Led → Led → Prop} {i : Nat} {s s' : Shared} (S : St g L' m' k s'.heap) (sh : Sh s s') (e : k = ((I, oI) :: mu') ++ (tl' ++ (tl ++ n))) (j : J (i + 1) m' mu' (tl' ++ tl)) :
    ∃ m'' mu'' tl', Sh s s' ∧ St g L' m'' (((I, oI) :: mu'') ++ (tl' ++ (tl ++ n))) s'.heap ∧ J (i + 1) m'' mu'' (tl' ++ tl) := by
  subst e
  exact ⟨m', mu', tl', sh, S, j⟩
theorem getD_of {α : Type} {l : List α} {i : Nat} {d : α} (h : i < l.length) : l[i]? = some (l.getD i d) := by
  rw [List.getD_eq_getElem?_getD, List.getElem?_eq_getElem h]; rfl

section
variable {prog : Program} {w : World} {A : Around} {h₀ : Heap} {L : Addr} {m : Loc} {X B : Led} {env : Env} {K : Frag} {dp un : Nat}

theorem is_let_spec (H : KH K) (C : Cx prog w K A env h₀ L dp un) (hd : dp ≤ 600) (hu : un ≤ 6000) {a b c : Value} {numbers row : List Int} {kinds : List Str}
    (ha : DatIn B a (dL numbers)) (hb : DatIn B b (.list (kinds.map Dat.str))) (hc : DatIn B c (dL row)) (hk : kinds.length = numbers.length) (hz : numbers.length ≤ 1000) (hz' : row.length ≤ 1000) (hr : ∀ x ∈ row, x ∈ numbers) :
    Tr prog w A h₀ L m X B (call (.ref 71) [a, b, c]) (VB (letF numbers kinds row)) := by
  obtain ⟨⟨oc, od, doc, pm, an, cdv, ct, osl, ho, hcd⟩, _, _⟩ := H.isLet
  refine tr_callC (binds := [("numbers", a), ("kinds", b), ("row", c)]) C ho hcd (Nat.lt_of_le_of_lt hd (by decide)) (fun s => BindsTo.of_eq (by rfl)) (by rfl) (by decide +kernel) rfl rfl rfl ?_
  intro A' g L' n s cells C' hB Y F N nd lt
  obtain ⟨o₂, o₁, rfl, d2, d1⟩ := CellsAre.two Y
  have S : St g L' (bindL (envOfC "_law_is_let" (fnScope (stAt 10)) L' 71 cdv).kindOf [("numbers", a), ("kinds", b), ("row", c)] fun _ => none) ([(L' + 1 + 1, o₂), (L' + 1, o₁)] ++ n) s.heap :=
    ⟨F, N, nodup_cons_lt (nodup_cons_lt nd fun p hp => by
      obtain ⟨q, hq, rfl⟩ := List.mem_map.mp hp
      exact Nat.lt_succ_of_lt (lt q hq)) fun p hp => by
      rcases List.mem_cons.mp hp with rfl | hp
      · exact Nat.lt_succ_self _
      · obtain ⟨q, hq, rfl⟩ := List.mem_map.mp hp
        exact Nat.lt_succ_of_lt (Nat.lt_succ_of_lt (lt q hq))⟩
  have hu' : A'.units + 64 < cLine := by have := C'.u; rw [cLine_is]; omega
  refine wpAny_execs_cons ?_
  refine st_for (X := [(L' + 1, o₁)]) (B := B) (ds := rg 0 row.length) C'.hh
    (fun i m' mu' tl => (∃ o₂ u, mu' = [(L' + 1 + 1, o₂), (L' + 1, o₁)] ∧ o₂.data = .cell u) ∧ m' "numbers" = some a ∧ m' "kinds" = some b ∧ ∀ j < i, letAt numbers kinds row j = true)
    ?_ (fun p hp => by rw [List.mem_singleton.mp hp]; exact List.mem_cons_of_mem _ (List.mem_cons_self ..)) hB S (fun tl => ⟨⟨o₂, _, rfl, d2⟩, by rfl, by rfl, fun j hj => absurd hj (Nat.not_lt_zero _)⟩) ?_ ?_
  · refine ev_callT (T := "range") (nm_builtin C'.T C'.X (H.built _ (by simp)) (by rfl) (by decide) rfl) (items1 (mo_isD (.int (row.length : Nat))) ?_) (mo1 (mo_isD _)) fun tl vs r => ?_
    · refine ev_callB (id := "len") (nm_builtin C'.T C'.X (H.built _ (by simp)) (by rfl) (by decide) rfl) (items1 (mo_isD (dL row)) (nm_cell (by rfl) (List.mem_cons_self ..) d1 hc)) (mo1 (mo_isD _)) fun tl vs r => ?_
      obtain ⟨v, rfl, r⟩ := r
      refine (cl_len r (by rw [dI_length]; omega)).mono fun _ _ r => ?_
      rw [dI_length] at r
      exact r
    · obtain ⟨v, rfl, r⟩ := r
      exact (cl_range1 r).mono fun _ _ r => .inr ⟨0, _, row.length, r, by omega, by omega, by omega, by omega, rfl⟩
  · rintro I i d v m' mu' tl oI s₁ hd hv ⟨⟨o₂, u, rfl, d2⟩, hmn, hmk, hj⟩ sh₁ S₁
    have hi : i < row.length := by
      have := (List.getElem?_eq_some_iff.mp hd).1
      rw [rg_len] at this
      exact this
    rw [rg_get hi] at hd
    cases hd
    rw [Int.zero_add] at hv
    refine as_cell (mu₁ := [(I, oI)]) (mu₂ := [(L' + 1, o₁)]) (c := L' + 1 + 1) S₁ (by rfl) d2 fun o₃ s₂ sh₂ d3 S₂ => ?_
    have hx : row.getD i 0 ∈ numbers := hr _ (by rw [List.getD_eq_getElem?_getD, List.getElem?_eq_getElem hi]; exact List.getElem_mem hi)
    have hidx : numbers.idxOf (row.getD i 0) < numbers.length := List.idxOf_lt_length_iff.mpr hx
    have hB₂ : ∀ p ∈ tl ++ B, p ∈ ([(I, oI)] ++ (L' + 1 + 1, o₃) :: [(L' + 1, o₁)]) ++ (tl ++ n) := fun p hp => sub_right _ (sub_app hB p hp)
    refine wpAny_execs_cons ?_
    refine st_assign (X := [(L' + 1 + 1, o₃), (L' + 1, o₁)]) (B := tl ++ B) (R := IsD (.int (numbers.idxOf (row.getD i 0) : Nat))) ?_ (fun p hp => List.mem_append_left _ (List.mem_cons_of_mem _ hp)) hB₂ S₂ fun tl₃ v₃ s₃ sh₃ S₃ r₃ => ?_
    · refine ev_index (l := numbers) (k := row.getD i 0) (nm_local hmn (ha.mono sub_right)) ?_ hx (by omega)
      exact ev_item (ds := dI row) (k := i) (nm_cell (by rfl) (List.mem_cons_of_mem _ (List.mem_cons_self ..)) d1 (hc.mono sub_right)) (nm_cell (by rfl) (List.mem_cons_self ..) d3 hv) (by omega) (by rw [dI_get, Int.toNat_natCast, getD_of hi (d := 0)]; rfl) (by omega)
    · refine wpAny_execs_cons ?_
      have hB₃ : ∀ p ∈ (tl₃ ++ tl) ++ B, p ∈ ([(I, oI)] ++ (L' + 1 + 1, o₃) :: [(L' + 1, o₁)]) ++ ((tl₃ ++ tl) ++ n) := fun p hp => sub_right _ (sub_app hB p hp)
      rw [← List.append_assoc tl₃ tl n] at S₃
      rw [← List.append_assoc] at r₃
      refine st_if (X := [(L' + 1 + 1, o₃), (L' + 1, o₁)]) (B := (tl₃ ++ tl) ++ B) (b := !(letAt numbers kinds row i)) ?_ (fun p hp => List.mem_append_left _ (List.mem_cons_of_mem _ hp)) hB₃ S₃ (fun hlf tl₄ s₄ sh₄ S₄ => ?_) fun hlt tl₄ s₄ sh₄ S₄ => ?_
      · have e : (!(letAt numbers kinds row i)) = ((kinds.getD (numbers.idxOf (row.getD i 0)) "inner" != "inner") && !((numbers.take (numbers.idxOf (row.getD i 0))).filter (fun one => !((row.take i).contains one))).isEmpty) := by
          unfold letAt; rw [Bool.not_or, Bool.not_not]
        rw [e]
        refine ts_and2 ?_ fun _ => ?_
        · refine ts_cmp (R₁ := IsD (.str (kinds.getD (numbers.idxOf (row.getD i 0)) "inner"))) (R₂ := IsD (.str "inner")) ?_ ev_str (mo_isD _) (mo_isD _) fun tl x y r1 r2 => cp_ne_str r1 r2
          refine ev_item (ds := kinds.map Dat.str) (k := (numbers.idxOf (row.getD i 0) : Nat)) (nm_local ((upd_ne (by decide)).trans hmk) (hb.mono sub_right)) (nm_local (by simp) r₃) (by omega) ?_ (by omega)
          rw [Int.toNat_natCast, List.getElem?_map]
          exact congrArg (Option.map Dat.str) (getD_of (l := kinds) (by rw [hk]; exact hidx))
        · refine ts_cmp (R₁ := IsD (dL ((numbers.take (numbers.idxOf (row.getD i 0))).filter (fun one => !((row.take i).contains one))))) (R₂ := IsD (.list [])) ?_ (ev_list tr_items_nil (fun n vs e => by rw [e]; exact .nil) (Nat.zero_le _)) (mo_isD _) (mo_isD _) fun tl x y r1 r2 => ?_
          · refine (ev_comp (ds := dI (numbers.take (numbers.idxOf (row.getD i 0)))) (fun d => match d with | .int j => !((row.take i).contains j) | _ => false) id C'.hh (tgtL (by rfl) (by rfl)) (mkL (by rfl) (by decide)) (by rfl) (by rfl) (by decide)
              (by rw [dI_length, sizeLine_eq, List.length_take]; omega) ?_ ?_ ?_).mono fun tl v r => ?_
            · refine (ev_upto (ds := dI numbers) (k := (numbers.idxOf (row.getD i 0) : Nat)) (nm_local ((upd_ne (by decide)).trans hmn) (ha.mono sub_right)) (nm_local (by simp) r₃) (by omega) (by rw [dI_length, sizeLine_eq]; omega)).mono fun _ _ r => .inl ?_
              rw [dI_take, Int.toNat_natCast] at r
              exact r
            · rintro Cc cl' d hd v own tl₅ ⟨rfl, oC, m₂, rfl, hC, hv₅⟩ hdv
              obtain ⟨j, hj', rfl⟩ := List.mem_map.mp hd
              refine tests_one ?_
              refine ts_cmp (R₁ := IsD (.int j)) (R₂ := IsD (dL (row.take i))) (nc_own (List.mem_cons_self ..) hC hv₅ hdv) ?_ (mo_isD _) (mo_isD _) fun tl x y r1 r2 => cp_notin_list r1 r2 rfl (dI_ok _) hu' (by rw [dI_mem]; simp)
              refine (ev_upto (ds := dI row) (k := i) (nc_cell (by rfl) (List.mem_cons_of_mem _ (List.mem_cons_of_mem _ (List.mem_cons_self ..))) d1 (hc.mono fun p hp => sub_right _ (sub_right _ hp))) (nc_cell (by rfl) (List.mem_cons_of_mem _ (List.mem_cons_self ..)) d3 (hv.mono fun p hp => sub_right _ (sub_mid p hp))) (by omega) (by rw [dI_length, sizeLine_eq]; omega)).mono fun _ _ r => ?_
              rw [dI_take, Int.toNat_natCast] at r
              exact r
            · rintro Cc cl' d hd _ v own tl₅ ⟨rfl, oC, m₂, rfl, hC, hv₅⟩ hdv
              exact nc_own (List.mem_cons_self ..) hC hv₅ hdv
            · rw [List.map_id] at r
              have e : (dI (numbers.take (numbers.idxOf (row.getD i 0)))).filter (fun d => match d with | .int j => !((row.take i).contains j) | _ => false) = dI ((numbers.take (numbers.idxOf (row.getD i 0))).filter (fun one => !((row.take i).contains one))) := by
                rw [dI, List.filter_map]; rfl
              rw [e] at r
              exact r
          · refine cp_ne_list r1 r2 (dI_ok _) (by simp) hu' ?_
            rw [show ([] : List Dat) = dI [] from rfl, dI_inj]
            simp
      · refine wpAny_execs_cons ?_
        refine st_return (X := []) (B := []) (R := VB false) ev_bool (fun _ h => nomatch h) (fun _ h => nomatch h) S₄ fun tl₅ v₅ s₅ sh₅ S₅ r₅ => ?_
        refine ret_done (tl := tl₅ ++ (tl₄ ++ (tl₃ ++ tl))) S₅.tail ((((sh₁.trans sh₂).trans sh₃).trans sh₄).trans sh₅) (by simp only [List.append_assoc]) ?_
        · rw [r₅]
          have : letF numbers kinds row = false := by
            unfold letF
            rw [List.all_eq_false]
            exact ⟨i, List.mem_range.mpr hi, by simpa using hlf⟩
          rw [this]
      · refine wpAny_execs_nil (wpAny_execs_nil ?_)
        refine next_done (mu' := [(L' + 1 + 1, o₃), (L' + 1, o₁)]) (tl' := tl₄ ++ tl₃) (J := fun i m' mu' tl => (∃ o₂ u, mu' = [(L' + 1 + 1, o₂), (L' + 1, o₁)] ∧ o₂.data = .cell u) ∧ m' "numbers" = some a ∧ m' "kinds" = some b ∧ ∀ j < i, letAt numbers kinds row j = true) S₄ (((sh₁.trans sh₂).trans sh₃).trans sh₄) (by simp only [List.append_assoc, List.cons_append, List.nil_append]) ⟨⟨o₃, _, rfl, d3⟩, (upd_ne (by decide)).trans hmn, (upd_ne (by decide)).trans hmk, fun j hj' => ?_⟩
        · rcases Nat.lt_succ_iff_lt_or_eq.mp hj' with h | rfl
          · exact hj j h
          · simpa using hlt
  · rintro m' mu' tl s' ⟨⟨o₂, u, rfl, d2⟩, hmn, hmk, hj⟩ sh S'
    rw [rg_len] at hj
    refine wpAny_execs_cons ?_
    refine st_return (X := []) (B := []) (R := VB true) ev_bool (fun _ h => nomatch h) (fun _ h => nomatch h) S' fun tl₅ v₅ s₅ sh₅ S₅ r₅ => ?_
    refine ret_done (tl := tl₅ ++ tl) S₅.tail (sh.trans sh₅) (by simp only [List.append_assoc]) ?_
    · rw [r₅]
      have : letF numbers kinds row = true := by
        unfold letF
        rw [List.all_eq_true]
        exact fun j hj' => hj j (List.mem_range.mp hj')
      rw [this]
end
end Mine

namespace Mine

section
variable {prog : Program} {w : World} {A : Around} {h₀ : Heap} {L : Addr} {m : Loc} {X B : Led} {env : Env} {K : Frag} {dp un : Nat}

theorem up1 {m : Loc} {x y : Str} {v : Value} {r : Option Value} (e : m y = r) (h : y ≠ x) : (fun z => if z = x then some v else m z) y = r := (if_neg h).trans e
theorem up2 {m : Loc} {x x' y : Str} {v v' : Value} {r : Option Value} (e : m y = r) (h : y ≠ x) (h' : y ≠ x') : (fun z => if z = x then some v else if z = x' then some v' else m z) y = r := (if_neg h).trans ((if_neg h').trans e)
theorem up3 {m : Loc} {x x' x'' y : Str} {v v' v'' : Value} {r : Option Value} (e : m y = r) (h : y ≠ x) (h' : y ≠ x') (h'' : y ≠ x'') : (fun z => if z = x then some v else if z = x' then some v' else if z = x'' then some v'' else m z) y = r := (if_neg h).trans ((if_neg h').trans ((if_neg h'').trans e))
theorem up11 {m : Loc} {x x' : Str} {v v' : Value} (h : x' ≠ x) : (fun z => if z = x then some v else if z = x' then some v' else m z) x' = some v' := (if_neg h).trans (if_pos rfl)
theorem mo_isAh (al : List (Int × List Int)) : Mo (IsAh prog w al) := mo_IsAh al
theorem fit_room {A' : Around} {un k : Nat} (h : A'.units ≤ un + k) (hu : un + k ≤ 9000) : A'.units + 64 < cLine := by rw [cLine_is]; omega

theorem row_right_spec (H : KH K) (C : Cx prog w K A env h₀ L dp un) (hd : dp ≤ 500) (hu : un ≤ 5000) {a b c e : Value} {numbers row : List Int} {kinds : List Str} {al : List (Int × List Int)} (ah : Int → List Int)
    (ha : DatIn B a (dL numbers)) (hb : DatIn B b (.list (kinds.map Dat.str))) (hc : IsAh prog w al B c) (he : DatIn B e (dL row)) (hk : kinds.length = numbers.length) (hz : numbers.length ≤ 1000) (hz' : row.length ≤ 900) (hr : ∀ x ∈ row, x ∈ numbers)
    (hal : ∀ x ∈ numbers, al.lookup x = some (ah x) ∧ (ah x).length ≤ 1000)
    (h1 : ∀ x ∈ numbers, letF numbers kinds row = true → mayF x row (ah x) = (!(row.contains x) && letF numbers kinds (row ++ [x])))
    (h2 : (∀ i < row.length, mayF (row.getD i 0) (row.take i) (ah (row.getD i 0)) = true) ↔ letF numbers kinds row = true) :
    Tr prog w A h₀ L m X B (call (.ref 76) [a, b, c, e]) (VB true) := by
  obtain ⟨⟨oc, od, doc, pm, an, cdv, ct, osl, ho, hcd⟩, _, _⟩ := H.rowRight
  refine tr_callC (binds := [("numbers", a), ("kinds", b), ("ahead", c), ("row", e)]) C ho hcd (Nat.lt_of_le_of_lt hd (by decide)) (fun s => BindsTo.of_eq (by rfl)) (by rfl) (by decide +kernel) rfl rfl rfl ?_
  intro A' g L' n s cells C' hB Y F N nd lt
  obtain ⟨o₂, o₁, rfl, d2, d1⟩ := CellsAre.two Y
  have S : St g L' (bindL (envOfC "_law_row_right" (fnScope (stAt 11)) L' 76 cdv).kindOf [("numbers", a), ("kinds", b), ("ahead", c), ("row", e)] fun _ => none) ([(L' + 1 + 1, o₂), (L' + 1, o₁)] ++ n) s.heap :=
    ⟨F, N, nodup_cons_lt (nodup_cons_lt nd fun p hp => by
      obtain ⟨q, hq, rfl⟩ := List.mem_map.mp hp
      exact Nat.lt_succ_of_lt (lt q hq)) fun p hp => by
      rcases List.mem_cons.mp hp with rfl | hp
      · exact Nat.lt_succ_self _
      · obtain ⟨q, hq, rfl⟩ := List.mem_map.mp hp
        exact Nat.lt_succ_of_lt (Nat.lt_succ_of_lt (lt q hq))⟩
  have hu' : A'.units + 64 < cLine := fit_room C'.u (by omega)
  -- the two names that stand in cells
  have X1 : ∀ {I oI} {tl : Led}, ∀ p ∈ ([(L' + 1 + 1, o₂), (L' + 1, o₁)] : Led), p ∈ ((I, oI) :: [(L' + 1 + 1, o₂), (L' + 1, o₁)]) ++ tl := fun p hp => List.mem_append_left _ (List.mem_cons_of_mem _ hp)
  -- the call of _law_is_let upon the row
  have letRow : ∀ {m' : Loc} {B' : Led} {p1 p2 p3 p4 p5 : Pos}, m' "numbers" = some a → m' "kinds" = some b → (∀ p ∈ B, p ∈ B') →
      Tr prog w A' g L' m' [(L' + 1 + 1, o₂), (L' + 1, o₁)] B' (eval (.Call (.Name "_law_is_let" p1) [.Name "numbers" p2, .Name "kinds" p3, .Name "row" p4] [] p5) (envOfC "_law_row_right" (fnScope (stAt 11)) L' 76 cdv)) (VB (letF numbers kinds row)) := by
    intro m' B' p1 p2 p3 p4 p5 hn hk' hs
    refine ev_callF C'.X H.isLet.keep (nm_global C'.T C'.X H.isLet.ns rfl) (items3 (mo_isD (dL numbers)) (mo_isD (.list (kinds.map Dat.str))) (mo_isD (dL row)) (nm_local hn (ha.mono hs)) (nm_local hk' (hb.mono hs)) (nm_cell (by rfl) (List.mem_cons_self ..) d2 (he.mono hs))) (mo3 (mo_isD _) (mo_isD _) (mo_isD _)) fun tl vs r => ?_
    obtain ⟨x, y, z, rfl, r1, r2, r3⟩ := r
    exact is_let_spec H C' (by omega) (by omega) r1 r2 r3 hk hz (by omega) hr
  have row_in : ∀ i, i < row.length → row.getD i 0 ∈ numbers := fun i hi => hr _ (by rw [List.getD_eq_getElem?_getD, List.getElem?_eq_getElem hi]; exact List.getElem_mem hi)
  refine wpAny_execs_cons ?_
  refine st_for (X := []) (B := B) (ds := dI numbers) C'.hh
    (fun i m' mu' tl => mu' = [(L' + 1 + 1, o₂), (L' + 1, o₁)] ∧ m' "numbers" = some a ∧ m' "kinds" = some b)
    (Tr.mono (R := IsD (dL numbers)) (nm_local (by rfl) ha) fun _ _ r => .inl r) (fun _ h => nomatch h) hB S (fun tl => ⟨rfl, by rfl, by rfl⟩) ?_ ?_
  · rintro I i d v m' mu' tl oI s₁ hd hv ⟨rfl, hmn, hmk⟩ sh₁ S₁
    obtain ⟨x, hx, rfl⟩ : ∃ x ∈ numbers, d = .int x := by
      have := List.mem_of_getElem? hd
      obtain ⟨x, hx, e⟩ := List.mem_map.mp this
      exact ⟨x, hx, e.symm⟩
    refine as_local S₁ fun s₂ sh₂ S₂ => ?_
    have hB₂ : ∀ p ∈ tl ++ B, p ∈ ((I, oI) :: [(L' + 1 + 1, o₂), (L' + 1, o₁)]) ++ (tl ++ n) := fun p hp => sub_right _ (sub_app hB p hp)
    refine wpAny_execs_cons ?_
    refine st_assign (X := [(L' + 1 + 1, o₂), (L' + 1, o₁)]) (B := tl ++ B) (R := VB (!(row.contains x) && letF numbers kinds (row ++ [x]))) ?_ X1 hB₂ S₂ fun tl₃ v₃ s₃ sh₃ S₃ r₃ => ?_
    · refine ev_and2 ?_ fun _ => ?_
      · refine ev_cmp (R₁ := IsD (.int x)) (R₂ := IsD (dL row)) (nm_local (by simp) hv) (nm_cell (by rfl) (List.mem_cons_self ..) d2 (he.mono sub_right)) (mo_isD _) (mo_isD _) fun tl a b r1 r2 => cp_notin_list r1 r2 rfl (dI_ok _) hu' (by rw [dI_mem]; simp)
      · refine ev_callF C'.X H.isLet.keep (nm_global C'.T C'.X H.isLet.ns rfl) (items3 (mo_isD (dL numbers)) (mo_isD (.list (kinds.map Dat.str))) (mo_isD (dL (row ++ [x]))) (nm_local ((upd_ne (by decide)).trans hmn) (ha.mono sub_right)) (nm_local ((upd_ne (by decide)).trans hmk) (hb.mono sub_right)) ?_) (mo3 (mo_isD _) (mo_isD _) (mo_isD _)) fun tl vs r => ?_
        · refine ev_bin (R₁ := IsD (dL row)) (R₂ := IsD (dL [x])) (nm_cell (by rfl) (List.mem_cons_self ..) d2 (he.mono sub_right)) (ev_list (items1 (mo_isD (.int x)) (nm_local (by simp) hv)) (fun n vs r => by obtain ⟨v, rfl, r⟩ := r; exact .cons r .nil) (by rw [dI_length, sizeLine_eq]; simp)) (mo_isD _) (mo_isD _) fun tl a b r1 r2 => ?_
          refine (op_add_list r1 r2 (by rw [dI_length, dI_length, sizeLine_eq]; simp; omega)).mono fun _ _ r => ?_
          rw [dI_append] at r
          exact r
        · obtain ⟨x', y, z, rfl, r1, r2, r3⟩ := r
          refine is_let_spec H C' (by omega) (by omega) r1 r2 r3 hk hz (by simp; omega) ?_
          intro y hy
          rcases List.mem_append.mp hy with hy | hy
          · exact hr y hy
          · rw [List.mem_singleton.mp hy]; exact hx
    · rw [← List.append_assoc tl₃ tl n] at S₃
      have hB₃ : ∀ p ∈ (tl₃ ++ tl) ++ B, p ∈ ((I, oI) :: [(L' + 1 + 1, o₂), (L' + 1, o₁)]) ++ ((tl₃ ++ tl) ++ n) := fun p hp => sub_right _ (sub_app hB p hp)
      refine wpAny_execs_cons ?_
      refine st_if (X := [(L' + 1 + 1, o₂), (L' + 1, o₁)]) (B := (tl₃ ++ tl) ++ B) (b := letF numbers kinds row && (mayF x row (ah x) != (!(row.contains x) && letF numbers kinds (row ++ [x])))) ?_ X1 hB₃ S₃ (fun hbad tl₄ s₄ sh₄ S₄ => ?_) fun hok tl₄ s₄ sh₄ S₄ => ?_
      · refine ts_and2 (ts_val (letRow (up2 hmn (by decide) (by decide)) (up2 hmk (by decide) (by decide)) sub_right)) fun _ => ?_
        refine ts_cmp (R₁ := VB (mayF x row (ah x))) (R₂ := VB (!(row.contains x) && letF numbers kinds (row ++ [x]))) ?_ (nm_local (by simp) r₃) (mo_VB _) (mo_VB _) fun tl a b r1 r2 => cp_ne_bool r1 r2
        refine ev_callF C'.X H.may.keep (nm_global C'.T C'.X H.may.ns rfl) (items3 (mo_isD (.int x)) (mo_isD (dL row)) (mo_isAh (prog := prog) (w := w) al) (nm_local (up11 (by decide)) (hv.mono (by rw [List.append_assoc]; exact sub_right))) (nm_cell (by rfl) (List.mem_cons_self ..) d2 (he.mono sub_right)) (nm_cell (by rfl) (List.mem_cons_of_mem _ (List.mem_cons_self ..)) d1 (mo_isAh al _ _ _ sub_right hc))) (mo3 (mo_isD _) (mo_isD _) (mo_isAh al)) fun tl vs r => ?_
        obtain ⟨x', y, z, rfl, r1, r2, r3⟩ := r
        exact may_follow_spec H C' (by omega) (by omega) r1 r2 r3 (hal x hx).1 (hal x hx).2
      · exfalso
        rw [Bool.and_eq_true] at hbad
        have := h1 x hx hbad.1
        rw [this] at hbad
        simp at hbad
      · refine wpAny_execs_nil (wpAny_execs_nil ?_)
        exact next_done (i := i) (mu' := [(L' + 1 + 1, o₂), (L' + 1, o₁)]) (tl' := tl₄ ++ tl₃) (J := fun i m' mu' tl => mu' = [(L' + 1 + 1, o₂), (L' + 1, o₁)] ∧ m' "numbers" = some a ∧ m' "kinds" = some b) S₄ (((sh₁.trans sh₂).trans sh₃).trans sh₄) (by simp only [List.append_assoc, List.cons_append, List.nil_append]) ⟨rfl, up2 hmn (by decide) (by decide), up2 hmk (by decide) (by decide)⟩
  · rintro m' mu' tl s' ⟨rfl, hmn, hmk⟩ sh S'
    have hB₂ : ∀ p ∈ tl ++ B, p ∈ [(L' + 1 + 1, o₂), (L' + 1, o₁)] ++ (tl ++ n) := fun p hp => sub_right _ (sub_app hB p hp)
    refine wpAny_execs_cons ?_
    refine st_assign_comp (X := [(L' + 1 + 1, o₂), (L' + 1, o₁)]) (B := tl ++ B) (ds := rg 0 row.length) (fun d => match d with | .int j => !(mayF (row.getD j.toNat 0) (row.take j.toNat) (ah (row.getD j.toNat 0))) | _ => false) id C'.hh (tgtL (by rfl) (by rfl)) (mkL (by rfl) (by decide)) (by rfl) (by rfl) (by decide)
      (by rw [rg_len, sizeLine_eq]; omega) ?_ ?_ ?_ sub_left hB₂ S' fun tl₂ v₂ s₂ sh₂ S₂ r₂ => ?_
    · refine ev_callT (T := "range") (nm_builtin C'.T C'.X (H.built _ (by simp)) (by rfl) (by decide) rfl) (items1 (mo_isD (.int (row.length : Nat))) ?_) (mo1 (mo_isD _)) fun tl vs r => ?_
      · refine ev_callB (id := "len") (nm_builtin C'.T C'.X (H.built _ (by simp)) (by rfl) (by decide) rfl) (items1 (mo_isD (dL row)) (nm_cell (by rfl) (List.mem_cons_self ..) d2 (he.mono sub_right))) (mo1 (mo_isD _)) fun tl vs r => ?_
        obtain ⟨v, rfl, r⟩ := r
        refine (cl_len r (by rw [dI_length]; omega)).mono fun _ _ r => ?_
        rw [dI_length] at r
        exact r
      · obtain ⟨v, rfl, r⟩ := r
        exact (cl_range1 r).mono fun _ _ r => .inr ⟨0, _, row.length, r, by omega, by omega, by omega, by omega, rfl⟩
    · rintro Cc cl' d hd v own tl₅ ⟨rfl, oC, m₂, rfl, hC, hv₅⟩ hdv
      obtain ⟨j, hj, rfl⟩ := List.mem_map.mp hd
      have hj := List.mem_range.mp hj
      simp only [Int.zero_add, Int.toNat_natCast] at hdv ⊢
      refine tests_one (ts_not (ts_val ?_))
      have sB : ∀ p ∈ B, p ∈ tl₅ ++ (tl ++ B) := fun p hp => sub_right _ (sub_right _ hp)
      refine ev_callF C'.X H.may.keep (nc_global C'.T C'.X H.may.ns rfl) (items3 (mo_isD (.int (row.getD j 0))) (mo_isD (dL (row.take j))) (mo_isAh (prog := prog) (w := w) al) ?_ ?_ (nc_cell (by rfl) (List.mem_cons_of_mem _ (List.mem_cons_of_mem _ (List.mem_cons_self ..))) d1 (mo_isAh al _ _ _ sB hc))) (mo3 (mo_isD _) (mo_isD _) (mo_isAh al)) fun tl vs r => ?_
      · exact ev_item (ds := dI row) (k := j) (nc_cell (by rfl) (List.mem_cons_of_mem _ (List.mem_cons_self ..)) d2 (he.mono sB)) (nc_own (List.mem_cons_self ..) hC hv₅ hdv) (by omega) (by rw [dI_get, Int.toNat_natCast, getD_of hj (d := 0)]; rfl) (by omega)
      · refine (ev_upto (ds := dI row) (k := j) (nc_cell (by rfl) (List.mem_cons_of_mem _ (List.mem_cons_self ..)) d2 (he.mono sB)) (nc_own (List.mem_cons_self ..) hC hv₅ hdv) (by omega) (by rw [dI_length, sizeLine_eq]; omega)).mono fun _ _ r => ?_
        rw [dI_take, Int.toNat_natCast] at r
        exact r
      · obtain ⟨x', y, z, rfl, r1, r2, r3⟩ := r
        exact may_follow_spec H C' (by omega) (by omega) r1 r2 r3 (hal _ (row_in j hj)).1 (hal _ (row_in j hj)).2
    · rintro Cc cl' d hd _ v own tl₅ ⟨rfl, oC, m₂, rfl, hC, hv₅⟩ hdv
      exact nc_own (List.mem_cons_self ..) hC hv₅ hdv
    · rw [List.map_id] at r₂
      have key : ((rg 0 row.length).filter (fun d => match d with | .int j => !(mayF (row.getD j.toNat 0) (row.take j.toNat) (ah (row.getD j.toNat 0))) | _ => false) = []) ↔ letF numbers kinds row = true := by
        rw [← h2, List.filter_eq_nil_iff]
        constructor
        · intro h i hi
          have := h (.int (0 + (i : Int))) (List.mem_map.mpr ⟨i, List.mem_range.mpr hi, rfl⟩)
          simp only [Int.zero_add, Int.toNat_natCast] at this
          simpa using this
        · intro h d hd
          obtain ⟨j, hj, rfl⟩ := List.mem_map.mp hd
          have := h j (List.mem_range.mp hj)
          simp only [Int.zero_add, Int.toNat_natCast]
          rw [this]; simp
      have hB₃ : ∀ p ∈ tl₂ ++ (tl ++ B), p ∈ [(L' + 1 + 1, o₂), (L' + 1, o₁)] ++ (tl₂ ++ (tl ++ n)) := fun p hp => sub_right _ (sub_app (sub_app hB) p hp)
      refine wpAny_execs_cons ?_
      refine st_return (X := [(L' + 1 + 1, o₂), (L' + 1, o₁)]) (B := tl₂ ++ (tl ++ B)) (R := VB true) ?_ sub_left hB₃ S₂ fun tl₅ v₅ s₅ sh₅ S₅ r₅ => ?_
      · refine ev_cmp (R₁ := VB (letF numbers kinds row)) (R₂ := VB (letF numbers kinds row)) ?_ (letRow ((upd_ne (by decide)).trans hmn) ((upd_ne (by decide)).trans hmk) (fun p hp => sub_right _ (sub_right _ hp))) (mo_VB _) (mo_VB _) fun tl a b r1 r2 => (cp_eq_bool r1 r2).mono fun _ _ r => by rw [r]; simp
        refine ev_cmp (R₁ := IsD (.list ((rg 0 row.length).filter (fun d => match d with | .int j => !(mayF (row.getD j.toNat 0) (row.take j.toNat) (ah (row.getD j.toNat 0))) | _ => false)))) (R₂ := IsD (.list [])) (nm_local (by simp) r₂) (ev_list tr_items_nil (fun n vs e => by rw [e]; exact .nil) (Nat.zero_le _)) (mo_isD _) (mo_isD _) fun tl x y r1 r2 => ?_
        refine cp_eq_list r1 r2 (fun d hd => ?_) (by simp) hu' key.symm
        obtain ⟨j, hj, rfl⟩ := List.mem_map.mp (List.mem_filter.mp hd).1
        rfl
      · refine ret_done (tl := tl₅ ++ (tl₂ ++ tl)) S₅.tail ((sh.trans sh₂).trans sh₅) (by simp only [List.append_assoc]) ?_
        rw [r₅]
end
end Mine

namespace Mine

section
variable {prog : Program} {w : World} {A : Around} {h₀ : Heap} {L : Addr} {m : Loc} {X B : Led} {env : Env}

/-- the loop of a comprehension's last clause, whatever its code, upon a list begun -/
theorem comp_loopG {elt : Expr} {ifs : List Expr} {scope : Scope} {x : Str} {px : Pos} {Own : Addr → List (Str × Addr) → Led → Prop} {OwnV : Addr → List (Str × Addr) → Led → Value → Prop} (T : Tgt prog w A h₀ L m env scope x px Own OwnV)
    {ds es₀ : List Dat} (p : Dat → Bool) (f : Dat → Dat) {I C D : Addr} {cl : List (Str × Addr)} {Stt : Nat → Heap → Prop} {oI : Obj} {own n : Led} {ys₀ : List Value} {s : Shared} {Rn : Shared → Prop} {E : Value → Shared → Prop} {Res : Prop}
    (turnc : ∀ (Iv : Nat → Shared → Prop), (∀ k s', Iv k s' → wpAny (model prog w) A (pyNext (.ref I)) (fun r s₁ => match r with | none => Rn s₁ | some v => compBd prog w A elt ifs x px (compEnvC scope cl C env) D E v (fun s₂ => ∃ k', k' < k ∧ Iv k' s₂) s₁) E s') → ∀ k, Iv k s → Res)
    (hX : ∀ q ∈ X, q ∈ n) (hB : ∀ q ∈ B, q ∈ n) (hz : ys₀.length + ds.length ≤ sizeLine) (hys₀ : DatAll B ys₀ es₀)
    (htest : ∀ d ∈ ds, ∀ v own tl, OwnV C cl own v → DatIn (tl ++ B) v d → Tr prog w A h₀ L m (own ++ X) (tl ++ B) (tests ifs (compEnvC scope cl C env)) (IsB (p d)))
    (helt : ∀ d ∈ ds, p d = true → ∀ v own tl, OwnV C cl own v → DatIn (tl ++ B) v d → Tr prog w A h₀ L m (own ++ X) (tl ++ B) (eval elt (compEnvC scope cl C env)) (IsD (f d)))
    (S₀ : Src prog w A h₀ L B I ds Stt) (st0 : Stt 0 s.heap) (S : St h₀ L m ((I, oI) :: (own ++ (D, LCg.lst ys₀) :: n)) s.heap) (hown : Own C cl own)
    (fin : ∀ own tl ys s', Own C cl own → Sh s s' → St h₀ L m (own ++ (D, LCg.lst ys) :: (tl ++ n)) s'.heap → ys.length ≤ ys₀.length + ds.length → DatAll (tl ++ B) ys (es₀ ++ (ds.filter p).map f) → Rn s') : Res := by
  refine src_loop (A := A) (B := B) S₀
    (fun i m' n' => m' = m ∧ ∃ own tl ys, n' = own ++ (D, LCg.lst ys) :: (tl ++ n) ∧ Own C cl own ∧ ys.length ≤ ys₀.length + i ∧ DatAll (tl ++ B) ys (es₀ ++ ((ds.take i).filter p).map f))
    Rn (compBd prog w A elt ifs x px (compEnvC scope cl C env) D E) (E := E)
    turnc st0 S ⟨rfl, own, [], ys₀, rfl, hown, Nat.le_refl _, by simpa using hys₀⟩ ?_ ?_ ?_
  · rintro i m' n' ⟨_, own, tl, ys, rfl, _⟩ q hq
    exact sub_right _ (List.mem_cons_of_mem _ (sub_right _ (hB q hq)))
  · rintro i d v m' n' oI' s₁ nx hd hv ⟨rfl, own₁, tl, ys, rfl, hown₁, hyl, hys⟩ sh S₁ next
    have hdm : d ∈ ds := List.mem_of_getElem? hd
    have hlt := (List.getElem?_eq_some_iff.mp hd).1
    have S₁' : St h₀ L m' (own₁ ++ ((I, oI') :: (D, LCg.lst ys) :: (tl ++ n))) s₁.heap := S₁.perm List.perm_middle
    refine wpAny_mono (T.asg C cl own₁ _ s₁ v hown₁ S₁') ?_ fun _ _ e => e.elim
    rintro _ s₂ ⟨own₂, hV, sh₂, S₂⟩
    have subX : ∀ q ∈ own₂ ++ X, q ∈ own₂ ++ ((I, oI') :: (D, LCg.lst ys) :: (tl ++ n)) := sub_app fun q hq => List.mem_cons_of_mem _ (List.mem_cons_of_mem _ (sub_right _ (hX q hq)))
    have subB : ∀ q ∈ tl ++ B, q ∈ own₂ ++ ((I, oI') :: (D, LCg.lst ys) :: (tl ++ n)) := fun q hq => sub_right _ (List.mem_cons_of_mem _ (List.mem_cons_of_mem _ (sub_app hB q hq)))
    refine nf ((htest d hdm v own₂ tl hV (hv.mono sub_right)).go subX subB S₂ fun tl₃ ok s₃ sh₃ S₃ r₃ => ?_)
    have r₃ : ok = p d := r₃
    have hs : ds.take (i + 1) = ds.take i ++ [d] := by simp [List.take_add_one, hd]
    have pm : (((I, oI') :: (own₂ ++ (D, LCg.lst ys) :: ((tl₃ ++ tl) ++ n)))).Perm (tl₃ ++ (own₂ ++ (I, oI') :: (D, LCg.lst ys) :: (tl ++ n))) := by
      rw [List.append_assoc]
      exact perm1 _ _ _ _ _
    subst r₃
    cases hp : p d with
    | false =>
      simp only [Bool.false_eq_true, if_false]
      refine next s₃ m' _ ((sh.trans sh₂).trans sh₃) (S₃.perm pm) ⟨rfl, own₂, tl₃ ++ tl, ys, rfl, T.of _ _ _ _ hV, by omega, ?_⟩
      rw [hs, List.filter_append, List.map_append]
      simp only [List.filter_cons, hp, List.filter_nil, List.map_nil, List.append_nil, Bool.false_eq_true, if_false]
      exact hys.mono sub_mid
    | true =>
      simp only [if_true]
      have subX' : ∀ q ∈ own₂ ++ X, q ∈ (I, oI') :: (own₂ ++ (D, LCg.lst ys) :: ((tl₃ ++ tl) ++ n)) := fun q hq => List.mem_cons_of_mem _ (sub_app (fun q hq => List.mem_cons_of_mem _ (sub_right _ (hX q hq))) q hq)
      have subB' : ∀ q ∈ (tl₃ ++ tl) ++ B, q ∈ (I, oI') :: (own₂ ++ (D, LCg.lst ys) :: ((tl₃ ++ tl) ++ n)) := fun q hq => List.mem_cons_of_mem _ (sub_right _ (List.mem_cons_of_mem _ (sub_app hB q hq)))
      refine nf ((helt d hdm hp v own₂ (tl₃ ++ tl) hV (hv.mono sub_right)).go subX' subB' (S₃.perm pm) fun tl₄ y s₄ sh₄ S₄ r₄ => ?_)
      have pm4 : (((I, oI') :: own₂) ++ (D, LCg.lst ys) :: ((tl₄ ++ (tl₃ ++ tl)) ++ n)).Perm (tl₄ ++ ((I, oI') :: (own₂ ++ (D, LCg.lst ys) :: ((tl₃ ++ tl) ++ n)))) := by
        rw [List.append_assoc tl₄ (tl₃ ++ tl) n]
        exact perm2 _ _ _ _ _
      have S₄' := S₄.perm pm4
      have zD := (S₄'.N (D, LCg.lst ys) (List.mem_append_right _ (.head _))).1
      refine append_at (hsz := by show ys.toArray.size ≤ sizeLine; rw [List.size_toArray]; omega) zD fun h₅ hs₅ hD₅ => ?_
      refine next _ m' _ ((((sh.trans sh₂).trans sh₃).trans sh₄).trans (Sh.mk s₄ h₅ s₄.toks)) (S₄'.set hs₅ (hD₅.trans (congrArg some (LCg.lst_snoc ys y)))) ⟨rfl, own₂, tl₄ ++ (tl₃ ++ tl), ys ++ [y], rfl, T.of _ _ _ _ hV, by rw [List.length_append, List.length_singleton]; omega, ?_⟩
      rw [hs, List.filter_append, List.map_append]
      simp only [List.filter_cons, hp, List.filter_nil, List.map_cons, List.map_nil, if_true]
      rw [show es₀ ++ (List.map f (List.filter p (List.take i ds)) ++ [f d]) = (es₀ ++ List.map f (List.filter p (List.take i ds))) ++ [f d] from (List.append_assoc ..).symm]
      refine DatAll.append (hys.mono ?_) (DatAll.one ?_)
      · intro q hq
        rw [List.append_assoc, List.append_assoc]
        exact sub_right _ (sub_right _ hq)
      · rw [List.append_assoc]; exact r₄
  · rintro m' n' s₁ ⟨rfl, own, tl, ys, rfl, hown, hyl, hys⟩ sh S₁
    rw [List.take_length] at hys
    exact fin own tl ys s₁ hown sh S₁ hyl hys

abbrev lc2 (elt t1 i1 t2 i2 : Expr) (ifs : List Expr) (scope : Scope) (pos : Pos) : Expr := .ListComp elt [⟨t1, i1, [], 0⟩, ⟨t2, i2, ifs, 0⟩] scope pos

theorem compTurn_inner (elt t1 i1 t2 i2 : Expr) (ifs : List Expr) (scope : Scope) (pos : Pos) (it acc : Value) (env : Env) :
    compTurn (lc2 elt t1 i1 t2 i2 ifs scope pos) 1 it acc env = (do
      standAt i2.pos
      match ← pyNext it with
      | none => pure (.done .next)
      | some v =>
        letOwnedTupleGo t2 it v
        assign t2 env v
        let mut ok := true
        for c in ifs do
          if ok then ok ← isTrue c env (eval c env)
        if ok then
          (do let _ ← call (.builtin "list.append") [acc, ← eval elt env])
        again (.compLoop (lc2 elt t1 i1 t2 i2 ifs scope pos) 1 it acc env)) := by rfl

theorem compTurn_outer (elt t1 i1 t2 i2 : Expr) (ifs : List Expr) (scope : Scope) (pos : Pos) (it acc : Value) (env : Env) :
    compTurn (lc2 elt t1 i1 t2 i2 ifs scope pos) 0 it acc env = (do
      standAt i1.pos
      match ← pyNext it with
      | none => pure (.done .next)
      | some v =>
        letOwnedTupleGo t1 it v
        assign t1 env v
        let x ← eval i2 env
        standAt i2.pos
        let x ← foldedSetIterable i2 env x
        let it2 ← holding [x] (pyIter x)
        let _ ← runOwn (.compStart (lc2 elt t1 i1 t2 i2 ifs scope pos) 1 it2 acc env) env
        again (.compLoop (lc2 elt t1 i1 t2 i2 ifs scope pos) 0 it acc env)) := by rfl

theorem code_inner {elt i1 i2 : Expr} {t1 : Expr} {ifs : List Expr} {scope : Scope} {pos px : Pos} {x : Str} {it : Value} {D : Addr} {env : Env} {s : Shared} {R : Result → Shared → Prop} (Iv : Nat → Shared → Prop)
    (turn : ∀ k s', Iv k s' → wpAny (model prog w) A (pyNext it) (fun r s₁ => match r with
      | none => R (.ok .next) s₁
      | some v => compBd prog w A elt ifs x px env D (notedBy (model prog w) A env fun e s' => R (.error e) s') v (fun s₂ => ∃ k', k' < k ∧ Iv k' s₂) s₁) (notedBy (model prog w) A env fun e s' => R (.error e) s') s')
    (n : Nat) (h : Iv n s) : codeAny (model prog w) A (.compLoop (lc2 elt t1 i1 (.Name x px) i2 ifs scope pos) 1 it (.ref D) env) R s := by
  refine codeAny_loop rfl Iv (fun n s hI => ?_) n h
  show wpAny _ A ((compTurn (lc2 elt t1 i1 (.Name x px) i2 ifs scope pos) 1 it (.ref D) env).onRaise (fun x => do noteFrame x env; theTreesLotGoes x)) _ _ s
  refine wpAny_noted ?_
  rw [compTurn_inner]
  refine wpAny_bind (wpAny_standAt (wpAny_bind (wpAny_mono (turn n s hI) (fun r s₁ h₁ => ?_) fun _ _ h' => h')))
  cases r with
  | none => exact wpAny_pure h₁
  | some v =>
    refine wpAny_bind (wpAny_of_eq (show letOwnedTupleGo (.Name x px) it v = pure () from rfl) ?_)
    refine wpAny_bind (wpAny_mono h₁ (fun _ s₂ h₂ => wpAny_bind (wpAny_mono h₂ (fun ok s₃ h₃ => ?_) fun _ _ h' => h')) fun _ _ h' => h')
    cases ok with
    | false => exact wpAny_pure ⟨rfl, h₃⟩
    | true =>
      exact wpAny_bind (wpAny_bind (wpAny_mono h₃ (fun x s₄ h₄ => wpAny_bind (wpAny_mono h₄ (fun _ s₅ h₅ => wpAny_pure (wpAny_pure ⟨rfl, h₅⟩)) fun _ _ h' => h')) fun _ _ h' => h'))

theorem start_inner {elt t1 i1 t2 i2 : Expr} {ifs : List Expr} {scope : Scope} {pos : Pos} {it acc : Value} {env : Env} {s : Shared} {R : Result → Shared → Prop}
    (h0 : codeAny (model prog w) A (.compLoop (lc2 elt t1 i1 t2 i2 ifs scope pos) 1 it acc env) R s)
    (h : wpAny (model prog w) A (pyIter it) (fun it' s' => codeAny (model prog w) A (.compLoop (lc2 elt t1 i1 t2 i2 ifs scope pos) 1 it' acc env) R s') (notedBy (model prog w) A env fun x s' => R (.error x) s') s) :
    codeAny (model prog w) A (.compStart (lc2 elt t1 i1 t2 i2 ifs scope pos) 1 it acc env) R s := by
  refine codeAny_of_tree ?_
  show wpAny _ _ ((compStart (lc2 elt t1 i1 t2 i2 ifs scope pos) 1 it acc env).onRaise (fun x => do noteFrame x env; standAt theWindowsPlace)) _ _ s
  refine wpAny_notedAt ?_
  unfold compStart
  show wpAny _ _ (ask >>= _) _ _ s
  refine wpAny_bind (wpAny_askSetting (wpAny_ite ?_))
  split
  · first
      | exact wpAny_bind (wpAny_pure (wpAny_pure (And.intro rfl h0)))
      | exact wpAny_pure (And.intro rfl h0)
  · first
      | exact wpAny_bind (wpAny_rule (wpAny_bind (wpAny_standAt (wpAny_bind (wpAny_mono h (fun it' s' h' => wpAny_pure (And.intro rfl h')) fun _ _ x => x)))))
      | (refine wpAny_bind (wpAny_rule ?_); show wpAny _ _ (standAt i2.pos >>= _) _ _ s; exact wpAny_bind (wpAny_standAt (wpAny_bind (wpAny_mono h (fun it' s' h' => wpAny_pure (And.intro rfl h')) fun _ _ x => x))))

theorem code_outer {elt i1 i2 t2 : Expr} {ifs : List Expr} {scope : Scope} {pos px : Pos} {x : Str} {it : Value} {D : Addr} {env : Env} {s : Shared} {R : Result → Shared → Prop} (hsf : ∀ x, foldedSetIterable i2 env x = pure x) (Iv : Nat → Shared → Prop)
    (turn : ∀ k s', Iv k s' → wpAny (model prog w) A (pyNext it) (fun r s₁ => match r with
      | none => R (.ok .next) s₁
      | some v => wpAny (model prog w) A (assign (.Name x px) env v) (fun _ s₂ => wpAny (model prog w) A (eval i2 env) (fun xv s₃ => wpAny (model prog w) A (pyIter xv) (fun it2 s₄ =>
          codeAny (model prog w) A (.compStart (lc2 elt (.Name x px) i1 t2 i2 ifs scope pos) 1 it2 (.ref D) env) (fun r s₅ => match r with | .ok _ => ∃ k', k' < k ∧ Iv k' s₅ | .error _ => False) s₄) NF s₃) NF s₂) NF s₁) NF s')
    (n : Nat) (h : Iv n s) : codeAny (model prog w) A (.compLoop (lc2 elt (.Name x px) i1 t2 i2 ifs scope pos) 0 it (.ref D) env) R s := by
  refine codeAny_loop rfl Iv (fun n s hI => ?_) n h
  show wpAny _ A ((compTurn (lc2 elt (.Name x px) i1 t2 i2 ifs scope pos) 0 it (.ref D) env).onRaise (fun x => do noteFrame x env; theTreesLotGoes x)) _ _ s
  refine wpAny_noted (nf ?_)
  rw [compTurn_outer]
  refine wpAny_bind (wpAny_standAt (wpAny_bind (wpAny_mono (turn n s hI) (fun r s₁ h₁ => ?_) fun _ _ h' => h')))
  cases r with
  | none => exact wpAny_pure h₁
  | some v =>
    refine wpAny_bind (wpAny_of_eq (show letOwnedTupleGo (.Name x px) it v = pure () from rfl) ?_)
    refine wpAny_bind (wpAny_mono h₁ (fun _ s₂ h₂ => ?_) fun _ _ h' => h')
    refine wpAny_bind (wpAny_mono h₂ (fun xv s₃ h₃ => wpAny_bind (wpAny_standAt (wpAny_bind (wpAny_of_eq (hsf xv) (wpAny_bind (wpAny_holding (wpAny_mono h₃ (fun it2 s₄ h₄ => ?_) fun _ _ h' => h'))))))) fun _ _ h' => h')
    refine wpAny_bind (wpAny_runOwn (h := none) ?_)
    refine codeAny_mono h₄ fun r s₅ h₅ => ?_
    cases r with
    | ok f => exact wpAny_pure ⟨rfl, h₅⟩
    | error e => exact h₅.elim
end
end Mine

namespace Mine

section
variable {prog : Program} {w : World} {A : Around} {h₀ : Heap} {L : Addr} {m : Loc} {X B : Led} {env : Env}

def OwnX (clo : List (Str × Addr)) (x : Str) (vx : Value) (C : Addr) (cl : List (Str × Addr)) (own : Led) : Prop := cl = clo ∧ ∃ oC m₂, own = [(C, oC)] ∧ LCg.NsObj oC m₂ ∧ m₂ x = some vx
def OwnXV (clo : List (Str × Addr)) (x : Str) (vx : Value) (y : Str) (C : Addr) (cl : List (Str × Addr)) (own : Led) (v : Value) : Prop := cl = clo ∧ ∃ oC m₂, own = [(C, oC)] ∧ LCg.NsObj oC m₂ ∧ m₂ x = some vx ∧ m₂ y = some v
theorem tgtX {scope : Scope} {clo : List (Str × Addr)} {x y : Str} {vx : Value} {py : Pos} (hkind : scope.kind = .function) (hy : scope.names.lookup y = some .local) (hxy : x ≠ y) :
    Tgt prog w A h₀ L m env scope y py (OwnX clo x vx) (OwnXV clo x vx y) where
  asg := by
    rintro C cl own n s v ⟨rfl, oC, m₂, rfl, hC, hx⟩ S
    refine wpAny_mono (asg_own (n := n) hkind hy hC S) ?_ fun _ _ e => e
    rintro _ s' ⟨oC', h', sh, S'⟩
    exact ⟨[(C, oC')], ⟨rfl, oC', _, rfl, h', by simp only [if_neg hxy]; exact hx, by simp⟩, sh, S'⟩
  of := by rintro C cl own v ⟨rfl, oC, m₂, rfl, h, hx, _⟩; exact ⟨rfl, oC, m₂, rfl, h, hx⟩
  ns := by rintro C cl own ⟨rfl, oC, m₂, rfl, h, _⟩; exact ⟨oC, m₂, [], rfl, h⟩

/-- the loops of a comprehension of two clauses -/
theorem comp_loop2 {elt i1 i2 : Expr} {ifs : List Expr} {scope : Scope} {x y : Str} {px py pos : Pos} (hkind : scope.kind = .function) (hx : scope.names.lookup x = some .local) (hy : scope.names.lookup y = some .local) (hxy : x ≠ y)
    {ds es : List Dat} (p : Dat → Dat → Bool) (f : Dat → Dat → Dat) {I C D : Addr} {cl clo : List (Str × Addr)} {Stt : Nat → Heap → Prop} {oI : Obj} {own n : Led} {s : Shared} {R : Result → Shared → Prop} (hh : A.handled = none)
    (hX : ∀ q ∈ X, q ∈ n) (hB : ∀ q ∈ B, q ∈ n) (hz : ds.length * es.length ≤ sizeLine)
    (hi2 : ∀ d ∈ ds, ∀ v own tl, OwnLV clo x C cl own v → DatIn (tl ++ B) v d → Tr prog w A h₀ L m (own ++ X) (tl ++ B) (eval i2 (compEnvC scope cl C env)) (IsSrc es))
    (htest : ∀ d ∈ ds, ∀ e ∈ es, ∀ u v own tl, OwnXV clo x u y C cl own v → DatIn (tl ++ B) u d → DatIn (tl ++ B) v e → Tr prog w A h₀ L m (own ++ X) (tl ++ B) (tests ifs (compEnvC scope cl C env)) (IsB (p d e)))
    (helt : ∀ d ∈ ds, ∀ e ∈ es, p d e = true → ∀ u v own tl, OwnXV clo x u y C cl own v → DatIn (tl ++ B) u d → DatIn (tl ++ B) v e → Tr prog w A h₀ L m (own ++ X) (tl ++ B) (eval elt (compEnvC scope cl C env)) (IsD (f d e)))
    (S₀ : Src prog w A h₀ L B I ds Stt) (st0 : Stt 0 s.heap) (S : St h₀ L m ((I, oI) :: (own ++ (D, LCg.lst []) :: n)) s.heap) (hown : OwnL clo C cl own)
    (hsf : ∀ x, foldedSetIterable i2 (compEnvC scope cl C env) x = pure x)
    (fin : ∀ own tl ys s', OwnL clo C cl own → Sh s s' → St h₀ L m (own ++ (D, LCg.lst ys) :: (tl ++ n)) s'.heap → DatAll (tl ++ B) ys (ds.flatMap fun d => (es.filter (p d)).map (f d)) → R (.ok .next) s') :
    codeAny (model prog w) A (.compLoop (lc2 elt (.Name x px) i1 (.Name y py) i2 ifs scope pos) 0 (.ref I) (.ref D) (compEnvC scope cl C env)) R s := by
  refine src_loop (A := A) (B := B) S₀
    (fun i m' n' => m' = m ∧ ∃ own tl ys, n' = own ++ (D, LCg.lst ys) :: (tl ++ n) ∧ OwnL clo C cl own ∧ ys.length ≤ i * es.length ∧ DatAll (tl ++ B) ys ((ds.take i).flatMap fun d => (es.filter (p d)).map (f d)))
    (fun s' => R (.ok .next) s')
    (fun v nx s₁ => wpAny (model prog w) A (assign (.Name x px) (compEnvC scope cl C env) v) (fun _ s₂ => wpAny (model prog w) A (eval i2 (compEnvC scope cl C env)) (fun xv s₃ => wpAny (model prog w) A (pyIter xv) (fun it2 s₄ =>
          codeAny (model prog w) A (.compStart (lc2 elt (.Name x px) i1 (.Name y py) i2 ifs scope pos) 1 it2 (.ref D) (compEnvC scope cl C env)) (fun r s₅ => match r with | .ok _ => nx s₅ | .error _ => False) s₄) NF s₃) NF s₂) NF s₁) (E := NF)
    (fun Iv turn k h => code_outer hsf Iv turn k h) st0 S ⟨rfl, own, [], [], rfl, hown, Nat.zero_le _, .nil⟩ ?_ ?_ ?_
  · rintro i m' n' ⟨_, own, tl, ys, rfl, _⟩ q hq
    exact sub_right _ (List.mem_cons_of_mem _ (sub_right _ (hB q hq)))
  · rintro i d v m' n' oI' s₁ nx hd hv ⟨rfl, own₁, tl, ys, rfl, ⟨rfl, oC₁, m₁, rfl, hC₁⟩, hyl, hys⟩ sh S₁ next
    have hdm : d ∈ ds := List.mem_of_getElem? hd
    have hlt := (List.getElem?_eq_some_iff.mp hd).1
    have S₁' : St h₀ L m' ((C, oC₁) :: ((I, oI') :: (D, LCg.lst ys) :: (tl ++ n))) s₁.heap := S₁.perm (List.Perm.swap ..)
    refine wpAny_mono (asg_own hkind hx hC₁ S₁') ?_ fun _ _ e => e
    rintro _ s₂ ⟨oC₂, hC₂, sh₂, S₂⟩
    have hv₂ : DatIn (tl ++ B) v d := hv.mono sub_right
    refine (hi2 d hdm v [(C, oC₂)] tl ⟨rfl, oC₂, _, rfl, hC₂, by simp⟩ hv₂).go (n := [(C, oC₂)] ++ ((I, oI') :: (D, LCg.lst ys) :: (tl ++ n))) (sub_app fun q hq => List.mem_cons_of_mem _ (List.mem_cons_of_mem _ (sub_right _ (hX q hq))))
      (fun q hq => sub_right _ (List.mem_cons_of_mem _ (List.mem_cons_of_mem _ (sub_app hB q hq)))) S₂ fun tl₃ xv s₃ sh₃ S₃ r₃ => ?_
    refine wpAny_mono (iter_start (B := tl₃ ++ (tl ++ B)) hh r₃ (sub_app fun q hq => sub_right _ (List.mem_cons_of_mem _ (List.mem_cons_of_mem _ (sub_app hB q hq)))) S₃) ?_ fun _ _ e => e
    rintro it2 s₄ ⟨I₂, Stt₂, oI₂, rfl, sh₄, S₀₂, st₄, S₄⟩
    have pm : ((I₂, oI₂) :: ([(C, oC₂)] ++ (D, LCg.lst ys) :: ((I, oI') :: (tl₃ ++ (tl ++ n))))).Perm ((I₂, oI₂) :: (tl₃ ++ ([(C, oC₂)] ++ ((I, oI') :: (D, LCg.lst ys) :: (tl ++ n))))) := by
      refine List.Perm.cons _ ?_
      refine List.Perm.trans ?_ (List.perm_append_comm_assoc [(C, oC₂)] tl₃ _)
      refine List.Perm.append_left [(C, oC₂)] ?_
      refine (List.Perm.swap (I, oI') (D, LCg.lst ys) (tl₃ ++ (tl ++ n))).trans ?_
      refine (List.Perm.cons _ List.perm_middle.symm).trans ?_
      exact List.perm_middle.symm
    have S₄' := S₄.perm pm
    have go : codeAny (model prog w) A (.compLoop (lc2 elt (.Name x px) i1 (.Name y py) i2 ifs scope pos) 1 (.ref I₂) (.ref D) (compEnvC scope cl C env)) (fun r s₅ => match r with | .ok _ => nx s₅ | .error _ => False) s₄ := by
      refine comp_loopG (X := X) (B := tl₃ ++ (tl ++ B)) (tgtX (clo := cl) (vx := v) hkind hy hxy) (p d) (f d) (cl := cl) (Rn := fun s₅ => nx s₅)
        (fun Iv turn k h => code_inner Iv turn k h) (fun q hq => List.mem_cons_of_mem _ (sub_right _ (sub_right _ (hX q hq)))) (fun q hq => List.mem_cons_of_mem _ (sub_app (sub_app hB) q hq)) ?_ (hys.mono sub_right) ?_ ?_ S₀₂ st₄ S₄' ⟨rfl, oC₂, _, rfl, hC₂, by simp⟩ ?_
      · have h1 : (i + 1) * es.length ≤ ds.length * es.length := Nat.mul_le_mul_right _ hlt
        rw [Nat.succ_mul] at h1
        omega
      · intro e he u own tl₅ hV hu
        have := htest d hdm e he v u own (tl₅ ++ (tl₃ ++ tl)) hV (by rw [List.append_assoc, List.append_assoc]; exact hv₂.mono (fun q hq => sub_right _ (sub_right _ hq))) (by rw [List.append_assoc, List.append_assoc]; exact hu)
        rw [List.append_assoc, List.append_assoc] at this
        exact this
      · intro e he hp u own tl₅ hV hu
        have := helt d hdm e he hp v u own (tl₅ ++ (tl₃ ++ tl)) hV (by rw [List.append_assoc, List.append_assoc]; exact hv₂.mono (fun q hq => sub_right _ (sub_right _ hq))) (by rw [List.append_assoc, List.append_assoc]; exact hu)
        rw [List.append_assoc, List.append_assoc] at this
        exact this
      · rintro own₅ tl₅ ys₅ s₅ ⟨_, oC₅, m₅, rfl, hC₅, _⟩ sh₅ S₅ hyl₅ hys₅
        have pm5 : ((I, oI') :: ([(C, oC₅)] ++ (D, LCg.lst ys₅) :: ((tl₅ ++ (tl₃ ++ tl)) ++ n))).Perm ([(C, oC₅)] ++ (D, LCg.lst ys₅) :: (tl₅ ++ (I, oI') :: (tl₃ ++ (tl ++ n)))) := by
          refine (List.perm_middle (l₁ := [(C, oC₅)] ++ [(D, LCg.lst ys₅)]) (a := (I, oI')) (l₂ := (tl₅ ++ (tl₃ ++ tl)) ++ n)).symm.trans ?_
          simp only [List.append_assoc, List.cons_append, List.nil_append]
          exact List.Perm.cons _ (List.Perm.cons _ List.perm_middle.symm)
        refine next s₅ m' _ (((((sh.trans sh₂).trans sh₃).trans sh₄).trans sh₅)) (S₅.perm pm5) ⟨rfl, [(C, oC₅)], tl₅ ++ (tl₃ ++ tl), ys₅, rfl, ⟨rfl, oC₅, m₅, rfl, hC₅⟩, ?_, ?_⟩
        · rw [Nat.succ_mul]; omega
        · have hs : ds.take (i + 1) = ds.take i ++ [d] := by simp [List.take_add_one, hd]
          rw [hs, List.flatMap_append]
          simp only [List.flatMap_cons, List.flatMap_nil, List.append_nil]
          simp only [List.append_assoc] at hys₅ ⊢
          exact hys₅
    obtain ⟨fp, W⟩ := S₀₂.W
    exact start_inner go (W.self 0 _ _ _ st₄ go)
  · rintro m' n' s₁ ⟨rfl, own, tl, ys, rfl, hown, _, hys⟩ sh S₁
    rw [List.take_length] at hys
    exact fin own tl ys s₁ hown sh S₁ hys

variable {cn : Str} {cs : Scope} {a : Addr} {ccd : Value} {cl : List (Str × Addr)} {Q : Flow → Shared → Prop} {mu n : Led} {s : Shared}

/-- y = [.. for x in .. for z in .. if ..], exchanged -/
theorem st_assign_comp2 {elt i1 i2 : Expr} {ifs : List Expr} {scope : Scope} {clo : List (Str × Addr)} {x z y : Str} {px pz py pos spos : Pos}
    {ds es : List Dat} (p : Dat → Dat → Bool) (f : Dat → Dat → Dat) (hh : A.handled = none) (hclos : closureFor scope (envX cn cs L a ccd cl) = pure clo) (hkind : scope.kind = .function) (hcell : ∀ y ∈ scope.names, y.2 ≠ .cell) (hnames : ∀ y ∈ scope.names, y.2 = .local → scope.names.lookup y.1 = some .local)
    (hx : scope.names.lookup x = some .local) (hz' : scope.names.lookup z = some .local) (hxz : x ≠ z) (hz : ds.length * es.length ≤ sizeLine)
    (hi : Tr prog w A h₀ L m X B (eval i1 (envX cn cs L a ccd cl)) (IsSrc ds))
    (hi2 : ∀ C, ∀ d ∈ ds, ∀ v own tl, OwnLV clo x C clo own v → DatIn (tl ++ B) v d → Tr prog w A h₀ L m (own ++ X) (tl ++ B) (eval i2 (compEnvC scope clo C (envX cn cs L a ccd cl))) (IsSrc es))
    (htest : ∀ C, ∀ d ∈ ds, ∀ e ∈ es, ∀ u v own tl, OwnXV clo x u z C clo own v → DatIn (tl ++ B) u d → DatIn (tl ++ B) v e → Tr prog w A h₀ L m (own ++ X) (tl ++ B) (tests ifs (compEnvC scope clo C (envX cn cs L a ccd cl))) (IsB (p d e)))
    (helt : ∀ C, ∀ d ∈ ds, ∀ e ∈ es, p d e = true → ∀ u v own tl, OwnXV clo x u z C clo own v → DatIn (tl ++ B) u d → DatIn (tl ++ B) v e → Tr prog w A h₀ L m (own ++ X) (tl ++ B) (eval elt (compEnvC scope clo C (envX cn cs L a ccd cl))) (IsD (f d e)))
    (hX : ∀ p ∈ X, p ∈ mu ++ n) (hB : ∀ p ∈ B, p ∈ mu ++ n) (S : St h₀ L m (mu ++ n) s.heap)
    (k : ∀ tl v s', Sh s s' → St h₀ L (fun z => if z = y then some v else m z) (mu ++ (tl ++ n)) s'.heap → DatIn (tl ++ B) v (.list (ds.flatMap fun d => (es.filter (p d)).map (f d))) → Q .next s')
    (hk : cs.kind = .function := by rfl) (hy : (envX cn cs L a ccd cl).kindOf y = some .local := by rfl)
    (hsw : swapsWith (lc2 elt (.Name x px) i1 (.Name z pz) i2 ifs scope pos) (some (.Name y py)) spos.line (envX cn cs L a ccd cl) = pure true := by with_unfolding_all rfl)
    (hs : ∀ x, foldedSetIterable i1 (envX cn cs L a ccd cl) x = pure x := by intro _; rfl) (hs2 : ∀ C x, foldedSetIterable i2 (compEnvC scope clo C (envX cn cs L a ccd cl)) x = pure x := by intro _ _; rfl) :
    wpAny (model prog w) A (exec (.Assign [.Name y py] (lc2 elt (.Name x px) i1 (.Name z pz) i2 ifs scope pos) spos) (envX cn cs L a ccd cl)) Q NF s := by
  rw [exec_Assign_Name_used _ _ _ _ hsw]
  refine wpAny_bind (wpAny_standAt (wpAny_bind ?_))
  show wpAny _ A (do let _ ← comprehension (lc2 elt (.Name x px) i1 (.Name z pz) i2 ifs scope pos) scope (envX cn cs L a ccd cl) _ (newList []) false (eval i1 (envX cn cs L a ccd cl)) (some (assign (.Name y py) (envX cn cs L a ccd cl)))) _ _ s
  refine wpAny_bind (wpAny_mono (wpAny_comprehension_free (use := some (assign (.Name y py) (envX cn cs L a ccd cl))) (Q := fun _ s' => Q .next s') rfl hs hclos hkind hnames
    (hi.go hX hB S fun tl₁ xv s₁ sh₁ S₁ r₁ => ?_)) (fun _ s' hq => wpAny_pure (wpAny_pure hq)) fun _ _ e => e)
  refine comp_pre (B := tl₁ ++ B) hh (mkL hkind hcell) r₁ (sub_app hB) S₁ fun I Stt oI C cl' own D s₂ S₀ st₂ hown sh₂ S₂ => ?_
  obtain ⟨rfl, _⟩ := id hown
  refine comp_loop2 (X := X) (B := tl₁ ++ B) (clo := cl') hkind hx hz' hxz p f hh (sub_rr hX) (sub_app hB) hz ?_ ?_ ?_ S₀ st₂ S₂ hown (hs2 C) fun own' tl ys s₃ hown' sh₃ S₃ hys => ?_
  · intro d hd v own tl hV hv
    have := hi2 C d hd v own (tl ++ tl₁) hV (by rw [List.append_assoc]; exact hv)
    rw [List.append_assoc] at this
    exact this
  · intro d hd e he u v own tl hV hu hv
    have := htest C d hd e he u v own (tl ++ tl₁) hV (by rw [List.append_assoc]; exact hu) (by rw [List.append_assoc]; exact hv)
    rw [List.append_assoc] at this
    exact this
  · intro d hd e he hp u v own tl hV hu hv
    have := helt C d hd e he hp u v own (tl ++ tl₁) hV (by rw [List.append_assoc]; exact hu) (by rw [List.append_assoc]; exact hv)
    rw [List.append_assoc] at this
    exact this
  · obtain ⟨_, oC, m₂, rfl, hC⟩ := hown'
    show wpAny _ A (assign (.Name y py) (envX cn cs L a ccd cl) (.ref D)) _ _ _
    refine wpAny_assign_Name (storeX_L S₃.F S₃.N (fun h₄ F₄ N₄ => ?_) hk hy)
    have S₄' : St h₀ L (fun z => if z = y then some (.ref D) else m z) (([(C, oC)]) ++ (D, LCg.lst ys) :: (tl ++ (tl₁ ++ (mu ++ n)))) h₄ := ⟨F₄, N₄, S₃.nd⟩
    have zC := (S₄'.N (C, oC) (List.mem_append_left _ (List.mem_cons_self ..))).1
    refine ⟨m₂, hC.ns zC, fun h' hs' => ?_⟩
    have hL := (S₄'.N (C, oC) (List.mem_append_left _ (List.mem_cons_self ..))).2
    have nd := S₄'.nd
    have S₅ : St h₀ L (fun z => if z = y then some (.ref D) else m z) ((D, LCg.lst ys) :: (tl ++ (tl₁ ++ (mu ++ n)))) h' := by
      refine ⟨S₄'.F.change hs' hL.1 hL.2, fun q hq => ?_, ?_⟩
      · have z := S₄'.N q (List.mem_cons_of_mem _ hq)
        refine ⟨(hs'.2 q.1 fun e => ?_).trans z.1, z.2⟩
        rw [List.cons_append, List.nil_append, List.map_cons, List.nodup_cons] at nd
        exact nd.1 (List.mem_map.mpr ⟨q, hq, e⟩)
      · rw [List.cons_append, List.nil_append, List.map_cons, List.nodup_cons] at nd
        exact nd.2
    have S₆ := S₅.perm (n' := mu ++ (((D, LCg.lst ys) :: (tl ++ tl₁)) ++ n)) (by
      have : ((D, LCg.lst ys) :: (tl ++ (tl₁ ++ (mu ++ n)))) = ((D, LCg.lst ys) :: (tl ++ tl₁)) ++ (mu ++ n) := by simp
      rw [this]
      exact List.perm_append_comm_assoc ..)
    refine k ((D, LCg.lst ys) :: (tl ++ tl₁)) (.ref D) _ (((sh₁.trans (sh₂.trans sh₃)).trans (Sh.mk s₃ _ _)).trans (Sh.mk _ h' _)) S₆ ?_
    exact DatIn.list (List.mem_cons_self ..) (hys.mono fun q hq => List.mem_cons_of_mem _ (by rw [← List.append_assoc] at hq; exact hq))
end
end Mine

namespace Mine

def stepF (numbers : List Int) (ah : Int → List Int) (rows : List (List Int)) : List (List Int) := rows.flatMap fun row => (numbers.filter fun x => mayF x row (ah x)).map fun x => row ++ [x]
def ordF (numbers : List Int) (ah : Int → List Int) : Nat → List (List Int)
  | 0 => [[]]
  | k + 1 => stepF numbers ah (ordF numbers ah k)

theorem ordF_len (numbers : List Int) (ah : Int → List Int) : ∀ k, ∀ r ∈ ordF numbers ah k, r.length = k
  | 0, r, h => by
    simp only [ordF, List.mem_singleton] at h
    rw [h]; rfl
  | k + 1, r, h => by
    simp only [ordF, stepF, List.mem_flatMap, List.mem_map] at h
    obtain ⟨r', h', x, _, rfl⟩ := h
    rw [List.length_append, ordF_len numbers ah k r' h']; rfl
theorem ordF_size (numbers : List Int) (ah : Int → List Int) : ∀ k, (ordF numbers ah k).length ≤ numbers.length ^ k
  | 0 => by simp [ordF]
  | k + 1 => by
    have ih := ordF_size numbers ah k
    simp only [ordF, stepF]
    generalize ordF numbers ah k = rows at ih
    have : ∀ rows : List (List Int), (rows.flatMap fun row => (numbers.filter fun x => mayF x row (ah x)).map fun x => row ++ [x]).length ≤ rows.length * numbers.length := by
      intro rows
      induction rows with
      | nil => simp
      | cons r rows ih =>
        rw [List.flatMap_cons, List.length_append, List.length_map, List.length_cons, Nat.succ_mul]
        have := List.length_filter_le (fun x => mayF x r (ah x)) numbers
        omega
    exact Nat.le_trans (this rows) (by rw [Nat.pow_succ]; exact Nat.mul_le_mul_right _ ih)

def unI : Dat → Int
  | .int j => j
  | _ => 0
def pO (ah : Int → List Int) (d e : Dat) : Bool := match d, e with
  | .list r, .int x => mayF x (r.map unI) (ah x)
  | _, _ => false
def fO (d e : Dat) : Dat := match d with
  | .list r => .list (r ++ [e])
  | _ => .none
theorem unI_dI (r : List Int) : (dI r).map unI = r := by
  rw [dI, List.map_map]
  exact (List.map_congr_left fun _ _ => rfl).trans (List.map_id _)
theorem pO_eq (ah : Int → List Int) (r : List Int) (x : Int) : pO ah (dL r) (.int x) = mayF x r (ah x) := by
  show mayF x ((dI r).map unI) (ah x) = _
  rw [unI_dI]
theorem step_one (numbers : List Int) (ah : Int → List Int) (r : List Int) : ((dI numbers).filter (pO ah (dL r))).map (fO (dL r)) = ((numbers.filter fun x => mayF x r (ah x)).map fun x => r ++ [x]).map dL := by
  induction numbers with
  | nil => rfl
  | cons x xs ih =>
    show ((Dat.int x :: dI xs).filter (pO ah (dL r))).map (fO (dL r)) = _
    rw [List.filter_cons, List.filter_cons, pO_eq]
    cases h : mayF x r (ah x) with
    | true =>
      simp only [if_true, List.map_cons]
      rw [ih]
      congr 1
      show Dat.list (dI r ++ dI [x]) = _
      rw [dI_append]; rfl
    | false =>
      simp only [Bool.false_eq_true, if_false]
      exact ih
theorem step_eq (numbers : List Int) (ah : Int → List Int) (rows : List (List Int)) : ((rows.map dL).flatMap fun d => ((dI numbers).filter (pO ah d)).map (fO d)) = (stepF numbers ah rows).map dL := by
  induction rows with
  | nil => rfl
  | cons r rows ih =>
    rw [List.map_cons, List.flatMap_cons, ih, step_one]
    simp only [stepF, List.flatMap_cons, List.map_append]

section
variable {prog : Program} {w : World} {A : Around} {h₀ : Heap} {L : Addr} {m : Loc} {X B : Led} {env : Env} {K : Frag} {dp un : Nat}

theorem all_orders_spec (H : KH K) (C : Cx prog w K A env h₀ L dp un) (hd : dp ≤ 500) (hu : un ≤ 5000) {a b : Value} {numbers : List Int} {al : List (Int × List Int)} (ah : Int → List Int)
    (ha : DatIn B a (dL numbers)) (hb : IsAh prog w al B b) (hz : numbers.length ≤ 4) (hal : ∀ x ∈ numbers, al.lookup x = some (ah x) ∧ (ah x).length ≤ 1000) :
    Tr prog w A h₀ L m X B (call (.ref 31) [a, b]) (IsD (dLL (ordF numbers ah numbers.length))) := by
  obtain ⟨⟨oc, od, doc, pm, an, cdv, ct, osl, ho, hcd⟩, _, _⟩ := H.orders
  refine tr_callC (binds := [("numbers", a), ("ahead", b)]) C ho hcd (Nat.lt_of_le_of_lt hd (by decide)) (fun s => BindsTo.of_eq (by rfl)) (by rfl) (by decide +kernel) rfl rfl rfl ?_
  intro A' g L' n s cells C' hB Y F N nd lt
  obtain ⟨o₂, o₁, rfl, d2, d1⟩ := CellsAre.two Y
  have S : St g L' (bindL (envOfC "all_orders" (fnScope (stAt 3)) L' 31 cdv).kindOf [("numbers", a), ("ahead", b)] fun _ => none) ([(L' + 1 + 1, o₂), (L' + 1, o₁)] ++ n) s.heap :=
    ⟨F, N, nodup_cons_lt (nodup_cons_lt nd fun p hp => by
      obtain ⟨q, hq, rfl⟩ := List.mem_map.mp hp
      exact Nat.lt_succ_of_lt (lt q hq)) fun p hp => by
      rcases List.mem_cons.mp hp with rfl | hp
      · exact Nat.lt_succ_self _
      · obtain ⟨q, hq, rfl⟩ := List.mem_map.mp hp
        exact Nat.lt_succ_of_lt (Nat.lt_succ_of_lt (lt q hq))⟩
  have X1 : ∀ {I oI} {tl : Led}, ∀ p ∈ ([(L' + 1 + 1, o₂), (L' + 1, o₁)] : Led), p ∈ ((I, oI) :: [(L' + 1 + 1, o₂), (L' + 1, o₁)]) ++ tl := fun p hp => List.mem_append_left _ (List.mem_cons_of_mem _ hp)
  refine wpAny_execs_cons ?_
  refine st_assign (X := []) (B := B) (R := IsD (dLL [[]])) (ev_list (items1 (mo_isD (dL [])) (ev_list tr_items_nil (fun n vs e => by rw [e]; exact .nil) (Nat.zero_le _))) (fun n vs r => by obtain ⟨v, rfl, r⟩ := r; exact .cons r .nil) (by rw [sizeLine_eq]; decide)) (fun _ h => nomatch h) (sub_rr hB) S fun tl₁ v₁ s₁ sh₁ S₁ r₁ => ?_
  have hB₁ : ∀ p ∈ tl₁ ++ B, p ∈ tl₁ ++ n := sub_app hB
  have ha₁ : DatIn (tl₁ ++ B) a (dL numbers) := ha.mono sub_right
  have hb₁ : IsAh prog w al (tl₁ ++ B) b := mo_isAh al _ _ _ sub_right hb
  refine wpAny_execs_cons ?_
  refine st_for (X := [(L' + 1 + 1, o₂), (L' + 1, o₁)]) (B := tl₁ ++ B) (n := tl₁ ++ n) (ds := rg 0 numbers.length) C'.hh
    (fun i m' mu' tl => mu' = [(L' + 1 + 1, o₂), (L' + 1, o₁)] ∧ ∃ v, m' "rows" = some v ∧ DatIn (tl ++ (tl₁ ++ B)) v (dLL (ordF numbers ah i)))
    ?_ sub_left hB₁ S₁ (fun tl => ⟨rfl, v₁, by simp, r₁.mono sub_right⟩) ?_ ?_
  · refine ev_callT (T := "range") (nm_builtin C'.T C'.X (H.built _ (by simp)) (by rfl) (by decide) rfl) (items1 (mo_isD (.int (numbers.length : Nat))) ?_) (mo1 (mo_isD _)) fun tl vs r => ?_
    · refine ev_callB (id := "len") (nm_builtin C'.T C'.X (H.built _ (by simp)) (by rfl) (by decide) rfl) (items1 (mo_isD (dL numbers)) (nm_cell (by rfl) (List.mem_cons_of_mem _ (List.mem_cons_self ..)) d1 ha₁)) (mo1 (mo_isD _)) fun tl vs r => ?_
      obtain ⟨v, rfl, r⟩ := r
      refine (cl_len r (by rw [dI_length]; omega)).mono fun _ _ r => ?_
      rw [dI_length] at r
      exact r
    · obtain ⟨v, rfl, r⟩ := r
      exact (cl_range1 r).mono fun _ _ r => .inr ⟨0, _, numbers.length, r, by omega, by omega, by omega, by omega, rfl⟩
  · rintro I i d v m' mu' tl oI s₂ hd hv ⟨rfl, vr, hmr, hvr⟩ sh₂ S₂
    have hi : i < numbers.length := by
      have := (List.getElem?_eq_some_iff.mp hd).1
      rw [rg_len] at this
      exact this
    refine as_local S₂ fun s₃ sh₃ S₃ => ?_
    have hB₂ : ∀ p ∈ tl ++ (tl₁ ++ B), p ∈ ((I, oI) :: [(L' + 1 + 1, o₂), (L' + 1, o₁)]) ++ (tl ++ (tl₁ ++ n)) := fun p hp => sub_right _ (sub_app hB₁ p hp)
    refine wpAny_execs_cons ?_
    refine st_assign_comp2 (X := [(L' + 1 + 1, o₂), (L' + 1, o₁)]) (B := tl ++ (tl₁ ++ B)) (ds := (ordF numbers ah i).map dL) (es := dI numbers)
      (pO ah) fO
      C'.hh (by rfl) (by rfl) (by decide) (by decide) (by rfl) (by rfl) (by decide) ?_ ?_ ?_ ?_ ?_ X1 hB₂ S₃ fun tl₄ v₄ s₄ sh₄ S₄ r₄ => ?_
    · rw [List.length_map, dI_length, sizeLine_eq]
      have h1 := ordF_size numbers ah i
      have h2 : numbers.length ^ i ≤ 4 ^ 4 := Nat.le_trans (Nat.pow_le_pow_left hz i) (Nat.pow_le_pow_right (by decide) (by omega))
      have h3 : (ordF numbers ah i).length * numbers.length ≤ 4 ^ 4 * 4 := Nat.mul_le_mul (Nat.le_trans h1 h2) hz
      omega
    · exact Tr.mono (R := IsD (dLL (ordF numbers ah i))) (nm_local (up1 hmr (by decide)) hvr) fun _ _ r => .inl r
    · rintro Cc d hd v own tl₅ ⟨_, oC, m₂, rfl, hC, hv₅⟩ hdv
      exact Tr.mono (R := IsD (dL numbers)) (nc_cell (by rfl) (List.mem_cons_of_mem _ (List.mem_cons_of_mem _ (List.mem_cons_self ..))) d1 (ha₁.mono fun p hp => sub_right _ (sub_right _ hp))) fun _ _ r => .inl r
    · rintro Cc d hd e he u v own tl₅ ⟨_, oC, m₂, rfl, hC, hu₅, hv₅⟩ hdu hdv
      obtain ⟨r, hr, rfl⟩ := List.mem_map.mp hd
      obtain ⟨x, hx, rfl⟩ := List.mem_map.mp he
      rw [pO_eq]
      refine tests_one (ts_val ?_)
      refine ev_callF C'.X H.may.keep (nc_global C'.T C'.X H.may.ns rfl) (items3 (mo_isD (.int x)) (mo_isD (dL r)) (mo_isAh (prog := prog) (w := w) al) (nc_own (List.mem_cons_self ..) hC hv₅ hdv) (nc_own (List.mem_cons_self ..) hC hu₅ hdu) (nc_cell (by rfl) (List.mem_cons_of_mem _ (List.mem_cons_self ..)) d2 (mo_isAh al _ _ _ (fun p hp => sub_right _ (sub_right _ hp)) hb₁))) (mo3 (mo_isD _) (mo_isD _) (mo_isAh al)) fun tl vs r => ?_
      obtain ⟨x', y, z, rfl, r1, r2, r3⟩ := r
      exact may_follow_spec H C' (by omega) (by omega) r1 r2 r3 (hal _ hx).1 (hal _ hx).2
    · rintro Cc d hd e he hp u v own tl₅ ⟨_, oC, m₂, rfl, hC, hu₅, hv₅⟩ hdu hdv
      obtain ⟨r, hr, rfl⟩ := List.mem_map.mp hd
      obtain ⟨x, hx, rfl⟩ := List.mem_map.mp he
      refine ev_bin (R₁ := IsD (dL r)) (R₂ := IsD (.list [.int x])) (nc_own (List.mem_cons_self ..) hC hu₅ hdu) (ev_list (items1 (mo_isD (.int x)) (nc_own (List.mem_cons_self ..) hC hv₅ hdv)) (fun n vs r => by obtain ⟨v, rfl, r⟩ := r; exact .cons r .nil) (by rw [sizeLine_eq]; simp)) (mo_isD _) (mo_isD _) fun tl a b r1 r2 => ?_
      exact op_add_list r1 r2 (by rw [dI_length, ordF_len numbers ah i r hr, sizeLine_eq]; simp; omega)
    · refine wpAny_execs_nil ?_
      refine next_done (i := i) (mu' := [(L' + 1 + 1, o₂), (L' + 1, o₁)]) (tl' := tl₄) (J := fun i m' mu' tl => mu' = [(L' + 1 + 1, o₂), (L' + 1, o₁)] ∧ ∃ v, m' "rows" = some v ∧ DatIn (tl ++ (tl₁ ++ B)) v (dLL (ordF numbers ah i))) S₄ ((sh₂.trans sh₃).trans sh₄) rfl ⟨rfl, v₄, by simp, ?_⟩
      rw [List.append_assoc]
      rw [step_eq] at r₄
      exact r₄
  · rintro m' mu' tl s' ⟨rfl, vr, hmr, hvr⟩ sh S'
    rw [rg_len] at hvr
    refine wpAny_execs_cons ?_
    refine st_return (X := []) (B := tl ++ (tl₁ ++ B)) (R := IsD (dLL (ordF numbers ah numbers.length))) (nm_local hmr hvr) (fun _ h => nomatch h) (fun p hp => sub_right _ (sub_app hB₁ p hp)) S' fun tl₅ v₅ s₅ sh₅ S₅ r₅ => ?_
    refine ret_done (tl := tl₅ ++ (tl ++ tl₁)) S₅.tail ((sh₁.trans sh).trans sh₅) (by simp only [List.append_assoc]) ?_
    simp only [List.append_assoc]
    exact r₅
end
end Mine

namespace Mine

def hitF (numbers : List Int) (ah : Int → List Int) (aliases : List Str) (row : List Int) (alias_ : Str) (j : Nat) : Bool :=
  (aliases.getD j "" == alias_) && mayF (numbers.getD j 0) row (ah (numbers.getD j 0))
def stepT (numbers : List Int) (ah : Int → List Int) (aliases : List Str) (row : List Int) (alias_ : Str) : List Int := match (List.range numbers.length).find? (hitF numbers ah aliases row alias_) with
  | some j => row ++ [numbers.getD j 0]
  | none => row
def rowT (numbers : List Int) (ah : Int → List Int) (aliases told : List Str) : List Int := told.foldl (stepT numbers ah aliases) []
def toldF (numbers : List Int) (ah : Int → List Int) (aliases told : List Str) : List (List Int) :=
  if decide ((rowT numbers ah aliases told).length = numbers.length) && decide (numbers.length = told.length) then [rowT numbers ah aliases told] else []
theorem rowT_take (numbers : List Int) (ah : Int → List Int) (aliases told : List Str) {i : Nat} {x : Str} (h : told[i]? = some x) :
    rowT numbers ah aliases (told.take (i + 1)) = stepT numbers ah aliases (rowT numbers ah aliases (told.take i)) x := by
  unfold rowT
  have hs : told.take (i + 1) = told.take i ++ [x] := by simp [List.take_add_one, h]
  rw [hs, List.foldl_append]; rfl
theorem rowT_le (numbers : List Int) (ah : Int → List Int) (aliases : List Str) : ∀ told : List Str, (rowT numbers ah aliases told).length ≤ told.length := by
  have all : ∀ (told : List Str) (row : List Int), (told.foldl (stepT numbers ah aliases) row).length ≤ row.length + told.length := by
    intro told
    induction told with
    | nil => intro row; simp
    | cons x told ih =>
      intro row
      rw [List.foldl_cons, List.length_cons]
      have h1 := ih (stepT numbers ah aliases row x)
      have h2 : (stepT numbers ah aliases row x).length ≤ row.length + 1 := by
        unfold stepT
        split <;> simp
      omega
  intro told
  have := all told []
  simpa [rowT] using this
theorem find_first {p : Nat → Bool} {n j : Nat} (hj : j < n) (h : p j = true) (h' : ∀ i < j, p i = false) : (List.range n).find? p = some j := by
  rw [List.find?_range_eq_some]
  exact ⟨h, List.mem_range.mpr hj, fun i hi => by rw [h' i hi]; rfl⟩
theorem find_none {p : Nat → Bool} {n : Nat} (h' : ∀ i < n, p i = false) : (List.range n).find? p = none := by
  rw [List.find?_eq_none]
  intro i hi
  rw [h' i (List.mem_range.mp hi)]
  exact Bool.false_ne_true

section
variable {prog : Program} {w : World} {A : Around} {h₀ : Heap} {L : Addr} {m : Loc} {X B : Led} {env : Env} {K : Frag} {dp un : Nat} {Q : Flow → Shared → Prop} {mu n : Led} {s : Shared}

theorem ev_len {f o : Expr} {pos : Pos} {d : List Dat} (hf : Tr prog w A h₀ L m X B (eval f env) (fun _ v => v = .builtin "len")) (h : Tr prog w A h₀ L m X B (eval o env) (IsD (.list d))) (hz : d.length < 2 ^ 63)
    (hc : eval (.Call f [o] [] pos) env = (do callWith pos (← eval f env) [] (backTo pos (starEach [o] env)) (backToKw pos (keywordEach [] env))) := by rfl)
    (he : starEach [o] env = (false, eval o env) :: starEach [] env := by rfl) :
    Tr prog w A h₀ L m X B (eval (.Call f [o] [] pos) env) (IsD (.int (d.length : Nat))) := by
  refine ev_callB (id := "len") (hc := hc) (he := he) (hplain := rfl) hf (items1 (mo_isD (.list d)) h he) (mo1 (mo_isD _)) fun tl vs r => ?_
  obtain ⟨v, rfl, r⟩ := r
  exact cl_len r hz
theorem ev_range1 {f o : Expr} {pos : Pos} {c : Nat} (hf : Tr prog w A h₀ L m X B (eval f env) (fun _ v => v = .type "range")) (h : Tr prog w A h₀ L m X B (eval o env) (IsD (.int (c : Nat)))) (hz : c ≤ 1000000)
    (hc : eval (.Call f [o] [] pos) env = (do callWith pos (← eval f env) [] (backTo pos (starEach [o] env)) (backToKw pos (keywordEach [] env))) := by rfl)
    (he : starEach [o] env = (false, eval o env) :: starEach [] env := by rfl) :
    Tr prog w A h₀ L m X B (eval (.Call f [o] [] pos) env) (IsSrc (rg 0 c)) := by
  refine ev_callT (T := "range") (hc := hc) (he := he) (hplain := rfl) hf (items1 (mo_isD (.int (c : Nat))) h he) (mo1 (mo_isD _)) fun tl vs r => ?_
  obtain ⟨v, rfl, r⟩ := r
  exact (cl_range1 r).mono fun _ _ r => .inr ⟨0, _, c, r, by omega, by omega, by omega, by omega, rfl⟩

theorem ts_chain {l e₁ e₂ : Expr} {pos whole} {i j k : Int} (h1 : Tr prog w A h₀ L m X B (eval l env) (IsD (.int i))) (h2 : Tr prog w A h₀ L m X B (eval e₁ env) (IsD (.int j))) (h3 : Tr prog w A h₀ L m X B (eval e₂ env) (IsD (.int k)))
    (hm : lastMarks [CmpOp.Eq, CmpOp.Eq] [e₁, e₂] = false := by with_unfolding_all rfl) :
    Tr prog w A h₀ L m X B (isTrue (.Compare l [.Eq, .Eq] [e₁, e₂] pos) env whole) (IsB (decide (i = j) && decide (j = k))) := by
  intro n s hX hB S
  refine isTrue_chain (hm := hm) (h1.go hX hB S fun tl a s1 sh1 S1 r1 => ?_)
  refine test_link ((h2.up' (mo_isD _) (tl := tl)).go (sub_rr hX) (sub_app hB) S1 fun tl2 b s2 sh2 S2 r2 => ?_)
  cases r1
  cases r2
  refine eq_int (wpAny_truthy_bool ?_)
  have e : (i == j) = decide (i = j) := Bool.eq_iff_iff.mpr (by simp)
  rw [e]
  rw [← List.append_assoc] at S2
  cases hd : decide (i = j) with
  | false =>
    simp only [Bool.false_eq_true, if_false]
    exact ⟨_, sh1.trans sh2, S2, rfl⟩
  | true =>
    simp only [if_true]
    refine test_last ((h3.up' (mo_isD _) (tl := tl2 ++ tl)).go (sub_rr hX) (sub_app hB) S2 fun tl3 c s3 sh3 S3 r3 => ?_)
    cases r3
    rw [← List.append_assoc] at S3
    exact eq_int (wpAny_truthy_bool ⟨_, (sh1.trans sh2).trans sh3, S3, by show (j == k) = _; rw [Bool.true_and]; exact Bool.eq_iff_iff.mpr (by simp)⟩)

/-- xs.append(e), a statement -/
theorem st_append {R : Led → Value → Prop} {o e : Expr} {apos pos pos' : Pos} {D : Addr} {its : Array Value} {c : Nat} {mu₁ mu₂ : Led} (S : St h₀ L m ((mu₁ ++ (D, listOf its c) :: mu₂) ++ n) s.heap) (hX : ∀ p ∈ X, p ∈ (mu₁ ++ (D, listOf its c) :: mu₂) ++ n) (hB : ∀ p ∈ B, p ∈ (mu₁ ++ (D, listOf its c) :: mu₂) ++ n)
    (ho : ∀ n' s', (∀ p ∈ X, p ∈ n') → St h₀ L m n' s'.heap → ∀ Q : Value → Shared → Prop, Q (.ref D) s' → wpAny (model prog w) A (eval o env) Q NF s') (mR : Mo R) (he : Tr prog w A h₀ L m X B (eval e env) R) (hz : its.size ≤ sizeLine)
    (k : ∀ tl v s', Sh s s' → R (tl ++ B) v → St h₀ L m ((mu₁ ++ (D, listOf (its.push v) (c + 1)) :: mu₂) ++ (tl ++ n)) s'.heap → Q .next s')
    (he₀ : ∃ pl : Sem Bool, eval (.Call (.Attribute o (Str.ofString "append") apos) [e] [] pos) env = (do
      let ov ← eval o env
      standAt apos.atName
      let (f, first) ← holding [ov] (getMethod ov (Str.ofString "append") pl)
      callWith pos f first (backTo pos (starEach [e] env)) []) := by exact ⟨_, rfl⟩)
    (hst : starEach [e] env = (false, eval e env) :: starEach [] env := by rfl)
    (hi : interactive env = false := by rfl) (hs : swapsWith (.Call (.Attribute o (Str.ofString "append") apos) [e] [] pos) none pos'.line env = pure false := by rfl) :
    wpAny (model prog w) A (exec (.Expr (.Call (.Attribute o (Str.ofString "append") apos) [e] [] pos) pos') env) Q NF s := by
  refine wpAny_Expr (hi := hi) (hs := hs) ?_
  obtain ⟨pl, he₀⟩ := he₀
  refine MethodCall_ (he := he₀) (ho _ s hX S _ ?_)
  refine kf_method S.N (List.mem_append_left _ (List.mem_append_right _ (.head _))) PySem.F.slot_list_append PySem.F.type_list_append ?_
  refine callWith_method1 (he := hst) (hplain := rfl) ((items1 mR he hst).goM hX hB S fun tl vs s1 sh1 S1 r1 => ?_)
  obtain ⟨v, rfl, r⟩ := r1
  have zD := (S1.N (D, listOf its c) (List.mem_append_left _ (List.mem_append_right _ (.head _)))).1
  refine append_at (hsz := hz) zD fun h' hs' hD => ?_
  refine k tl v _ (sh1.trans (Sh.mk s1 h' _)) r ?_
  rw [List.append_assoc, List.cons_append] at S1 ⊢
  exact S1.set hs' hD

theorem intsSnoc {us : List Value} {l : List Int} {v : Value} {x : Int} {n : Led} (h : IntsAre us l) (hv : DatIn n v (.int x)) : IntsAre (us ++ [v]) (l ++ [x]) := by
  induction h with
  | nil => cases hv; exact .cons _ _ .nil
  | cons i t _ ih => exact .cons _ _ ih

theorem told_orders_spec (H : KH K) (C : Cx prog w K A env h₀ L dp un) (hd : dp ≤ 500) (hu : un ≤ 5000) {a b c e : Value} {numbers : List Int} {aliases told : List Str} {al : List (Int × List Int)} (ah : Int → List Int)
    (ha : DatIn B a (dL numbers)) (hb : IsAh prog w al B b) (hc : DatIn B c (.list (aliases.map Dat.str))) (he : DatIn B e (.list (told.map Dat.str))) (hz : numbers.length ≤ 1000) (hz' : told.length ≤ 1000) (hla : aliases.length = numbers.length)
    (hal : ∀ x ∈ numbers, al.lookup x = some (ah x) ∧ (ah x).length ≤ 1000) :
    Tr prog w A h₀ L m X B (call (.ref 38) [a, b, c, e]) (IsD (dLL (toldF numbers ah aliases told))) := by
  obtain ⟨⟨oc, od, doc, pm, an, cdv, ct, osl, ho, hcd⟩, _, _⟩ := H.told
  refine tr_call (binds := [("numbers", a), ("ahead", b), ("aliases", c), ("told", e)]) C ho hcd (Nat.lt_of_le_of_lt hd (by decide)) (fun s => BindsTo.of_eq (by rfl)) (by exact locs (by rfl)) rfl rfl rfl (by decide) ?_
  intro A' g L' n s C' hB S
  have hu' : A'.units + 64 < cLine := fit_room C'.u (by omega)
  have num_in : ∀ j, j < numbers.length → numbers.getD j 0 ∈ numbers := fun i hi => by rw [List.getD_eq_getElem?_getD, List.getElem?_eq_getElem hi]; exact List.getElem_mem hi
  refine wpAny_execs_cons ?_
  -- row = []
  refine wpAny_Assign_Name (hs := by rfl) (List_ (PySem.Calls.spliced_nil ?_))
  refine newList_N S.F S.N (fun h₁ F₁ N₁ => ?_) (Nat.zero_le _)
  have S₁ := S.cons F₁ N₁ S.lt
  refine storeX_L (cl := []) S₁.F S₁.N (fun h₂ F₂ N₂ => ?_) (by rfl) (by rfl)
  have S₂ : St g L' (fun y => if y = "row" then some (.ref s.heap.objs.size) else (fun y => List.lookup y [(Str.ofString "numbers", a), (Str.ofString "ahead", b), (Str.ofString "aliases", c), (Str.ofString "told", e)].reverse) y) ([(s.heap.objs.size, listOf ([] : List Value).toArray 0)] ++ n) h₂ := ⟨F₂, N₂, S₁.nd⟩
  have sh₂ : Sh s { s with heap := h₂, toks := s.toks + 1 } := Sh.mk s _ _
  generalize s.heap.objs.size = ra at S₂
  refine wpAny_execs_cons ?_
  refine st_for (X := []) (B := B) (ds := told.map Dat.str) C'.hh
    (fun i m' mu' tl => ∃ us k, mu' = [(ra, listOf us.toArray k)] ∧ IntsAre us (rowT numbers ah aliases (told.take i)) ∧ m' "row" = some (.ref ra) ∧ m' "numbers" = some a ∧ m' "ahead" = some b ∧ m' "aliases" = some c ∧ m' "told" = some e)
    (Tr.mono (R := IsD (.list (told.map Dat.str))) (nm_local (by rfl) he) fun _ _ r => .inl r) (fun _ h => nomatch h) hB S₂ (fun tl => ⟨[], 0, rfl, .nil, by rfl, by rfl, by rfl, by rfl, by rfl⟩) ?_ ?_
  · rintro I i d v m' mu' tl oI s₁ hd hv ⟨us, k, rfl, hus, hmr, hmn, hma, hml, hmt⟩ sh₃ S₃
    have hi : i < told.length := by
      have := (List.getElem?_eq_some_iff.mp hd).1
      rw [List.length_map] at this
      exact this
    obtain ⟨x, hx, rfl⟩ : ∃ x, told[i]? = some x ∧ d = .str x := by
      rw [List.getElem?_map] at hd
      cases hq : told[i]? with
      | none => rw [hq] at hd; cases hd
      | some x => rw [hq] at hd; exact ⟨x, rfl, (Option.some.inj hd).symm⟩
    have hrow : (rowT numbers ah aliases (told.take i)).length ≤ 1000 := by
      have := rowT_le numbers ah aliases (told.take i)
      rw [List.length_take] at this
      omega
    generalize hR : rowT numbers ah aliases (told.take i) = row at *
    have hlen := hus.length
    refine as_local S₃ fun s₄ sh₄ S₄ => ?_
    have hB₁ : ∀ p ∈ tl ++ B, p ∈ tl ++ n := sub_app hB
    refine wpAny_execs_cons ?_
    refine st_for (X := []) (B := tl ++ B) (n := tl ++ n) (ds := rg 0 numbers.length) C'.hh
      (fun j m'' mu'' tl' => mu'' = [(I, oI), (ra, listOf us.toArray k)] ∧ m'' "row" = some (.ref ra) ∧ m'' "numbers" = some a ∧ m'' "ahead" = some b ∧ m'' "aliases" = some c ∧ m'' "alias" = some v ∧ m'' "told" = some e ∧ ∀ j' < j, hitF numbers ah aliases row x j' = false)
      ?_ (fun _ h => nomatch h) hB₁ S₄ (fun tl => ⟨rfl, up1 hmr (by decide), up1 hmn (by decide), up1 hma (by decide), up1 hml (by decide), by simp, up1 hmt (by decide), fun j' hj' => absurd hj' (Nat.not_lt_zero _)⟩) ?_ ?_
    · refine ev_callT (T := "range") (nm_builtin (cl := []) C'.T C'.X (H.built _ (by simp)) (by rfl) (by decide) rfl) (items1 (mo_isD (.int (numbers.length : Nat))) ?_) (mo1 (mo_isD _)) fun tl vs r => ?_
      · refine ev_callB (id := "len") (nm_builtin (cl := []) C'.T C'.X (H.built _ (by simp)) (by rfl) (by decide) rfl) (items1 (mo_isD (dL numbers)) (nm_local (cl := []) (up1 hmn (by decide)) (ha.mono sub_right))) (mo1 (mo_isD _)) fun tl vs r => ?_
        obtain ⟨v, rfl, r⟩ := r
        refine (cl_len r (by rw [dI_length]; omega)).mono fun _ _ r => ?_
        rw [dI_length] at r
        exact r
      · obtain ⟨v, rfl, r⟩ := r
        exact (cl_range1 r).mono fun _ _ r => .inr ⟨0, _, numbers.length, r, by omega, by omega, by omega, by omega, rfl⟩
    · rintro I₂ j d v₂ m'' mu'' tl₂ oI₂ s₅ hd₂ hv₂ ⟨rfl, hmr, hmn, hma, hml, hmx, hmt, hno⟩ sh₅ S₅
      have hj : j < numbers.length := by
        have := (List.getElem?_eq_some_iff.mp hd₂).1
        rw [rg_len] at this
        exact this
      rw [rg_get hj] at hd₂
      cases hd₂
      rw [Int.zero_add] at hv₂
      refine as_local S₅ fun s₆ sh₆ S₆ => ?_
      have sB : ∀ p ∈ B, p ∈ tl₂ ++ (tl ++ B) := fun p hp => sub_right _ (sub_right _ hp)
      have hB₂ : ∀ p ∈ tl₂ ++ (tl ++ B), p ∈ ((I₂, oI₂) :: [(I, oI), (ra, listOf us.toArray k)]) ++ (tl₂ ++ (tl ++ n)) := fun p hp => sub_right _ (sub_app hB₁ p hp)
      have hBr : ∀ p ∈ (ra, listOf us.toArray k) :: (tl₂ ++ (tl ++ B)), p ∈ ((I₂, oI₂) :: [(I, oI), (ra, listOf us.toArray k)]) ++ (tl₂ ++ (tl ++ n)) := fun p hp => by
        rcases List.mem_cons.mp hp with rfl | hp
        · exact List.mem_append_left _ (List.mem_cons_of_mem _ (List.mem_cons_of_mem _ (List.mem_cons_self ..)))
        · exact hB₂ p hp
      refine wpAny_execs_cons ?_
      refine st_if (X := []) (B := (ra, listOf us.toArray k) :: (tl₂ ++ (tl ++ B))) (b := hitF numbers ah aliases row x j) ?_ (fun _ h => nomatch h) hBr S₆ (fun hhit tl₃ s₇ sh₇ S₇ => ?_) fun hmiss tl₃ s₇ sh₇ S₇ => ?_
      · have cm : ∀ {v : Value} {d : Dat}, DatIn (tl₂ ++ (tl ++ B)) v d → DatIn ((ra, listOf us.toArray k) :: (tl₂ ++ (tl ++ B))) v d := fun h => h.mono fun p hp => List.mem_cons_of_mem _ hp
        refine ts_and2 ?_ fun _ => ts_val ?_
        · refine ts_cmp (R₁ := IsD (.str (aliases.getD j ""))) (R₂ := IsD (.str x)) ?_ (nm_local (cl := []) (up1 hmx (by decide)) (cm (hv.mono sub_right))) (mo_isD _) (mo_isD _) fun tl a b r1 r2 => cp_eq_str r1 r2
          refine ev_item (ds := aliases.map Dat.str) (k := j) (nm_local (cl := []) (up1 hml (by decide)) (cm (hc.mono sB))) (nm_local (cl := []) (by simp) (cm hv₂)) (by omega) ?_ (by omega)
          rw [Int.toNat_natCast, List.getElem?_map]
          exact congrArg (Option.map Dat.str) (getD_of (l := aliases) (by rw [hla]; exact hj))
        · refine ev_callF C'.X H.may.keep (nm_global (cl := []) C'.T C'.X H.may.ns rfl) (items3 (mo_isD (.int (numbers.getD j 0))) (mo_isD (dL row)) (mo_isAh (prog := prog) (w := w) al) ?_ (nm_local (cl := []) (up1 hmr (by decide)) (DatIn.list (List.mem_cons_self ..) (ofInts _ hus))) (nm_local (cl := []) (up1 hma (by decide)) (mo_isAh al _ _ _ (fun p hp => List.mem_cons_of_mem _ (sB p hp)) hb))) (mo3 (mo_isD _) (mo_isD _) (mo_isAh al)) fun tl vs r => ?_
          · exact ev_item (ds := dI numbers) (k := j) (nm_local (cl := []) (up1 hmn (by decide)) (cm (ha.mono sB))) (nm_local (cl := []) (by simp) (cm hv₂)) (by omega) (by rw [dI_get, Int.toNat_natCast, getD_of hj (d := 0)]; rfl) (by omega)
          · obtain ⟨x', y, z, rfl, r1, r2, r3⟩ := r
            exact may_follow_spec H C' (by omega) (by omega) r1 r2 r3 (hal _ (num_in j hj)).1 (hal _ (num_in j hj)).2
      · refine wpAny_execs_cons ?_
        refine st_append (X := []) (B := tl₂ ++ (tl ++ B)) (R := IsD (.int (numbers.getD j 0))) (mu₁ := [(I₂, oI₂), (I, oI)]) (mu₂ := []) (D := ra) (its := us.toArray) (c := k) S₇ (fun _ h => nomatch h) (fun p hp => ?_) (fun n' s' _ S' Q hQ => nameX_L (cl := []) S'.F (up1 hmr (by decide)) hQ) (mo_isD _) ?_ (by rw [List.size_toArray, hlen, sizeLine_eq]; omega) fun tl₄ v₄ s₈ sh₈ r₈ S₈ => ?_
        · exact sub_right _ (sub_right _ (sub_app hB₁ p hp))
        · exact ev_item (ds := dI numbers) (k := j) (nm_local (cl := []) (up1 hmn (by decide)) (ha.mono sB)) (nm_local (cl := []) (by simp) hv₂) (by omega) (by rw [dI_get, Int.toNat_natCast, getD_of hj (d := 0)]; rfl) (by omega)
        · refine wpAny_execs_cons (wpAny_Break (wpAny_execs_nil ?_))
          refine next_done (i := i) (mu' := [(ra, listOf (us ++ [v₄]).toArray (k + 1))]) (tl' := ((I₂, oI₂) :: (tl₄ ++ (tl₃ ++ tl₂))))
            (J := fun i m' mu' tl => ∃ us k, mu' = [(ra, listOf us.toArray k)] ∧ IntsAre us (rowT numbers ah aliases (told.take i)) ∧ m' "row" = some (.ref ra) ∧ m' "numbers" = some a ∧ m' "ahead" = some b ∧ m' "aliases" = some c ∧ m' "told" = some e)
            (S₈.perm (n' := ((I, oI) :: [(ra, listOf (us ++ [v₄]).toArray (k + 1))]) ++ (((I₂, oI₂) :: (tl₄ ++ (tl₃ ++ tl₂))) ++ (tl ++ n))) ?_) ((((sh₃.trans sh₄).trans sh₅).trans sh₆).trans (sh₇.trans sh₈)) rfl
            ⟨us ++ [v₄], k + 1, rfl, ?_, up1 hmr (by decide), up1 hmn (by decide), up1 hma (by decide), up1 hml (by decide), up1 hmt (by decide)⟩
          · simp only [List.push_toArray, List.append_assoc, List.cons_append, List.nil_append]
            exact (List.Perm.cons _ (List.Perm.swap ..)).trans (List.Perm.swap ..)
          · rw [rowT_take numbers ah aliases told hx, hR]
            unfold stepT
            rw [find_first hj hhit hno]
            exact intsSnoc hus r₈
      · refine wpAny_execs_nil (wpAny_execs_nil ?_)
        refine next_done (i := j) (mu' := [(I, oI), (ra, listOf us.toArray k)]) (tl' := tl₃)
          (J := fun j m'' mu'' tl' => mu'' = [(I, oI), (ra, listOf us.toArray k)] ∧ m'' "row" = some (.ref ra) ∧ m'' "numbers" = some a ∧ m'' "ahead" = some b ∧ m'' "aliases" = some c ∧ m'' "alias" = some v ∧ m'' "told" = some e ∧ ∀ j' < j, hitF numbers ah aliases row x j' = false)
          S₇ ((sh₅.trans sh₆).trans sh₇) (by simp only [List.append_assoc, List.cons_append, List.nil_append]) ⟨rfl, up1 hmr (by decide), up1 hmn (by decide), up1 hma (by decide), up1 hml (by decide), up1 hmx (by decide), up1 hmt (by decide), fun j' hj' => ?_⟩
        rcases Nat.lt_succ_iff_lt_or_eq.mp hj' with h | rfl
        · exact hno j' h
        · exact hmiss
    · rintro m'' mu'' tl₂ s₅ ⟨rfl, hmr, hmn, hma, hml, hmx, hmt, hno⟩ sh₅ S₅
      rw [rg_len] at hno
      refine wpAny_execs_nil ?_
      refine next_done (i := i) (mu' := [(ra, listOf us.toArray k)]) (tl' := tl₂)
        (J := fun i m' mu' tl => ∃ us k, mu' = [(ra, listOf us.toArray k)] ∧ IntsAre us (rowT numbers ah aliases (told.take i)) ∧ m' "row" = some (.ref ra) ∧ m' "numbers" = some a ∧ m' "ahead" = some b ∧ m' "aliases" = some c ∧ m' "told" = some e)
        S₅ ((sh₃.trans sh₄).trans sh₅) rfl ⟨us, k, rfl, ?_, hmr, hmn, hma, hml, hmt⟩
      rw [rowT_take numbers ah aliases told hx, hR]
      unfold stepT
      rw [find_none hno]
      exact hus
  · rintro m' mu' tl s₃ ⟨us, k, rfl, hus, hmr, hmn, hma, hml, hmt⟩ sh₃ S₃
    rw [List.length_map, List.take_length] at hus
    have hrow := rowT_le numbers ah aliases told
    have hB₁ : ∀ p ∈ (ra, listOf us.toArray k) :: (tl ++ B), p ∈ [] ++ ((ra, listOf us.toArray k) :: (tl ++ n)) := fun p hp => by
      rcases List.mem_cons.mp hp with rfl | hp
      · exact List.mem_cons_self ..
      · exact List.mem_cons_of_mem _ (sub_app hB p hp)
    have cm : ∀ {v : Value} {d : Dat}, DatIn B v d → DatIn ((ra, listOf us.toArray k) :: (tl ++ B)) v d := fun h => h.mono fun p hp => List.mem_cons_of_mem _ (sub_right _ hp)
    refine wpAny_execs_cons ?_
    have len0 : (dI (rowT numbers ah aliases told)).length < 2 ^ 63 := by rw [dI_length]; omega
    refine st_return (mu := []) (n := (ra, listOf us.toArray k) :: (tl ++ n)) (X := []) (B := (ra, listOf us.toArray k) :: (tl ++ B)) (R := IsD (dLL (toldF numbers ah aliases told))) ?_ (fun _ h => nomatch h) hB₁ S₃ fun tl₅ v₅ s₅ sh₅ S₅ r₅ => ?_
    · refine ev_ifexp (c := decide (((dI (rowT numbers ah aliases told)).length : Int) = ((dI numbers).length : Nat)) && decide (((dI numbers).length : Int) = ((told.map Dat.str).length : Nat))) ?_ (mo_isD _) (fun hc => ?_) fun hc => ?_
      · exact ts_chain (ev_len (nm_builtin (cl := []) C'.T C'.X (H.built _ (by simp)) (by rfl) (by decide) rfl) (nm_local (cl := []) hmr (DatIn.list (List.mem_cons_self ..) (ofInts _ hus))) len0)
          (ev_len (nm_builtin (cl := []) C'.T C'.X (H.built _ (by simp)) (by rfl) (by decide) rfl) (nm_local (cl := []) hmn (cm ha)) (by rw [dI_length]; omega))
          (ev_len (nm_builtin (cl := []) C'.T C'.X (H.built _ (by simp)) (by rfl) (by decide) rfl) (nm_local (cl := []) hmt (cm he)) (by rw [List.length_map]; omega))
      · have e : toldF numbers ah aliases told = [rowT numbers ah aliases told] := by
          unfold toldF
          rw [dI_length, dI_length, List.length_map] at hc
          simp only [Bool.and_eq_true, decide_eq_true_eq] at hc ⊢
          rw [if_pos ⟨by omega, by omega⟩]
        rw [e]
        exact ev_list (items1 (mo_isD (dL (rowT numbers ah aliases told))) (nm_local (cl := []) hmr (DatIn.list (List.mem_cons_self ..) (ofInts _ hus)))) (fun n vs r => by obtain ⟨v, rfl, r⟩ := r; exact .cons r .nil) (by rw [sizeLine_eq]; simp)
      · have e : toldF numbers ah aliases told = [] := by
          unfold toldF
          rw [dI_length, dI_length, List.length_map] at hc
          rw [if_neg]
          intro hq
          simp only [Bool.and_eq_true, decide_eq_true_eq, Bool.and_eq_false_iff, decide_eq_false_iff_not] at hc hq
          omega
        rw [e]
        exact ev_list tr_items_nil (fun n vs e => by rw [e]; exact .nil) (Nat.zero_le _)
    · refine ret_done (tl := tl₅ ++ ((ra, listOf us.toArray k) :: tl)) S₅ ((sh₂.trans sh₃).trans sh₅) (by simp only [List.append_assoc, List.cons_append, List.nil_append]) ?_
      simp only [List.append_assoc, List.cons_append]
      exact r₅
end
end Mine

namespace Mine

section
variable {prog : Program} {w : World} {A : Around} {h₀ : Heap} {L : Addr} {m : Loc} {X B : Led} {env : Env}

theorem lookup_relabel_cell {env : Env} : ∀ {names : List (Str × NameKind)} {x : Str}, names.lookup x = some .cell →
    (names.map fun (n, k) => if (k == NameKind.free && env.scope.kind == .function && env.kindOf n == some .cell) then (n, NameKind.cell) else (n, k)).lookup x = some .cell
  | [], _, h => by simp at h
  | (n, k) :: r, x, h => by
    have ih := @lookup_relabel_cell env r x
    show List.lookup x ((if (k == NameKind.free && env.scope.kind == .function && env.kindOf n == some .cell) = true then (n, NameKind.cell) else (n, k)) :: _) = _
    cases hx : x == n with
    | true =>
      simp only [List.lookup_cons, hx] at h
      cases h
      simp [List.lookup_cons, hx]
    | false =>
      simp only [List.lookup_cons, hx] at h
      by_cases hc : (k == NameKind.free && env.scope.kind == .function && env.kindOf n == some .cell) = true
      · rw [if_pos hc]; simp only [List.lookup_cons, hx]; exact ih h
      · rw [if_neg hc]; simp only [List.lookup_cons, hx]; exact ih h

/-- own names: the dict, and one cell -/
def OwnC (clo : List (Str × Addr)) (x : Str) (C : Addr) (cl : List (Str × Addr)) (own : Led) : Prop := ∃ c oC m₂ oc u, cl = (x, c) :: clo ∧ own = [(C, oC), (c, oc)] ∧ LCg.NsObj oC m₂ ∧ oc.data = .cell u
def OwnCV (clo : List (Str × Addr)) (x : Str) (C : Addr) (cl : List (Str × Addr)) (own : Led) (v : Value) : Prop := ∃ c oC m₂ oc, cl = (x, c) :: clo ∧ own = [(C, oC), (c, oc)] ∧ LCg.NsObj oC m₂ ∧ oc.data = .cell (some v)

theorem tgtC {scope : Scope} {clo : List (Str × Addr)} {x : Str} {px : Pos} (hkind : scope.kind = .function) (hx : scope.names.lookup x = some .cell) : Tgt prog w A h₀ L m env scope x px (OwnC clo x) (OwnCV clo x) where
  asg := by
    rintro C cl own n s v ⟨c, oC, m₂, oc, u, rfl, rfl, hC, hu⟩ S
    have e := (S.N (c, oc) (by simp)).1
    refine wpAny_assign_Name (wpAny_storeName_cell (by simp [compEnvC, relabel, hkind]) (lookup_relabel_cell hx) (by simp [compEnvC]) ⟨oc, e, hu⟩ fun h' hv hs => ?_)
    obtain ⟨o', ho', hd'⟩ := hv
    exact ⟨[(C, oC), (c, o')], ⟨c, oC, m₂, o', rfl, rfl, hC, hd'⟩, Sh.mk s h' s.toks, St.set (pre := [(C, oC)]) S hs ho'⟩
  of := by rintro C cl own v ⟨c, oC, m₂, oc, rfl, rfl, h, hd⟩; exact ⟨c, oC, m₂, oc, _, rfl, rfl, h, hd⟩
  ns := by rintro C cl own ⟨c, oC, m₂, oc, u, rfl, rfl, h, hd⟩; exact ⟨oC, m₂, _, rfl, h⟩

theorem mkC {scope : Scope} {clo : List (Str × Addr)} {x : Str} (hcf : ∀ n acc, cellsFrom n scope.names acc = (x, n) :: acc) (hpc : ∀ h, pushCells h scope.names = h.push { cls := .type "cell", data := .cell none }) :
    Mk prog w A h₀ L m env scope clo (OwnC clo x) := by
  intro n s S
  simp only [newFunctionEnv, Option.isSome_some, if_true]
  refine wpAny_bind (wpAny_alloc ?_)
  have S₁ : St h₀ L m ((s.heap.objs.size, { cls := .type "dict", data := .dict #[] }) :: n) (s.heap.push { cls := .type "dict", data := .dict #[] }) := S.cons (S.F.push _) (S.N.push S.F _ rfl) S.lt
  have S₂ := S₁.cons (S₁.F.push { cls := .type "cell", data := .cell none }) (S₁.N.push S₁.F { cls := .type "cell", data := .cell none } rfl) S₁.lt
  refine wpAny_bind (wpAny_layCells _ (fun name kind cells => by cases hkc : kind == NameKind.cell <;> simp [hkc]) _ _ _ _ ?_)
  rw [hcf, hpc]
  rw [List.forIn_nil]
  refine wpAny_bind (wpAny_pure (wpAny_pure ?_))
  refine ⟨[(s.heap.objs.size, { cls := .type "dict", data := .dict #[] }), ((s.heap.push { cls := .type "dict", data := .dict #[] }).objs.size, { cls := .type "cell", data := .cell none })], _, rfl, ⟨_, _, fun _ => none, _, _, rfl, rfl, ⟨#[], _, rfl, by intro e he; simp at he, fun _ => rfl⟩, rfl⟩, ⟨_, s.toks, rfl⟩, ?_⟩
  exact S₂.perm (List.Perm.swap ..)
end
end Mine

namespace Mine

theorem filter_ff {α : Type} (l : List α) : l.filter (fun _ => false) = [] := List.filter_eq_nil_iff.mpr fun _ _ h => nomatch h

def codeF (numbers order : List Int) : Int := ((List.range order.length).map fun i => (numbers.idxOf (order.getD i 0) : Int) * (4 : Int) ^ (3 - (i : Int)).toNat).sum
def fC (numbers : List Int) (d : Dat) : Dat := match d with
  | .list r => .int (codeF numbers (r.map unI))
  | _ => .none
theorem fC_eq (numbers r : List Int) : fC numbers (dL r) = .int (codeF numbers r) := by
  show Dat.int (codeF numbers ((dI r).map unI)) = _
  rw [unI_dI]
def aliasOf (x : Int) : Str := Str.ofString "t" ++ Str.ofString (toString x)
def wholeF (numbers : List Int) (kinds : List Str) (row : List Int) : Bool := decide (row.length = numbers.length) && letF numbers kinds row

section
variable {prog : Program} {w : World} {A : Around} {h₀ : Heap} {L : Addr} {m : Loc} {X B : Led} {env : Env} {K : Frag} {dp un : Nat}

theorem ev_range2 {f o o' : Expr} {pos : Pos} {a : Int} {c : Nat} (hf : Tr prog w A h₀ L m X B (eval f env) (fun _ v => v = .type "range")) (h : Tr prog w A h₀ L m X B (eval o env) (IsD (.int a))) (h' : Tr prog w A h₀ L m X B (eval o' env) (IsD (.int (a + (c : Nat))))) (h0 : 0 ≤ a) (h1 : a ≤ 1000000) (hz : c ≤ 1000000)
    (hc : eval (.Call f [o, o'] [] pos) env = (do callWith pos (← eval f env) [] (backTo pos (starEach [o, o'] env)) (backToKw pos (keywordEach [] env))) := by rfl)
    (he : starEach [o, o'] env = (false, eval o env) :: starEach [o'] env := by rfl) (he' : starEach [o'] env = (false, eval o' env) :: starEach [] env := by rfl) (hpl : (backTo pos (starEach [o'] env)).any (·.1) = false := by rfl) :
    Tr prog w A h₀ L m X B (eval (.Call f [o, o'] [] pos) env) (IsSrc (rg a c)) := by
  refine ev_callT (T := "range") (hc := hc) (he := he) (hplain := hpl) hf (items2 (mo_isD (.int a)) (mo_isD (.int (a + (c : Nat)))) h h' he he') (mo2 (mo_isD _) (mo_isD _)) fun tl vs r => ?_
  obtain ⟨v, u, rfl, r, r'⟩ := r
  exact (cl_range2 r r').mono fun _ _ r => .inr ⟨a, _, c, r, h0, h1, rfl, hz, rfl⟩
theorem ev_sorted {f o : Expr} {pos : Pos} {l : List Int} (hf : Tr prog w A h₀ L m X B (eval f env) (fun _ v => v = .builtin "sorted")) (h : Tr prog w A h₀ L m X B (eval o env) (IsD (dL l))) (hz : l.length < 64)
    (hc : eval (.Call f [o] [] pos) env = (do callWith pos (← eval f env) [] (backTo pos (starEach [o] env)) (backToKw pos (keywordEach [] env))) := by rfl)
    (he : starEach [o] env = (false, eval o env) :: starEach [] env := by rfl) :
    Tr prog w A h₀ L m X B (eval (.Call f [o] [] pos) env) (fun n v => ∃ l' : List Int, l'.Perm l ∧ l'.Pairwise (· ≤ ·) ∧ DatIn n v (dL l')) := by
  refine ev_callB (id := "sorted") (hc := hc) (he := he) (hplain := rfl) hf (items1 (mo_isD (dL l)) h he) (mo1 (mo_isD _)) fun tl vs r => ?_
  obtain ⟨v, rfl, r⟩ := r
  exact cl_sorted r hz
theorem sorted_uniq {a b : List Int} (h : a.Perm b) (ha : a.Pairwise (· ≤ ·)) (hb : b.Pairwise (· ≤ ·)) : a = b :=
  h.eq_of_pairwise (fun x y _ _ h1 h2 => Int.le_antisymm h1 h2) ha hb
theorem ev_alias {f o : Expr} {pos pos' pos'' : Pos} {k : Nat} {x : Int} (hf : Tr prog w A h₀ L m X B (eval f env) (fun _ v => v = .type "str")) (h : Tr prog w A h₀ L m X B (eval o env) (IsD (.int x))) (hz : x.natAbs < 1000000)
    (hc : eval (.Call f [o] [] pos) env = (do callWith pos (← eval f env) [] (backTo pos (starEach [o] env)) (backToKw pos (keywordEach [] env))) := by rfl)
    (he : starEach [o] env = (false, eval o env) :: starEach [] env := by rfl) :
    Tr prog w A h₀ L m X B (eval (.BinOp (.Constant (.str (Str.ofString "t")) k pos') .Add (.Call f [o] [] pos) pos'') env) (IsD (.str (aliasOf x))) := by
  refine ev_bin (R₁ := IsD (.str (Str.ofString "t"))) (R₂ := IsD (.str (Str.ofString (toString x)))) ev_str ?_ (mo_isD _) (mo_isD _) fun tl a b r1 r2 => op_add_str r1 r2 ?_
  · refine ev_callT (T := "str") (hc := hc) (he := he) (hplain := rfl) hf (items1 (mo_isD (.int x)) h he) (mo1 (mo_isD _)) fun tl vs r => ?_
    obtain ⟨v, rfl, r⟩ := r
    exact cl_str_int r hz
  · have h1 := len_str_of_int x
    have h2 : (Str.ofString "t").length = 1 := by decide +kernel
    rw [sizeLine_eq]
    omega

theorem mo4 {R₁ R₂ R₃ R₄ : Led → Value → Prop} (m1 : Mo R₁) (m2 : Mo R₂) (m3 : Mo R₃) (m4 : Mo R₄) : Mo (fun n vs => ∃ a b c d, vs = [a, b, c, d] ∧ R₁ n a ∧ R₂ n b ∧ R₃ n c ∧ R₄ n d) :=
  fun _ _ _ h ⟨a, b, c, d, e, x, y, z, t⟩ => ⟨a, b, c, d, e, m1 _ _ _ h x, m2 _ _ _ h y, m3 _ _ _ h z, m4 _ _ _ h t⟩
theorem up21 {m : Loc} {x x' x'' : Str} {v v' v'' : Value} (h : x'' ≠ x) (h' : x'' ≠ x') : (fun z => if z = x then some v else if z = x' then some v' else if z = x'' then some v'' else m z) x'' = some v'' := (if_neg h).trans ((if_neg h').trans (if_pos rfl))
/-- one order's code -/
theorem code_elt {order numbers : List Int} {e : Expr}
    (h : Tr prog w A h₀ L m X B (eval e env) (IsD (.list ((rg 0 order.length).map fun d => .int ((numbers.idxOf (order.getD (unI d).toNat 0) : Int) * (4 : Int) ^ (3 - unI d).toNat))))) :
    Tr prog w A h₀ L m X B (eval e env) (IsD (dL ((List.range order.length).map fun i => (numbers.idxOf (order.getD i 0) : Int) * (4 : Int) ^ (3 - (i : Int)).toNat))) := by
  refine h.mono fun _ _ r => ?_
  unfold dL dI
  rw [List.map_map]
  rw [rg, List.map_map] at r
  have e : (fun d => Dat.int ((numbers.idxOf (order.getD (unI d).toNat 0) : Int) * (4 : Int) ^ (3 - unI d).toNat)) ∘ (fun (i : Nat) => Dat.int (0 + (i : Int))) = (Dat.int ∘ fun (i : Nat) => (numbers.idxOf (order.getD i 0) : Int) * (4 : Int) ^ (3 - (i : Int)).toNat) := by
    funext i
    simp [unI]
  rw [e] at r
  exact r

theorem all_right_spec (H : KH K) (C : Cx prog w K A env h₀ L dp un) (hd : dp ≤ 400) (hu : un ≤ 4000) {a b c e : Value} {numbers : List Int} {kinds : List Str} {rows : List (List Int)} {al : List (Int × List Int)} (ah : Int → List Int)
    (ha : DatIn B a (dL numbers)) (hb : DatIn B b (.list (kinds.map Dat.str))) (hc : IsAh prog w al B c) (he : DatIn B e (dLL rows)) (hk : kinds.length = numbers.length) (hz : numbers.length ≤ 4) (hrl : rows.length ≤ 1000)
    (hal : ∀ x ∈ numbers, al.lookup x = some (ah x) ∧ (ah x).length ≤ 1000) (hnum : ∀ x ∈ numbers, x.natAbs < 1000000)
    (ho1 : 1 ≤ (ordF numbers ah numbers.length).length)
    (ho2 : ∀ i, i + 1 < (ordF numbers ah numbers.length).length → codeF numbers ((ordF numbers ah numbers.length).getD i []) < codeF numbers ((ordF numbers ah numbers.length).getD (i + 1) []))
    (ho3 : ∀ o ∈ ordF numbers ah numbers.length, o.Perm numbers ∧ letF numbers kinds o = true)
    (hrows : ∀ row ∈ rows, (∀ x ∈ row, x ∈ numbers) ∧ row.length ≤ 900 ∧ (row ∈ ordF numbers ah numbers.length ↔ wholeF numbers kinds row = true) ∧ toldF numbers ah (numbers.map aliasOf) (row.map aliasOf) = if wholeF numbers kinds row = true then [row] else []) :
    Tr prog w A h₀ L m X B (call (.ref 81) [a, b, c, e]) (VB true) := by
  obtain ⟨⟨oc, od, doc, pm, an, cdv, ct, osl, ho, hcd⟩, _, _⟩ := H.allRight
  refine tr_callC (binds := [("numbers", a), ("kinds", b), ("ahead", c), ("rows", e)]) C ho hcd (Nat.lt_of_le_of_lt hd (by decide)) (fun s => BindsTo.of_eq (by rfl)) (by rfl) (by decide +kernel) rfl rfl rfl ?_
  intro A' g L' n s cells C' hB Y F N nd lt
  obtain ⟨o₃, o₂, o₁, rfl, d3, d2, d1⟩ := CellsAre.three Y
  have S : St g L' (bindL (envOfC "_law_all_right" (fnScope (stAt 12)) L' 81 cdv).kindOf [("numbers", a), ("kinds", b), ("ahead", c), ("rows", e)] fun _ => none) ([(L' + 1 + 1 + 1, o₃), (L' + 1 + 1, o₂), (L' + 1, o₁)] ++ n) s.heap :=
    ⟨F, N, nodup_cons_lt (nodup_cons_lt (nodup_cons_lt nd fun p hp => by
      obtain ⟨q, hq, rfl⟩ := List.mem_map.mp hp
      exact Nat.lt_succ_of_lt (lt q hq)) fun p hp => by
      rcases List.mem_cons.mp hp with rfl | hp
      · exact Nat.lt_succ_self _
      · obtain ⟨q, hq, rfl⟩ := List.mem_map.mp hp
        exact Nat.lt_succ_of_lt (Nat.lt_succ_of_lt (lt q hq))) fun p hp => by
      rcases List.mem_cons.mp hp with rfl | hp
      · exact Nat.lt_succ_self _
      · rcases List.mem_cons.mp hp with rfl | hp
        · exact Nat.lt_succ_of_lt (Nat.lt_succ_self _)
        · obtain ⟨q, hq, rfl⟩ := List.mem_map.mp hp
          exact Nat.lt_succ_of_lt (Nat.lt_succ_of_lt (Nat.lt_succ_of_lt (lt q hq)))⟩
  have hu' : A'.units + 64 < cLine := fit_room C'.u (by omega)
  have hosz : (ordF numbers ah numbers.length).length ≤ 256 := Nat.le_trans (ordF_size _ _ _) (Nat.le_trans (Nat.pow_le_pow_left hz _) (Nat.pow_le_pow_right (by decide) hz))
  have holen := ordF_len numbers ah numbers.length
  generalize hO : ordF numbers ah numbers.length = orders at *
  -- orders
  refine wpAny_execs_cons ?_
  refine st_assign (X := [(L' + 1 + 1 + 1, o₃), (L' + 1 + 1, o₂), (L' + 1, o₁)]) (B := B) (R := IsD (dLL orders)) ?_ sub_left (sub_rr hB) S fun tl₁ v₁ s₁ sh₁ S₁ r₁ => ?_
  · refine ev_callF C'.X H.orders.keep (nm_global C'.T C'.X H.orders.ns rfl) (items2 (mo_isD (dL numbers)) (mo_isAh (prog := prog) (w := w) al) (nm_cell (by rfl) (by simp) d1 ha) (nm_local (by rfl) hc)) (mo2 (mo_isD _) (mo_isAh al)) fun tl vs r => ?_
    obtain ⟨x, y, rfl, r1, r2⟩ := r
    have := all_orders_spec (X := [(L' + 1 + 1 + 1, o₃), (L' + 1 + 1, o₂), (L' + 1, o₁)]) H C' (m := bindL (envOfC "_law_all_right" (fnScope (stAt 12)) L' 81 cdv).kindOf [("numbers", a), ("kinds", b), ("ahead", c), ("rows", e)] fun _ => none) (by omega) (by omega) ah r1 r2 hz hal
    rw [hO] at this
    exact this
  -- codes
  have hB₁ : ∀ p ∈ tl₁ ++ B, p ∈ ([] ++ (L' + 1 + 1 + 1, o₃) :: [(L' + 1 + 1, o₂), (L' + 1, o₁)]) ++ (tl₁ ++ n) := fun p hp => sub_right _ (sub_app hB p hp)
  have sB₁ : ∀ p ∈ B, p ∈ tl₁ ++ B := sub_right
  refine wpAny_execs_cons ?_
  refine st_assign_cell (mu₁ := []) (mu₂ := [(L' + 1 + 1, o₂), (L' + 1, o₁)]) (c := L' + 1 + 1 + 1) (o := o₃) (X := [(L' + 1 + 1 + 1, o₃), (L' + 1 + 1, o₂), (L' + 1, o₁)]) (B := tl₁ ++ B) (R := IsD (dL (orders.map (codeF numbers)))) ?_ (fun p hp => List.mem_append_left _ hp) hB₁ S₁ (by rfl) d3 fun tl₂ v₂ o₄ s₂ sh₂ d4 S₂ r₂ => ?_
  · refine (ev_comp (ds := orders.map dL) (fun _ => true) (fC numbers) C'.hh (tgtC (by rfl) (by rfl)) (mkC (fun _ _ => by rfl) (fun _ => by rfl)) (by rfl) (by rfl) (by decide)
      (by rw [List.length_map, sizeLine_eq]; omega) (Tr.mono (R := IsD (dLL orders)) (nm_local (by simp) r₁) fun _ _ r => .inl r) (fun _ _ _ _ _ _ _ _ _ => tests_nil) ?_).mono fun tl v r => ?_
    · rintro Cc cl' d hd _ v own tl ⟨c₅, oC, m₂, o₅, rfl, rfl, hC, hv⟩ hdv
      obtain ⟨order, hord, rfl⟩ := List.mem_map.mp hd
      have hp := (ho3 order hord).1
      have hol := holen order hord
      rw [fC_eq]
      refine ev_callB (id := "sum") (nc_builtin C'.T C'.X (H.built _ (by simp)) (by rfl) (by decide) rfl) (items1 (mo_isD (dL ((List.range order.length).map fun i => (numbers.idxOf (order.getD i 0) : Int) * (4 : Int) ^ (3 - (i : Int)).toNat))) ?_) (mo1 (mo_isD _)) fun tl vs r => ?_
      · refine code_elt ((ev_comp (ds := rg 0 order.length) (fun _ => true) (fun d => .int ((numbers.idxOf (order.getD (unI d).toNat 0) : Int) * (4 : Int) ^ (3 - unI d).toNat)) C'.hh (tgtL (by rfl) (by rfl)) (mkL (by rfl) (by decide)) (by rfl) (by rfl) (by decide)
          (by rw [rg_len, sizeLine_eq]; omega) ?_ (fun _ _ _ _ _ _ _ _ _ => tests_nil) ?_).mono fun tl v r => by rw [filter_tt] at r; exact r)
        · have e : rg 0 order.length = rg 0 (dI order).length := by rw [dI_length]
          rw [e]
          exact ev_range1 (nc_builtin C'.T C'.X (H.built "range" (by simp)) (by rfl) (by decide) rfl) (ev_len (nc_builtin C'.T C'.X (H.built "len" (by simp)) (by rfl) (by decide) rfl) (nc_cell (by rfl) (by simp) hv hdv) (by rw [dI_length]; omega)) (by rw [dI_length]; omega)
        · rintro C₂ cl₂ d hd _ v₂ own tl' ⟨rfl, oC₂, m₃, rfl, hC₂, hv₂⟩ hdv₂
          obtain ⟨i, hi, rfl⟩ := List.mem_map.mp hd
          have hi := List.mem_range.mp hi
          simp only [unI, Int.zero_add, Int.toNat_natCast] at hdv₂ ⊢
          have hin : order.getD i 0 ∈ numbers := hp.mem_iff.mp (by rw [List.getD_eq_getElem?_getD, List.getElem?_eq_getElem hi]; exact List.getElem_mem hi)
          have hix : numbers.idxOf (order.getD i 0) < numbers.length := List.idxOf_lt_length_iff.mpr hin
          refine ev_bin (R₁ := IsD (.int (numbers.idxOf (order.getD i 0) : Nat))) (R₂ := IsD (.int ((4 : Int) ^ (3 - (i : Int)).toNat))) ?_ ?_ (mo_isD _) (mo_isD _) fun tl a b r1 r2 => op_mul_int r1 r2 (IntMulOk.of_left (intBits_le_64 (by omega) (by omega)))
          · refine ev_index (l := numbers) (k := order.getD i 0) (nc_cell (by rfl) (by simp) d1 (ha.mono fun p hp => sub_right _ (sub_right _ (sub_right _ hp)))) ?_ hin (by omega)
            exact ev_item (ds := dI order) (k := i) (nc_cell (by rfl) (by simp) hv (hdv.mono sub_right)) (nc_own (List.mem_cons_self ..) hC₂ hv₂ hdv₂) (by omega) (by rw [dI_get, Int.toNat_natCast, getD_of hi (d := 0)]; rfl) (by omega)
          · refine ev_bin (R₁ := IsD (.int 4)) (R₂ := IsD (.int (3 - (i : Int)))) ev_int ?_ (mo_isD _) (mo_isD _) fun tl a b r1 r2 => op_pow_int r1 r2 (by omega) (by omega) (by decide)
            exact ev_bin (R₁ := IsD (.int 3)) (R₂ := IsD (.int i)) ev_int (nc_own (List.mem_cons_self ..) hC₂ hv₂ hdv₂) (mo_isD _) (mo_isD _) fun tl a b r1 r2 => op_sub_int r1 r2
      · obtain ⟨v, rfl, r⟩ := r
        exact cl_sum C'.hh r
    · rw [filter_tt, List.map_map] at r
      have e : (fC numbers) ∘ dL = Dat.int ∘ codeF numbers := by funext r; exact fC_eq numbers r
      rw [e, ← List.map_map] at r
      exact r
  -- the codes rise
  have hB₂ : ∀ p ∈ tl₂ ++ (tl₁ ++ B), p ∈ tl₂ ++ (tl₁ ++ n) := sub_app (sub_app hB)
  have sB₂ : ∀ p ∈ B, p ∈ tl₂ ++ (tl₁ ++ B) := fun p hp => sub_right _ (sub_right _ hp)
  have ho : DatIn (tl₂ ++ (tl₁ ++ B)) v₁ (dLL orders) := r₁.mono sub_right
  have sh₂' := sh₁.trans sh₂
  generalize tl₂ ++ (tl₁ ++ B) = B₂ at *
  generalize hn₂ : tl₂ ++ (tl₁ ++ n) = n₂ at *
  have S₂ : St g L' (fun y => if y = Str.ofString "orders" then some v₁ else bindL (envOfC "_law_all_right" (fnScope (stAt 12)) L' 81 cdv).kindOf [("numbers", a), ("kinds", b), ("ahead", c), ("rows", e)] (fun _ => none) y) ([(L' + 1 + 1 + 1, o₄), (L' + 1 + 1, o₂), (L' + 1, o₁)] ++ n₂) s₂.heap := S₂
  refine wpAny_execs_cons ?_
  refine st_if (X := [(L' + 1 + 1 + 1, o₄), (L' + 1 + 1, o₂), (L' + 1, o₁)]) (B := B₂) (b := false) ?_ sub_left (sub_rr hB₂) S₂ (fun h => nomatch h) fun _ tl₃ s₃ sh₃ S₃ => wpAny_execs_nil ?_
  · refine ts_cmp (R₁ := IsD (.list [])) (R₂ := IsD (.list [])) ?_ (ev_list tr_items_nil (fun n vs e => by rw [e]; exact .nil) (Nat.zero_le _)) (mo_isD _) (mo_isD _) fun tl x y r1 r2 => cp_ne_list r1 r2 (by simp) (by simp) hu' (by simp)
    refine (ev_comp (ds := rg 1 (orders.length - 1)) (fun _ => false) id C'.hh (tgtL (by rfl) (by rfl)) (mkL (by rfl) (by decide)) (by rfl) (by rfl) (by decide)
      (by rw [rg_len, sizeLine_eq]; omega) ?_ ?_ (fun _ _ _ _ h => nomatch h)).mono fun tl v r => by rw [filter_ff] at r; exact r
    · refine ev_range2 (c := orders.length - 1) (nm_builtin C'.T C'.X (H.built _ (by simp)) (by rfl) (by decide) rfl) ev_int ?_ (by decide) (by decide) (by omega)
      have e : (1 : Int) + ((orders.length - 1 : Nat) : Int) = ((dI (orders.map (codeF numbers))).length : Nat) := by rw [dI_length, List.length_map]; omega
      rw [e]
      exact ev_len (nm_builtin C'.T C'.X (H.built _ (by simp)) (by rfl) (by decide) rfl) (nm_cell (by rfl) (by simp) d4 r₂) (by rw [dI_length, List.length_map]; omega)
    · rintro Cc cl' d hd v own tl ⟨rfl, oC, m₂, rfl, hC, hv⟩ hdv
      obtain ⟨i, hi, rfl⟩ := List.mem_map.mp hd
      have hi := List.mem_range.mp hi
      have hcode : ∀ j, j < orders.length → (dI (orders.map (codeF numbers)))[j]? = some (.int (codeF numbers (orders.getD j []))) := fun j hj => by
        rw [dI_get, List.getElem?_map, getD_of hj (d := [])]; rfl
      refine tests_one (ts_cmp (R₁ := IsD (.int (codeF numbers (orders.getD i [])))) (R₂ := IsD (.int (codeF numbers (orders.getD (i + 1) [])))) ?_ ?_ (mo_isD _) (mo_isD _) fun tl x y r1 r2 => (cp_ge_int r1 r2).mono fun _ _ r => ?_)
      · refine ev_item (ds := dI (orders.map (codeF numbers))) (k := i) (nc_cell (by rfl) (by simp) d4 (r₂.mono sub_right)) ?_ (by omega) (by rw [Int.toNat_natCast]; exact hcode i (by omega)) (by omega)
        refine ev_bin (R₁ := IsD (.int (1 + (i : Int)))) (R₂ := IsD (.int 1)) (nc_own (List.mem_cons_self ..) hC hv hdv) ev_int (mo_isD _) (mo_isD _) fun tl a b r1 r2 => (op_sub_int r1 r2).mono fun _ _ r => ?_
        rw [show (1 : Int) + (i : Int) - 1 = (i : Int) by omega] at r
        exact r
      · exact ev_item (ds := dI (orders.map (codeF numbers))) (k := 1 + (i : Int)) (nc_cell (by rfl) (by simp) d4 (r₂.mono sub_right)) (nc_own (List.mem_cons_self ..) hC hv hdv) (by omega) (by rw [show (1 + (i : Int)).toNat = i + 1 by omega]; exact hcode (i + 1) (by omega)) (by omega)
      · rw [r]
        have := ho2 i (by omega)
        have e : decide (codeF numbers (orders.getD (i + 1) []) ≤ codeF numbers (orders.getD i [])) = false := decide_eq_false (by omega)
        rw [e]
  -- each order is whole and let
  refine wpAny_execs_cons ?_
  refine st_if (X := [(L' + 1 + 1 + 1, o₄), (L' + 1 + 1, o₂), (L' + 1, o₁)]) (B := B₂) (b := false) ?_ sub_left (sub_rr (sub_rr hB₂)) S₃ (fun h => nomatch h) fun _ tl₄ s₄ sh₄ S₄ => wpAny_execs_nil ?_
  · refine ts_cmp (R₁ := IsD (.list [])) (R₂ := IsD (.list [])) ?_ (ev_list tr_items_nil (fun n vs e => by rw [e]; exact .nil) (Nat.zero_le _)) (mo_isD _) (mo_isD _) fun tl x y r1 r2 => cp_ne_list r1 r2 (by simp) (by simp) hu' (by simp)
    refine (ev_comp (ds := orders.map dL) (fun _ => false) id C'.hh (tgtL (by rfl) (by rfl)) (mkL (by rfl) (by decide)) (by rfl) (by rfl) (by decide)
      (by rw [List.length_map, sizeLine_eq]; omega) (Tr.mono (R := IsD (dLL orders)) (nm_local (by rfl) ho) fun _ _ r => .inl r) ?_ (fun _ _ _ _ h => nomatch h)).mono fun tl v r => by rw [filter_ff] at r; exact r
    rintro Cc cl' d hd v own tl ⟨rfl, oC, m₂, rfl, hC, hv⟩ hdv
    obtain ⟨order, hord, rfl⟩ := List.mem_map.mp hd
    obtain ⟨hp, hlet⟩ := ho3 order hord
    have hol := holen order hord
    have sB : ∀ p ∈ B, p ∈ tl ++ B₂ := fun p hp => sub_right _ (sB₂ p hp)
    refine tests_one (ts_or2 (b := false) (c := false) ?_ fun _ => ?_)
    · refine ts_cmp (ev_sorted (l := order) (nc_builtin C'.T C'.X (H.built _ (by simp)) (by rfl) (by decide) rfl) (nc_own (List.mem_cons_self ..) hC hv hdv) (by omega)) (ev_sorted (l := numbers) (nc_builtin C'.T C'.X (H.built _ (by simp)) (by rfl) (by decide) rfl) (nc_cell (by rfl) (by simp) d1 (ha.mono sB)) (by omega)) mo_sorted mo_sorted fun tl x y r1 r2 => ?_
      obtain ⟨l₁, p1, q1, r1⟩ := r1
      obtain ⟨l₂, p2, q2, r2⟩ := r2
      have e : l₁ = l₂ := sorted_uniq (p1.trans (hp.trans p2.symm)) q1 q2
      exact cp_ne_list r1 r2 (dI_ok _) (dI_ok _) hu' (by rw [e]; simp)
    · refine ts_not (b := true) (ts_val ?_)
      refine ev_callF C'.X H.isLet.keep (nc_global C'.T C'.X H.isLet.ns rfl) (items3 (mo_isD (dL numbers)) (mo_isD (.list (kinds.map Dat.str))) (mo_isD (dL order)) (nc_cell (by rfl) (by simp) d1 (ha.mono sB)) (nc_cell (by rfl) (by simp) d2 (hb.mono sB)) (nc_own (List.mem_cons_self ..) hC hv hdv)) (mo3 (mo_isD _) (mo_isD _) (mo_isD _)) fun tl vs r => ?_
      obtain ⟨x, y, z, rfl, r1, r2, r3⟩ := r
      have := is_let_spec (X := [(Cc, oC)] ++ [(L' + 1 + 1 + 1, o₄), (L' + 1 + 1, o₂), (L' + 1, o₁)]) (m := fun y => if y = Str.ofString "orders" then some v₁ else bindL (envOfC "_law_all_right" (fnScope (stAt 12)) L' 81 cdv).kindOf [("numbers", a), ("kinds", b), ("ahead", c), ("rows", e)] (fun _ => none) y) H C' (by omega) (by omega) r1 r2 r3 hk (by omega) (by omega) fun x hx => hp.mem_iff.mp hx
      rw [hlet] at this
      exact this
  -- aliases
  refine wpAny_execs_cons ?_
  refine st_assign_comp (X := [(L' + 1 + 1 + 1, o₄), (L' + 1 + 1, o₂), (L' + 1, o₁)]) (B := B₂) (ds := dI numbers) (fun _ => true) (fun d => .str (aliasOf (unI d))) C'.hh (tgtL (by rfl) (by rfl)) (mkL (by rfl) (by decide)) (by rfl) (by rfl) (by decide)
    (by rw [dI_length, sizeLine_eq]; omega) (Tr.mono (R := IsD (dL numbers)) (nm_cell (by rfl) (by simp) d1 (ha.mono sB₂)) fun _ _ r => .inl r) (fun _ _ _ _ _ _ _ _ _ => tests_nil) ?_ sub_left (sub_rr (sub_rr (sub_rr hB₂))) S₄ fun tl₅ v₅ s₅ sh₅ S₅ r₅ => ?_
  · rintro Cc cl' d hd _ v own tl ⟨rfl, oC, m₂, rfl, hC, hv⟩ hdv
    obtain ⟨x, hx, rfl⟩ := List.mem_map.mp hd
    exact ev_alias (nc_builtin C'.T C'.X (H.built _ (by simp)) (by rfl) (by decide) rfl) (nc_own (List.mem_cons_self ..) hC hv hdv) (hnum x hx)
  -- the rows
  have hal₅ : DatIn (tl₅ ++ B₂) v₅ (.list ((numbers.map aliasOf).map Dat.str)) := by
    rw [filter_tt, dI, List.map_map] at r₅
    rw [List.map_map]
    exact r₅
  have hB₅ : ∀ p ∈ tl₅ ++ B₂, p ∈ tl₅ ++ (tl₄ ++ (tl₃ ++ n₂)) := sub_app (sub_rr (sub_rr hB₂))
  have sB₅ : ∀ p ∈ B, p ∈ tl₅ ++ B₂ := fun p hp => sub_right _ (sB₂ p hp)
  have ho₅ : DatIn (tl₅ ++ B₂) v₁ (dLL orders) := ho.mono sub_right
  have sh₅' := (((sh₂'.trans sh₃).trans sh₄).trans sh₅)
  have kn : ∃ k, tl₅ ++ (tl₄ ++ (tl₃ ++ n₂)) = k ++ n := ⟨tl₅ ++ (tl₄ ++ (tl₃ ++ (tl₂ ++ tl₁))), by rw [← hn₂]; simp only [List.append_assoc]⟩
  generalize tl₅ ++ B₂ = B₅ at *
  generalize tl₅ ++ (tl₄ ++ (tl₃ ++ n₂)) = n₅ at *
  obtain ⟨kn, hkn⟩ := kn
  refine wpAny_execs_cons ?_
  refine st_for (X := [(L' + 1 + 1 + 1, o₄), (L' + 1 + 1, o₂), (L' + 1, o₁)]) (B := B₅) (ds := rows.map dL) C'.hh
    (fun i m' mu' tl => mu' = [(L' + 1 + 1 + 1, o₄), (L' + 1 + 1, o₂), (L' + 1, o₁)] ∧ m' "ahead" = some c ∧ m' "orders" = some v₁ ∧ m' "aliases" = some v₅)
    (Tr.mono (R := IsD (dLL rows)) (nm_local (by rfl) (he.mono sB₅)) fun _ _ r => .inl r) sub_left hB₅ S₅ (fun tl => ⟨rfl, by rfl, by rfl, by rfl⟩) ?_ ?_
  · rintro I i d v m' mu' tl oI s₆ hd hv ⟨rfl, hma, hmo, hml⟩ sh₆ S₆
    obtain ⟨row, hrow, rfl⟩ : ∃ row ∈ rows, d = dL row := by
      have := List.mem_of_getElem? hd
      obtain ⟨x, hx, e⟩ := List.mem_map.mp this
      exact ⟨x, hx, e.symm⟩
    obtain ⟨hin, hlen, hmem, htold⟩ := hrows row hrow
    refine as_local S₆ fun s₇ sh₇ S₇ => ?_
    have hX : ∀ {tl : Led}, ∀ p ∈ ([(L' + 1 + 1 + 1, o₄), (L' + 1 + 1, o₂), (L' + 1, o₁)] : Led), p ∈ ((I, oI) :: [(L' + 1 + 1 + 1, o₄), (L' + 1 + 1, o₂), (L' + 1, o₁)]) ++ tl := fun p hp => List.mem_append_left _ (List.mem_cons_of_mem _ hp)
    have hB₆ : ∀ p ∈ tl ++ B₅, p ∈ tl ++ n₅ := sub_app hB₅
    have sB : ∀ p ∈ B, p ∈ tl ++ B₅ := fun p hp => sub_right _ (sB₅ p hp)
    have ho₆ : DatIn (tl ++ B₅) v₁ (dLL orders) := ho₅.mono sub_right
    have hal₆ : DatIn (tl ++ B₅) v₅ (.list ((numbers.map aliasOf).map Dat.str)) := hal₅.mono sub_right
    generalize tl ++ B₅ = B₆ at *
    -- is_whole
    refine wpAny_execs_cons ?_
    refine st_assign (X := [(L' + 1 + 1 + 1, o₄), (L' + 1 + 1, o₂), (L' + 1, o₁)]) (B := B₆) (R := VB (wholeF numbers kinds row)) ?_ hX (sub_rr hB₆) S₇ fun tl₈ v₈ s₈ sh₈ S₈ r₈ => ?_
    · refine ev_and2 (b := decide (row.length = numbers.length)) ?_ fun _ => ?_
      · refine (ev_cmp (R₁ := IsD (.int ((dI row).length : Nat))) (R₂ := IsD (.int ((dI numbers).length : Nat))) (ev_len (nm_builtin C'.T C'.X (H.built _ (by simp)) (by rfl) (by decide) rfl) (nm_local (by simp) hv) (by rw [dI_length]; omega)) (ev_len (nm_builtin C'.T C'.X (H.built _ (by simp)) (by rfl) (by decide) rfl) (nm_cell (by rfl) (by simp) d1 (ha.mono sB)) (by rw [dI_length]; omega)) (mo_isD _) (mo_isD _) fun tl a b r1 r2 => cp_eq_int r1 r2).mono fun _ _ r => ?_
        rw [r, dI_length, dI_length]
        congr 1
        exact decide_eq_decide.mpr (by omega)
      · refine ev_callF C'.X H.isLet.keep (nm_global C'.T C'.X H.isLet.ns rfl) (items3 (mo_isD (dL numbers)) (mo_isD (.list (kinds.map Dat.str))) (mo_isD (dL row)) (nm_cell (by rfl) (by simp) d1 (ha.mono sB)) (nm_cell (by rfl) (by simp) d2 (hb.mono sB)) (nm_local (by simp) hv)) (mo3 (mo_isD _) (mo_isD _) (mo_isD _)) fun tl vs r => ?_
        obtain ⟨x, y, z, rfl, r1, r2, r3⟩ := r
        exact is_let_spec H C' (by omega) (by omega) r1 r2 r3 hk (by omega) (by omega) hin
    -- row in orders
    refine wpAny_execs_cons ?_
    have hwm : (wholeF numbers kinds row) = decide (row ∈ orders) := by
      rw [Bool.eq_iff_iff, decide_eq_true_eq]
      exact hmem.symm
    refine st_if (X := [(L' + 1 + 1 + 1, o₄), (L' + 1 + 1, o₂), (L' + 1, o₁)]) (B := B₆) (b := false) ?_ hX (sub_rr (sub_rr hB₆)) S₈ (fun h => nomatch h) fun _ tl₉ s₉ sh₉ S₉ => wpAny_execs_nil ?_
    · refine ts_cmp (R₁ := VB (wholeF numbers kinds row)) (R₂ := VB (wholeF numbers kinds row)) ?_ (nm_local (by simp) r₈) (mo_VB _) (mo_VB _) fun tl x y r1 r2 => (cp_ne_bool r1 r2).mono fun _ _ r => by rw [r]; simp
      refine ev_cmp (R₁ := IsD (dL row)) (R₂ := IsD (dLL orders)) (nm_local (up11 (by decide)) hv) (nm_local (up2 hmo (by decide) (by decide)) ho₆) (mo_isD _) (mo_isD _) fun tl x y r1 r2 => ?_
      exact cp_in_list r1 r2 (dL_ok _) (dLs_ok _) hu' (by rw [dLs_mem]; exact hmem.symm)
    -- told
    refine wpAny_execs_cons ?_
    refine st_assign_comp (X := [(L' + 1 + 1 + 1, o₄), (L' + 1 + 1, o₂), (L' + 1, o₁)]) (B := B₆) (ds := dI row) (fun _ => true) (fun d => .str (aliasOf (unI d))) C'.hh (tgtL (by rfl) (by rfl)) (mkL (by rfl) (by decide)) (by rfl) (by rfl) (by decide)
      (by rw [dI_length, sizeLine_eq]; omega) (Tr.mono (R := IsD (dL row)) (nm_local (up11 (by decide)) hv) fun _ _ r => .inl r) (fun _ _ _ _ _ _ _ _ _ => tests_nil) ?_ hX (sub_rr (sub_rr (sub_rr hB₆))) S₉ fun tl₁₀ v₁₀ s₁₀ sh₁₀ S₁₀ r₁₀ => ?_
    · rintro Cc cl' d hd _ v own tl ⟨rfl, oC, m₂, rfl, hC, hv⟩ hdv
      obtain ⟨x, hx, rfl⟩ := List.mem_map.mp hd
      exact ev_alias (nc_builtin C'.T C'.X (H.built _ (by simp)) (by rfl) (by decide) rfl) (nc_own (List.mem_cons_self ..) hC hv hdv) (hnum x (hin x hx))
    have htd : DatIn (tl₁₀ ++ B₆) v₁₀ (.list ((row.map aliasOf).map Dat.str)) := by
      rw [filter_tt, dI, List.map_map] at r₁₀
      rw [List.map_map]
      exact r₁₀
    have hX₁₀ : ∀ p ∈ ([(L' + 1 + 1 + 1, o₄), (L' + 1 + 1, o₂), (L' + 1, o₁)] : Led), p ∈ ((I, oI) :: [(L' + 1 + 1 + 1, o₄), (L' + 1 + 1, o₂), (L' + 1, o₁)]) ++ (tl₁₀ ++ (tl₉ ++ (tl₈ ++ (tl ++ n₅)))) := fun p hp => List.mem_append_left _ (List.mem_cons_of_mem _ hp)
    refine wpAny_execs_cons ?_
    refine st_if (X := [(L' + 1 + 1 + 1, o₄), (L' + 1 + 1, o₂), (L' + 1, o₁)]) (B := tl₁₀ ++ B₆) (b := false) ?_ hX₁₀ ?_ S₁₀ (fun h => nomatch h) fun _ tl₁₁ s₁₁ sh₁₁ S₁₁ => wpAny_execs_nil ?_
    · refine ts_cmp (R₁ := IsD (dLL (toldF numbers ah (numbers.map aliasOf) (row.map aliasOf)))) (R₂ := IsD (dLL (if wholeF numbers kinds row = true then [row] else []))) ?_ ?_ (mo_isD _) (mo_isD _) fun tl x y r1 r2 => cp_ne_list r1 r2 (dLs_ok _) (dLs_ok _) hu' (by simp [htold])
      · refine ev_callF C'.X H.told.keep (nm_global C'.T C'.X H.told.ns rfl) (items4 (mo_isD (dL numbers)) (mo_isAh (prog := prog) (w := w) al) (mo_isD (.list ((numbers.map aliasOf).map Dat.str))) (mo_isD (.list ((row.map aliasOf).map Dat.str))) (nm_cell (by rfl) (by simp) d1 (ha.mono fun p hp => sub_right _ (sB p hp))) (nm_local (up3 hma (by decide) (by decide) (by decide)) (mo_isAh al _ _ _ (fun p hp => sub_right _ (sB p hp)) hc)) (nm_local (up3 hml (by decide) (by decide) (by decide)) (hal₆.mono sub_right)) (nm_local (by simp) htd)) (mo4 (mo_isD _) (mo_isAh al) (mo_isD _) (mo_isD _)) fun tl vs r => ?_
        obtain ⟨x, y, z, t, rfl, r1, r2, r3, r4⟩ := r
        exact told_orders_spec H C' (by omega) (by omega) ah r1 r2 r3 r4 (by omega) (by simp; omega) (by simp) hal
      · refine ev_ifexp (c := wholeF numbers kinds row) (ts_val (nm_local (up11 (by decide)) r₈)) (mo_isD _) (fun h => ?_) fun h => ?_
        · rw [if_pos h]
          exact ev_list (items1 (mo_isD (dL row)) (nm_local (up21 (by decide) (by decide)) (hv.mono sub_right))) (fun n vs e => by obtain ⟨x, rfl, r⟩ := e; exact .cons r .nil) (by rw [sizeLine_eq]; show 1 ≤ _; omega)
        · rw [if_neg (by rw [h]; decide)]
          exact ev_list tr_items_nil (fun n vs e => by rw [e]; exact .nil) (Nat.zero_le _)
    · exact sub_rr (sub_app (sub_rr (sub_rr hB₆)))
    · refine wpAny_execs_nil ?_
      exact next_done (I := I) (oI := oI) (tl := tl) (n := n₅) (i := i) (mu' := [(L' + 1 + 1 + 1, o₄), (L' + 1 + 1, o₂), (L' + 1, o₁)]) (tl' := tl₁₁ ++ (tl₁₀ ++ (tl₉ ++ tl₈))) (J := fun i m' mu' tl => mu' = [(L' + 1 + 1 + 1, o₄), (L' + 1 + 1, o₂), (L' + 1, o₁)] ∧ m' "ahead" = some c ∧ m' "orders" = some v₁ ∧ m' "aliases" = some v₅) S₁₁ (((((sh₆.trans sh₇).trans sh₈).trans sh₉).trans sh₁₀).trans sh₁₁) (by simp only [List.append_assoc, List.cons_append, List.nil_append]) ⟨rfl, up3 hma (by decide) (by decide) (by decide), up3 hmo (by decide) (by decide) (by decide), up3 hml (by decide) (by decide) (by decide)⟩
  · rintro m' mu' tl s₆ ⟨rfl, hma, hmo, hml⟩ sh₆ S₆
    refine wpAny_execs_cons ?_
    refine st_return (X := []) (B := []) (R := VB true) ev_bool (fun _ h => nomatch h) (fun _ h => nomatch h) S₆ fun tl₇ v₇ s₇ sh₇ S₇ r₇ => ?_
    exact ret_done (tl := tl₇ ++ (tl ++ kn)) S₇.tail ((sh₅'.trans sh₆).trans sh₇) (by rw [hkn]; simp only [List.append_assoc]) r₇
end
end Mine

namespace Mine

def isOut (k : Str) : Bool := ["left", "cross"].any (· == k)
def keptAt (numbers : List Int) (kinds : List Str) (i : Nat) : List Int := if isOut (kinds.getD i "") = true then numbers.take i else []
def alF (numbers : List Int) (kinds : List Str) (n : Nat) : List (Int × List Int) := (List.range n).map fun i => (numbers.getD i 0, keptAt numbers kinds i)
theorem alF_succ (numbers : List Int) (kinds : List Str) (n : Nat) : alF numbers kinds (n + 1) = alF numbers kinds n ++ [(numbers.getD n 0, keptAt numbers kinds n)] := by
  unfold alF
  rw [List.range_succ, List.map_append]
  rfl
theorem stored_fresh {kvs : List (Int × Value)} {k : Int} {v : Value} (h : k ∉ kvs.map (·.1)) : stored kvs k v = kvs ++ [(k, v)] := by
  unfold stored
  rw [if_neg]
  intro q
  obtain ⟨p, hp, e⟩ := List.any_eq_true.mp q
  exact h (List.mem_map.mpr ⟨p, hp, of_decide_eq_true e⟩)
theorem lookup_append {x : Int} {l : List Int} : ∀ {a b : List (Int × List Int)}, (a ++ b).lookup x = some l → a.lookup x = some l ∨ (a.lookup x = none ∧ b.lookup x = some l)
  | [], _, h => .inr ⟨rfl, h⟩
  | (k, y) :: a, b, h => by
    rw [List.cons_append, List.lookup_cons] at h
    rw [List.lookup_cons]
    cases hq : x == k with
    | true => rw [hq] at h; exact .inl h
    | false => rw [hq] at h; exact lookup_append h
theorem valueAt_snoc {kvs : List (Int × Value)} {k x : Int} {v u : Value} (h : valueAt kvs x = some u) : valueAt (kvs ++ [(k, v)]) x = some u := by
  unfold valueAt at h ⊢
  rw [List.find?_append]
  cases hq : kvs.find? (fun kv => decide (kv.1 = x)) with
  | none => rw [hq] at h; cases h
  | some p => rw [hq] at h; exact h
theorem valueAt_last {kvs : List (Int × Value)} {k : Int} {v : Value} (h : k ∉ kvs.map (·.1)) : valueAt (kvs ++ [(k, v)]) k = some v := by
  unfold valueAt
  rw [List.find?_append]
  have e : kvs.find? (fun kv => decide (kv.1 = k)) = none := List.find?_eq_none.mpr fun p hp q => h (List.mem_map.mpr ⟨p, hp, of_decide_eq_true q⟩)
  rw [e]
  simp

section
variable {prog : Program} {w : World} {A : Around} {h₀ : Heap} {L : Addr} {m : Loc} {X B : Led} {env : Env} {K : Frag} {dp un : Nat}

theorem st_setitem {d : Addr} {o : Obj} {kvs : List (Int × Value)} {k : Int} {t : Tok} {v : Value} {pre post : Led} {s : Shared} {Q : Unit → Shared → Prop} (S : St h₀ L m (pre ++ (d, o) :: post) s.heap) (hd : o.IsDictOf (PySem.intKind prog w) kvs) (hsz : kvs.length ≤ sizeLine)
    (q : ∀ o' s', Sh s s' → o'.IsDictOf (PySem.intKind prog w) (stored kvs k v) → St h₀ L m (pre ++ (d, o') :: post) s'.heap → Q () s') : wpAny (model prog w) A (setItem (.ref d) (.int k t) v) Q NF s := by
  have hm := S.N (d, o) (List.mem_append_right _ (.head _))
  refine wpAny_setItem_pairs (knd := PySem.intKind prog w) (hsz := hsz) (PySem.intKind_is prog w k t) (Heap.dictOf_iff.mpr ⟨o, hm.1, hd⟩) fun h' hmm hs => ?_
  obtain ⟨o', ho', hd'⟩ := Heap.dictOf_iff.mp hmm
  exact q o' _ (Sh.mk s h' _) hd' (S.set hs ho')

theorem kept_ahead_spec (H : KH K) (C : Cx prog w K A env h₀ L dp un) (hd : dp ≤ 600) (hu : un ≤ 6000) {a b : Value} {numbers : List Int} {kinds : List Str}
    (ha : DatIn B a (dL numbers)) (hb : DatIn B b (.list (kinds.map Dat.str))) (hk : kinds.length = numbers.length) (hz : numbers.length ≤ 1000) (hn : numbers.Nodup) :
    Tr prog w A h₀ L m X B (call (.ref 21) [a, b]) (IsAh prog w (alF numbers kinds numbers.length)) := by
  obtain ⟨⟨oc, od, doc, pm, an, cdv, ct, osl, ho, hcd⟩, _, _⟩ := H.kept
  refine tr_call (binds := [("numbers", a), ("kinds", b)]) C ho hcd (Nat.lt_of_le_of_lt hd (by decide)) (fun s => BindsTo.of_eq (by rfl)) (by exact locs (by rfl)) rfl rfl rfl (by decide) ?_
  intro A' g L' n s C' hB S
  have hu' : A'.units + 64 < cLine := fit_room C'.u (by omega)
  obtain ⟨p, loose, mean, mg, mb, T⟩ := C'.T
  refine wpAny_execs_cons ?_
  -- found = {}
  refine wpAny_Assign_Name (hs := by rfl) (newDict_K S.F S.N T.nolimit fun d h₁ o F₁ N₁ lt _ _ _ hdo _ => ?_)
  have S₁ : St g L' (fun y => List.lookup y [(Str.ofString "numbers", a), (Str.ofString "kinds", b)].reverse) ((d, o) :: n) h₁ := ⟨F₁, N₁, nodup_cons_lt S.nd fun q hq => by
    obtain ⟨r, hr, rfl⟩ := List.mem_map.mp hq
    exact lt r hr⟩
  refine storeX_L (cl := []) S₁.F S₁.N (fun h₂ F₂ N₂ => ?_) (by rfl) (by rfl)
  have S₂ : St g L' (fun y => if y = "found" then some (.ref d) else (fun y => List.lookup y [(Str.ofString "numbers", a), (Str.ofString "kinds", b)].reverse) y) ([(d, o)] ++ n) h₂ := ⟨F₂, N₂, S₁.nd⟩
  have sh₂ : Sh s { s with heap := h₂, toks := s.toks + 1 } := Sh.mk s _ _
  refine wpAny_execs_cons ?_
  refine st_for (X := []) (B := B) (ds := rg 0 numbers.length) C'.hh
    (fun i m' mu' tl => ∃ o' kvs, mu' = [(d, o')] ∧ o'.IsDictOf (PySem.intKind prog w) kvs ∧ kvs.map (·.1) = numbers.take i ∧ (∀ x l, (alF numbers kinds i).lookup x = some l → ∃ u, valueAt kvs x = some u ∧ DatIn (tl ++ B) u (dL l)) ∧ m' "found" = some (.ref d) ∧ m' "numbers" = some a ∧ m' "kinds" = some b)
    ?_ (fun _ h => nomatch h) hB S₂ (fun tl => ⟨o, [], rfl, hdo, rfl, (fun _ _ h => nomatch h), by rfl, by rfl, by rfl⟩) ?_ ?_
  · have e : rg 0 numbers.length = rg 0 (dI numbers).length := by rw [dI_length]
    rw [e]
    exact ev_range1 (nm_builtin (cl := []) C'.T C'.X (H.built _ (by simp)) (by rfl) (by decide) rfl) (ev_len (nm_builtin (cl := []) C'.T C'.X (H.built _ (by simp)) (by rfl) (by decide) rfl) (nm_local (cl := []) (by rfl) ha) (by rw [dI_length]; omega)) (by rw [dI_length]; omega)
  · rintro I i d₁ v m' mu' tl oI s₁ hd₁ hv ⟨o', kvs, rfl, hdo', hkeys, hvals, hmf, hmn, hmk⟩ sh₃ S₃
    have hi : i < numbers.length := by
      have := (List.getElem?_eq_some_iff.mp hd₁).1
      rw [rg_len] at this
      exact this
    rw [rg_get hi] at hd₁
    cases hd₁
    rw [Int.zero_add] at hv
    have hkl : kvs.length = i := by
      have := congrArg List.length hkeys
      rw [List.length_map, List.length_take] at this
      omega
    have hnew : numbers.getD i 0 ∉ kvs.map (·.1) := by
      rw [hkeys]
      intro q
      obtain ⟨j, hj, e⟩ := List.mem_iff_getElem.mp q
      rw [List.getElem_take] at e
      rw [List.length_take] at hj
      rw [List.getD_eq_getElem?_getD, List.getElem?_eq_getElem hi] at e
      have := (List.getElem_inj hn).mp e
      omega
    refine as_local S₃ fun s₄ sh₄ S₄ => ?_
    refine wpAny_execs_cons (wpAny_Assign_Subscript ?_ (by rfl))
    have hBn : ∀ p ∈ tl ++ B, p ∈ [(I, oI), (d, o')] ++ (tl ++ n) := fun p hp => sub_right _ (sub_app hB p hp)
    have hBn' : ∀ p ∈ tl ++ B, p ∈ tl ++ n := sub_app hB
    have sB : ∀ p ∈ B, p ∈ tl ++ B := sub_right
    refine Tr.goM (X := []) (B := tl ++ B) (mu := [(I, oI), (d, o')]) (R := IsD (dL (keptAt numbers kinds i))) ?_ (fun _ h => nomatch h) hBn S₄ fun tl₅ v₅ s₅ sh₅ S₅ r₅ => ?_
    · refine ev_ifexp (c := isOut (kinds.getD i "")) ?_ (mo_isD _) (fun h => ?_) fun h => ?_
      · refine ts_cmp (R₁ := IsD (.str (kinds.getD i ""))) (R₂ := IsD (.tuple ((["left", "cross"] : List Str).map Dat.str))) ?_ ?_ (mo_isD _) (mo_isD _) fun tl x y r1 r2 => cp_in_tuple r1 r2
        · exact ev_item (ds := kinds.map Dat.str) (k := i) (nm_local (cl := []) (up1 hmk (by decide)) (hb.mono sB)) (nm_local (cl := []) (by simp) hv) (by omega) (by rw [Int.toNat_natCast, List.getElem?_map, getD_of (l := kinds) (d := "") (by omega)]; rfl) (by omega)
        · exact ev_tuple (items2 (mo_isD (.str "left")) (mo_isD (.str "cross")) ev_str ev_str) (fun n vs e => by obtain ⟨x, y, rfl, r1, r2⟩ := e; exact .cons r1 (.cons r2 .nil)) (by rw [sizeLine_eq]; show 2 ≤ _; omega)
      · rw [keptAt, if_pos h]
        refine (ev_upto (k := i) (nm_local (cl := []) (up1 hmn (by decide)) (ha.mono sB)) (nm_local (cl := []) (by simp) hv) (by omega) (by rw [dI_length, sizeLine_eq]; omega)).mono fun _ _ r => ?_
        rw [Int.toNat_natCast, dI_take] at r
        exact r
      · rw [keptAt, if_neg (by rw [h]; decide)]
        exact ev_list tr_items_nil (fun n vs e => by rw [e]; exact .nil) (Nat.zero_le _)
    refine nameX_L (cl := []) S₅.F (up1 hmf (by decide)) ?_ (by rfl) (by rfl) (by decide)
    refine Tr.goM (X := []) (B := tl ++ B) (mu := [(I, oI), (d, o')]) (n := tl₅ ++ (tl ++ n)) (R := IsD (.int (numbers.getD i 0))) ?_ (fun _ h => nomatch h) (sub_rr (sub_rr hBn')) S₅ fun tl₆ v₆ s₆ sh₆ S₆ r₆ => ?_
    · exact ev_item (ds := dI numbers) (k := i) (nm_local (cl := []) (up1 hmn (by decide)) (ha.mono sB)) (nm_local (cl := []) (by simp) hv) (by omega) (by rw [dI_get, Int.toNat_natCast, getD_of hi (d := 0)]; rfl) (by omega)
    cases r₆
    refine st_setitem (pre := [(I, oI)]) (d := d) S₆ hdo' (by rw [hkl, sizeLine_eq]; omega) fun o'' s₇ sh₇ hdo'' S₇ => ?_
    rw [stored_fresh hnew] at hdo''
    refine wpAny_execs_nil ?_
    refine next_done (I := I) (oI := oI) (tl := tl) (n := n) (i := i) (mu' := [(d, o'')]) (tl' := tl₆ ++ tl₅)
      (J := fun i m' mu' tl => ∃ o' kvs, mu' = [(d, o')] ∧ o'.IsDictOf (PySem.intKind prog w) kvs ∧ kvs.map (·.1) = numbers.take i ∧ (∀ x l, (alF numbers kinds i).lookup x = some l → ∃ u, valueAt kvs x = some u ∧ DatIn (tl ++ B) u (dL l)) ∧ m' "found" = some (.ref d) ∧ m' "numbers" = some a ∧ m' "kinds" = some b)
      S₇ (((((sh₂.trans sh₃).trans sh₄).trans sh₅).trans sh₆).trans sh₇) (by simp only [List.append_assoc, List.cons_append, List.nil_append]; rfl) ⟨o'', _, rfl, hdo'', ?_, ?_, up1 hmf (by decide), up1 hmn (by decide), up1 hmk (by decide)⟩
    · rw [List.map_append, hkeys, List.take_add_one, getD_of hi (d := 0)]
      rfl
    · intro x l hx
      rw [alF_succ] at hx
      rcases lookup_append hx with hx | ⟨_, hx⟩
      · obtain ⟨u, e, r⟩ := hvals x l hx
        exact ⟨u, valueAt_snoc e, r.mono (by rw [List.append_assoc]; exact sub_right)⟩
      · rw [List.lookup_cons] at hx
        cases hq : x == numbers.getD i 0 with
        | false => rw [hq] at hx; cases hx
        | true =>
          rw [hq] at hx
          cases hx
          have e : x = numbers.getD i 0 := eq_of_beq hq
          subst e
          exact ⟨_, valueAt_last hnew, r₅.mono (by intro p hp; rw [List.append_assoc, List.append_assoc]; exact sub_right _ hp)⟩
  · rintro m' mu' tl s₁ ⟨o', kvs, rfl, hdo', hkeys, hvals, hmf, hmn, hmk⟩ sh₃ S₃
    refine wpAny_execs_cons ?_
    refine st_return (X := []) (B := (d, o') :: (tl ++ B)) (R := IsAh prog w (alF numbers kinds numbers.length)) (nm_local (cl := []) hmf ?_) (fun _ h => nomatch h) (fun p hp => ?_) S₃ fun tl₇ v₇ s₇ sh₇ S₇ r₇ => ?_
    · exact ⟨d, o', kvs, rfl, List.mem_cons_self .., hdo', fun i l q => by
        rw [rg_len] at hvals
        obtain ⟨u, e, r⟩ := hvals i l q
        exact ⟨u, e, r.mono fun p hp => List.mem_cons_of_mem _ hp⟩⟩
    · rcases List.mem_cons.mp hp with rfl | hp
      · exact List.mem_append_left _ (List.mem_cons_self ..)
      · exact sub_right _ (sub_app hB p hp)
    · refine ret_done (tl := (d, o') :: (tl₇ ++ tl)) S₇ ((sh₂.trans sh₃).trans sh₇) (by simp only [List.append_assoc, List.cons_append, List.nil_append]) ?_
      refine mo_IsAh _ _ _ _ (fun p hp => ?_) r₇
      rcases List.mem_append.mp hp with hp | hp
      · exact List.mem_append_left _ (List.mem_cons_of_mem _ (List.mem_append_left _ hp))
      · rcases List.mem_cons.mp hp with rfl | hp
        · exact List.mem_cons_self ..
        · simp only [List.cons_append, List.append_assoc]
          exact List.mem_cons_of_mem _ (sub_right _ hp)
end
end Mine

namespace Mine

/-- the source of draws: two ints -/
def GS (o : Obj) : Prop := ∃ x y tx ty c, o = listOf #[.int x tx, .int y ty] c ∧ 0 ≤ x ∧ 0 ≤ y ∧ y < 2147483647

section
variable {prog : Program} {w : World} {A : Around} {h₀ : Heap} {L : Addr} {m : Loc} {X B : Led} {env : Env} {K : Frag} {dp un : Nat} {α : Type}

/-- a tree that may draw from the source -/
def TrS (prog : Program) (w : World) (A : Around) (h₀ : Heap) (L : Addr) (m : Loc) (X B : Led) (src : Addr) (t : Sem α) (R : Led → α → Prop) : Prop :=
  ∀ n s o, GS o → (∀ p ∈ X, p ∈ n) → (∀ p ∈ B, p ∈ n) → St h₀ L m ((src, o) :: n) s.heap → wpAny (model prog w) A t (fun v s' => ∃ tl o', GS o' ∧ Sh s s' ∧ St h₀ L m ((src, o') :: (tl ++ n)) s'.heap ∧ R (tl ++ B) v) NF s

theorem TrS.go {src : Addr} {o : Obj} {t : Sem α} {R : Led → α → Prop} {n : Led} {s : Shared} {Q : α → Shared → Prop} (h : TrS prog w A h₀ L m X B src t R) (G : GS o) (hX : ∀ p ∈ X, p ∈ n) (hB : ∀ p ∈ B, p ∈ n) (S : St h₀ L m ((src, o) :: n) s.heap)
    (k : ∀ tl v o' s', GS o' → Sh s s' → St h₀ L m ((src, o') :: (tl ++ n)) s'.heap → R (tl ++ B) v → Q v s') : wpAny (model prog w) A t Q NF s :=
  wpAny_mono (h n s o G hX hB S) (fun v s' ⟨tl, o', G', sh, S', r⟩ => k tl v o' s' G' sh S' r) fun _ _ e => e
theorem TrS.of {src : Addr} {t : Sem α} {R : Led → α → Prop} (h : Tr prog w A h₀ L m X B t R) : TrS prog w A h₀ L m X B src t R := fun n s o G hX hB S =>
  h.go (n := (src, o) :: n) (fun p hp => List.mem_cons_of_mem _ (hX p hp)) (fun p hp => List.mem_cons_of_mem _ (hB p hp)) S fun tl _ s' sh S' r => ⟨tl, o, G, sh, S'.perm List.perm_middle.symm, r⟩
theorem TrS.mono {src : Addr} {t : Sem α} {R R' : Led → α → Prop} (h : TrS prog w A h₀ L m X B src t R) (k : ∀ tl v, R (tl ++ B) v → R' (tl ++ B) v) : TrS prog w A h₀ L m X B src t R' := fun n s o G hX hB S =>
  h.go G hX hB S fun tl v o' s' G' sh S' r => ⟨tl, o', G', sh, S', k tl v r⟩

end

section
variable {prog : Program} {w : World} {A : Around} {h₀ : Heap} {L : Addr} {m : Loc} {X B : Led} {env : Env} {K : Frag} {dp un : Nat}
/-- int(y * y) and the like: what a fresh draw is -/
theorem ints2 {x y : Int} {tx ty : Tok} {c : Nat} {src : Addr} {n : Led} (h : (src, listOf #[.int x tx, .int y ty] c) ∈ n) : DatIn n (.ref src) (dL [x, y]) :=
  DatIn.list h (.cons (.int _ _) (.cons (.int _ _) .nil))

theorem st_setlist {src : Addr} {its : Array Value} {c : Nat} {k : Int} {t : Tok} {v : Value} {pre post : Led} {s : Shared} {Q : Unit → Shared → Prop} (S : St h₀ L m (pre ++ (src, listOf its c) :: post) s.heap) (h0 : 0 ≤ k) (hfit : k < 2 ^ 63) (hn : k < its.size)
    (q : ∀ s', Sh s s' → St h₀ L m (pre ++ (src, listOf (its.setIfInBounds k.toNat v) c) :: post) s'.heap → Q () s') : wpAny (model prog w) A (setItem (.ref src) (.int k t) v) Q NF s := by
  have hm := S.N (src, listOf its c) (List.mem_append_right _ (.head _))
  refine ki_setAt hm.1 h0 hfit hn (q _ (Sh.mk s _ _) (S.set (Heap.SameBut.update ..) ?_))
  have e := PySem.IsL.update hm.1 (fun xs => xs.setIfInBounds k.toNat v)
  have z : (if (its.setIfInBounds k.toNat v).size == its.size then c else c + 1) = c := by simp
  rw [z] at e
  exact e

/-- a while -/
theorem st_while {test : Expr} {body : List Stmt} {pos : Pos} {n : Led} {s : Shared} {Q : Flow → Shared → Prop} (J : Nat → Loc → Led → Prop) (n₀ : Nat) (S : St h₀ L m n s.heap) (j0 : J n₀ m n)
    (turn : ∀ k m₁ n₁ s₁, Sh s s₁ → St h₀ L m₁ n₁ s₁.heap → J k m₁ n₁ → wpAny (model prog w) A (isTrue test env (eval test env)) (fun b s₂ =>
      if b = true then wpAny (model prog w) A (execs body env) (fun fl s₃ => fl = .next ∧ ∃ k' m' n', k' < k ∧ Sh s s₃ ∧ St h₀ L m' n' s₃.heap ∧ J k' m' n') NF s₂ else Q .next s₂) NF s₁) :
    wpAny (model prog w) A (exec (.While test body [] pos) env) Q NF s := by
  refine wpAny_While (codeAny_whileLoop (fun k s' => ∃ m₁ n₁, Sh s s' ∧ St h₀ L m₁ n₁ s'.heap ∧ J k m₁ n₁) ?_ n₀ ⟨m, n, Sh.refl s, S, j0⟩)
  rintro k s₁ ⟨m₁, n₁, sh, S₁, hJ⟩
  refine nf (wpAny_mono (turn k m₁ n₁ s₁ sh S₁ hJ) ?_ fun _ _ e => e)
  intro b s₂ h₂
  cases b with
  | false =>
    simp only [Bool.false_eq_true, if_false] at h₂ ⊢
    exact wpAny_execs_nil h₂
  | true =>
    simp only [if_true] at h₂ ⊢
    refine nf (wpAny_mono h₂ ?_ fun _ _ e => e)
    rintro _ s₃ ⟨rfl, k', m', n', hk, sh', S', hJ'⟩
    exact ⟨k', hk, m', n', sh', S', hJ'⟩

variable {R : Led → Value → Prop} {name qual : Str} {params : Arguments} {body : List Stmt} {scope : Scope} {dV kV doc pm cdv ct oc : Value} {an od : Option Addr} {osl : Array (Option Value)} {f : Addr} {vs : List Value} {binds : List (Str × Value)}

/-- a call of a def without cells that may store into the ledger -/
theorem st_call {n : Led} {s : Shared} {Q : Value → Shared → Prop} (C : Cx prog w K A env h₀ L dp un) (ho : K.lookup f = some ⟨oc, od, .func (fnOf name qual params body scope dV kV doc pm an cdv ct), osl⟩) (hcd : codeIn K cdv qual = true) (hroom : dp < recursionLimit)
    (hbind : ∀ s, BindsTo s (fnOf name qual params body scope dV kV doc pm an cdv ct) ⟨vs, []⟩ binds) (hloc : ∀ y ∈ binds, scope.names.lookup y.1 = some .local)
    (hco : scope.isCoroutine = false) (hgen : scope.isGenerator = false) (hk : scope.kind = .function) (hcell : ∀ x ∈ scope.names, x.2 ≠ .cell) (S : St h₀ L m n s.heap)
    (hb : ∀ A' g L' s₁, Cx prog w K A' (envOf qual scope L' f cdv) g L' (dp + 1) (un + 3) → Sh s s₁ → (∀ b o, h₀.get? b = some o → g.get? b = some o) → St g L' (fun y => binds.reverse.lookup y) n s₁.heap →
      wpAny (model prog w) A' (execs body (envOf qual scope L' f cdv)) (fun fl s' => ∃ m' n' v, fl = .ret v ∧ Sh s₁ s' ∧ St g L' m' n' s'.heap ∧ ∀ s'', Sh s s'' → St h₀ L m n' s''.heap → Q v s'') NF s₁) :
    wpAny (model prog w) A (call (.ref f) vs) Q NF s := by
  obtain ⟨A₀, base, outer, hBelow, hA⟩ := C.ex
  obtain ⟨p, loose, mean, mg, mb, T⟩ := C.T
  refine wpAny_call (code_def hBelow S.F C.X S.N T hA C.hf C.hk ho hcd (Nat.lt_of_le_of_lt C.d hroom) (hbind s) hloc (fun g L' h₁ FG F' N' B' X' T' => ?_) hco hgen hk hcell)
  have C' : Cx prog w K (A.deeper (envOf qual scope L' f cdv)) (envOf qual scope L' f cdv) g L' (dp + 1) (un + 3) :=
    C.deeper B' (Around.frames_deeper hA) X' ⟨_, _, _, _, _, T'⟩ rfl hk
  refine wpAny_mono (hb _ g L' _ C' (Sh.mk s _ _) FG.keep ⟨F', N', S.nd⟩) ?_ fun _ _ e => e.elim
  rintro fl s' ⟨m', n', v, rfl, sh, S', q⟩
  exact ⟨L', m', n', S'.F, S'.N, fun F₂ N₂ => q _ ((Sh.mk s _ _).trans sh) ⟨F₂, N₂, S'.nd⟩⟩
end
end Mine

namespace Mine

theorem fmod_rng {a b : Int} (h : 1 ≤ b) : 0 ≤ a.fmod b ∧ a.fmod b < b := by
  rw [Int.fmod_eq_emod_of_nonneg _ (by omega)]
  exact ⟨Int.emod_nonneg _ (by omega), Int.emod_lt_of_pos _ (by omega)⟩
theorem fdiv_nn {a b : Int} (h : 1 ≤ b) (ha : 0 ≤ a) : 0 ≤ a.fdiv b := by
  rw [Int.fdiv_eq_ediv_of_nonneg _ (by omega)]
  exact Int.ediv_nonneg ha (by omega)

section
variable {prog : Program} {w : World} {A : Around} {h₀ : Heap} {L : Addr} {m : Loc} {X B : Led} {env : Env} {K : Frag} {dp un : Nat}

theorem ev_int1 {f o : Expr} {pos : Pos} {x : Int} (hf : Tr prog w A h₀ L m X B (eval f env) (fun _ v => v = .type "int")) (h : Tr prog w A h₀ L m X B (eval o env) (IsD (.int x)))
    (hc : eval (.Call f [o] [] pos) env = (do callWith pos (← eval f env) [] (backTo pos (starEach [o] env)) (backToKw pos (keywordEach [] env))) := by rfl)
    (he : starEach [o] env = (false, eval o env) :: starEach [] env := by rfl) :
    Tr prog w A h₀ L m X B (eval (.Call f [o] [] pos) env) (IsD (.int x)) := by
  refine ev_callT (T := "int") (hc := hc) (he := he) (hplain := rfl) hf (items1 (mo_isD (.int x)) h he) (mo1 (mo_isD _)) fun tl vs r => ?_
  obtain ⟨v, rfl, r⟩ := r
  exact cl_int_int r

theorem law_take_spec (H : KH K) (C : Cx prog w K A env h₀ L dp un) (hd : dp ≤ 600) (hu : un ≤ 6000) {src : Addr} {b : Value} {top : Int} (hb : DatIn B b (.int top)) (h1 : 1 ≤ top) (h2 : top ≤ 1000) :
    TrS prog w A h₀ L m X B src (call (.ref 52) [.ref src, b]) (fun _ v => ∃ d t, v = .int d t ∧ 0 ≤ d ∧ d < top) := by
  obtain ⟨⟨oc, od, doc, pm, an, cdv, ct, osl, ho, hcd⟩, _, _⟩ := H.take
  intro n s o G hX hB S
  obtain ⟨x, y, tx, ty, c, rfl, hx, hy, hy'⟩ := G
  cases hb with
  | int _ tb =>
  refine st_call (binds := [("source", .ref src), ("top", .int top tb)]) C ho hcd (Nat.lt_of_le_of_lt hd (by decide)) (fun s => BindsTo.of_eq (by rfl)) (by exact locs (by rfl)) rfl rfl rfl (by decide) S ?_
  intro A' g L' s₁ C' sh₁ _ S₁
  have hin : ∀ {B' : Led} {x y : Int} {tx ty : Tok}, (src, listOf #[Value.int x tx, Value.int y ty] c) ∈ B' → DatIn B' (.ref src) (dL [x, y]) := fun h => ints2 h
  have hself : ∀ {o : Obj} {n' : Led}, ∀ p ∈ ([(src, o)] : Led), p ∈ [(src, o)] ++ n' := sub_left
  refine wpAny_execs_cons ?_
  refine st_if (mu := [(src, listOf #[Value.int x tx, Value.int y ty] c)]) (n := n) (X := []) (B := [(src, listOf #[Value.int x tx, Value.int y ty] c)]) (b := decide (0 < x)) ?_ (fun _ h => nomatch h) hself S₁ (fun hpos tl₂ s₂ sh₂ S₂ => ?_) fun hneg tl₂ s₂ sh₂ S₂ => ?_
  · refine ts_cmp (R₁ := IsD (.int x)) (R₂ := IsD (.int 0)) ?_ ev_int (mo_isD _) (mo_isD _) fun tl a b r1 r2 => cp_gt_int r1 r2
    exact ev_item (ds := dI [x, y]) (k := 0) (nm_local (cl := []) (by rfl) (hin (List.mem_cons_self ..))) ev_int (by omega) rfl (by omega)
  · -- a digit
    refine wpAny_execs_cons ?_
    refine st_assign (cl := []) (X := []) (B := [(src, listOf #[Value.int x tx, Value.int y ty] c)]) (R := IsD (.int (x.fmod top))) ?_ (fun _ h => nomatch h) hself S₂ fun tl₃ v₃ s₃ sh₃ S₃ r₃ => ?_
    · refine ev_bin (R₁ := IsD (.int x)) (R₂ := IsD (.int top)) ?_ (nm_local (cl := []) (by rfl) (.int _ _)) (mo_isD _) (mo_isD _) fun tl a b r1 r2 => op_mod_int r1 r2 (by omega)
      exact ev_int1 (nm_builtin (cl := []) C'.T C'.X (H.built _ (by simp)) (by rfl) (by decide) rfl) (ev_item (ds := dI [x, y]) (k := 0) (nm_local (cl := []) (by rfl) (hin (List.mem_cons_self ..))) ev_int (by omega) rfl (by omega))
    refine wpAny_execs_cons (wpAny_Assign_Subscript ?_ (by rfl))
    refine Tr.goM (X := []) (B := [(src, listOf #[Value.int x tx, Value.int y ty] c)]) (mu := [(src, listOf #[Value.int x tx, Value.int y ty] c)]) (R := IsD (.int (x.fdiv top))) ?_ (fun _ h => nomatch h) hself S₃ fun tl₄ v₄ s₄ sh₄ S₄ r₄ => ?_
    · refine ev_bin (R₁ := IsD (.int x)) (R₂ := IsD (.int top)) ?_ (nm_local (cl := []) (by rfl) (.int _ _)) (mo_isD _) (mo_isD _) fun tl a b r1 r2 => op_div_int r1 r2 (by omega) (by omega)
      exact ev_item (ds := dI [x, y]) (k := 0) (nm_local (cl := []) (by rfl) (hin (List.mem_cons_self ..))) ev_int (by omega) rfl (by omega)
    refine nameX_L (cl := []) S₄.F (by rfl) ?_ (by rfl) (by rfl) (by decide)
    refine Tr.goM (X := []) (B := []) (mu := [(src, listOf #[Value.int x tx, Value.int y ty] c)]) (n := tl₄ ++ (tl₃ ++ (tl₂ ++ n))) (R := IsD (.int 0)) ev_int (fun _ h => nomatch h) (fun _ h => nomatch h) S₄ fun tl₅ v₅ s₅ sh₅ S₅ r₅ => ?_
    cases r₅
    cases r₄
    refine st_setlist (pre := []) (src := src) S₅ (by decide) (by decide) (by show (0 : Int) < 2; decide) fun s₆ sh₆ S₆ => ?_
    refine wpAny_execs_cons ?_
    cases r₃ with
    | int _ t₃ =>
    rename_i t₄
    refine st_return (mu := [(src, listOf #[Value.int (x.fdiv top) t₄, Value.int y ty] c)]) (n := tl₅ ++ (tl₄ ++ (tl₃ ++ (tl₂ ++ n)))) (X := []) (B := []) (R := fun _ v => v = .int (x.fmod top) t₃) (nm_local (cl := []) (by rfl) rfl) (fun _ h => nomatch h) (fun _ h => nomatch h) S₆ fun tl₇ v₇ s₇ sh₇ S₇ r₇ => ?_
    subst r₇
    refine ⟨_, _, _, rfl, ((((((sh₂.trans sh₃).trans sh₄).trans sh₅).trans sh₆).trans sh₇)), S₇, fun s'' sh S' => ?_⟩
    exact ⟨tl₇ ++ (tl₅ ++ (tl₄ ++ (tl₃ ++ tl₂))), _, ⟨_, _, _, _, _, rfl, fdiv_nn h1 hx, hy, hy'⟩, sh, by simpa only [List.append_assoc, List.cons_append, List.nil_append] using S', _, _, rfl, fmod_rng h1⟩
  · -- a fresh draw
    refine wpAny_execs_nil ?_
    refine wpAny_execs_cons (wpAny_Assign_Subscript ?_ (by rfl))
    have hb1 : (y * 39373).natAbs < 2 ^ 64 := by omega
    refine Tr.goM (X := []) (B := [(src, listOf #[Value.int x tx, Value.int y ty] c)]) (mu := [(src, listOf #[Value.int x tx, Value.int y ty] c)]) (R := IsD (.int ((y * 39373 + 7).fmod 2147483647))) ?_ (fun _ h => nomatch h) hself S₂ fun tl₄ v₄ s₄ sh₄ S₄ r₄ => ?_
    · refine ev_bin (R₁ := IsD (.int (y * 39373 + 7))) (R₂ := IsD (.int 2147483647)) ?_ ev_int (mo_isD _) (mo_isD _) fun tl a b r1 r2 => op_mod_int r1 r2 (by omega)
      refine ev_int1 (nm_builtin (cl := []) C'.T C'.X (H.built _ (by simp)) (by rfl) (by decide) rfl) ?_
      refine ev_bin (R₁ := IsD (.int (y * 39373))) (R₂ := IsD (.int 7)) ?_ ev_int (mo_isD _) (mo_isD _) fun tl a b r1 r2 => op_add_int r1 r2
      refine ev_bin (R₁ := IsD (.int y)) (R₂ := IsD (.int 39373)) ?_ ev_int (mo_isD _) (mo_isD _) fun tl a b r1 r2 => op_mul_int r1 r2 (IntMulOk.of_left (intBits_le_64 (by omega) (by omega)))
      exact ev_item (ds := dI [x, y]) (k := 1) (nm_local (cl := []) (by rfl) (hin (List.mem_cons_self ..))) ev_int (by omega) rfl (by omega)
    refine nameX_L (cl := []) S₄.F (by rfl) ?_ (by rfl) (by rfl) (by decide)
    refine Tr.goM (X := []) (B := []) (mu := [(src, listOf #[Value.int x tx, Value.int y ty] c)]) (n := tl₄ ++ (tl₂ ++ n)) (R := IsD (.int 1)) ev_int (fun _ h => nomatch h) (fun _ h => nomatch h) S₄ fun tl₅ v₅ s₅ sh₅ S₅ r₅ => ?_
    cases r₅
    have hz := fmod_rng (a := y * 39373 + 7) (b := 2147483647) (by omega)
    generalize (y * 39373 + 7).fmod 2147483647 = z at *
    cases r₄ with
    | int _ tz =>
    refine st_setlist (pre := []) (src := src) S₅ (by decide) (by decide) (by show (1 : Int) < 2; decide) fun s₆ sh₆ S₆ => ?_
    refine wpAny_execs_cons ?_
    refine st_return (mu := [(src, listOf #[Value.int x tx, Value.int z tz] c)]) (n := tl₅ ++ (tl₄ ++ (tl₂ ++ n))) (X := []) (B := [(src, listOf #[Value.int x tx, Value.int z tz] c)]) (R := IsD (.int ((((z * z).fmod 2147483629).fdiv 32).fmod top))) ?_ (fun _ h => nomatch h) hself S₆ fun tl₇ v₇ s₇ sh₇ S₇ r₇ => ?_
    · refine ev_bin (R₁ := IsD (.int (((z * z).fmod 2147483629).fdiv 32))) (R₂ := IsD (.int top)) ?_ (nm_local (cl := []) (by rfl) (.int _ _)) (mo_isD _) (mo_isD _) fun tl a b r1 r2 => op_mod_int r1 r2 (by omega)
      refine ev_int1 (nm_builtin (cl := []) C'.T C'.X (H.built _ (by simp)) (by rfl) (by decide) rfl) ?_
      refine ev_bin (R₁ := IsD (.int ((z * z).fmod 2147483629))) (R₂ := IsD (.int 32)) ?_ ev_int (mo_isD _) (mo_isD _) fun tl a b r1 r2 => op_div_int r1 r2 (by omega) (by omega)
      refine ev_bin (R₁ := IsD (.int (z * z))) (R₂ := IsD (.int 2147483629)) ?_ ev_int (mo_isD _) (mo_isD _) fun tl a b r1 r2 => op_mod_int r1 r2 (by omega)
      refine ev_int1 (nm_builtin (cl := []) C'.T C'.X (H.built _ (by simp)) (by rfl) (by decide) rfl) ?_
      refine ev_bin (R₁ := IsD (.int z)) (R₂ := IsD (.int z)) ?_ ?_ (mo_isD _) (mo_isD _) fun tl a b r1 r2 => op_mul_int r1 r2 (IntMulOk.of_left (intBits_le_64 (by omega) (by omega)))
      · exact ev_item (ds := dI [x, z]) (k := 1) (nm_local (cl := []) (by rfl) (hin (List.mem_cons_self ..))) ev_int (by omega) rfl (by omega)
      · exact ev_item (ds := dI [x, z]) (k := 1) (nm_local (cl := []) (by rfl) (hin (List.mem_cons_self ..))) ev_int (by omega) rfl (by omega)
    cases r₇ with
    | int _ t₇ =>
    refine ⟨_, _, _, rfl, (((((sh₂.trans sh₄).trans sh₅).trans sh₆).trans sh₇)), S₇, fun s'' sh S' => ?_⟩
    exact ⟨tl₇ ++ (tl₅ ++ (tl₄ ++ tl₂)), _, ⟨_, _, _, _, _, rfl, hx, hz.1, hz.2⟩, sh, by simpa only [List.append_assoc, List.cons_append, List.nil_append] using S', _, _, rfl, fmod_rng h1⟩
end
end Mine

namespace Mine

section
variable {prog : Program} {w : World} {A : Around} {h₀ : Heap} {L : Addr} {m : Loc} {X B : Led} {env : Env} {K : Frag} {dp un : Nat}

/-- x, y = (e₁, e₂) -/
theorem st_pair {x y : Str} {px py tp p pos : Pos} {k k' : Nat} {e₁ e₂ : Expr} {s : Shared} {Q : Flow → Shared → Prop} (hh : A.handled = none)
    (h : wpAny (model prog w) A (eval e₁ env) (fun v₁ s₁ => wpAny (model prog w) A (eval e₂ env) (fun v₂ s₂ => ∃ n₂, St h₀ L m n₂ s₂.heap ∧ ∀ tl s₃, Sh s₂ s₃ → St h₀ L m (tl ++ n₂) s₃.heap →
      wpAny (model prog w) A (storeName env y v₂) (fun _ s₄ => wpAny (model prog w) A (storeName env x v₁) (fun _ => Q .next) NF s₄) NF s₃) NF s₁) NF s)
    (hs : swapsWithSole [.Tuple [.Name x px, .Name y py] k tp] (.Tuple [e₁, e₂] k' p) pos.line env = pure false := by rfl)
    (hw : swappedStores [.Tuple [.Name x px, .Name y py] k tp] (.Tuple [e₁, e₂] k' p) env = pure (some [x, y]) := by rfl)
    (he₁ : starEach [e₁, e₂] env = (false, eval e₁ env) :: starEach [e₂] env := by rfl) (he₂ : starEach [e₂] env = (false, eval e₂ env) :: starEach [] env := by rfl) :
    wpAny (model prog w) A (exec (.Assign [.Tuple [.Name x px, .Name y py] k tp] (.Tuple [e₁, e₂] k' p) pos) env) Q NF s := by
  refine Assign_Tuple_swapped (names := [x, y]) ?_ hs hw
  refine Tuple_ (wpAny_items_cons (he := he₁) (wpAny_mono h ?_ fun _ _ e => e))
  intro v₁ s₁ h₁
  refine wpAny_items_cons (he := he₂) (wpAny_mono h₁ ?_ fun _ _ e => e)
  rintro v₂ s₂ ⟨n₂, S₂, h₂⟩
  refine wpAny_items_nil ?_
  refine newTuple_N S₂.F S₂.N (fun h₃ F₃ N₃ => ?_) (by rw [sizeLine_eq]; show 2 ≤ _; omega)
  have S₃ := S₂.cons F₃ N₃ S₂.lt
  refine unpackItemsN_ S₃.F S₃.N (S₃.N.isTup (List.mem_cons_self ..)) hh rfl fun h₄ F₄ N₄ => ?_
  have S₄ : St h₀ L m ([(s₂.heap.objs.size, { cls := .type "tuple", data := .seq [v₁, v₂].toArray })] ++ n₂) h₄ := ⟨F₄, N₄, S₃.nd⟩
  have q := h₂ _ { s₂ with heap := h₄ } (Sh.mk s₂ h₄ s₂.toks) S₄
  refine assignInOrder_cons (bindName_ (wpAny_mono q ?_ fun _ _ e => e))
  intro _ s₅ q₅
  refine assignInOrder_cons (bindName_ (wpAny_mono q₅ ?_ fun _ _ e => e))
  intro _ s₆ q₆
  exact assignInOrder_nil q₆

theorem ev_callFS {src g : Addr} {f e : Expr} {rest : List Expr} {pos : Pos} {RA : Led → List Value → Prop} {R : Led → Value → Prop} (hK : K.In h₀) (hkeep : keepIn K (.ref g) = true) (hf : Tr prog w A h₀ L m X B (eval f env) (fun _ v => v = .ref g))
    (ha : Tr prog w A h₀ L m X B (spliced (backTo pos (starEach (e :: rest) env))) RA) (mA : Mo RA) (k : ∀ tl vs, RA (tl ++ B) vs → TrS prog w A h₀ L m X (tl ++ B) src (call (.ref g) vs) R)
    (hc : eval (.Call f (e :: rest) [] pos) env = (do callWith pos (← eval f env) [] (backTo pos (starEach (e :: rest) env)) (backToKw pos (keywordEach [] env))) := by rfl)
    (he : starEach (e :: rest) env = (false, eval e env) :: starEach rest env := by rfl) (hplain : (backTo pos (starEach rest env)).any (·.1) = false := by rfl) :
    TrS prog w A h₀ L m X B src (eval (.Call f (e :: rest) [] pos) env) R := by
  intro n s o G hX hB S
  refine Call_ (he := hc) ((TrS.of hf).go G hX hB S fun tl v o₁ s1 G1 sh1 S1 r1 => ?_)
  subst r1
  refine callWith_K (he := he) (hplain := hplain) hK hkeep ((TrS.of (ha.up' mA (tl := tl))).go G1 (sub_rr hX) (sub_app hB) S1 fun tl2 vs o₂ s2 G2 sh2 S2 r2 => ?_)
  rw [← List.append_assoc] at S2 r2
  refine ⟨hK.keeps S2.F.keep, (k (tl2 ++ tl) vs r2).go G2 (sub_rr hX) (sub_app hB) S2 fun tl3 v o₃ s3 G3 sh3 S3 r3 => ?_⟩
  rw [← List.append_assoc] at S3 r3
  exact ⟨tl3 ++ (tl2 ++ tl), o₃, G3, (sh1.trans sh2).trans sh3, S3, r3⟩

/-- a draw below a bound -/
def Dr (top : Int) : Led → Value → Prop := fun _ v => ∃ d t, v = .int d t ∧ 0 ≤ d ∧ d < top

theorem ev_itemS {src : Addr} {value slice : Expr} {pos} {ds : List Dat} (hv : Tr prog w A h₀ L m X B (eval value env) (IsD (.list ds))) (hi : TrS prog w A h₀ L m X B src (eval slice env) (Dr ds.length)) (hz : ds.length ≤ 1000)
    (hs : ∀ l k u, subscripted slice false (.ref l) (.int k u) = operate [.ref l, .int k u] (getItem (.ref l) (.int k u)) := by intro _ _ _; with_unfolding_all rfl) :
    TrS prog w A h₀ L m X B src (eval (.Subscript value slice pos) env) (fun n v => ∃ d ∈ ds, DatIn n v d) := by
  intro n s o G hX hB S
  refine Subscript_ ((TrS.of hv).go G hX hB S fun tl a o₁ s1 G1 sh1 S1 r1 => ?_)
  refine hi.go G1 (sub_rr hX) (sub_rr hB) S1 fun tl2 b o₂ s2 G2 sh2 S2 r2 => ?_
  rw [← List.append_assoc] at S2
  obtain ⟨k, t, rfl, h0, hlt⟩ := r2
  cases r1 with
  | list hm hd' =>
    refine kd_item S2.N (List.mem_cons_of_mem _ (by rw [List.append_assoc]; exact sub_right _ (sub_app hB _ hm))) hd' h0 (by omega) (by omega) (fun v d' e _ r => ?_) (hs _ _ _)
    exact ⟨tl2 ++ tl, o₂, G2, sh1.trans sh2, S2, d', List.mem_of_getElem? e, by rw [List.append_assoc]; exact r.mono sub_right⟩

/-- xs[:k], where k is drawn -/
theorem ev_uptoS {src : Addr} {x : Str} {px pos p : Pos} {e : Expr} {ds : List Dat} {P : Int → Prop} (hv : Tr prog w A h₀ L m X B (eval (.Name x px) env) (IsD (.list ds))) (hi : TrS prog w A h₀ L m X B src (eval e env) (fun _ v => ∃ k t, v = .int k t ∧ P k))
    (h0 : ∀ k, P k → 0 ≤ k) (hz : ds.length ≤ sizeLine)
    (hs : ∀ l u, subscripted (.Slice none (some e) none p) false (.ref l) (.ref u) = operate [.ref u, .ref l] (getItem (.ref l) (.ref u)) := by intro _ _; with_unfolding_all rfl) :
    TrS prog w A h₀ L m X B src (eval (.Subscript (.Name x px) (.Slice none (some e) none p) pos) env) (fun n v => ∃ k, P k ∧ DatIn n v (.list (ds.take k.toNat))) := by
  intro n s o G hX hB S
  refine Subscript_ ((TrS.of hv).go G hX hB S fun tl a o₁ s1 G1 sh1 S1 r1 => ?_)
  refine wpAny_Slice ?_
  rw [PySem.evalPart_none]
  refine wpAny_pure ?_
  rw [PySem.evalPart_some]
  refine hi.go G1 (sub_rr hX) (sub_rr hB) S1 fun tl2 b o₂ s2 G2 sh2 S2 r2 => ?_
  refine wpAny_pure ?_
  rw [← List.append_assoc] at S2
  obtain ⟨k, t, rfl, hk⟩ := r2
  cases r1 with
  | list hm hd' =>
    rename_i l us c
    refine kmk_slice S2.F S2.N (News.isList S2.N (List.mem_cons_of_mem _ (by rw [List.append_assoc]; exact sub_right _ (sub_app hB _ hm)))) .none (.int _ _) (fun D h' F' N' l1 => ?_) (hs _ _) (fun _ => rfl) (by rw [List.size_toArray, hd'.length]; exact hz)
    rw [pick_upto _ (h0 k hk)] at N'
    have S3 := (S2.cons F' N' l1).perm (n' := (src, o₂) :: (((D, listOf (us.take k.toNat).toArray 0) :: (tl2 ++ tl)) ++ n)) (List.Perm.swap ..)
    refine ⟨(D, listOf (us.take k.toNat).toArray 0) :: (tl2 ++ tl), o₂, G2, (sh1.trans sh2).trans (Sh.mk s2 h' s2.toks), S3, k, hk, ?_⟩
    exact DatIn.list (List.mem_cons_self ..) ((DatAll.take hd' _).mono fun p hp => List.mem_cons_of_mem _ (sub_mid p hp))

theorem law_one_spec (H : KH K) (C : Cx prog w K A env h₀ L dp un) (hd : dp ≤ 500) (hu : un ≤ 5000) {src : Addr} {b : Value} {ds : List Dat} (hb : DatIn B b (.list ds)) (h1 : 1 ≤ ds.length) (h2 : ds.length ≤ 1000) :
    TrS prog w A h₀ L m X B src (call (.ref 59) [.ref src, b]) (fun n v => ∃ d ∈ ds, DatIn n v d) := by
  obtain ⟨⟨oc, od, doc, pm, an, cdv, ct, osl, ho, hcd⟩, _, _⟩ := H.one
  intro n s o G hX hB S
  refine st_call (binds := [("source", .ref src), ("things", b)]) C ho hcd (Nat.lt_of_le_of_lt hd (by decide)) (fun s => BindsTo.of_eq (by rfl)) (by exact locs (by rfl)) rfl rfl rfl (by decide) S ?_
  intro A' g L' s₁ C' sh₁ _ S₁
  refine wpAny_execs_cons (wpAny_Return_some ?_)
  refine (ev_itemS (X := []) (B := B) (src := src) (ds := ds) (nm_local (cl := []) (by rfl) hb) ?_ h2).go G (fun _ h => nomatch h) hB S₁ fun tl v o₂ s₂ G₂ sh₂ S₂ r₂ => ?_
  · refine ev_callFS C'.X H.take.keep (nm_global (cl := []) C'.T C'.X H.take.ns rfl) (items2 mo_eq (mo_isD (.int (ds.length : Nat))) (nm_local (cl := []) (R := fun _ v => v = .ref src) (by rfl) rfl) (ev_len (nm_builtin (cl := []) C'.T C'.X (H.built _ (by simp)) (by rfl) (by decide) rfl) (nm_local (cl := []) (by rfl) hb) (by omega))) (mo2 mo_eq (mo_isD _)) fun tl vs r => ?_
    obtain ⟨x, y, rfl, rfl, r2⟩ := r
    exact law_take_spec H C' (by omega) (by omega) r2 (by omega) (by omega)
  · refine ⟨_, _, _, rfl, sh₂, S₂, fun s'' sh S' => ⟨tl, o₂, G₂, sh, S', r₂⟩⟩
end
end Mine

namespace Mine

theorem take_drop_perm {l f : List Int} {d : Nat} (h : d < l.length) : ((l.take d ++ l.drop (d + 1)) ++ (f ++ [l.getD d 0])).Perm (l ++ f) := by
  have e : l = l.take d ++ l.getD d 0 :: l.drop (d + 1) := by
    rw [List.getD_eq_getElem?_getD, List.getElem?_eq_getElem h]
    simp
  have p1 : ((l.take d ++ l.drop (d + 1)) ++ (f ++ [l.getD d 0])).Perm (l.getD d 0 :: ((l.take d ++ l.drop (d + 1)) ++ f)) := by
    rw [← List.append_assoc]
    exact List.perm_append_singleton _ _
  refine p1.trans ?_
  have p2 : (l.getD d 0 :: ((l.take d ++ l.drop (d + 1)) ++ f)).Perm ((l.take d ++ l.getD d 0 :: l.drop (d + 1)) ++ f) := by
    rw [← List.cons_append]
    exact List.Perm.append_right f List.perm_middle.symm
  rw [← e] at p2
  exact p2

section
variable {prog : Program} {w : World} {A : Around} {h₀ : Heap} {L : Addr} {m : Loc} {X B : Led} {env : Env} {K : Frag} {dp un : Nat}

theorem law_shuffled_spec (H : KH K) (C : Cx prog w K A env h₀ L dp un) (hd : dp ≤ 500) (hu : un ≤ 5000) {src : Addr} {b : Value} {numbers : List Int} (hb : DatIn B b (dL numbers)) (hz : numbers.length ≤ 900) :
    TrS prog w A h₀ L m X B src (call (.ref 66) [.ref src, b]) (fun n v => ∃ l : List Int, l.Perm numbers ∧ DatIn n v (dL l)) := by
  obtain ⟨⟨oc, od, doc, pm, an, cdv, ct, osl, ho, hcd⟩, _, _⟩ := H.shuffled
  intro n s o G hX hB S
  refine st_call (binds := [("source", .ref src), ("things", b)]) C ho hcd (Nat.lt_of_le_of_lt hd (by decide)) (fun s => BindsTo.of_eq (by rfl)) (by exact locs (by rfl)) rfl rfl rfl (by decide) S ?_
  intro A' g L' s₁ C' sh₁ _ S₁
  have hu' : A'.units + 64 < cLine := fit_room C'.u (by omega)
  refine wpAny_execs_cons ?_
  refine st_pair (h₀ := g) (L := L') (m := fun y => List.lookup y [(Str.ofString "source", Value.ref src), (Str.ofString "things", b)].reverse) C'.hh ?_
  refine Tr.goM (mu := [(src, o)]) (n := n) (X := []) (B := B) (R := IsD (dL numbers)) ?_ (fun _ h => nomatch h) (sub_rr hB) S₁ fun tl₂ v₂ s₂ sh₂ S₂ r₂ => ?_
  · refine ev_callT (T := "list") (nm_builtin (cl := []) C'.T C'.X (H.built _ (by simp)) (by rfl) (by decide) rfl) (items1 (mo_isD (dL numbers)) (nm_local (cl := []) (by rfl) hb)) (mo1 (mo_isD _)) fun tl vs r => ?_
    obtain ⟨v, rfl, r⟩ := r
    exact cl_list r (by rw [dI_length, sizeLine_eq]; omega)
  refine List_ (PySem.Calls.spliced_nil ?_)
  refine newList_N S₂.F S₂.N (fun h₃ F₃ N₃ => ?_) (Nat.zero_le _)
  have S₃ := S₂.cons F₃ N₃ S₂.lt
  generalize s₂.heap.objs.size = D at *
  refine ⟨_, S₃, fun tl₄ s₄ sh₄ S₄ => ?_⟩
  have S₄' := S₄.perm (n' := (src, o) :: ([(D, listOf ([] : List Value).toArray 0)] ++ ((tl₄ ++ tl₂) ++ n))) (by
    have := List.perm_append_comm_assoc [(src, o), (D, listOf ([] : List Value).toArray 0)] tl₄ (tl₂ ++ n)
    rw [List.append_assoc]
    exact this.trans (List.Perm.append_left _ (List.Perm.swap ..)))
  refine storeX_L (cl := []) S₄'.F S₄'.N (fun h₅ F₅ N₅ => ?_) (by rfl) (by rfl)
  refine storeX_L (cl := []) F₅ N₅ (fun h₆ F₆ N₆ => ?_) (by rfl) (by rfl)
  have S₆ : St g L' (fun y => if y = "left" then some v₂ else if y = "found" then some (.ref D) else List.lookup y [(Str.ofString "source", Value.ref src), (Str.ofString "things", b)].reverse) ((src, o) :: ([(D, listOf ([] : List Value).toArray 0)] ++ ((tl₄ ++ tl₂) ++ n))) h₆ := ⟨F₆, N₆, S₄'.nd⟩
  have sh₆ : Sh s₁ { s₄ with heap := h₆, toks := s₄.toks + 1 + 1 } := (sh₂.trans ((Sh.mk s₂ h₃ _).trans sh₄)).trans (Sh.mk s₄ h₆ _)
  refine wpAny_execs_cons ?_
  refine st_while (fun k m₁ n₁ => ∃ us c o l f vl tl, n₁ = (src, o) :: ([(D, listOf us.toArray c)] ++ (tl ++ n)) ∧ GS o ∧ k = l.length ∧ (l ++ f).Perm numbers ∧ IntsAre us f ∧ DatIn (tl ++ B) vl (dL l) ∧ m₁ "left" = some vl ∧ m₁ "found" = some (.ref D) ∧ m₁ "source" = some (.ref src)) numbers.length S₆
    ⟨[], 0, o, numbers, [], v₂, tl₄ ++ tl₂, rfl, G, rfl, by rw [List.append_nil], .nil, r₂.mono (by intro p hp; rw [List.append_assoc]; exact sub_right _ hp), by rfl, by rfl, by rfl⟩ ?_
  rintro k m₁ n₁ s₇ sh₇ S₇ ⟨us, c, o₇, l, f, vl, tl, rfl, G₇, rfl, hp, hus, hvl, hml, hmf, hms⟩
  have hlen : l.length + f.length = numbers.length := by rw [← List.length_append]; exact hp.length_eq
  have hB₇ : ∀ p ∈ tl ++ B, p ∈ tl ++ n := sub_app hB
  refine Tr.goM (mu := [(src, o₇), (D, listOf us.toArray c)]) (n := tl ++ n) (X := []) (B := tl ++ B) (R := IsB (decide (l ≠ []))) ?_ (fun _ h => nomatch h) (sub_rr hB₇) S₇ fun tl₈ b₈ s₈ sh₈ S₈ r₈ => ?_
  · refine ts_cmp (R₁ := IsD (dL l)) (R₂ := IsD (dL [])) (nm_local (cl := []) hml hvl) (ev_list tr_items_nil (fun n vs e => by rw [e]; exact .nil) (Nat.zero_le _)) (mo_isD _) (mo_isD _) fun tl x y r1 r2 => cp_ne_list r1 r2 (dI_ok _) (dI_ok _) hu' (by rw [dI_inj]; simp)
  have r₈ : b₈ = decide (l ≠ []) := r₈
  subst r₈
  by_cases hl : l = []
  · have e : decide (l ≠ []) = false := by simp [hl]
    simp only [e, Bool.false_eq_true, if_false]
    subst hl
    refine wpAny_execs_cons ?_
    refine st_return (mu := [(src, o₇)]) (n := (D, listOf us.toArray c) :: (tl₈ ++ (tl ++ n))) (X := []) (B := [(D, listOf us.toArray c)]) (R := IsD (dL f)) (nm_local (cl := []) hmf (DatIn.list (List.mem_cons_self ..) (ofInts _ hus))) (fun _ h => nomatch h) (fun p hp => ?_) S₈ fun tl₉ v₉ s₉ sh₉ S₉ r₉ => ?_
    · rw [List.mem_singleton.mp hp]
      exact sub_right _ (List.mem_cons_self ..)
    · refine ⟨_, _, _, rfl, ((sh₆.trans sh₇).trans sh₈).trans sh₉, S₉, fun s'' sh S' => ?_⟩
      refine ⟨tl₉ ++ ((D, listOf us.toArray c) :: (tl₈ ++ tl)), o₇, G₇, sh, by simpa only [List.append_assoc, List.cons_append, List.nil_append] using S', f, hp, r₉.mono fun p hp => ?_⟩
      rcases List.mem_append.mp hp with hp | hp
      · exact List.mem_append_left _ (List.mem_append_left _ hp)
      · rw [List.mem_singleton.mp hp]
        exact List.mem_append_left _ (sub_right _ (List.mem_cons_self ..))
  · have e : decide (l ≠ []) = true := by simp [hl]
    have hl1 : 1 ≤ l.length := List.length_pos_iff.mpr hl
    simp only [e, if_true]
    have S₈' : St g L' m₁ ((src, o₇) :: ((D, listOf us.toArray c) :: (tl₈ ++ (tl ++ n)))) s₈.heap := S₈
    -- at
    refine wpAny_execs_cons (wpAny_Assign_Name (hs := by rfl) ?_)
    refine TrS.go (X := []) (B := tl ++ B) (R := Dr (l.length : Nat)) ?_ G₇ (fun _ h => nomatch h) (fun p hp => List.mem_cons_of_mem _ (sub_rr hB₇ p hp)) S₈' fun tl₉ v₉ o₉ s₉ G₉ sh₉ S₉ r₉ => ?_
    · refine ev_callFS C'.X H.take.keep (nm_global (cl := []) C'.T C'.X H.take.ns rfl) (items2 mo_eq (mo_isD (.int ((dI l).length : Nat))) (nm_local (cl := []) (R := fun _ v => v = .ref src) hms rfl) (ev_len (nm_builtin (cl := []) C'.T C'.X (H.built _ (by simp)) (by rfl) (by decide) rfl) (nm_local (cl := []) hml hvl) (by rw [dI_length]; omega))) (mo2 mo_eq (mo_isD _)) fun tl vs r => ?_
      obtain ⟨x, y, rfl, rfl, r2⟩ := r
      rw [dI_length] at r2
      exact law_take_spec H C' (by omega) (by omega) r2 (by omega) (by omega)
    obtain ⟨d, t, rfl, hd0, hdl⟩ := r₉
    have S₉' := S₉.perm (n' := (src, o₉) :: ([(D, listOf us.toArray c)] ++ ((tl₉ ++ tl₈) ++ (tl ++ n)))) (List.Perm.cons _ (by rw [List.append_assoc]; exact (List.perm_middle (a := (D, listOf us.toArray c)) (l₁ := tl₉) (l₂ := tl₈ ++ (tl ++ n))).symm))
    refine storeX_L (cl := []) S₉'.F S₉'.N (fun hA FA NA => ?_) (by rfl) (by rfl)
    have SA : St g L' (fun y => if y = "at" then some (.int d t) else m₁ y) (([(src, o₉)] ++ (D, listOf us.toArray c) :: []) ++ ((tl₉ ++ tl₈) ++ (tl ++ n))) hA := ⟨FA, NA, S₉'.nd⟩
    have hn : d.toNat < l.length := by omega
    have hBA : ∀ p ∈ tl ++ B, p ∈ (tl₉ ++ tl₈) ++ (tl ++ n) := sub_rr hB₇
    -- found.append
    refine wpAny_execs_cons ?_
    refine st_append (X := []) (B := tl ++ B) (R := IsD (.int (l.getD d.toNat 0))) (mu₁ := [(src, o₉)]) (mu₂ := []) (D := D) (its := us.toArray) (c := c) SA (fun _ h => nomatch h) (sub_rr hBA) (fun n' s' _ S' Q hQ => nameX_L (cl := []) S'.F (up1 hmf (by decide)) hQ) (mo_isD _) ?_ (by rw [List.size_toArray, hus.length, sizeLine_eq]; omega) fun tlB vB sB shB rB SB => ?_
    · exact ev_item (ds := dI l) (k := d) (nm_local (cl := []) (up1 hml (by decide)) hvl) (nm_local (cl := []) (v := .int d t) (by rfl) (.int _ _)) hd0 (by rw [dI_get, getD_of hn (d := 0)]; rfl) (by omega)
    -- left
    refine wpAny_execs_cons ?_
    refine st_assign (cl := []) (mu := [(src, o₉), (D, listOf (us.toArray.push vB) (c + 1))]) (n := tlB ++ ((tl₉ ++ tl₈) ++ (tl ++ n))) (X := []) (B := tl ++ B) (R := IsD (dL (l.take d.toNat ++ l.drop (d.toNat + 1)))) ?_ (fun _ h => nomatch h) (sub_rr (sub_rr hBA)) SB fun tlC vC sC shC SC rC => ?_
    · refine ev_bin (R₁ := IsD (dL (l.take d.toNat))) (R₂ := IsD (dL (l.drop (d.toNat + 1)))) ?_ ?_ (mo_isD _) (mo_isD _) fun tl a b r1 r2 => (op_add_list r1 r2 ?_).mono fun _ _ r => ?_
      · refine (ev_upto (k := d) (nm_local (cl := []) (up1 hml (by decide)) hvl) (nm_local (cl := []) (v := .int d t) (by rfl) (.int _ _)) hd0 (by rw [dI_length, sizeLine_eq]; omega)).mono fun _ _ r => ?_
        rw [dI_take] at r
        exact r
      · refine (ev_from (k := d + 1) (nm_local (cl := []) (up1 hml (by decide)) hvl) (ev_bin (R₁ := IsD (.int d)) (R₂ := IsD (.int 1)) (nm_local (cl := []) (v := .int d t) (by rfl) (.int _ _)) ev_int (mo_isD _) (mo_isD _) fun tl a b r1 r2 => op_add_int r1 r2) (by omega) (by rw [dI_length, sizeLine_eq]; omega)).mono fun _ _ r => ?_
        rw [show (d + 1).toNat = d.toNat + 1 by omega, dI, ← List.map_drop] at r
        exact r
      · rw [dI_length, dI_length, List.length_take, List.length_drop, sizeLine_eq]; omega
      · rw [dI_append] at r
        exact r
    refine wpAny_execs_nil ⟨rfl, (l.take d.toNat ++ l.drop (d.toNat + 1)).length, _, _, ?_, ((((sh₇.trans sh₈).trans sh₉).trans (Sh.mk s₉ hA _)).trans shB).trans shC, SC, us ++ [vB], c + 1, o₉, _, f ++ [l.getD d.toNat 0], vC, tlC ++ (tlB ++ ((tl₉ ++ tl₈) ++ tl)), ?_, G₉, rfl, (take_drop_perm hn).trans hp, intsSnoc hus rB, rC.mono ?_, by rfl, up2 hmf (by decide) (by decide), up2 hms (by decide) (by decide)⟩
    · rw [List.length_append, List.length_take, List.length_drop]; omega
    · simp only [List.append_assoc, List.cons_append, List.nil_append]
      simp
    · intro p hp
      simp only [List.append_assoc]
      rcases List.mem_append.mp hp with hp | hp
      · exact List.mem_append_left _ hp
      · exact sub_right _ (sub_right _ (sub_right _ (sub_right _ hp)))
end
end Mine

namespace Mine

section
variable {prog : Program} {w : World} {A : Around} {h₀ : Heap} {L : Addr} {m : Loc} {X B : Led} {env : Env} {K : Frag} {dp un : Nat}

theorem ev_neg {e : Expr} {pos : Pos} {i : Int} (h : Tr prog w A h₀ L m X B (eval e env) (IsD (.int i))) : Tr prog w A h₀ L m X B (eval (.UnaryOp .USub e pos) env) (IsD (.int (-i))) := by
  intro n s hX hB S
  refine wpAny_UnaryOp (h.go hX hB S fun tl v s1 sh1 S1 r1 => ?_)
  cases r1
  exact neg_int ⟨tl, sh1.trans (Sh.mk s1 _ _), S1, .int _ _⟩

theorem ev_lenL {f o : Expr} {pos : Pos} {l : Addr} {vals : List Value} (hL : h₀.IsList l vals.toArray) (hz : vals.length ≤ 1000) (hf : Tr prog w A h₀ L m X B (eval f env) (fun _ v => v = .builtin "len")) (h : Tr prog w A h₀ L m X B (eval o env) (fun _ v => v = .ref l))
    (hc : eval (.Call f [o] [] pos) env = (do callWith pos (← eval f env) [] (backTo pos (starEach [o] env)) (backToKw pos (keywordEach [] env))) := by rfl)
    (he : starEach [o] env = (false, eval o env) :: starEach [] env := by rfl) :
    Tr prog w A h₀ L m X B (eval (.Call f [o] [] pos) env) (IsD (.int (vals.length : Nat))) := by
  refine ev_callB (id := "len") (hc := hc) (he := he) (hplain := rfl) hf (items1 mo_eq h he) (mo1 mo_eq) fun tl vs r => ?_
  obtain ⟨v, rfl, rfl⟩ := r
  intro n s hX hB S
  exact call_len_list (S.F.lst hL) (by rw [List.size_toArray]; omega) ⟨[], Sh.mk s _ _, S, by rw [List.size_toArray]; exact .int _ _⟩

theorem ev_itemL {value slice : Expr} {pos} {l : Addr} {vals : List Value} {zs : List Int} {k : Int} (hL : h₀.IsList l vals.toArray) (hI : IntsAre vals zs) (hv : Tr prog w A h₀ L m X B (eval value env) (fun _ v => v = .ref l)) (hi : Tr prog w A h₀ L m X B (eval slice env) (IsD (.int k)))
    (h0 : 0 ≤ k) (hk : k < (zs.length : Nat)) (hfit : k < 2 ^ 63)
    (hs : ∀ l u, subscripted slice false (.ref l) (.int k u) = operate [.ref l, .int k u] (getItem (.ref l) (.int k u)) := by intro _ _; with_unfolding_all rfl) :
    Tr prog w A h₀ L m X B (eval (.Subscript value slice pos) env) (fun _ v => ∃ i t, v = .int i t) := by
  intro n s hX hB S
  refine Subscript_ (hv.go hX hB S fun tl a s1 sh1 S1 r1 => ?_)
  subst r1
  refine (hi.up' (mo_isD _) (tl := tl)).go (sub_rr hX) (sub_app hB) S1 fun tl2 b s2 sh2 S2 r2 => ?_
  rw [← List.append_assoc] at S2
  cases r2
  exact item_anyK (S2.F.lst hL) hI h0 hk hfit (fun t => ⟨tl2 ++ tl, sh1.trans sh2, S2, _, _, rfl⟩) (hs _ _)

theorem law_pool_spec (H : KH K) (C : Cx prog w K A env h₀ L dp un) (hd : dp ≤ 600) (hu : un ≤ 6000) {l : Addr} {vals : List Value} {zs : List Int} (hL : h₀.IsList l vals.toArray) (hI : IntsAre vals zs) (hz : zs.length ≤ 1000) {tk : Tok} {n : Led} {s : Shared} (S : St h₀ L m n s.heap) :
    wpAny (model prog w) A (call (.ref 45) [.ref l, .int 0 tk]) (fun v s' => ∃ src o tl, v = .ref src ∧ GS o ∧ Sh s s' ∧ St h₀ L m ((src, o) :: (tl ++ n)) s'.heap) NF s := by
  obtain ⟨⟨oc, od, doc, pm, an, cdv, ct, osl, ho, hcd⟩, _, _⟩ := H.pool
  refine st_call (binds := [("script", .ref l), ("k", .int 0 tk)]) C ho hcd (Nat.lt_of_le_of_lt hd (by decide)) (fun s => BindsTo.of_eq (by rfl)) (by exact locs (by rfl)) rfl rfl rfl (by decide) S ?_
  intro A' g L' s₁ C' sh₁ hkeep S₁
  have hLg : g.IsList l vals.toArray := by
    obtain ⟨o, ho, r⟩ := hL
    exact ⟨o, hkeep _ _ ho, r⟩
  have hlen := hI.length
  refine wpAny_execs_cons ?_
  refine st_assign (cl := []) (mu := []) (n := n) (X := []) (B := []) (R := IsD (.int 0)) ev_int (fun _ h => nomatch h) (fun _ h => nomatch h) S₁ fun tl₂ v₂ s₂ sh₂ S₂ r₂ => ?_
  cases r₂ with
  | int _ t₂ =>
  refine wpAny_execs_cons (wpAny_mono (Q := fun f s' => f = .next ∧ ∃ m' n' c t, Sh s₁ s' ∧ St g L' m' (n' ++ n) s'.heap ∧ m' "cell" = some (.int c t) ∧ m' "k" = some (.int 0 tk)) ?_ ?_ fun _ _ e => e)
  · refine st_if (mu := []) (n := tl₂ ++ n) (X := []) (B := []) (b := decide ((0 : Int) < (vals.length : Nat))) ?_ (fun _ h => nomatch h) (fun _ h => nomatch h) S₂ (fun hpos tl₃ s₃ sh₃ S₃ => ?_) fun hneg tl₃ s₃ sh₃ S₃ => ?_
    · refine ts_cmp (R₁ := IsD (.int 0)) (R₂ := IsD (.int (vals.length : Nat))) (nm_local (cl := []) (by rfl) (.int _ _)) ?_ (mo_isD _) (mo_isD _) fun tl a b r1 r2 => cp_lt_int r1 r2
      exact ev_lenL hLg (by omega) (nm_builtin (cl := []) C'.T C'.X (H.built _ (by simp)) (by rfl) (by decide) rfl) (nm_local (cl := []) (by rfl) rfl)
    · have hpos := of_decide_eq_true hpos
      refine wpAny_execs_cons ?_
      refine st_assign (cl := []) (mu := []) (n := tl₃ ++ (tl₂ ++ n)) (X := []) (B := []) (R := fun _ v => ∃ i t, v = .int i t) (ev_itemL (k := 0) hLg hI (nm_local (cl := []) (by rfl) rfl) (nm_local (cl := []) (by rfl) (.int _ _)) (by decide) (by omega) (by decide)) (fun _ h => nomatch h) (fun _ h => nomatch h) S₃ fun tl₄ v₄ s₄ sh₄ S₄ r₄ => ?_
      obtain ⟨i, t, rfl⟩ := r₄
      exact wpAny_execs_nil ⟨rfl, _, tl₄ ++ (tl₃ ++ tl₂), i, t, (sh₂.trans sh₃).trans sh₄, by simpa only [List.append_assoc, List.nil_append] using S₄, by rfl, by rfl⟩
    · exact wpAny_execs_nil ⟨rfl, _, tl₃ ++ tl₂, 0, t₂, sh₂.trans sh₃, by simpa only [List.append_assoc, List.nil_append] using S₃, by rfl, by rfl⟩
  rintro _ s₃ ⟨rfl, m', n', c, t, sh₃, S₃, hmc, hmk⟩
  -- big
  refine wpAny_execs_cons ?_
  refine st_assign (cl := []) (mu := []) (n := n' ++ n) (X := []) (B := []) (R := IsD (.int (max c (-1 - c)))) ?_ (fun _ h => nomatch h) (fun _ h => nomatch h) S₃ fun tl₄ v₄ s₄ sh₄ S₄ r₄ => ?_
  · refine ev_callB (id := "max") (nm_builtin (cl := []) C'.T C'.X (H.built _ (by simp)) (by rfl) (by decide) rfl) (items2 (mo_isD (.int c)) (mo_isD (.int (-1 - c))) ?_ ?_) (mo2 (mo_isD _) (mo_isD _)) fun tl vs r => ?_
    · exact ev_int1 (nm_builtin (cl := []) C'.T C'.X (H.built _ (by simp)) (by rfl) (by decide) rfl) (nm_local (cl := []) hmc (.int _ _))
    · refine ev_int1 (nm_builtin (cl := []) C'.T C'.X (H.built _ (by simp)) (by rfl) (by decide) rfl) ?_
      exact ev_bin (R₁ := IsD (.int (-1))) (R₂ := IsD (.int c)) (ev_neg ev_int) (nm_local (cl := []) hmc (.int _ _)) (mo_isD _) (mo_isD _) fun tl a b r1 r2 => op_sub_int r1 r2
    · obtain ⟨x, y, rfl, r1, r2⟩ := r
      exact cl_max C'.hh r1 r2
  have hbig : 0 ≤ max c (-1 - c) := by omega
  generalize max c (-1 - c) = big at *
  cases r₄ with
  | int _ tb =>
  have hmod := fmod_rng (a := big) (b := 2147483629) (by omega)
  -- mixed
  refine wpAny_execs_cons ?_
  refine st_assign (cl := []) (mu := []) (n := tl₄ ++ (n' ++ n)) (X := []) (B := []) (R := IsD (.int (((big.fmod 2147483629 + 7919 * 0 * 0 + 31 * 0 + 17) * 48271).fmod 2147483647))) ?_ (fun _ h => nomatch h) (fun _ h => nomatch h) S₄ fun tl₅ v₅ s₅ sh₅ S₅ r₅ => ?_
  · refine ev_bin (R₁ := IsD (.int ((big.fmod 2147483629 + 7919 * 0 * 0 + 31 * 0 + 17) * 48271))) (R₂ := IsD (.int 2147483647)) ?_ ev_int (mo_isD _) (mo_isD _) fun tl a b r1 r2 => op_mod_int r1 r2 (by omega)
    refine ev_int1 (nm_builtin (cl := []) C'.T C'.X (H.built _ (by simp)) (by rfl) (by decide) rfl) ?_
    refine ev_bin (R₁ := IsD (.int (big.fmod 2147483629 + 7919 * 0 * 0 + 31 * 0 + 17))) (R₂ := IsD (.int 48271)) ?_ ev_int (mo_isD _) (mo_isD _) fun tl a b r1 r2 => op_mul_int r1 r2 (IntMulOk.of_left (intBits_le_64 (by omega) (by omega)))
    refine ev_bin (R₁ := IsD (.int (big.fmod 2147483629 + 7919 * 0 * 0 + 31 * 0))) (R₂ := IsD (.int 17)) ?_ ev_int (mo_isD _) (mo_isD _) fun tl a b r1 r2 => op_add_int r1 r2
    refine ev_bin (R₁ := IsD (.int (big.fmod 2147483629 + 7919 * 0 * 0))) (R₂ := IsD (.int (31 * 0))) ?_ ?_ (mo_isD _) (mo_isD _) fun tl a b r1 r2 => op_add_int r1 r2
    · refine ev_bin (R₁ := IsD (.int (big.fmod 2147483629))) (R₂ := IsD (.int (7919 * 0 * 0))) ?_ ?_ (mo_isD _) (mo_isD _) fun tl a b r1 r2 => op_add_int r1 r2
      · refine ev_bin (R₁ := IsD (.int big)) (R₂ := IsD (.int 2147483629)) ?_ ev_int (mo_isD _) (mo_isD _) fun tl a b r1 r2 => op_mod_int r1 r2 (by omega)
        exact ev_int1 (nm_builtin (cl := []) C'.T C'.X (H.built _ (by simp)) (by rfl) (by decide) rfl) (nm_local (cl := []) (v := .int big tb) (by rfl) (.int _ _))
      · refine ev_bin (R₁ := IsD (.int (7919 * 0))) (R₂ := IsD (.int 0)) ?_ (nm_local (cl := []) (up1 hmk (by decide)) (.int _ _)) (mo_isD _) (mo_isD _) fun tl a b r1 r2 => op_mul_int r1 r2 (IntMulOk.of_left (intBits_le_64 (by omega) (by omega)))
        exact ev_bin (R₁ := IsD (.int 7919)) (R₂ := IsD (.int 0)) ev_int (nm_local (cl := []) (up1 hmk (by decide)) (.int _ _)) (mo_isD _) (mo_isD _) fun tl a b r1 r2 => op_mul_int r1 r2 (IntMulOk.of_left (intBits_le_64 (by omega) (by omega)))
    · exact ev_bin (R₁ := IsD (.int 31)) (R₂ := IsD (.int 0)) ev_int (nm_local (cl := []) (up1 hmk (by decide)) (.int _ _)) (mo_isD _) (mo_isD _) fun tl a b r1 r2 => op_mul_int r1 r2 (IntMulOk.of_left (intBits_le_64 (by omega) (by omega)))
  have hmix := fmod_rng (a := (big.fmod 2147483629 + 7919 * 0 * 0 + 31 * 0 + 17) * 48271) (b := 2147483647) (by omega)
  generalize ((big.fmod 2147483629 + 7919 * 0 * 0 + 31 * 0 + 17) * 48271).fmod 2147483647 = mixed at *
  cases r₅ with
  | int _ tm =>
  -- the list
  refine wpAny_execs_cons (wpAny_Return_some (List_ ?_))
  have hone : Builtin.Int.intBits (if decide ((10 : Int) ^ (18 : Int).toNat ≤ big) = true then (1 : Int) else 0) ≤ 64 := by
    split <;> exact intBits_le_64 (by omega) (by omega)
  refine Tr.goM (mu := []) (n := tl₅ ++ (tl₄ ++ (n' ++ n))) (X := []) (B := []) (items2 (mo_isD (.int (big * if decide ((10 : Int) ^ (18 : Int).toNat ≤ big) = true then (1 : Int) else 0))) (mo_isD (.int mixed)) ?_ (nm_local (cl := []) (v := .int mixed tm) (by rfl) (.int _ _))) (fun _ h => nomatch h) (fun _ h => nomatch h) S₅ fun tl₆ v₆ s₆ sh₆ S₆ r₆ => ?_
  · refine ev_bin (R₁ := IsD (.int big)) (R₂ := IsD (.int (if decide ((10 : Int) ^ (18 : Int).toNat ≤ big) = true then (1 : Int) else 0))) (nm_local (cl := []) (v := .int big tb) (by rfl) (.int _ _)) ?_ (mo_isD _) (mo_isD _) fun tl a b r1 r2 => op_mul_int r1 r2 (IntMulOk.of_right hone)
    refine ev_callT (T := "int") (nm_builtin (cl := []) C'.T C'.X (H.built _ (by simp)) (by rfl) (by decide) rfl) (items1 (mo_VB (decide ((10 : Int) ^ (18 : Int).toNat ≤ big))) ?_) (mo1 (mo_VB _)) fun tl vs r => ?_
    · refine ev_cmp (R₁ := IsD (.int big)) (R₂ := IsD (.int ((10 : Int) ^ (18 : Int).toNat))) (nm_local (cl := []) (v := .int big tb) (by rfl) (.int _ _)) ?_ (mo_isD _) (mo_isD _) fun tl a b r1 r2 => cp_ge_int r1 r2
      exact ev_bin (R₁ := IsD (.int 10)) (R₂ := IsD (.int 18)) ev_int ev_int (mo_isD _) (mo_isD _) fun tl a b r1 r2 => op_pow_int r1 r2 (by omega) (by omega) (by decide)
    · obtain ⟨v, rfl, r⟩ := r
      exact cl_int_bool r
  · obtain ⟨a, b, rfl, r1, r2⟩ := r₆
    cases r1
    cases r2
    refine newList_N S₆.F S₆.N (fun h₇ F₇ N₇ => ?_) (by rw [sizeLine_eq]; show 2 ≤ _; omega)
    have S₇ := S₆.cons F₇ N₇ S₆.lt
    refine ⟨_, _, _, rfl, ((sh₃.trans sh₄).trans sh₅).trans (sh₆.trans (Sh.mk s₆ h₇ _)), S₇, fun s'' sh S' => ?_⟩
    refine ⟨_, _, tl₆ ++ (tl₅ ++ (tl₄ ++ n')), rfl, ⟨_, _, _, _, 0, rfl, ?_, hmix.1, hmix.2⟩, sh, by simpa only [List.append_assoc, List.nil_append] using S'⟩
    split <;> simp_all
end
end Mine

namespace Mine

theorem CellsAre.five {cm : Str → Option Value} {n₁ n₂ n₃ n₄ n₅ : Str} {c₁ c₂ c₃ c₄ c₅ : Addr} {cells : List (Addr × Obj)} (x : CellsAre cm [(n₁, c₁), (n₂, c₂), (n₃, c₃), (n₄, c₄), (n₅, c₅)] cells) :
    ∃ o₁ o₂ o₃ o₄ o₅, cells = [(c₁, o₁), (c₂, o₂), (c₃, o₃), (c₄, o₄), (c₅, o₅)] ∧ o₁.data = .cell (cm n₁) ∧ o₂.data = .cell (cm n₂) ∧ o₃.data = .cell (cm n₃) ∧ o₄.data = .cell (cm n₄) ∧ o₅.data = .cell (cm n₅) := by
  cases x with | cons h r => obtain ⟨o₂, o₃, o₄, o₅, rfl, h₂, h₃, h₄, h₅⟩ := PyProof.Rows.CellsAre.four r; exact ⟨_, o₂, o₃, o₄, o₅, rfl, h, h₂, h₃, h₄, h₅⟩

theorem perm3 {α : Type} (I D S : α) (own t rest : List α) : ((I :: own) ++ D :: (S :: (t ++ rest))).Perm (S :: (t ++ (own ++ I :: D :: rest))) :=
  (perm2 I D own (S :: t) rest).trans (List.Perm.cons _ (List.Perm.append_left t List.perm_middle.symm))
theorem perm4 {α : Type} (I D S : α) (own rest : List α) : (S :: (own ++ I :: D :: rest)).Perm (own ++ I :: D :: S :: rest) :=
  List.perm_middle.symm.trans (List.Perm.append_left own ((List.Perm.swap I S _).trans (List.Perm.cons I (List.Perm.swap D S _))))

section
variable {prog : Program} {w : World} {A : Around} {h₀ : Heap} {L : Addr} {m : Loc} {X B : Led} {env : Env} {K : Frag} {dp un : Nat}

theorem TrS.goC {α : Type} {src : Addr} {o : Obj} {t : Sem α} {R : Led → α → Prop} {Cs n : Led} {s : Shared} {Q : α → Shared → Prop} (h : TrS prog w A h₀ L m X B src t R) (G : GS o) (hX : ∀ p ∈ X, p ∈ Cs ++ n) (hB : ∀ p ∈ B, p ∈ Cs ++ n) (S : St h₀ L m (((src, o) :: Cs) ++ n) s.heap)
    (k : ∀ tl v o' s', GS o' → Sh s s' → St h₀ L m (((src, o') :: Cs) ++ (tl ++ n)) s'.heap → R (tl ++ B) v → Q v s') : wpAny (model prog w) A t Q NF s :=
  h.go G hX hB S fun tl v o' s' G' sh S' r => k tl v o' s' G' sh (S'.perm (List.Perm.cons _ (List.perm_append_comm_assoc Cs tl n))) r

theorem ev_binS {src : Addr} {l r op pos} {R₁ R₂ R : Led → Value → Prop} (h1 : Tr prog w A h₀ L m X B (eval l env) R₁) (h2 : TrS prog w A h₀ L m X B src (eval r env) R₂) (m1 : Mo R₁) (m2 : Mo R₂)
    (k : ∀ tl a b, R₁ (tl ++ B) a → R₂ (tl ++ B) b → Tr prog w A h₀ L m X (tl ++ B) (binaryOp op a b) R) : TrS prog w A h₀ L m X B src (eval (.BinOp l op r pos) env) R := by
  intro n s o G hX hB S
  refine wpAny_BinOp ((TrS.of h1).go G hX hB S fun tl a o₁ s1 G1 sh1 S1 r1 => ?_)
  refine h2.go G1 (sub_rr hX) (sub_rr hB) S1 fun tl2 b o₂ s2 G2 sh2 S2 r2 => ?_
  rw [← List.append_assoc] at S2
  refine (TrS.of (k (tl2 ++ tl) a b (by rw [List.append_assoc]; exact m1 _ _ _ sub_right r1) (m2 _ _ _ (by intro p hp; rw [List.append_assoc]; exact (List.mem_append.mp hp).elim (fun h => List.mem_append_left _ h) fun h => sub_right _ (sub_right _ h)) r2))).go G2 (sub_rr hX) (sub_app hB) S2 fun tl3 v o₃ s3 G3 sh3 S3 r3 => ?_
  rw [← List.append_assoc] at S3 r3
  exact ⟨tl3 ++ (tl2 ++ tl), o₃, G3, (sh1.trans sh2).trans sh3, S3, r3⟩

theorem comp_loopS {src : Addr} {elt iter : Expr} {scope : Scope} {x : Str} {px pos : Pos} {Own : Addr → List (Str × Addr) → Led → Prop} {OwnV : Addr → List (Str × Addr) → Led → Value → Prop} (T : Tgt prog w A h₀ L m env scope x px Own OwnV)
    {ds : List Dat} (P : Dat → Prop) {I C D : Addr} {cl : List (Str × Addr)} {Stt : Nat → Heap → Prop} {oI o : Obj} {own n : Led} {s : Shared} {R : Result → Shared → Prop}
    (hX : ∀ q ∈ X, q ∈ n) (hB : ∀ q ∈ B, q ∈ n) (hz : ds.length ≤ sizeLine)
    (helt : ∀ d ∈ ds, ∀ v own tl, OwnV C cl own v → DatIn (tl ++ B) v d → TrS prog w A h₀ L m (own ++ X) (tl ++ B) src (eval elt (compEnvC scope cl C env)) (fun n y => ∃ d, P d ∧ DatIn n y d))
    (S₀ : Src prog w A h₀ L B I ds Stt) (st0 : Stt 0 s.heap) (G : GS o) (S : St h₀ L m ((I, oI) :: (own ++ (D, LCg.lst []) :: (src, o) :: n)) s.heap) (hown : Own C cl own)
    (fin : ∀ own tl ys o' es s', GS o' → Own C cl own → Sh s s' → St h₀ L m (own ++ (D, LCg.lst ys) :: (src, o') :: (tl ++ n)) s'.heap → es.length = ds.length → (∀ d ∈ es, P d) → DatAll (tl ++ B) ys es → R (.ok .next) s') :
    codeAny (model prog w) A (.compLoop (.ListComp elt [⟨.Name x px, iter, [], 0⟩] scope pos) 0 (.ref I) (.ref D) (compEnvC scope cl C env)) R s := by
  refine src_loop (A := A) (B := B) S₀
    (fun i m' n' => m' = m ∧ ∃ own tl ys es o, n' = own ++ (D, LCg.lst ys) :: (src, o) :: (tl ++ n) ∧ GS o ∧ Own C cl own ∧ i ≤ ds.length ∧ es.length = i ∧ (∀ d ∈ es, P d) ∧ DatAll (tl ++ B) ys es)
    (fun s' => R (.ok .next) s') (compBd prog w A elt [] x px (compEnvC scope cl C env) D (notedBy (model prog w) A (compEnvC scope cl C env) fun e s' => R (.error e) s')) (E := notedBy (model prog w) A (compEnvC scope cl C env) fun e s' => R (.error e) s')
    (fun Iv turn k h => codeAny_compLoop_tests Iv turn k h) st0 S ⟨rfl, own, [], [], [], o, rfl, G, hown, Nat.zero_le _, rfl, (fun _ h => nomatch h), .nil⟩ ?_ ?_ ?_
  · rintro i m' n' ⟨_, own, tl, ys, es, o, rfl, _⟩ q hq
    exact sub_right _ (List.mem_cons_of_mem _ (List.mem_cons_of_mem _ (sub_right _ (hB q hq))))
  · rintro i d v m' n' oI' s₁ nx hd hv ⟨rfl, own₁, tl, ys, es, o₁, rfl, G₁, hown₁, hi, hes, hP, hys⟩ sh S₁ next
    have hdm : d ∈ ds := List.mem_of_getElem? hd
    have hlt := (List.getElem?_eq_some_iff.mp hd).1
    have S₁' : St h₀ L m' (own₁ ++ ((I, oI') :: (D, LCg.lst ys) :: (src, o₁) :: (tl ++ n))) s₁.heap := S₁.perm List.perm_middle
    refine wpAny_mono (T.asg C cl own₁ _ s₁ v hown₁ S₁') ?_ fun _ _ e => e.elim
    rintro _ s₂ ⟨own₂, hV, sh₂, S₂⟩
    refine nf (wpAny_tests_nil ?_)
    simp only [if_true]
    have S₂' := S₂.perm (perm4 (I, oI') (D, LCg.lst ys) (src, o₁) own₂ (tl ++ n))
    have subX : ∀ q ∈ own₂ ++ X, q ∈ own₂ ++ ((I, oI') :: (D, LCg.lst ys) :: (tl ++ n)) := sub_app fun q hq => List.mem_cons_of_mem _ (List.mem_cons_of_mem _ (sub_right _ (hX q hq)))
    have subB : ∀ q ∈ tl ++ B, q ∈ own₂ ++ ((I, oI') :: (D, LCg.lst ys) :: (tl ++ n)) := fun q hq => sub_right _ (List.mem_cons_of_mem _ (List.mem_cons_of_mem _ (sub_app hB q hq)))
    refine nf ((helt d hdm v own₂ tl hV (hv.mono sub_right)).go G₁ subX subB S₂' fun tl₄ y o₄ s₄ G₄ sh₄ S₄ r₄ => ?_)
    obtain ⟨e, he, r₄⟩ := r₄
    have S₄' := S₄.perm (perm3 (I, oI') (D, LCg.lst ys) (src, o₄) own₂ tl₄ (tl ++ n))
    have zD := (S₄'.N (D, LCg.lst ys) (List.mem_append_right _ (.head _))).1
    refine append_at (hsz := by show ys.toArray.size ≤ sizeLine; rw [List.size_toArray, hys.length]; omega) zD fun h₅ hs₅ hD₅ => ?_
    refine next _ m' (own₂ ++ (D, LCg.lst (ys ++ [y])) :: (src, o₄) :: ((tl₄ ++ tl) ++ n)) (((sh.trans sh₂).trans sh₄).trans (Sh.mk s₄ h₅ s₄.toks)) ?_ ⟨rfl, own₂, tl₄ ++ tl, ys ++ [y], es ++ [e], o₄, rfl, G₄, T.of _ _ _ _ hV, hlt, by rw [List.length_append, hes]; rfl, ?_, ?_⟩
    · have := S₄'.set hs₅ (hD₅.trans (congrArg some (LCg.lst_snoc ys y)))
      rw [List.append_assoc]
      exact this
    · intro d' hd'
      rcases List.mem_append.mp hd' with h | h
      · exact hP _ h
      · rw [List.mem_singleton.mp h]; exact he
    · rw [List.append_assoc]
      exact DatAll.append (hys.mono sub_right) (DatAll.one r₄)
  · rintro m' n' s₁ ⟨rfl, own, tl, ys, es, o₁, rfl, G₁, hown, _, hes, hP, hys⟩ sh S₁
    exact fin own tl ys o₁ es s₁ G₁ hown sh S₁ hes hP hys

/-- a comprehension whose elements draw -/
theorem ev_compS {src : Addr} {elt iter : Expr} {scope : Scope} {cl : List (Str × Addr)} {x : Str} {px pos : Pos} {Own : Addr → List (Str × Addr) → Led → Prop} {OwnV : Addr → List (Str × Addr) → Led → Value → Prop}
    {ds : List Dat} (P : Dat → Prop) (hh : A.handled = none) (T : Tgt prog w A h₀ L m env scope x px Own OwnV) (hmk : Mk prog w A h₀ L m env scope cl Own)
    (hclos : closureFor scope env = pure cl) (hkind : scope.kind = .function) (hnames : ∀ y ∈ scope.names, y.2 = .local → scope.names.lookup y.1 = some .local) (hz : ds.length ≤ sizeLine)
    (hi : Tr prog w A h₀ L m X B (eval iter env) (IsSrc ds))
    (helt : ∀ C cl', ∀ d ∈ ds, ∀ v own tl, OwnV C cl' own v → DatIn (tl ++ B) v d → TrS prog w A h₀ L m (own ++ X) (tl ++ B) src (eval elt (compEnvC scope cl' C env)) (fun n y => ∃ d, P d ∧ DatIn n y d))
    (hs : ∀ x, foldedSetIterable iter env x = pure x := by intro _; rfl) :
    TrS prog w A h₀ L m X B src (eval (.ListComp elt [⟨.Name x px, iter, [], 0⟩] scope pos) env) (fun n v => ∃ es : List Dat, es.length = ds.length ∧ (∀ d ∈ es, P d) ∧ DatIn n v (.list es)) := by
  intro n s o G hX hB S
  rw [eval_ListComp]
  refine wpAny_comprehension_free (use := none) rfl hs hclos hkind hnames ((TrS.of hi).go G hX hB S fun tl₁ xv o₁ s₁ G₁ sh₁ S₁ r₁ => ?_)
  refine comp_pre (B := tl₁ ++ B) hh hmk r₁ (fun p hp => List.mem_cons_of_mem _ (sub_app hB p hp)) S₁ fun I Stt oI C cl' own D s₂ S₀ st₂ hown sh₂ S₂ => ?_
  refine comp_loopS (X := X) (B := tl₁ ++ B) T P (sub_rr hX) (sub_app hB) hz ?_ S₀ st₂ G₁ S₂ hown fun own' tl ys o₃ es s₃ G₃ hown' sh₃ S₃ hes hP hys => ?_
  · intro d hd v own tl hV hv
    have := helt C cl' d hd v own (tl ++ tl₁) hV (by rw [List.append_assoc]; exact hv)
    rw [List.append_assoc] at this
    exact this
  · obtain ⟨oC, m₂, rest, rfl, hC⟩ := T.ns _ _ _ hown'
    have zC := (S₃.N (C, oC) (List.mem_append_left _ (List.mem_cons_self ..))).1
    refine ⟨m₂, hC.ns zC, fun h' hs' => ?_⟩
    have hL := (S₃.N (C, oC) (List.mem_append_left _ (List.mem_cons_self ..))).2
    have nd := S₃.nd
    have S₄ : St h₀ L m (rest ++ (D, LCg.lst ys) :: (src, o₃) :: (tl ++ (tl₁ ++ n))) h' := by
      refine ⟨S₃.F.change hs' hL.1 hL.2, fun q hq => ?_, ?_⟩
      · have z := S₃.N q (by rw [List.cons_append]; exact List.mem_cons_of_mem _ hq)
        refine ⟨(hs'.2 q.1 fun e => ?_).trans z.1, z.2⟩
        rw [List.cons_append, List.map_cons, List.nodup_cons] at nd
        exact nd.1 (List.mem_map.mpr ⟨q, hq, e⟩)
      · rw [List.cons_append, List.map_cons, List.nodup_cons] at nd
        exact nd.2
    have S₅ : St h₀ L m ((D, LCg.lst ys) :: (src, o₃) :: (tl ++ (tl₁ ++ n))) h' := S₄.tail
    refine ⟨(D, LCg.lst ys) :: (tl ++ tl₁), o₃, G₃, (sh₁.trans (sh₂.trans sh₃)).trans (Sh.mk s₃ h' s₃.toks), ?_, es, hes, hP, ?_⟩
    · show St h₀ L m ((src, o₃) :: (D, LCg.lst ys) :: ((tl ++ tl₁) ++ n)) h'
      rw [List.append_assoc]
      exact S₅.perm (List.Perm.swap ..)
    · exact DatIn.list (List.mem_cons_self ..) (hys.mono fun q hq => List.mem_cons_of_mem _ (by rw [← List.append_assoc] at hq; exact hq))

/-- xs.append(e), where e draws -/
theorem st_appendS {src : Addr} {o' : Obj} {R : Led → Value → Prop} {o e : Expr} {apos pos pos' : Pos} {D : Addr} {its : Array Value} {c : Nat} {Cs n : Led} {s : Shared} {Q : Flow → Shared → Prop} (G : GS o') (S : St h₀ L m (((src, o') :: (Cs ++ [(D, listOf its c)])) ++ n) s.heap) (hX : ∀ p ∈ X, p ∈ (Cs ++ [(D, listOf its c)]) ++ n) (hB : ∀ p ∈ B, p ∈ (Cs ++ [(D, listOf its c)]) ++ n)
    (ho : ∀ s', St h₀ L m (((src, o') :: (Cs ++ [(D, listOf its c)])) ++ n) s'.heap → ∀ Q : Value → Shared → Prop, Q (.ref D) s' → wpAny (model prog w) A (eval o env) Q NF s') (he : TrS prog w A h₀ L m X B src (eval e env) R) (hz : its.size ≤ sizeLine)
    (k : ∀ tl v o'' s', GS o'' → Sh s s' → R (tl ++ B) v → St h₀ L m (((src, o'') :: (Cs ++ [(D, listOf (its.push v) (c + 1))])) ++ (tl ++ n)) s'.heap → Q .next s')
    (he₀ : ∃ pl : Sem Bool, eval (.Call (.Attribute o (Str.ofString "append") apos) [e] [] pos) env = (do
      let ov ← eval o env
      standAt apos.atName
      let (f, first) ← holding [ov] (getMethod ov (Str.ofString "append") pl)
      callWith pos f first (backTo pos (starEach [e] env)) []) := by exact ⟨_, rfl⟩)
    (hst : starEach [e] env = (false, eval e env) :: starEach [] env := by rfl)
    (hi : interactive env = false := by rfl) (hs : swapsWith (.Call (.Attribute o (Str.ofString "append") apos) [e] [] pos) none pos'.line env = pure false := by rfl) :
    wpAny (model prog w) A (exec (.Expr (.Call (.Attribute o (Str.ofString "append") apos) [e] [] pos) pos') env) Q NF s := by
  refine wpAny_Expr (hi := hi) (hs := hs) ?_
  obtain ⟨pl, he₀⟩ := he₀
  refine MethodCall_ (he := he₀) (ho s S _ ?_)
  refine kf_method S.N (List.mem_append_left _ (List.mem_cons_of_mem _ (sub_right _ (.head _)))) PySem.F.slot_list_append PySem.F.type_list_append ?_
  refine callWith_method1 (he := hst) (hplain := rfl) (wpAny_items_cons (he := hst) (he.goC G hX hB S fun tl v o₁ s1 G1 sh1 S1 r => ?_))
  refine wpAny_items_nil ?_
  have S1' : St h₀ L m (((src, o₁) :: Cs) ++ (D, listOf its c) :: (tl ++ n)) s1.heap := by
    have e : ((src, o₁) :: (Cs ++ [(D, listOf its c)])) ++ (tl ++ n) = ((src, o₁) :: Cs) ++ (D, listOf its c) :: (tl ++ n) := by simp
    rw [← e]
    exact S1
  have zD := (S1'.N (D, listOf its c) (List.mem_append_right _ (.head _))).1
  refine append_at (hsz := hz) zD fun h' hs' hD => ?_
  refine k tl v o₁ _ G1 (sh1.trans (Sh.mk s1 h' _)) r ?_
  have e : ((src, o₁) :: (Cs ++ [(D, listOf (its.push v) (c + 1))])) ++ (tl ++ n) = ((src, o₁) :: Cs) ++ (D, listOf (its.push v) (c + 1)) :: (tl ++ n) := by simp
  rw [e]
  exact S1'.set hs' hD

variable {name qual : Str} {params : Arguments} {body : List Stmt} {scope : Scope} {dV kV doc pm cdv ct oc : Value} {an od : Option Addr} {osl : Array (Option Value)} {f : Addr} {vs : List Value} {binds : List (Str × Value)}
/-- a call of a def with cells that may store into the ledger -/
theorem st_callC {n : Led} {s : Shared} {Q : Value → Shared → Prop} (C : Cx prog w K A env h₀ L dp un) (ho : K.lookup f = some ⟨oc, od, .func (fnOf name qual params body scope dV kV doc pm an cdv ct), osl⟩) (hcd : codeIn K cdv qual = true) (hroom : dp < recursionLimit)
    (hbind : ∀ s, BindsTo s (fnOf name qual params body scope dV kV doc pm an cdv ct) ⟨vs, []⟩ binds) (hkind : (binds.all fun y => scope.names.lookup y.1 == some .local || scope.names.lookup y.1 == some .cell) = true)
    (hnd : ((cellsFrom 0 scope.names []).map (·.1)).Nodup)
    (hco : scope.isCoroutine = false) (hgen : scope.isGenerator = false) (hk : scope.kind = .function) (S : St h₀ L m n s.heap)
    (hb : ∀ A' g L' s₁ cells, Cx prog w K A' (envOfC qual scope L' f cdv) g L' (dp + 1) (un + 3) → Sh s s₁ → CellsAre (bindC (envOfC qual scope L' f cdv).kindOf binds fun _ => none) (cellsFrom (L' + 1) scope.names []) cells →
      Fr g L' s₁.heap (bindL (envOfC qual scope L' f cdv).kindOf binds fun _ => none) → News g L' s₁.heap (cells ++ n) → (n.map (·.1)).Nodup → (∀ p ∈ n, p.1 < L') →
      wpAny (model prog w) A' (execs body (envOfC qual scope L' f cdv)) (fun fl s' => ∃ m' n' v, fl = .ret v ∧ Sh s₁ s' ∧ St g L' m' n' s'.heap ∧ ∀ s'', Sh s s'' → St h₀ L m n' s''.heap → Q v s'') NF s₁) :
    wpAny (model prog w) A (call (.ref f) vs) Q NF s := by
  obtain ⟨A₀, base, outer, hBelow, hA⟩ := C.ex
  obtain ⟨p, loose, mean, mg, mb, T⟩ := C.T
  refine wpAny_call (code_defC hBelow S.F C.X S.N T hA C.hf C.hk ho hcd (Nat.lt_of_le_of_lt C.d hroom) (hbind s) hkind hnd (fun g L' h₁ tk cells FG F' N' Y B' X' T' lt => ?_) hco hgen hk)
  have C' : Cx prog w K (A.deeper (envOfC qual scope L' f cdv)) (envOfC qual scope L' f cdv) g L' (dp + 1) (un + 3) :=
    C.deeper B' (Around.frames_deeper hA) X' ⟨_, _, _, _, _, T'⟩ rfl hk
  refine wpAny_mono (hb _ g L' _ cells C' (Sh.mk s _ _) Y F' N' S.nd lt) ?_ fun _ _ e => e.elim
  rintro fl s' ⟨m', n', v, rfl, sh, S', q⟩
  exact ⟨L', m', n', S'.F, S'.N, fun F₂ N₂ => q _ ((Sh.mk s _ _).trans sh) ⟨F₂, N₂, S'.nd⟩⟩
end
end Mine

namespace Mine

def numsF (f : Int) (mn : Nat) : List Int := (List.range mn).map fun (i : Nat) => f + 2 * (i : Int)
def ahF (numbers : List Int) (kinds : List Str) (x : Int) : List Int := keptAt numbers kinds (numbers.idxOf x)
def RowOk (numbers row : List Int) : Prop := ∃ (p : List Int) (k : Nat), p.Perm numbers ∧ row = p.take k

/-- what the plain law gives at one choice of numbers and kinds -/
structure Cfg (numbers : List Int) (kinds : List Str) : Prop where
  hn : numbers.Nodup
  hk : kinds.length = numbers.length
  hz : numbers.length ≤ 4
  hnum : ∀ x ∈ numbers, x.natAbs < 1000000
  hal : ∀ x ∈ numbers, (alF numbers kinds numbers.length).lookup x = some (ahF numbers kinds x) ∧ (ahF numbers kinds x).length ≤ 1000
  ho1 : 1 ≤ (ordF numbers (ahF numbers kinds) numbers.length).length
  ho2 : ∀ i, i + 1 < (ordF numbers (ahF numbers kinds) numbers.length).length → codeF numbers ((ordF numbers (ahF numbers kinds) numbers.length).getD i []) < codeF numbers ((ordF numbers (ahF numbers kinds) numbers.length).getD (i + 1) [])
  ho3 : ∀ o ∈ ordF numbers (ahF numbers kinds) numbers.length, o.Perm numbers ∧ letF numbers kinds o = true
  row1 : ∀ row, RowOk numbers row → ∀ x ∈ numbers, letF numbers kinds row = true → mayF x row (ahF numbers kinds x) = (!(row.contains x) && letF numbers kinds (row ++ [x]))
  row2 : ∀ row, RowOk numbers row → ((∀ i < row.length, mayF (row.getD i 0) (row.take i) (ahF numbers kinds (row.getD i 0)) = true) ↔ letF numbers kinds row = true)
  row3 : ∀ row, RowOk numbers row → (row ∈ ordF numbers (ahF numbers kinds) numbers.length ↔ wholeF numbers kinds row = true)
  row4 : ∀ row, RowOk numbers row → toldF numbers (ahF numbers kinds) (numbers.map aliasOf) (row.map aliasOf) = if wholeF numbers kinds row = true then [row] else []

theorem RowOk.sub {numbers row : List Int} (h : RowOk numbers row) : (∀ x ∈ row, x ∈ numbers) ∧ row.length ≤ numbers.length := by
  obtain ⟨p, k, hp, rfl⟩ := h
  refine ⟨fun x hx => hp.mem_iff.mp (List.mem_of_mem_take hx), ?_⟩
  rw [List.length_take, ← hp.length_eq]
  omega

theorem nodup5 {n : List Nat} {a : Nat} (nd : n.Nodup) (lt : ∀ p ∈ n, p < a) : ((a + 1 + 1 + 1 + 1 + 1) :: (a + 1 + 1 + 1 + 1) :: (a + 1 + 1 + 1) :: (a + 1 + 1) :: (a + 1) :: n).Nodup := by
  have h : ∀ k, a + k ∉ n := fun k q => by have := lt _ q; omega
  simp only [List.nodup_cons, List.mem_cons, not_or]
  refine ⟨⟨by omega, by omega, by omega, by omega, h 5⟩, ⟨by omega, by omega, by omega, h 4⟩, ⟨by omega, by omega, h 3⟩, ⟨by omega, h 2⟩, h 1, nd⟩
theorem perm5 {α : Type} (R : α) (M t rest : List α) : ((M ++ [R]) ++ (t ++ rest)).Perm (t ++ (R :: (M ++ rest))) := by
  refine (List.perm_append_comm_assoc (M ++ [R]) t rest).trans (List.Perm.append_left t ?_)
  rw [List.append_assoc]
  exact List.perm_middle
theorem perm6 {α : Type} (I : α) (M T r : List α) : ((I :: M) ++ (T ++ r)).Perm (M ++ (T ++ I :: r)) :=
  List.perm_middle.symm.trans (List.Perm.append_left M List.perm_middle.symm)
theorem strs_of {P : Str → Prop} : ∀ {es : List Dat}, (∀ d ∈ es, ∃ k, P k ∧ d = .str k) → ∃ ks : List Str, es = ks.map Dat.str ∧ ks.length = es.length ∧ ∀ k ∈ ks, P k
  | [], _ => ⟨[], rfl, rfl, fun _ h => nomatch h⟩
  | d :: es, h => by
    obtain ⟨k, hk, rfl⟩ := h d (List.mem_cons_self ..)
    obtain ⟨ks, rfl, _, hks⟩ := strs_of (es := es) fun d hd => h d (List.mem_cons_of_mem _ hd)
    refine ⟨k :: ks, rfl, by simp, fun x hx => ?_⟩
    rcases List.mem_cons.mp hx with rfl | hx
    · exact hk
    · exact hks x hx

section
variable {prog : Program} {w : World} {A : Around} {h₀ : Heap} {L : Addr} {m : Loc} {X B : Led} {env : Env} {K : Frag} {dp un : Nat}

/-- x, y = (e₁, e₂), stored in that order -/
theorem st_pair2 {x y : Str} {px py tp p pos : Pos} {k k' : Nat} {e₁ e₂ : Expr} {s : Shared} {Q : Flow → Shared → Prop} (hh : A.handled = none)
    (h : wpAny (model prog w) A (eval e₁ env) (fun v₁ s₁ => wpAny (model prog w) A (eval e₂ env) (fun v₂ s₂ => ∃ n₂, St h₀ L m n₂ s₂.heap ∧ ∀ tl s₃, Sh s₂ s₃ → St h₀ L m (tl ++ n₂) s₃.heap →
      wpAny (model prog w) A (storeName env x v₁) (fun _ s₄ => wpAny (model prog w) A (storeName env y v₂) (fun _ => Q .next) NF s₄) NF s₃) NF s₁) NF s)
    (hs : swapsWithSole [.Tuple [.Name x px, .Name y py] k tp] (.Tuple [e₁, e₂] k' p) pos.line env = pure false := by rfl)
    (hw : swappedStores [.Tuple [.Name x px, .Name y py] k tp] (.Tuple [e₁, e₂] k' p) env = pure none := by rfl)
    (hA : (assignEach [.Name x px, .Name y py] env).map (·.2) = [fun v => assign (.Name x px) env v, fun v => assign (.Name y py) env v] := by rfl)
    (hl : (assignEach [.Name x px, .Name y py] env).length = 2 := by rfl) (hst : (assignEach [.Name x px, .Name y py] env).findIdx? (·.1) = none := by rfl)
    (he₁ : starEach [e₁, e₂] env = (false, eval e₁ env) :: starEach [e₂] env := by rfl) (he₂ : starEach [e₂] env = (false, eval e₂ env) :: starEach [] env := by rfl) :
    wpAny (model prog w) A (exec (.Assign [.Tuple [.Name x px, .Name y py] k tp] (.Tuple [e₁, e₂] k' p) pos) env) Q NF s := by
  refine Assign_Tuple ?_ hs hw
  refine Tuple_ (wpAny_items_cons (he := he₁) (wpAny_mono h ?_ fun _ _ e => e))
  intro v₁ s₁ h₁
  refine wpAny_items_cons (he := he₂) (wpAny_mono h₁ ?_ fun _ _ e => e)
  rintro v₂ s₂ ⟨n₂, S₂, h₂⟩
  refine wpAny_items_nil ?_
  refine newTuple_N S₂.F S₂.N (fun h₃ F₃ N₃ => ?_) (by rw [sizeLine_eq]; show 2 ≤ _; omega)
  have S₃ := S₂.cons F₃ N₃ S₂.lt
  refine unpackN_ S₃.F S₃.N (S₃.N.isTup (List.mem_cons_self ..)) hh (by rw [hl]; rfl) hst fun h₄ F₄ N₄ => ?_
  have S₄ : St h₀ L m ([(s₂.heap.objs.size, { cls := .type "tuple", data := .seq [v₁, v₂].toArray })] ++ n₂) h₄ := ⟨F₄, N₄, S₃.nd⟩
  have q := h₂ _ { s₂ with heap := h₄ } (Sh.mk s₂ h₄ s₂.toks) S₄
  rw [hA]
  refine assignInOrder_cons (assign_Name (wpAny_mono q ?_ fun _ _ e => e))
  intro _ s₅ q₅
  refine assignInOrder_cons (assign_Name (wpAny_mono q₅ ?_ fun _ _ e => e))
  intro _ s₆ q₆
  exact assignInOrder_nil q₆

theorem mo_Dr {top : Int} : Mo (Dr top) := fun _ _ _ _ h => h

theorem law_right_spec (H : KH K) (C : Cx prog w K A env h₀ L dp un) (hd : dp ≤ 350) (hu : un ≤ 3000)
    (hcfg : ∀ f mn ks, 0 ≤ f → f < 3 → 2 ≤ mn → mn ≤ 4 → ks.length = mn - 1 → (∀ k ∈ ks, k ∈ (["inner", "inner", "left", "cross"] : List Str)) → Cfg (numsF f mn) ("inner" :: ks))
    {src : Addr} {o : Obj} {n : Led} {s : Shared} (G : GS o) (S : St h₀ L m ((src, o) :: n) s.heap) :
    wpAny (model prog w) A (call (.ref 86) [.ref src]) (fun v s' => ∃ n', v = .bool true ∧ Sh s s' ∧ St h₀ L m n' s'.heap) NF s := by
  obtain ⟨⟨oc, od, doc, pm, an, cdv, ct, osl, ho, hcd⟩, _, _⟩ := H.right
  refine st_callC (binds := [("source", .ref src)]) C ho hcd (Nat.lt_of_le_of_lt hd (by decide)) (fun s => BindsTo.of_eq (by rfl)) (by rfl) (by decide +kernel) rfl rfl rfl S ?_
  intro A' g L' s₁ cells C' sh₁ Y F N nd lt
  obtain ⟨o₅, o₄, o₃, o₂, o₁, rfl, d5, d4, d3, d2, d1⟩ := CellsAre.five Y
  have hu' : A'.units + 64 < cLine := fit_room C'.u (by omega)
  have S₁ : St g L' (bindL (envOfC "_law_right" (fnScope (stAt 13)) L' 86 cdv).kindOf [("source", .ref src)] fun _ => none) ([(L' + 1 + 1 + 1 + 1 + 1, o₅), (L' + 1 + 1 + 1 + 1, o₄), (L' + 1 + 1 + 1, o₃), (L' + 1 + 1, o₂), (L' + 1, o₁)] ++ ((src, o) :: n)) s₁.heap :=
    ⟨F, N, nodup5 nd fun p hp => by
      obtain ⟨q, hq, rfl⟩ := List.mem_map.mp hp
      exact lt q hq⟩
  have S₂ : St g L' (bindL (envOfC "_law_right" (fnScope (stAt 13)) L' 86 cdv).kindOf [("source", .ref src)] fun _ => none) (((src, o) :: [(L' + 1 + 1 + 1 + 1 + 1, o₅), (L' + 1 + 1 + 1 + 1, o₄), (L' + 1 + 1 + 1, o₃), (L' + 1 + 1, o₂), (L' + 1, o₁)]) ++ n) s₁.heap := S₁.perm List.perm_middle.symm
  -- first, many
  refine wpAny_execs_cons ?_
  refine st_pair2 (h₀ := g) (L := L') (m := bindL (envOfC "_law_right" (fnScope (stAt 13)) L' 86 cdv).kindOf [("source", .ref src)] fun _ => none) C'.hh ?_
  have hX1 : ∀ {o₅ o₄ o₃ o₂ : Obj} {n : Led}, ∀ p ∈ ([(L' + 1, o₁)] : Led), p ∈ [(L' + 1 + 1 + 1 + 1 + 1, o₅), (L' + 1 + 1 + 1 + 1, o₄), (L' + 1 + 1 + 1, o₃), (L' + 1 + 1, o₂), (L' + 1, o₁)] ++ n := fun p hp => by
    rw [List.mem_singleton.mp hp]
    exact List.mem_append_left _ (by simp)
  refine TrS.goC (X := [(L' + 1, o₁)]) (B := []) (R := Dr 3) (Cs := [(L' + 1 + 1 + 1 + 1 + 1, o₅), (L' + 1 + 1 + 1 + 1, o₄), (L' + 1 + 1 + 1, o₃), (L' + 1 + 1, o₂), (L' + 1, o₁)]) ?_ G hX1 (fun _ h => nomatch h) S₂ fun tl₃ v₃ oo₃ s₃ G₃ sh₃ S₃ r₃ => ?_
  · refine ev_callFS C'.X H.take.keep (nm_global C'.T C'.X H.take.ns rfl) (items2 mo_eq (mo_isD (.int 3)) (nm_cell (R := fun _ v => v = .ref src) (by rfl) (by simp) d1 rfl) ev_int) (mo2 mo_eq (mo_isD _)) fun tl vs r => ?_
    obtain ⟨x, y, rfl, rfl, r2⟩ := r
    exact law_take_spec H C' (by omega) (by omega) r2 (by omega) (by omega)
  refine TrS.goC (X := [(L' + 1, o₁)]) (B := []) (R := fun _ v => ∃ j t, v = .int (2 + j) t ∧ 0 ≤ j ∧ j < 3) (Cs := [(L' + 1 + 1 + 1 + 1 + 1, o₅), (L' + 1 + 1 + 1 + 1, o₄), (L' + 1 + 1 + 1, o₃), (L' + 1 + 1, o₂), (L' + 1, o₁)]) (n := tl₃ ++ n) ?_ G₃ hX1 (fun _ h => nomatch h) S₃ fun tl₄ v₄ oo₄ s₄ G₄ sh₄ S₄ r₄ => ?_
  · refine ev_binS (R₁ := IsD (.int 2)) (R₂ := Dr 3) ev_int ?_ (mo_isD _) mo_Dr fun tl a b r1 r2 => ?_
    · refine ev_callFS C'.X H.take.keep (nm_global C'.T C'.X H.take.ns rfl) (items2 mo_eq (mo_isD (.int 3)) (nm_cell (R := fun _ v => v = .ref src) (by rfl) (by simp) d1 rfl) ev_int) (mo2 mo_eq (mo_isD _)) fun tl vs r => ?_
      obtain ⟨x, y, rfl, rfl, r2⟩ := r
      exact law_take_spec H C' (by omega) (by omega) r2 (by omega) (by omega)
    · obtain ⟨j, t, rfl, h0, h3⟩ := r2
      refine (op_add_int r1 (.int j t)).mono fun _ _ r => ?_
      cases r
      exact ⟨j, _, rfl, h0, h3⟩
  refine ⟨_, S₄, fun tl₅ s₅ sh₅ S₅ => ?_⟩
  obtain ⟨f, tf, rfl, hf0, hf3⟩ := r₃
  obtain ⟨j, tm, rfl, hj0, hj3⟩ := r₄
  obtain ⟨mn, hmn⟩ : ∃ mn : Nat, 2 + j = (mn : Int) := ⟨(2 + j).toNat, by omega⟩
  rw [hmn]
  have hm2 : 2 ≤ mn := by omega
  have hm4 : mn ≤ 4 := by omega
  have S₅' := S₅.perm (List.perm_append_comm_assoc ((src, oo₄) :: [(L' + 1 + 1 + 1 + 1 + 1, o₅), (L' + 1 + 1 + 1 + 1, o₄), (L' + 1 + 1 + 1, o₃), (L' + 1 + 1, o₂), (L' + 1, o₁)]) tl₅ (tl₄ ++ (tl₃ ++ n)))
  have hn₆ : ∃ n₆ : Led, n₆ = tl₅ ++ (tl₄ ++ (tl₃ ++ n)) := ⟨_, rfl⟩
  obtain ⟨n₆, hn₆⟩ := hn₆
  rw [← hn₆] at S₅'
  have S₆ : St g L' (bindL (envOfC "_law_right" (fnScope (stAt 13)) L' 86 cdv).kindOf [("source", .ref src)] fun _ => none) ((([(src, oo₄), (L' + 1 + 1 + 1 + 1 + 1, o₅), (L' + 1 + 1 + 1 + 1, o₄), (L' + 1 + 1 + 1, o₃)] : Led) ++ (L' + 1 + 1, o₂) :: [(L' + 1, o₁)]) ++ n₆) s₅.heap := S₅'
  refine st_store_cell (mu₁ := [(src, oo₄), (L' + 1 + 1 + 1 + 1 + 1, o₅), (L' + 1 + 1 + 1 + 1, o₄), (L' + 1 + 1 + 1, o₃)]) (mu₂ := [(L' + 1, o₁)]) (c := L' + 1 + 1) (o := o₂) S₆ (by rfl) d2 fun o₂' s₆ sh₆' d2' S₆' => ?_
  refine storeX_L S₆'.F S₆'.N (fun h₇ F₇ N₇ => ?_) (by rfl) (by rfl)
  have S₇ : St g L' (fun y => if y = "many" then some (.int mn tm) else (bindL (envOfC "_law_right" (fnScope (stAt 13)) L' 86 cdv).kindOf [("source", .ref src)] fun _ => none) y) ((([(src, oo₄), (L' + 1 + 1 + 1 + 1 + 1, o₅), (L' + 1 + 1 + 1 + 1, o₄), (L' + 1 + 1 + 1, o₃)] : Led) ++ (L' + 1 + 1, o₂') :: [(L' + 1, o₁)]) ++ n₆) h₇ := ⟨F₇, N₇, S₆'.nd⟩
  have sh₇ : Sh s₁ { s₆ with heap := h₇, toks := s₆.toks + 1 } := (((sh₃.trans sh₄).trans sh₅).trans sh₆').trans (Sh.mk s₆ _ _)
  -- numbers
  refine wpAny_execs_cons ?_
  refine st_assign_cell (mu₁ := [(src, oo₄), (L' + 1 + 1 + 1 + 1 + 1, o₅), (L' + 1 + 1 + 1 + 1, o₄)]) (mu₂ := [(L' + 1 + 1, o₂'), (L' + 1, o₁)]) (c := L' + 1 + 1 + 1) (o := o₃) (X := [(L' + 1 + 1, o₂')]) (B := []) (R := IsD (dL (numsF f mn))) ?_ (fun p hp => by rw [List.mem_singleton.mp hp]; exact List.mem_append_left _ (by simp)) (fun _ h => nomatch h) S₇ (by rfl) d3 fun tl₈ v₈ o₃' s₈ sh₈ d3' S₈ r₈ => ?_
  · refine (ev_comp (ds := rg 0 mn) (fun _ => true) (fun d => .int (f + 2 * unI d)) C'.hh (tgtL (by rfl) (by rfl)) (mkL (by rfl) (by decide)) (by rfl) (by rfl) (by decide)
      (by rw [rg_len, sizeLine_eq]; omega) (ev_range1 (nm_builtin C'.T C'.X (H.built _ (by simp)) (by rfl) (by decide) rfl) (nm_local (v := .int mn tm) (by rfl) (.int _ _)) (by omega)) (fun _ _ _ _ _ _ _ _ _ => tests_nil) ?_).mono fun tl v r => ?_
    · rintro Cc cl' d hd _ v own tl ⟨rfl, oC, m₂, rfl, hC, hv⟩ hdv
      obtain ⟨i, hi, rfl⟩ := List.mem_map.mp hd
      simp only [unI, Int.zero_add] at hdv ⊢
      refine ev_bin (R₁ := IsD (.int f)) (R₂ := IsD (.int (2 * (i : Int)))) (nc_cell (by rfl) (by simp) d2' (.int _ _)) ?_ (mo_isD _) (mo_isD _) fun tl a b r1 r2 => op_add_int r1 r2
      exact ev_bin (R₁ := IsD (.int 2)) (R₂ := IsD (.int (i : Int))) ev_int (nc_own (List.mem_cons_self ..) hC hv hdv) (mo_isD _) (mo_isD _) fun tl a b r1 r2 => op_mul_int r1 r2 (IntMulOk.of_left (intBits_le_64 (by omega) (by omega)))
    · rw [filter_tt, rg, List.map_map] at r
      unfold numsF dL dI
      rw [List.map_map]
      have e : (fun d => Dat.int (f + 2 * unI d)) ∘ (fun (i : Nat) => Dat.int (0 + (i : Int))) = (Dat.int ∘ fun (i : Nat) => f + 2 * (i : Int)) := by
        funext i
        simp [unI]
      rw [e] at r
      exact r
  -- kinds
  have hX1' : ∀ {o₅ o₄ o₃ o₂ : Obj} {n : Led}, ∀ p ∈ ([(L' + 1, o₁)] : Led), p ∈ [(L' + 1 + 1 + 1 + 1 + 1, o₅), (L' + 1 + 1 + 1 + 1, o₄), (L' + 1 + 1 + 1, o₃), (L' + 1 + 1, o₂), (L' + 1, o₁)] ++ n := hX1
  refine wpAny_execs_cons (wpAny_Assign_Name (hs := by rfl) ?_)
  refine TrS.goC (X := [(L' + 1, o₁)]) (B := []) (R := fun n v => ∃ ks : List Str, ks.length = mn - 1 ∧ (∀ k ∈ ks, k ∈ (["inner", "inner", "left", "cross"] : List Str)) ∧ DatIn n v (.list ((("inner" :: ks) : List Str).map Dat.str))) (o := oo₄) (Cs := [(L' + 1 + 1 + 1 + 1 + 1, o₅), (L' + 1 + 1 + 1 + 1, o₄), (L' + 1 + 1 + 1, o₃'), (L' + 1 + 1, o₂'), (L' + 1, o₁)]) (n := tl₈ ++ n₆) ?_ G₄ hX1' (fun _ h => nomatch h) S₈ fun tl₉ v₉ oo₉ s₉ G₉ sh₉ S₉ r₉ => ?_
  · refine ev_binS (R₁ := IsD (.list [.str "inner"])) (R₂ := fun n v => ∃ es : List Dat, es.length = (rg 0 (mn - 1)).length ∧ (∀ d ∈ es, ∃ k, k ∈ (["inner", "inner", "left", "cross"] : List Str) ∧ d = .str k) ∧ DatIn n v (.list es)) ?_ ?_ (mo_isD _) (fun _ _ _ h ⟨es, a, b, c⟩ => ⟨es, a, b, c.mono h⟩) fun tl a b r1 r2 => ?_
    · exact ev_list (items1 (mo_isD (.str "inner")) ev_str) (fun n vs e => by obtain ⟨x, rfl, r⟩ := e; exact .cons r .nil) (by rw [sizeLine_eq]; show 1 ≤ _; omega)
    · refine ev_compS (ds := rg 0 (mn - 1)) (fun d => ∃ k, k ∈ (["inner", "inner", "left", "cross"] : List Str) ∧ d = .str k) C'.hh (tgtL (by rfl) (by rfl)) (mkL (by rfl) (by decide)) (by rfl) (by rfl) (by decide)
        (by rw [rg_len, sizeLine_eq]; omega) ?_ ?_
      · refine ev_range1 (nm_builtin C'.T C'.X (H.built _ (by simp)) (by rfl) (by decide) rfl) ?_ (by omega)
        have e : ((mn - 1 : Nat) : Int) = (mn : Int) - 1 := by omega
        rw [e]
        exact ev_bin (R₁ := IsD (.int mn)) (R₂ := IsD (.int 1)) (nm_local (v := .int mn tm) (by rfl) (.int _ _)) ev_int (mo_isD _) (mo_isD _) fun tl a b r1 r2 => op_sub_int r1 r2
      · rintro Cc cl' d hd v own tl ⟨rfl, oC, m₂, rfl, hC, hv⟩ hdv
        refine TrS.mono (R := fun n v => ∃ d ∈ ((["inner", "inner", "left", "cross"] : List Str).map Dat.str), DatIn n v d) (ev_callFS C'.X H.one.keep (nc_global C'.T C'.X H.one.ns rfl) (items2 mo_eq (mo_isD (.list ((["inner", "inner", "left", "cross"] : List Str).map Dat.str))) (nc_cell (R := fun _ v => v = .ref src) (by rfl) (by simp) d1 rfl)
          (ev_list (items4 (mo_isD (.str "inner")) (mo_isD (.str "inner")) (mo_isD (.str "left")) (mo_isD (.str "cross")) ev_str ev_str ev_str ev_str) (fun n vs e => by obtain ⟨x, y, z, t, rfl, r1, r2, r3, r4⟩ := e; exact .cons r1 (.cons r2 (.cons r3 (.cons r4 .nil)))) (by rw [sizeLine_eq]; show 4 ≤ _; omega))) (mo2 mo_eq (mo_isD _)) fun tl vs r => ?_) fun tl v r => ?_
        · obtain ⟨x, y, rfl, rfl, r2⟩ := r
          exact law_one_spec H C' (by omega) (by omega) r2 (by decide) (by decide)
        · obtain ⟨d, hd, r⟩ := r
          obtain ⟨k, hk, rfl⟩ := List.mem_map.mp hd
          exact ⟨_, ⟨k, hk, rfl⟩, r⟩
    · obtain ⟨es, hes, hP, r2⟩ := r2
      obtain ⟨ks, rfl, hkl, hks⟩ := strs_of hP
      rw [rg_len] at hes
      refine (op_add_list r1 r2 ?_).mono fun _ _ r => ⟨ks, by rw [hkl, hes], hks, r⟩
      rw [List.length_singleton, List.length_map, hkl, hes, sizeLine_eq]; omega
  obtain ⟨ks, hkl, hks, r₉⟩ := r₉
  have cfg := hcfg f mn ks hf0 hf3 hm2 hm4 hkl hks
  refine st_store_cell (mu₁ := [(src, oo₉), (L' + 1 + 1 + 1 + 1 + 1, o₅)]) (mu₂ := [(L' + 1 + 1 + 1, o₃'), (L' + 1 + 1, o₂'), (L' + 1, o₁)]) (c := L' + 1 + 1 + 1 + 1) (o := o₄) S₉ (by rfl) d4 fun o₄' s₁₀ sh₁₀ d4' S₁₀ => ?_
  have hlen : (numsF f mn).length = mn := by simp [numsF]
  generalize numsF f mn = numbers at *
  generalize hkk : (("inner" :: ks) : List Str) = kinds at *
  have hz := cfg.hz
  have hk := cfg.hk
  -- ahead, rows
  refine wpAny_execs_cons ?_
  refine st_pair2 (h₀ := g) (L := L') (m := fun y => if y = "many" then some (.int mn tm) else (bindL (envOfC "_law_right" (fnScope (stAt 13)) L' 86 cdv).kindOf [("source", .ref src)] fun _ => none) y) C'.hh ?_
  refine Tr.goM (mu := (src, oo₉) :: [(L' + 1 + 1 + 1 + 1 + 1, o₅), (L' + 1 + 1 + 1 + 1, o₄'), (L' + 1 + 1 + 1, o₃'), (L' + 1 + 1, o₂'), (L' + 1, o₁)]) (n := tl₉ ++ (tl₈ ++ n₆)) (X := [(L' + 1 + 1 + 1 + 1, o₄'), (L' + 1 + 1 + 1, o₃')]) (B := tl₉ ++ tl₈) (R := IsAh prog w (alF numbers kinds numbers.length)) ?_ (fun p hp => ?_) (fun p hp => ?_) S₁₀ fun tlA vA sA shA SA rA => ?_
  · refine ev_callF C'.X H.kept.keep (nm_global C'.T C'.X H.kept.ns rfl) (items2 (mo_isD (dL numbers)) (mo_isD (.list (kinds.map Dat.str))) (nm_cell (by rfl) (by simp) d3' (r₈.mono fun p hp => ?_)) (nm_cell (by rfl) (by simp) d4' (r₉.mono fun p hp => ?_))) (mo2 (mo_isD _) (mo_isD _)) fun tl vs r => ?_
    · rw [List.append_nil] at hp
      exact sub_right _ hp
    · rw [List.append_nil] at hp
      exact sub_left _ hp
    · obtain ⟨x, y, rfl, r1, r2⟩ := r
      exact kept_ahead_spec H C' (by omega) (by omega) r1 r2 hk (by omega) cfg.hn
  · rcases List.mem_cons.mp hp with rfl | hp
    · exact List.mem_append_left _ (by simp)
    · rw [List.mem_singleton.mp hp]; exact List.mem_append_left _ (by simp)
  · refine sub_right _ ?_
    rw [← List.append_assoc]
    exact List.mem_append_left _ hp
  refine List_ (PySem.Calls.spliced_nil ?_)
  refine newList_N SA.F SA.N (fun hB FB NB => ?_) (Nat.zero_le _)
  have SB := SA.cons FB NB SA.lt
  generalize sA.heap.objs.size = D at *
  refine ⟨_, SB, fun tlC sC shC SC => ?_⟩
  have SC' := SC.perm (perm5 (D, listOf ([] : List Value).toArray 0) ((src, oo₉) :: [(L' + 1 + 1 + 1 + 1 + 1, o₅), (L' + 1 + 1 + 1 + 1, o₄'), (L' + 1 + 1 + 1, o₃'), (L' + 1 + 1, o₂'), (L' + 1, o₁)]) tlC (tlA ++ (tl₉ ++ (tl₈ ++ n₆))))
  have hN : DatIn (tlA ++ (tl₉ ++ tl₈)) v₈ (dL numbers) := r₈.mono fun p hp => by
    rw [List.append_nil] at hp
    exact sub_right _ (sub_right _ hp)
  have hK : DatIn (tlA ++ (tl₉ ++ tl₈)) v₉ (.list (kinds.map Dat.str)) := r₉.mono fun p hp => by
    rw [List.append_nil] at hp
    exact sub_right _ (sub_left _ hp)
  have hB₁ : ∀ p ∈ tlA ++ (tl₉ ++ tl₈), p ∈ tlC ++ (tlA ++ (tl₉ ++ (tl₈ ++ n₆))) := sub_rr (sub_app fun p hp => by
    rw [← List.append_assoc]
    exact List.mem_append_left _ hp)
  generalize tlA ++ (tl₉ ++ tl₈) = B₁ at *
  generalize tlC ++ (tlA ++ (tl₉ ++ (tl₈ ++ n₆))) = n₁ at *
  have SC'' : St g L' (fun y => if y = "many" then some (.int mn tm) else (bindL (envOfC "_law_right" (fnScope (stAt 13)) L' 86 cdv).kindOf [("source", .ref src)] fun _ => none) y) ((([(src, oo₉)] : Led) ++ (L' + 1 + 1 + 1 + 1 + 1, o₅) :: [(L' + 1 + 1 + 1 + 1, o₄'), (L' + 1 + 1 + 1, o₃'), (L' + 1 + 1, o₂'), (L' + 1, o₁), (D, listOf ([] : List Value).toArray 0)]) ++ n₁) sC.heap := SC'
  refine st_store_cell (mu₁ := [(src, oo₉)]) (mu₂ := [(L' + 1 + 1 + 1 + 1, o₄'), (L' + 1 + 1 + 1, o₃'), (L' + 1 + 1, o₂'), (L' + 1, o₁), (D, listOf ([] : List Value).toArray 0)]) (c := L' + 1 + 1 + 1 + 1 + 1) (o := o₅) SC'' (by rfl) d5 fun o₅' sD shD d5' SD => ?_
  refine storeX_L SD.F SD.N (fun hE FE NE => ?_) (by rfl) (by rfl)
  have SE : St g L' (fun y => if y = "rows" then some (.ref D) else if y = "many" then some (.int mn tm) else (bindL (envOfC "_law_right" (fnScope (stAt 13)) L' 86 cdv).kindOf [("source", .ref src)] fun _ => none) y) (((src, oo₉) :: ([(L' + 1 + 1 + 1 + 1 + 1, o₅'), (L' + 1 + 1 + 1 + 1, o₄'), (L' + 1 + 1 + 1, o₃'), (L' + 1 + 1, o₂'), (L' + 1, o₁)] ++ [(D, listOf ([] : List Value).toArray 0)])) ++ n₁) hE := ⟨FE, NE, SD.nd⟩
  have shE : Sh s₁ { sD with heap := hE, toks := sD.toks + 1 } := (((sh₇.trans sh₈).trans sh₉).trans sh₁₀).trans (((shA.trans (Sh.mk sA hB _)).trans shC).trans (shD.trans (Sh.mk sD hE _)))
  -- the rows
  refine wpAny_execs_cons ?_
  refine st_for (mu := (src, oo₉) :: ([(L' + 1 + 1 + 1 + 1 + 1, o₅'), (L' + 1 + 1 + 1 + 1, o₄'), (L' + 1 + 1 + 1, o₃'), (L' + 1 + 1, o₂'), (L' + 1, o₁)] ++ [(D, listOf ([] : List Value).toArray 0)])) (n := n₁) (X := []) (B := B₁) (ds := rg 0 4) C'.hh
    (fun i m' mu' tl => ∃ o rvs c rows, mu' = (src, o) :: ([(L' + 1 + 1 + 1 + 1 + 1, o₅'), (L' + 1 + 1 + 1 + 1, o₄'), (L' + 1 + 1 + 1, o₃'), (L' + 1 + 1, o₂'), (L' + 1, o₁)] ++ [(D, listOf rvs.toArray c)]) ∧ GS o ∧ DatAll (tl ++ B₁) rvs (rows.map dL) ∧ rows.length = i ∧ (∀ row ∈ rows, RowOk numbers row) ∧ m' "rows" = some (.ref D) ∧ m' "many" = some (.int mn tm))
    ?_ (fun _ h => nomatch h) hB₁ SE (fun tl => ⟨oo₉, [], 0, [], rfl, G₉, .nil, rfl, (fun _ h => nomatch h), by rfl, by rfl⟩) ?_ ?_
  · exact ev_range1 (c := 4) (nm_builtin C'.T C'.X (H.built _ (by simp)) (by rfl) (by decide) rfl) ev_int (by omega)
  · rintro I i d v m' mu' tl oI s₁₁ hd hv ⟨o₁₁, rvs, c, rows, rfl, G₁₁, hrvs, hrl, hrows, hmr, hmm⟩ sh₁₁ S₁₁
    have hi : i < 4 := by
      have := (List.getElem?_eq_some_iff.mp hd).1
      rw [rg_len] at this
      exact this
    refine as_local S₁₁ fun s₁₂ sh₁₂ S₁₂ => ?_
    have S₁₂' := S₁₂.perm (n' := ((src, o₁₁) :: ([(L' + 1 + 1 + 1 + 1 + 1, o₅'), (L' + 1 + 1 + 1 + 1, o₄'), (L' + 1 + 1 + 1, o₃'), (L' + 1 + 1, o₂'), (L' + 1, o₁)] ++ [(D, listOf rvs.toArray c)])) ++ ((I, oI) :: (tl ++ n₁))) List.perm_middle
    have hB₂ : ∀ p ∈ tl ++ B₁, p ∈ (I, oI) :: (tl ++ n₁) := fun p hp => List.mem_cons_of_mem _ (sub_app hB₁ p hp)
    have hX₂ : ∀ {o : Obj} {n : Led}, ∀ p ∈ ([(L' + 1 + 1 + 1, o₃'), (L' + 1, o₁)] : Led), p ∈ ([(L' + 1 + 1 + 1 + 1 + 1, o₅'), (L' + 1 + 1 + 1 + 1, o₄'), (L' + 1 + 1 + 1, o₃'), (L' + 1 + 1, o₂'), (L' + 1, o₁)] ++ [(D, o)]) ++ n := fun p hp => by
      rcases List.mem_cons.mp hp with rfl | hp
      · exact List.mem_append_left _ (by simp)
      · rw [List.mem_singleton.mp hp]; exact List.mem_append_left _ (by simp)
    -- row
    refine wpAny_execs_cons (wpAny_Assign_Name (hs := by rfl) ?_)
    refine TrS.goC (X := [(L' + 1 + 1 + 1, o₃'), (L' + 1, o₁)]) (B := tl ++ B₁) (R := fun n v => ∃ l : List Int, l.Perm numbers ∧ DatIn n v (dL l)) (o := o₁₁) (Cs := [(L' + 1 + 1 + 1 + 1 + 1, o₅'), (L' + 1 + 1 + 1 + 1, o₄'), (L' + 1 + 1 + 1, o₃'), (L' + 1 + 1, o₂'), (L' + 1, o₁)] ++ [(D, listOf rvs.toArray c)]) (n := (I, oI) :: (tl ++ n₁)) ?_ G₁₁ hX₂ (sub_rr hB₂) S₁₂' fun tl₁₃ v₁₃ o₁₃ s₁₃ G₁₃ sh₁₃ S₁₃ r₁₃ => ?_
    · refine ev_callFS C'.X H.shuffled.keep (nm_global C'.T C'.X H.shuffled.ns rfl) (items2 mo_eq (mo_isD (dL numbers)) (nm_cell (R := fun _ v => v = .ref src) (by rfl) (by simp) d1 rfl) (nm_cell (by rfl) (by simp) d3' (hN.mono sub_right))) (mo2 mo_eq (mo_isD _)) fun tl vs r => ?_
      obtain ⟨x, y, rfl, rfl, r2⟩ := r
      exact law_shuffled_spec H C' (by omega) (by omega) r2 (by omega)
    obtain ⟨p, hp, r₁₃⟩ := r₁₃
    have hpl : p.length = mn := by rw [hp.length_eq, hlen]
    refine storeX_L S₁₃.F S₁₃.N (fun h₁₄ F₁₄ N₁₄ => ?_) (by rfl) (by rfl)
    have S₁₄ : St g L' (fun y => if y = "row" then some v₁₃ else if y = "turn" then some v else m' y) (((src, o₁₃) :: ([(L' + 1 + 1 + 1 + 1 + 1, o₅'), (L' + 1 + 1 + 1 + 1, o₄'), (L' + 1 + 1 + 1, o₃'), (L' + 1 + 1, o₂'), (L' + 1, o₁)] ++ [(D, listOf rvs.toArray c)])) ++ (tl₁₃ ++ ((I, oI) :: (tl ++ n₁)))) h₁₄ := ⟨F₁₄, N₁₄, S₁₃.nd⟩
    -- rows.append
    refine wpAny_execs_cons ?_
    refine st_appendS (X := [(L' + 1 + 1 + 1, o₃'), (L' + 1, o₁)]) (B := tl₁₃ ++ (tl ++ B₁)) (R := fun n v => ∃ k : Int, (k = 1 ∨ k = (mn : Int) ∨ k = (mn : Int) - 1) ∧ DatIn n v (.list ((dI p).take k.toNat))) (Cs := [(L' + 1 + 1 + 1 + 1 + 1, o₅'), (L' + 1 + 1 + 1 + 1, o₄'), (L' + 1 + 1 + 1, o₃'), (L' + 1 + 1, o₂'), (L' + 1, o₁)]) (D := D) (its := rvs.toArray) (c := c) (n := tl₁₃ ++ ((I, oI) :: (tl ++ n₁))) G₁₃ S₁₄ hX₂ (sub_rr (sub_app hB₂)) (fun s' S' Q hQ => nameX_L S'.F (up2 hmr (by decide) (by decide)) hQ) ?_ (by rw [List.size_toArray, hrvs.length, List.length_map, hrl, sizeLine_eq]; omega) fun tl₁₅ v₁₅ o₁₅ s₁₅ G₁₅ sh₁₅ r₁₅ S₁₅ => ?_
    · refine ev_uptoS (nm_local (by simp) r₁₃) ?_ (fun k hk => by omega) (by rw [dI_length, sizeLine_eq]; omega)
      refine TrS.mono (R := fun n v => ∃ d ∈ ([Dat.int 1, .int mn, .int mn, .int ((mn : Int) - 1)] : List Dat), DatIn n v d) (ev_callFS C'.X H.one.keep (nm_global C'.T C'.X H.one.ns rfl) (items2 mo_eq (mo_isD (.list [Dat.int 1, .int mn, .int mn, .int ((mn : Int) - 1)])) (nm_cell (R := fun _ v => v = .ref src) (by rfl) (by simp) d1 rfl) ?_) (mo2 mo_eq (mo_isD _)) fun tl vs r => ?_) fun tl v r => ?_
      · refine ev_list (items4 (mo_isD (.int 1)) (mo_isD (.int mn)) (mo_isD (.int mn)) (mo_isD (.int ((mn : Int) - 1))) ev_int (nm_local (up2 hmm (by decide) (by decide)) (.int _ _)) (nm_local (up2 hmm (by decide) (by decide)) (.int _ _)) ?_) (fun n vs e => by obtain ⟨x, y, z, t, rfl, r1, r2, r3, r4⟩ := e; exact .cons r1 (.cons r2 (.cons r3 (.cons r4 .nil)))) (by rw [sizeLine_eq]; show 4 ≤ _; omega)
        exact ev_bin (R₁ := IsD (.int mn)) (R₂ := IsD (.int 1)) (nm_local (up2 hmm (by decide) (by decide)) (.int _ _)) ev_int (mo_isD _) (mo_isD _) fun tl a b r1 r2 => op_sub_int r1 r2
      · obtain ⟨x, y, rfl, rfl, r2⟩ := r
        exact law_one_spec H C' (by omega) (by omega) r2 (by show 1 ≤ 4; omega) (by show 4 ≤ 1000; omega)
      · obtain ⟨d, hd, r⟩ := r
        simp only [List.mem_cons, List.not_mem_nil, or_false] at hd
        rcases hd with rfl | rfl | rfl | rfl <;> cases r
        · exact ⟨_, _, rfl, .inl rfl⟩
        · exact ⟨_, _, rfl, .inr (.inl rfl)⟩
        · exact ⟨_, _, rfl, .inr (.inl rfl)⟩
        · exact ⟨_, _, rfl, .inr (.inr rfl)⟩
    · obtain ⟨k, hk, r₁₅⟩ := r₁₅
      rw [dI_take] at r₁₅
      refine wpAny_execs_nil ?_
      have S₁₆ := S₁₅.perm (n' := ((I, oI) :: ((src, o₁₅) :: ([(L' + 1 + 1 + 1 + 1 + 1, o₅'), (L' + 1 + 1 + 1 + 1, o₄'), (L' + 1 + 1 + 1, o₃'), (L' + 1 + 1, o₂'), (L' + 1, o₁)] ++ [(D, listOf (rvs.toArray.push v₁₅) (c + 1))]))) ++ ((tl₁₅ ++ tl₁₃) ++ (tl ++ n₁))) (by
        refine (perm6 (I, oI) ((src, o₁₅) :: ([(L' + 1 + 1 + 1 + 1 + 1, o₅'), (L' + 1 + 1 + 1 + 1, o₄'), (L' + 1 + 1 + 1, o₃'), (L' + 1 + 1, o₂'), (L' + 1, o₁)] ++ [(D, listOf (rvs.toArray.push v₁₅) (c + 1))])) (tl₁₅ ++ tl₁₃) (tl ++ n₁)).trans ?_
        rw [List.append_assoc tl₁₅ tl₁₃])
      refine next_done (I := I) (oI := oI) (tl := tl) (n := n₁) (i := i) (mu' := (src, o₁₅) :: ([(L' + 1 + 1 + 1 + 1 + 1, o₅'), (L' + 1 + 1 + 1 + 1, o₄'), (L' + 1 + 1 + 1, o₃'), (L' + 1 + 1, o₂'), (L' + 1, o₁)] ++ [(D, listOf (rvs.toArray.push v₁₅) (c + 1))])) (tl' := tl₁₅ ++ tl₁₃)
        (J := fun i m' mu' tl => ∃ o rvs c rows, mu' = (src, o) :: ([(L' + 1 + 1 + 1 + 1 + 1, o₅'), (L' + 1 + 1 + 1 + 1, o₄'), (L' + 1 + 1 + 1, o₃'), (L' + 1 + 1, o₂'), (L' + 1, o₁)] ++ [(D, listOf rvs.toArray c)]) ∧ GS o ∧ DatAll (tl ++ B₁) rvs (rows.map dL) ∧ rows.length = i ∧ (∀ row ∈ rows, RowOk numbers row) ∧ m' "rows" = some (.ref D) ∧ m' "many" = some (.int mn tm))
        S₁₆ (((sh₁₁.trans sh₁₂).trans sh₁₃).trans ((Sh.mk s₁₃ h₁₄ _).trans sh₁₅)) rfl ⟨o₁₅, rvs ++ [v₁₅], c + 1, rows ++ [p.take k.toNat], by simp, G₁₅, ?_, by rw [List.length_append, hrl]; rfl, ?_, up2 hmr (by decide) (by decide), up2 hmm (by decide) (by decide)⟩
      · rw [List.map_append, List.append_assoc, List.append_assoc]
        refine DatAll.append (hrvs.mono fun q hq => ?_) (DatAll.one (r₁₅.mono fun q hq => ?_))
        · exact sub_right _ (sub_right _ hq)
        · exact hq
      · intro row hrow
        rcases List.mem_append.mp hrow with h | h
        · exact hrows _ h
        · rw [List.mem_singleton.mp h]; exact ⟨p, k.toNat, hp, rfl⟩
  · rintro m' mu' tl s₁₁ ⟨o₁₁, rvs, c, rows, rfl, G₁₁, hrvs, hrl, hrows, hmr, hmm⟩ sh₁₁ S₁₁
    rw [rg_len] at hrl
    have okN : RowOk numbers numbers := ⟨numbers, numbers.length, List.Perm.refl _, by rw [List.take_length]⟩
    have okE : RowOk numbers [] := ⟨numbers, 0, List.Perm.refl _, rfl⟩
    have hrD : ∀ {B : Led}, (D, listOf rvs.toArray c) ∈ B → (∀ p ∈ tl ++ B₁, p ∈ B) → DatIn B (.ref D) (dLL rows) := fun h1 h2 => DatIn.list h1 (hrvs.mono h2)
    have hsub : ∀ p ∈ tl ++ B₁, p ∈ (D, listOf rvs.toArray c) :: (tl ++ B₁) := fun p hp => List.mem_cons_of_mem _ hp
    have hsubB : ∀ p ∈ B₁, p ∈ (D, listOf rvs.toArray c) :: (tl ++ B₁) := fun p hp => List.mem_cons_of_mem _ (sub_right _ hp)
    have hBn : ∀ p ∈ (D, listOf rvs.toArray c) :: (tl ++ B₁), p ∈ ((src, o₁₁) :: ([(L' + 1 + 1 + 1 + 1 + 1, o₅'), (L' + 1 + 1 + 1 + 1, o₄'), (L' + 1 + 1 + 1, o₃'), (L' + 1 + 1, o₂'), (L' + 1, o₁)] ++ [(D, listOf rvs.toArray c)])) ++ (tl ++ n₁) := fun p hp => by
      rcases List.mem_cons.mp hp with rfl | hp
      · exact List.mem_append_left _ (by simp)
      · exact sub_right _ (sub_app hB₁ p hp)
    have hXn : ∀ {n : Led}, ∀ p ∈ ([(L' + 1 + 1 + 1 + 1 + 1, o₅'), (L' + 1 + 1 + 1 + 1, o₄'), (L' + 1 + 1 + 1, o₃'), (L' + 1 + 1, o₂'), (L' + 1, o₁)] : Led), p ∈ ((src, o₁₁) :: ([(L' + 1 + 1 + 1 + 1 + 1, o₅'), (L' + 1 + 1 + 1 + 1, o₄'), (L' + 1 + 1 + 1, o₃'), (L' + 1 + 1, o₂'), (L' + 1, o₁)] ++ [(D, listOf rvs.toArray c)])) ++ n := fun p hp => List.mem_append_left _ (List.mem_cons_of_mem _ (List.mem_append_left _ hp))
    refine wpAny_execs_cons ?_
    refine st_if (mu := (src, o₁₁) :: ([(L' + 1 + 1 + 1 + 1 + 1, o₅'), (L' + 1 + 1 + 1 + 1, o₄'), (L' + 1 + 1 + 1, o₃'), (L' + 1 + 1, o₂'), (L' + 1, o₁)] ++ [(D, listOf rvs.toArray c)])) (n := tl ++ n₁) (X := [(L' + 1 + 1 + 1 + 1 + 1, o₅'), (L' + 1 + 1 + 1 + 1, o₄'), (L' + 1 + 1 + 1, o₃'), (L' + 1 + 1, o₂'), (L' + 1, o₁)]) (B := (D, listOf rvs.toArray c) :: (tl ++ B₁)) (b := false) ?_ hXn hBn S₁₁ (fun h => nomatch h) fun _ tl₁₂ s₁₂ sh₁₂ S₁₂ => wpAny_execs_nil ?_
    · refine ts_cmp (R₁ := IsD (.list [])) (R₂ := IsD (.list [])) ?_ (ev_list tr_items_nil (fun n vs e => by rw [e]; exact .nil) (Nat.zero_le _)) (mo_isD _) (mo_isD _) fun tl x y r1 r2 => cp_ne_list r1 r2 (by simp) (by simp) hu' (by simp)
      refine (ev_comp (ds := (rows ++ [numbers, []]).map dL) (fun _ => false) id C'.hh (tgtL (by rfl) (by rfl)) (mkL (by rfl) (by decide)) (by rfl) (by rfl) (by decide)
        (by rw [List.length_map, List.length_append, hrl, sizeLine_eq]; show 6 ≤ _; omega) ?_ ?_ (fun _ _ _ _ h => nomatch h)).mono fun tl v r => by rw [filter_ff] at r; exact r
      · refine ev_bin (R₁ := IsD (dLL rows)) (R₂ := IsD (dLL [numbers, []])) (nm_local hmr (hrD (List.mem_cons_self ..) hsub)) ?_ (mo_isD _) (mo_isD _) fun tl a b r1 r2 => (op_add_list r1 r2 ?_).mono fun _ _ r => ?_
        · refine ev_list (items2 (mo_isD (dL numbers)) (mo_isD (dL [])) (nm_cell (by rfl) (by simp) d3' (hN.mono hsubB)) (ev_list tr_items_nil (fun n vs e => by rw [e]; exact .nil) (Nat.zero_le _))) (fun n vs e => by obtain ⟨x, y, rfl, r1, r2⟩ := e; exact .cons r1 (.cons r2 .nil)) (by rw [sizeLine_eq]; show 2 ≤ _; omega)
        · rw [List.length_map, List.length_map, hrl, sizeLine_eq]; show 6 ≤ _; omega
        · refine .inl ?_
          rw [List.map_append]
          exact r
      · rintro Cc cl' d hd v own tl' ⟨rfl, oC, m₂, rfl, hC, hv⟩ hdv
        obtain ⟨row, hrow, rfl⟩ := List.mem_map.mp hd
        have okr : RowOk numbers row := by
          rcases List.mem_append.mp hrow with h | h
          · exact hrows _ h
          · simp only [List.mem_cons, List.not_mem_nil, or_false] at h
            rcases h with rfl | rfl
            · exact okN
            · exact okE
        obtain ⟨hsub1, hsub2⟩ := okr.sub
        refine tests_one (ts_not (b := true) (ts_val ?_))
        refine ev_callF C'.X H.rowRight.keep (nc_global C'.T C'.X H.rowRight.ns rfl) (items4 (mo_isD (dL numbers)) (mo_isD (.list (kinds.map Dat.str))) (mo_isAh (prog := prog) (w := w) (alF numbers kinds numbers.length)) (mo_isD (dL row))
          (nc_cell (by rfl) (by simp) d3' (hN.mono (sub_rr hsubB))) (nc_cell (by rfl) (by simp) d4' (hK.mono (sub_rr hsubB))) (nc_cell (by rfl) (by simp) d5' (mo_isAh _ _ _ _ (sub_rr hsubB) rA)) (nc_own (List.mem_cons_self ..) hC hv hdv)) (mo4 (mo_isD _) (mo_isD _) (mo_isAh _) (mo_isD _)) fun tl vs r => ?_
        obtain ⟨x, y, z, t, rfl, r1, r2, r3, r4⟩ := r
        exact row_right_spec H C' (by omega) (by omega) (ahF numbers kinds) r1 r2 r3 r4 hk (by omega) (by omega) hsub1 cfg.hal (cfg.row1 row okr) (cfg.row2 row okr)
    · refine wpAny_execs_cons ?_
      refine st_return (mu := (src, o₁₁) :: ([(L' + 1 + 1 + 1 + 1 + 1, o₅'), (L' + 1 + 1 + 1 + 1, o₄'), (L' + 1 + 1 + 1, o₃'), (L' + 1 + 1, o₂'), (L' + 1, o₁)] ++ [(D, listOf rvs.toArray c)])) (n := tl₁₂ ++ (tl ++ n₁)) (X := [(L' + 1 + 1 + 1 + 1 + 1, o₅'), (L' + 1 + 1 + 1 + 1, o₄'), (L' + 1 + 1 + 1, o₃'), (L' + 1 + 1, o₂'), (L' + 1, o₁)]) (B := (D, listOf rvs.toArray c) :: (tl ++ B₁)) (R := VB true) ?_ hXn (fun p hp => ?_) S₁₂ fun tl₁₃ v₁₃ s₁₃ sh₁₃ S₁₃ r₁₃ => ?_
      · refine ev_callF C'.X H.allRight.keep (nm_global C'.T C'.X H.allRight.ns rfl) (items4 (mo_isD (dL numbers)) (mo_isD (.list (kinds.map Dat.str))) (mo_isAh (prog := prog) (w := w) (alF numbers kinds numbers.length)) (mo_isD (dLL (rows ++ [numbers])))
          (nm_cell (by rfl) (by simp) d3' (hN.mono hsubB)) (nm_cell (by rfl) (by simp) d4' (hK.mono hsubB)) (nm_cell (by rfl) (by simp) d5' (mo_isAh _ _ _ _ hsubB rA)) ?_) (mo4 (mo_isD _) (mo_isD _) (mo_isAh _) (mo_isD _)) fun tl vs r => ?_
        · refine ev_bin (R₁ := IsD (dLL rows)) (R₂ := IsD (dLL [numbers])) (nm_local hmr (hrD (List.mem_cons_self ..) hsub)) ?_ (mo_isD _) (mo_isD _) fun tl a b r1 r2 => (op_add_list r1 r2 ?_).mono fun _ _ r => ?_
          · exact ev_list (items1 (mo_isD (dL numbers)) (nm_cell (by rfl) (by simp) d3' (hN.mono hsubB))) (fun n vs e => by obtain ⟨x, rfl, r1⟩ := e; exact .cons r1 .nil) (by rw [sizeLine_eq]; show 1 ≤ _; omega)
          · rw [List.length_map, List.length_map, hrl, sizeLine_eq]; show 5 ≤ _; omega
          · unfold dLL
            rw [List.map_append]
            exact r
        · obtain ⟨x, y, z, t, rfl, r1, r2, r3, r4⟩ := r
          refine all_right_spec H C' (by omega) (by omega) (ahF numbers kinds) r1 r2 r3 r4 hk hz (by rw [List.length_append, hrl]; show 5 ≤ 1000; omega) cfg.hal cfg.hnum cfg.ho1 cfg.ho2 cfg.ho3 fun row hrow => ?_
          have okr : RowOk numbers row := by
            rcases List.mem_append.mp hrow with h | h
            · exact hrows _ h
            · rw [List.mem_singleton.mp h]; exact okN
          obtain ⟨hsub1, hsub2⟩ := okr.sub
          exact ⟨hsub1, by omega, cfg.row3 row okr, cfg.row4 row okr⟩
      · rcases List.mem_cons.mp hp with rfl | hp
        · exact List.mem_append_left _ (by simp)
        · exact sub_right _ (sub_rr (sub_app hB₁) p hp)
      · have r₁₃ : v₁₃ = .bool true := r₁₃
        subst r₁₃
        exact ⟨_, _, _, rfl, ((shE.trans sh₁₁).trans sh₁₂).trans sh₁₃, S₁₃, fun s'' sh S' => ⟨_, rfl, sh, S'⟩⟩
end
end Mine

namespace Mine

/-- each number of a row may stand where it stands -/
def mayG (ah : Int → List Int) (row : List Int) : Bool := (List.range row.length).all fun i => mayF (row.getD i 0) (row.take i) (ah (row.getD i 0))
def letG (ah : Int → List Int) (row : List Int) : Bool := (List.range row.length).all fun i => (ah (row.getD i 0)).all ((row.take i).contains ·)

theorem getD_snoc_lt {row : List Int} {x : Int} {i : Nat} (h : i < row.length) : (row ++ [x]).getD i 0 = row.getD i 0 := by
  rw [List.getD_eq_getElem?_getD, List.getD_eq_getElem?_getD, List.getElem?_append_left h]
theorem take_snoc_lt {row : List Int} {x : Int} {i : Nat} (h : i < row.length) : (row ++ [x]).take i = row.take i := List.take_append_of_le_length (Nat.le_of_lt h)
theorem all_snoc {p q : Nat → Bool} {n : Nat} {b : Bool} (h : ∀ i < n, p i = q i) (hb : p n = b) : (List.range (n + 1)).all p = ((List.range n).all q && b) := by
  rw [List.range_succ, List.all_append]
  have e : (List.range n).all p = (List.range n).all q := by
    rw [Bool.eq_iff_iff, List.all_eq_true, List.all_eq_true]
    exact ⟨fun k i hi => (h i (List.mem_range.mp hi)) ▸ k i hi, fun k i hi => (h i (List.mem_range.mp hi)).symm ▸ k i hi⟩
  rw [e]
  simp [hb]
theorem mayG_snoc (ah : Int → List Int) (row : List Int) (x : Int) : mayG ah (row ++ [x]) = (mayG ah row && mayF x row (ah x)) := by
  unfold mayG
  rw [List.length_append, List.length_singleton]
  refine all_snoc (fun i hi => by rw [getD_snoc_lt hi, take_snoc_lt hi]) ?_
  rw [List.getD_eq_getElem?_getD, List.getElem?_append_right (Nat.le_refl _), List.take_left]
  simp
theorem letG_snoc (ah : Int → List Int) (row : List Int) (x : Int) : letG ah (row ++ [x]) = (letG ah row && (ah x).all (row.contains ·)) := by
  unfold letG
  rw [List.length_append, List.length_singleton]
  refine all_snoc (fun i hi => by rw [getD_snoc_lt hi, take_snoc_lt hi]) ?_
  rw [List.getD_eq_getElem?_getD, List.getElem?_append_right (Nat.le_refl _), List.take_left]
  simp
theorem snoc_ind {P : List Int → Prop} (h0 : P []) (h1 : ∀ r x, P r → P (r ++ [x])) (l : List Int) : P l := by
  have : ∀ n (l : List Int), l.length = n → P l := by
    intro n
    induction n with
    | zero => intro l h; rw [List.length_eq_zero_iff.mp h]; exact h0
    | succ n ih =>
      intro l h
      rcases List.eq_nil_or_concat l with rfl | ⟨r, x, rfl⟩
      · cases h
      · rw [List.concat_eq_append] at h ⊢
        rw [List.length_append] at h
        exact h1 r x (ih r (by simpa using h))
  exact this _ l rfl
theorem mayG_nodup {ah : Int → List Int} {row : List Int} : mayG ah row = true → row.Nodup := by
  refine snoc_ind (P := fun row => mayG ah row = true → row.Nodup) (fun _ => .nil) (fun r x ih h => ?_) row
  rw [mayG_snoc, Bool.and_eq_true] at h
  have hx : x ∉ r := fun q => by
    have := h.2
    unfold mayF at this
    simp [q] at this
  exact List.nodup_append.mpr ⟨ih h.1, by simp, fun a ha b hb e => hx (by rw [List.mem_singleton] at hb; rw [← hb, ← e]; exact ha)⟩
theorem mayG_letG {ah : Int → List Int} {row : List Int} : row.Nodup → mayG ah row = letG ah row := by
  refine snoc_ind (P := fun row => row.Nodup → mayG ah row = letG ah row) (fun _ => rfl) (fun r x ih h => ?_) row
  obtain ⟨h1, _, h3⟩ := List.nodup_append.mp h
  have hx : x ∉ r := fun q => h3 x q x (List.mem_singleton.mpr rfl) rfl
  rw [mayG_snoc, letG_snoc, ih h1]
  unfold mayF
  simp [hx]
theorem mem_ordF {N : List Int} {ah : Int → List Int} : ∀ {t : Nat} {o : List Int}, o ∈ ordF N ah t ↔ (o.length = t ∧ (∀ x ∈ o, x ∈ N) ∧ mayG ah o = true)
  | 0, o => by
    constructor
    · intro h
      rw [show o = [] from List.mem_singleton.mp h]
      exact ⟨rfl, (fun _ h => nomatch h), rfl⟩
    · rintro ⟨h, _⟩
      rw [List.length_eq_zero_iff.mp h]
      exact List.mem_singleton.mpr rfl
  | t + 1, o => by
    have ih := @mem_ordF N ah t
    constructor
    · intro h
      simp only [ordF, stepF, List.mem_flatMap, List.mem_map, List.mem_filter] at h
      obtain ⟨r, hr, x, ⟨hx, hm⟩, rfl⟩ := h
      obtain ⟨h1, h2, h3⟩ := ih.mp hr
      refine ⟨by rw [List.length_append, h1]; rfl, fun y hy => ?_, by rw [mayG_snoc, h3, hm]; rfl⟩
      rcases List.mem_append.mp hy with h | h
      · exact h2 y h
      · rw [List.mem_singleton.mp h]; exact hx
    · rintro ⟨h1, h2, h3⟩
      rcases List.eq_nil_or_concat o with rfl | ⟨r, x, rfl⟩
      · cases h1
      · rw [List.concat_eq_append] at *
        rw [mayG_snoc, Bool.and_eq_true] at h3
        rw [List.length_append] at h1
        simp only [ordF, stepF, List.mem_flatMap, List.mem_map, List.mem_filter]
        exact ⟨r, ih.mpr ⟨by simpa using h1, fun y hy => h2 y (List.mem_append_left _ hy), h3.1⟩, x, ⟨h2 x (by simp), h3.2⟩, rfl⟩
theorem perm_of : ∀ {o N : List Int}, o.Nodup → N.Nodup → (∀ x ∈ o, x ∈ N) → N.length ≤ o.length → o.Perm N
  | [], N, _, _, _, hl => by rw [List.length_eq_zero_iff.mp (Nat.le_zero.mp hl)]
  | a :: o, N, ho, hN, h, hl => by
    have ha := h a (List.mem_cons_self ..)
    rw [List.nodup_cons] at ho
    refine List.Perm.trans (List.Perm.cons a (perm_of ho.2 (hN.erase a) (fun x hx => ?_) ?_)) (List.perm_cons_erase ha).symm
    · exact (List.mem_erase_of_ne fun (e : x = a) => ho.1 (e ▸ hx)).mpr (h x (List.mem_cons_of_mem _ hx))
    · rw [List.length_erase_of_mem ha]
      simp only [List.length_cons] at hl
      omega

/-- the told row, without the aliases -/
def foldI (ah : Int → List Int) (row : List Int) : List Int := row.foldl (fun r x => if mayF x r (ah x) = true then r ++ [x] else r) []
theorem foldI_snoc (ah : Int → List Int) (r : List Int) (x : Int) : foldI ah (r ++ [x]) = if mayF x (foldI ah r) (ah x) = true then foldI ah r ++ [x] else foldI ah r := by
  unfold foldI
  rw [List.foldl_append]
  rfl
theorem foldI_is (ah : Int → List Int) (row : List Int) : (mayG ah row = true ∧ foldI ah row = row) ∨ (mayG ah row = false ∧ (foldI ah row).length < row.length) := by
  refine snoc_ind (P := fun row => (mayG ah row = true ∧ foldI ah row = row) ∨ (mayG ah row = false ∧ (foldI ah row).length < row.length)) (.inl ⟨rfl, rfl⟩) (fun r x ih => ?_) row
  rw [mayG_snoc, foldI_snoc]
  rcases ih with ⟨h1, h2⟩ | ⟨h1, h2⟩
  · rw [h1, h2]
    cases hq : mayF x r (ah x) with
    | true => exact .inl ⟨rfl, by simp⟩
    | false => exact .inr ⟨rfl, by simp⟩
  · refine .inr ⟨by rw [h1]; rfl, ?_⟩
    split
    · rw [List.length_append, List.length_append]; simp only [List.length_singleton]; omega
    · rw [List.length_append]; simp only [List.length_singleton]; omega
theorem stepT_is {N : List Int} {ah : Int → List Int} {al : Int → Str} (inj : ∀ x ∈ N, ∀ y ∈ N, al x = al y → x = y) {r : List Int} {x : Int} (hx : x ∈ N) :
    stepT N ah (N.map al) r (al x) = if mayF x r (ah x) = true then r ++ [x] else r := by
  have hget : ∀ j, j < N.length → (N.map al).getD j "" = al (N.getD j 0) := fun j hj => by
    rw [List.getD_eq_getElem?_getD, List.getElem?_map, List.getD_eq_getElem?_getD, List.getElem?_eq_getElem hj]; rfl
  have hmem : ∀ j, j < N.length → N.getD j 0 ∈ N := fun j hj => by rw [List.getD_eq_getElem?_getD, List.getElem?_eq_getElem hj]; exact List.getElem_mem hj
  unfold stepT
  cases hq : (List.range N.length).find? (hitF N ah (N.map al) r (al x)) with
  | some j =>
    have h1 := List.find?_some hq
    have hj : j < N.length := List.mem_range.mp (List.mem_of_find?_eq_some hq)
    unfold hitF at h1
    rw [Bool.and_eq_true, hget j hj] at h1
    have e : N.getD j 0 = x := inj _ (hmem j hj) _ hx (eq_of_beq h1.1)
    show r ++ [N.getD j 0] = _
    rw [e] at h1 ⊢
    rw [if_pos h1.2]
  | none =>
    have hno := List.find?_eq_none.mp hq
    obtain ⟨j, hj, e⟩ := List.mem_iff_getElem.mp hx
    have h1 := hno j (List.mem_range.mpr hj)
    have e' : N.getD j 0 = x := by rw [List.getD_eq_getElem?_getD, List.getElem?_eq_getElem hj]; exact e
    unfold hitF at h1
    rw [hget j hj, e'] at h1
    rw [if_neg]
    intro q
    exact h1 (by rw [q]; simp)
theorem rowT_is {N : List Int} {ah : Int → List Int} {al : Int → Str} (inj : ∀ x ∈ N, ∀ y ∈ N, al x = al y → x = y) {row : List Int} : (∀ x ∈ row, x ∈ N) → rowT N ah (N.map al) (row.map al) = foldI ah row := by
  refine snoc_ind (P := fun row => (∀ x ∈ row, x ∈ N) → rowT N ah (N.map al) (row.map al) = foldI ah row) (fun _ => rfl) (fun r x ih h => ?_) row
  rw [foldI_snoc, ← ih fun y hy => h y (List.mem_append_left _ hy)]
  have hx : x ∈ N := h x (by simp)
  rw [← stepT_is inj hx]
  unfold rowT
  rw [List.map_append, List.foldl_append]
  rfl

def rises : List Int → Bool
  | a :: b :: r => decide (a < b) && rises (b :: r)
  | _ => true
theorem rises_at : ∀ {l : List Int}, rises l = true → ∀ i, i + 1 < l.length → l.getD i 0 < l.getD (i + 1) 0
  | [], _, _, h => absurd h (Nat.not_lt_zero _)
  | [_], _, i, h => absurd h (by simp)
  | a :: b :: r, h, i, hi => by
    rw [rises, Bool.and_eq_true] at h
    cases i with
    | zero => exact of_decide_eq_true h.1
    | succ i => exact rises_at h.2 i (by simpa using hi)

/-- what is tried out at each choice -/
def chk (N : List Int) (kinds : List Str) : Bool :=
  decide N.Nodup && (N.all fun x => (alF N kinds N.length).lookup x == some (ahF N kinds x)) && (fun os => rises (os.map (codeF N)) && decide (1 ≤ os.length)) (ordF N (ahF N kinds) N.length)

theorem cfg_of {N : List Int} {kinds : List Str} (hc : chk N kinds = true) (hk : kinds.length = N.length) (hz : N.length ≤ 4) (hkk : ∀ k ∈ kinds, k = "inner" ∨ k = "left" ∨ k = "cross") (hrng : ∀ x ∈ N, 0 ≤ x ∧ x ≤ 8)
    (inj : ∀ x ∈ N, ∀ y ∈ N, aliasOf x = aliasOf y → x = y) : Cfg N kinds := by
  unfold chk at hc
  rw [Bool.and_eq_true, Bool.and_eq_true] at hc
  obtain ⟨⟨hc1, hc2⟩, hc3⟩ := hc
  have hn : N.Nodup := of_decide_eq_true hc1
  have hc3 : (rises ((ordF N (ahF N kinds) N.length).map (codeF N)) && decide (1 ≤ (ordF N (ahF N kinds) N.length).length)) = true := hc3
  rw [Bool.and_eq_true] at hc3
  have hlen : ∀ x, (ahF N kinds x).length ≤ 4 := fun x => by
    unfold ahF keptAt
    split
    · rw [List.length_take]; omega
    · exact Nat.zero_le _
  have hletAt : ∀ {row : List Int} {i : Nat}, (∀ x ∈ row, x ∈ N) → i < row.length → letAt N kinds row i = (ahF N kinds (row.getD i 0)).all ((row.take i).contains ·) := by
    intro row i hr hi
    have hx : row.getD i 0 ∈ N := hr _ (by rw [List.getD_eq_getElem?_getD, List.getElem?_eq_getElem hi]; exact List.getElem_mem hi)
    unfold letAt ahF keptAt
    generalize row.getD i 0 = x at *
    have hj : N.idxOf x < kinds.length := by rw [hk]; exact List.idxOf_lt_length_iff.mpr hx
    have hkm := hkk _ (List.getElem_mem hj)
    have g1 : kinds.getD (N.idxOf x) "inner" = kinds[N.idxOf x] := by rw [List.getD_eq_getElem?_getD, List.getElem?_eq_getElem hj]; rfl
    have g2 : kinds.getD (N.idxOf x) "" = kinds[N.idxOf x] := by rw [List.getD_eq_getElem?_getD, List.getElem?_eq_getElem hj]; rfl
    have all_eq : ∀ l : List Int, (l.filter (fun one => !((row.take i).contains one))).isEmpty = l.all ((row.take i).contains ·) := fun l => by
      rw [Bool.eq_iff_iff, List.isEmpty_iff, List.filter_eq_nil_iff, List.all_eq_true]
      simp
    rw [g1, g2, all_eq]
    generalize kinds[N.idxOf x] = k at *
    have t1 : ((("inner" : Str) != "inner") = false) ∧ ((("left" : Str) != "inner") = true) ∧ ((("cross" : Str) != "inner") = true) := by decide +kernel
    have t2 : isOut "inner" = false ∧ isOut "left" = true ∧ isOut "cross" = true := by decide +kernel
    rcases hkm with rfl | rfl | rfl
    · rw [t1.1, t2.1]; rfl
    · rw [t1.2.1, t2.2.1]; rfl
    · rw [t1.2.2, t2.2.2]; rfl
  have hlet : ∀ {row : List Int}, (∀ x ∈ row, x ∈ N) → letF N kinds row = letG (ahF N kinds) row := by
    intro row hr
    unfold letF letG
    rw [Bool.eq_iff_iff, List.all_eq_true, List.all_eq_true]
    exact ⟨fun k i hi => (hletAt hr (List.mem_range.mp hi)) ▸ k i hi, fun k i hi => (hletAt hr (List.mem_range.mp hi)).symm ▸ k i hi⟩
  have hrow : ∀ row, RowOk N row → row.Nodup ∧ (∀ x ∈ row, x ∈ N) := fun row h => by
    refine ⟨?_, h.sub.1⟩
    obtain ⟨p, k, hp, rfl⟩ := h
    exact (hp.nodup_iff.mpr hn).sublist (List.take_sublist ..)
  have hmay : ∀ row, RowOk N row → mayG (ahF N kinds) row = letF N kinds row := fun row h => by
    rw [hlet (hrow row h).2, mayG_letG (hrow row h).1]
  refine ⟨hn, hk, hz, fun x hx => ?_, fun x hx => ⟨?_, Nat.le_trans (hlen x) (by decide)⟩, of_decide_eq_true hc3.2, fun i hi => ?_, fun o ho => ?_, fun row hr x hx h => ?_, fun row hr => ?_, fun row hr => ?_, fun row hr => ?_⟩
  · have := hrng x hx
    omega
  · exact eq_of_beq (List.all_eq_true.mp hc2 x hx)
  · have := rises_at hc3.1 i (by rw [List.length_map]; exact hi)
    rw [List.getD_eq_getElem?_getD, List.getElem?_map, List.getD_eq_getElem?_getD, List.getElem?_map, List.getElem?_eq_getElem hi, List.getElem?_eq_getElem (by omega)] at this
    rw [List.getD_eq_getElem?_getD, List.getD_eq_getElem?_getD, List.getElem?_eq_getElem hi, List.getElem?_eq_getElem (by omega)]
    exact this
  · obtain ⟨h1, h2, h3⟩ := mem_ordF.mp ho
    have hno := mayG_nodup h3
    exact ⟨perm_of hno hn h2 (by omega), by rw [hlet h2, ← mayG_letG hno, h3]⟩
  · obtain ⟨h1, h2⟩ := hrow row hr
    have hr' : ∀ y ∈ row ++ [x], y ∈ N := fun y hy => by
      rcases List.mem_append.mp hy with h | h
      · exact h2 y h
      · rw [List.mem_singleton.mp h]; exact hx
    rw [hlet hr', letG_snoc, ← hlet h2, h, Bool.true_and]
    rfl
  · rw [← hmay row hr]
    unfold mayG
    rw [List.all_eq_true]
    exact ⟨fun k i hi => k i (List.mem_range.mp hi), fun k i hi => k i (List.mem_range.mpr hi)⟩
  · unfold wholeF
    rw [mem_ordF, hmay row hr, Bool.and_eq_true, decide_eq_true_eq]
    exact ⟨fun h => ⟨h.1, h.2.2⟩, fun h => ⟨h.1, (hrow row hr).2, h.2⟩⟩
  · unfold toldF wholeF
    rw [rowT_is inj (hrow row hr).2, List.length_map, ← hmay row hr]
    rcases foldI_is (ahF N kinds) row with ⟨h1, h2⟩ | ⟨h1, h2⟩
    · rw [h1, h2]
      by_cases hl : row.length = N.length
      · simp [hl]
      · simp [hl]
    · rw [h1]
      have : ¬ ((foldI (ahF N kinds) row).length = N.length ∧ N.length = row.length) := by omega
      rw [if_neg (by simpa using this), if_neg (by simp)]

def ks1 : List (List Str) := [["inner"], ["left"], ["cross"]]
def ks2 : List (List Str) := ks1.flatMap fun a => ks1.map fun b => a ++ b
def ks3 : List (List Str) := ks1.flatMap fun a => ks2.map fun b => a ++ b
theorem chk2 : ∀ f ∈ ([0, 1, 2] : List Int), ∀ ks ∈ ks1, chk (numsF f 2) ("inner" :: ks) = true := by decide +kernel
theorem chk3 : ∀ f ∈ ([0, 1, 2] : List Int), ∀ ks ∈ ks2, chk (numsF f 3) ("inner" :: ks) = true := by decide +kernel
theorem chk40 : ∀ ks ∈ ks3, chk (numsF 0 4) ("inner" :: ks) = true := by decide +kernel
theorem chk41 : ∀ ks ∈ ks3, chk (numsF 1 4) ("inner" :: ks) = true := by decide +kernel
theorem chk42 : ∀ ks ∈ ks3, chk (numsF 2 4) ("inner" :: ks) = true := by decide +kernel
theorem alias_inj : ∀ i < 9, ∀ j < 9, aliasOf (i : Nat) = aliasOf (j : Nat) → i = j := by decide +kernel
theorem kind_of {k : Str} (h : k ∈ (["inner", "inner", "left", "cross"] : List Str)) : k = "inner" ∨ k = "left" ∨ k = "cross" := by
  simp only [List.mem_cons, List.not_mem_nil, or_false] at h
  rcases h with h | h | h | h
  · exact .inl h
  · exact .inl h
  · exact .inr (.inl h)
  · exact .inr (.inr h)
theorem mem_ks1 {k : Str} (h : k ∈ (["inner", "inner", "left", "cross"] : List Str)) : [k] ∈ ks1 := by
  rcases kind_of h with rfl | rfl | rfl <;> simp [ks1]
theorem mem_ks2 {a b : Str} (ha : a ∈ (["inner", "inner", "left", "cross"] : List Str)) (hb : b ∈ (["inner", "inner", "left", "cross"] : List Str)) : [a, b] ∈ ks2 :=
  List.mem_flatMap.mpr ⟨[a], mem_ks1 ha, List.mem_map.mpr ⟨[b], mem_ks1 hb, rfl⟩⟩
theorem mem_ks3 {a b c : Str} (ha : a ∈ (["inner", "inner", "left", "cross"] : List Str)) (hb : b ∈ (["inner", "inner", "left", "cross"] : List Str)) (hc : c ∈ (["inner", "inner", "left", "cross"] : List Str)) : [a, b, c] ∈ ks3 :=
  List.mem_flatMap.mpr ⟨[a], mem_ks1 ha, List.mem_map.mpr ⟨[b, c], mem_ks2 hb hc, rfl⟩⟩

theorem cfg_all (f : Int) (mn : Nat) (ks : List Str) (h0 : 0 ≤ f) (h3 : f < 3) (m2 : 2 ≤ mn) (m4 : mn ≤ 4) (hl : ks.length = mn - 1) (hks : ∀ k ∈ ks, k ∈ (["inner", "inner", "left", "cross"] : List Str)) : Cfg (numsF f mn) ("inner" :: ks) := by
  have hlen : (numsF f mn).length = mn := by simp [numsF]
  have hrng : ∀ x ∈ numsF f mn, 0 ≤ x ∧ x ≤ 8 := fun x hx => by
    obtain ⟨i, hi, rfl⟩ := List.mem_map.mp hx
    have := List.mem_range.mp hi
    omega
  have hc : chk (numsF f mn) ("inner" :: ks) = true := by
    have hf : f ∈ ([0, 1, 2] : List Int) := by
      simp only [List.mem_cons, List.not_mem_nil, or_false]
      omega
    obtain rfl | rfl | rfl : mn = 2 ∨ mn = 3 ∨ mn = 4 := by omega
    · obtain ⟨a, rfl⟩ := List.length_eq_one_iff.mp hl
      exact chk2 f hf _ (mem_ks1 (hks a (by simp)))
    · match ks, hl with
      | [a, b], _ => exact chk3 f hf _ (mem_ks2 (hks a (by simp)) (hks b (by simp)))
    · match ks, hl with
      | [a, b, c], _ =>
        have hm := mem_ks3 (hks a (by simp)) (hks b (by simp)) (hks c (by simp))
        obtain rfl | rfl | rfl : f = 0 ∨ f = 1 ∨ f = 2 := by omega
        · exact chk40 _ hm
        · exact chk41 _ hm
        · exact chk42 _ hm
  refine cfg_of hc (by rw [hlen, List.length_cons, hl]; omega) (by omega) (fun k hk => ?_) hrng fun x hx y hy e => ?_
  · rcases List.mem_cons.mp hk with h | h
    · exact .inl h
    · exact kind_of (hks k h)
  · have h1 := hrng x hx
    have h2 := hrng y hy
    obtain ⟨i, rfl⟩ := Int.eq_ofNat_of_zero_le h1.1
    obtain ⟨j, rfl⟩ := Int.eq_ofNat_of_zero_le h2.1
    exact congrArg _ (alias_inj i (by omega) j (by omega) e)
end Mine

namespace Mine

section
variable {prog : Program} {w : World} {A : Around} {h₀ : Heap} {L : Addr} {m : Loc} {X B : Led} {env : Env} {K : Frag} {dp un : Nat}

theorem ts_or3 {e₁ e₂ e₃ : Expr} {pos whole} (h1 : Tr prog w A h₀ L m X B (isTrue e₁ env (eval e₁ env)) (IsB false)) (h2 : Tr prog w A h₀ L m X B (isTrue e₂ env (eval e₂ env)) (IsB false)) (h3 : Tr prog w A h₀ L m X B (isTrue e₃ env (eval e₃ env)) (IsB false)) :
    Tr prog w A h₀ L m X B (isTrue (.BoolOp .Or [e₁, e₂, e₃] pos) env whole) (IsB false) := by
  intro n s hX hB S
  refine isTrue_or (h1.go hX hB S fun tl v s1 sh1 S1 r1 => ?_)
  subst r1
  simp only [Bool.false_eq_true, if_false]
  exact ((ts_or2 (b := false) (c := false) h2 fun _ => h3).up' (mo_isB _) (tl := tl)).next hX hB sh1 S1

theorem valueAt_two {i j k : Int} {u v : Value} {a b : List Int} {l : List Int} {n : Led} (ha : DatIn n u (dL a)) (hb : DatIn n v (dL b)) (h : ([(i, a), (j, b)] : List (Int × List Int)).lookup k = some l) : ∃ x, valueAt [(i, u), (j, v)] k = some x ∧ DatIn n x (dL l) := by
  rw [List.lookup_cons] at h
  unfold valueAt
  cases hq : k == i with
  | true =>
    rw [hq] at h
    cases h
    have e : i = k := (eq_of_beq hq).symm
    exact ⟨u, by simp [e], ha⟩
  | false =>
    rw [hq] at h
    have ne : ¬ i = k := fun e => by rw [e] at hq; simp at hq
    rw [List.lookup_cons] at h
    cases hr : k == j with
    | true =>
      rw [hr] at h
      cases h
      have e : j = k := (eq_of_beq hr).symm
      exact ⟨v, by simp [ne, e], hb⟩
    | false => rw [hr] at h; cases h
theorem valueAt_one {i k : Int} {u : Value} {a : List Int} {l : List Int} {n : Led} (ha : DatIn n u (dL a)) (h : ([(i, a)] : List (Int × List Int)).lookup k = some l) : ∃ x, valueAt [(i, u)] k = some x ∧ DatIn n x (dL l) := by
  rw [List.lookup_cons] at h
  unfold valueAt
  cases hq : k == i with
  | true =>
    rw [hq] at h
    cases h
    have e : i = k := (eq_of_beq hq).symm
    exact ⟨u, by simp [e], ha⟩
  | false => rw [hq] at h; cases h
theorem St.updF {d : Addr} {o : Obj} {n : Led} {h : Heap} (S : St h₀ L m ((d, o) :: n) h) : UpdF d o ((d, o) :: n) (fun o' => (d, o') :: n) := by
  refine .head fun p hp e => ?_
  have := S.nd
  rw [List.map_cons, List.nodup_cons] at this
  exact this.1 (List.mem_map.mpr ⟨p, hp, e⟩)

/-- a dict display of one pair, of two pairs -/
theorem ev_dict1 {k₁ v₁ : Expr} {pos : Pos} {i : Int} {a : List Int} (T : ∃ p loose mean mg mb, Top p loose mean mg mb h₀) (hk₁ : Tr prog w A h₀ L m X B (eval k₁ env) (IsD (.int i))) (hv₁ : Tr prog w A h₀ L m X B (eval v₁ env) (IsD (dL a))) :
    Tr prog w A h₀ L m X B (eval (.Dict [some k₁] [v₁] pos) env) (IsAh prog w [(i, a)]) := by
  intro n s hX hB S
  obtain ⟨p, loose, mean, mg, mb, T⟩ := T
  refine kdn_eval (knd := PySem.intKind prog w) S.F S.N T.nolimit rfl rfl (by simp) (by show 1 ≤ 15; omega) fun d h₁ o F₁ N₁ lt _ hdo => ?_
  have S₁ : St h₀ L m ([(d, o)] ++ n) h₁ := ⟨F₁, N₁, nodup_cons_lt S.nd fun q hq => by
    obtain ⟨r, hr, rfl⟩ := List.mem_map.mp hq
    exact lt r hr⟩
  refine pairTrees_cons_walk ?_
  refine hk₁.goM (mu := [(d, o)]) (n := n) (s := { s with heap := h₁ }) (sub_rr hX) (sub_rr hB) S₁ fun tl₂ x₂ s₂ sh₂ S₂ r₂ => ?_
  refine hv₁.goM (mu := [(d, o)]) (n := tl₂ ++ n) (sub_rr (sub_rr hX)) (sub_rr (sub_rr hB)) S₂ fun tl₃ x₃ s₃ sh₃ S₃ r₃ => ?_
  refine pairTrees_nil_walk ?_
  cases r₂
  refine kdn_made_int (F := S₃.F) (N := S₃.N) (U := S₃.updF) hdo rfl (by simp [intKeyPairs]) fun h₄ o' F₄ N₄ hd' => ?_
  refine ⟨(d, o') :: (tl₃ ++ tl₂), ((Sh.mk s h₁ s.toks).trans (sh₂.trans sh₃)).trans (Sh.mk s₃ h₄ _), ?_, d, o', _, rfl, List.mem_cons_self .., hd', fun k l q => ?_⟩
  · rw [List.cons_append, List.append_assoc]
    exact ⟨F₄, N₄, S₃.nd⟩
  · refine valueAt_one (r₃.mono fun p hp => List.mem_cons_of_mem _ ?_) q
    show p ∈ (tl₃ ++ tl₂) ++ B
    rw [List.append_assoc]
    exact (List.mem_append.mp hp).elim (fun h => List.mem_append_left _ h) fun h => sub_right _ (sub_right _ h)
theorem ev_dict2 {k₁ v₁ k₂ v₂ : Expr} {pos : Pos} {i j : Int} {a b : List Int} (T : ∃ p loose mean mg mb, Top p loose mean mg mb h₀) (hij : i ≠ j) (hk₁ : Tr prog w A h₀ L m X B (eval k₁ env) (IsD (.int i))) (hv₁ : Tr prog w A h₀ L m X B (eval v₁ env) (IsD (dL a)))
    (hk₂ : Tr prog w A h₀ L m X B (eval k₂ env) (IsD (.int j))) (hv₂ : Tr prog w A h₀ L m X B (eval v₂ env) (IsD (dL b))) :
    Tr prog w A h₀ L m X B (eval (.Dict [some k₁, some k₂] [v₁, v₂] pos) env) (IsAh prog w [(i, a), (j, b)]) := by
  intro n s hX hB S
  obtain ⟨p, loose, mean, mg, mb, T⟩ := T
  refine kdn_eval (knd := PySem.intKind prog w) S.F S.N T.nolimit rfl rfl (by simp) (by show 2 ≤ 15; omega) fun d h₁ o F₁ N₁ lt _ hdo => ?_
  have S₁ : St h₀ L m ([(d, o)] ++ n) h₁ := ⟨F₁, N₁, nodup_cons_lt S.nd fun q hq => by
    obtain ⟨r, hr, rfl⟩ := List.mem_map.mp hq
    exact lt r hr⟩
  refine pairTrees_cons_walk ?_
  refine hk₁.goM (mu := [(d, o)]) (n := n) (s := { s with heap := h₁ }) (sub_rr hX) (sub_rr hB) S₁ fun tl₂ x₂ s₂ sh₂ S₂ r₂ => ?_
  refine hv₁.goM (mu := [(d, o)]) (n := tl₂ ++ n) (sub_rr (sub_rr hX)) (sub_rr (sub_rr hB)) S₂ fun tl₃ x₃ s₃ sh₃ S₃ r₃ => ?_
  refine pairTrees_cons_walk ?_
  refine hk₂.goM (mu := [(d, o)]) (n := tl₃ ++ (tl₂ ++ n)) (sub_rr (sub_rr (sub_rr hX))) (sub_rr (sub_rr (sub_rr hB))) S₃ fun tl₄ x₄ s₄ sh₄ S₄ r₄ => ?_
  refine hv₂.goM (mu := [(d, o)]) (n := tl₄ ++ (tl₃ ++ (tl₂ ++ n))) (sub_rr (sub_rr (sub_rr (sub_rr hX)))) (sub_rr (sub_rr (sub_rr (sub_rr hB)))) S₄ fun tl₅ x₅ s₅ sh₅ S₅ r₅ => ?_
  refine pairTrees_nil_walk ?_
  cases r₂
  cases r₄
  refine kdn_made_int (F := S₅.F) (N := S₅.N) (U := S₅.updF) hdo rfl (by simp [intKeyPairs, hij]) fun h₆ o' F₆ N₆ hd' => ?_
  refine ⟨(d, o') :: (tl₅ ++ (tl₄ ++ (tl₃ ++ tl₂))), ((Sh.mk s h₁ s.toks).trans (((sh₂.trans sh₃).trans sh₄).trans sh₅)).trans (Sh.mk s₅ h₆ _), ?_, d, o', _, rfl, List.mem_cons_self .., hd', fun k l q => ?_⟩
  · simp only [List.cons_append, List.append_assoc]
    exact ⟨F₆, N₆, S₅.nd⟩
  · refine valueAt_two (r₃.mono fun p hp => List.mem_cons_of_mem _ ?_) (r₅.mono fun p hp => List.mem_cons_of_mem _ ?_) q
    · show p ∈ (tl₅ ++ (tl₄ ++ (tl₃ ++ tl₂))) ++ B
      simp only [List.append_assoc]
      exact (List.mem_append.mp hp).elim (fun h => sub_right _ (sub_right _ (List.mem_append_left _ h))) fun h => sub_right _ (sub_right _ (sub_right _ (sub_right _ h)))
    · show p ∈ (tl₅ ++ (tl₄ ++ (tl₃ ++ tl₂))) ++ B
      simp only [List.append_assoc]
      exact (List.mem_append.mp hp).elim (fun h => List.mem_append_left _ h) fun h => sub_right _ (sub_right _ (sub_right _ (sub_right _ h)))

theorem star_const {c k pos rest} : starEach (.Constant c k pos :: rest) env = (false, eval (.Constant c k pos) env) :: starEach rest env := rfl
theorem star_list {es pos rest} : starEach (.List es pos :: rest) env = (false, eval (.List es pos) env) :: starEach rest env := rfl
theorem star_dict {ks vs pos rest} : starEach (.Dict ks vs pos :: rest) env = (false, eval (.Dict ks vs pos) env) :: starEach rest env := rfl
theorem items3d {pos p₁ p₂ p₃ : Pos} {c : Const} {k : Nat} {es : List Expr} {ks : List (Option Expr)} {vs : List Expr} {R₁ R₂ R₃ : Led → Value → Prop} (m1 : Mo R₁) (m2 : Mo R₂) (m3 : Mo R₃) (h1 : Tr prog w A h₀ L m X B (eval (.Constant c k p₁) env) R₁) (h2 : Tr prog w A h₀ L m X B (eval (.List es p₂) env) R₂) (h3 : Tr prog w A h₀ L m X B (eval (.Dict ks vs p₃) env) R₃) :
    Tr prog w A h₀ L m X B (spliced (backTo pos (starEach [.Constant c k p₁, .List es p₂, .Dict ks vs p₃] env))) (fun n vs => ∃ a b c, vs = [a, b, c] ∧ R₁ n a ∧ R₂ n b ∧ R₃ n c) := items3 m1 m2 m3 h1 h2 h3 star_const star_list star_dict
theorem one_le : ([Dat.int 2] : List Dat).length ≤ sizeLine := by rw [sizeLine_eq]; show 1 ≤ _; omega
theorem lst0 {p : Pos} : Tr prog w A h₀ L m X B (eval (.List [] p) env) (IsD (dL [])) := ev_list tr_items_nil (fun n vs e => by rw [e]; exact .nil) (Nat.zero_le _)
theorem lst2 {k : Nat} {p p' : Pos} : Tr prog w A h₀ L m X B (eval (.List [.Constant (.int 2) k p] p') env) (IsD (dL [2])) := ev_list (ds := [Dat.int 2]) (items1 (mo_isD (.int 2)) ev_int star_const) (fun n vs e => by obtain ⟨x, rfl, r⟩ := e; exact .cons r .nil) one_le
theorem dic2 {k₁ k₂ k₃ : Nat} {p₁ p₂ p₃ p₄ p₅ p₆ : Pos} (T : ∃ p loose mean mg mb, Top p loose mean mg mb h₀) :
    Tr prog w A h₀ L m X B (eval (.Dict [some (.Constant (.int 2) k₁ p₁), some (.Constant (.int 3) k₂ p₂)] [.List [] p₃, .List [.Constant (.int 2) k₃ p₄] p₅] p₆) env) (IsAh prog w [(2, []), (3, [2])]) :=
  @ev_dict2 prog w A h₀ L m X B env _ _ _ _ _ 2 3 [] [2] T (by decide) ev_int lst0 ev_int lst2
theorem dic1 {k₂ k₃ : Nat} {p₂ p₄ p₅ p₆ : Pos} (T : ∃ p loose mean mg mb, Top p loose mean mg mb h₀) :
    Tr prog w A h₀ L m X B (eval (.Dict [some (.Constant (.int 3) k₂ p₂)] [.List [.Constant (.int 2) k₃ p₄] p₅] p₆) env) (IsAh prog w [(3, [2])]) :=
  @ev_dict1 prog w A h₀ L m X B env _ _ _ 3 [2] T ev_int lst2
theorem law_body_spec (H : KH K) {f : Addr} {cdv : Value} (C : Cx prog w K A (envOf "law" (fnScope (stAt 14)) L f cdv) h₀ L dp un) (hd : dp ≤ 350) (hu : un ≤ 3000) {l : Addr} {vals : List Value} {zs : List Int} (hL : h₀.IsList l vals.toArray) (hI : IntsAre vals zs) (hz : zs.length ≤ 1000)
    {n : Led} {s : Shared} (S : St h₀ L (fun x => List.lookup x [(Str.ofString "script", Value.ref l)].reverse) n s.heap) :
    wpAny (model prog w) A (execs (fnBody (stAt 14)) (envOf "law" (fnScope (stAt 14)) L f cdv)) (fun fl s' => fl = .ret (.bool true) ∧ Sh s s' ∧ ∃ m' n', St h₀ L m' n' s'.heap) NF s := by
  refine wpAny_execs_cons ?_
  refine st_if (mu := []) (n := n) (X := []) (B := []) (b := false) ?_ (fun _ h => nomatch h) (fun _ h => nomatch h) S (fun h => nomatch h) fun _ tl₂ s₂ sh₂ S₂ => wpAny_execs_nil ?_
  · refine ts_or3 (ts_val ?_) (ts_not (b := true) (ts_val ?_)) (ts_val ?_)
    · refine ev_callF (RA := fun n vs => ∃ a b c, vs = [a, b, c] ∧ IsD (.int 2) n a ∧ IsD (dL [2]) n b ∧ IsAh prog w [(2, []), (3, [2])] n c) C.X H.may.keep (nm_global (cl := []) C.T C.X H.may.ns rfl) ?_ (mo3 (mo_isD _) (mo_isD _) (mo_isAh _)) fun tl vs r => ?_
      · exact @items3d prog w A h₀ L _ [] [] _ _ _ _ _ _ _ _ _ _ _ _ _ (mo_isD _) (mo_isD _) (mo_isAh _) ev_int lst2 (@dic2 prog w A h₀ L _ [] [] _ _ _ _ _ _ _ _ _ _ C.T)
      obtain ⟨x, y, z, rfl, r1, r2, r3⟩ := r
      exact may_follow_spec (l := []) H C (by omega) (by omega) r1 r2 r3 rfl (by decide)
    · refine ev_callF (RA := fun n vs => ∃ a b c, vs = [a, b, c] ∧ IsD (.int 3) n a ∧ IsD (dL [2]) n b ∧ IsAh prog w [(2, []), (3, [2])] n c) C.X H.may.keep (nm_global (cl := []) C.T C.X H.may.ns rfl) ?_ (mo3 (mo_isD _) (mo_isD _) (mo_isAh _)) fun tl vs r => ?_
      · exact @items3d prog w A h₀ L _ [] [] _ _ _ _ _ _ _ _ _ _ _ _ _ (mo_isD _) (mo_isD _) (mo_isAh _) ev_int lst2 (@dic2 prog w A h₀ L _ [] [] _ _ _ _ _ _ _ _ _ _ C.T)
      obtain ⟨x, y, z, rfl, r1, r2, r3⟩ := r
      exact may_follow_spec (l := [2]) H C (by omega) (by omega) r1 r2 r3 rfl (by decide)
    · refine ev_callF (RA := fun n vs => ∃ a b c, vs = [a, b, c] ∧ IsD (.int 3) n a ∧ IsD (dL []) n b ∧ IsAh prog w [(3, [2])] n c) C.X H.may.keep (nm_global (cl := []) C.T C.X H.may.ns rfl) ?_ (mo3 (mo_isD _) (mo_isD _) (mo_isAh _)) fun tl vs r => ?_
      · exact @items3d prog w A h₀ L _ [] [] _ _ _ _ _ _ _ _ _ _ _ _ _ (mo_isD _) (mo_isD _) (mo_isAh _) ev_int lst0 (@dic1 prog w A h₀ L _ [] [] _ _ _ _ _ _ _ C.T)
      obtain ⟨x, y, z, rfl, r1, r2, r3⟩ := r
      exact may_follow_spec (l := [2]) H C (by omega) (by omega) r1 r2 r3 rfl (by decide)
  -- return _law_right(_law_pool(script, 0))
  refine wpAny_execs_cons (wpAny_Return_some ?_)
  refine Call_ (he := by rfl) ?_
  refine Tr.goM (mu := []) (n := tl₂ ++ n) (X := []) (B := []) (R := fun _ v => v = .ref 86) (nm_global (cl := []) C.T C.X H.right.ns rfl) (fun _ h => nomatch h) (fun _ h => nomatch h) S₂ fun tl₃ v₃ s₃ sh₃ S₃ r₃ => ?_
  subst r₃
  refine callWith_K (he := by rfl) (hplain := by rfl) C.X H.right.keep (wpAny_items_cons (he := by rfl) ?_)
  refine Call_ (he := by rfl) ?_
  refine Tr.goM (mu := []) (n := tl₃ ++ (tl₂ ++ n)) (X := []) (B := []) (R := fun _ v => v = .ref 45) (nm_global (cl := []) C.T C.X H.pool.ns rfl) (fun _ h => nomatch h) (fun _ h => nomatch h) S₃ fun tl₄ v₄ s₄ sh₄ S₄ r₄ => ?_
  subst r₄
  refine callWith_K (he := by rfl) (hplain := by rfl) C.X H.pool.keep ?_
  refine Tr.goM (mu := []) (n := tl₄ ++ (tl₃ ++ (tl₂ ++ n))) (X := []) (B := []) (items2 mo_eq (mo_isD (.int 0)) (nm_local (cl := []) (R := fun _ v => v = .ref l) (by rfl) rfl) ev_int) (fun _ h => nomatch h) (fun _ h => nomatch h) S₄ fun tl₅ v₅ s₅ sh₅ S₅ r₅ => ?_
  obtain ⟨a, b, rfl, rfl, r5⟩ := r₅
  cases r5
  refine ⟨C.X.keeps S₅.F.keep, wpAny_mono (law_pool_spec H C (by omega) (by omega) hL hI hz S₅) ?_ fun _ _ e => e⟩
  rintro _ s₆ ⟨src, o, tl₆, rfl, G, sh₆, S₆⟩
  refine wpAny_items_nil ?_
  refine ⟨C.X.keeps S₆.F.keep, wpAny_mono (law_right_spec H C hd hu cfg_all G S₆) ?_ fun _ _ e => e⟩
  rintro _ s₇ ⟨n', rfl, sh₇, S₇⟩
  exact ⟨rfl, ((((sh₂.trans sh₃).trans sh₄).trans sh₅).trans sh₆).trans sh₇, _, _, S₇⟩
end
end Mine

set_option maxHeartbeats 8000000
open_top Mine.hd for PySem.Challenge.rw_xm0741_01
namespace Mine

theorem fnAt_of {K : Frag} {f : Addr} {i : Nat} {name : Str} {oc od doc pm an cdv ct osl} (h : K.lookup f = some ⟨oc, od, .func (fnOf name name (fnParams (stAt i)) (fnBody (stAt i)) (fnScope (stAt i)) .none .none doc pm an cdv ct), osl⟩) (h1 : codeIn K cdv name = true)
    (h2 : nsIn K mainGlobals name = some (some (.ref f))) (h3 : keepIn K (.ref f) = true) : FnAt K f i name := ⟨⟨_, _, _, _, _, _, _, _, h, h1⟩, h2, h3⟩
theorem kh (P : Params) : KH (Mine.hd.heap_39 P) where
  kept := fnAt_of rfl (by kernel_rfl) (by kernel_rfl) (by kernel_rfl)
  may := fnAt_of rfl (by kernel_rfl) (by kernel_rfl) (by kernel_rfl)
  orders := fnAt_of rfl (by kernel_rfl) (by kernel_rfl) (by kernel_rfl)
  told := fnAt_of rfl (by kernel_rfl) (by kernel_rfl) (by kernel_rfl)
  pool := fnAt_of rfl (by kernel_rfl) (by kernel_rfl) (by kernel_rfl)
  take := fnAt_of rfl (by kernel_rfl) (by kernel_rfl) (by kernel_rfl)
  one := fnAt_of rfl (by kernel_rfl) (by kernel_rfl) (by kernel_rfl)
  shuffled := fnAt_of rfl (by kernel_rfl) (by kernel_rfl) (by kernel_rfl)
  isLet := fnAt_of rfl (by kernel_rfl) (by kernel_rfl) (by kernel_rfl)
  rowRight := fnAt_of rfl (by kernel_rfl) (by kernel_rfl) (by kernel_rfl)
  allRight := fnAt_of rfl (by kernel_rfl) (by kernel_rfl) (by kernel_rfl)
  right := fnAt_of rfl (by kernel_rfl) (by kernel_rfl) (by kernel_rfl)
  built := by
    intro x hx
    simp only [List.mem_cons, List.not_mem_nil, or_false] at hx
    rcases hx with rfl | rfl | rfl | rfl | rfl | rfl | rfl | rfl | rfl <;> kernel_rfl
end Mine

theorem PySem.Challenge.cw_xm0741_01_holds : PySem.Challenge.rw_xm0741_01.Holds := by
  refine Mine.hd ?_
  k_go0
  (all_goals try k_fold)
  have KX := ‹(Mine.hd.heap_39 _).In _›
  have T := ‹Top _ _ _ _ _ _›
  have K0 := ‹Below callerA _ [] _›
  have F := ‹Fr _ _ _ _›
  have N0 := ‹News _ _ _ []›
  have hL := ‹Heap.IsList _ _ _›
  have hI := ‹IntsAre _ _›
  have hg := ‹_ = #[]›
  have hz : ¬ (63 : Int) < _ := ‹¬ _ < _›
  refine wpAny_mono (E := Mine.NF) (@Mine.law_body_spec _ _ _ _ _ _ 302 100 (Mine.kh _) _ _ ⟨⟨callerA, _, [], K0, Around.frames_deeper rfl⟩, KX, ⟨_, _, _, _, _, T⟩, rfl, rfl, rfl, ?_, ?_⟩ (by omega) (by omega) _ _ _ hL hI (by omega) [] _ ⟨F, N0, .nil⟩) ?_ (fun _ _ e => e.elim)
  · exact Nat.le_of_ble_eq_true rfl
  · exact Nat.le_of_ble_eq_true rfl
  · rintro fl s' ⟨rfl, ⟨h, tk, rfl⟩, m', n', S'⟩
    refine goodW_bool S'.F hg (fun _ => rfl) ?_
    kc_post
