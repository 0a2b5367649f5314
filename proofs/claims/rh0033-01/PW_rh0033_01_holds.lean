import PyProof.Rows.All
import Wide.All
import OpenK.AllK
import Wide.FinOn
import PySem.Challenge.RW_rh0033_01
open PySem PySem.W PyProof.Rows
set_option Elab.async false
set_option maxRecDepth 100000
set_option maxHeartbeats 400000
set_option linter.unusedVariables false
set_option linter.unusedSimpArgs false
set_option genSizeOf false
namespace Mine
local macro_rules | `(tactic| omega) => `(tactic| first | assumption | exact Nat.le_of_ble_eq_true rfl | exact Nat.le_trans (by assumption) (Nat.le_of_ble_eq_true rfl) | exact Nat.lt_of_lt_of_le (by assumption) (Nat.le_of_ble_eq_true rfl) | lia)
/-! ## Pure data, and what a value bears in a heap -/
inductive D where
  | none
  | bool (b : Bool)
  | int (i : Int)
  | str (x : Str)
  | list (ds : List D)
  | tup (ds : List D)
  | rng (a b c : Int)
  | box

noncomputable abbrev IsT (h : Heap) (l : Addr) (items : Array Value) (n : Nat) : Prop := h.get? l = some { cls := .type "tuple", dict := none, data := .seq items n, slots := #[] }

mutual
inductive Rep (β : Addr) (hid : List Addr) (h : Heap) : Value → D → Prop
  | none : Rep β hid h .none .none
  | bool (b : Bool) : Rep β hid h (.bool b) (.bool b)
  | int (i : Int) (t : Tok) : Rep β hid h (.int i t) (.int i)
  | str (x : Str) (t : Tok) : Rep β hid h (.str x t) (.str x)
  | list {a : Addr} {vs : List Value} {n : Nat} {ds : List D} : a ∉ hid → a ≠ β → IsL h a vs.toArray n → RepAll β hid h vs ds → Rep β hid h (.ref a) (.list ds)
  | tup {a : Addr} {vs : List Value} {n : Nat} {ds : List D} : a ∉ hid → a ≠ β → IsT h a vs.toArray n → RepAll β hid h vs ds → Rep β hid h (.ref a) (.tup ds)
  | rng {a : Addr} {x y z : Int} {t u v : Tok} : a ∉ hid → a ≠ β → IsRange h a x y z t u v → Rep β hid h (.ref a) (.rng x y z)
  | box : Rep β hid h (.ref β) .box
inductive RepAll (β : Addr) (hid : List Addr) (h : Heap) : List Value → List D → Prop
  | nil : RepAll β hid h [] []
  | cons {v : Value} {vs : List Value} {d : D} {ds : List D} : Rep β hid h v d → RepAll β hid h vs ds → RepAll β hid h (v :: vs) (d :: ds)
end

/-- all objects but the one at β stand as they stood -/
structure Ext (β : Addr) (h h' : Heap) : Prop where
  keep : ∀ b o, b ≠ β → h.get? b = some o → h'.get? b = some o

theorem Ext.refl (β : Addr) (h : Heap) : Ext β h h := ⟨fun _ _ _ e => e⟩
theorem Ext.trans {β : Addr} {h h' h'' : Heap} (x : Ext β h h') (y : Ext β h' h'') : Ext β h h'' :=
  ⟨fun b o nb e => y.keep b o nb (x.keep b o nb e)⟩
theorem Ext.push (β : Addr) (h : Heap) (o : Obj) : Ext β h (h.push o) :=
  ⟨fun _ _ _ e => Heap.get?_push_of_some _ e⟩
theorem Ext.of_keeps {β : Addr} {h h' : Heap} (k : ∀ b o, h.get? b = some o → h'.get? b = some o) : Ext β h h' := ⟨fun b o _ e => k b o e⟩

/-- the objects that data lives in -/
noncomputable def DataObj (o : Obj) : Prop := (o.cls = .type "list" ∨ o.cls = .type "tuple" ∨ o.cls = .type "range") ∧ (∀ es n, o.data ≠ .dict es n) ∧ ∀ v, o.data ≠ .cell v
theorem dataL (vs : Array Value) (n : Nat) : DataObj { cls := .type "list", dict := none, data := .seq vs n, slots := #[] } := ⟨.inl rfl, (fun _ _ q => nomatch q), (fun _ q => nomatch q)⟩
theorem dataT (vs : Array Value) (n : Nat) : DataObj { cls := .type "tuple", dict := none, data := .seq vs n, slots := #[] } := ⟨.inr (.inl rfl), (fun _ _ q => nomatch q), (fun _ q => nomatch q)⟩
theorem dataR (vs : Array Value) : DataObj { cls := .type "range", data := .fields vs } := ⟨.inr (.inr rfl), (fun _ _ q => nomatch q), (fun _ q => nomatch q)⟩

section
variable {β : Addr} {hid hid' : List Addr} {h h' : Heap}
/-- what is borne stays borne where the objects met (none of them hidden) stand as they stood -/
theorem Rep.map (hk : ∀ b o, b ∉ hid → b ≠ β → DataObj o → h.get? b = some o → h'.get? b = some o ∧ b ∉ hid') {v : Value} {d : D} (r : Rep β hid h v d) : Rep β hid' h' v d :=
  Rep.rec (motive_1 := fun v d _ => Rep β hid' h' v d) (motive_2 := fun vs ds _ => RepAll β hid' h' vs ds) .none .bool .int .str
    (fun nh nb e _ ih => .list (hk _ _ nh nb (dataL _ _) e).2 nb (hk _ _ nh nb (dataL _ _) e).1 ih) (fun nh nb e _ ih => .tup (hk _ _ nh nb (dataT _ _) e).2 nb (hk _ _ nh nb (dataT _ _) e).1 ih)
    (fun nh nb e => .rng (hk _ _ nh nb (dataR _) e).2 nb (hk _ _ nh nb (dataR _) e).1) .box .nil (fun _ _ a b => .cons a b) r
theorem RepAll.map (hk : ∀ b o, b ∉ hid → b ≠ β → DataObj o → h.get? b = some o → h'.get? b = some o ∧ b ∉ hid') {vs : List Value} {ds : List D} (r : RepAll β hid h vs ds) : RepAll β hid' h' vs ds := by
  induction vs generalizing ds with
  | nil => cases r; exact .nil
  | cons v vs ih => cases r with | cons a r => exact .cons (a.map hk) (ih r)
end

section
variable {β : Addr} {hid hid' : List Addr} {h h' : Heap} {v : Value} {d : D} {vs ws : List Value} {ds es : List D}
theorem Rep.ext (r : Rep β hid h v d) (x : Ext β h h') : Rep β hid h' v d := r.map fun b o nh nb _ e => ⟨x.keep b o nb e, nh⟩
theorem RepAll.ext (r : RepAll β hid h vs ds) (x : Ext β h h') : RepAll β hid h' vs ds := r.map fun b o nh nb _ e => ⟨x.keep b o nb e, nh⟩
theorem Rep.sub (r : Rep β hid h v d) (x : ∀ a ∈ hid', a ∈ hid) : Rep β hid' h v d := r.map fun b o nh _ _ e => ⟨e, fun m => nh (x b m)⟩
theorem RepAll.sub (r : RepAll β hid h vs ds) (x : ∀ a ∈ hid', a ∈ hid) : RepAll β hid' h vs ds := r.map fun b o nh _ _ e => ⟨e, fun m => nh (x b m)⟩
theorem RepAll.length (r : RepAll β hid h vs ds) : vs.length = ds.length := by
  induction vs generalizing ds with
  | nil => cases r; rfl
  | cons v vs ih => cases r with | cons _ r => rw [List.length_cons, List.length_cons, ih r]
theorem RepAll.append (r : RepAll β hid h vs ds) (k : RepAll β hid h ws es) : RepAll β hid h (vs ++ ws) (ds ++ es) := by
  induction vs generalizing ds with
  | nil => cases r; exact k
  | cons v vs ih => cases r with | cons a r => exact .cons a (ih r)
theorem RepAll.one (r : Rep β hid h v d) : RepAll β hid h [v] [d] := .cons r .nil
theorem RepAll.get (r : RepAll β hid h vs ds) {k : Nat} {d : D} (hk : ds[k]? = some d) : ∃ v, vs[k]? = some v ∧ Rep β hid h v d := by
  induction vs generalizing ds k with
  | nil => cases r; simp at hk
  | cons v vs ih =>
    cases r with
    | cons a r =>
      cases k with
      | zero => simp at hk; subst hk; exact ⟨v, rfl, a⟩
      | succ k => exact ih r (by simpa using hk)
theorem RepAll.take (r : RepAll β hid h vs ds) (k : Nat) : RepAll β hid h (vs.take k) (ds.take k) := by
  induction vs generalizing ds k with
  | nil => cases r; simpa using RepAll.nil
  | cons v vs ih =>
    cases r with
    | cons a r => cases k with
      | zero => exact .nil
      | succ k => exact .cons a (ih r k)
theorem RepAll.drop (r : RepAll β hid h vs ds) (k : Nat) : RepAll β hid h (vs.drop k) (ds.drop k) := by
  induction vs generalizing ds k with
  | nil => cases r; simpa using RepAll.nil
  | cons v vs ih =>
    cases r with
    | cons a r => cases k with
      | zero => exact .cons a r
      | succ k => exact ih r k
theorem RepAll.reverse (r : RepAll β hid h vs ds) : RepAll β hid h vs.reverse ds.reverse := by
  induction vs generalizing ds with
  | nil => cases r; exact .nil
  | cons v vs ih => cases r with | cons a r => rw [List.reverse_cons, List.reverse_cons]; exact (ih r).append (.one a)
theorem RepAll.set (r : RepAll β hid h vs ds) (k : Nat) (a : Rep β hid h v d) : RepAll β hid h (vs.set k v) (ds.set k d) := by
  induction vs generalizing ds k with
  | nil => cases r; exact .nil
  | cons w vs ih => cases r with
    | cons b r => cases k with
      | zero => exact .cons a r
      | succ k => exact .cons b (ih r k)
theorem RepAll.replicate (a : Rep β hid h v d) (n : Nat) : RepAll β hid h (List.replicate n v) (List.replicate n d) := by
  induction n with
  | zero => exact .nil
  | succ n ih => exact .cons a ih
theorem RepAll.ints {ns : List Int} (r : RepAll β hid h vs (ns.map .int)) : IntsAre vs ns := by
  induction ns generalizing vs with
  | nil => cases r; exact .nil
  | cons n ns ih => cases r with | cons a r => cases a; exact .cons _ _ (ih r)
end
/-! ## The fixed surroundings of the call -/
/-- the i-th statement of the row's text, where it is a def -/
noncomputable def defAt (i : Nat) : Option (Str × Arguments × List Stmt × Scope) :=
  match PySem.Challenge.pw_rh0033_01.main.body[i]? with
  | some (.FunctionDef name args body _ _ _ scope _ _ _) => some (name, args, body, scope)
  | _ => none
/-- the built-in names that the text calls -/
noncomputable def blts : List Str := ["abs", "len", "list", "range", "max", "sorted", "zip", "enumerate", "reversed", "sum", "any", "all", "tuple"]
noncomputable def someInts : List Int := [5, 4, 3, 1, 2, 35, -3, 7, 9, 0, 11, 6, 15, -1]
structure Cx where
  prog : Program
  w : World
  mg : Str → Option Value
  mb : Str → Option Value
  h₀ : Heap
  α : Addr
  β : Addr
  xs : List Int

structure Cx.Ok (C : Cx) : Prop where
  g : C.h₀.Ns mainGlobals C.mg
  b : C.h₀.Ns builtinsNs C.mb
  nolimit : C.h₀.NoLimit
  defs : ∀ i name params body scope, defAt i = some (name, params, body, scope) →
    ∃ a o pm code doc, C.mg name = some (.ref a) ∧ C.h₀.get? a = some o ∧ o.data = .func (Calls.docDef name params body scope pm code doc) ∧ C.h₀.CodeRec code name
  blt : ∀ x ∈ blts, C.mg x = none ∧ C.mb x = bootBuiltins x
  menu : ∃ l vs n, C.mg "_law_some" = some (.ref l) ∧ IsL C.h₀ l vs n ∧ IntsAre vs.toList someInts
  βnew : C.h₀.get? C.β = none

noncomputable def Bx (C : Cx) (h : Heap) (c : Int) : Prop := ∃ t n, IsL h C.β #[.ref C.α, .int c t] n

structure Now (C : Cx) (hid : List Addr) (h : Heap) (c : Int) : Prop where
  ok : C.Ok
  base : ∀ b o, C.h₀.get? b = some o → h.get? b = some o
  box : Bx C h c
  first : ∃ vs n, IsL h C.α vs n ∧ IntsAre vs.toList C.xs
  αβ : C.α ≠ C.β
  αh : C.α ∉ hid
  live : ∀ a ∈ hid, ∃ o, h.get? a = some o

structure Room (A : Around) (k : Nat) : Prop where
  handled : A.handled = none
  depth : A.depth + k ≤ 900
  units : A.units + 10 * k ≤ 9000

structure EnvOK (env : Env) (sc : Scope) : Prop where
  is : env.scope = sc
  kind : sc.kind = .function
  glob : env.globals = mainGlobals
  blt : env.builtins = builtinsNs
  apart : ∀ x y c, env.cells.lookup x = some c → env.cells.lookup y = some c → x = y

/-- the name x of the frame holds the value v -/
structure Holds (env : Env) (h : Heap) (x : Str) (v : Value) : Prop where
  plain : (x == ("__debug__" : Str)) = false ∧ (x == ("__classdict__" : Str)) = false
  is : (env.kindOf x = some .local ∧ ∃ m, h.Ns env.locals m ∧ m x = some v) ∨
    ((env.kindOf x = some .cell ∨ env.kindOf x = some .free) ∧ ∃ c, env.cells.lookup x = some c ∧ h.IsCell c (some v))

noncomputable def Sees (C : Cx) (env : Env) (hid : List Addr) (h : Heap) (Γ : List (Str × D)) : Prop :=
  ∀ x d, (x, d) ∈ Γ → ∃ v, Holds env h x v ∧ Rep C.β hid h v d

section
variable {C : Cx} {hid hid' : List Addr} {h h' : Heap} {c c' : Int} {env : Env} {x : Str} {v : Value} {Γ Γ' : List (Str × D)} {A : Around} {k k' : Nat} {sc : Scope}

theorem Room.mono (r : Room A k) (h : k' ≤ k) : Room A k' := ⟨r.handled, by have := r.depth; omega, by have := r.units; omega⟩
theorem Room.in1 (r : Room A (k + 1)) : Room A.in1 k := ⟨r.handled, by have := r.depth; simp only [Around.in1_depth]; omega, by have := r.units; simp only [Around.in1_units]; omega⟩
theorem Room.deeper (r : Room A (k + 1)) (env : Env) : Room (A.deeper env) k := ⟨r.handled, by have := r.depth; show A.depth + 1 + k ≤ _; omega, by have := r.units; simp only [Around.deeper_units]; omega⟩
theorem Room.mark (r : Room A k) : A.mark none = A := by cases A; rfl

theorem Now.bβ (n : Now C hid h c) {b : Addr} {o : Obj} (e : h.get? b = some o) (nd : ∀ xs m, o.data ≠ .seq xs m) : b ≠ C.β := by
  rintro rfl
  obtain ⟨t, m, hb⟩ := n.box
  rw [hb] at e; cases e
  exact nd _ _ rfl
theorem Now.ext (n : Now C hid h c) (x : Ext C.β h h') (b : Bx C h' c') : Now C hid h' c' where
  ok := n.ok
  base := fun b o e => x.keep b o (by rintro rfl; rw [n.ok.βnew] at e; cases e) (n.base b o e)
  box := b
  first := let ⟨vs, m, hl, hi⟩ := n.first; ⟨vs, m, x.keep _ _ n.αβ hl, hi⟩
  αβ := n.αβ
  αh := n.αh
  live := fun a m => by
    by_cases e : a = C.β
    · subst e; obtain ⟨t, m, q⟩ := b; exact ⟨_, q⟩
    · obtain ⟨o, q⟩ := n.live a m; exact ⟨o, x.keep a o e q⟩
theorem Now.sub (n : Now C hid h c) (k : ∀ a ∈ hid', a ∈ hid) : Now C hid' h c :=
  ⟨n.ok, n.base, n.box, n.first, n.αβ, fun m => n.αh (k _ m), fun a m => n.live a (k a m)⟩

theorem Holds.ext (q : Holds env h x v) (n : Now C hid h c) (y : Ext C.β h h') : Holds env h' x v := by
  refine ⟨q.plain, ?_⟩
  rcases q.is with ⟨a, m, hn, e⟩ | ⟨a, cc, hc, o, ho, hd⟩
  · refine .inl ⟨a, m, ?_, e⟩
    obtain ⟨o, es, ep, ho, hd, r⟩ := hn
    exact ⟨o, es, ep, y.keep _ _ (n.bβ ho (by rw [hd]; intro _ _ q; cases q)) ho, hd, r⟩
  · exact .inr ⟨a, cc, hc, o, y.keep _ _ (n.bβ ho (by rw [hd]; intro _ _ q; cases q)) ho, hd⟩
theorem Sees.ext (q : Sees C env hid h Γ) (n : Now C hid h c) (y : Ext C.β h h') : Sees C env hid h' Γ := fun x d m =>
  let ⟨v, a, b⟩ := q x d m; ⟨v, a.ext n y, b.ext y⟩
theorem Sees.sub (q : Sees C env hid h Γ) (k : ∀ p ∈ Γ', p ∈ Γ) : Sees C env hid h Γ' := fun x d m => q x d (k _ m)
theorem Bx.keep (b : Bx C h c) (e : ∀ o, h.get? C.β = some o → h'.get? C.β = some o) : Bx C h' c := let ⟨t, n, q⟩ := b; ⟨t, n, e _ q⟩
end

theorem get_size (h : Heap) : h.get? h.objs.size = none := by
  cases e : h.get? h.objs.size with
  | none => rfl
  | some o => exact absurd (Heap.lt_size e) (Nat.lt_irrefl _)
section
variable {C : Cx} {hid : List Addr} {h h' : Heap} {c c' : Int}
theorem Now.fresh (n : Now C hid h c) {a : Addr} (e : h.get? a = none) : a ∉ hid ∧ a ≠ C.β ∧ a ≠ C.α := by
  refine ⟨fun m => ?_, ?_, ?_⟩
  · obtain ⟨o, q⟩ := n.live a m; rw [e] at q; cases q
  · rintro rfl; obtain ⟨t, m, q⟩ := n.box; cases e.symm.trans q
  · rintro rfl; obtain ⟨t, m, q, _⟩ := n.first; cases e.symm.trans q
theorem Now.size_ne (n : Now C hid h c) : h.objs.size ∉ hid ∧ h.objs.size ≠ C.β := let ⟨a, b, _⟩ := n.fresh (get_size h); ⟨a, b⟩
theorem Now.fresh_back (n : Now C hid h c) (x : Ext C.β h h') (b : Bx C h' c') {a : Addr} (e : h'.get? a = none) : h.get? a = none := by
  cases q : h.get? a with
  | none => rfl
  | some o =>
    by_cases ha : a = C.β
    · subst ha; obtain ⟨t, m, r⟩ := b; cases e.symm.trans r
    · rw [x.keep a o ha q] at e; cases e
end

/-! ## Triples of expressions -/
/-- e, evaluated where the names bear Γ and the box's count is c, gives a value that bears d; the count is then c' -/
noncomputable def Ev (C : Cx) (k : Nat) (sc : Scope) (Γ : List (Str × D)) (c : Int) (e : Expr) (d : D) (c' : Int) : Prop :=
  ∀ (A : Around) (env : Env) (hid : List Addr) (s : Shared) (Q : Value → Shared → Prop) (E : Value → Shared → Prop),
    Room A k → EnvOK env sc → Now C hid s.heap c → Sees C env hid s.heap Γ →
    (∀ v h' tk, Ext C.β s.heap h' → Bx C h' c' → Rep C.β hid h' v d → Q v { s with heap := h', toks := tk }) →
    wpAny (model C.prog C.w) A (eval e env) Q E s

/-- e as a test -/
noncomputable def EvT (C : Cx) (k : Nat) (sc : Scope) (Γ : List (Str × D)) (c : Int) (e : Expr) (b : Bool) (c' : Int) : Prop :=
  ∀ (A : Around) (env : Env) (hid : List Addr) (s : Shared) (Q : Bool → Shared → Prop) (E : Value → Shared → Prop),
    Room A k → EnvOK env sc → Now C hid s.heap c → Sees C env hid s.heap Γ →
    (∀ h' tk, Ext C.β s.heap h' → Bx C h' c' → Q b { s with heap := h', toks := tk }) →
    wpAny (model C.prog C.w) A (isTrue e env (eval e env)) Q E s

/-- no star among them -/
noncomputable def PlainL (es : List Expr) : Prop := ∀ env pos, backTo pos (starEach es env) = es.map fun e => (false, eval e env)
/-- a row of expressions, plain ones -/
noncomputable def EvL (C : Cx) (k : Nat) (sc : Scope) (Γ : List (Str × D)) (c : Int) (es : List Expr) (ds : List D) (c' : Int) : Prop :=
  PlainL es ∧ ∀ (A : Around) (env : Env) (hid : List Addr) (s : Shared) (Q : List Value → Shared → Prop) (E : Value → Shared → Prop) (pos : Pos),
    Room A k → EnvOK env sc → Now C hid s.heap c → Sees C env hid s.heap Γ →
    (∀ vs h' tk, Ext C.β s.heap h' → Bx C h' c' → RepAll C.β hid h' vs ds → Q vs { s with heap := h', toks := tk }) →
    wpAny (model C.prog C.w) A (spliced (backTo pos (starEach es env))) Q E s

/-- e gives a list that nothing else names -/
noncomputable def EvF (C : Cx) (k : Nat) (sc : Scope) (Γ : List (Str × D)) (c : Int) (e : Expr) (ds : List D) (c' : Int) : Prop :=
  ∀ (A : Around) (env : Env) (hid : List Addr) (s : Shared) (Q : Value → Shared → Prop) (E : Value → Shared → Prop),
    Room A k → EnvOK env sc → Now C hid s.heap c → Sees C env hid s.heap Γ →
    (∀ a vs n h' tk, Ext C.β s.heap h' → Bx C h' c' → s.heap.get? a = none → IsL h' a vs.toArray n → RepAll C.β (a :: hid) h' vs ds → Q (.ref a) { s with heap := h', toks := tk }) →
    wpAny (model C.prog C.w) A (eval e env) Q E s

noncomputable def Bin (C : Cx) (op : Operator) (d₁ d₂ d : D) : Prop :=
  ∀ (A : Around) (hid : List Addr) (c : Int) (s : Shared) (a b : Value) (Q : Value → Shared → Prop) (E : Value → Shared → Prop),
    Room A 1 → Now C hid s.heap c → Rep C.β hid s.heap a d₁ → Rep C.β hid s.heap b d₂ →
    (∀ v h' tk, Ext C.β s.heap h' → (∀ o, s.heap.get? C.β = some o → h'.get? C.β = some o) → Rep C.β hid h' v d → Q v { s with heap := h', toks := tk }) →
    wpAny (model C.prog C.w) A (binaryOp op a b) Q E s

noncomputable def Cmp (C : Cx) (op : CmpOp) (d₁ d₂ : D) (r : Bool) : Prop :=
  ∀ (A : Around) (hid : List Addr) (c : Int) (s : Shared) (a b : Value) (Q : Value → Shared → Prop) (E : Value → Shared → Prop),
    Room A 1 → Now C hid s.heap c → Rep C.β hid s.heap a d₁ → Rep C.β hid s.heap b d₂ →
    (∀ h' tk, Ext C.β s.heap h' → (∀ o, s.heap.get? C.β = some o → h'.get? C.β = some o) → Q (.bool r) { s with heap := h', toks := tk }) →
    wpAny (model C.prog C.w) A (compareOp op a b) Q E s

section
variable {C : Cx} {k : Nat} {sc : Scope} {Γ : List (Str × D)} {c c₁ c₂ c₃ : Int}

theorem ext_id {C : Cx} {h : Heap} : Ext C.β h h := .refl _ _

theorem Ev.name {x : Str} {pos : Pos} {d : D} (m : (x, d) ∈ Γ) : Ev C k sc Γ c (.Name x pos) d c := fun A env hid s Q E R O N S hQ => by
  obtain ⟨v, q, r⟩ := S x d m
  have hk : env.scope.kind = .function := by rw [O.is]; exact O.kind
  have fin : Q v s := hQ v s.heap s.toks (.refl _ _) N.box r
  refine wpAny_Name ?_ q.plain.1
  rcases q.is with ⟨a, mm, hn, e⟩ | ⟨a | a, cc, hc, hv⟩
  · exact wpAny_loadName_local hk a hn e fin
  · exact wpAny_loadName_cell hk a hc hv fin
  · exact wpAny_loadName_free hk a hc hv fin q.plain.2

theorem Ev.int {i : Int} {n : Nat} {pos : Pos} : Ev C k sc Γ c (.Constant (.int i) n pos) (.int i) c := fun A env hid s Q E R O N S hQ =>
  wpAny_Constant_int (hQ _ _ _ (.refl _ _) N.box (.int _ _))
theorem Ev.str {x : Str} {n : Nat} {pos : Pos} : Ev C k sc Γ c (.Constant (.str x) n pos) (.str x) c := fun A env hid s Q E R O N S hQ =>
  Calls.Constant_str (hQ _ _ _ (.refl _ _) N.box (.str _ _))
theorem Ev.bool {b : Bool} {n : Nat} {pos : Pos} : Ev C k sc Γ c (.Constant (.bool b) n pos) (.bool b) c := fun A env hid s Q E R O N S hQ =>
  Constant_bool (hQ _ _ s.toks (.refl _ _) N.box (.bool _))
theorem Ev.none {n : Nat} {pos : Pos} : Ev C k sc Γ c (.Constant .none n pos) .none c := fun A env hid s Q E R O N S hQ =>
  Constant_none (hQ _ _ s.toks (.refl _ _) N.box .none)

/-- two in a row -/
theorem Ev.bin {l r : Expr} {op : Operator} {pos : Pos} {d₁ d₂ d : D} (hl : Ev C k sc Γ c l d₁ c₁) (hr : Ev C k sc Γ c₁ r d₂ c₂) (hb : Bin C op d₁ d₂ d) (hk : 1 ≤ k := by omega) :
    Ev C k sc Γ c (.BinOp l op r pos) d c₂ := fun A env hid s Q E R O N S hQ => by
  refine wpAny_BinOp (hl A env hid s _ E R O N S fun v₁ h₁ t₁ x₁ b₁ r₁ => ?_)
  have N₁ := N.ext x₁ b₁
  refine hr A env hid _ _ E R O N₁ (S.ext N x₁) fun v₂ h₂ t₂ x₂ b₂ r₂ => ?_
  have N₂ := N₁.ext x₂ b₂
  refine hb A hid c₂ _ v₁ v₂ _ E (R.mono hk) N₂ (r₁.ext x₂) r₂ fun v h' tk x kb r => ?_
  exact hQ v h' tk (x₁.trans (x₂.trans x)) (b₂.keep kb) r

theorem Ev.cmp {l r : Expr} {op : CmpOp} {pos : Pos} {d₁ d₂ : D} {b : Bool} (hl : Ev C k sc Γ c l d₁ c₁) (hr : Ev C k sc Γ c₁ r d₂ c₂) (hb : Cmp C op d₁ d₂ b)
    (hm : behindInMarks op r = false := by with_unfolding_all rfl) (hk : 1 ≤ k := by omega) : Ev C k sc Γ c (.Compare l [op] [r] pos) (.bool b) c₂ := fun A env hid s Q E R O N S hQ => by
  refine wpAny_Compare1 (hm := hm) (hl A env hid s _ E R O N S fun v₁ h₁ t₁ x₁ b₁ r₁ => ?_)
  have N₁ := N.ext x₁ b₁
  refine hr A env hid _ _ E R O N₁ (S.ext N x₁) fun v₂ h₂ t₂ x₂ b₂ r₂ => ?_
  have N₂ := N₁.ext x₂ b₂
  refine hb A hid c₂ _ v₁ v₂ _ E (R.mono hk) N₂ (r₁.ext x₂) r₂ fun h' tk x kb => ?_
  exact hQ _ h' tk (x₁.trans (x₂.trans x)) (b₂.keep kb) (.bool _)
theorem EvT.cmp {l r : Expr} {op : CmpOp} {pos : Pos} {d₁ d₂ : D} {b : Bool} (hl : Ev C k sc Γ c l d₁ c₁) (hr : Ev C k sc Γ c₁ r d₂ c₂) (hb : Cmp C op d₁ d₂ b)
    (hm : behindInMarks op r = false := by with_unfolding_all rfl) (hk : 1 ≤ k := by omega) : EvT C k sc Γ c (.Compare l [op] [r] pos) b c₂ := fun A env hid s Q E R O N S hQ => by
  refine wpAny_isTrue_Compare1 (hm := hm) (hl A env hid s _ E R O N S fun v₁ h₁ t₁ x₁ b₁ r₁ => ?_)
  have N₁ := N.ext x₁ b₁
  refine hr A env hid _ _ E R O N₁ (S.ext N x₁) fun v₂ h₂ t₂ x₂ b₂ r₂ => ?_
  have N₂ := N₁.ext x₂ b₂
  refine hb A hid c₂ _ v₁ v₂ _ E (R.mono hk) N₂ (r₁.ext x₂) r₂ fun h' tk x kb => ?_
  exact wpAny_truthy_bool (hQ h' tk (x₁.trans (x₂.trans x)) (b₂.keep kb))

/-- a chain of two: l op₁ r₁ op₂ r₂ -/
theorem EvT.chain2 {l r₁ r₂ : Expr} {op₁ op₂ : CmpOp} {pos : Pos} {d d₁ d₂ : D} {b₁ b₂ : Bool} (hl : Ev C k sc Γ c l d c₁) (h₁ : Ev C k sc Γ c₁ r₁ d₁ c₂) (hb₁ : Cmp C op₁ d d₁ b₁) (h₂ : Ev C k sc Γ c₂ r₂ d₂ c₂) (hb₂ : Cmp C op₂ d₁ d₂ b₂)
    (hm : lastMarks [op₁, op₂] [r₁, r₂] = false := by with_unfolding_all rfl) (hk : 1 ≤ k := by omega) : EvT C k sc Γ c (.Compare l [op₁, op₂] [r₁, r₂] pos) (b₁ && b₂) c₂ := fun A env hid s Q E R O N S hQ => by
  refine isTrue_chain (hm := hm) (hl A env hid s _ E R O N S fun v h t x b r => ?_)
  have N₁ := N.ext x b
  have S₁ := S.ext N x
  refine test_link (h₁ A env hid _ _ E R O N₁ S₁ fun v₁ h₁ t₁ x₁ bx₁ r₁ => ?_)
  have N₂ := N₁.ext x₁ bx₁
  have S₂ := S₁.ext N₁ x₁
  refine hb₁ A hid c₂ _ v v₁ _ E (R.mono hk) N₂ (r.ext x₁) r₁ fun h' tk x' kb => ?_
  have N₃ := N₂.ext x' (N₂.box.keep kb)
  refine wpAny_truthy_bool ?_
  cases b₁ with
  | false => exact hQ h' tk (x.trans (x₁.trans x')) N₃.box
  | true =>
    simp only [if_true]
    refine test_last (h₂ A env hid _ _ E R O N₃ (S₂.ext N₂ x') fun v₂ h₂ t₂ x₂ bx₂ r₂ => ?_)
    have N₄ := N₃.ext x₂ bx₂
    refine hb₂ A hid c₂ _ v₁ v₂ _ E (R.mono hk) N₄ ((r₁.ext x').ext x₂) r₂ fun h'' tk' x'' kb' => ?_
    exact wpAny_truthy_bool (hQ h'' tk' (x.trans (x₁.trans (x'.trans (x₂.trans x'')))) (bx₂.keep kb'))

theorem EvT.bool {e : Expr} {b : Bool} (h : Ev C k sc Γ c e (.bool b) c₁) (he : ∀ env whole, isTrue e env whole = (do let v ← whole; standAt e.pos; holding [v] (truthy v)) := by intro _ _; rfl) : EvT C k sc Γ c e b c₁ := fun A env hid s Q E R O N S hQ =>
  isTrue_plain (he := he _ _) (h A env hid s _ E R O N S fun v h' tk x bx r => by cases r; exact wpAny_truthy_bool (hQ h' tk x bx))
theorem EvT.not {x : Expr} {pos : Pos} {b : Bool} (h : EvT C k sc Γ c x b c₁) : EvT C k sc Γ c (.UnaryOp .Not x pos) (!b) c₁ := fun A env hid s Q E R O N S hQ =>
  isTrue_not (h A env hid s _ E R O N S fun h' tk x bx => hQ h' tk x bx)

/-- and, or: as tests -/
theorem EvT.or1 {x : Expr} {pos : Pos} {b : Bool} (h : EvT C k sc Γ c x b c₁) : EvT C k sc Γ c (.BoolOp .Or [x] pos) b c₁ := fun A env hid s Q E R O N S hQ =>
  isTrue_or (h A env hid s _ E R O N S fun h' tk x bx => by
    cases b with
    | true => exact hQ h' tk x bx
    | false => exact isTrue_or_nil (hQ h' tk x bx))
theorem EvT.or_true {x : Expr} {rest : List Expr} {pos : Pos} (h : EvT C k sc Γ c x true c₁) : EvT C k sc Γ c (.BoolOp .Or (x :: rest) pos) true c₁ := fun A env hid s Q E R O N S hQ =>
  isTrue_or (h A env hid s _ E R O N S fun h' tk x bx => hQ h' tk x bx)
theorem EvT.or_false {x : Expr} {rest : List Expr} {pos : Pos} {b : Bool} (h : EvT C k sc Γ c x false c₁) (h₂ : EvT C k sc Γ c₁ (.BoolOp .Or rest pos) b c₂) : EvT C k sc Γ c (.BoolOp .Or (x :: rest) pos) b c₂ := fun A env hid s Q E R O N S hQ =>
  isTrue_or (h A env hid s _ E R O N S fun h' tk x bx => by
    simp only [Bool.false_eq_true, if_false]
    exact h₂ A env hid _ _ E R O (N.ext x bx) (S.ext N x) fun h'' tk' x' bx' => hQ h'' tk' (x.trans x') bx')
theorem EvT.and1 {x : Expr} {pos : Pos} {b : Bool} (h : EvT C k sc Γ c x b c₁) : EvT C k sc Γ c (.BoolOp .And [x] pos) b c₁ := fun A env hid s Q E R O N S hQ =>
  isTrue_and (h A env hid s _ E R O N S fun h' tk x bx => by
    cases b with
    | false => exact hQ h' tk x bx
    | true => exact isTrue_and_nil (hQ h' tk x bx))
theorem EvT.and_false {x : Expr} {rest : List Expr} {pos : Pos} (h : EvT C k sc Γ c x false c₁) : EvT C k sc Γ c (.BoolOp .And (x :: rest) pos) false c₁ := fun A env hid s Q E R O N S hQ =>
  isTrue_and (h A env hid s _ E R O N S fun h' tk x bx => hQ h' tk x bx)
theorem EvT.and_true {x : Expr} {rest : List Expr} {pos : Pos} {b : Bool} (h : EvT C k sc Γ c x true c₁) (h₂ : EvT C k sc Γ c₁ (.BoolOp .And rest pos) b c₂) : EvT C k sc Γ c (.BoolOp .And (x :: rest) pos) b c₂ := fun A env hid s Q E R O N S hQ =>
  isTrue_and (h A env hid s _ E R O N S fun h' tk x bx => by
    simp only [if_true]
    exact h₂ A env hid _ _ E R O (N.ext x bx) (S.ext N x) fun h'' tk' x' bx' => hQ h'' tk' (x.trans x') bx')

/-- and, or of bools: as values -/
theorem Ev.and1 {x : Expr} {pos : Pos} {d : D} (h : Ev C k sc Γ c x d c₁) : Ev C k sc Γ c (.BoolOp .And [x] pos) d c₁ := fun A env hid s Q E R O N S hQ => BoolOp_one (h A env hid s _ E R O N S hQ)
theorem Ev.or1 {x : Expr} {pos : Pos} {d : D} (h : Ev C k sc Γ c x d c₁) : Ev C k sc Γ c (.BoolOp .Or [x] pos) d c₁ := fun A env hid s Q E R O N S hQ => BoolOp_one (h A env hid s _ E R O N S hQ)
theorem Ev.and_false {x y : Expr} {rest : List Expr} {pos : Pos} (h : Ev C k sc Γ c x (.bool false) c₁) : Ev C k sc Γ c (.BoolOp .And (x :: y :: rest) pos) (.bool false) c₁ := fun A env hid s Q E R O N S hQ =>
  BoolOp_and (h A env hid s _ E R O N S fun v h' tk x bx r => by cases r; exact wpAny_truthy_bool (hQ _ h' tk x bx (.bool _)))
theorem Ev.and_true {x y : Expr} {rest : List Expr} {pos : Pos} {d : D} (h : Ev C k sc Γ c x (.bool true) c₁) (h₂ : Ev C k sc Γ c₁ (.BoolOp .And (y :: rest) pos) d c₂) : Ev C k sc Γ c (.BoolOp .And (x :: y :: rest) pos) d c₂ := fun A env hid s Q E R O N S hQ =>
  BoolOp_and (h A env hid s _ E R O N S fun v h' tk x bx r => by
    cases r
    exact wpAny_truthy_bool (h₂ A env hid _ _ E R O (N.ext x bx) (S.ext N x) fun v' h'' tk' x' bx' r' => hQ v' h'' tk' (x.trans x') bx' r'))

theorem Ev.not {x : Expr} {pos : Pos} {b : Bool} (h : Ev C k sc Γ c x (.bool b) c₁) : Ev C k sc Γ c (.UnaryOp .Not x pos) (.bool (!b)) c₁ := fun A env hid s Q E R O N S hQ =>
  UnaryOp_ (h A env hid s _ E R O N S fun v h' tk x bx r => by cases r; exact not_of (wpAny_truthy_bool (hQ _ h' tk x bx (.bool _))))
theorem Ev.neg {x : Expr} {pos : Pos} {i : Int} (h : Ev C k sc Γ c x (.int i) c₁) : Ev C k sc Γ c (.UnaryOp .USub x pos) (.int (-i)) c₁ := fun A env hid s Q E R O N S hQ =>
  UnaryOp_ (h A env hid s _ E R O N S fun v h' tk x bx r => by cases r; exact PyProof.Rows.neg_int (hQ _ h' _ x bx (.int _ _)))

theorem Ev.ite {test body orelse : Expr} {pos : Pos} {b : Bool} {d : D} (h : EvT C k sc Γ c test b c₁) (h₁ : b = true → Ev C k sc Γ c₁ body d c₂) (h₂ : b = false → Ev C k sc Γ c₁ orelse d c₂) :
    Ev C k sc Γ c (.IfExp test body orelse pos) d c₂ := fun A env hid s Q E R O N S hQ =>
  IfExp_ (h A env hid s _ E R O N S fun h' tk x bx => by
    cases b with
    | true => exact h₁ rfl A env hid _ _ E R O (N.ext x bx) (S.ext N x) fun v' h'' tk' x' bx' r' => hQ v' h'' tk' (x.trans x') bx' r'
    | false => exact h₂ rfl A env hid _ _ E R O (N.ext x bx) (S.ext N x) fun v' h'' tk' x' bx' r' => hQ v' h'' tk' (x.trans x') bx' r')
theorem EvF.ite {test body orelse : Expr} {pos : Pos} {b : Bool} {d : List D} (h : EvT C k sc Γ c test b c₁) (h₁ : b = true → EvF C k sc Γ c₁ body d c₂) (h₂ : b = false → EvF C k sc Γ c₁ orelse d c₂) :
    EvF C k sc Γ c (.IfExp test body orelse pos) d c₂ := fun A env hid s Q E R O N S hQ =>
  IfExp_ (h A env hid s _ E R O N S fun h' tk x bx => by
    cases b with
    | true => exact h₁ rfl A env hid _ _ E R O (N.ext x bx) (S.ext N x) fun a vs n h'' tk' x' bx' sz hl r' => hQ a vs n h'' tk' (x.trans x') bx' (N.fresh_back x bx sz) hl r'
    | false => exact h₂ rfl A env hid _ _ E R O (N.ext x bx) (S.ext N x) fun a vs n h'' tk' x' bx' sz hl r' => hQ a vs n h'' tk' (x.trans x') bx' (N.fresh_back x bx sz) hl r')

theorem EvL.nil : EvL C k sc Γ c [] [] c := ⟨fun _ _ => rfl, fun A env hid s Q E pos R O N S hQ => wpAny_items_nil (hQ [] s.heap s.toks (.refl _ _) N.box .nil)⟩
theorem EvL.cons {e : Expr} {es : List Expr} {d : D} {ds : List D} (h : Ev C k sc Γ c e d c₁) (hr : EvL C k sc Γ c₁ es ds c₂) (he : ∀ env, starEach (e :: es) env = (false, eval e env) :: starEach es env := by intro _; rfl) :
    EvL C k sc Γ c (e :: es) (d :: ds) c₂ :=
  ⟨fun env pos => by rw [he env, List.map_cons, ← hr.1 env pos]; rfl, fun A env hid s Q E pos R O N S hQ =>
  wpAny_items_cons (he := he env) (h A env hid s _ E R O N S fun v h' tk x bx r =>
    hr.2 A env hid _ _ E pos R O (N.ext x bx) (S.ext N x) fun vs h'' tk' x' bx' r' => hQ (v :: vs) h'' tk' (x.trans x') bx' (.cons (r.ext x') r'))⟩

theorem Bx.push {h : Heap} (b : Bx C h c) (o : Obj) : Bx C (h.push o) c := b.keep fun _ e => Heap.get?_push_of_some _ e

theorem Ev.tup {es : List Expr} {n : Nat} {pos : Pos} {ds : List D} (h : EvL C k sc Γ c es ds c₁) (hz : ds.length ≤ 1000 := by simp) : Ev C k sc Γ c (.Tuple es n pos) (.tup ds) c₁ := fun A env hid s Q E R O N S hQ =>
  wpAny_Tuple (h.2 A env hid s _ E pos R O N S fun vs h' tk x bx r => by
    have N' := N.ext x bx
    refine ⟨by rw [r.length, sizeLine_eq]; omega, hQ _ _ tk (x.trans (.push _ _ _)) (bx.push _) ?_⟩
    exact .tup N'.size_ne.1 N'.size_ne.2 (Heap.get?_push_size _ rfl) (r.ext (.push _ _ _)))
theorem EvF.list {es : List Expr} {pos : Pos} {ds : List D} (h : EvL C k sc Γ c es ds c₁) (hz : ds.length ≤ 1000 := by simp) : EvF C k sc Γ c (.List es pos) ds c₁ := fun A env hid s Q E R O N S hQ =>
  wpAny_List (h.2 A env hid s _ E pos R O N S fun vs h' tk x bx r => by
    have N' := N.ext x bx
    refine ⟨by rw [r.length, sizeLine_eq]; omega, hQ _ vs 0 _ tk (x.trans (.push _ _ _)) (bx.push _) (N.fresh_back x bx (get_size _)) (Heap.get?_push_size _ rfl) ?_⟩
    refine r.map fun b o nh nb _ e => ⟨Heap.get?_push_of_some _ e, fun m => ?_⟩
    rcases List.mem_cons.mp m with rfl | m
    · exact Nat.lt_irrefl _ (Heap.lt_size e)
    · exact nh m)

/-- a fresh list is a list -/
theorem EvF.ev {e : Expr} {ds : List D} (h : EvF C k sc Γ c e ds c₁) : Ev C k sc Γ c e (.list ds) c₁ := fun A env hid s Q E R O N S hQ =>
  h A env hid s _ E R O N S fun a vs n h' tk x bx sz hl r => hQ _ h' tk x bx (.list (N.fresh sz).1 (N.fresh sz).2.1 hl (r.sub fun b m => List.mem_cons_of_mem _ m))
end
/-! ## Operators on data -/
section
variable {C : Cx}
theorem Room.units_lt {A : Around} {k : Nat} (r : Room A k) : A.units < cLine := by
  have := r.units
  show A.units < 9900
  omega
theorem Room.units64 {A : Around} {k : Nat} (r : Room A k) : A.units + 64 < cLine := by
  have := r.units
  show A.units + 64 < 9900
  omega

theorem Bin.add {a b : Int} : Bin C .Add (.int a) (.int b) (.int (a + b)) := fun A hid c s x y Q E R N r₁ r₂ hQ => by
  cases r₁; cases r₂; exact wpAny_add_int (hQ _ _ _ (.refl _ _) (fun _ e => e) (.int _ _))
theorem Bin.sub {a b : Int} : Bin C .Sub (.int a) (.int b) (.int (a - b)) := fun A hid c s x y Q E R N r₁ r₂ hQ => by
  cases r₁; cases r₂; exact PyProof.Rows.sub_int (hQ _ _ _ (.refl _ _) (fun _ e => e) (.int _ _))
theorem mulOk {a b : Int} (ha : a.natAbs < 2 ^ 24) : IntMulOk a b := by
  have h : Builtin.Int.intBits a ≤ 24 := by
    unfold Builtin.Int.intBits
    split
    · omega
    · rename_i hz
      have hne : a.natAbs ≠ 0 := by simpa using hz
      have := (Nat.log2_lt (n := a.natAbs) (k := 24) hne).mpr ha
      omega
  unfold IntMulOk
  have : decide (Builtin.Int.intBits a > shortFactorBits) = false := decide_eq_false (by unfold shortFactorBits; omega)
  rw [this]; simp
theorem mulOk' {a b : Int} (hb : b.natAbs < 2 ^ 24) : IntMulOk a b := by
  have h : Builtin.Int.intBits b ≤ 24 := by
    unfold Builtin.Int.intBits
    split
    · omega
    · rename_i hz
      have hne : b.natAbs ≠ 0 := by simpa using hz
      have := (Nat.log2_lt (n := b.natAbs) (k := 24) hne).mpr hb
      omega
  unfold IntMulOk
  have : decide (Builtin.Int.intBits b > shortFactorBits) = false := decide_eq_false (by unfold shortFactorBits; omega)
  rw [this]; simp
theorem Bin.mul {a b : Int} (h : a.natAbs < 2 ^ 24 ∨ b.natAbs < 2 ^ 24) : Bin C .Mult (.int a) (.int b) (.int (a * b)) := fun A hid c s x y Q E R N r₁ r₂ hQ => by
  cases r₁; cases r₂; exact PyProof.Rows.mul_int (hQ _ _ _ (.refl _ _) (fun _ e => e) (.int _ _)) (h.elim mulOk mulOk')
theorem Bin.mod {a b : Int} (h : b ≠ 0) : Bin C .Mod (.int a) (.int b) (.int (a.fmod b)) := fun A hid c s x y Q E R N r₁ r₂ hQ => by
  cases r₁; cases r₂; exact PyProof.Rows.mod_int' h (hQ _ _ _ (.refl _ _) (fun _ e => e) (.int _ _))
theorem Bin.fdiv {a b : Int} (h : b ≠ 0) (h' : b.natAbs < 1073741824) : Bin C .FloorDiv (.int a) (.int b) (.int (a.fdiv b)) := fun A hid c s x y Q E R N r₁ r₂ hQ => by
  cases r₁; cases r₂; exact PyProof.Rows.floordiv_int h (hQ _ _ _ (.refl _ _) (fun _ e => e) (.int _ _)) (hp := .inl (PyProof.noPylong_small h'))
theorem Bin.pow {a n : Int} (hn : 0 ≤ n) (hn2 : n ≤ 1000000) (ha : a.natAbs < 2 ^ 64) : Bin C .Pow (.int a) (.int n) (.int (a ^ n.toNat)) := fun A hid c s x y Q E R N r₁ r₂ hQ => by
  cases r₁; cases r₂; exact PyProof.Rows.pow_int_small hn hn2 ha (hQ _ _ _ (.refl _ _) (fun _ e => e) (.int _ _))

/-- a new object upon the heap -/
theorem Rep.new_list {hid : List Addr} {h : Heap} {c : Int} {vs : List Value} {ds : List D} (N : Now C hid h c) (r : RepAll C.β hid h vs ds) :
    Rep C.β hid (h.push { cls := .type "list", data := .seq vs.toArray }) (.ref h.objs.size) (.list ds) :=
  .list N.size_ne.1 N.size_ne.2 (Heap.get?_push_size _ rfl) (r.ext (.push _ _ _))
theorem RepAll.new {hid : List Addr} {h : Heap} {c : Int} {vs : List Value} {ds : List D} (N : Now C hid h c) (r : RepAll C.β hid h vs ds) (o : Obj) :
    RepAll C.β (h.objs.size :: hid) (h.push o) vs ds := r.map fun b o nh nb _ e => ⟨Heap.get?_push_of_some _ e, fun m => by
    rcases List.mem_cons.mp m with rfl | m
    · exact Nat.lt_irrefl _ (Heap.lt_size e)
    · exact nh m⟩

theorem Bin.cat {xs ys : List D} (hz : xs.length + ys.length ≤ 1000000) : Bin C .Add (.list xs) (.list ys) (.list (xs ++ ys)) := fun A hid c s x y Q E R N r₁ r₂ hQ => by
  cases r₁ with
  | list n₁ m₁ e₁ a₁ =>
    cases r₂ with
    | list n₂ m₂ e₂ a₂ =>
      refine P.add_list e₁ e₂ (hQ _ _ s.toks (.push _ _ _) (fun _ e => Heap.get?_push_of_some _ e) ?_) (by rw [sizeLine_eq]; simp only [List.size_toArray, a₁.length, a₂.length]; omega)
      rw [List.append_toArray]
      exact Rep.new_list N (a₁.append a₂)

theorem foldl_replicate (items : List Value) : ∀ n (acc : Array Value), (List.foldl (fun x1 x2 => x1 ++ x2) acc (List.replicate n items.toArray)) = (acc.toList ++ (List.replicate n items).flatten).toArray
  | 0, acc => by simp
  | n + 1, acc => by rw [List.replicate_succ, List.foldl_cons, foldl_replicate items n]; simp [List.replicate_succ]
theorem RepAll.flat {β : Addr} {hid : List Addr} {h : Heap} {vs : List Value} {ds : List D} (r : RepAll β hid h vs ds) : ∀ n, RepAll β hid h (List.replicate n vs).flatten (List.replicate n ds).flatten
  | 0 => .nil
  | n + 1 => by simpa [List.replicate_succ] using r.append (r.flat n)

theorem Bin.rep_wp {xs : List D} {x : Int} (hx : x ≤ 1000) (hx' : -1000 ≤ x) (hz : xs.length ≤ 1000) {A : Around} {hid : List Addr} {c : Int} {s : Shared} {a b : Value} {Q : Value → Shared → Prop} {E : Value → Shared → Prop}
    (N : Now C hid s.heap c) (r₁ : Rep C.β hid s.heap a (.list xs)) (r₂ : Rep C.β hid s.heap b (.int x))
    (hQ : ∀ vs : List Value, RepAll C.β hid s.heap vs (List.replicate x.toNat xs).flatten → Q (.ref s.heap.objs.size) { s with heap := s.heap.push { cls := .type "list", data := .seq vs.toArray } }) :
    wpAny (model C.prog C.w) A (binaryOp .Mult a b) Q E s := by
  cases r₂ with
  | int _ u =>
    cases r₁ with
    | @list l vs k _ n₁ m₁ e₁ a₁ =>
      have hl : s.heap.get? l = some { cls := .type "list", dict := none, data := .seq vs.toArray k, slots := #[] } := e₁
      have hsz : vs.toArray.size * x.toNat ≤ 2 ^ 24 := by
        rw [List.size_toArray, a₁.length]
        exact Nat.le_trans (Nat.mul_le_mul hz (show x.toNat ≤ 1000 by omega)) (by decide)
      refine wpAny_binaryOp_repeat_ref (T := "list") (U := "int") (by decide) ⟨_, hl, rfl⟩ (fun s' => typeIs_int s' x u) noFill_list_mul F.fills_int_mul F.slot_int_rmul repeat_list F.slot_int_index.lookup
        (call_meets F.slot_int_rmul (typeIs_int s x u) F.entry_int_rmul (F.args_int_rmul_2 _ _) (int___rmul___int_list x u l vs.toArray k)
          ⟨hl, rfl, ⟨_, hl, rfl⟩, call_meets F.slot_list_mul ⟨_, hl, rfl⟩ F.entry_list_mul (F.args_list_mul_2 _ _)
            (AutoListH.list___mul___list_int_3 l vs.toArray k x u (by simp [Builtin.List.listFitsIndex]; omega) (by omega) (fun q => Nat.not_lt.mpr hsz (of_decide_eq_true q)))
            ⟨hl, ?_⟩⟩)
      rw [foldl_replicate]
      refine hQ _ ?_
      have hlen := a₁.length
      cases hv : vs.toArray.isEmpty with
      | false => simpa using a₁.flat x.toNat
      | true =>
        have : vs = [] := by simpa using hv
        subst this
        cases a₁
        have e : ∀ n, (List.replicate n ([] : List D)).flatten = [] := fun n => by induction n with | zero => rfl | succ n ih => simp [List.replicate_succ]
        rw [e]
        simpa using RepAll.nil
theorem flat_one (d : D) (n : Nat) : (List.replicate n [d]).flatten = List.replicate n d := by
  induction n with
  | zero => rfl
  | succ n ih => simp [List.replicate_succ]
/-- [d] * x -/
theorem Bin.rep {d : D} {x : Int} (hx : x ≤ 1000) (hx' : -1000 ≤ x) : Bin C .Mult (.list [d]) (.int x) (.list (List.replicate x.toNat d)) := fun A hid c s a b Q E R N r₁ r₂ hQ =>
  Bin.rep_wp hx hx' (by simp) N r₁ r₂ fun vs r => hQ _ _ s.toks (.push _ _ _) (fun _ e => Heap.get?_push_of_some _ e) (Rep.new_list N (by rw [flat_one] at r; exact r))

/-! comparisons -/
theorem Cmp.eq {a b : Int} : Cmp C .Eq (.int a) (.int b) (a == b) := fun A hid c s x y Q E R N r₁ r₂ hQ => by
  cases r₁; cases r₂; exact PyProof.Rows.eq_int (hQ _ s.toks (.refl _ _) fun _ e => e)
theorem Cmp.ne {a b : Int} : Cmp C .NotEq (.int a) (.int b) (a != b) := fun A hid c s x y Q E R N r₁ r₂ hQ => by
  cases r₁; cases r₂; exact PyProof.Rows.ne_int (hQ _ s.toks (.refl _ _) fun _ e => e)
theorem Cmp.lt {a b : Int} : Cmp C .Lt (.int a) (.int b) (decide (a < b)) := fun A hid c s x y Q E R N r₁ r₂ hQ => by
  cases r₁; cases r₂; exact wpAny_lt_int (hQ _ s.toks (.refl _ _) fun _ e => e)
theorem Cmp.gt {a b : Int} : Cmp C .Gt (.int a) (.int b) (decide (b < a)) := fun A hid c s x y Q E R N r₁ r₂ hQ => by
  cases r₁; cases r₂; exact PyProof.Rows.gt_int (hQ _ s.toks (.refl _ _) fun _ e => e)
theorem Cmp.le {a b : Int} : Cmp C .LtE (.int a) (.int b) (decide (a ≤ b)) := fun A hid c s x y Q E R N r₁ r₂ hQ => by
  cases r₁; cases r₂; exact PyProof.Rows.le_int (hQ _ s.toks (.refl _ _) fun _ e => e)
theorem Cmp.ge {a b : Int} : Cmp C .GtE (.int a) (.int b) (decide (b ≤ a)) := fun A hid c s x y Q E R N r₁ r₂ hQ => by
  cases r₁; cases r₂; exact PyProof.Rows.ge_int (hQ _ s.toks (.refl _ _) fun _ e => e)

noncomputable def D.isNone : D → Bool
  | .none => true
  | _ => false
theorem Cmp.is_none {d : D} : Cmp C .Is d .none d.isNone := fun A hid c s x y Q E R N r₁ r₂ hQ => by
  cases r₂
  refine PyProof.Rows.is_none_gen ?_
  have : (x == Value.none) = d.isNone := by cases r₁ <;> rfl
  rw [this]; exact hQ _ s.toks (.refl _ _) fun _ e => e
theorem Cmp.isnot_none {d : D} : Cmp C .IsNot d .none (!d.isNone) := fun A hid c s x y Q E R N r₁ r₂ hQ => by
  cases r₂
  refine PyProof.Rows.isnot_none_gen ?_
  have : (x == Value.none) = d.isNone := by cases r₁ <;> rfl
  rw [this]; exact hQ _ s.toks (.refl _ _) fun _ e => e

theorem Cmp.isin {k : Int} {ns : List Int} : Cmp C .In (.int k) (.list (ns.map .int)) (ns.any (· == k)) := fun A hid c s x y Q E R N r₁ r₂ hQ => by
  cases r₁
  cases r₂ with
  | list n₁ m₁ e₁ a₁ => exact PyProof.Rows.in_list_ints e₁.isList a₁.ints (hQ _ s.toks (.refl _ _) fun _ e => e)
theorem Cmp.notin {k : Int} {ns : List Int} : Cmp C .NotIn (.int k) (.list (ns.map .int)) (!(ns.any (· == k))) := fun A hid c s x y Q E R N r₁ r₂ hQ => by
  cases r₁
  cases r₂ with
  | list n₁ m₁ e₁ a₁ => exact PyProof.Rows.notin_list_ints e₁.isList a₁.ints (hQ _ s.toks (.refl _ _) fun _ e => e)

/-! equality of any plain data -/
mutual
noncomputable def D.py : D → PyData
  | .none => .none
  | .bool b => .bool b
  | .int i => .int i
  | .str x => .str x
  | .list ds => .list (pyAll ds)
  | .tup ds => .tuple (pyAll ds)
  | .rng _ _ _ => .none
  | .box => .none
noncomputable def pyAll : List D → List PyData
  | [] => []
  | d :: ds => d.py :: pyAll ds
end
mutual
noncomputable def D.plain : D → Bool
  | .none => true
  | .bool _ => true
  | .int _ => true
  | .str x => PyData.strOk x
  | .list ds => plainAll ds
  | .tup ds => plainAll ds
  | .rng _ _ _ => false
  | .box => false
noncomputable def plainAll : List D → Bool
  | [] => true
  | d :: ds => d.plain && plainAll ds
end
theorem Rep.reads {β : Addr} {hid : List Addr} {h : Heap} {v : Value} {d : D} (r : Rep β hid h v d) : d.plain = true → ∃ as, Reads h v d.py as :=
  Rep.rec (motive_1 := fun v d _ => d.plain = true → ∃ as, Reads h v d.py as) (motive_2 := fun vs ds _ => plainAll ds = true → ∃ as, ReadsAll h vs (pyAll ds) as)
    (fun _ => ⟨_, .none⟩) (fun b _ => ⟨_, .bool b⟩) (fun i t _ => ⟨_, .int i t⟩) (fun x t _ => ⟨_, .str x t⟩)
    (fun nh nb e _ ih hp => let ⟨_, q⟩ := ih hp; ⟨_, .list e rfl rfl q⟩) (fun nh nb e _ ih hp => let ⟨_, q⟩ := ih hp; ⟨_, .tuple e rfl rfl q⟩)
    (fun _ _ _ hp => nomatch hp) (fun hp => nomatch hp) (fun _ => ⟨_, .nil⟩)
    (fun _ _ a b hp => let ⟨_, q⟩ := a (Bool.and_eq_true_iff.mp hp).1; let ⟨_, q'⟩ := b (Bool.and_eq_true_iff.mp hp).2; ⟨_, .cons q q'⟩) r
mutual
theorem D.canLay : ∀ d : D, d.plain = true → d.py.canLay0 = true
  | .none, _ => rfl
  | .bool _, _ => rfl
  | .int _, _ => rfl
  | .str x, h => by simpa [D.py, PyData.canLay0, D.plain] using h
  | .list ds, h => by simpa [D.py, PyData.canLay0] using plainAll_canLay ds h
  | .tup ds, h => by simpa [D.py, PyData.canLay0] using plainAll_canLay ds h
  | .rng _ _ _, h => by cases h
  | .box, h => by cases h
theorem plainAll_canLay : ∀ ds : List D, plainAll ds = true → PyData.canLayAll0 (pyAll ds) = true
  | [], _ => rfl
  | d :: ds, h => by
    have h' := Bool.and_eq_true_iff.mp h
    simp [pyAll, PyData.canLayAll0, D.canLay d h'.1, plainAll_canLay ds h'.2]
end
theorem Cmp.eqd {d₁ d₂ : D} {b : Bool} (h₁ : d₁.plain = true) (h₂ : d₂.plain = true) (hd : d₁.py.depth ≤ 60) (e : d₁.py.eqv d₂.py = b) : Cmp C .Eq d₁ d₂ b := fun A hid c s x y Q E R N r₁ r₂ hQ => by
  obtain ⟨as, q₁⟩ := r₁.reads h₁
  obtain ⟨bs, q₂⟩ := r₂.reads h₂
  have hu := R.units64
  exact SeqAt.compareEq_reads q₁ q₂ (D.canLay _ h₁) (D.canLay _ h₂) (by have := Nat.min_le_left d₁.py.depth d₂.py.depth; omega) (by rw [e]; exact hQ _ s.toks (.refl _ _) fun _ e => e)
theorem Cmp.ned {d₁ d₂ : D} {b : Bool} (h₁ : d₁.plain = true) (h₂ : d₂.plain = true) (hd : d₁.py.depth ≤ 60) (e : d₁.py.eqv d₂.py = b) : Cmp C .NotEq d₁ d₂ (!b) := fun A hid c s x y Q E R N r₁ r₂ hQ => by
  obtain ⟨as, q₁⟩ := r₁.reads h₁
  obtain ⟨bs, q₂⟩ := r₂.reads h₂
  have hu := R.units64
  exact SeqAt.compareNe_reads q₁ q₂ (D.canLay _ h₁) (D.canLay _ h₂) (by have := Nat.min_le_left d₁.py.depth d₂.py.depth; omega) (by rw [e]; exact hQ _ s.toks (.refl _ _) fun _ e => e)
end
/-! ## Calls of built-in names, of the text's defs -/
/-- a call of the value f on what bears ds gives what bears d -/
noncomputable def CallV (C : Cx) (f : Value) (ds : List D) (d : D) : Prop :=
  ∀ (A : Around) (hid : List Addr) (c : Int) (s : Shared) (vs : List Value) (Q : Value → Shared → Prop) (E : Value → Shared → Prop),
    Room A 1 → Now C hid s.heap c → RepAll C.β hid s.heap vs ds →
    (∀ v h' tk, Ext C.β s.heap h' → (∀ o, s.heap.get? C.β = some o → h'.get? C.β = some o) → Rep C.β hid h' v d → Q v { s with heap := h', toks := tk }) →
    wpAny (model C.prog C.w) A (call f vs) Q E s
noncomputable def CallF (C : Cx) (f : Value) (ds ds' : List D) : Prop :=
  ∀ (A : Around) (hid : List Addr) (c : Int) (s : Shared) (vs : List Value) (Q : Value → Shared → Prop) (E : Value → Shared → Prop),
    Room A 1 → Now C hid s.heap c → RepAll C.β hid s.heap vs ds →
    (∀ a ws n h' tk, Ext C.β s.heap h' → (∀ o, s.heap.get? C.β = some o → h'.get? C.β = some o) → s.heap.get? a = none → IsL h' a ws.toArray n → RepAll C.β (a :: hid) h' ws ds' → Q (.ref a) { s with heap := h', toks := tk }) →
    wpAny (model C.prog C.w) A (call f vs) Q E s

/-- the def called name, called upon what bears args where the box's count is c, gives what bears d; the count is then c' -/
noncomputable def Fn (C : Cx) (k : Nat) (name : Str) (args : List D) (c : Int) (d : D) (c' : Int) : Prop :=
  (∃ i params body scope, defAt i = some (name, params, body, scope)) ∧ ∀ (A : Around) (hid : List Addr) (s : Shared) (f : Addr) (vs : List Value) (Q : Value → Shared → Prop) (E : Value → Shared → Prop),
    Room A k → Now C hid s.heap c → C.mg name = some (.ref f) → RepAll C.β hid s.heap vs args →
    (∀ v h' tk, Ext C.β s.heap h' → Bx C h' c' → Rep C.β hid h' v d → Q v { s with heap := h', toks := tk }) →
    wpAny (model C.prog C.w) A (call (.ref f) vs) Q E s

theorem Fn.mono {C : Cx} {k k' : Nat} {name : Str} {args : List D} {c c' : Int} {d : D} (h : Fn C k name args c d c') (hk : k ≤ k') : Fn C k' name args c d c' :=
  ⟨h.1, fun A hid s f vs Q E R N hm r hQ => h.2 A hid s f vs Q E (R.mono hk) N hm r hQ⟩

section
variable {C : Cx} {k : Nat} {sc : Scope} {Γ : List (Str × D)} {c c₁ c₂ : Int}

theorem eval_Call_Name (x : Str) (p : Pos) (args : List Expr) (pos : Pos) (env : Env) : eval (.Call (.Name x p) args [] pos) env = (eval (.Name x p) env >>= fun f => callWith pos f [] (backTo pos (starEach args env)) []) := rfl

/-- the arguments of a call -/
theorem evalArgs_of {f : Value} {es : List Expr} {ds : List D} (h : EvL C k sc Γ c es ds c₁) (hne : es ≠ [])
    {A : Around} {env : Env} {hid : List Addr} {s : Shared} {Q : Args → Shared → Prop} {E : Value → Shared → Prop} {pos : Pos} (R : Room A k) (O : EnvOK env sc) (N : Now C hid s.heap c) (S : Sees C env hid s.heap Γ)
    (hQ : ∀ vs h' tk, Ext C.β s.heap h' → Bx C h' c₁ → RepAll C.β hid h' vs ds → Q ⟨vs, []⟩ { s with heap := h', toks := tk }) :
    wpAny (model C.prog C.w) A (evalArgs f true (backTo pos (starEach es env)) []) Q E s := by
  have q := h.2 A env hid s (fun vs s' => Q ⟨vs, []⟩ s') E pos R O N S hQ
  rw [h.1] at q ⊢
  cases es with
  | nil => exact absurd rfl hne
  | cons e es => exact Calls.evalArgs_plain q
theorem plain_any {es : List Expr} (h : PlainL es) (env : Env) (pos : Pos) : (backTo pos (starEach es env)).any (·.1) = false := by
  rw [h]; induction es with
  | nil => rfl
  | cons e es ih => simp

theorem kindOf_eq (env : Env) (x : Str) : env.kindOf x = env.scope.names.lookup x := rfl

/-- a name that is the text's own def, or a menu of the top's -/
theorem name_global {x : Str} {pos : Pos} {v : Value} {A : Around} {env : Env} {hid : List Addr} {s : Shared} {Q : Value → Shared → Prop} {E : Value → Shared → Prop} (O : EnvOK env sc) (N : Now C hid s.heap c)
    (hx : sc.names.lookup x = some .globalImplicit) (hv : C.mg x = some v) (hQ : Q v s) (hd : (x == ("__debug__" : Str)) = false) : wpAny (model C.prog C.w) A (eval (.Name x pos) env) Q E s :=
  Calls.Name_function_global (by rw [O.is]; exact O.kind) (by rw [kindOf_eq, O.is]; exact hx) (Calls.loadGlobal_global (mg := C.mg) (by rw [O.glob]; exact N.ok.g.keeps N.base) hv hQ) hd
theorem name_builtin {x : Str} {pos : Pos} {v : Value} {A : Around} {env : Env} {hid : List Addr} {s : Shared} {Q : Value → Shared → Prop} {E : Value → Shared → Prop} (O : EnvOK env sc) (N : Now C hid s.heap c)
    (hx : sc.names.lookup x = some .globalImplicit) (hb : x ∈ blts) (hv : bootBuiltins x = some v) (hQ : Q v s) (hd : (x == ("__debug__" : Str)) = false) : wpAny (model C.prog C.w) A (eval (.Name x pos) env) Q E s :=
  Calls.Name_function_global (by rw [O.is]; exact O.kind) (by rw [kindOf_eq, O.is]; exact hx)
    (Calls.loadGlobal_builtin (mg := C.mg) (mb := C.mb) (by rw [O.glob]; exact N.ok.g.keeps N.base) (N.ok.blt x hb).1 (by rw [O.blt]; exact N.ok.b.keeps N.base) ((N.ok.blt x hb).2.trans hv) hQ) hd

/-- what a call by a built-in's name wants: the value behind the name -/
inductive BName : Str → Value → Prop
  | abs : BName "abs" (.builtin "abs")
  | len : BName "len" (.builtin "len")
  | list : BName "list" (.type "list")
  | range : BName "range" (.type "range")
  | max : BName "max" (.builtin "max")
  | sorted : BName "sorted" (.builtin "sorted")
  | zip : BName "zip" (.type "zip")
  | enumerate : BName "enumerate" (.type "enumerate")
  | reversed : BName "reversed" (.type "reversed")
  | sum : BName "sum" (.builtin "sum")
  | any : BName "any" (.builtin "any")
  | all : BName "all" (.builtin "all")
  | tuple : BName "tuple" (.type "tuple")
theorem BName.ok {x : Str} {v : Value} (b : BName x v) : x ∈ blts ∧ bootBuiltins x = some v ∧ (x == ("__debug__" : Str)) = false ∧ ((∃ i, v = .builtin i) ∨ ∃ T, v = .type T) := by
  cases b <;> (refine ⟨by decide +kernel, by decide +kernel, by decide +kernel, ?_⟩) <;> first | exact .inl ⟨_, rfl⟩ | exact .inr ⟨_, rfl⟩

theorem call_named {x : Str} {p pos : Pos} {v : Value} {es : List Expr} {ds : List D} (b : BName x v) (hx : sc.names.lookup x = some .globalImplicit) (h : EvL C k sc Γ c es ds c₁) (hne : es ≠ [])
    {A : Around} {env : Env} {hid : List Addr} {s : Shared} {Q : Value → Shared → Prop} {E : Value → Shared → Prop} (R : Room A k) (O : EnvOK env sc) (N : Now C hid s.heap c) (S : Sees C env hid s.heap Γ)
    (hQ : ∀ vs h' tk, Ext C.β s.heap h' → Bx C h' c₁ → RepAll C.β hid h' vs ds → wpAny (model C.prog C.w) A (call v vs) Q E { s with heap := h', toks := tk }) :
    wpAny (model C.prog C.w) A (eval (.Call (.Name x p) es [] pos) env) Q E s := by
  obtain ⟨b1, b2, b3, b4⟩ := b.ok
  rw [eval_Call_Name]
  refine wpAny_bind (name_builtin O N hx b1 b2 ?_ b3)
  rcases b4 with ⟨i, rfl⟩ | ⟨T, rfl⟩
  · exact Calls.callWith_builtin (plain_any h.1 env pos) (evalArgs_of h hne R O N S fun vs h' tk x bx r => hQ vs h' tk x bx r)
  · exact PySem.callWith_type (plain_any h.1 env pos) (evalArgs_of h hne R O N S fun vs h' tk x bx r => hQ vs h' tk x bx r)

theorem Ev.callB {x : Str} {p pos : Pos} {v : Value} {es : List Expr} {ds : List D} {d : D} (b : BName x v) (h : EvL C k sc Γ c es ds c₁) (hc : CallV C v ds d)
    (hx : sc.names.lookup x = some .globalImplicit := by rfl) (hne : es ≠ [] := by simp) (hk : 1 ≤ k := by omega) : Ev C k sc Γ c (.Call (.Name x p) es [] pos) d c₁ := fun A env hid s Q E R O N S hQ =>
  call_named b hx h hne R O N S fun vs h' tk x bx r =>
    hc A hid c₁ _ vs Q E (R.mono hk) (N.ext x bx) r fun v h'' tk' x' kb r' => hQ v h'' tk' (x.trans x') (bx.keep kb) r'
theorem EvF.callB {x : Str} {p pos : Pos} {v : Value} {es : List Expr} {ds ds' : List D} (b : BName x v) (h : EvL C k sc Γ c es ds c₁) (hc : CallF C v ds ds')
    (hx : sc.names.lookup x = some .globalImplicit := by rfl) (hne : es ≠ [] := by simp) (hk : 1 ≤ k := by omega) : EvF C k sc Γ c (.Call (.Name x p) es [] pos) ds' c₁ := fun A env hid s Q E R O N S hQ =>
  call_named b hx h hne R O N S fun vs h' tk x bx r =>
    hc A hid c₁ _ vs Q E (R.mono hk) (N.ext x bx) r fun a ws n h'' tk' x' kb fr hl r' => hQ a ws n h'' tk' (x.trans x') (bx.keep kb) (N.fresh_back x bx fr) hl r'

/-- a call of one of the text's defs -/
theorem Ev.call {x : Str} {p pos : Pos} {es : List Expr} {ds : List D} {d : D} {k' : Nat} (h : EvL C k sc Γ c es ds c₁) (hc : Fn C k' x ds c₁ d c₂)
    (hx : sc.names.lookup x = some .globalImplicit := by rfl) (hd : (x == ("__debug__" : Str)) = false := by decide) (hne : es ≠ [] := by simp) (hk : k' ≤ k := by omega) :
    Ev C k sc Γ c (.Call (.Name x p) es [] pos) d c₂ := fun A env hid s Q E R O N S hQ => by
  obtain ⟨i, params, body, scope, hi⟩ := hc.1
  obtain ⟨a, o, pm, code, doc, h1, h2, h3, h4⟩ := N.ok.defs i x params body scope hi
  rw [eval_Call_Name]
  refine wpAny_bind (name_global O N hx h1 ?_ hd)
  refine Calls.callWith_function (o := o) (fd := Calls.docDef x params body scope pm code doc) (evalArgs_of h hne R O N S fun vs h' tk x' bx r => ?_)
  have N' := N.ext x' bx
  refine ⟨⟨N'.base _ _ h2, h3⟩, hc.2 A hid _ a vs Q E (R.mono hk) N' h1 r fun v h'' tk' x'' bx' r' => hQ v h'' tk' (x'.trans x'') bx' r'⟩

/-! the built-ins -/
theorem CallV.len {ds : List D} (hz : ds.length ≤ 1000000) : CallV C (.builtin "len") [.list ds] (.int ds.length) := fun A hid c s vs Q E R N r hQ => by
  cases r with | cons a r => cases r; cases a with
  | list nh nb e q =>
    have hl := q.length
    refine Calls.call_len_list e.isList (by simp only [List.size_toArray, hl]; omega) (hQ _ _ _ (.refl _ _) (fun _ e => e) ?_)
    simp only [List.size_toArray, hl]
    exact .int _ _
theorem CallV.abs {a : Int} : CallV C (.builtin "abs") [.int a] (.int (a.natAbs : Int)) := fun A hid c s vs Q E R N r hQ => by
  cases r with | cons a r => cases r; cases a with
  | int i t =>
    refine PyProof.Rows.call_abs_int fun u tk => hQ _ _ _ (.refl _ _) (fun _ e => e) ?_
    have : (if a < 0 then -a else a) = (a.natAbs : Int) := by split <;> omega
    rw [this]; exact .int _ _
theorem CallV.max {a b : Int} : CallV C (.builtin "max") [.int a, .int b] (.int (Max.max a b)) := fun A hid c s vs Q E R N r hQ => by
  cases r with | cons x r => cases r with | cons y r =>
  cases r
  cases x with | int _ t => cases y with | int _ u =>
  refine max_two_ints R.handled fun h' tk hk => ?_
  have e : (if b > a then b else a) = Max.max a b := by omega
  have q := hQ (.int (if b > a then b else a) (if b > a then u else t)) h' tk (.of_keeps hk) (fun o e => hk _ o e) (by rw [e]; exact .int _ _)
  by_cases cc : b > a
  · simpa only [if_pos cc] using q
  · simpa only [if_neg cc] using q

theorem CallV.range1 {n : Int} : CallV C (.type "range") [.int n] (.rng 0 n 1) := fun A hid c s vs Q E R N r hQ => by
  cases r with | cons x r => cases r; cases x; exact call_range_1 (hQ _ _ _ (.push _ _ _) (fun _ e => Heap.get?_push_of_some _ e) (.rng N.size_ne.1 N.size_ne.2 (IsRange.new ..)))
theorem CallV.range2 {a b : Int} : CallV C (.type "range") [.int a, .int b] (.rng a b 1) := fun A hid c s vs Q E R N r hQ => by
  cases r with | cons x r => cases r with | cons y r => cases r; cases x; cases y; exact call_range_2 (hQ _ _ _ (.push _ _ _) (fun _ e => Heap.get?_push_of_some _ e) (.rng N.size_ne.1 N.size_ne.2 (IsRange.new ..)))
theorem CallV.range3 {a b d : Int} (hd : d ≠ 0) (hs : d.natAbs < 1073741824) : CallV C (.type "range") [.int a, .int b, .int d] (.rng a b d) := fun A hid c s vs Q E R N r hQ => by
  cases r with | cons x r => cases r with | cons y r => cases r with | cons z r => cases r; cases x; cases y; cases z; exact call_range_3 hd (hQ _ _ _ (.push _ _ _) (fun _ e => Heap.get?_push_of_some _ e) (.rng N.size_ne.1 N.size_ne.2 (IsRange.new ..))) (.inl (PyProof.noPylong_small hs))

theorem fresh_items {hid : List Addr} {h h' : Heap} {c : Int} {vs : List Value} {ds : List D} (N : Now C hid h c) (r : RepAll C.β hid h vs ds) {a : Addr} (ha : h.get? a = none) (hk : ∀ b o, h.get? b = some o → h'.get? b = some o) :
    RepAll C.β (a :: hid) h' vs ds := r.map fun b o nh nb _ e => ⟨hk _ _ e, fun m => by
    rcases List.mem_cons.mp m with rfl | m
    · rw [ha] at e; cases e
    · exact nh m⟩

theorem CallF.list_list {ds : List D} (hz : ds.length ≤ 1000000) : CallF C (.type "list") [.list ds] ds := fun A hid c s vs Q E R N r hQ => by
  cases r with | cons a r => cases r; cases a with
  | list nh nb e q =>
    refine call_list_seq _ (T := "list") (.inl rfl) e rfl rfl (fun h' c' hk hl => ?_) (by rw [sizeLine_eq]; simp only [List.size_toArray, q.length]; omega)
    exact hQ _ _ _ h' s.toks (.of_keeps hk) (fun o e => hk _ _ e) (get_size _) hl (fresh_items N q (get_size _) hk)
theorem CallF.list_tup {ds : List D} (hz : ds.length ≤ 1000000) : CallF C (.type "list") [.tup ds] ds := fun A hid c s vs Q E R N r hQ => by
  cases r with | cons a r => cases r; cases a with
  | tup nh nb e q =>
    refine call_list_seq _ (T := "tuple") (.inr rfl) e rfl rfl (fun h' c' hk hl => ?_) (by rw [sizeLine_eq]; simp only [List.size_toArray, q.length]; omega)
    exact hQ _ _ _ h' s.toks (.of_keeps hk) (fun o e => hk _ _ e) (get_size _) hl (fresh_items N q (get_size _) hk)
theorem CallV.tuple {ds : List D} (hz : ds.length ≤ 1000000) : CallV C (.type "tuple") [.list ds] (.tup ds) := fun A hid c s vs Q E R N r hQ => by
  cases r with | cons a r => cases r; cases a with
  | list nh nb e q =>
    refine call_tuple_list e.isList (fun h' hk => ?_) (by rw [sizeLine_eq]; simp only [List.size_toArray, q.length]; omega)
    have x : Ext C.β s.heap h' := .of_keeps hk
    have N' := N.ext x (N.box.keep fun o e => hk _ _ e)
    exact hQ _ _ s.toks (x.trans (.push _ _ _)) (fun o e => Heap.get?_push_of_some _ (hk _ _ e)) (.tup N'.size_ne.1 N'.size_ne.2 (Heap.get?_push_size _ rfl) ((q.ext x).ext (.push _ _ _)))
end
/-! ## Subscripts -/
section
variable {C : Cx} {k : Nat} {sc : Scope} {Γ : List (Str × D)} {c c₁ c₂ c₃ c₄ : Int}

theorem seqIndex_nat {i : Int} {n : Nat} (h0 : 0 ≤ i) (hn : i < n) : seqIndex? i n = some i.toNat := seqIndex_of h0 hn

/-- xs[i], 0 ≤ i -/
theorem Ev.item {value slice : Expr} {pos : Pos} {ds : List D} {i : Int} {d : D} (hv : Ev C k sc Γ c value (.list ds) c₁) (hi : Ev C k sc Γ c₁ slice (.int i) c₂) (h0 : 0 ≤ i) (hd : ds[i.toNat]? = some d)
    (hz : ds.length ≤ 1000000) (hs : ∀ o i, subscripted slice false o i = operate [o, i] (getItem o i) := by intro _ _; rfl) : Ev C k sc Γ c (.Subscript value slice pos) d c₂ := fun A env hid s Q E R O N S hQ => by
  refine Subscript_ (hv A env hid s _ E R O N S fun v₁ h₁ t₁ x₁ b₁ r₁ => ?_)
  refine hi A env hid _ _ E R O (N.ext x₁ b₁) (S.ext N x₁) fun v₂ h₂ t₂ x₂ b₂ r₂ => ?_
  have r := r₁.ext x₂
  cases r₂ with | int _ u => cases r with | @list l vs n _ nh nb e q =>
  obtain ⟨v, hv', rv⟩ := q.get hd
  have hlt : i.toNat < ds.length := by
    rcases Nat.lt_or_ge i.toNat ds.length with h | h
    · exact h
    · rw [List.getElem?_eq_none h] at hd; cases hd
  exact tail_any e.isList.typeIs slot_list_getitem.lookup (wpAny_getItem_list e.isList h0 (by omega) (by simpa using hv') (hQ v h₂ t₂ (x₁.trans x₂) b₂ rv)) (hs _ _)

/-- xs[-i] -/
theorem Ev.itemNeg {value slice : Expr} {pos : Pos} {ds : List D} {i : Int} {d : D} (hv : Ev C k sc Γ c value (.list ds) c₁) (hi : Ev C k sc Γ c₁ slice (.int i) c₂) (h0 : i < 0) (h1 : -(ds.length : Int) ≤ i) (hd : ds[(i + ds.length).toNat]? = some d)
    (hz : ds.length ≤ 1000000) (hs : ∀ o i, subscripted slice false o i = operate [o, i] (getItem o i) := by intro _ _; rfl) : Ev C k sc Γ c (.Subscript value slice pos) d c₂ := fun A env hid s Q E R O N S hQ => by
  refine Subscript_ (hv A env hid s _ E R O N S fun v₁ h₁ t₁ x₁ b₁ r₁ => ?_)
  refine hi A env hid _ _ E R O (N.ext x₁ b₁) (S.ext N x₁) fun v₂ h₂ t₂ x₂ b₂ r₂ => ?_
  have r := r₁.ext x₂
  cases r₂ with | int _ u => cases r with | @list l vs n _ nh nb e q =>
  obtain ⟨v, hv', rv⟩ := q.get hd
  have hl := q.length
  refine tail_any e.isList.typeIs slot_list_getitem.lookup (wpAny_getItem_list_neg e.isList h0 (by simp only [List.size_toArray, hl]; exact h1) (by omega) ?_ (hQ v h₂ t₂ (x₁.trans x₂) b₂ rv)) (hs _ _)
  simp only [List.size_toArray, hl]
  simpa using hv'

/-- t[i], 0 ≤ i -/
theorem Ev.itemT {value slice : Expr} {pos : Pos} {ds : List D} {i : Int} {d : D} (hv : Ev C k sc Γ c value (.tup ds) c₁) (hi : Ev C k sc Γ c₁ slice (.int i) c₂) (h0 : 0 ≤ i) (hd : ds[i.toNat]? = some d)
    (hz : ds.length ≤ 1000000) (hs : ∀ o i, subscripted slice false o i = operate [o, i] (getItem o i) := by intro _ _; rfl) : Ev C k sc Γ c (.Subscript value slice pos) d c₂ := fun A env hid s Q E R O N S hQ => by
  refine Subscript_ (hv A env hid s _ E R O N S fun v₁ h₁ t₁ x₁ b₁ r₁ => ?_)
  refine hi A env hid _ _ E R O (N.ext x₁ b₁) (S.ext N x₁) fun v₂ h₂ t₂ x₂ b₂ r₂ => ?_
  have r := r₁.ext x₂
  cases r₂ with | int _ u => cases r with | @tup l vs n _ nh nb e q =>
  obtain ⟨v, hv', rv⟩ := q.get hd
  have hlt : i.toNat < ds.length := by
    rcases Nat.lt_or_ge i.toNat ds.length with h | h
    · exact h
    · rw [List.getElem?_eq_none h] at hd; cases hd
  have hl := q.length
  exact item_tupleT ⟨_, e, rfl, _, rfl⟩ (by omega) (by omega) (seqIndex_of h0 (by rw [hl]; omega)) hv' (hQ v h₂ t₂ (x₁.trans x₂) b₂ rv) (hs _ _)

/-- a menu of the top's at a place -/
theorem Ev.menu {slice : Expr} {pos p : Pos} {i : Int} {a : Int} (hi : Ev C k sc Γ c slice (.int i) c₂) (h0 : 0 ≤ i) (hd : someInts[i.toNat]? = some a) (hx : sc.names.lookup ("_law_some" : Str) = some NameKind.globalImplicit := by rfl)
    (hs : ∀ o i, subscripted slice false o i = operate [o, i] (getItem o i) := by intro _ _; rfl) : Ev C k sc Γ c (.Subscript (.Name "_law_some" p) slice pos) (.int a) c₂ := fun A env hid s Q E R O N S hQ => by
  obtain ⟨l, vs, n, hm, hl, hI⟩ := N.ok.menu
  refine Subscript_ (name_global O N hx hm ?_ (by decide +kernel))
  refine hi A env hid _ _ E R O N S fun v₂ h₂ t₂ x₂ b₂ r₂ => ?_
  have N' := N.ext x₂ b₂
  have hl' : IsL h₂ l vs n := N'.base _ _ hl
  cases r₂ with | int _ u =>
  have hlt : i.toNat < someInts.length := by
    rcases Nat.lt_or_ge i.toNat someInts.length with h | h
    · exact h
    · rw [List.getElem?_eq_none h] at hd; cases hd
  obtain ⟨t, ht⟩ : ∃ t, vs[i.toNat]? = some (.int a t) := by
    have key : ∀ (ws : List Value) (ns : List Int) (j : Nat) (a : Int), IntsAre ws ns → ns[j]? = some a → ∃ t, ws[j]? = some (.int a t) := by
      intro ws ns j a hI
      induction hI generalizing j with
      | nil => intro h; simp at h
      | cons n t _ ih =>
        intro h
        cases j with
        | zero => simp at h; subst h; exact ⟨t, rfl⟩
        | succ j => exact ih j (by simpa using h)
    obtain ⟨t, ht⟩ := key _ _ _ _ hI hd
    exact ⟨t, by simpa using ht⟩
  exact tail_any hl'.isList.typeIs slot_list_getitem.lookup (wpAny_getItem_list hl'.isList h0 (by have : someInts.length = 14 := rfl; omega) ht (hQ _ h₂ t₂ x₂ b₂ (.int _ _))) (hs _ _)

/-! slices -/
/-- a part of a slice: none written, or an int -/
noncomputable def EvO (C : Cx) (k : Nat) (sc : Scope) (Γ : List (Str × D)) (c : Int) (e : Option Expr) (i : Option Int) (c' : Int) : Prop :=
  (e = none ∧ i = none ∧ c' = c) ∨ ∃ e' i', e = some e' ∧ i = some i' ∧ Ev C k sc Γ c e' (.int i') c'
theorem EvO.none : EvO C k sc Γ c none none c := .inl ⟨rfl, rfl, rfl⟩
theorem EvO.some {e : Expr} {i : Int} (h : Ev C k sc Γ c e (.int i) c₁) : EvO C k sc Γ c (some e) (some i) c₁ := .inr ⟨e, i, rfl, rfl, h⟩

theorem EvO.wp {e : Option Expr} {i : Option Int} (h : EvO C k sc Γ c e i c₁) {A : Around} {env : Env} {hid : List Addr} {s : Shared} {Q : Value → Shared → Prop} {E : Value → Shared → Prop}
    (R : Room A k) (O : EnvOK env sc) (N : Now C hid s.heap c) (S : Sees C env hid s.heap Γ)
    (hQ : ∀ v h' tk, Ext C.β s.heap h' → Bx C h' c₁ → IsPart v i → Q v { s with heap := h', toks := tk }) : wpAny (model C.prog C.w) A (valueOrNone (evalOpt e env)) Q E s := by
  rcases h with ⟨rfl, rfl, rfl⟩ | ⟨e', i', rfl, rfl, h⟩
  · exact wpAny_pure (hQ _ s.heap s.toks (.refl _ _) N.box .none)
  · exact h A env hid s _ E R O N S fun v h' tk x b r => by cases r; exact hQ _ h' tk x b (.int _ _)

noncomputable def sliceD (ds : List D) (lo hi : Option Int) : List D := (ds.drop (lo.elim 0 (clipAt ds.length))).take (hi.elim ds.length (clipAt ds.length) - lo.elim 0 (clipAt ds.length))

theorem slice_obj {lo hi st : Option Expr} {p : Pos} {l u j : Option Int} (hlo : EvO C k sc Γ c lo l c₁) (hhi : EvO C k sc Γ c₁ hi u c₂) (hst : EvO C k sc Γ c₂ st j c₃)
    {A : Around} {env : Env} {hid : List Addr} {s : Shared} {Q : Value → Shared → Prop} {E : Value → Shared → Prop} (R : Room A k) (O : EnvOK env sc) (N : Now C hid s.heap c) (S : Sees C env hid s.heap Γ)
    (hQ : ∀ vl vu vs h' tk, Ext C.β s.heap h' → Bx C h' c₃ → IsPart vl l → IsPart vu u → IsPart vs j →
      Q (.ref h'.objs.size) { s with heap := h'.push { cls := .type "slice", data := .fields #[vl, vu, vs] }, toks := tk }) :
    wpAny (model C.prog C.w) A (eval (.Slice lo hi st p) env) Q E s := by
  rw [arm_eval_Slice]
  refine wpAny_bind (hlo.wp R O N S fun v₁ h₁ t₁ x₁ b₁ p₁ => wpAny_bind (wpAny_holding ?_))
  have N₁ := N.ext x₁ b₁
  have S₁ := S.ext N x₁
  refine hhi.wp R O N₁ S₁ fun v₂ h₂ t₂ x₂ b₂ p₂ => wpAny_bind (wpAny_holding ?_)
  have N₂ := N₁.ext x₂ b₂
  refine hst.wp R O N₂ (S₁.ext N₁ x₂) fun v₃ h₃ t₃ x₃ b₃ p₃ => ?_
  exact wpAny_newObj_type (hQ v₁ v₂ v₃ h₃ t₃ (x₁.trans (x₂.trans x₃)) b₃ p₁ p₂ p₃)

theorem EvF.slice {value : Expr} {lo hi : Option Expr} {p pos : Pos} {ds : List D} {l u : Option Int} (hv : Ev C k sc Γ c value (.list ds) c₁) (hlo : EvO C k sc Γ c₁ lo l c₂) (hhi : EvO C k sc Γ c₂ hi u c₃) (hz : ds.length ≤ 1000000) :
    EvF C k sc Γ c (.Subscript value (.Slice lo hi none p) pos) (sliceD ds l u) c₃ := fun A env hid s Q E R O N S hQ => by
  refine Subscript_ (hv A env hid s _ E R O N S fun v₁ h₁ t₁ x₁ b₁ r₁ => ?_)
  have N₁ := N.ext x₁ b₁
  refine slice_obj hlo hhi (j := none) EvO.none R O N₁ (S.ext N x₁) fun vl vu vs h₂ t₂ x₂ b₂ pl pu ps => ?_
  have N₂ := N₁.ext x₂ b₂
  have x₃ : Ext C.β h₂ (h₂.push { cls := .type "slice", data := .fields #[vl, vu, vs] }) := .push _ _ _
  have b₃ := b₂.push { cls := .type "slice", data := .fields #[vl, vu, vs] }
  have N₃ := N₂.ext x₃ b₃
  have r := (r₁.ext x₂).ext x₃
  cases r with | @list a ws n _ nh nb e q =>
  have hl := q.length
  refine tail_any e.isList.typeIs slot_list_getitem.lookup (wpAny_getItem_list_slice e.isList (Heap.IsSliceOf.new ..) pl pu ps (by simp) ?_ (by rw [sizeLine_eq]; simp only [List.size_toArray, hl]; omega)) (ops := [.ref h₂.objs.size, .ref a]) rfl
  rw [slicePick_plain]
  simp only [List.size_toArray, hl]
  refine hQ _ _ 0 _ t₂ (x₁.trans (x₂.trans (x₃.trans (.push _ _ _)))) (b₃.push _) (N.fresh_back (x₁.trans (x₂.trans x₃)) b₃ (get_size _)) (Heap.get?_push_size _ rfl) ?_
  exact RepAll.new N₃ ((q.drop _).take _) _

/-- xs[::-1] -/
theorem EvF.rev {value : Expr} {p pos p₁ p₂ : Pos} {n : Nat} {ds : List D} (hv : Ev C k sc Γ c value (.list ds) c₁) (hz : ds.length ≤ 1000000) :
    EvF C k sc Γ c (.Subscript value (.Slice none none (some (.UnaryOp .USub (.Constant (.int 1) n p₁) p₂)) p) pos) ds.reverse c₁ := fun A env hid s Q E R O N S hQ => by
  refine Subscript_ (hv A env hid s _ E R O N S fun v₁ h₁ t₁ x₁ b₁ r₁ => ?_)
  have N₁ := N.ext x₁ b₁
  refine slice_obj (l := none) (u := none) (j := some (-1)) EvO.none EvO.none (EvO.some (Ev.neg Ev.int)) R O N₁ (S.ext N x₁) fun vl vu vs h₂ t₂ x₂ b₂ pl pu ps => ?_
  have N₂ := N₁.ext x₂ b₂
  have x₃ : Ext C.β h₂ (h₂.push { cls := .type "slice", data := .fields #[vl, vu, vs] }) := .push _ _ _
  have b₃ := b₂.push { cls := .type "slice", data := .fields #[vl, vu, vs] }
  have N₃ := N₂.ext x₃ b₃
  have r := (r₁.ext x₂).ext x₃
  cases r with | @list a ws n _ nh nb e q =>
  have hl := q.length
  refine tail_any e.isList.typeIs slot_list_getitem.lookup (wpAny_getItem_list_slice e.isList (Heap.IsSliceOf.new ..) pl pu ps (by simp) ?_ (by rw [sizeLine_eq]; simp only [List.size_toArray, hl]; omega)) (ops := [.ref a, .ref h₂.objs.size]) rfl
  rw [krv_pick]
  refine hQ _ _ 0 _ t₂ (x₁.trans (x₂.trans (x₃.trans (.push _ _ _)))) (b₃.push _) (N.fresh_back (x₁.trans (x₂.trans x₃)) b₃ (get_size _)) (Heap.get?_push_size _ rfl) ?_
  exact RepAll.new N₃ q.reverse _

theorem sliceD_to (ds : List D) (b : Nat) : sliceD ds none (some (b : Int)) = ds.take b := by
  unfold sliceD
  simp only [Option.elim, clipAt_nat, List.drop_zero, Nat.sub_zero]
  rcases Nat.le_total b ds.length with h | h
  · rw [Nat.min_eq_left h]
  · rw [Nat.min_eq_right h, List.take_of_length_le (Nat.le_refl _), List.take_of_length_le h]
theorem sliceD_from (ds : List D) (a : Nat) : sliceD ds (some (a : Int)) none = ds.drop a := by
  unfold sliceD
  simp only [Option.elim, clipAt_nat]
  rcases Nat.le_total a ds.length with h | h
  · rw [Nat.min_eq_left h, List.take_of_length_le (by simp)]
  · rw [Nat.min_eq_right h, List.drop_of_length_le (Nat.le_refl _), List.drop_of_length_le h]; simp
theorem sliceD_butLast (ds : List D) (b : Nat) (hb : 1 ≤ b) : sliceD ds none (some (-(b : Int))) = ds.take (ds.length - b) := by
  unfold sliceD
  simp only [Option.elim, clipAt_neg _ _ hb, List.drop_zero, Nat.sub_zero]
end
/-! ## Iterators -/
/-- the data objects of hb, but the hidden ones, stand in h -/
noncomputable def Pres (C : Cx) (hid : List Addr) (hb h : Heap) : Prop := ∀ b o, b ∉ hid → b ≠ C.β → DataObj o → hb.get? b = some o → h.get? b = some o
/-- the objects of h but those in wr stand in h' -/
noncomputable def But (wr : List Addr) (h h' : Heap) : Prop := ∀ b o, b ∉ wr → h.get? b = some o → h'.get? b = some o

/-- the iterator at I, pulled for the target: it walks along items, touching wr alone -/
structure Wk (C : Cx) (hid : List Addr) (hb : Heap) (target : Expr) (I : Addr) (items : List D) (wr : List Addr) (S : Nat → Heap → Prop) : Prop where
  fresh : ∀ b ∈ wr, hb.get? b = none
  top : hb.objs.size ≤ I
  mem : I ∈ wr
  live : ∀ i h, S i h → ∀ b ∈ wr, ∃ o, h.get? b = some o
  nofr : ∀ i h, S i h → ∀ b ∈ wr, ∀ o, h.get? b = some o → (∀ es n, o.data ≠ .dict es n) ∧ ∀ v, o.data ≠ .cell v
  frame : ∀ i h h', S i h → (∀ b ∈ wr, ∀ o, h.get? b = some o → h'.get? b = some o) → S i h'
  item : ∀ (A : Around) (i : Nat) (d : D) (s : Shared) (Q : Value → Shared → Prop) (E : Value → Shared → Prop), A.handled = none → items[i]? = some d → S i s.heap → Pres C hid hb s.heap → (∀ b ∈ hid, b ≠ s.heap.objs.size) → (∃ o, s.heap.get? C.β = some o) →
    (∀ v h' tk, S (i + 1) h' → But wr s.heap h' → Rep C.β hid h' v d → Q v { s with heap := h', toks := tk }) →
    wpAny (model C.prog C.w) A (pyNext (.ref I)) (fun r s' => ∃ v, r = some v ∧ wpAny (model C.prog C.w) A (letOwnedTupleGo target (.ref I) v) (fun _ s'' => Q v s'') E s') E s
  done : ∀ (A : Around) (s : Shared) (Q : Option Value → Shared → Prop) (E : Value → Shared → Prop), A.handled = none → S items.length s.heap → Pres C hid hb s.heap →
    (∀ h' tk, But wr s.heap h' → Q none { s with heap := h', toks := tk }) → wpAny (model C.prog C.w) A (pyNext (.ref I)) Q E s
  self : ∀ (A : Around) (i : Nat) (s : Shared) (Q : Value → Shared → Prop) (E : Value → Shared → Prop), S i s.heap → Q (.ref I) s → wpAny (model C.prog C.w) A (pyIter (.ref I)) Q E s

/-- e, as what a loop goes along -/
noncomputable def EvIt (C : Cx) (k : Nat) (sc : Scope) (Γ : List (Str × D)) (c : Int) (e target : Expr) (items : List D) (c' : Int) : Prop :=
  ∀ (A : Around) (env : Env) (hid : List Addr) (s : Shared) (Q : Value → Shared → Prop) (E : Value → Shared → Prop),
    Room A k → EnvOK env sc → Now C hid s.heap c → Sees C env hid s.heap Γ →
    (∀ hb I wr S h' tk, Ext C.β s.heap hb → Bx C hb c' → (∀ b o, hb.get? b = some o → h'.get? b = some o) →
      (∀ hid', (∀ b ∈ hid', b ∈ hid ∨ hb.get? b = none) → Wk C hid' hb target I items wr S) → S 0 h' → Q (.ref I) { s with heap := h', toks := tk }) →
    wpAny (model C.prog C.w) A (eval e env) (fun x s₁ => wpAny (model C.prog C.w) A (pyIter x) Q E s₁) E s

section
variable {C : Cx} {k : Nat} {sc : Scope} {Γ : List (Str × D)} {c c₁ c₂ : Int} {hid : List Addr}

theorem but_same {a : Addr} {h h' : Heap} (x : Heap.SameBut a h h') : But [a] h h' := fun b o nb e => x.extBut b o (fun q => nb (by simp [q])) e
theorem but_ext {a : Addr} {h h' : Heap} (x : Heap.ExtBut a h h') : But [a] h h' := fun b o nb e => x b o (fun q => nb (by simp [q])) e

noncomputable def handOuts : List String := ["enumerate", "zip", "dict_itemiterator", "dict_reverseitemiterator", "odict_iterator", "itertools.zip_longest", "itertools.pairwise"]
/-- what no pair maker has handed out stays -/
theorem owned_other {target : Expr} {I : Addr} {v : Value} {o : Obj} {n : String} {A : Around} {s : Shared} {Q : Unit → Shared → Prop} {E : Value → Shared → Prop} (ho : s.heap.get? I = some o) (hc : o.cls = .type n) (hn : handOuts.contains n = false) (h : Q () s) :
    wpAny (model C.prog C.w) A (letOwnedTupleGo target (.ref I) v) Q E s := by
  unfold letOwnedTupleGo
  have key : ∀ a : Addr, wpAny (model C.prog C.w) A (do
      let o ← load I
      match o.cls, o.data with
      | .type n, .fields vs =>
        if handOuts.contains n && vs[0]? == some (rawInt a) then
          rule "for.unpacks-the-owned-tuple"
          updateField I 0 .none
      | _, _ => pure ()) Q E s := fun a => by
    refine wpAny_bind (wpAny_load ho ?_)
    rw [hc]
    cases hd : o.data <;> first | exact wpAny_pure h | (show wpAny _ _ (if (handOuts.contains n && _) = true then _ else _) _ _ _; rw [hn]; exact wpAny_pure h)
  cases target <;> first | exact wpAny_pure h | (cases v <;> first | exact wpAny_pure h | exact key _)

theorem RepAll.hide {hid' : List Addr} {hb : Heap} {vs : List Value} {ds : List D} (r : RepAll C.β hid hb vs ds) (hh : ∀ b ∈ hid', b ∈ hid ∨ hb.get? b = none) : RepAll C.β hid' hb vs ds :=
  r.map fun b o nh nb _ e => ⟨e, fun m => (hh b m).elim nh fun q => by rw [q] at e; cases e⟩
theorem Rep.hide {hid' : List Addr} {hb : Heap} {v : Value} {d : D} (r : Rep C.β hid hb v d) (hh : ∀ b ∈ hid', b ∈ hid ∨ hb.get? b = Option.none) : Rep C.β hid' hb v d :=
  r.map fun b o nh nb _ e => ⟨e, fun m => (hh b m).elim nh fun q => by rw [q] at e; cases e⟩
theorem nh_hide {hid' : List Addr} {hb : Heap} {l : Addr} {o : Obj} (nh : l ∉ hid) (e : hb.get? l = some o) (hh : ∀ b ∈ hid', b ∈ hid ∨ hb.get? b = none) : l ∉ hid' := fun m => (hh l m).elim nh fun q => by rw [q] at e; cases e
theorem Pres.refl {hb : Heap} : Pres C hid hb hb := fun _ _ _ _ _ e => e
theorem RepAll.pres {hb h : Heap} {vs : List Value} {ds : List D} (r : RepAll C.β hid hb vs ds) (p : Pres C hid hb h) : RepAll C.β hid h vs ds := r.map fun b o nh nb dd e => ⟨p b o nh nb dd e, nh⟩

theorem Wk.list {hb : Heap} {target : Expr} {I l : Addr} {vs : List Value} {n : Nat} {ds : List D} (hI : hb.get? I = none) (hT : hb.objs.size ≤ I) (nh : l ∉ hid) (nb : l ≠ C.β) (e : IsL hb l vs.toArray n) (r : RepAll C.β hid hb vs ds) :
    Wk C hid hb target I ds [I] (fun i h => h.IsListIter I l i) where
  fresh := fun b hb' => by rw [List.mem_singleton.mp hb']; exact hI
  top := hT
  mem := by simp
  live := fun i h hi b hb' => by rw [List.mem_singleton.mp hb']; obtain ⟨o, ho, _⟩ := hi; exact ⟨o, ho⟩
  nofr := fun i h hi b hb' o e => by
    rw [List.mem_singleton.mp hb'] at e
    obtain ⟨o', ho, _, hd⟩ := hi
    rw [ho] at e; cases e
    rw [hd]; exact ⟨(fun _ _ q => nomatch q), (fun _ q => nomatch q)⟩
  frame := fun i h h' hi hk => let ⟨o, ho, q⟩ := hi; ⟨o, hk I (by simp) o ho, q⟩
  item := fun A i d s Q E hh hd hi hp _ _ hQ => by
    obtain ⟨v, hv, rv⟩ := (r.pres hp).get hd
    have e' : IsL s.heap l vs.toArray n := hp l _ nh nb (dataL _ _) e
    refine wpAny_pyNext_list_item hi e'.isList (x := v) (by simpa using hv) fun h' hit hs => ⟨v, rfl, ?_⟩
    obtain ⟨o, ho, hc, hd'⟩ := id hit
    refine owned_other (s := { s with heap := h' }) ho hc (by decide) (hQ v h' s.toks hit (but_same hs) (rv.map fun b o nh nb dd q => ⟨?_, nh⟩))
    refine hs.extBut b o ?_ q
    rintro rfl
    obtain ⟨o', ho', hc', _⟩ := hi
    rw [ho'] at q; cases q
    rcases dd.1 with q | q | q <;> (rw [hc'] at q; exact absurd (Value.type.inj q) (by decide))
  done := fun A s Q E hh hi hp hQ => by
    have e' : IsL s.heap l vs.toArray n := hp l _ nh nb (dataL _ _) e
    exact wpAny_pyNext_list_end hh hi e'.isList (by simp [r.length]) fun h' he => hQ h' s.toks (but_ext he)
  self := fun A i s Q E hi hQ => wpAny_pyIter_listiter hi hQ

theorem EvIt.list {e target : Expr} {ds : List D} (h : Ev C k sc Γ c e (.list ds) c₁) : EvIt C k sc Γ c e target ds c₁ := fun A env hid s Q E R O N S hQ =>
  h A env hid s _ E R O N S fun v h' tk x b r => by
    cases r with
    | list nh nb e q =>
      refine wpAny_pyIter_list (s := { s with heap := h', toks := tk }) e.isList ?_
      exact hQ h' h'.objs.size [h'.objs.size] _ _ tk x b (fun b o q => Heap.get?_push_of_some _ q) (fun hid' hh => Wk.list (get_size h') (Nat.le_refl _) (nh_hide nh e hh) nb e (q.hide hh)) ⟨_, Heap.get?_push_size _ rfl, rfl, rfl⟩

noncomputable def rngInts (a st : Int) (n : Nat) : List D := (List.range n).map fun (i : Nat) => D.int (a + (i : Int) * st)
theorem Wk.rng {hb : Heap} {target : Expr} {I : Addr} {a st : Int} {n : Nat} (hI : hb.get? I = none) (hT : hb.objs.size ≤ I) : Wk C hid hb target I (rngInts a st n) [I] (fun i h => IsRangeIter h I (a + (i : Int) * st) ((n : Int) - i) st) where
  fresh := fun b hb' => by rw [List.mem_singleton.mp hb']; exact hI
  top := hT
  mem := by simp
  live := fun i h hi b hb' => by rw [List.mem_singleton.mp hb']; exact ⟨_, hi⟩
  nofr := fun i h hi b hb' o e => by
    rw [List.mem_singleton.mp hb', hi] at e; cases e
    exact ⟨(fun _ _ q => nomatch q), (fun _ q => nomatch q)⟩
  frame := fun i h h' hi hk => hk I (by simp) _ hi
  item := fun A i d s Q E hh hd hi hp _ _ hQ => by
    unfold rngInts at hd
    rw [List.getElem?_map] at hd
    have hlt : i < n := by
      rcases Nat.lt_or_ge i n with h | h
      · exact h
      · rw [List.getElem?_eq_none (by simpa using h)] at hd; cases hd
    rw [List.getElem?_range hlt] at hd
    cases hd
    refine wpAny_pyNext_range_item hi (by omega) fun h' hit hs => ⟨_, rfl, ?_⟩
    have e1 : a + ((i + 1 : Nat) : Int) * st = a + (i : Int) * st + st := by push_cast; rw [Int.add_mul, Int.one_mul, Int.add_assoc]
    have e2 : (n : Int) - ((i + 1 : Nat) : Int) = (n : Int) - (i : Int) - 1 := by push_cast; omega
    refine owned_other (s := { s with heap := h', toks := s.toks + 1 }) hit rfl (by decide) (hQ _ h' _ (by rw [e1, e2]; exact hit) (but_same hs) (.int _ _))
  done := fun A s Q E hh hi hp hQ => by
    have : (rngInts a st n).length = n := by simp [rngInts]
    rw [this] at hi
    exact wpAny_pyNext_range_end hh hi (by omega) fun h' he => hQ h' s.toks (but_ext he)
  self := fun A i s Q E hi hQ => wpAny_pyIter_rangeiter hi hQ

theorem EvIt.rng {e target : Expr} {a b st : Int} {n : Nat} (h : Ev C k sc Γ c e (.rng a b st) c₁) (hs : Builtin.Range.small a b st = true) (hn : Builtin.Range.rangeSize a b st = n) : EvIt C k sc Γ c e target (rngInts a st n) c₁ := fun A env hid s Q E R O N S hQ =>
  h A env hid s _ E R O N S fun v h' tk x bx r => by
    cases r with
    | rng nh nb e =>
      refine wpAny_pyIter_range (s := { s with heap := h', toks := tk }) e hs ?_
      refine hQ h' h'.objs.size [h'.objs.size] _ _ tk x bx (fun b o q => Heap.get?_push_of_some _ q) (fun hid' hh => Wk.rng (a := a) (st := st) (n := n) (get_size h') (Nat.le_refl _)) ?_
      have q := Heap.get?_push_size h' (o := { cls := .type "range_iterator", data := .fields #[rawInt a, rawInt (Builtin.Range.rangeSize a b st), rawInt st] }) rfl
      rw [hn] at q ⊢
      show IsRangeIter _ _ (a + ((0 : Nat) : Int) * st) ((n : Int) - ((0 : Nat) : Int)) st
      have e1 : a + ((0 : Nat) : Int) * st = a := by simp
      have e2 : (n : Int) - ((0 : Nat) : Int) = n := by simp
      rw [e1, e2]; exact q

theorem not_data {o : Obj} {n : String} (hc : o.cls = .type n) (h : n ≠ "list" ∧ n ≠ "tuple" ∧ n ≠ "range") : ¬ DataObj o := fun q => by
  rcases q.1 with q | q | q <;> (rw [hc] at q; have := Value.type.inj q)
  · exact h.1 this
  · exact h.2.1 this
  · exact h.2.2 this

/-- reversed(xs) -/
theorem Wk.rev {hb : Heap} {target : Expr} {I l : Addr} {vs : List Value} {n : Nat} {ds : List D} (hI : hb.get? I = none) (hT : hb.objs.size ≤ I) (nh : l ∉ hid) (nb : l ≠ C.β) (e : IsL hb l vs.toArray n) (r : RepAll C.β hid hb vs ds) :
    Wk C hid hb target I ds.reverse [I] (fun i h => i ≤ ds.length ∧ h.IsRevIter I l ((ds.length : Int) - 1 - (i : Int))) where
  fresh := fun b hb' => by rw [List.mem_singleton.mp hb']; exact hI
  top := hT
  mem := by simp
  live := fun i h hi b hb' => by rw [List.mem_singleton.mp hb']; obtain ⟨o, ho, _⟩ := hi.2; exact ⟨o, ho⟩
  nofr := fun i h hi b hb' o e => by
    rw [List.mem_singleton.mp hb'] at e
    obtain ⟨o', ho, _, hd⟩ := hi.2
    rw [ho] at e; cases e
    rw [hd]; exact ⟨(fun _ _ q => nomatch q), (fun _ q => nomatch q)⟩
  frame := fun i h h' hi hk => ⟨hi.1, hi.2.at fun o e => hk I (by simp) o e⟩
  item := fun A i d s Q E hh hd hi hp _ _ hQ => by
    have hlt : i < ds.length := by
      rcases Nat.lt_or_ge i ds.length with h | h
      · exact h
      · rw [List.getElem?_eq_none (by simpa using h)] at hd; cases hd
    rw [List.getElem?_reverse hlt] at hd
    obtain ⟨v, hv, rv⟩ := (r.pres hp).get hd
    have e' : IsL s.heap l vs.toArray n := hp l _ nh nb (dataL _ _) e
    have e1 : (ds.length : Int) - 1 - (i : Int) = ((ds.length - 1 - i : Nat) : Int) := by omega
    have hi2 := hi.2
    rw [e1] at hi2
    refine wpAny_pyNext_rev_item hi2 e'.isList (x := v) (by simpa using hv) fun h' hit hs => ⟨v, rfl, ?_⟩
    have e2 : ((ds.length - 1 - i : Nat) : Int) - 1 = (ds.length : Int) - 1 - ((i + 1 : Nat) : Int) := by omega
    rw [e2] at hit
    obtain ⟨o, ho, hc, hd'⟩ := id hit
    refine owned_other (s := { s with heap := h' }) ho hc (by decide) (hQ v h' s.toks ⟨hlt, hit⟩ (but_same hs) (rv.map fun b o nh nb dd q => ⟨?_, nh⟩))
    refine hs.extBut b o ?_ q
    rintro rfl
    obtain ⟨o', ho', hc', _⟩ := hi.2
    rw [ho'] at q; cases q
    exact not_data hc' (by decide) dd
  done := fun A s Q E hh hi hp hQ => by
    have hi2 := hi.2
    have : (ds.length : Int) - 1 - ((ds.reverse.length : Nat) : Int) = -1 := by rw [List.length_reverse]; omega
    rw [this] at hi2
    exact wpAny_pyNext_rev_end hh hi2 fun h' he => hQ h' s.toks (but_ext he)
  self := fun A i s Q E hi hQ => wpAny_pyIter_revIter hi.2 hQ

theorem EvIt.rev {e target : Expr} {p pos : Pos} {ds : List D} (h : Ev C k sc Γ c e (.list ds) c₁) (hx : sc.names.lookup ("reversed" : Str) = some NameKind.globalImplicit := by rfl) (he : ∀ env, starEach [e] env = (false, eval e env) :: starEach [] env := by intro _; rfl) :
    EvIt C k sc Γ c (.Call (.Name "reversed" p) [e] [] pos) target ds.reverse c₁ := fun A env hid s Q E R O N S hQ =>
  call_named .reversed hx (EvL.cons h EvL.nil he) (by simp) R O N S fun vs h' tk x b r => by
    cases r with | cons a r => cases r; cases a with
    | @list l ws n _ nh nb e q =>
      refine call_reversed_list e.isList ?_
      have N' := N.ext x b
      have hit : Heap.IsRevIter (h'.push (revObj l ((ws.toArray.size : Int) - 1))) h'.objs.size l ((ds.length : Int) - 1 - ((0 : Nat) : Int)) := by
        refine ⟨_, Heap.get?_push_size _ rfl, rfl, ?_⟩
        simp [revObj, q.length]
      refine wpAny_pyIter_revIter hit ?_
      exact hQ h' h'.objs.size [h'.objs.size] _ _ tk x b (fun b o q => Heap.get?_push_of_some _ q) (fun hid' hh => Wk.rev (get_size h') (Nat.le_refl _) (nh_hide nh e hh) nb e (q.hide hh)) ⟨Nat.zero_le _, hit⟩

/-- enumerate(xs), for a tuple target -/
noncomputable def enumD (ds : List D) : List D := ds.zipIdx.map fun p => D.tup [.int (p.2 : Int), p.1]
theorem Wk.enum {hb : Heap} {elts : List Expr} {tk' : Nat} {tp : Pos} {e it l : Addr} {vs : List Value} {n : Nat} {ds : List D} (he : hb.get? e = none) (hT : hb.objs.size ≤ e) (hi : hb.get? it = none) (hne : e ≠ it) (nh : l ∉ hid) (nb : l ≠ C.β) (el : IsL hb l vs.toArray n) (r : RepAll C.β hid hb vs ds) :
    Wk C hid hb (.Tuple elts tk' tp) e (enumD ds) [e, it] (fun i h => (∃ old, IsEnum h e it (i : Int) old) ∧ h.IsListIter it l i) where
  fresh := fun b hb' => by simp at hb'; rcases hb' with rfl | rfl <;> assumption
  top := hT
  mem := by simp
  live := fun i h st b hb' => by
    simp at hb'
    rcases hb' with rfl | rfl
    · obtain ⟨old, q⟩ := st.1; exact ⟨_, q⟩
    · obtain ⟨o, ho, _⟩ := st.2; exact ⟨o, ho⟩
  nofr := fun i h st b hb' o z => by
    simp at hb'
    rcases hb' with rfl | rfl
    · obtain ⟨old, q⟩ := st.1; rw [q] at z; cases z; exact ⟨(fun _ _ q => nomatch q), (fun _ q => nomatch q)⟩
    · obtain ⟨o', ho, _, hd⟩ := st.2; rw [ho] at z; cases z; rw [hd]; exact ⟨(fun _ _ q => nomatch q), (fun _ q => nomatch q)⟩
  frame := fun i h h' st hk => ⟨let ⟨old, q⟩ := st.1; ⟨old, hk e (by simp) _ q⟩, let ⟨o, ho, q⟩ := st.2; ⟨o, hk it (by simp) o ho, q⟩⟩
  item := fun A i d s Q E hh hd st hp hlive hβ hQ => by
    unfold enumD at hd
    rw [List.getElem?_map, List.getElem?_zipIdx] at hd
    cases hdi : ds[i]? with
    | none => rw [hdi] at hd; cases hd
    | some d' =>
      rw [hdi] at hd
      cases hd
      obtain ⟨v, hv, rv⟩ := (r.pres hp).get hdi
      have e' : IsL s.heap l vs.toArray n := hp l _ nh nb (dataL _ _) el
      obtain ⟨⟨old, q⟩, hit⟩ := st
      refine wpAny_pyNext_enum_item q hit e'.isList (x := v) (by simpa using hv) hne fun h' h1 h2 h3 h4 hk => ⟨_, rfl, ?_⟩
      refine wpAny_letOwnedTupleGo_enum (s := { s with heap := h', toks := s.toks + 1 }) h1 fun h'' h5 hs => ?_
      have hsz : s.heap.objs.size ≠ e := fun z => by rw [← z] at q; exact absurd (Heap.lt_size q) (Nat.lt_irrefl _)
      have hszit : s.heap.objs.size ≠ it := fun z => by obtain ⟨o, ho, _⟩ := hit; rw [← z] at ho; exact absurd (Heap.lt_size ho) (Nat.lt_irrefl _)
      have old' : ∀ b o, b ≠ e → b ≠ it → s.heap.get? b = some o → h''.get? b = some o := fun b o n1 n2 z => hs.extBut b o n1 (hk b o n1 n2 z)
      refine hQ _ h'' _ ⟨⟨v, ?_⟩, ?_⟩ (fun b o nb' z => old' b o (fun w => nb' (by simp [w])) (fun w => nb' (by simp [w])) z) ?_
      · have ec : ((i + 1 : Nat) : Int) = (i : Int) + 1 := by omega
        rw [ec]; exact h5
      · obtain ⟨o, ho, z⟩ := h2
        exact ⟨o, hs.extBut it o (fun w => hne w.symm) ho, z⟩
      · have hT : IsT h'' s.heap.objs.size #[Value.int (i : Int) s.toks, v] 0 := hs.extBut _ _ hsz h3
        have hnh : s.heap.objs.size ∉ hid := fun m => hlive _ m rfl
        have hnb : s.heap.objs.size ≠ C.β := fun m => by obtain ⟨o, z⟩ := hβ; rw [← m, get_size] at z; cases z
        refine .tup hnh hnb (vs := [Value.int (i : Int) s.toks, v]) hT (.cons ?_ (.cons (rv.map fun b o nh nb dd z => ⟨old' b o ?_ ?_ z, nh⟩) .nil))
        · simp only [Nat.zero_add]; exact .int _ _
        · rintro rfl; rw [q] at z; cases z; exact not_data (n := "enumerate") rfl (by decide) dd
        · rintro rfl; obtain ⟨o', ho', hc', _⟩ := hit; rw [ho'] at z; cases z; exact not_data hc' (by decide) dd
  done := fun A s Q E hh st hp hQ => by
    have e' : IsL s.heap l vs.toArray n := hp l _ nh nb (dataL _ _) el
    obtain ⟨⟨old, q⟩, hit⟩ := st
    have hl : (enumD ds).length = ds.length := by simp [enumD]
    rw [hl] at q hit
    exact wpAny_pyNext_enum_end hh q hit e'.isList (by simp [r.length]) fun h' he => hQ h' s.toks fun b o nb' z => he b o (fun w => nb' (by simp [w])) z
  self := fun A i s Q E st hQ => by obtain ⟨⟨old, q⟩, hit⟩ := st; exact wpAny_pyIter_enum q hQ

theorem EvIt.enum {e : Expr} {p pos : Pos} {elts : List Expr} {n' : Nat} {tp : Pos} {ds : List D} (h : Ev C k sc Γ c e (.list ds) c₁) (hx : sc.names.lookup ("enumerate" : Str) = some NameKind.globalImplicit := by rfl) (he : ∀ env, starEach [e] env = (false, eval e env) :: starEach [] env := by intro _; rfl) :
    EvIt C k sc Γ c (.Call (.Name "enumerate" p) [e] [] pos) (.Tuple elts n' tp) (enumD ds) c₁ := fun A env hid s Q E R O N S hQ =>
  call_named .enumerate hx (EvL.cons h EvL.nil he) (by simp) R O N S fun vs h' tk x b r => by
    cases r with | cons a r => cases r; cases a with
    | @list l ws n _ nh nb e q =>
      refine call_enumerate_list e.isList fun h'' h1 h2 h3 hk => ?_
      refine wpAny_pyIter_enum h1 ?_
      have f1 : h'.get? (h'.objs.size + 1) = none := by
        cases z : h'.get? (h'.objs.size + 1) with
        | none => rfl
        | some o => exact absurd (Heap.lt_size z) (Nat.not_lt.mpr (Nat.le_succ _))
      exact hQ h' (h'.objs.size + 1) [h'.objs.size + 1, h'.objs.size] _ h'' tk x b hk (fun hid' hh => Wk.enum f1 (Nat.le_succ _) (get_size h') (Nat.succ_ne_self _) (nh_hide nh e hh) nb e (q.hide hh)) ⟨⟨_, h1⟩, h2⟩

/-- zip(xs, ys), for a tuple target -/
noncomputable def zipD (xs ys : List D) : List D := List.zipWith (fun a b => D.tup [a, b]) xs ys
theorem zipApart_of (Z l1 l2 : Nat) (h1 : l1 < Z) (h2 : l2 < Z) : ZipApart (Z + 4) (Z + 2) (Z + 3) Z (Z + 1) l1 l2 := by
  constructor <;> (intro q; have q' : @Eq Nat _ _ := q; omega)
structure ZipSt (z TI TO i1 i2 l1 l2 : Addr) (i : Nat) (h : Heap) : Prop where
  zip : IsZip h z TI TO .none
  ti : IsPair h TI (.ref i1) (.ref i2)
  to : ∃ a b, IsPair h TO a b
  it1 : h.IsListIter i1 l1 i
  it2 : h.IsListIter i2 l2 i

theorem Wk.zip {hb : Heap} {elts : List Expr} {tk' : Nat} {tp : Pos} {z TI TO i1 i2 l1 l2 : Addr} {vs us : List Value} {n m : Nat} {ds es : List D} (hf : ∀ b ∈ [z, TI, TO, i1, i2], hb.get? b = none) (hT : hb.objs.size ≤ z) (P : ZipApart z TI TO i1 i2 l1 l2)
    (nh : l1 ∉ hid) (nb : l1 ≠ C.β) (el : IsL hb l1 vs.toArray n) (r : RepAll C.β hid hb vs ds) (nh' : l2 ∉ hid) (nb' : l2 ≠ C.β) (el' : IsL hb l2 us.toArray m) (r' : RepAll C.β hid hb us es) :
    Wk C hid hb (.Tuple elts tk' tp) z (zipD ds es) [z, TI, TO, i1, i2] (fun i h => ZipSt z TI TO i1 i2 l1 l2 i h) where
  fresh := hf
  top := hT
  mem := by simp
  live := fun i h st b hb' => by
    simp at hb'
    rcases hb' with rfl | rfl | rfl | rfl | rfl
    · exact ⟨_, st.zip⟩
    · exact ⟨_, st.ti⟩
    · obtain ⟨a, b, q⟩ := st.to; exact ⟨_, q⟩
    · obtain ⟨o, ho, _⟩ := st.it1; exact ⟨o, ho⟩
    · obtain ⟨o, ho, _⟩ := st.it2; exact ⟨o, ho⟩
  nofr := fun i h st b hb' o w => by
    simp at hb'
    rcases hb' with rfl | rfl | rfl | rfl | rfl
    · have q := st.zip; rw [q] at w; cases w; exact ⟨(fun _ _ q => nomatch q), (fun _ q => nomatch q)⟩
    · have q := st.ti; rw [q] at w; cases w; exact ⟨(fun _ _ q => nomatch q), (fun _ q => nomatch q)⟩
    · obtain ⟨_, _, q⟩ := st.to; rw [q] at w; cases w; exact ⟨(fun _ _ q => nomatch q), (fun _ q => nomatch q)⟩
    · obtain ⟨o', ho, _, hd⟩ := st.it1; rw [ho] at w; cases w; rw [hd]; exact ⟨(fun _ _ q => nomatch q), (fun _ q => nomatch q)⟩
    · obtain ⟨o', ho, _, hd⟩ := st.it2; rw [ho] at w; cases w; rw [hd]; exact ⟨(fun _ _ q => nomatch q), (fun _ q => nomatch q)⟩
  frame := fun i h h' st hk => ⟨hk z (by simp) _ st.zip, hk TI (by simp) _ st.ti, let ⟨a, b, q⟩ := st.to; ⟨a, b, hk TO (by simp) _ q⟩, st.it1.at fun o e => hk i1 (by simp) o e, st.it2.at fun o e => hk i2 (by simp) o e⟩
  item := fun A i d s Q E hh hd st hp hlive hβ hQ => by
    unfold zipD at hd
    rw [List.getElem?_zipWith] at hd
    cases hdi : ds[i]? with
    | none => rw [hdi] at hd; cases hd
    | some d1 =>
      cases hei : es[i]? with
      | none => rw [hdi, hei] at hd; cases hd
      | some d2 =>
        rw [hdi, hei] at hd
        cases hd
        obtain ⟨v, hv, rv⟩ := (r.pres hp).get hdi
        obtain ⟨u, hu, ru⟩ := (r'.pres hp).get hei
        have e1 : IsL s.heap l1 vs.toArray n := hp l1 _ nh nb (dataL _ _) el
        have e2 : IsL s.heap l2 us.toArray m := hp l2 _ nh' nb' (dataL _ _) el'
        obtain ⟨a, b, hTO⟩ := st.to
        refine wpAny_pyNext_zip_item P st.zip st.ti hTO st.it1 st.it2 e1.isList e2.isList (x := v) (y := u) (by simpa using hv) (by simpa using hu) fun h' h1 h2 h3 h4 h5 h6 hk => ⟨_, rfl, ?_⟩
        refine wpAny_letOwnedTupleGo_zip (s := { s with heap := h' }) h1 fun h'' h7 hs => ?_
        have lt : ∀ {c o}, s.heap.get? c = some o → s.heap.objs.size ≠ c := fun e => Nat.ne_of_gt (Heap.lt_size e)
        have old' : ∀ b o, b ≠ z → b ≠ TO → b ≠ i1 → b ≠ i2 → s.heap.get? b = some o → h''.get? b = some o := fun b o n1 n2 n3 n4 w => hs.extBut b o n1 (hk b o n1 n2 n3 n4 w)
        refine hQ _ h'' _ ⟨h7, old' _ _ P.TIz P.TITO P.TIi1 P.TIi2 st.ti, ⟨_, _, hs.extBut _ _ P.TOz h2⟩, h3.extBut hs.extBut P.i1z, h4.extBut hs.extBut P.i2z⟩
          (fun b o nb' w => old' b o (fun w => nb' (by simp [w])) (fun w => nb' (by simp [w])) (fun w => nb' (by simp [w])) (fun w => nb' (by simp [w])) w) ?_
        have hT : IsT h'' s.heap.objs.size #[v, u] 0 := hs.extBut _ _ (lt st.zip) h5
        have hnh : s.heap.objs.size ∉ hid := fun m => hlive _ m rfl
        have hnb : s.heap.objs.size ≠ C.β := fun m => by obtain ⟨o, w⟩ := hβ; rw [← m, get_size] at w; cases w
        -- what is borne by an item was borne before the iterator was made
        have up : ∀ {x : Value} {dx : D} {j : Nat} {ws : List Value} {gs : List D}, RepAll C.β hid hb ws gs → gs[j]? = some dx → ws[j]? = some x → Rep C.β hid h'' x dx := fun {x dx j ws gs} ra hg hw => by
          obtain ⟨x', hx', rx⟩ := ra.get hg
          rw [hw] at hx'; cases hx'
          refine rx.map fun b o nh nb dd w => ⟨?_, nh⟩
          have fr : ∀ y ∈ [z, TI, TO, i1, i2], b ≠ y := fun y hy q => by rw [q, hf y hy] at w; cases w
          exact old' b o (fr _ (by simp)) (fr _ (by simp)) (fr _ (by simp)) (fr _ (by simp)) (hp b o nh nb dd w)
        exact .tup hnh hnb (vs := [v, u]) hT (.cons (up r hdi hv) (.cons (up r' hei hu) .nil))
  done := fun A s Q E hh st hp hQ => by
    have e1 : IsL s.heap l1 vs.toArray n := hp l1 _ nh nb (dataL _ _) el
    have e2 : IsL s.heap l2 us.toArray m := hp l2 _ nh' nb' (dataL _ _) el'
    obtain ⟨a, b, hTO⟩ := st.to
    have hl : (zipD ds es).length = min ds.length es.length := by simp [zipD]
    refine wpAny_pyNext_zip_end hh P st.zip st.ti hTO st.it1 st.it2 e1.isList e2.isList ?_ fun h' he => hQ h' s.toks fun b o nb' w => he b o (fun w => nb' (by simp [w])) (fun w => nb' (by simp [w])) (fun w => nb' (by simp [w])) (fun w => nb' (by simp [w])) w
    rw [hl]
    rcases Nat.le_total ds.length es.length with q | q
    · exact .inl (by simp [r.length, Nat.min_eq_left q])
    · exact .inr (by simp [r'.length, Nat.min_eq_right q])
  self := fun A i s Q E st hQ => wpAny_pyIter_zip st.zip hQ

theorem EvIt.zip {e f : Expr} {p pos : Pos} {elts : List Expr} {n' : Nat} {tp : Pos} {ds es : List D} (h : Ev C k sc Γ c e (.list ds) c₁) (h' : Ev C k sc Γ c₁ f (.list es) c₂) (hx : sc.names.lookup ("zip" : Str) = some NameKind.globalImplicit := by rfl)
    (he : ∀ env, starEach [e, f] env = (false, eval e env) :: starEach [f] env := by intro _; rfl) (hf : ∀ env, starEach [f] env = (false, eval f env) :: starEach [] env := by intro _; rfl) :
    EvIt C k sc Γ c (.Call (.Name "zip" p) [e, f] [] pos) (.Tuple elts n' tp) (zipD ds es) c₂ := fun A env hid s Q E R O N S hQ =>
  call_named .zip hx (EvL.cons h (EvL.cons h' EvL.nil hf) he) (by simp) R O N S fun vs h' tk x b r => by
    cases r with | cons a r => cases r with | cons a' r => cases r; cases a with | @list l1 ws n _ nh nb e q => cases a' with | @list l2 us m _ nh2 nb2 e2 q2 =>
      refine call_zip_2 e.isList e2.isList fun h'' h1 h2 h3 h4 h5 h6 hk => ?_
      refine wpAny_pyIter_zip h1 ?_
      have fz : ∀ j, h'.get? (h'.objs.size + j) = none := fun j => by
        cases z : h'.get? (h'.objs.size + j) with
        | none => rfl
        | some o => exact absurd (Heap.lt_size z) (Nat.not_lt.mpr (Nat.le_add_right _ _))
      have lt1 : l1 < h'.objs.size := Heap.lt_size e
      have lt2 : l2 < h'.objs.size := Heap.lt_size e2
      have key := zipApart_of h'.objs.size l1 l2 lt1 lt2
      generalize hz : h'.objs.size = Z at *
      refine hQ h' (Z + 4) [Z + 4, Z + 2, Z + 3, Z, Z + 1] _ h'' tk x b hk (fun hid' hh => Wk.zip (TI := Z + 2) (TO := Z + 3) (i1 := Z) (i2 := Z + 1) ?_ (by rw [hz]; exact Nat.le_add_right _ _) key (nh_hide nh e hh) nb e (q.hide hh) (nh_hide nh2 e2 hh) nb2 e2 (q2.hide hh)) ⟨h1, h2, ⟨_, _, h3⟩, h4, h5⟩
      · intro b hb
        simp at hb
        rcases hb with rfl | rfl | rfl | rfl | rfl
        · exact fz 4
        · exact fz 2
        · exact fz 3
        · exact fz 0
        · exact fz 1
end
/-! ## What a frame may store -/
noncomputable def okName (x : Str) : Prop := (x == ("__debug__" : Str)) = false ∧ (x == ("__classdict__" : Str)) = false
/-- the frame may store x; own: the addresses that it writes -/
noncomputable def Can (env : Env) (own : List Addr) (h : Heap) (x : Str) : Prop :=
  (env.kindOf x = some .local ∧ env.locals ∈ own ∧ ∃ m, h.Ns env.locals m) ∨
  (env.kindOf x = some .cell ∧ ∃ c, env.cells.lookup x = some c ∧ c ∈ own ∧ ∃ v, h.IsCell c v)
noncomputable def Apart (env : Env) : Prop := ∀ x y c, env.cells.lookup x = some c → env.cells.lookup y = some c → x = y

structure Stored (env : Env) (own : List Addr) (h h' : Heap) : Prop where
  but : But own h h'
  data : ∀ b o, DataObj o → h.get? b = some o → h'.get? b = some o
  live : ∀ b, (∃ o, h.get? b = some o) → ∃ o, h'.get? b = some o
  can : ∀ y, Can env own h y → Can env own h' y
  ns : ∀ a, (∃ m, h.Ns a m) → ∃ m, h'.Ns a m
  nd : ∀ b, (∃ o, h.get? b = some o ∧ ¬ DataObj o) → ∃ o, h'.get? b = some o ∧ ¬ DataObj o

theorem Stored.refl (env : Env) (own : List Addr) (h : Heap) : Stored env own h h := ⟨fun _ _ _ e => e, fun _ _ _ e => e, fun _ e => e, fun _ e => e, fun _ e => e, fun _ e => e⟩
theorem Stored.trans {env : Env} {own : List Addr} {h h' h'' : Heap} (x : Stored env own h h') (y : Stored env own h' h'') : Stored env own h h'' :=
  ⟨fun b o n e => y.but b o n (x.but b o n e), fun b o n e => y.data b o n (x.data b o n e), fun b e => y.live b (x.live b e), fun b e => y.can b (x.can b e), fun a e => y.ns a (x.ns a e), fun b e => y.nd b (x.nd b e)⟩

theorem ns_uniq {h : Heap} {a : Addr} {m m' : Str → Option Value} (x : h.Ns a m) (y : h.Ns a m') : m = m' := by
  obtain ⟨o, es, ep, ho, hd, _, hf⟩ := x
  obtain ⟨o', es', ep', ho', hd', _, hf'⟩ := y
  rw [ho] at ho'; cases ho'
  rw [hd] at hd'; cases hd'
  funext n
  rw [← hf, ← hf']
theorem ns_not_cell {h : Heap} {a : Addr} {m : Str → Option Value} {v : Option Value} (x : h.Ns a m) (y : h.IsCell a v) : False := by
  obtain ⟨o, es, ep, ho, hd, _⟩ := x
  obtain ⟨o', ho', hd'⟩ := y
  rw [ho] at ho'; cases ho'
  rw [hd] at hd'; cases hd'
theorem live_same {a : Addr} {h h' : Heap} {o' : Obj} (hs : Heap.SameBut a h h') (ha : h'.get? a = some o') : ∀ b, (∃ o, h.get? b = some o) → ∃ o, h'.get? b = some o := fun b ⟨o, e⟩ => by
  by_cases q : b = a
  · subst q; exact ⟨_, ha⟩
  · exact ⟨o, hs.extBut b o q e⟩

section
variable {M : Model} {A : Around} {E : Value → Shared → Prop} {s : Shared} {env : Env} {own : List Addr} {x : Str} {v : Value}

theorem store_wp {Q : Unit → Shared → Prop} (hk : env.scope.kind = .function) (ok : okName x) (cn : Can env own s.heap x) (ap : Apart env)
    (hQ : ∀ h' tk, Stored env own s.heap h' → Holds env h' x v → (∀ y u, y ≠ x → Holds env s.heap y u → Holds env h' y u) → Q () { s with heap := h', toks := tk }) :
    wpAny M A (storeName env x v) Q E s := by
  rcases cn with ⟨hl, hown, m, hn⟩ | ⟨hc, c, hlk, hown, w, hcell⟩
  · refine wpAny_storeName_local hl hn (fun h' hn' hs => hQ h' _ ⟨?_, ?_, ?_, ?_, ?_, ?_⟩ ⟨ok, .inl ⟨hl, _, hn', by simp⟩⟩ ?_) (by rw [hk]; rfl)
    · exact fun b o nb e => hs.extBut b o (fun q => nb (q ▸ hown)) e
    · intro b o dd e
      refine hs.extBut b o ?_ e
      rintro rfl
      obtain ⟨o', es, ep, ho, hd, _⟩ := hn
      rw [ho] at e; cases e
      exact dd.2.1 _ _ hd
    · obtain ⟨o', es, ep, ho, hd, _⟩ := hn'
      exact live_same hs ho
    · intro y cy
      rcases cy with ⟨a1, a2, m', a3⟩ | ⟨a1, c', a2, a3, w', a4⟩
      · exact .inl ⟨a1, a2, _, hn'⟩
      · exact .inr ⟨a1, c', a2, a3, w', a4.sameBut hs fun q => ns_not_cell hn (q ▸ a4)⟩
    · intro a ⟨m', hm'⟩
      by_cases q : a = env.locals
      · subst q; exact ⟨_, hn'⟩
      · exact ⟨m', hm'.sameBut hs q⟩
    · intro b ⟨o, e, nd⟩
      by_cases q : b = env.locals
      · subst q
        obtain ⟨o', es, ep, ho, hd, _⟩ := hn'
        exact ⟨o', ho, fun dd => dd.2.1 _ _ hd⟩
      · exact ⟨o, hs.extBut b o q e, nd⟩
    · intro y u hy hold
      refine ⟨hold.plain, ?_⟩
      rcases hold.is with ⟨a1, m', a2, a3⟩ | ⟨a1, c', a2, a3⟩
      · exact .inl ⟨a1, _, hn', by rw [if_neg hy, ns_uniq hn a2]; exact a3⟩
      · exact .inr ⟨a1, c', a2, a3.sameBut hs fun q => ns_not_cell hn (q ▸ a3)⟩
  · refine wpAny_storeName_cell hk hc hlk hcell fun h' hc' hs => hQ h' s.toks ⟨?_, ?_, ?_, ?_, ?_, ?_⟩ ⟨ok, .inr ⟨.inl hc, c, hlk, hc'⟩⟩ ?_
    · exact fun b o nb e => hs.extBut b o (fun q => nb (q ▸ hown)) e
    · intro b o dd e
      refine hs.extBut b o ?_ e
      rintro rfl
      obtain ⟨o', ho, hd⟩ := hcell
      rw [ho] at e; cases e
      exact dd.2.2 _ hd
    · obtain ⟨o', ho, hd⟩ := hc'
      exact live_same hs ho
    · intro y cy
      rcases cy with ⟨a1, a2, m', a3⟩ | ⟨a1, c', a2, a3, w', a4⟩
      · exact .inl ⟨a1, a2, m', a3.sameBut hs fun q => ns_not_cell a3 (q ▸ hcell)⟩
      · by_cases q : c' = c
        · subst q; exact .inr ⟨a1, c', a2, a3, _, hc'⟩
        · exact .inr ⟨a1, c', a2, a3, w', a4.sameBut hs q⟩
    · intro a ⟨m', hm'⟩
      exact ⟨m', hm'.sameBut hs fun q => ns_not_cell hm' (q ▸ hcell)⟩
    · intro b ⟨o, e, nd⟩
      by_cases q : b = c
      · subst q
        obtain ⟨o', ho, hd⟩ := hc'
        exact ⟨o', ho, fun dd => dd.2.2 _ hd⟩
      · exact ⟨o, hs.extBut b o q e, nd⟩
    · intro y u hy hold
      refine ⟨hold.plain, ?_⟩
      rcases hold.is with ⟨a1, m', a2, a3⟩ | ⟨a1, c', a2, a3⟩
      · exact .inl ⟨a1, m', a2.sameBut hs fun q => ns_not_cell a2 (q ▸ hcell), a3⟩
      · exact .inr ⟨a1, c', a2, a3.sameBut hs fun q => hy (ap y x c (q ▸ a2) hlk)⟩

/-- names stored in a row, from the first to the last -/
theorem stores_wp (hk : env.scope.kind = .function) (ap : Apart env) (f : Str × Pos → Value → Sem Unit)
    (hf : ∀ (x : Str × Pos) (v : Value) (Q : Unit → Shared → Prop) (s : Shared), wpAny M A (storeName env x.1 v) Q E s → wpAny M A (f x v) Q E s) :
    ∀ (xs : List (Str × Pos)) (vs : List Value) (s : Shared) (Q : Unit → Shared → Prop), xs.length = vs.length → (xs.map (·.1)).Nodup → (∀ x ∈ xs, okName x.1 ∧ Can env own s.heap x.1) →
      (∀ h' tk, Stored env own s.heap h' → (∀ p ∈ (xs.map (·.1)).zip vs, Holds env h' p.1 p.2) → (∀ y u, y ∉ xs.map (·.1) → Holds env s.heap y u → Holds env h' y u) → Q () { s with heap := h', toks := tk }) →
      wpAny M A (assignInOrder (xs.map f) vs) Q E s
  | [], [], s, Q, _, _, _, hQ => wpAny_pure (hQ s.heap s.toks (.refl _ _ _) (fun _ q => (nomatch q)) fun _ _ _ e => e)
  | [], _ :: _, _, _, hl, _, _, _ => by cases hl
  | _ :: _, [], _, _, hl, _, _, _ => by cases hl
  | x :: xs, v :: vs, s, Q, hl, hnd, hc, hQ => by
    have hnd' := List.nodup_cons.mp hnd
    show wpAny M A (do holding vs (f x v); assignInOrder (xs.map f) vs) Q E s
    refine wpAny_bind (wpAny_holding (hf x v _ s (store_wp hk (hc x List.mem_cons_self).1 (hc x List.mem_cons_self).2 ap fun h' tk st hx hold => ?_)))
    refine stores_wp hk ap f hf xs vs _ Q (by simpa using hl) hnd'.2 (fun y hy => ⟨(hc y (List.mem_cons_of_mem _ hy)).1, st.can _ (hc y (List.mem_cons_of_mem _ hy)).2⟩) fun h'' tk' st' hx' hold' => ?_
    refine hQ h'' tk' (st.trans st') (fun p hp => ?_) fun y u hy hu => ?_
    · rcases List.mem_cons.mp hp with rfl | hp
      · exact hold' _ _ hnd'.1 hx
      · exact hx' p hp
    · have hy' : y ≠ x.1 ∧ y ∉ xs.map (·.1) := ⟨fun q => hy (by simp [q]), fun q => hy (by rw [List.map_cons]; exact List.mem_cons_of_mem _ q)⟩
      exact hold' y u hy'.2 (hold y u hy'.1 hu)
end

/-! ## Targets -/
/-- a target, and the names that it stores -/
inductive Tg : Expr → List (Str × Pos) → Prop
  | name (x : Str) (p : Pos) : Tg (.Name x p) [(x, p)]
  | tup (x : Str × Pos) (xs : List (Str × Pos)) (es : List Expr) (k : Nat) (p : Pos) : es = (x :: xs).map (fun x => .Name x.1 x.2) → Tg (.Tuple es k p) (x :: xs)

/-- what of d each name of the target gets -/
noncomputable def tgD : Expr → D → List D
  | .Name _ _, d => [d]
  | _, .tup ds => ds
  | _, _ => []

theorem assignEach_names (env : Env) : ∀ xs : List (Str × Pos), (assignEach (xs.map fun x => Expr.Name x.1 x.2) env) = xs.map fun x => (false, assign (.Name x.1 x.2) env)
  | [] => rfl
  | x :: xs => by rw [List.map_cons, List.map_cons, ← assignEach_names env xs]; rfl

section
variable {C : Cx} {A : Around} {E : Value → Shared → Prop} {s : Shared} {env : Env} {own : List Addr} {hid : List Addr}

theorem Can.keeps {h h' : Heap} {y : Str} (cy : Can env own h y) (keep : ∀ b o, h.get? b = some o → h'.get? b = some o) : Can env own h' y := by
  rcases cy with ⟨a1, a2, m', a3⟩ | ⟨a1, c', a2, a3, w', a4⟩
  · exact .inl ⟨a1, a2, m', a3.keeps keep⟩
  · exact .inr ⟨a1, c', a2, a3, w', a4.keeps keep⟩
theorem Holds.keeps {h h' : Heap} {y : Str} {u : Value} (hu : Holds env h y u) (keep : ∀ b o, h.get? b = some o → h'.get? b = some o) : Holds env h' y u := by
  refine ⟨hu.plain, ?_⟩
  rcases hu.is with ⟨a1, m', a2, a3⟩ | ⟨a1, c', a2, a3⟩
  · exact .inl ⟨a1, m', a2.keeps keep, a3⟩
  · exact .inr ⟨a1, c', a2, a3.keeps keep⟩

/-- a tuple's items stored one behind the other -/
theorem unpack_wp {a : Addr} {vs : List Value} {n : Nat} {xs : List (Str × Pos)} {Q : Unit → Shared → Prop} (hh : A.handled = none) (hk : env.scope.kind = .function) (ap : Apart env) (hnd : (xs.map (·.1)).Nodup)
    (hc : ∀ x ∈ xs, okName x.1 ∧ Can env own s.heap x.1) (e : IsT s.heap a vs.toArray n) (hlen : vs.length = xs.length)
    (hQ : ∀ h' tk, Stored env own s.heap h' → (∀ p ∈ (xs.map (·.1)).zip vs, Holds env h' p.1 p.2) → (∀ y u, y ∉ xs.map (·.1) → Holds env s.heap y u → Holds env h' y u) → Q () { s with heap := h', toks := tk }) :
    wpAny (model C.prog C.w) A (unpack (.ref a) (xs.map fun x => (false, assign (.Name x.1 x.2) env))) Q E s := by
  unfold unpack
  have hlen2 : (xs.map fun x => ((false, assign (Expr.Name x.1 x.2) env) : Bool × (Value → Sem Unit))).length = vs.toArray.size := by simp [hlen]
  have hfind : (xs.map fun x => ((false, assign (Expr.Name x.1 x.2) env) : Bool × (Value → Sem Unit))).findIdx? (·.1) = none := by
    rw [List.findIdx?_eq_none_iff]; intro y hy; obtain ⟨z, _, rfl⟩ := List.mem_map.mp hy; rfl
  rw [hlen2, hfind]
  refine wpAny_bind (wpAny_holding (unpackItems_tuple hh ⟨_, e, rfl, _, rfl⟩ fun h' he => ?_))
  have keep : ∀ b o, s.heap.get? b = some o → h'.get? b = some o := fun b o z => he b o (fun w => by rw [w, get_size] at z; cases z) z
  have hmap : (xs.map fun x => ((false, assign (Expr.Name x.1 x.2) env) : Bool × (Value → Sem Unit))).map (·.2) = xs.map fun x => assign (Expr.Name x.1 x.2) env := by simp
  rw [hmap]
  refine stores_wp hk ap (fun x v => assign (Expr.Name x.1 x.2) env v) (fun x v Q s hs => wpAny_assign_Name hs) xs vs _ Q hlen.symm hnd (fun x hx => ⟨(hc x hx).1, (hc x hx).2.keeps keep⟩) fun h'' tk st hx hold => ?_
  refine hQ h'' tk ?_ hx fun y u hy hu => hold y u hy (hu.keeps keep)
  exact ⟨fun b o nb z => st.but b o nb (keep b o z), fun b o dd z => st.data b o dd (keep b o z), fun b ⟨o, z⟩ => st.live b ⟨o, keep b o z⟩, fun y cy => st.can y (cy.keeps keep), fun a ⟨m, hm⟩ => st.ns a ⟨m, hm.keeps keep⟩, fun b ⟨o, z, nd⟩ => st.nd b ⟨o, keep b o z, nd⟩⟩

theorem assign_wp {t : Expr} {xs : List (Str × Pos)} {v : Value} {d : D} {Q : Unit → Shared → Prop} (hh : A.handled = none) (tg : Tg t xs) (hk : env.scope.kind = .function) (ap : Apart env) (hnd : (xs.map (·.1)).Nodup)
    (hc : ∀ x ∈ xs, okName x.1 ∧ Can env own s.heap x.1) (hlen : (tgD t d).length = xs.length) (r : Rep C.β hid s.heap v d)
    (hQ : ∀ vs h' tk, Stored env own s.heap h' → RepAll C.β hid s.heap vs (tgD t d) → (∀ p ∈ (xs.map (·.1)).zip vs, Holds env h' p.1 p.2) → (∀ y u, y ∉ xs.map (·.1) → Holds env s.heap y u → Holds env h' y u) → Q () { s with heap := h', toks := tk }) :
    wpAny (model C.prog C.w) A (assign t env v) Q E s := by
  cases tg with
  | name x p =>
    refine wpAny_assign_Name (store_wp hk (hc (x, p) (by simp)).1 (hc (x, p) (by simp)).2 ap fun h' tk st hx hold => ?_)
    exact hQ [v] h' tk st (.one r) (fun q hq => by simp at hq; subst hq; exact hx) fun y u hy hu => hold y u (fun q => hy (by simp [q])) hu
  | tup x xs es k p he =>
    cases r with
    | @tup a vs n ds nh nb e q =>
      have hl : ds.length = (x :: xs).length := hlen
      rw [arm_assign_Tuple]
      refine wpAny_bind (wpAny_standAt ?_)
      rw [he, assignEach_names]
      exact unpack_wp hh hk ap hnd hc e (by rw [q.length, hl]) fun h' tk st hx hold => hQ vs h' tk st q hx hold
    | _ => cases hlen
end
/-! ## The turn of a comprehension -/
/-- all tests of a clause -/
noncomputable def EvIfs (C : Cx) (k : Nat) (sc : Scope) (Γ : List (Str × D)) (c : Int) (ifs : List Expr) (b : Bool) (c' : Int) : Prop :=
  ∀ (A : Around) (env : Env) (hid : List Addr) (s : Shared) (Q : Bool → Shared → Prop) (E : Value → Shared → Prop),
    Room A k → EnvOK env sc → Now C hid s.heap c → Sees C env hid s.heap Γ →
    (∀ h' tk, Ext C.β s.heap h' → Bx C h' c' → Q b { s with heap := h', toks := tk }) →
    wpAny (model C.prog C.w) A (forIn ifs true fun c r => if r = true then do let ok ← isTrue c env (eval c env); pure (ForInStep.yield ok) else pure (ForInStep.yield r)) Q E s

theorem EvIfs.nil {C : Cx} {k : Nat} {sc : Scope} {Γ : List (Str × D)} {c : Int} : EvIfs C k sc Γ c [] true c := fun A env hid s Q E R O N S hQ => by
  rw [List.forIn_nil]; exact wpAny_pure (hQ s.heap s.toks (.refl _ _) N.box)
theorem EvIfs.one {C : Cx} {k : Nat} {sc : Scope} {Γ : List (Str × D)} {c c₁ : Int} {e : Expr} {b : Bool} (h : EvT C k sc Γ c e b c₁) : EvIfs C k sc Γ c [e] b c₁ := fun A env hid s Q E R O N S hQ => by
  rw [List.forIn_cons]
  simp only [if_true]
  refine wpAny_bind (wpAny_bind (h A env hid s _ E R O N S fun h' tk x bx => wpAny_pure ?_))
  simp only [List.forIn_nil]
  exact wpAny_pure (hQ h' tk x bx)

/-- where a comprehension stands: D is the list that it fills, out what stands in it -/
structure CS (C : Cx) (hid : List Addr) (ce : Env) (own : List Addr) (D : Addr) (names : List (Str × Pos)) (Γc : List (Str × Mine.D)) (h : Heap) (c : Int) (out : List Mine.D) : Prop where
  now : Now C (D :: hid) h c
  acc : ∃ vs n, IsL h D vs.toArray n ∧ RepAll C.β (D :: hid) h vs out
  cap : Sees C ce (D :: hid) h Γc
  can : ∀ x ∈ names, okName x.1 ∧ Can ce own h x.1
  Dβ : D ≠ C.β
  loc : ∃ m, h.Ns ce.locals m

/-- all stands but what own writes, the list and the box -/
noncomputable def Stp (C : Cx) (own : List Addr) (D : Addr) (h h' : Heap) : Prop := ∀ b o, b ∉ own → b ≠ D → b ≠ C.β → h.get? b = some o → h'.get? b = some o

/-- what is done with an item that passes the tests -/
noncomputable def Emit (C : Cx) (k : Nat) (sc : Scope) (ce : Env) (hid own : List Addr) (D : Addr) (names : List (Str × Pos)) (Γc : List (Str × Mine.D)) (X : Sem Unit) (Γt : List (Str × Mine.D)) (c : Int) (out : List Mine.D) (c' : Int) : Prop :=
  ∀ (A : Around) (s : Shared) (Q : Unit → Shared → Prop) (E : Value → Shared → Prop) (out₀ : List Mine.D),
    Room A k → CS C hid ce own D names Γc s.heap c out₀ → Sees C ce (D :: hid) s.heap Γt → out₀.length + out.length ≤ 1000000 →
    (∀ h' tk, Stp C own D s.heap h' → CS C hid ce own D names Γc h' c' (out₀ ++ out) → Q () { s with heap := h', toks := tk }) →
    wpAny (model C.prog C.w) A X Q E s

/-- the turns along the items -/
inductive CR (body : D → Int → List D → Int → Prop) : List D → Int → List D → Int → Prop
  | nil (c : Int) : CR body [] c [] c
  | cons {d : D} {ds : List D} {c c₁ c₂ : Int} {out outs : List D} : body d c out c₁ → CR body ds c₁ outs c₂ → CR body (d :: ds) c (out ++ outs) c₂

noncomputable def tgΓ (xs : List (Str × Pos)) (t : Expr) (d : D) : List (Str × D) := (xs.map (·.1)).zip (tgD t d)

/-- an address that is none of the fixed ones -/
structure Off (C : Cx) (b : Addr) : Prop where
  β : b ≠ C.β
  α : b ≠ C.α
  base : C.h₀.get? b = none

theorem Now.off {C : Cx} {hid : List Addr} {h : Heap} {c : Int} (n : Now C hid h c) {b : Addr} (e : h.get? b = none) : Off C b :=
  ⟨(n.fresh e).2.1, (n.fresh e).2.2, by
    cases q : C.h₀.get? b with
    | none => rfl
    | some o => rw [n.base b o q] at e; cases e⟩
/-- a change of addresses that are none of the fixed ones -/
theorem Now.but' {C : Cx} {hid : List Addr} {h h' : Heap} {c : Int} {wr : List Addr} (n : Now C hid h c) (hw : ∀ b ∈ wr, Off C b) (x : But wr h h') (hh : ∀ a ∈ hid, a ∉ wr ∨ ∃ o, h'.get? a = some o) : Now C hid h' c where
  ok := n.ok
  base := fun b o e => x b o (fun m => by have z := (hw b m).base; rw [z] at e; cases e) (n.base b o e)
  box := n.box.keep fun o e => x _ _ (fun m => (hw _ m).β rfl) e
  first := let ⟨vs, m, q, i⟩ := n.first; ⟨vs, m, x _ _ (fun z => (hw _ z).α rfl) q, i⟩
  αβ := n.αβ
  αh := n.αh
  live := fun a m => (hh a m).elim (fun q => let ⟨o, z⟩ := n.live a m; ⟨o, x a o q z⟩) id

noncomputable def TurnN (C : Cx) (k : Nat) (sc : Scope) (ce : Env) (hid own : List Addr) (D : Addr) (tn names : List (Str × Pos)) (Γc : List (Str × Mine.D)) (t : Expr) (ifs : List Expr) (X : Sem Unit) (d : Mine.D) (c : Int) (out : List Mine.D) (c' : Int) : Prop :=
  (tgD t d).length = tn.length ∧ ∃ b c₁, EvIfs C k sc (tgΓ tn t d ++ Γc) c ifs b c₁ ∧ (b = true → Emit C k sc ce hid own D names Γc X (tgΓ tn t d ++ Γc) c₁ out c') ∧ (b = false → out = [] ∧ c' = c₁)
structure FixN (C : Cx) (hid own wr : List Addr) (D : Addr) : Prop where
  offO : ∀ b ∈ own, Off C b
  offW : ∀ b ∈ wr, Off C b
  ow : ∀ b ∈ own, b ∉ wr
  Dw : D ∉ wr
  Do : D ∉ own
  hw : ∀ a ∈ D :: hid, a ∉ wr

section
variable {C : Cx} {k : Nat} {sc : Scope} {c c' : Int} {hid own : List Addr} {ce : Env} {D : Addr} {names : List (Str × Pos)} {Γc : List (Str × Mine.D)}

/-- one turn's body upon the item d -/
noncomputable def Turn (C : Cx) (k : Nat) (sc : Scope) (ce : Env) (hid own : List Addr) (D : Addr) (names : List (Str × Pos)) (Γc : List (Str × Mine.D)) (t : Expr) (ifs : List Expr) (X : Sem Unit) (d : Mine.D) (c : Int) (out : List Mine.D) (c' : Int) : Prop := TurnN C k sc ce hid own D names names Γc t ifs X d c out c'

theorem Now.some_in (n : Now C hid h c) : (∃ o, h.get? C.β = some o) ∧ ∃ o, h.get? C.α = some o :=
  ⟨let ⟨t, m, q⟩ := n.box; ⟨_, q⟩, let ⟨vs, m, q, _⟩ := n.first; ⟨_, q⟩⟩

/-- a change of addresses that are new against hb -/
theorem Now.but {hb h h' : Heap} {wr hid₀ : List Addr} {c₀ : Int} (n : Now C hid h c) (nb : Now C hid₀ hb c₀) (hw : ∀ b ∈ wr, hb.get? b = none) (x : But wr h h') (hh : ∀ a ∈ hid, a ∉ wr ∨ ∃ o, h'.get? a = some o) : Now C hid h' c where
  ok := n.ok
  base := fun b o e => x b o (fun m => by have z := hw b m; rw [nb.base b o e] at z; cases z) (n.base b o e)
  box := n.box.keep fun o e => x _ _ (fun m => by obtain ⟨o', q⟩ := nb.some_in.1; rw [hw _ m] at q; cases q) e
  first := let ⟨vs, m, q, i⟩ := n.first; ⟨vs, m, x _ _ (fun z => by obtain ⟨o', q⟩ := nb.some_in.2; rw [hw _ z] at q; cases q) q, i⟩
  αβ := n.αβ
  αh := n.αh
  live := fun a m => (hh a m).elim (fun q => let ⟨o, z⟩ := n.live a m; ⟨o, x a o q z⟩) id

theorem Sees.but {env : Env} {h h' : Heap} {wr : List Addr} {Γ : List (Str × Mine.D)} (q : Sees C env hid h Γ) (x : But wr h h') (fr : ∀ b ∈ wr, ∀ o, h.get? b = some o → (∀ es n, o.data ≠ .dict es n) ∧ ∀ v, o.data ≠ .cell v)
    (hd : ∀ b o, b ∉ hid → b ≠ C.β → DataObj o → h.get? b = some o → h'.get? b = some o) : Sees C env hid h' Γ := fun y d m => by
  obtain ⟨v, a, r⟩ := q y d m
  refine ⟨v, ⟨a.plain, ?_⟩, r.map fun b o nh nb dd e => ⟨hd b o nh nb dd e, nh⟩⟩
  rcases a.is with ⟨a1, mm, a2, a3⟩ | ⟨a1, cc, a2, a3⟩
  · obtain ⟨o, es, ep, ho, hdd, rest⟩ := a2
    exact .inl ⟨a1, mm, ⟨o, es, ep, x _ _ (fun z => (fr _ z _ ho).1 _ _ hdd) ho, hdd, rest⟩, a3⟩
  · obtain ⟨o, ho, hdd⟩ := a3
    exact .inr ⟨a1, cc, a2, o, x _ _ (fun z => (fr _ z _ ho).2 _ hdd) ho, hdd⟩
theorem Can.but {env : Env} {h h' : Heap} {wr : List Addr} {y : Str} (q : Can env own h y) (x : But wr h h') (fr : ∀ b ∈ wr, ∀ o, h.get? b = some o → (∀ es n, o.data ≠ .dict es n) ∧ ∀ v, o.data ≠ .cell v) : Can env own h' y := by
  rcases q with ⟨a1, a2, mm, a3⟩ | ⟨a1, cc, a2, a3, w, a4⟩
  · obtain ⟨o, es, ep, ho, hdd, rest⟩ := a3
    exact .inl ⟨a1, a2, mm, o, es, ep, x _ _ (fun z => (fr _ z _ ho).1 _ _ hdd) ho, hdd, rest⟩
  · obtain ⟨o, ho, hdd⟩ := a4
    exact .inr ⟨a1, cc, a2, a3, w, o, x _ _ (fun z => (fr _ z _ ho).2 _ hdd) ho, hdd⟩

/-- what is fixed while a comprehension runs: hb, the heap ahead of its iterator -/
structure Fix (C : Cx) (hid own wr : List Addr) (D : Addr) (hb : Heap) : Prop where
  nb : ∃ c, Now C hid hb c
  fo : ∀ b ∈ own, hb.get? b = none
  fw : ∀ b ∈ wr, hb.get? b = none
  fD : hb.get? D = none
  ow : ∀ b ∈ own, b ∉ wr
  Dw : D ∉ wr
  Do : D ∉ own

theorem Can.ext {env : Env} {h h' : Heap} {y : Str} (q : Can env own h y) (n : Now C hid h c) (x : Ext C.β h h') : Can env own h' y := by
  rcases q with ⟨a1, a2, mm, a3⟩ | ⟨a1, cc, a2, a3, w, a4⟩
  · obtain ⟨o, es, ep, ho, hdd, rest⟩ := a3
    exact .inl ⟨a1, a2, mm, o, es, ep, x.keep _ _ (n.bβ ho (by rw [hdd]; intro _ _ q; cases q)) ho, hdd, rest⟩
  · obtain ⟨o, ho, hdd⟩ := a4
    exact .inr ⟨a1, cc, a2, a3, w, o, x.keep _ _ (n.bβ ho (by rw [hdd]; intro _ _ q; cases q)) ho, hdd⟩
theorem ns_ext {h h' : Heap} {a : Addr} {m : Str → Option Value} (q : h.Ns a m) (n : Now C hid h c) (x : Ext C.β h h') : h'.Ns a m := by
  obtain ⟨o, es, ep, ho, hdd, rest⟩ := q
  exact ⟨o, es, ep, x.keep _ _ (n.bβ ho (by rw [hdd]; intro _ _ q; cases q)) ho, hdd, rest⟩
theorem ns_but {h h' : Heap} {wr : List Addr} {a : Addr} (q : ∃ m, h.Ns a m) (x : But wr h h') (fr : ∀ b ∈ wr, ∀ o, h.get? b = some o → (∀ es n, o.data ≠ .dict es n) ∧ ∀ v, o.data ≠ .cell v) : ∃ m, h'.Ns a m := by
  obtain ⟨m, o, es, ep, ho, hdd, rest⟩ := q
  exact ⟨m, o, es, ep, x _ _ (fun z => (fr _ z _ ho).1 _ _ hdd) ho, hdd, rest⟩
theorem CS.ext {h h' : Heap} {out : List Mine.D} (cs : CS C hid ce own D names Γc h c out) (x : Ext C.β h h') (b : Bx C h' c') : CS C hid ce own D names Γc h' c' out where
  now := cs.now.ext x b
  acc := let ⟨vs, n, hl, r⟩ := cs.acc; ⟨vs, n, x.keep _ _ cs.Dβ hl, r.ext x⟩
  cap := cs.cap.ext cs.now x
  can := fun y hy => ⟨(cs.can y hy).1, (cs.can y hy).2.ext cs.now x⟩
  Dβ := cs.Dβ
  loc := cs.loc.elim fun m hm => ⟨m, ns_ext hm cs.now x⟩
theorem not_wr {hb : Heap} {wr : List Addr} {c₀ : Int} (nb : Now C hid hb c₀) (hw : ∀ b ∈ wr, hb.get? b = none) (hD : D ∉ wr) : ∀ a ∈ D :: hid, a ∉ wr := fun a m z => by
  rcases List.mem_cons.mp m with rfl | m
  · exact hD z
  · obtain ⟨o, e⟩ := nb.live a m; rw [hw a z] at e; cases e

/-- what a turn does with the item v -/
noncomputable def turnTail (t : Expr) (ce : Env) (ifs : List Expr) (X : Sem Unit) (c₀ : Code) (v : Value) : Sem Fin := do
  assign t ce v
  let ok ← (forIn ifs true fun c r => if r = true then do let ok ← isTrue c ce (eval c ce); pure (ForInStep.yield ok) else pure (ForInStep.yield r))
  if ok = true then do X; again c₀ else again c₀
noncomputable def turnAll (q : Pos) (t : Expr) (I : Addr) (ce : Env) (ifs : List Expr) (X : Sem Unit) (c₀ : Code) : Sem Fin := do
  standAt q
  match ← pyNext (.ref I) with
  | none => pure (.done .next)
  | some v =>
    letOwnedTupleGo t (.ref I) v
    turnTail t ce ifs X c₀ v

theorem Wk.pull {hb : Heap} {t : Expr} {I : Addr} {items : List Mine.D} {wr hid : List Addr} {S : Nat → Heap → Prop} (W : Wk C hid hb t I items wr S) {A : Around} {i : Nat} {d : Mine.D} {s : Shared} {α : Type} {stop : Sem α} (tail : Value → Sem α) {P : α → Shared → Prop} {E : Value → Shared → Prop}
    (hh : A.handled = none) (hd : items[i]? = some d) (hS : S i s.heap) (hp : Pres C hid hb s.heap) (hl : ∀ b ∈ hid, b ≠ s.heap.objs.size) (hβ : ∃ o, s.heap.get? C.β = some o)
    (h : ∀ v h' tk, S (i + 1) h' → But wr s.heap h' → Rep C.β hid h' v d → wpAny (model C.prog C.w) A (tail v) P E { s with heap := h', toks := tk }) :
    wpAny (model C.prog C.w) A (pyNext (.ref I)) (fun r s' => wpAny (model C.prog C.w) A (match r with
      | none => stop
      | some v => do letOwnedTupleGo t (.ref I) v; tail v) P E s') E s :=
  wpAny_mono (W.item A i d s (fun v s'' => wpAny (model C.prog C.w) A (tail v) P E s'') E hh hd hS hp hl hβ h) (fun r s' ⟨v, hv, hr⟩ => by subst hv; exact wpAny_bind hr) fun _ _ z => z

theorem comp_loopN {e : Expr} {depth : Nat} {t : Expr} {ifs : List Expr} {I : Addr} {items outs : List Mine.D} {wr : List Addr} {S : Nat → Heap → Prop} {hw : Heap} {X : Sem Unit} {q : Pos} {A : Around} {R : Result → Shared → Prop} {tn : List (Str × Pos)} (hsub : ∀ x ∈ tn, x ∈ names)
    (hturn : compTurn e depth (.ref I) (.ref D) ce = turnAll q t I ce ifs X (.compLoop e depth (.ref I) (.ref D) ce))
    (hq : (Code.compLoop e depth (.ref I) (.ref D) ce).quiet = true) (hu : ∀ A : Around, A.under (Code.compLoop e depth (.ref I) (.ref D) ce) = A)
    (hden : denote table (.compLoop e depth (.ref I) (.ref D) ce) = (compTurn e depth (.ref I) (.ref D) ce).onRaise (fun x => do noteFrame x ce; theTreesLotGoes x))
    (tg : Tg t tn) (hnd : (tn.map (·.1)).Nodup) (hcap : ∀ p ∈ Γc, p.1 ∉ tn.map (·.1)) (Rm : Room A k) (O : EnvOK ce sc) (ap : Apart ce) (F : FixN C hid own wr D)
    (W : Wk C (D :: (wr ++ hid)) hw t I items wr S) (hbody : CR (TurnN C k sc ce (wr ++ hid) own D tn names Γc t ifs X) items c outs c')
    {s : Shared} {out₀ : List Mine.D} (hz : out₀.length + outs.length ≤ 1000000) (hS : S 0 s.heap) (hcs : CS C (wr ++ hid) ce own D names Γc s.heap c out₀)
    (hpres : ∀ h, (∀ b o, b ∉ own → b ∉ wr → b ≠ D → b ≠ C.β → s.heap.get? b = some o → h.get? b = some o) → Pres C (D :: (wr ++ hid)) hw h)
    (hR : ∀ h' tk, (∀ b o, b ∉ own → b ∉ wr → b ≠ D → b ≠ C.β → s.heap.get? b = some o → h'.get? b = some o) → CS C hid ce own D names Γc h' c' (out₀ ++ outs) → R (.ok .next) { s with heap := h', toks := tk }) :
    codeAny (model C.prog C.w) A (.compLoop e depth (.ref I) (.ref D) ce) R s := by
  have hk : ce.scope.kind = .function := by rw [O.is]; exact O.kind
  refine codeAny_loop hq (fun n s' => ∃ (i : Nat) (rest outd outs' : List Mine.D) (ci : Int) (h : Heap) (tk : Nat), s' = { s with heap := h, toks := tk } ∧ n = rest.length ∧ items.drop i = rest ∧ i ≤ items.length ∧ outs = outd ++ outs' ∧
      S i h ∧ CS C (wr ++ hid) ce own D names Γc h ci (out₀ ++ outd) ∧ CR (TurnN C k sc ce (wr ++ hid) own D tn names Γc t ifs X) rest ci outs' c' ∧
      (∀ b o, b ∉ own → b ∉ wr → b ≠ D → b ≠ C.β → s.heap.get? b = some o → h.get? b = some o)) ?_ items.length
    ⟨0, items, [], outs, c, s.heap, s.toks, rfl, rfl, rfl, Nat.zero_le _, rfl, hS, by simpa using hcs, hbody, fun _ _ _ _ _ _ e => e⟩
  rintro n s' ⟨i, rest, outd, outs', ci, h, tk, rfl, rfl, hrest, hile, rfl, hSi, cs, hCR, keep⟩
  rw [hu]
  show wpAny _ A (denote table (.compLoop e depth (.ref I) (.ref D) ce)) _ _ _
  rw [hden]
  refine wpAny_noted ?_
  rw [hturn]
  refine wpAny_bind (wpAny_standAt (wpAny_bind ?_))
  have pres : Pres C (D :: (wr ++ hid)) hw h := hpres h keep
  have wrβ : C.β ∉ wr := fun m => (F.offW _ m).β rfl
  have hidwr := F.hw
  cases hCR with
  | nil _ =>
    have hi : i = items.length := by
      rcases Nat.lt_or_ge i items.length with z | z
      · have := List.length_drop (i := i) (l := items); rw [hrest] at this; simp at this; omega
      · omega
    subst hi
    refine W.done A _ _ _ Rm.handled hSi pres fun h' tk' x => ?_
    refine wpAny_pure (hR h' tk' (fun b o n1 n2 n3 n4 z => x b o n2 (keep b o n1 n2 n3 n4 z)) ?_)
    rw [List.append_nil]
    have sub : ∀ a ∈ D :: hid, a ∈ D :: (wr ++ hid) := fun a m => by
      rcases List.mem_cons.mp m with rfl | m
      · exact List.mem_cons_self
      · exact List.mem_cons_of_mem _ (List.mem_append_right _ m)
    have up : ∀ b o, b ∉ D :: (wr ++ hid) → b ≠ C.β → DataObj o → h.get? b = some o → h'.get? b = some o ∧ b ∉ D :: hid := fun b o nh _ _ z =>
      ⟨x b o (fun m => nh (List.mem_cons_of_mem _ (List.mem_append_left _ m))) z, fun m => nh (sub b m)⟩
    refine ⟨(cs.now.sub sub).but' F.offW x (fun a m => .inl (hidwr a m)), ?_, fun y d m => ?_, fun y hy => ⟨(cs.can y hy).1, (cs.can y hy).2.but x (W.nofr _ _ hSi)⟩, cs.Dβ, ns_but cs.loc x (W.nofr _ _ hSi)⟩
    · obtain ⟨vs, n, hl, r⟩ := cs.acc
      exact ⟨vs, n, x _ _ F.Dw hl, r.map up⟩
    · obtain ⟨v, a, r⟩ := (cs.cap.but (hid := D :: (wr ++ hid)) x (W.nofr _ _ hSi) fun b o nh nbb dd z => (up b o nh nbb dd z).1) y d m
      exact ⟨v, a, r.sub sub⟩
  | @cons d ds _ c₁ _ out outs'' hb1 hb2 =>
    have hdi : items[i]? = some d := by
      have := congrArg (fun l => l[0]?) hrest
      simpa using this
    have hlt : i < items.length := by
      rcases Nat.lt_or_ge i items.length with z | z
      · exact z
      · rw [List.getElem?_eq_none z] at hdi; cases hdi
    have hrest' : items.drop (i + 1) = ds := by
      have := congrArg List.tail hrest
      simpa using this
    refine W.pull (turnTail t ce ifs X (.compLoop e depth (.ref I) (.ref D) ce)) Rm.handled hdi hSi pres (fun b m q => by obtain ⟨o, z⟩ := cs.now.live b m; rw [q, get_size] at z; cases z) cs.now.some_in.1 fun v h1 t1 hS1 x1 r1 => ?_
    -- behind the pull
    have up1 : ∀ b o, b ∉ D :: (wr ++ hid) → b ≠ C.β → DataObj o → h.get? b = some o → h1.get? b = some o := fun b o nh _ _ z => x1 b o (fun m => nh (List.mem_cons_of_mem _ (List.mem_append_left _ m))) z
    have cs1 : CS C (wr ++ hid) ce own D names Γc h1 ci (out₀ ++ outd) := by
      refine ⟨cs.now.but' F.offW x1 fun a m => ?_, ?_, cs.cap.but x1 (W.nofr _ _ hSi) up1, fun y hy => ⟨(cs.can y hy).1, (cs.can y hy).2.but x1 (W.nofr _ _ hSi)⟩, cs.Dβ, ns_but cs.loc x1 (W.nofr _ _ hSi)⟩
      · by_cases z : a ∈ wr
        · exact .inr (W.live _ _ hS1 a z)
        · exact .inl z
      · obtain ⟨vs, n, hl, r⟩ := cs.acc
        exact ⟨vs, n, x1 _ _ F.Dw hl, r.map fun b o nh nbb dd z => ⟨up1 b o nh nbb dd z, nh⟩⟩
    obtain ⟨hlen, b, c₂, hifs, hyes, hno⟩ := hb1
    unfold turnTail
    refine wpAny_bind (assign_wp Rm.handled tg hk ap hnd (fun x m => cs1.can x (hsub x m)) hlen r1 fun vs h2 t2 st rv hx hold2 => ?_)
    have up2 : ∀ {v : Value} {d : Mine.D}, Rep C.β (D :: (wr ++ hid)) h1 v d → Rep C.β (D :: (wr ++ hid)) h2 v d := fun r => r.map fun b o nh nbb dd z => ⟨st.data b o dd z, nh⟩
    have cs2 : CS C (wr ++ hid) ce own D names Γc h2 ci (out₀ ++ outd) := by
      refine ⟨cs1.now.but' F.offO st.but fun a m => .inr (st.live a (cs1.now.live a m)), ?_, fun y d m => ?_, fun y hy => ⟨(cs1.can y hy).1, st.can _ (cs1.can y hy).2⟩, cs.Dβ, st.ns _ cs1.loc⟩
      · obtain ⟨vs, n, hl, r⟩ := cs1.acc
        exact ⟨vs, n, st.data _ _ (dataL _ _) hl, r.map fun b o nh nbb dd z => ⟨st.data b o dd z, nh⟩⟩
      · obtain ⟨v, a, r⟩ := cs1.cap y d m
        exact ⟨v, hold2 y v (hcap _ m) a, up2 r⟩
    have sees2 : Sees C ce (D :: (wr ++ hid)) h2 (tgΓ tn t d ++ Γc) := fun y d' m => by
      rcases List.mem_append.mp m with m | m
      · have key : ∀ (ns : List Str) (us : List Value) (gs : List Mine.D), RepAll C.β (D :: (wr ++ hid)) h1 us gs → (y, d') ∈ ns.zip gs → ∃ u, (y, u) ∈ ns.zip us ∧ Rep C.β (D :: (wr ++ hid)) h1 u d' := by
          intro ns
          induction ns with
          | nil => intro us gs _ m; simp at m
          | cons n ns ih =>
            intro us gs ra m
            cases ra with
            | nil => simp at m
            | @cons u us g gs a ra =>
              rcases List.mem_cons.mp m with q | q
              · cases q; exact ⟨u, List.mem_cons_self, a⟩
              · obtain ⟨u', m', r'⟩ := ih us gs ra q; exact ⟨u', List.mem_cons_of_mem _ m', r'⟩
        obtain ⟨u, mu, ru⟩ := key _ vs _ rv m
        exact ⟨u, hx _ mu, up2 ru⟩
      · exact cs2.cap y d' m
    have hS2 : S (i + 1) h2 := W.frame _ _ _ hS1 fun b m o z => st.but b o (fun q => F.ow b q m) z
    refine wpAny_bind (hifs A ce (D :: (wr ++ hid)) _ _ _ Rm O cs2.now sees2 fun h3 t3 x3 b3 => ?_)
    have cs3 := cs2.ext x3 b3
    have hS3 : S (i + 1) h3 := W.frame _ _ _ hS2 fun b m o z => x3.keep b o (fun q => wrβ (q ▸ m)) z
    have keep3 : ∀ b o, b ∉ own → b ∉ wr → b ≠ D → b ≠ C.β → s.heap.get? b = some o → h3.get? b = some o := fun b o n1 n2 n3 n4 z =>
      x3.keep b o n4 (st.but b o n1 (x1 b o n2 (keep b o n1 n2 n3 n4 z)))
    cases b with
    | false =>
      obtain ⟨rfl, rfl⟩ := hno rfl
      simp only [Bool.false_eq_true, if_false]
      exact wpAny_pure ⟨rfl, ds.length, by simp, i + 1, ds, outd, outs'', _, h3, t3, rfl, rfl, hrest', hlt, by simp, hS3, cs3, hb2, keep3⟩
    | true =>
      simp only [if_true]
      refine wpAny_bind (hyes rfl A _ _ _ (out₀ ++ outd) Rm cs3 (sees2.ext cs2.now x3) (by simp only [List.length_append] at hz ⊢; omega) fun h4 t4 x4 cs4 => ?_)
      have Downr : ∀ b ∈ wr, b ∉ own ∧ b ≠ D := fun b m => ⟨fun q => F.ow b q m, fun q => F.Dw (q ▸ m)⟩
      refine wpAny_pure ⟨rfl, ds.length, by simp, i + 1, ds, outd ++ out, outs'', _, h4, t4, rfl, rfl, hrest', hlt, by simp, W.frame _ _ _ hS3 fun b m o z => x4 b o (Downr b m).1 (Downr b m).2 (fun q => wrβ (q ▸ m)) z, by rw [← List.append_assoc]; exact cs4, hb2, ?_⟩
      exact fun b o n1 n2 n3 n4 z => x4 b o n1 n3 n4 (keep3 b o n1 n2 n3 n4 z)
theorem comp_loop {e : Expr} {depth : Nat} {t : Expr} {ifs : List Expr} {I : Addr} {items outs : List Mine.D} {wr : List Addr} {S : Nat → Heap → Prop} {hb : Heap} {X : Sem Unit} {q : Pos} {A : Around} {R : Result → Shared → Prop}
    (hturn : compTurn e depth (.ref I) (.ref D) ce = turnAll q t I ce ifs X (.compLoop e depth (.ref I) (.ref D) ce))
    (hq : (Code.compLoop e depth (.ref I) (.ref D) ce).quiet = true) (hu : ∀ A : Around, A.under (Code.compLoop e depth (.ref I) (.ref D) ce) = A)
    (hden : denote table (.compLoop e depth (.ref I) (.ref D) ce) = (compTurn e depth (.ref I) (.ref D) ce).onRaise (fun x => do noteFrame x ce; theTreesLotGoes x))
    (tg : Tg t names) (hnd : (names.map (·.1)).Nodup) (hcap : ∀ p ∈ Γc, p.1 ∉ names.map (·.1)) (Rm : Room A k) (O : EnvOK ce sc) (ap : Apart ce) (F : Fix C hid own wr D hb)
    (W : Wk C (D :: (wr ++ hid)) hb t I items wr S) (hbody : CR (Turn C k sc ce (wr ++ hid) own D names Γc t ifs X) items c outs c')
    {s : Shared} {out₀ : List Mine.D} (hz : out₀.length + outs.length ≤ 1000000) (hS : S 0 s.heap) (hcs : CS C (wr ++ hid) ce own D names Γc s.heap c out₀) (hold : ∀ b o, hb.get? b = some o → b ≠ C.β → s.heap.get? b = some o)
    (hR : ∀ h' tk, (∀ b o, b ∉ own → b ∉ wr → b ≠ D → b ≠ C.β → s.heap.get? b = some o → h'.get? b = some o) → CS C hid ce own D names Γc h' c' (out₀ ++ outs) → R (.ok .next) { s with heap := h', toks := tk }) :
    codeAny (model C.prog C.w) A (.compLoop e depth (.ref I) (.ref D) ce) R s := by
  obtain ⟨cb, nb⟩ := F.nb
  exact comp_loopN (tn := names) (fun _ m => m) hturn hq hu hden tg hnd hcap Rm O ap ⟨fun b m => nb.off (F.fo b m), fun b m => nb.off (F.fw b m), F.ow, F.Dw, F.Do, not_wr nb F.fw F.Dw⟩ W hbody hz hS hcs
    (fun h keep b o nh nbb dd e => keep b o (fun m => by rw [F.fo b m] at e; cases e) (fun m => by rw [F.fw b m] at e; cases e) (fun m => by rw [m, F.fD] at e; cases e) nbb (hold b o e nbb)) hR
end
/-! ## The frame of a comprehension -/
/-- cells laid upon cells -/
theorem cells_around : ∀ (names : List (Str × NameKind)) (h : Heap) (acc : List (Str × Addr)), (∀ x c, acc.lookup x = some c → c < h.objs.size) → (∀ x y c, acc.lookup x = some c → acc.lookup y = some c → x = y) →
    (∀ x c, (cellsFrom h.objs.size names acc).lookup x = some c → acc.lookup x = some c ∨ (h.objs.size ≤ c ∧ c < (pushCells h names).objs.size ∧ (pushCells h names).IsCell c none)) ∧
    (∀ x, (x, NameKind.cell) ∈ names → ∃ c, (cellsFrom h.objs.size names acc).lookup x = some c ∧ h.objs.size ≤ c ∧ c < (pushCells h names).objs.size ∧ (pushCells h names).IsCell c none) ∧
    (∀ x, (x, NameKind.cell) ∉ names → (cellsFrom h.objs.size names acc).lookup x = acc.lookup x) ∧
    (∀ x y c, (cellsFrom h.objs.size names acc).lookup x = some c → (cellsFrom h.objs.size names acc).lookup y = some c → x = y) ∧
    h.objs.size ≤ (pushCells h names).objs.size
  | [], h, acc, ha, hb => by
    simp only [cellsFrom, pushCells]
    refine ⟨fun x c q => .inl q, fun x q => (nomatch q), fun x _ => ?_, hb, Nat.le_refl _⟩
    first | rfl | trivial
  | (name, kind) :: r, h, acc, ha, hb => by
    unfold cellsFrom pushCells
    by_cases hk : kind = .cell
    · subst hk
      simp only [beq_self_eq_true, if_true]
      have hsz : (h.push { cls := .type "cell", data := .cell none }).objs.size = h.objs.size + 1 := Heap.size_push ..
      have ih := cells_around r (h.push { cls := .type "cell", data := .cell none }) ((name, h.objs.size) :: acc)
        (fun x c q => by
          rw [List.lookup_cons] at q
          rw [hsz]
          cases e : x == name with
          | true => rw [e] at q; cases q; exact Nat.lt_succ_self _
          | false => rw [e] at q; exact Nat.lt_succ_of_lt (ha x c q))
        (fun x y c q q' => by
          rw [List.lookup_cons] at q q'
          cases e : x == name with
          | true =>
            rw [e] at q; cases q
            cases e' : y == name with
            | true => rw [beq_iff_eq.mp e, beq_iff_eq.mp e']
            | false => rw [e'] at q'; exact absurd (ha y _ q') (Nat.lt_irrefl _)
          | false =>
            rw [e] at q
            cases e' : y == name with
            | true => rw [e'] at q'; cases q'; exact absurd (ha x _ q) (Nat.lt_irrefl _)
            | false => rw [e'] at q'; exact hb x y c q q')
      rw [hsz] at ih
      obtain ⟨i1, i2, i3, i4, i5⟩ := ih
      have c0 : (pushCells (h.push { cls := .type "cell", data := .cell none }) r).IsCell h.objs.size none := ⟨_, pushCells_keeps _ _ _ _ (Heap.get?_push_size _ rfl), rfl⟩
      refine ⟨fun x c q => ?_, fun x q => ?_, fun x q => ?_, i4, Nat.le_of_succ_le i5⟩
      · rcases i1 x c q with q | ⟨q1, q2, q3⟩
        · rw [List.lookup_cons] at q
          cases e : x == name with
          | true => rw [e] at q; cases q; exact .inr ⟨Nat.le_refl _, Nat.lt_of_lt_of_le (Nat.lt_succ_self _) i5, c0⟩
          | false => rw [e] at q; exact .inl q
        · exact .inr ⟨Nat.le_of_succ_le q1, q2, q3⟩
      · by_cases m : (x, NameKind.cell) ∈ r
        · obtain ⟨c, q1, q2, q3, q4⟩ := i2 x m
          exact ⟨c, q1, Nat.le_of_succ_le q2, q3, q4⟩
        · have hx : x = name := by
            rcases List.mem_cons.mp q with e | e
            · exact (Prod.mk.inj e).1
            · exact absurd e m
          subst hx
          refine ⟨h.objs.size, ?_, Nat.le_refl _, Nat.lt_of_lt_of_le (Nat.lt_succ_self _) i5, c0⟩
          rw [i3 x m, List.lookup_cons]; simp
      · have hx : ¬ (x = name) := fun e => q (by rw [e]; exact List.mem_cons_self)
        rw [i3 x (fun m => q (List.mem_cons_of_mem _ m)), List.lookup_cons]
        have : (x == name) = false := beq_eq_false_iff_ne.mpr hx
        rw [this]
    · have hk' : (kind == NameKind.cell) = false := by simpa using hk
      simp only [hk', Bool.false_eq_true, if_false]
      obtain ⟨i1, i2, i3, i4, i5⟩ := cells_around r h acc ha hb
      refine ⟨i1, fun x q => ?_, fun x q => i3 x fun m => q (List.mem_cons_of_mem _ m), i4, i5⟩
      rcases List.mem_cons.mp q with e | e
      · exact absurd (Prod.mk.inj e).2.symm hk
      · exact i2 x e

/-- what a comprehension sees of the cells around it -/
noncomputable def clOf (env : Env) : List (Str × NameKind) → List (Str × Addr) → List (Str × Addr)
  | [], acc => acc
  | (n, k) :: r, acc => if k == .free then clOf env r ((n, (env.cells.lookup n).getD 0) :: acc) else clOf env r acc

theorem clOf_sub (env : Env) : ∀ (names : List (Str × NameKind)) (acc : List (Str × Addr)), (∀ n, (n, NameKind.free) ∈ names → ∃ c, env.cells.lookup n = some c) → (∀ x c, acc.lookup x = some c → env.cells.lookup x = some c) →
    (∀ x c, (clOf env names acc).lookup x = some c → env.cells.lookup x = some c) ∧ (∀ x c, acc.lookup x = some c → (clOf env names acc).lookup x = some c) ∧ (∀ x, (x, NameKind.free) ∈ names → ∃ c, (clOf env names acc).lookup x = some c) ∧ ∀ x c, (clOf env names acc).lookup x = some c → acc.lookup x = some c ∨ (x, NameKind.free) ∈ names
  | [], acc, _, ha => ⟨ha, fun _ _ q => q, fun _ q => (nomatch q), fun _ _ q => .inl q⟩
  | (n, k) :: r, acc, hf, ha => by
    unfold clOf
    by_cases hk : k = .free
    · subst hk
      simp only [beq_self_eq_true, if_true]
      obtain ⟨cn, hcn⟩ := hf n List.mem_cons_self
      have ha' : ∀ x c, ((n, (env.cells.lookup n).getD 0) :: acc).lookup x = some c → env.cells.lookup x = some c := fun x c q => by
        rw [List.lookup_cons] at q
        cases e : x == n with
        | true => rw [e, hcn] at q; cases q; rw [beq_iff_eq.mp e]; exact hcn
        | false => rw [e] at q; exact ha x c q
      obtain ⟨i1, i2, i3, i4⟩ := clOf_sub env r _ (fun m q => hf m (List.mem_cons_of_mem _ q)) ha'
      refine ⟨i1, fun x c q => ?_, fun x q => ?_, fun x c q => ?_⟩
      · refine i2 x c ?_
        rw [List.lookup_cons]
        cases e : x == n with
        | true =>
          have hx := beq_iff_eq.mp e
          subst hx
          have := ha x c q
          rw [this]; rfl
        | false => exact q
      · rcases List.mem_cons.mp q with e | e
        · cases e; exact ⟨cn, i2 _ cn (by rw [List.lookup_cons]; simp [hcn])⟩
        · exact i3 x e
      · rcases i4 x c q with q | q
        · rw [List.lookup_cons] at q
          cases e : x == n with
          | true => rw [beq_iff_eq.mp e]; exact .inr List.mem_cons_self
          | false => rw [e] at q; exact .inl q
        · exact .inr (List.mem_cons_of_mem _ q)
    · have hk' : (k == NameKind.free) = false := by simpa using hk
      simp only [hk', Bool.false_eq_true, if_false]
      obtain ⟨i1, i2, i3, i4⟩ := clOf_sub env r acc (fun m q => hf m (List.mem_cons_of_mem _ q)) ha
      refine ⟨i1, i2, fun x q => ?_, fun x c q => (i4 x c q).imp id (List.mem_cons_of_mem _)⟩
      rcases List.mem_cons.mp q with e | e
      · exact absurd (Prod.mk.inj e).2.symm hk
      · exact i3 x e

theorem closureFor_is {scope : Scope} {env : Env} (hf : ∀ n, (n, NameKind.free) ∈ scope.names → ∃ c, env.cells.lookup n = some c) : closureFor scope env = pure (clOf env scope.names []) := by
  unfold closureFor
  have key : ∀ (names : List (Str × NameKind)) (acc : List (Str × Addr)), (∀ n, (n, NameKind.free) ∈ names → ∃ c, env.cells.lookup n = some c) →
      (forIn names acc (fun x __s => match x with
        | (name, kind) => if (kind == NameKind.free) = true then (do let a ← cellOf env name; pure (ForInStep.yield ((name, a) :: __s))) else pure (ForInStep.yield __s)) : Sem (List (Str × Addr))) = pure (clOf env names acc) := by
    intro names
    induction names with
    | nil => intro acc _; rfl
    | cons p r ih =>
      intro acc hf
      obtain ⟨n, k⟩ := p
      rw [List.forIn_cons]
      unfold clOf
      by_cases hk : (k == NameKind.free) = true
      · have hk2 : k = .free := by simpa using hk
        subst hk2
        obtain ⟨c, hc⟩ := hf n List.mem_cons_self
        simp only [beq_self_eq_true, if_true]
        have : cellOf env n = pure c := by unfold cellOf; rw [hc]
        rw [this]
        simp only [pure_bind]
        rw [hc]
        exact ih _ fun m q => hf m (List.mem_cons_of_mem _ q)
      · simp only [hk, if_false, Bool.false_eq_true, pure_bind]
        exact ih _ fun m q => hf m (List.mem_cons_of_mem _ q)
  have := key scope.names [] hf
  refine Eq.trans ?_ (congrArg (fun m : Sem (List (Str × Addr)) => m >>= fun cs => pure cs) this)
  rfl
noncomputable def relabelS (scope sc : Scope) : Scope :=
  { scope with names := scope.names.map fun (n, k) => if (k == .free && sc.kind == .function && sc.names.lookup n == some .cell) then (n, .cell) else (n, k) }
theorem relabel_eq {scope : Scope} {env : Env} {sc : Scope} (h : env.scope = sc) : relabel scope env = relabelS scope sc := by subst h; rfl

noncomputable def relK (sc : Scope) (n : Str) (k : NameKind) : NameKind := if (k == NameKind.free && sc.kind == .function && sc.names.lookup n == some NameKind.cell) then .cell else k
theorem lookup_mapk (g : Str → NameKind → NameKind) : ∀ (l : List (Str × NameKind)) (x : Str), (l.map fun p => (p.1, g p.1 p.2)).lookup x = (l.lookup x).map (g x)
  | [], x => rfl
  | (n, k) :: r, x => by
    rw [List.map_cons, List.lookup_cons, List.lookup_cons]
    cases e : x == n with
    | true => rw [beq_iff_eq.mp e]; rfl
    | false => exact lookup_mapk g r x
theorem relabel_lookup (scope sc : Scope) (x : Str) : (relabelS scope sc).names.lookup x = (scope.names.lookup x).map (relK sc x) := by
  unfold relabelS
  rw [← lookup_mapk]
  simp only
  congr 1
  apply List.map_congr_left
  rintro ⟨n, k⟩ _
  unfold relK
  split <;> rfl

/-- what is asked of the names of a comprehension -/
structure CompOK (scope sc : Scope) (names : List (Str × Pos)) (Γ Γc : List (Str × D)) : Prop where
  kind : scope.kind = .function
  wf : ∀ p ∈ scope.names, scope.names.lookup p.1 = some p.2
  tgs : ∀ x ∈ names, okName x.1 ∧ (scope.names.lookup x.1 = some .local ∨ scope.names.lookup x.1 = some .cell)
  nd : (names.map (·.1)).Nodup
  fr : ∀ p ∈ scope.names, p.2 = NameKind.free → ∃ d, (p.1, d) ∈ Γc
  cap : ∀ p ∈ Γc, p ∈ Γ ∧ (sc.names.lookup p.1 = some .cell ∨ sc.names.lookup p.1 = some .free) ∧ scope.names.lookup p.1 = some .free

theorem CompOK.apart {scope sc : Scope} {names : List (Str × Pos)} {Γ Γc : List (Str × D)} (K : CompOK scope sc names Γ Γc) : ∀ p ∈ Γc, p.1 ∉ names.map (·.1) := fun p hp m => by
  obtain ⟨x, hx, e⟩ := List.mem_map.mp m
  have h1 := (K.cap p hp).2.2
  rcases (K.tgs x hx).2 with q | q <;> (rw [e, h1] at q; cases q)

section
variable {C : Cx} {k : Nat} {sc : Scope} {Γ Γc : List (Str × D)} {c c₁ c₂ : Int} {hid : List Addr} {env : Env} {names : List (Str × Pos)} {scope : Scope}

theorem comp_env_wp {A : Around} {E : Value → Shared → Prop} {s : Shared} {Q : Env → Shared → Prop} (K : CompOK scope sc names Γ Γc) (O : EnvOK env sc) (S : Sees C env hid s.heap Γ)
    (hQ : ∀ cenv ce own h', ce = { cenv with scope := relabel scope env } → EnvOK ce (relabelS scope sc) → (∀ b ∈ own, s.heap.get? b = none) → (∀ b o, s.heap.get? b = some o → h'.get? b = some o) →
      (∀ x ∈ names, okName x.1 ∧ Can ce own h' x.1) → Sees C ce hid h' Γc → (∃ m, h'.Ns cenv.locals m) → cenv.locals ∈ own → Q cenv { s with heap := h' }) :
    closureFor scope env = pure (clOf env scope.names []) ∧ wpAny (model C.prog C.w) A (newFunctionEnv scope env.globals (clOf env scope.names []) [] env.qual none .none (some env)) Q E s := by
  -- the cells around
  have capH : ∀ p ∈ Γc, ∃ v cc, Holds env s.heap p.1 v ∧ Rep C.β hid s.heap v p.2 ∧ env.cells.lookup p.1 = some cc ∧ s.heap.IsCell cc (some v) := fun p hp => by
    obtain ⟨m, hk, _⟩ := K.cap p hp
    obtain ⟨v, a, r⟩ := S p.1 p.2 m
    rcases a.is with ⟨a1, _⟩ | ⟨_, cc, a2, a3⟩
    · rw [kindOf_eq, O.is] at a1
      rcases hk with q | q <;> (rw [q] at a1; cases a1)
    · exact ⟨v, cc, a, r, a2, a3⟩
  have hfree : ∀ n, (n, NameKind.free) ∈ scope.names → ∃ c, env.cells.lookup n = some c := fun n m => by
    obtain ⟨d, hd⟩ := K.fr _ m rfl
    obtain ⟨v, cc, _, _, h, _⟩ := capH _ hd
    exact ⟨cc, h⟩
  obtain ⟨s1, _, s3, s4⟩ := clOf_sub env scope.names [] hfree (fun x c q => by cases q)
  refine ⟨closureFor_is hfree, ?_⟩
  have hlive : ∀ x c, (clOf env scope.names []).lookup x = some c → c < s.heap.objs.size := fun x c q => by
    rcases s4 x c q with z | z
    · cases z
    · obtain ⟨d, hd⟩ := K.fr _ z rfl
      obtain ⟨v, cc, _, _, h, hc⟩ := capH _ hd
      have := s1 x c q
      rw [h] at this; cases this
      exact hc.lt
  simp only [newFunctionEnv, Option.isSome_some, if_true]
  refine wpAny_bind (wpAny_alloc ?_)
  have hsz : (s.heap.push { cls := .type "dict", data := .dict #[] }).objs.size = s.heap.objs.size + 1 := Heap.size_push ..
  obtain ⟨i1, i2, i3, i4, i5⟩ := cells_around scope.names (s.heap.push { cls := .type "dict", data := .dict #[] }) (clOf env scope.names [])
    (fun x c q => by rw [hsz]; exact Nat.lt_succ_of_lt (hlive x c q)) (fun x y c q q' => O.apart x y c (s1 x c q) (s1 y c q'))
  refine wpAny_bind (wpAny_layCells _ (fun name kind cells => by cases hkc : kind == NameKind.cell <;> simp [hkc]) _ _ _ _ ?_)
  refine wpAny_bind ?_
  rw [List.forIn_nil]
  refine wpAny_pure (wpAny_pure ?_)
  have keep : ∀ b o, s.heap.get? b = some o → (pushCells (s.heap.push { cls := .type "dict", data := .dict #[] }) scope.names).get? b = some o := fun b o q => pushCells_keeps _ _ _ _ (Heap.get?_push_of_some _ q)
  generalize hH : pushCells (s.heap.push { cls := .type "dict", data := .dict #[] }) scope.names = H at *
  have hle : s.heap.objs.size + 1 ≤ H.objs.size := by rw [hsz] at i5; exact i5
  have hL : H.Ns s.heap.objs.size (fun _ => none) := by rw [← hH]; exact (Heap.Ns.new s.heap (.type "dict")).keeps (pushCells_keeps _ _)
  have inown : ∀ b, s.heap.objs.size ≤ b → b < H.objs.size → b ∈ List.range' s.heap.objs.size (H.objs.size - s.heap.objs.size) := fun b h1 h2 => by
    rw [List.mem_range']
    exact ⟨b - s.heap.objs.size, Nat.sub_lt_sub_right h1 h2, by omega⟩
  rw [hsz] at i1 i2 i3 i4
  have hlk : ∀ x, ((relabel scope env).names.lookup x) = (scope.names.lookup x).map (relK sc x) := fun x => by rw [relabel_eq O.is, relabel_lookup]
  refine hQ _ _ (List.range' s.heap.objs.size (H.objs.size - s.heap.objs.size)) H rfl ⟨relabel_eq O.is, K.kind, O.glob, O.blt, ?_⟩ ?_ keep ?_ ?_ ⟨_, hL⟩ (inown _ (Nat.le_refl _) hle)
  · rw [hsz]; exact fun x y c q q' => i4 x y c q q'
  · intro b hb
    rw [List.mem_range'] at hb
    obtain ⟨i, _, e⟩ := hb
    cases z : s.heap.get? b with
    | none => rfl
    | some o => exact absurd (Heap.lt_size z) (Nat.not_lt.mpr (by omega))
  · intro x hx
    obtain ⟨ok, hk⟩ := K.tgs x hx
    refine ⟨ok, ?_⟩
    rcases hk with hk | hk
    · refine .inl ⟨?_, inown _ (Nat.le_refl _) hle, _, hL⟩
      show (relabel scope env).names.lookup x.1 = _
      rw [hlk, hk]; rfl
    · obtain ⟨c, q1, q2, q3, q4⟩ := i2 x.1 (mem_of_lookup hk)
      refine .inr ⟨?_, c, ?_, inown c (Nat.le_of_succ_le q2) q3, none, q4⟩
      · show (relabel scope env).names.lookup x.1 = _
        rw [hlk, hk]; rfl
      · show (cellsFrom (s.heap.push _).objs.size scope.names (clOf env scope.names [])).lookup x.1 = _
        rw [hsz]; exact q1
  · intro x d m
    obtain ⟨v, cc, a, r, h1, h2⟩ := capH _ m
    have hfr := (K.cap _ m).2.2
    refine ⟨v, ⟨a.plain, .inr ⟨?_, cc, ?_, h2.keeps keep⟩⟩, r.map fun b o nh nb _ e => ⟨keep b o e, nh⟩⟩
    · show (relabel scope env).names.lookup x = _ ∨ (relabel scope env).names.lookup x = _
      rw [hlk, hfr]
      simp only [Option.map_some, relK]
      split
      · exact .inl rfl
      · exact .inr rfl
    · show (cellsFrom (s.heap.push _).objs.size scope.names (clOf env scope.names [])).lookup x = _
      rw [hsz, i3 x (fun q => by have := K.wf _ q; rw [hfr] at this; cases this)]
      obtain ⟨c', hc'⟩ := s3 x (mem_of_lookup hfr)
      have := s1 x c' hc'
      rw [h1] at this; cases this
      exact hc'
end
/-! ## List comprehensions of one clause -/
section
variable {C : Cx} {k : Nat} {sc : Scope} {Γ Γc : List (Str × D)} {c c₁ c₂ : Int} {hid : List Addr} {env : Env} {names : List (Str × Pos)} {scope : Scope}

theorem emit_append {ce : Env} {own : List Addr} {D : Addr} {Γt : List (Str × Mine.D)} {elt : Expr} {d : Mine.D} {hb : Heap} {hid₀ : List Addr} {c₀ : Int} (O : EnvOK ce sc) (nb : Now C hid₀ hb c₀) (fD : hb.get? D = none) (h : Ev C k sc Γt c elt d c₁) :
    Emit C k sc ce hid own D names Γc (do let x ← eval elt ce; let _ ← call (.builtin "list.append") [.ref D, x]; pure ()) Γt c [d] c₁ := fun A s Q E out₀ R cs S hz hQ => by
  refine wpAny_bind (h A ce (D :: hid) s _ E R O cs.now S fun v h' tk x bx r => wpAny_bind ?_)
  have cs' := cs.ext x bx
  obtain ⟨vs, n, hl, ra⟩ := cs'.acc
  have hlen := ra.length
  refine wpAny_list_append_plain (s := { s with heap := h', toks := tk }) ⟨n, hl⟩ (fun h'' hpl hs => wpAny_pure ?_) (by rw [sizeLine_eq]; simp only [List.size_toArray, hlen]; simp only [List.length_singleton] at hz; omega)
  obtain ⟨n', hl'⟩ := hpl
  have bt : But [D] h' h'' := but_same hs
  have fw : ∀ b ∈ [D], hb.get? b = none := fun b m => by rw [List.mem_singleton.mp m]; exact fD
  have nofr : ∀ b ∈ [D], ∀ o, h'.get? b = some o → (∀ es n, o.data ≠ .dict es n) ∧ ∀ v, o.data ≠ .cell v := fun b m o e => by
    rw [List.mem_singleton.mp m, hl] at e; cases e
    exact ⟨(fun _ _ q => nomatch q), (fun _ q => nomatch q)⟩
  have up : ∀ b o, b ∉ D :: hid → b ≠ C.β → DataObj o → h'.get? b = some o → h''.get? b = some o := fun b o nh _ _ e => hs.extBut b o (fun q => nh (by rw [q]; exact List.mem_cons_self)) e
  refine hQ h'' tk (fun b o n1 n2 n3 e => hs.extBut b o n2 (x.keep b o n3 e)) ⟨?_, ?_, cs'.cap.but bt nofr up, fun y hy => ⟨(cs'.can y hy).1, (cs'.can y hy).2.but bt nofr⟩, cs'.Dβ, ns_but cs'.loc bt nofr⟩
  · refine cs'.now.but nb fw bt fun a m => ?_
    by_cases q : a = D
    · subst q; exact .inr ⟨_, hl'⟩
    · exact .inl (by simp [q])
  · refine ⟨vs ++ [v], n', ?_, ?_⟩
    · have e1 : (vs ++ [v]).toArray = vs.toArray.push v := by simp
      show IsL h'' D (vs ++ [v]).toArray n'
      exact e1 ▸ hl'
    · exact (ra.append (.one r)).map fun b o nh nbb dd e => ⟨up b o nh nbb dd e, nh⟩

/-- a turn that appends elt's value -/
noncomputable def TurnE (C : Cx) (k : Nat) (sc : Scope) (names : List (Str × Pos)) (Γc : List (Str × Mine.D)) (t : Expr) (ifs : List Expr) (elt : Expr) (d : Mine.D) (c : Int) (out : List Mine.D) (c' : Int) : Prop :=
  (tgD t d).length = names.length ∧ ∃ b c₁, EvIfs C k sc (tgΓ names t d ++ Γc) c ifs b c₁ ∧ (b = true → ∃ d', out = [d'] ∧ Ev C k sc (tgΓ names t d ++ Γc) c₁ elt d' c') ∧ (b = false → out = [] ∧ c' = c₁)

theorem CR.imp {P Q : D → Int → List D → Int → Prop} (h : ∀ d c out c', P d c out c' → Q d c out c') {items : List D} {c : Int} {outs : List D} {c' : Int} (r : CR P items c outs c') : CR Q items c outs c' := by
  induction r with
  | nil c => exact .nil c
  | cons a _ ih => exact .cons (h _ _ _ _ a) ih
theorem CR.flat {P : D → Int → List D → Int → Prop} (g : D → List D) {c : Int} : ∀ (items : List D), (∀ d ∈ items, P d c (g d) c) → CR P items c (items.flatMap g) c
  | [], _ => .nil c
  | d :: ds, h => by
    rw [List.flatMap_cons]
    exact .cons (h d List.mem_cons_self) (CR.flat g ds fun d m => h d (List.mem_cons_of_mem _ m))

theorem turnE_of {ce : Env} {own : List Addr} {D : Addr} {t : Expr} {ifs : List Expr} {elt : Expr} {hb : Heap} {hid₀ : List Addr} {c₀ : Int} (O : EnvOK ce sc) (nb : Now C hid₀ hb c₀) (fD : hb.get? D = none) {d : Mine.D} {out : List Mine.D} (h : TurnE C k sc names Γc t ifs elt d c out c₁) :
    Turn C k sc ce hid own D names Γc t ifs (do let x ← eval elt ce; let _ ← call (.builtin "list.append") [.ref D, x]; pure ()) d c out c₁ :=
  let ⟨h1, b, c', h2, h3, h4⟩ := h
  ⟨h1, b, c', h2, fun hb' => by obtain ⟨d', e, q⟩ := h3 hb'; subst e; exact emit_append O nb fD q, h4⟩

theorem comp_core {elt t iter : Expr} {ifs : List Expr} {pos : Pos} {items outs : List D} (hit : EvIt C k sc Γ c iter t items c₁) (tg : Tg t names) (K : CompOK scope sc names Γ Γc)
    (hbody : CR (TurnE C k (relabelS scope sc) names Γc t ifs elt) items c₁ outs c₂) (hz : outs.length ≤ 1000000)
    {A : Around} {s : Shared} {E : Value → Shared → Prop} {RR : Value → Addr → Result → Shared → Prop} (R : Room A k) (O : EnvOK env sc) (N : Now C hid s.heap c) (S : Sees C env hid s.heap Γ)
    (hR : ∀ D L vs n h' tk, Ext C.β s.heap h' → Bx C h' c₂ → Now C (D :: hid) h' c₂ → s.heap.get? D = none → s.heap.get? L = none → IsL h' D vs.toArray n → RepAll C.β (D :: hid) h' vs outs → (∃ m, h'.Ns L m) → RR (.ref D) L (.ok .next) { s with heap := h', toks := tk }) :
    closureFor scope env = pure (clOf env scope.names []) ∧
    wpAny (model C.prog C.w) A (eval iter env) (fun x s₁ => wpAny (model C.prog C.w) A (pyIter x) (fun it s₂ => wpAny (model C.prog C.w) A (newList []) (fun acc s₃ =>
      wpAny (model C.prog C.w) A (newFunctionEnv scope env.globals (clOf env scope.names []) [] env.qual none .none (some env)) (fun cenv s₄ =>
        codeAny (model C.prog C.w) A (.compStart (.ListComp elt [⟨t, iter, ifs, 0⟩] scope pos) 0 it acc { cenv with scope := relabel scope env }) (RR acc cenv.locals) s₄) E s₃) E s₂) E s₁) E s := by
  refine ⟨(comp_env_wp (A := A) (E := fun _ _ => True) (s := s) (Q := fun _ _ => True) K O S fun _ _ _ _ _ _ _ _ _ _ _ _ => trivial).1, ?_⟩
  refine hit A env hid s _ E R O N S fun hb I wr St h₁ tk xb bb kb W hS => ?_
  have Nb := N.ext xb bb
  have N₁ := Nb.ext (.of_keeps kb) (bb.keep fun o e => kb _ _ e)
  refine wpAny_newObj_type ?_
  -- behind the list
  generalize hh2 : h₁.push { cls := .type "list", dict := none, data := .seq ([] : List Value).toArray } = h₂
  have x12 : ∀ b o, h₁.get? b = some o → h₂.get? b = some o := fun b o e => by rw [← hh2]; exact Heap.get?_push_of_some _ e
  have hDl : IsL h₂ h₁.objs.size ([] : List Value).toArray 0 := by rw [← hh2]; exact Heap.get?_push_size _ rfl
  generalize hD : h₁.objs.size = D at *
  have fD1 : h₁.get? D = none := by rw [← hD]; exact get_size _
  have fD : hb.get? D = none := by
    cases e : hb.get? D with
    | none => rfl
    | some o => have := kb _ _ e; rw [fD1] at this; cases this
  have Wd := W (D :: (wr ++ hid)) fun b m => by
    rcases List.mem_cons.mp m with rfl | m
    · exact .inr fD
    · rcases List.mem_append.mp m with m | m
      · exact .inr ((W [] fun b m => by cases m).fresh b m)
      · exact .inl m
  have liveW : ∀ b ∈ wr, ∃ o, h₁.get? b = some o := fun b m => Wd.live 0 h₁ hS b m
  have Dw : D ∉ wr := fun m => by obtain ⟨o, e⟩ := liveW D m; rw [fD1] at e; cases e
  have x02 : Ext C.β s.heap h₂ := xb.trans ((Ext.of_keeps kb).trans (.of_keeps x12))
  have b2 : Bx C h₂ c₁ := bb.keep fun o e => x12 _ _ (kb _ _ e)
  have N₂ : Now C (D :: (wr ++ hid)) h₂ c₁ := by
    have n := N₁.ext (.of_keeps x12) (N₁.box.keep fun o e => x12 _ _ e)
    refine ⟨n.ok, n.base, n.box, n.first, n.αβ, fun m => ?_, fun a m => ?_⟩
    · obtain ⟨vs, nn, q, _⟩ := Nb.first
      rcases List.mem_cons.mp m with e | m
      · rw [e] at q; cases fD.symm.trans q
      · rcases List.mem_append.mp m with m | m
        · cases (Wd.fresh _ m).symm.trans q
        · exact n.αh m
    · rcases List.mem_cons.mp m with rfl | m
      · exact ⟨_, hDl⟩
      · rcases List.mem_append.mp m with m | m
        · obtain ⟨o, e⟩ := liveW a m; exact ⟨o, x12 _ _ e⟩
        · exact n.live a m
  have S₂ : Sees C env (D :: (wr ++ hid)) h₂ Γ := fun y d m => by
    have q := S.ext N xb
    obtain ⟨v, a, r⟩ := q y d m
    refine ⟨v, a.keeps fun b o e => x12 _ _ (kb _ _ e), r.map fun b o nh nbb dd e => ⟨x12 _ _ (kb _ _ e), fun m => ?_⟩⟩
    rcases List.mem_cons.mp m with rfl | m
    · rw [fD] at e; cases e
    · rcases List.mem_append.mp m with m | m
      · rw [Wd.fresh b m] at e; cases e
      · exact nh m
  refine (comp_env_wp (A := A) (E := E) (s := { s with heap := h₂, toks := tk }) K O S₂ fun cenv ce own h₃ hce O' fo k23 cn cap loc lown => ?_).2
  have Ek : ∀ b o, h₂.get? b = some o → h₃.get? b = some o := k23
  have N₃ : Now C (D :: (wr ++ hid)) h₃ c₁ := N₂.ext (.of_keeps k23) (N₂.box.keep fun o e => k23 _ _ e)
  have cs₃ : CS C (wr ++ hid) ce own D names Γc h₃ c₁ [] := ⟨N₃, ⟨[], 0, k23 _ _ hDl, .nil⟩, cap, cn, (fun e => by
    obtain ⟨t, m, q⟩ := Nb.box; exact nomatch (e ▸ fD).symm.trans q), (by rw [hce]; exact loc)⟩
  have hS₃ : St 0 h₃ := Wd.frame _ _ _ hS fun b _ o e => k23 _ _ (x12 _ _ e)
  have fown : ∀ b ∈ own, hb.get? b = none := fun b m => by
    cases e : hb.get? b with
    | none => rfl
    | some o => have := fo b m; rw [x12 _ _ (kb _ _ e)] at this; cases this
  have F : Fix C hid own wr D hb := ⟨⟨_, Nb⟩, fown, Wd.fresh, fD, (fun b m w => by obtain ⟨o, e⟩ := liveW b w; have := fo b m; rw [x12 _ _ e] at this; cases this), Dw, (fun m => by have := fo D m; cases this.symm.trans hDl)⟩
  have ap : Apart ce := O'.apart
  have loop : codeAny (model C.prog C.w) A (.compLoop (.ListComp elt [⟨t, iter, ifs, 0⟩] scope pos) 0 (.ref I) (.ref D) ce) (RR (.ref D) cenv.locals) { s with heap := h₃, toks := tk } := by
    refine comp_loop (q := iter.pos) (X := do let x ← eval elt ce; let _ ← call (.builtin "list.append") [.ref D, x]; pure ()) (out₀ := []) rfl rfl (fun _ => rfl) rfl tg K.nd (CompOK.apart K) R O' ap F Wd
      (hbody.imp fun d c out c' q => turnE_of O' Nb fD q) (by simpa using hz) hS₃ cs₃ (fun b o e _ => k23 _ _ (x12 _ _ (kb _ _ e))) fun h' tk' keep cs => ?_
    obtain ⟨vs, n, hl, r⟩ := cs.acc
    refine hR D cenv.locals vs n h' tk' ⟨fun b o nb e => ?_⟩ cs.now.box cs.now ?_ ?_ hl (by simpa using r) (by have := cs.loc; rw [hce] at this; exact this)
    · have eb := xb.keep b o nb e
      exact keep b o (fun m => by rw [fown b m] at eb; cases eb) (fun m => by rw [Wd.fresh b m] at eb; cases eb) (fun m => by rw [m, fD] at eb; cases eb) nb (k23 _ _ (x12 _ _ (kb _ _ eb)))
    · exact N.fresh_back xb bb fD
    · exact N.fresh_back xb bb (fown _ lown)
  rw [← hce]
  exact codeAny_compStart_list loop (Wd.self A 0 _ _ _ hS₃ loop)

theorem EvF.comp {elt t iter : Expr} {ifs : List Expr} {pos : Pos} {items outs : List D} (hit : EvIt C k sc Γ c iter t items c₁) (tg : Tg t names) (K : CompOK scope sc names Γ Γc)
    (hbody : CR (TurnE C k (relabelS scope sc) names Γc t ifs elt) items c₁ outs c₂) (hz : outs.length ≤ 1000000) (hs : ∀ env x, foldedSetIterable iter env x = pure x := by intro _ _; rfl) :
    EvF C k sc Γ c (.ListComp elt [⟨t, iter, ifs, 0⟩] scope pos) outs c₂ := fun A env hid s Q E R O N S hQ => by
  rw [eval_ListComp]
  have core := comp_core (env := env) (pos := pos) (E := E) (RR := fun acc L => compPost (model C.prog C.w) A E none Q acc L) hit tg K hbody hz R O N S fun D L vs n h' tk x bx nw fD fL hl r loc => ?_
  · exact wpAny_comprehension_free (use := none) rfl (hs env) core.1 K.kind (fun x m e => by rw [K.wf x m, e]) core.2
  · obtain ⟨m, hn⟩ := loc
    refine ⟨m, hn, fun h'' hs'' => ?_⟩
    have notL : ∀ b o, DataObj o → h'.get? b = some o → b ≠ L := fun b o dd e q => by
      subst q; obtain ⟨o', es, ep, ho, hd, _⟩ := hn; rw [ho] at e; cases e; exact dd.2.1 _ _ hd
    refine hQ D vs n h'' tk ⟨fun b o nb e => hs''.extBut b o (fun q => by rw [q, fL] at e; cases e) (x.keep b o nb e)⟩ (bx.keep fun o e => hs''.extBut _ _ (fun q => ?_) e) fD
      (hs''.extBut _ _ (notL _ _ (dataL _ _) hl) hl) (r.map fun b o nh nb dd e => ⟨hs''.extBut b o (notL b o dd e) e, nh⟩)
    obtain ⟨t, m', q'⟩ := N.box
    exact nomatch (q ▸ fL).symm.trans q'
end
/-! ## The state of a frame -/
/-- what a name of the frame is for: a value, or a list that no one else names -/
inductive AV where
  | v (d : D)
  | o (ds : List D)
noncomputable def AV.frz : AV → D
  | .v d => d
  | .o ds => .list ds

noncomputable abbrev Vs := List (Str × AV)
/-- the values alone -/
noncomputable def plainΓ : Vs → List (Str × D)
  | [] => []
  | (x, .v d) :: r => (x, d) :: plainΓ r
  | (_, .o _) :: r => plainΓ r
noncomputable def allΓ : Vs → List (Str × D)
  | [] => []
  | (x, .v d) :: r => (x, d) :: allΓ r
  | (x, .o ds) :: r => (x, .list ds) :: allΓ r
noncomputable def ow (om : Str → Addr) : Vs → List Addr
  | [] => []
  | (_, .v _) :: r => ow om r
  | (x, .o _) :: r => om x :: ow om r
noncomputable def hasV (x : Str) : Vs → Bool
  | [] => false
  | (y, _) :: r => (x == y) || hasV x r
noncomputable def subV (x : Str) (m : AV) : Vs → Vs
  | [] => []
  | (y, n) :: r => (if x == y then (y, m) else (y, n)) :: subV x m r
noncomputable def snocV (x : Str) (m : AV) : Vs → Vs
  | [] => [(x, m)]
  | p :: r => p :: snocV x m r
noncomputable def putV1 (x : Str) (m : AV) (V : Vs) : Vs := if hasV x V then subV x m V else snocV x m V
noncomputable def putV : List Str → List AV → Vs → Vs
  | x :: xs, m :: ms, V => putV xs ms (putV1 x m V)
  | _, _, V => V

theorem mem_plain {x : Str} {d : D} : ∀ {V : Vs}, (x, d) ∈ plainΓ V ↔ (x, .v d) ∈ V
  | [] => by simp [plainΓ]
  | (y, .v e) :: r => by simp [plainΓ, mem_plain (V := r)]
  | (y, .o es) :: r => by simp [plainΓ, mem_plain (V := r)]
theorem mem_all {x : Str} {d : D} : ∀ {V : Vs}, (x, d) ∈ allΓ V → (x, .v d) ∈ V ∨ ∃ ds, d = .list ds ∧ (x, .o ds) ∈ V
  | [], h => nomatch h
  | (y, .v e) :: r, h => by
    rcases List.mem_cons.mp h with q | q
    · cases q; exact .inl List.mem_cons_self
    · exact (mem_all q).imp (List.mem_cons_of_mem _) fun ⟨ds, e, m⟩ => ⟨ds, e, List.mem_cons_of_mem _ m⟩
  | (y, .o es) :: r, h => by
    rcases List.mem_cons.mp h with q | q
    · cases q; exact .inr ⟨es, rfl, List.mem_cons_self⟩
    · exact (mem_all q).imp (List.mem_cons_of_mem _) fun ⟨ds, e, m⟩ => ⟨ds, e, List.mem_cons_of_mem _ m⟩
theorem mem_ow {om : Str → Addr} {a : Addr} : ∀ {V : Vs}, a ∈ ow om V ↔ ∃ x ds, (x, .o ds) ∈ V ∧ a = om x
  | [] => by simp [ow]
  | (y, .v e) :: r => by simp [ow, mem_ow (V := r)]
  | (y, .o es) :: r => by
    rw [ow, List.mem_cons, mem_ow (V := r)]
    constructor
    · rintro (q | ⟨x, ds, m, q⟩)
      · exact ⟨y, es, List.mem_cons_self, q⟩
      · exact ⟨x, ds, List.mem_cons_of_mem _ m, q⟩
    · rintro ⟨x, ds, m, q⟩
      rcases List.mem_cons.mp m with z | m
      · cases z; exact .inl q
      · exact .inr ⟨x, ds, m, q⟩
theorem mem_subV {x y : Str} {m n : AV} : ∀ {V : Vs}, (y, n) ∈ subV x m V → (y = x ∧ n = m) ∨ ((y, n) ∈ V ∧ y ≠ x)
  | [], h => nomatch h
  | (z, k) :: r, h => by
    rcases List.mem_cons.mp h with q | q
    · by_cases e : x = z
      · subst e; simp at q; exact .inl q
      · have : (x == z) = false := beq_eq_false_iff_ne.mpr e
        rw [this] at q; cases q
        exact .inr ⟨List.mem_cons_self, fun w => e w.symm⟩
    · exact (mem_subV q).imp id fun ⟨a, b⟩ => ⟨List.mem_cons_of_mem _ a, b⟩
theorem mem_snocV {x y : Str} {m n : AV} : ∀ {V : Vs}, (y, n) ∈ snocV x m V → (y = x ∧ n = m) ∨ (y, n) ∈ V
  | [], h => by simp [snocV] at h; exact .inl h
  | p :: r, h => by
    rcases List.mem_cons.mp h with q | q
    · exact .inr (by rw [q]; exact List.mem_cons_self)
    · exact (mem_snocV q).imp id (List.mem_cons_of_mem _)
theorem not_hasV {x y : Str} {n : AV} : ∀ {V : Vs}, hasV x V = false → (y, n) ∈ V → y ≠ x
  | [], _, h => nomatch h
  | (z, k) :: r, e, h => by
    rw [hasV, Bool.or_eq_false_iff] at e
    rcases List.mem_cons.mp h with q | q
    · cases q; exact fun w => (beq_eq_false_iff_ne.mp e.1) w.symm
    · exact not_hasV e.2 q
theorem mem_putV1 {x y : Str} {m n : AV} {V : Vs} (h : (y, n) ∈ putV1 x m V) : (y = x ∧ n = m) ∨ ((y, n) ∈ V ∧ y ≠ x) := by
  unfold putV1 at h
  cases e : hasV x V with
  | true => rw [e, if_pos rfl] at h; exact mem_subV h
  | false => rw [e, if_neg (by decide)] at h; exact (mem_snocV h).imp id fun q => ⟨q, not_hasV e q⟩
theorem mem_putV {y : Str} {n : AV} : ∀ {xs : List Str} {ms : List AV} {V : Vs}, xs.length = ms.length → xs.Nodup → (y, n) ∈ putV xs ms V → (y, n) ∈ xs.zip ms ∨ ((y, n) ∈ V ∧ y ∉ xs)
  | [], [], V, _, _, h => .inr ⟨h, by simp⟩
  | [], _ :: _, _, hl, _, _ => by cases hl
  | _ :: _, [], _, hl, _, _ => by cases hl
  | x :: xs, m :: ms, V, hl, hnd, h => by
    have hnd' := List.nodup_cons.mp hnd
    rcases mem_putV (by simpa using hl) hnd'.2 h with q | ⟨q, nx⟩
    · exact .inl (List.mem_cons_of_mem _ q)
    · rcases mem_putV1 q with ⟨rfl, rfl⟩ | ⟨q, ne⟩
      · exact .inl List.mem_cons_self
      · exact .inr ⟨q, fun w => (List.mem_cons.mp w).elim ne nx⟩

/-- the name is the frame's own -/
noncomputable def isLoc (sc : Scope) (x : Str) : Prop := okName x ∧ (sc.names.lookup x = some .local ∨ sc.names.lookup x = some .cell)

/-- the frame's state in the heap h; P: what the frame's work leaves as it is -/
structure St (C : Cx) (env : Env) (own : List Addr) (P : Addr → Obj → Prop) (hid : List Addr) (V : Vs) (c : Int) (om : Str → Addr) (h : Heap) : Prop where
  now : Now C (ow om V ++ hid) h c
  old : ∀ b o, P b o → h.get? b = some o
  pβ : ∀ o, ¬ P C.β o
  fo : ∀ b ∈ own, Off C b ∧ (∀ o, ¬ P b o) ∧ ∃ o, h.get? b = some o ∧ ¬ DataObj o
  fw : ∀ b ∈ ow om V, Off C b ∧ ∀ o, ¬ P b o
  disj : ∀ a ∈ ow om V, a ∉ hid
  inj : ∀ x y ds es, (x, .o ds) ∈ V → (y, .o es) ∈ V → om x = om y → x = y
  sees : Sees C env (ow om V ++ hid) h (plainΓ V)
  owns : ∀ x ds, (x, .o ds) ∈ V → Holds env h x (.ref (om x)) ∧ ∃ vs n, IsL h (om x) vs.toArray n ∧ RepAll C.β (ow om V ++ hid) h vs ds
  can : ∀ x, isLoc env.scope x → Can env own h x


section
variable {C : Cx} {env : Env} {own : List Addr} {P : Addr → Obj → Prop} {hid : List Addr} {V : Vs} {c c' : Int} {om : Str → Addr} {h h' : Heap} {sc : Scope} {A : Around} {k : Nat}

theorem St.ext (st : St C env own P hid V c om h) (x : Ext C.β h h') (b : Bx C h' c') : St C env own P hid V c' om h' where
  now := st.now.ext x b
  old := fun b o e => x.keep b o (fun q => st.pβ o (q ▸ e)) (st.old b o e)
  pβ := st.pβ
  fo := fun b m => let ⟨a, b', o, e, nd⟩ := st.fo b m; ⟨a, b', o, x.keep b o a.β e, nd⟩
  fw := st.fw
  disj := st.disj
  inj := st.inj
  sees := st.sees.ext st.now x
  owns := fun y ds m => by
    obtain ⟨a, vs, n, hl, r⟩ := st.owns y ds m
    exact ⟨a.ext st.now x, vs, n, x.keep _ _ (st.fw _ (mem_ow.mpr ⟨y, ds, m, rfl⟩)).1.β hl, r.ext x⟩
  can := fun y m => (st.can y m).ext st.now x

/-- the view of all names, the owned lists as well -/
theorem St.all (st : St C env own P hid V c om h) : Now C hid h c ∧ Sees C env hid h (allΓ V) := by
  have sub : ∀ a ∈ hid, a ∈ ow om V ++ hid := fun a m => List.mem_append_right _ m
  refine ⟨st.now.sub sub, fun x d m => ?_⟩
  rcases mem_all m with m' | ⟨ds, rfl, m'⟩
  · obtain ⟨v, a, r⟩ := st.sees x d (mem_plain.mpr m')
    exact ⟨v, a, r.sub sub⟩
  · obtain ⟨a, vs, n, hl, r⟩ := st.owns x ds m'
    have f := st.fw _ (mem_ow.mpr ⟨x, ds, m', rfl⟩)
    exact ⟨_, a, .list (st.disj _ (mem_ow.mpr ⟨x, ds, m', rfl⟩)) f.1.β hl (r.sub sub)⟩

/-- values, some of them lists that none else names -/
inductive RepM (β : Addr) (H : List Addr) (h : Heap) : List Value → List AV → List Addr → Prop
  | nil : RepM β H h [] [] []
  | v {v : Value} {d : D} {vs : List Value} {ms : List AV} {as : List Addr} : Rep β H h v d → RepM β H h vs ms as → RepM β H h (v :: vs) (.v d :: ms) as
  | o {a : Addr} {us : List Value} {n : Nat} {ds : List D} {vs : List Value} {ms : List AV} {as : List Addr} : IsL h a us.toArray n → RepAll β H h us ds → RepM β H h vs ms as → RepM β H h (.ref a :: vs) (.o ds :: ms) (a :: as)

theorem RepM.length {β : Addr} {H : List Addr} {vs : List Value} {ms : List AV} {as : List Addr} (r : RepM β H h vs ms as) : vs.length = ms.length := by
  induction r with
  | nil => rfl
  | v _ _ ih => rw [List.length_cons, List.length_cons, ih]
  | o _ _ _ ih => rw [List.length_cons, List.length_cons, ih]
theorem RepM.map {β : Addr} {H : List Addr} {vs : List Value} {ms : List AV} {as : List Addr} (r : RepM β H h vs ms as) (hk : ∀ b o, DataObj o → h.get? b = some o → h'.get? b = some o) : RepM β H h' vs ms as := by
  induction r with
  | nil => exact .nil
  | v a _ ih => exact .v (a.map fun b o nh _ dd e => ⟨hk b o dd e, nh⟩) ih
  | o hl ra _ ih => exact .o (hk _ _ (dataL _ _) hl) (ra.map fun b o nh _ dd e => ⟨hk b o dd e, nh⟩) ih
theorem RepM.plain {β : Addr} {H : List Addr} {vs : List Value} {ds : List D} (r : RepAll β H h vs ds) : RepM β H h vs (ds.map .v) [] := by
  induction ds generalizing vs with
  | nil => cases r; exact .nil
  | cons d ds ih => cases r with | cons a r => exact .v a (ih r)

/-- the address behind a name -/
noncomputable def omOf (om : Str → Addr) : List Str → List Value → Str → Addr
  | x :: xs, .ref a :: vs, y => if y = x then a else omOf om xs vs y
  | x :: xs, _ :: vs, y => omOf om xs vs y
  | _, _, y => om y
theorem omOf_out (om : Str → Addr) {y : Str} : ∀ (xs : List Str) (vs : List Value), y ∉ xs → omOf om xs vs y = om y
  | [], _, _ => by cases ‹List Value› <;> rfl
  | x :: xs, [], _ => rfl
  | x :: xs, v :: vs, m => by
    have h1 : y ≠ x := fun q => m (by rw [q]; exact List.mem_cons_self)
    have h2 : y ∉ xs := fun q => m (List.mem_cons_of_mem _ q)
    cases v with
    | ref a => rw [omOf, if_neg h1]; exact omOf_out om xs vs h2
    | _ => exact omOf_out om xs vs h2
theorem omOf_in (om : Str → Addr) {H : List Addr} {β : Addr} : ∀ {xs : List Str} {vs : List Value} {ms : List AV} {as : List Addr}, RepM β H h vs ms as → xs.Nodup → xs.length = ms.length →
    (∀ y ds, (y, AV.o ds) ∈ xs.zip ms → (y, Value.ref (omOf om xs vs y)) ∈ xs.zip vs ∧ omOf om xs vs y ∈ as ∧ ∃ us n, IsL h (omOf om xs vs y) us.toArray n ∧ RepAll β H h us ds) ∧
    (∀ y d, (y, AV.v d) ∈ xs.zip ms → ∃ v, (y, v) ∈ xs.zip vs ∧ Rep β H h v d) ∧
    (as.Nodup → ∀ y z ds es, (y, AV.o ds) ∈ xs.zip ms → (z, AV.o es) ∈ xs.zip ms → omOf om xs vs y = omOf om xs vs z → y = z)
  | [], _, _, _, r, _, hl => by
    cases r with
    | nil => exact ⟨(fun _ _ q => nomatch q), (fun _ _ q => nomatch q), (fun _ _ _ _ _ q => nomatch q)⟩
    | _ => cases hl
  | x :: xs, _, _, _, .nil, _, hl => by cases hl
  | x :: xs, _, _, _, .v (v := v) (d := d) (vs := vs) (ms := ms) (as := as) a r, hnd, hl => by
    have hnd' := List.nodup_cons.mp hnd
    obtain ⟨i1, i2, i3⟩ := omOf_in om r hnd'.2 (by simpa using hl)
    have key : ∀ y, y ∈ xs → omOf om (x :: xs) (v :: vs) y = omOf om xs vs y := fun y m => by
      have : y ≠ x := fun q => hnd'.1 (q ▸ m)
      cases v with
      | ref a => rw [omOf, if_neg this]
      | _ => rfl
    refine ⟨fun y ds q => ?_, fun y d' q => ?_, fun an y z ds es q q' e => ?_⟩
    · rcases List.mem_cons.mp q with q | q
      · cases q
      · rw [key y (List.of_mem_zip q).1]
        obtain ⟨j1, j2, j3⟩ := i1 y ds q
        exact ⟨List.mem_cons_of_mem _ j1, j2, j3⟩
    · rcases List.mem_cons.mp q with q | q
      · cases q; exact ⟨v, List.mem_cons_self, a⟩
      · obtain ⟨u, m, ru⟩ := i2 y d' q
        exact ⟨u, List.mem_cons_of_mem _ m, ru⟩
    · rcases List.mem_cons.mp q with q | q
      · cases q
      · rcases List.mem_cons.mp q' with q' | q'
        · cases q'
        · rw [key y (List.of_mem_zip q).1, key z (List.of_mem_zip q').1] at e
          exact i3 an y z ds es q q' e
  | x :: xs, _, _, _, .o (a := a) (us := us) (n := n) (ds := ds₀) (vs := vs) (ms := ms) (as := as) hl' ra r, hnd, hl => by
    have hnd' := List.nodup_cons.mp hnd
    obtain ⟨i1, i2, i3⟩ := omOf_in om r hnd'.2 (by simpa using hl)
    have key : ∀ y, y ∈ xs → omOf om (x :: xs) (.ref a :: vs) y = omOf om xs vs y := fun y m => by
      have : y ≠ x := fun q => hnd'.1 (q ▸ m)
      rw [omOf, if_neg this]
    have kx : omOf om (x :: xs) (.ref a :: vs) x = a := by rw [omOf, if_pos rfl]
    refine ⟨fun y ds q => ?_, fun y d' q => ?_, fun an y z ds es q q' e => ?_⟩
    · rcases List.mem_cons.mp q with q | q
      · cases q; rw [kx]; exact ⟨List.mem_cons_self, List.mem_cons_self, us, n, hl', ra⟩
      · rw [key y (List.of_mem_zip q).1]
        obtain ⟨j1, j2, j3⟩ := i1 y ds q
        exact ⟨List.mem_cons_of_mem _ j1, List.mem_cons_of_mem _ j2, j3⟩
    · rcases List.mem_cons.mp q with q | q
      · cases q
      · obtain ⟨u, m, ru⟩ := i2 y d' q
        exact ⟨u, List.mem_cons_of_mem _ m, ru⟩
    · have an' := List.nodup_cons.mp an
      rcases List.mem_cons.mp q with q | q
      · cases q
        rcases List.mem_cons.mp q' with q' | q'
        · cases q'; rfl
        · rw [kx, key z (List.of_mem_zip q').1] at e
          exact absurd (e ▸ (i1 z es q').2.1) an'.1
      · rcases List.mem_cons.mp q' with q' | q'
        · cases q'
          rw [kx, key y (List.of_mem_zip q).1] at e
          exact absurd (e ▸ (i1 y ds q).2.1) an'.1
        · rw [key y (List.of_mem_zip q).1, key z (List.of_mem_zip q').1] at e
          exact i3 an'.2 y z ds es q q' e

/-- names stored -/
theorem St.put {h₀ : Heap} {c₀ : Int} {xs : List Str} {vs : List Value} {ms : List AV} {as : List Addr} (st : St C env own P hid V c₀ om h₀) (x : Ext C.β h₀ h) (bx : Bx C h c) (hnd : xs.Nodup) (hlen : xs.length = ms.length) (hr : RepM C.β (as ++ (ow om V ++ hid)) h vs ms as)
    (hf : ∀ a ∈ as, h₀.get? a = none ∧ ∃ o, h.get? a = some o) (an : as.Nodup) (hS : Stored env own h h') (hH : ∀ p ∈ xs.zip vs, Holds env h' p.1 p.2) (hold : ∀ y u, y ∉ xs → Holds env h y u → Holds env h' y u) :
    St C env own P hid (putV xs ms V) c (omOf om xs vs) h' := by
  obtain ⟨k1, k2, k3⟩ := omOf_in om hr hnd hlen
  have st1 := st.ext x bx
  have mem : ∀ {y n}, (y, n) ∈ putV xs ms V → (y, n) ∈ xs.zip ms ∨ ((y, n) ∈ V ∧ y ∉ xs) := fun q => mem_putV hlen hnd q
  have fas : ∀ a ∈ as, (Off C a ∧ ∀ o, ¬ P a o) ∧ a ∉ ow om V ∧ ∃ o, h.get? a = some o := fun a m => by
    obtain ⟨f1, f2⟩ := hf a m
    refine ⟨⟨st.now.off f1, fun o q => by rw [st.old a o q] at f1; cases f1⟩, fun q => ?_, f2⟩
    obtain ⟨o, e⟩ := st.now.live a (List.mem_append_left _ q); rw [f1] at e; cases e
  -- what is hidden now was hidden, or is new
  have hin : ∀ a ∈ ow (omOf om xs vs) (putV xs ms V), a ∈ as ∨ a ∈ ow om V := fun a m => by
    obtain ⟨y, ds, q, rfl⟩ := mem_ow.mp m
    rcases mem q with q | ⟨q, nx⟩
    · exact .inl (k1 y ds q).2.1
    · rw [omOf_out om xs vs nx]; exact .inr (mem_ow.mpr ⟨y, ds, q, rfl⟩)
  have hsub : ∀ a ∈ ow (omOf om xs vs) (putV xs ms V) ++ hid, a ∈ as ++ (ow om V ++ hid) := fun a m => by
    rcases List.mem_append.mp m with m | m
    · exact (hin a m).elim (fun q => List.mem_append_left _ q) fun q => List.mem_append_right _ (List.mem_append_left _ q)
    · exact List.mem_append_right _ (List.mem_append_right _ m)
  have fw' : ∀ b ∈ ow (omOf om xs vs) (putV xs ms V), Off C b ∧ ∀ o, ¬ P b o := fun b m => (hin b m).elim (fun q => (fas b q).1) (st.fw b)
  have data : ∀ {H : List Addr} {v : Value} {d : D}, Rep C.β H h v d → Rep C.β H h' v d := fun r => r.map fun b o nh _ dd e => ⟨hS.data b o dd e, nh⟩
  have dataA : ∀ {H : List Addr} {v : List Value} {d : List D}, RepAll C.β H h v d → RepAll C.β H h' v d := fun r => r.map fun b o nh _ dd e => ⟨hS.data b o dd e, nh⟩
  -- old values: none of the new lists lies in them
  have notas : ∀ b o, h₀.get? b = some o → b ∉ as := fun b o e m => by rw [(hf b m).1] at e; cases e
  refine ⟨?_, ?_, st.pβ, (fun b m => let ⟨a1, a2, _⟩ := st1.fo b m; ⟨a1, a2, hS.nd b (st1.fo b m).2.2⟩), fw', (fun a m q => (hin a m).elim (fun z => by obtain ⟨o, e⟩ := st.now.live a (List.mem_append_right _ q); rw [(hf a z).1] at e; cases e) fun z => st.disj a z q), ?_, ?_, ?_, fun y m => hS.can y (st1.can y m)⟩
  · have n1 : Now C (as ++ (ow om V ++ hid)) h c := by
      refine ⟨st1.now.ok, st1.now.base, st1.now.box, st1.now.first, st1.now.αβ, fun m => ?_, fun a m => ?_⟩
      · rcases List.mem_append.mp m with m | m
        · exact (fas _ m).1.1.α rfl
        · exact st1.now.αh m
      · exact (List.mem_append.mp m).elim (fun m => (fas a m).2.2) (st1.now.live a)
    exact (n1.but' (fun b m => (st.fo b m).1) hS.but fun a m => .inr (hS.live a (n1.live a m))).sub hsub
  · intro b o e
    exact hS.but b o (fun m => (st.fo b m).2.1 o e) (st1.old b o e)
  · intro y z ds es q q' e
    rcases mem q with q | ⟨q, nx⟩
    · rcases mem q' with q' | ⟨q', nx'⟩
      · exact k3 an y z ds es q q' e
      · rw [omOf_out om xs vs nx'] at e
        exact absurd (mem_ow.mpr ⟨z, es, q', rfl⟩) (e ▸ (fas _ (k1 y ds q).2.1).2.1)
    · rcases mem q' with q' | ⟨q', nx'⟩
      · rw [omOf_out om xs vs nx] at e
        exact absurd (mem_ow.mpr ⟨y, ds, q, rfl⟩) (e ▸ (fas _ (k1 z es q').2.1).2.1)
      · rw [omOf_out om xs vs nx, omOf_out om xs vs nx'] at e
        exact st.inj y z ds es q q' e
  · intro y d m
    rcases mem (mem_plain.mp m) with q | ⟨q, nx⟩
    · obtain ⟨v, mv, rv⟩ := k2 y d q
      exact ⟨v, hH _ mv, (data rv).sub hsub⟩
    · obtain ⟨v, a, r⟩ := st.sees y d (mem_plain.mpr q)
      have r' : Rep C.β (as ++ (ow om V ++ hid)) h v d := r.map fun b o nh nb dd e => ⟨x.keep b o nb e, fun m => (List.mem_append.mp m).elim (notas b o e) nh⟩
      exact ⟨v, hold y v nx (a.ext st.now x), (data r').sub hsub⟩
  · intro y ds m
    rcases mem m with q | ⟨q, nx⟩
    · obtain ⟨j1, j2, us, n, hl, ra⟩ := k1 y ds q
      exact ⟨hH _ j1, us, n, hS.data _ _ (dataL _ _) hl, (dataA ra).sub hsub⟩
    · obtain ⟨a, us, n, hl, ra⟩ := st.owns y ds q
      rw [omOf_out om xs vs nx]
      have nβ := (st.fw _ (mem_ow.mpr ⟨y, ds, q, rfl⟩)).1.β
      have r' : RepAll C.β (as ++ (ow om V ++ hid)) h us ds := ra.map fun b o nh nb dd e => ⟨x.keep b o nb e, fun m => (List.mem_append.mp m).elim (notas b o e) nh⟩
      exact ⟨hold y _ nx (a.ext st.now x), us, n, hS.data _ _ (dataL _ _) (x.keep _ _ nβ hl), (dataA r').sub hsub⟩

/-- an owned list changed in place -/
theorem St.mut {x : Str} {ds ds' : List D} {us : List Value} {n : Nat} (st : St C env own P hid V c om h) (hx : (x, .o ds) ∈ V) (hs : Heap.SameBut (om x) h h') (hl : IsL h' (om x) us.toArray n) (hr : RepAll C.β (ow om V ++ hid) h us ds') :
    St C env own P hid (putV [x] [.o ds'] V) c om h' := by
  have hox : om x ∈ ow om V := mem_ow.mpr ⟨x, ds, hx, rfl⟩
  have mem : ∀ {y n}, (y, n) ∈ putV [x] [.o ds'] V → (y = x ∧ n = .o ds') ∨ ((y, n) ∈ V ∧ y ≠ x) := fun q => mem_putV1 q
  obtain ⟨_, us₀, n₀, hl₀, _⟩ := st.owns x ds hx
  have bt : But [om x] h h' := but_same hs
  have fw1 : ∀ b ∈ [om x], Off C b := fun b m => by rw [List.mem_singleton.mp m]; exact (st.fw _ hox).1
  have nofr : ∀ b ∈ [om x], ∀ o, h.get? b = some o → (∀ es n, o.data ≠ .dict es n) ∧ ∀ v, o.data ≠ .cell v := fun b m o e => by
    rw [List.mem_singleton.mp m, hl₀] at e; cases e
    exact ⟨(fun _ _ q => nomatch q), (fun _ q => nomatch q)⟩
  have up : ∀ b o, b ∉ ow om V ++ hid → b ≠ C.β → DataObj o → h.get? b = some o → h'.get? b = some o := fun b o nh _ _ e => hs.extBut b o (fun q => nh (by rw [q]; exact List.mem_append_left _ hox)) e
  have hsub : ∀ a ∈ ow om (putV [x] [.o ds'] V) ++ hid, a ∈ ow om V ++ hid := fun a m => by
    rcases List.mem_append.mp m with m | m
    · obtain ⟨y, es, q, rfl⟩ := mem_ow.mp m
      rcases mem q with ⟨rfl, _⟩ | ⟨q, _⟩
      · exact List.mem_append_left _ hox
      · exact List.mem_append_left _ (mem_ow.mpr ⟨y, es, q, rfl⟩)
    · exact List.mem_append_right _ m
  have holds : ∀ {y v}, Holds env h y v → Holds env h' y v := fun a => by
    refine ⟨a.plain, ?_⟩
    rcases a.is with ⟨a1, mm, a2, a3⟩ | ⟨a1, cc, a2, a3⟩
    · obtain ⟨o, es, ep, ho, hdd, rest⟩ := a2
      exact .inl ⟨a1, mm, ⟨o, es, ep, bt _ _ (fun z => (nofr _ z _ ho).1 _ _ hdd) ho, hdd, rest⟩, a3⟩
    · obtain ⟨o, ho, hdd⟩ := a3
      exact .inr ⟨a1, cc, a2, o, bt _ _ (fun z => (nofr _ z _ ho).2 _ hdd) ho, hdd⟩
  have hsub' : ∀ a ∈ ow om (putV [x] [.o ds'] V), a ∈ ow om V := fun a m => by
    obtain ⟨y, es, q, rfl⟩ := mem_ow.mp m
    rcases mem q with ⟨rfl, _⟩ | ⟨q, _⟩
    · exact hox
    · exact mem_ow.mpr ⟨y, es, q, rfl⟩
  refine ⟨(st.now.but' fw1 bt fun a m => ?_).sub hsub, ?_, st.pβ, (fun b m => ?_), fun b m => st.fw b (hsub' b m), fun a m => st.disj a (hsub' a m), ?_, ?_, ?_, fun y m => (st.can y m).but bt nofr⟩
  · by_cases q : a = om x
    · subst q; exact .inr ⟨_, hl⟩
    · exact .inl (by simp [q])
  · intro b o e
    exact hs.extBut b o (fun q => (st.fw _ hox).2 o (q ▸ e)) (st.old b o e)
  · obtain ⟨a1, a2, o, e, nd⟩ := st.fo b m
    refine ⟨a1, a2, o, hs.extBut b o (fun q => ?_) e, nd⟩
    rw [q, hl₀] at e; cases e; exact nd (dataL _ _)
  · intro y z es gs q q' e
    rcases mem q with ⟨w, _⟩ | ⟨q1, _⟩
    · rcases mem q' with ⟨w', _⟩ | ⟨q1', _⟩
      · rw [w, w']
      · rw [w] at e ⊢; exact st.inj _ _ _ _ hx q1' e
    · rcases mem q' with ⟨w', _⟩ | ⟨q1', _⟩
      · rw [w'] at e ⊢; exact st.inj _ _ _ _ q1 hx e
      · exact st.inj _ _ _ _ q1 q1' e
  · intro y d m
    rcases mem (mem_plain.mp m) with ⟨_, q⟩ | ⟨q, _⟩
    · cases q
    · obtain ⟨v, a, r⟩ := st.sees y d (mem_plain.mpr q)
      exact ⟨v, holds a, (r.map fun b o nh nb dd e => ⟨up b o nh nb dd e, nh⟩).sub hsub⟩
  · intro y es m
    rcases mem m with ⟨rfl, q⟩ | ⟨q, ne⟩
    · cases q
      exact ⟨holds (st.owns _ _ hx).1, us, n, hl, (hr.map fun b o nh nb dd e => ⟨up b o nh nb dd e, nh⟩).sub hsub⟩
    · obtain ⟨a, vs', n', hl', r⟩ := st.owns y es q
      exact ⟨holds a, vs', n', hs.extBut _ _ (fun e => ne (st.inj _ _ _ _ q hx e)) hl', (r.map fun b o nh nb dd e => ⟨up b o nh nb dd e, nh⟩).sub hsub⟩

/-- a part of what is hidden unhidden -/
theorem St.unhide {hid' : List Addr} (st : St C env own P hid V c om h) (hh : ∀ a ∈ hid', a ∈ hid) : St C env own P hid' V c om h := by
  have sub : ∀ a ∈ ow om V ++ hid', a ∈ ow om V ++ hid := fun a m => (List.mem_append.mp m).elim (fun q => List.mem_append_left _ q) fun q => List.mem_append_right _ (hh a q)
  refine ⟨st.now.sub sub, st.old, st.pβ, st.fo, st.fw, fun a m q => st.disj a m (hh a q), st.inj, fun y d m => ?_, fun y ds m => ?_, st.can⟩
  · obtain ⟨v, a, r⟩ := st.sees y d m
    exact ⟨v, a, r.sub sub⟩
  · obtain ⟨a, vs, n, hl, r⟩ := st.owns y ds m
    exact ⟨a, vs, n, hl, r.sub sub⟩
/-- addresses made since, now hidden -/
theorem St.hide {wr : List Addr} (st : St C env own P hid V c om h) (keep : ∀ b o, h.get? b = some o → h'.get? b = some o) (hw : ∀ b ∈ wr, h.get? b = none) (live : ∀ b ∈ wr, ∃ o, h'.get? b = some o) : St C env own P (wr ++ hid) V c om h' := by
  have s2 := st.ext (.of_keeps keep) (st.now.box.keep fun o e => keep _ _ e)
  have nw : ∀ b o, h.get? b = some o → b ∉ wr := fun b o e m => by rw [hw b m] at e; cases e
  refine ⟨⟨s2.now.ok, s2.now.base, s2.now.box, s2.now.first, s2.now.αβ, fun m => ?_, fun a m => ?_⟩, s2.old, s2.pβ, s2.fo, s2.fw, fun a m q => ?_, s2.inj, fun y d m => ?_, fun y ds m => ?_, s2.can⟩
  · rcases List.mem_append.mp m with m | m
    · exact s2.now.αh (List.mem_append_left _ m)
    · rcases List.mem_append.mp m with m | m
      · exact (st.now.off (hw _ m)).α rfl
      · exact s2.now.αh (List.mem_append_right _ m)
  · rcases List.mem_append.mp m with m | m
    · exact s2.now.live a (List.mem_append_left _ m)
    · rcases List.mem_append.mp m with m | m
      · exact live a m
      · exact s2.now.live a (List.mem_append_right _ m)
  · rcases List.mem_append.mp q with q | q
    · obtain ⟨o, e⟩ := st.now.live a (List.mem_append_left _ m); exact nw a o e q
    · exact st.disj a m q
  · obtain ⟨v, a, r⟩ := st.sees y d m
    refine ⟨v, a.keeps keep, r.map fun b o nh nb dd e => ⟨keep b o e, fun m => ?_⟩⟩
    rcases List.mem_append.mp m with m | m
    · exact nh (List.mem_append_left _ m)
    · rcases List.mem_append.mp m with m | m
      · exact nw b o e m
      · exact nh (List.mem_append_right _ m)
  · obtain ⟨a, vs, n, hl, r⟩ := st.owns y ds m
    refine ⟨a.keeps keep, vs, n, keep _ _ hl, r.map fun b o nh nb dd e => ⟨keep b o e, fun m => ?_⟩⟩
    rcases List.mem_append.mp m with m | m
    · exact nh (List.mem_append_left _ m)
    · rcases List.mem_append.mp m with m | m
      · exact nw b o e m
      · exact nh (List.mem_append_right _ m)

/-- a change of hidden addresses -/
theorem St.but {wr : List Addr} (st : St C env own P (wr ++ hid) V c om h) (hw : ∀ b ∈ wr, Off C b ∧ ∀ o, ¬ P b o) (x : But wr h h')
    (fr : ∀ b ∈ wr, ∀ o, h.get? b = some o → (∀ es n, o.data ≠ .dict es n) ∧ ∀ v, o.data ≠ .cell v) (live : ∀ b ∈ wr, ∃ o, h'.get? b = some o) (oo : ∀ b ∈ own, b ∉ wr) : St C env own P (wr ++ hid) V c om h' := by
  have up : ∀ b o, b ∉ ow om V ++ (wr ++ hid) → b ≠ C.β → DataObj o → h.get? b = some o → h'.get? b = some o := fun b o nh _ _ e => x b o (fun m => nh (List.mem_append_right _ (List.mem_append_left _ m))) e
  refine ⟨st.now.but' (fun b m => (hw b m).1) x fun a m => ?_, fun b o e => x b o (fun m => (hw b m).2 o e) (st.old b o e), st.pβ, (fun b m => let ⟨a1, a2, o, e, nd⟩ := st.fo b m; ⟨a1, a2, o, x b o (oo b m) e, nd⟩), st.fw, st.disj, st.inj, st.sees.but x fr up, fun y ds m => ?_, fun y m => (st.can y m).but x fr⟩
  · by_cases q : a ∈ wr
    · exact .inr (live a q)
    · exact .inl q
  · obtain ⟨a, vs, n, hl, r⟩ := st.owns y ds m
    refine ⟨⟨a.plain, ?_⟩, vs, n, x _ _ (fun w => st.disj _ (mem_ow.mpr ⟨y, ds, m, rfl⟩) (List.mem_append_left _ w)) hl, r.map fun b o nh nb dd e => ⟨up b o nh nb dd e, nh⟩⟩
    rcases a.is with ⟨a1, mm, a2, a3⟩ | ⟨a1, cc, a2, a3⟩
    · obtain ⟨o, es, ep, ho, hdd, rest⟩ := a2
      exact .inl ⟨a1, mm, ⟨o, es, ep, x _ _ (fun z => (fr _ z _ ho).1 _ _ hdd) ho, hdd, rest⟩, a3⟩
    · obtain ⟨o, ho, hdd⟩ := a3
      exact .inr ⟨a1, cc, a2, o, x _ _ (fun z => (fr _ z _ ho).2 _ hdd) ho, hdd⟩

/-- more, or less, to be left as it is -/
theorem St.re {P' : Addr → Obj → Prop} (st : St C env own P hid V c om h) (ho : ∀ b o, P' b o → h.get? b = some o) (hβ : ∀ o, ¬ P' C.β o) (hown : ∀ b ∈ own, ∀ o, ¬ P' b o) (how : ∀ b ∈ ow om V, ∀ o, ¬ P' b o) : St C env own P' hid V c om h :=
  ⟨st.now, ho, hβ, fun b m => ⟨(st.fo b m).1, hown b m, (st.fo b m).2.2⟩, fun b m => ⟨(st.fw b m).1, how b m⟩, st.disj, st.inj, st.sees, st.owns, st.can⟩
end
/-! ## Triples of statements: stores -/
inductive Out where
  | nx (V : Vs) (c : Int)
  | rt (d : D) (c : Int)

noncomputable def Post (C : Cx) (env : Env) (own : List Addr) (P : Addr → Obj → Prop) (hid : List Addr) (s : Shared) (Q : Flow → Shared → Prop) : Out → Prop
  | .nx V c => ∀ om h' tk, St C env own P hid V c om h' → Q .next { s with heap := h', toks := tk }
  | .rt d c => ∀ v h' tk, Now C hid h' c → (∀ b o, P b o → h'.get? b = some o) → Rep C.β hid h' v d → Q (.ret v) { s with heap := h', toks := tk }

noncomputable def Ex (C : Cx) (k : Nat) (sc : Scope) (V : Vs) (c : Int) (e : Stmt) (o : Out) : Prop :=
  ∀ (A : Around) (env : Env) (own : List Addr) (P : Addr → Obj → Prop) (hid : List Addr) (om : Str → Addr) (s : Shared) (Q : Flow → Shared → Prop) (E : Value → Shared → Prop),
    Room A k → EnvOK env sc → St C env own P hid V c om s.heap → Post C env own P hid s Q o → wpAny (model C.prog C.w) A (exec e env) Q E s
noncomputable def Exs (C : Cx) (k : Nat) (sc : Scope) (V : Vs) (c : Int) (es : List Stmt) (o : Out) : Prop :=
  ∀ (A : Around) (env : Env) (own : List Addr) (P : Addr → Obj → Prop) (hid : List Addr) (om : Str → Addr) (s : Shared) (Q : Flow → Shared → Prop) (E : Value → Shared → Prop),
    Room A k → EnvOK env sc → St C env own P hid V c om s.heap → Post C env own P hid s Q o → wpAny (model C.prog C.w) A (execs es env) Q E s

noncomputable def Atomic : D → Prop
  | .none | .bool _ | .int _ | .str _ => True
  | _ => False
theorem Rep.atomic {β : Addr} {hid hid' : List Addr} {h h' : Heap} {v : Value} {d : D} (a : Atomic d) (r : Rep β hid h v d) : Rep β hid' h' v d := by
  cases r with
  | none => exact .none
  | bool => exact .bool _
  | int => exact .int _ _
  | str => exact .str _ _
  | _ => exact a.elim

section
variable {C : Cx} {k : Nat} {sc : Scope} {V : Vs} {c c₁ c₂ : Int} {env : Env} {own : List Addr} {P : Addr → Obj → Prop} {hid : List Addr} {om : Str → Addr} {A : Around} {E : Value → Shared → Prop} {s : Shared}

theorem Exs.nil : Exs C k sc V c [] (.nx V c) := fun A env own P hid om s Q E R O st hQ => wpAny_execs_nil (hQ om s.heap s.toks st)
theorem Exs.cons {e : Stmt} {es : List Stmt} {V₁ : Vs} {o : Out} (h : Ex C k sc V c e (.nx V₁ c₁)) (hr : Exs C k sc V₁ c₁ es o) : Exs C k sc V c (e :: es) o := fun A env own P hid om s Q E R O st hQ =>
  wpAny_execs_cons (h A env own P hid om s _ E R O st fun om' h' tk st' => hr A env own P hid om' _ Q E R O st' (by cases o <;> exact hQ))
theorem Exs.ret {e : Stmt} {es : List Stmt} {d : D} (h : Ex C k sc V c e (.rt d c₁)) : Exs C k sc V c (e :: es) (.rt d c₁) := fun A env own P hid om s Q E R O st hQ =>
  wpAny_execs_cons (h A env own P hid om s _ E R O st fun v h' tk n k r => hQ v h' tk n k r)

theorem O.fn (O : EnvOK env sc) : env.scope.kind = .function := by rw [O.is]; exact O.kind

/-- one name stored, behind what gave its value -/
theorem St.store1 {h₀ : Heap} {c₀ : Int} {x : Str} {v : Value} {m : AV} {as : List Addr} {Q : Unit → Shared → Prop} (st : St C env own P hid V c₀ om h₀) (O : EnvOK env sc) (hl : isLoc sc x) (xt : Ext C.β h₀ s.heap) (bx : Bx C s.heap c)
    (hr : RepM C.β (as ++ (ow om V ++ hid)) s.heap [v] [m] as) (hf : ∀ a ∈ as, h₀.get? a = none ∧ ∃ o, s.heap.get? a = some o) (an : as.Nodup)
    (hQ : ∀ om' h' tk, Stored env own s.heap h' → St C env own P hid (putV [x] [m] V) c om' h' → Q () { s with heap := h', toks := tk }) : wpAny (model C.prog C.w) A (storeName env x v) Q E s := by
  have hl' : isLoc env.scope x := by rw [O.is]; exact hl
  refine store_wp (Mine.O.fn O) hl.1 ((st.ext xt bx).can x hl') O.apart fun h' tk S hx hold => ?_
  have st' := st.put (xs := [x]) (as := as) xt bx (by simp) rfl hr hf an S (fun p hp => by simp at hp; subst hp; exact hx) fun y u hy hu => hold y u (fun q => hy (by simp [q])) hu
  exact hQ _ h' tk S st'

theorem Ex.set {x : Str} {p pos : Pos} {value : Expr} {d : D} (h : Ev C k sc (plainΓ V) c value d c₁) (hl : isLoc sc x)
    (hs : ∀ env : Env, env.scope = sc → swapsWith value (some (.Name x p)) pos.line env = pure false := by intro _ _; rfl) : Ex C k sc V c (.Assign [.Name x p] value pos) (.nx (putV [x] [.v d] V) c₁) := fun A env own P hid om s Q E R O st hQ =>
  wpAny_Assign_Name (hs := hs env O.is) (h A env _ s _ E R O st.now st.sees fun v h' tk xt bx r => st.store1 (as := []) O hl xt bx (.v r .nil) (fun _ q => nomatch q) (by simp) fun om' h'' tk' _ st' => hQ om' h'' tk' st')
/-- a value without a list in it may be found through the frame's own lists -/
theorem Ex.setA {x : Str} {p pos : Pos} {value : Expr} {d : D} (h : Ev C k sc (allΓ V) c value d c₁) (ha : Atomic d := by trivial) (hl : isLoc sc x)
    (hs : ∀ env : Env, env.scope = sc → swapsWith value (some (.Name x p)) pos.line env = pure false := by intro _ _; rfl) : Ex C k sc V c (.Assign [.Name x p] value pos) (.nx (putV [x] [.v d] V) c₁) := fun A env own P hid om s Q E R O st hQ =>
  wpAny_Assign_Name (hs := hs env O.is) (h A env _ s _ E R O st.all.1 st.all.2 fun v h' tk xt bx r => st.store1 (as := []) O hl xt bx (.v (r.atomic ha) .nil) (fun _ q => nomatch q) (by simp) fun om' h'' tk' _ st' => hQ om' h'' tk' st')
/-- a fresh list is the frame's own -/
theorem Ex.setO {x : Str} {p pos : Pos} {value : Expr} {ds : List D} (h : EvF C k sc (plainΓ V) c value ds c₁) (hl : isLoc sc x)
    (hs : ∀ env : Env, env.scope = sc → swapsWith value (some (.Name x p)) pos.line env = pure false := by intro _ _; rfl) : Ex C k sc V c (.Assign [.Name x p] value pos) (.nx (putV [x] [.o ds] V) c₁) := fun A env own P hid om s Q E R O st hQ =>
  wpAny_Assign_Name (hs := hs env O.is) (h A env _ s _ E R O st.now st.sees fun a vs n h' tk xt bx fr hL r => st.store1 (as := [a]) O hl xt bx (.o hL r .nil)
    (fun b q => by rw [List.mem_singleton.mp q]; exact ⟨fr, _, hL⟩) (by simp) fun om' h'' tk' _ st' => hQ om' h'' tk' st')

/-- x += e -/
theorem Ex.aug {x : Str} {p pos : Pos} {op : Operator} {value : Expr} {a b : Int} (hx : (x, AV.v (.int a)) ∈ V) (h : Ev C k sc (allΓ V) c value (.int b) c₁) (hop : op = .Add) (hl : isLoc sc x) (hk : 1 ≤ k := by omega) :
    Ex C k sc V c (.AugAssign (.Name x p) op value pos) (.nx (putV [x] [.v (.int (a + b))] V) c₁) := fun A env own P hid om s Q E R O st hQ => by
  subst hop
  obtain ⟨v, q, r⟩ := st.sees x _ (mem_plain.mpr hx)
  cases r with
  | int _ t =>
    have hkf := Mine.O.fn O
    have go : ∀ s' : Shared, s' = s → wpAny (model C.prog C.w) A (eval value env) (fun v s₂ => wpAny (model C.prog C.w) A (inplaceOp .Add (.int a t) v) (fun r s₃ => wpAny (model C.prog C.w) A (storeName env x r) (fun _ => Q .next) E s₃) E s₂) E s' := by
      rintro s' rfl
      refine h A env _ _ _ E R O st.all.1 st.all.2 fun v h' tk xt bx r => ?_
      cases r with
      | int _ u =>
        refine wpAny_iadd_int ?_
        exact st.store1 (as := []) O hl xt bx (.v (.int _ _) .nil) (fun _ q => nomatch q) (by simp) fun om' h'' tk' _ st' => hQ om' h'' tk' st'
    refine wpAny_AugAssign_Name ?_
    rcases q.is with ⟨a1, mm, hn, e⟩ | ⟨a1 | a1, cc, hc, hv⟩
    · exact wpAny_loadName_local hkf a1 hn e (go _ rfl)
    · exact wpAny_loadName_cell hkf a1 hc hv (go _ rfl)
    · exact wpAny_loadName_free hkf a1 hc hv (go _ rfl) q.plain.2

/-! rows of values, fresh lists among them -/
noncomputable def EvM (C : Cx) (k : Nat) (sc : Scope) (Γ : List (Str × D)) (c : Int) (es : List Expr) (ms : List AV) (c' : Int) : Prop :=
  PlainL es ∧ ∀ (A : Around) (env : Env) (hid : List Addr) (s : Shared) (Q : List Value → Shared → Prop) (E : Value → Shared → Prop) (pos : Pos),
    Room A k → EnvOK env sc → Now C hid s.heap c → Sees C env hid s.heap Γ →
    (∀ vs as h' tk, Ext C.β s.heap h' → Bx C h' c' → as.Nodup → (∀ a ∈ as, s.heap.get? a = none ∧ ∃ o, h'.get? a = some o) → RepM C.β (as ++ hid) h' vs ms as → Q vs { s with heap := h', toks := tk }) →
    wpAny (model C.prog C.w) A (spliced (backTo pos (starEach es env))) Q E s

theorem RepM.sub {β : Addr} {H H' : List Addr} {h : Heap} {vs : List Value} {ms : List AV} {as : List Addr} (r : RepM β H h vs ms as) (hh : ∀ a ∈ H', a ∈ H) : RepM β H' h vs ms as := by
  induction r with
  | nil => exact .nil
  | v a _ ih => exact .v (a.sub hh) ih
  | o hl ra _ ih => exact .o hl (ra.sub hh) ih

variable {Γ : List (Str × D)}
theorem EvM.nil : EvM C k sc Γ c [] [] c := ⟨fun _ _ => rfl, fun A env hid s Q E pos R O N S hQ => wpAny_items_nil (hQ [] [] s.heap s.toks (.refl _ _) N.box (by simp) (fun _ q => nomatch q) .nil)⟩
theorem EvM.v {e : Expr} {es : List Expr} {d : D} {ms : List AV} (h : Ev C k sc Γ c e d c₁) (hr : EvM C k sc Γ c₁ es ms c₂) (he : ∀ env, starEach (e :: es) env = (false, eval e env) :: starEach es env := by intro _; rfl) :
    EvM C k sc Γ c (e :: es) (.v d :: ms) c₂ :=
  ⟨fun env pos => by rw [he env, List.map_cons, ← hr.1 env pos]; rfl, fun A env hid s Q E pos R O N S hQ =>
  wpAny_items_cons (he := he env) (h A env hid s _ E R O N S fun v h' tk x bx r =>
    hr.2 A env hid _ _ E pos R O (N.ext x bx) (S.ext N x) fun vs as h'' tk' x' bx' nd hf r' => hQ (v :: vs) as h'' tk' (x.trans x') bx' nd (fun a m => ⟨N.fresh_back x bx (hf a m).1, (hf a m).2⟩)
      (.v (r.map fun b o nh nb _ e => ⟨x'.keep b o nb e, fun m => (List.mem_append.mp m).elim (fun q => by rw [(hf b q).1] at e; cases e) nh⟩) r'))⟩
theorem EvM.o {e : Expr} {es : List Expr} {ds : List D} {ms : List AV} (h : EvF C k sc Γ c e ds c₁) (hr : EvM C k sc Γ c₁ es ms c₂) (he : ∀ env, starEach (e :: es) env = (false, eval e env) :: starEach es env := by intro _; rfl) :
    EvM C k sc Γ c (e :: es) (.o ds :: ms) c₂ :=
  ⟨fun env pos => by rw [he env, List.map_cons, ← hr.1 env pos]; rfl, fun A env hid s Q E pos R O N S hQ =>
  wpAny_items_cons (he := he env) (h A env hid s _ E R O N S fun a us n h' tk x bx fr hl r => by
    have N' := N.ext x bx
    have fa := N.fresh fr
    have N1 : Now C (a :: hid) h' c₁ := ⟨N'.ok, N'.base, N'.box, N'.first, N'.αβ, (fun m => (List.mem_cons.mp m).elim (fun q => fa.2.2 q.symm) N'.αh), fun b m => (List.mem_cons.mp m).elim (fun q => ⟨_, q ▸ hl⟩) (N'.live b)⟩
    have S1 : Sees C env (a :: hid) h' Γ := fun y d m => by
      obtain ⟨v, q, r⟩ := S y d m
      exact ⟨v, q.ext N x, r.map fun b o nh nb _ e => ⟨x.keep b o nb e, fun m => (List.mem_cons.mp m).elim (fun q => by rw [q, fr] at e; cases e) nh⟩⟩
    refine hr.2 A env (a :: hid) _ _ E pos R O N1 S1 fun vs as h'' tk' x' bx' nd hf r' => ?_
    have nas : ∀ b o, h'.get? b = some o → b ∉ as := fun b o e m => by rw [(hf b m).1] at e; cases e
    have sw : ∀ b ∈ (a :: as) ++ hid, b ∈ as ++ (a :: hid) := fun b m => by
      simp only [List.mem_append, List.mem_cons] at m ⊢
      rcases m with (m | m) | m
      · exact .inr (.inl m)
      · exact .inl m
      · exact .inr (.inr m)
    refine hQ (.ref a :: vs) (a :: as) h'' tk' (x.trans x') bx' (List.nodup_cons.mpr ⟨nas a _ hl, nd⟩) (fun b m => ?_) (.o (x'.keep _ _ fa.2.1 hl) ?_ (r'.sub sw))
    · rcases List.mem_cons.mp m with rfl | m
      · exact ⟨fr, _, x'.keep _ _ fa.2.1 hl⟩
      · exact ⟨N.fresh_back x bx (hf b m).1, (hf b m).2⟩
    · refine r.map fun b o nh nb _ e => ⟨x'.keep b o nb e, fun m => ?_⟩
      rcases List.mem_append.mp m with m | m
      · rcases List.mem_cons.mp m with q | m
        · exact nh (by rw [q]; exact List.mem_cons_self)
        · exact nas b o e m
      · exact nh (List.mem_cons_of_mem _ m))⟩

theorem zip_rev {α β : Type} {l : List α} {r : List β} (h : l.length = r.length) : l.reverse.zip r.reverse = (l.zip r).reverse := by
  rw [List.zip_eq_zipWith, List.zip_eq_zipWith, List.reverse_zipWith h]
theorem zip_fst {α : Type} {y : Str} {u : α} : ∀ {xs : List Str} {vs : List α}, (y, u) ∈ xs.zip vs → y ∈ xs := fun m => (List.of_mem_zip m).1

/-- what follows the making of the tuple -/
theorem tup_push {Q : Value → Shared → Prop} {es : List Expr} {ms : List AV} {n : Nat} {pos : Pos} (st : St C env own P hid V c om s.heap) (R : Room A k) (O : EnvOK env sc) (h : EvM C k sc (plainΓ V) c es ms c₁) (hz : ms.length ≤ 1000)
    (hQ : ∀ a vs as h' tk, Ext C.β s.heap h' → Bx C h' c₁ → as.Nodup → (∀ a ∈ as, s.heap.get? a = none ∧ ∃ o, h'.get? a = some o) → RepM C.β (as ++ (ow om V ++ hid)) h' vs ms as → IsT h' a vs.toArray 0 → Q (.ref a) { s with heap := h', toks := tk }) :
    wpAny (model C.prog C.w) A (eval (.Tuple es n pos) env) Q E s :=
  wpAny_Tuple (h.2 A env _ s _ E pos R O st.now st.sees fun vs as h' tk x bx nd hf r => by
    have kp : ∀ b o, h'.get? b = some o → (h'.push { cls := .type "tuple", data := .seq vs.toArray }).get? b = some o := fun b o e => Heap.get?_push_of_some _ e
    refine ⟨by rw [r.length, sizeLine_eq]; omega, hQ _ vs as _ tk (x.trans (.of_keeps kp)) (bx.keep fun o e => kp _ _ e) nd (fun a m => ⟨(hf a m).1, let ⟨o, e⟩ := (hf a m).2; ⟨o, kp _ _ e⟩⟩) (r.map fun b o _ e => kp _ _ e) ?_⟩
    exact Heap.get?_push_size _ rfl)

/-- xs = es, row upon row -/
theorem Ex.tup {es elts : List Expr} {xs : List (Str × Pos)} {n m : Nat} {p q pos : Pos} {ms : List AV} (h : EvM C k sc (plainΓ V) c es ms c₁) (tg : Tg (.Tuple elts n p) xs) (hl : ∀ x ∈ xs, isLoc sc x.1) (hnd : (xs.map (·.1)).Nodup) (hlen : xs.length = ms.length) (hz : ms.length ≤ 1000)
    (hs : ∀ env : Env, env.scope = sc → swapsWithSole [.Tuple elts n p] (.Tuple es m q) pos.line env = pure false := by intro _ _; rfl)
    (hw : ∀ env : Env, env.scope = sc → swappedStores [.Tuple elts n p] (.Tuple es m q) env = pure none ∨ swappedStores [.Tuple elts n p] (.Tuple es m q) env = pure (some (xs.map (·.1)))) :
    Ex C k sc V c (.Assign [.Tuple elts n p] (.Tuple es m q) pos) (.nx (putV (xs.map (·.1)) ms V) c₁) := fun A env own P hid om s Q E R O st hQ => by
  have hl' : ∀ h', St C env own P hid V c₁ om h' → ∀ x ∈ xs, okName x.1 ∧ Can env own h' x.1 := fun h' st' x hx => ⟨(hl x hx).1, st'.can _ (by rw [O.is]; exact hl x hx)⟩
  rcases hw env O.is with hw | hw
  · refine PyProof.Rows.Assign_Tuple (hs := hs env O.is) (hw := hw) (tup_push st R O h hz fun a vs as h' tk x bx nd hf r ht => ?_)
    cases tg with
    | tup y ys _ _ _ he =>
      rw [arm_assign_Tuple]
      refine wpAny_bind (wpAny_standAt ?_)
      rw [he, assignEach_names]
      refine unpack_wp (s := { s with heap := h', toks := tk }) R.handled (Mine.O.fn O) O.apart hnd (hl' h' (st.ext x bx)) ht (by rw [r.length, hlen]) fun h'' tk' S hx hold => ?_
      exact hQ _ h'' tk' (st.put x bx hnd (by rw [List.length_map, hlen]) r hf nd S hx hold)
  · refine PyProof.Rows.Assign_Tuple_swapped (hs := hs env O.is) (hw := hw) (tup_push st R O h hz fun a vs as h' tk x bx nd hf r ht => ?_)
    have hlen' : vs.length = xs.length := by rw [r.length, hlen]
    have e0 : (xs.map (·.1)).length = vs.toArray.size := by simp [hlen']
    rw [e0]
    refine unpackItems_tuple (s := { s with heap := h', toks := tk }) R.handled ⟨_, ht, rfl, _, rfl⟩ fun h'' he => ?_
    have keep : ∀ b o, h'.get? b = some o → h''.get? b = some o := fun b o z => he b o (fun w => by rw [w] at z; exact absurd (Heap.lt_size z) (Nat.lt_irrefl _)) z
    have x2 : Ext C.β s.heap h'' := x.trans (.of_keeps keep)
    have b2 : Bx C h'' c₁ := bx.keep fun o e => keep _ _ e
    have e1 : (xs.map (·.1)).reverse.map (fun n => bindName env n) = xs.reverse.map fun y => bindName env y.1 := by
      rw [← List.map_reverse, List.map_map]; rfl
    rw [e1]
    have hnd' : (xs.reverse.map (·.1)).Nodup := by rw [List.map_reverse]; exact List.pairwise_reverse.mpr (hnd.imp fun h => h.symm)
    refine stores_wp (own := own) (Mine.O.fn O) O.apart (fun y v => bindName env y.1 v) (fun y v Q s hs => wpAny_bindName hs) xs.reverse vs.reverse _ _ (by simp [hlen']) hnd' (fun y hy => hl' h'' (st.ext x2 b2) y (List.mem_reverse.mp hy)) fun h3 tk3 S hx hold => ?_
    refine hQ _ h3 tk3 (st.put x2 b2 hnd (by rw [List.length_map, hlen]) (r.map fun b o _ e => keep b o e) (fun a m => ⟨(hf a m).1, let ⟨o, e⟩ := (hf a m).2; ⟨o, keep _ _ e⟩⟩) nd S (fun z hz => hx z ?_) fun y u hy hu => hold y u (fun w => hy (by simpa using w)) hu)
    rw [List.map_reverse, zip_rev (by simp [hlen'])]
    exact List.mem_reverse.mpr hz

/-- xs = e, where e gives a tuple -/
theorem Ex.unp {value : Expr} {elts : List Expr} {xs : List (Str × Pos)} {n : Nat} {p pos : Pos} {ds : List D} (h : Ev C k sc (plainΓ V) c value (.tup ds) c₁) (tg : Tg (.Tuple elts n p) xs) (hl : ∀ x ∈ xs, isLoc sc x.1) (hnd : (xs.map (·.1)).Nodup) (hlen : ds.length = xs.length)
    (hs : ∀ env : Env, env.scope = sc → swapsWithSole [.Tuple elts n p] value pos.line env = pure false := by intro _ _; rfl)
    (hw : ∀ env : Env, env.scope = sc → swappedStores [.Tuple elts n p] value env = pure none := by intro _ _; rfl) :
    Ex C k sc V c (.Assign [.Tuple elts n p] value pos) (.nx (putV (xs.map (·.1)) (ds.map .v) V) c₁) := fun A env own P hid om s Q E R O st hQ => by
  refine PyProof.Rows.Assign_Tuple (hs := hs env O.is) (hw := hw env O.is) (h A env _ s _ E R O st.now st.sees fun v h' tk x bx r => ?_)
  have st' := st.ext x bx
  refine assign_wp (own := own) R.handled tg (Mine.O.fn O) O.apart hnd (fun y hy => ⟨(hl y hy).1, st'.can _ (by rw [O.is]; exact hl y hy)⟩) (d := .tup ds) hlen r fun vs h'' tk' S rv hx hold => ?_
  refine hQ _ h'' tk' (st.put (as := []) x bx hnd (by simp [hlen]) (RepM.plain rv) (fun _ q => nomatch q) (by simp) S hx hold)
end
/-! ## Triples of statements: lists changed in place -/
section
variable {C : Cx} {k : Nat} {sc : Scope} {V : Vs} {c c₁ c₂ c₃ : Int} {env : Env} {own : List Addr} {P : Addr → Obj → Prop} {hid : List Addr} {om : Str → Addr} {A : Around} {E : Value → Shared → Prop} {s : Shared}

theorem name_wp {x : Str} {p : Pos} {v : Value} {h : Heap} {Q : Value → Shared → Prop} (O : EnvOK env sc) (q : Holds env s.heap x v) (fin : Q v s) : wpAny (model C.prog C.w) A (eval (.Name x p) env) Q E s := by
  have hk : env.scope.kind = .function := by rw [O.is]; exact O.kind
  refine wpAny_Name ?_ q.plain.1
  rcases q.is with ⟨a, mm, hn, e⟩ | ⟨a | a, cc, hc, hv⟩
  · exact wpAny_loadName_local hk a hn e fin
  · exact wpAny_loadName_cell hk a hc hv fin
  · exact wpAny_loadName_free hk a hc hv fin q.plain.2

theorem mapSeq_plain (f : Array Value → Array Value) (its : Array Value) (n : Nat) :
    ∃ n', Obj.mapSeq f { cls := .type "list", dict := none, data := .seq its n, slots := #[] } = { cls := .type "list", dict := none, data := .seq (f its) n', slots := #[] } := ⟨_, rfl⟩
theorem update_isL {h : Heap} {a : Addr} {its : Array Value} {n : Nat} (f : Array Value → Array Value) (hl : IsL h a its n) : ∃ n', IsL (h.update a (Obj.mapSeq f)) a (f its) n' := by
  obtain ⟨n', e⟩ := mapSeq_plain f its n
  exact ⟨n', (Heap.get?_update_self _ hl (by rw [e]; rfl)).trans (congrArg some e)⟩

/-- behind a change of an owned list -/
theorem St.upd {x : Str} {ds ds' : List D} {us ws : List Value} {n : Nat} {f : Array Value → Array Value} {h : Heap} (st : St C env own P hid V c om h) (hx : (x, .o ds) ∈ V) (hl : IsL h (om x) us.toArray n) (hf : f us.toArray = ws.toArray) (hr : RepAll C.β (ow om V ++ hid) h ws ds') :
    St C env own P hid (putV [x] [.o ds'] V) c om (h.update (om x) (Obj.mapSeq f)) := by
  obtain ⟨n', e⟩ := update_isL f hl
  rw [hf] at e
  exact st.mut hx (Heap.SameBut.update ..) e hr

/-- x[i] = e -/
theorem Ex.setItem {x : Str} {p pos pos' : Pos} {i value : Expr} {ds : List D} {d : D} {j : Int} (hx : (x, AV.o ds) ∈ V) (hv : Ev C k sc (allΓ V) c value d c₁) (hi : Ev C k sc (allΓ V) c₁ i (.int j) c₂) (h0 : 0 ≤ j) (hj : j < ds.length) (hz : ds.length ≤ 1000000) (ha : Atomic d := by trivial)
    (hs : ∀ env : Env, env.scope = sc → swapsWith value (some (.Subscript (.Name x p) i pos')) pos.line env = pure false := by intro _ _; rfl) : Ex C k sc V c (.Assign [.Subscript (.Name x p) i pos'] value pos) (.nx (putV [x] [.o (ds.set j.toNat d)] V) c₂) := fun A env own P hid om s Q E R O st hQ => by
  refine wpAny_Assign_Subscript (hs := hs env O.is) (hv A env _ s _ E R O st.all.1 st.all.2 fun v h₁ t₁ x₁ b₁ r₁ => ?_)
  have st₁ := st.ext x₁ b₁
  refine name_wp (h := h₁) O (st₁.owns x ds hx).1 ?_
  refine hi A env _ _ _ E R O st₁.all.1 st₁.all.2 fun w h₂ t₂ x₂ b₂ r₂ => ?_
  have st₂ := st₁.ext x₂ b₂
  obtain ⟨_, us, n, hl, ra⟩ := st₂.owns x ds hx
  have hlen := ra.length
  cases r₂ with
  | int _ u =>
    refine ki_setAt hl h0 (by omega) (by simp only [List.size_toArray]; omega) (hQ om _ _ (st₂.upd hx hl (by simp) (ra.set _ (r₁.atomic ha))))

/-- x[y] += e -/
theorem Ex.augItem {x y : Str} {p py pos pos' : Pos} {value : Expr} {ds : List D} {a b j : Int} (hx : (x, AV.o ds) ∈ V) (hy : (y, AV.v (.int j)) ∈ V) (hv : Ev C k sc (allΓ V) c value (.int b) c₁) (h0 : 0 ≤ j) (hd : ds[j.toNat]? = some (.int a)) (hz : ds.length ≤ 1000000) :
    Ex C k sc V c (.AugAssign (.Subscript (.Name x p) (.Name y py) pos') .Add value pos) (.nx (putV [x] [.o (ds.set j.toNat (.int (a + b)))] V) c₁) := fun A env own P hid om s Q E R O st hQ => by
  refine wpAny_AugAssign_Subscript (name_wp (h := s.heap) O (st.owns x ds hx).1 ?_)
  obtain ⟨vy, qy, ry⟩ := st.sees y _ (mem_plain.mpr hy)
  refine name_wp (h := s.heap) O qy ?_
  have hlt : j.toNat < ds.length := by
    rcases Nat.lt_or_ge j.toNat ds.length with h | h
    · exact h
    · rw [List.getElem?_eq_none h] at hd; cases hd
  obtain ⟨_, us, n, hl, ra⟩ := st.owns x ds hx
  obtain ⟨v0, hv0, rv0⟩ := ra.get hd
  cases ry with
  | int _ u =>
    cases rv0 with
    | int _ t0 =>
      refine wpAny_getItem_list hl.isList h0 (by omega) (by simpa using hv0) ?_
      refine hv A env _ _ _ E R O st.all.1 st.all.2 fun w h₁ t₁ x₁ b₁ r₁ => ?_
      have st₁ := st.ext x₁ b₁
      obtain ⟨_, us, n, hl, ra⟩ := st₁.owns x ds hx
      have hlen := ra.length
      cases r₁ with
      | int _ u₁ =>
        refine wpAny_iadd_int ?_
        exact ki_setAt hl h0 (by omega) (by simp only [List.size_toArray]; omega) (hQ om _ _ (st₁.upd (ws := us.set j.toNat (.int (a + b) t₁)) hx hl (by simp) (ra.set _ (.int _ _))))

/-- a method of an owned list called -/
theorem meth_wp {x : Str} {name : Str} {id : String} {p ap pos : Pos} {args : List Expr} {ds : List D} {Q : Value → Shared → Prop} (O : EnvOK env sc) (st : St C env own P hid V c om s.heap) (hx : (x, AV.o ds) ∈ V) (slot : Slot "list" name id) (hty : typeOf (.builtin id) = pure (.type "method_descriptor"))
    (hform : methodCallForm (args.length + 0) (backTo pos (starEach args env)) [] = true) (hline : (ap.endLine == pos.line) = true)
    (h : wpAny (model C.prog C.w) A (callWith pos (.builtin id) [.ref (om x)] (backTo pos (starEach args env)) []) Q E s) :
    wpAny (model C.prog C.w) A (eval (.Call (.Attribute (.Name x p) name ap) args [] pos) env) Q E s := by
  obtain ⟨ha, us, n, hl, ra⟩ := st.owns x ds hx
  rw [arm_eval_Call]
  refine wpAny_bind (name_wp (h := s.heap) O ha (wpAny_bind (wpAny_standAt ?_)))
  have hf : methodCallForm (args.length + ([] : List Keyword).length) (backTo pos (starEach args env)) (backToKw pos (keywordEach [] env)) = true := hform
  have hpos : methodCallPos true (.Name x p) env ap pos = pure pos := by unfold methodCallPos; simp [hline]
  unfold methodCall
  rw [hf]
  refine wpAny_bind (wpAny_holding (getMethod_list_of slot hty hl.isList ⟨_, hl, rfl⟩ ?_))
  exact wpAny_bind (wpAny_of_eq hpos h)

theorem form_one {e : Expr} {pos : Pos} (env : Env) (he : starEach [e] env = (false, eval e env) :: starEach [] env) : methodCallForm ([e].length + 0) (backTo pos (starEach [e] env)) [] = true := by rw [he]; rfl
theorem one_arg {e : Expr} {pos : Pos} (env : Env) (he : starEach [e] env = (false, eval e env) :: starEach [] env) : backTo pos (starEach [e] env) = [(false, eval e env)] := by rw [he]; rfl

theorem int_none {v : Value} (h : v = .none) {Q : Prop} (q : Q) : (match v with | .ref _ => False | _ => Q) := by subst h; exact q

/-- x.append(e) -/
theorem Ex.append {x : Str} {p ap pos pos' : Pos} {e : Expr} {ds : List D} {d : D} (hx : (x, AV.o ds) ∈ V) (he : Ev C k sc (plainΓ V) c e d c₁ ∨ (Atomic d ∧ Ev C k sc (allΓ V) c e d c₁)) (hz : ds.length ≤ 1000000)
    (hs : ∀ env, starEach [e] env = (false, eval e env) :: starEach [] env := by intro _; rfl) (hline : (ap.endLine == pos.line) = true := by rfl) :
    Ex C k sc V c (.Expr (.Call (.Attribute (.Name x p) "append" ap) [e] [] pos) pos') (.nx (putV [x] [.o (ds ++ [d])] V) c₁) := fun A env own P hid om s Q E R O st hQ => by
  refine wpAny_Expr (hi := by unfold interactive; rw [O.is, O.kind]; rfl) ?_
  refine meth_wp O st hx PySem.F.slot_list_append PySem.F.type_list_append (form_one env (hs env)) hline ?_
  rw [one_arg env (hs env)]
  refine PySem.P.append_list ?_
  have fin : ∀ v h' tk, Ext C.β s.heap h' → Bx C h' c₁ → Rep C.β (ow om V ++ hid) h' v d → ∃ items n, items.size ≤ sizeLine ∧ IsL h' (om x) items n ∧ Q .next { s with heap := h'.update (om x) (Obj.mapSeq fun xs => xs.push v), toks := tk } := fun v h' tk xt bx r => by
    have st' := st.ext xt bx
    obtain ⟨_, us, n, hl, ra⟩ := st'.owns x ds hx
    have hlen := ra.length
    exact ⟨us.toArray, n, by rw [sizeLine_eq]; simp only [List.size_toArray]; omega, hl, hQ om _ _ (st'.upd hx hl (ws := us ++ [v]) (by simp) (ra.append (.one r)))⟩
  rcases he with he | ⟨ha, he⟩
  · exact he A env _ s _ E R O st.now st.sees fun v h' tk xt bx r => fin v h' tk xt bx r
  · exact he A env _ s _ E R O st.all.1 st.all.2 fun v h' tk xt bx r => fin v h' tk xt bx (r.atomic ha)

/-- x.extend(e) -/
theorem Ex.extend {x : Str} {p ap pos pos' : Pos} {e : Expr} {ds es : List D} (hx : (x, AV.o ds) ∈ V) (he : Ev C k sc (plainΓ V) c e (.list es) c₁) (hz : ds.length + es.length ≤ 1000000)
    (hs : ∀ env, starEach [e] env = (false, eval e env) :: starEach [] env := by intro _; rfl) (hline : (ap.endLine == pos.line) = true := by rfl) :
    Ex C k sc V c (.Expr (.Call (.Attribute (.Name x p) "extend" ap) [e] [] pos) pos') (.nx (putV [x] [.o (ds ++ es)] V) c₁) := fun A env own P hid om s Q E R O st hQ => by
  refine wpAny_Expr (hi := by unfold interactive; rw [O.is, O.kind]; rfl) ?_
  refine meth_wp O st hx PySem.F.slot_list_extend PySem.F.type_list_extend (form_one env (hs env)) hline ?_
  rw [one_arg env (hs env)]
  refine PySem.P.extend_list (he A env _ s _ E R O st.now st.sees fun v h' tk xt bx r => ?_)
  have st' := st.ext xt bx
  obtain ⟨_, us, n, hl, ra⟩ := st'.owns x ds hx
  have hlen := ra.length
  cases r with
  | @list b ws n2 _ nh nb e2 rb =>
    have hlen2 := rb.length
    refine ⟨b, us.toArray, ws.toArray, n, n2, by rw [sizeLine_eq]; simp only [List.size_toArray]; omega, by rw [sizeLine_eq]; simp only [List.size_toArray]; omega, ?_, rfl, hl, e2, hQ om _ _ (st'.upd hx hl (ws := us ++ ws) (by simp) (ra.append rb))⟩
    have : Builtin.List.listTooLong (us.toArray.size + ws.toArray.size) = false := by
      unfold Builtin.List.listTooLong
      rw [decide_eq_false_iff_not, sizeLine_eq]; simp only [List.size_toArray]; omega
    rw [this]; simp

/-- y = x.pop() -/
theorem Ex.pop {x y : Str} {p ap pos pos' py : Pos} {ds : List D} {d : D} (hx : (x, AV.o (ds ++ [d])) ∈ V) (hz : ds.length ≤ 1000000) (hl : isLoc sc y) (hxy : y ≠ x)
    (hline : (ap.endLine == pos.line) = true := by rfl) :
    Ex C k sc V c (.Assign [.Name y py] (.Call (.Attribute (.Name x p) "pop" ap) [] [] pos) pos') (.nx (putV [y] [.v d] (putV [x] [.o ds] V)) c) := fun A env own P hid om s Q E R O st hQ => by
  refine wpAny_Assign_Name ?_
  refine meth_wp O st hx PySem.F.slot_list_pop PySem.F.type_list_pop rfl hline ?_
  obtain ⟨_, us, n, hl', ra⟩ := st.owns x _ hx
  have hlen := ra.length
  rw [List.length_append, List.length_singleton] at hlen
  obtain ⟨v, hv, rv⟩ := ra.get (k := ds.length) (d := d) (by simp)
  have rt := ra.take ds.length
  rw [List.take_left] at rt
  refine PySem.P.pop_list hl' (y := v) (by simp only [List.size_toArray, hlen, Nat.add_sub_cancel]; simpa using hv) ?_ (by rw [sizeLine_eq]; simp only [List.size_toArray]; omega)
  have st' := st.upd (f := fun xs => xs.eraseIdxIfInBounds (us.toArray.size - 1)) (ws := us.take ds.length) hx hl' (by
    simp only [List.size_toArray, hlen, Nat.add_sub_cancel]
    rw [Array.eraseIdxIfInBounds, dif_pos (by simp [hlen])]
    apply Array.toList_inj.mp
    rw [Array.toList_eraseIdx]
    simp only
    rw [List.eraseIdx_eq_take_drop_succ, List.drop_of_length_le (by omega), List.append_nil]) rt
  have hvx : Rep C.β (ow om (putV [x] [.o ds] V) ++ hid) (s.heap.update (om x) (Obj.mapSeq fun xs => xs.eraseIdxIfInBounds (us.toArray.size - 1))) v d := by
    refine rv.map fun b o nh nb dd e => ⟨?_, fun m => nh ?_⟩
    · refine (Heap.SameBut.update _ _ _).extBut b o (fun q => nh ?_) e
      rw [q]; exact List.mem_append_left _ (mem_ow.mpr ⟨x, _, hx, rfl⟩)
    · rcases List.mem_append.mp m with m | m
      · obtain ⟨z, es, q, rfl⟩ := mem_ow.mp m
        rcases mem_putV1 q with ⟨rfl, _⟩ | ⟨q, _⟩
        · exact List.mem_append_left _ (mem_ow.mpr ⟨_, _, hx, rfl⟩)
        · exact List.mem_append_left _ (mem_ow.mpr ⟨_, _, q, rfl⟩)
      · exact List.mem_append_right _ m
  exact st'.store1 (as := []) O hl (.refl _ _) st'.now.box (.v hvx .nil) (fun _ q => nomatch q) (by simp) fun om' h'' tk' _ st'' => hQ om' h'' tk' st''
end
/-! ## Triples of statements: branches, loops, returns -/
section
variable {C : Cx} {k : Nat} {sc : Scope} {V : Vs} {c c₁ c₂ c₃ : Int} {env : Env} {own : List Addr} {P : Addr → Obj → Prop} {hid : List Addr} {om : Str → Addr} {A : Around} {E : Value → Shared → Prop} {s : Shared}

theorem Post.same {s s' : Shared} {Q : Flow → Shared → Prop} {o : Out} (h : Post C env own P hid s Q o) (e : ∃ h' tk, s' = { s with heap := h', toks := tk }) : Post C env own P hid s' Q o := by
  obtain ⟨h', tk, rfl⟩ := e
  cases o <;> exact h

theorem Ex.ret {e : Expr} {pos : Pos} {d : D} (h : Ev C k sc (allΓ V) c e d c₁) : Ex C k sc V c (.Return (some e) pos) (.rt d c₁) := fun A env own P hid om s Q E R O st hQ =>
  wpAny_Return_some (h A env hid s _ E R O st.all.1 st.all.2 fun v h' tk x bx r => hQ v h' tk (st.all.1.ext x bx) (fun b o e => x.keep b o (fun q => st.pβ o (q ▸ e)) (st.old b o e)) r)

theorem Ex.ite {test : Expr} {body orelse : List Stmt} {pos : Pos} {b : Bool} {o : Out} (h : EvT C k sc (allΓ V) c test b c₁) (h₁ : b = true → Exs C k sc V c₁ body o) (h₂ : b = false → Exs C k sc V c₁ orelse o) : Ex C k sc V c (.If test body orelse pos) o := fun A env own P hid om s Q E R O st hQ =>
  wpAny_If (h A env hid s _ E R O st.all.1 st.all.2 fun h' tk x bx => by
    cases b with
    | true => exact h₁ rfl A env own P hid om _ Q E R O (st.ext x bx) (hQ.same ⟨_, _, rfl⟩)
    | false => exact h₂ rfl A env own P hid om _ Q E R O (st.ext x bx) (hQ.same ⟨_, _, rfl⟩))
theorem Ex.ifT {test : Expr} {body orelse : List Stmt} {pos : Pos} {o : Out} (h : EvT C k sc (allΓ V) c test true c₁) (h₁ : Exs C k sc V c₁ body o) : Ex C k sc V c (.If test body orelse pos) o := Ex.ite h (fun _ => h₁) fun q => nomatch q
theorem Ex.ifF {test : Expr} {body orelse : List Stmt} {pos : Pos} {o : Out} (h : EvT C k sc (allΓ V) c test false c₁) (h₁ : Exs C k sc V c₁ orelse o) : Ex C k sc V c (.If test body orelse pos) o := Ex.ite h (fun q => nomatch q) fun _ => h₁

/-- the turns of a while -/
inductive Wh (C : Cx) (k : Nat) (sc : Scope) (test : Expr) (body : List Stmt) : Vs → Int → Out → Prop
  | stop {V : Vs} {c c₁ : Int} : EvT C k sc (allΓ V) c test false c₁ → Wh C k sc test body V c (.nx V c₁)
  | ret {V : Vs} {c c₁ c₂ : Int} {d : D} : EvT C k sc (allΓ V) c test true c₁ → Exs C k sc V c₁ body (.rt d c₂) → Wh C k sc test body V c (.rt d c₂)
  | turn {V V' : Vs} {c c₁ c₂ : Int} {o : Out} : EvT C k sc (allΓ V) c test true c₁ → Exs C k sc V c₁ body (.nx V' c₂) → Wh C k sc test body V' c₂ o → Wh C k sc test body V c o

theorem Wh.go {test : Expr} {body : List Stmt} {o : Out} (w : Wh C k sc test body V c o) : ∀ (om : Str → Addr) (s : Shared) (Q : Flow → Shared → Prop) (RE : Value → Shared → Prop), Room A k → EnvOK env sc → St C env own P hid V c om s.heap → Post C env own P hid s Q o →
    codeAny (model C.prog C.w) A (.whileLoop test body [] env) (fun r s' => match r with | .ok f => Q f s' | .error e => RE e s') s := by
  induction w with
  | stop ht =>
    intro om s Q RE R O st hQ
    refine codeAny_of_tree ?_
    show wpAny _ A ((whileTurn test body [] env).onRaise (fun x => do noteFrame x env; theTreesLotGoes x)) _ _ s
    refine wpAny_noted ?_
    simp only [whileTurn]
    refine wpAny_bind (ht A env hid s _ _ R O st.all.1 st.all.2 fun h' tk x bx => ?_)
    simp only [Bool.false_eq_true, if_false]
    exact wpAny_bind (wpAny_execs_nil (wpAny_pure (hQ om h' tk (st.ext x bx))))
  | ret ht hb =>
    intro om s Q RE R O st hQ
    refine codeAny_of_tree ?_
    show wpAny _ A ((whileTurn test body [] env).onRaise (fun x => do noteFrame x env; theTreesLotGoes x)) _ _ s
    refine wpAny_noted ?_
    simp only [whileTurn]
    refine wpAny_bind (ht A env hid s _ _ R O st.all.1 st.all.2 fun h' tk x bx => ?_)
    simp only [if_true]
    exact wpAny_bind (hb A env own P hid om _ _ _ R O (st.ext x bx) fun v h' tk n k r => wpAny_pure (hQ v h' tk n k r))
  | turn ht hb _ ih =>
    intro om s Q RE R O st hQ
    refine codeAny_of_tree ?_
    show wpAny _ A ((whileTurn test body [] env).onRaise (fun x => do noteFrame x env; theTreesLotGoes x)) _ _ s
    refine wpAny_noted ?_
    simp only [whileTurn]
    refine wpAny_bind (ht A env hid s _ _ R O st.all.1 st.all.2 fun h' tk x bx => ?_)
    simp only [if_true]
    refine wpAny_bind (hb A env own P hid om _ _ _ R O (st.ext x bx) fun om' h'' tk' st' => wpAny_pure ⟨rfl, ih om' _ Q RE R O st' (hQ.same ⟨_, _, rfl⟩)⟩)

theorem Ex.while {test : Expr} {body : List Stmt} {pos : Pos} {o : Out} (w : Wh C k sc test body V c o) : Ex C k sc V c (.While test body [] pos) o := fun A env own P hid om s Q E R O st hQ =>
  wpAny_While (w.go om s Q _ R O st hQ)

/-- the turns of a for -/
inductive Fo (C : Cx) (k : Nat) (sc : Scope) (t : Expr) (xs : List (Str × Pos)) (body : List Stmt) : List D → Vs → Int → Out → Prop
  | nil {V : Vs} {c : Int} : Fo C k sc t xs body [] V c (.nx V c)
  | ret {d d' : D} {ds : List D} {V : Vs} {c c₁ : Int} : (tgD t d).length = xs.length → Exs C k sc (putV (xs.map (·.1)) ((tgD t d).map .v) V) c body (.rt d' c₁) → Fo C k sc t xs body (d :: ds) V c (.rt d' c₁)
  | turn {d : D} {ds : List D} {V V' : Vs} {c c₁ : Int} {o : Out} : (tgD t d).length = xs.length → Exs C k sc (putV (xs.map (·.1)) ((tgD t d).map .v) V) c body (.nx V' c₁) → Fo C k sc t xs body ds V' c₁ o → Fo C k sc t xs body (d :: ds) V c o

theorem St.own_ne (st : St C env own P hid V c om h) {b : Addr} (m : b ∈ ow om V) : b ∉ own := fun q => by
  obtain ⟨x, ds, mx, rfl⟩ := mem_ow.mp m
  obtain ⟨_, vs, n, hl, _⟩ := st.owns x ds mx
  obtain ⟨_, _, o, e, nd⟩ := st.fo _ q
  rw [hl] at e; cases e; exact nd (dataL _ _)

/-- hidden addresses changed, then no longer hidden -/
theorem St.leave {wr : List Addr} {h h' : Heap} (st : St C env own P (wr ++ hid) V c om h) (hw : ∀ b ∈ wr, Off C b ∧ ∀ o, ¬ P b o) (x : But wr h h')
    (fr : ∀ b ∈ wr, ∀ o, h.get? b = some o → (∀ es n, o.data ≠ .dict es n) ∧ ∀ v, o.data ≠ .cell v) (oo : ∀ b ∈ own, b ∉ wr) (ho : ∀ b ∈ hid, b ∉ wr) : St C env own P hid V c om h' := by
  have sub : ∀ a ∈ ow om V ++ hid, a ∈ ow om V ++ (wr ++ hid) := fun a m => (List.mem_append.mp m).elim (fun q => List.mem_append_left _ q) fun q => List.mem_append_right _ (List.mem_append_right _ q)
  have nw : ∀ a ∈ ow om V, a ∉ wr := fun a m q => st.disj a m (List.mem_append_left _ q)
  have up : ∀ b o, b ∉ ow om V ++ (wr ++ hid) → b ≠ C.β → DataObj o → h.get? b = some o → h'.get? b = some o := fun b o nh _ _ e => x b o (fun m => nh (List.mem_append_right _ (List.mem_append_left _ m))) e
  have sees := st.sees.but x fr up
  refine ⟨(st.now.sub sub).but' (fun b m => (hw b m).1) x fun a m => .inl ?_, fun b o e => x b o (fun m => (hw b m).2 o e) (st.old b o e), st.pβ, (fun b m => let ⟨a1, a2, o, e, nd⟩ := st.fo b m; ⟨a1, a2, o, x b o (oo b m) e, nd⟩), st.fw, (fun a m q => st.disj a m (List.mem_append_right _ q)), st.inj, fun y d m => ?_, fun y ds m => ?_, fun y m => (st.can y m).but x fr⟩
  · exact (List.mem_append.mp m).elim (nw a) (ho a)
  · obtain ⟨v, a, r⟩ := sees y d m
    exact ⟨v, a, r.sub sub⟩
  · obtain ⟨a, vs, n, hl, r⟩ := st.owns y ds m
    refine ⟨⟨a.plain, ?_⟩, vs, n, x _ _ (nw _ (mem_ow.mpr ⟨y, ds, m, rfl⟩)) hl, (r.map fun b o nh nb dd e => ⟨up b o nh nb dd e, nh⟩).sub sub⟩
    rcases a.is with ⟨a1, mm, a2, a3⟩ | ⟨a1, cc, a2, a3⟩
    · obtain ⟨o, es, ep, ho, hdd, rest⟩ := a2
      exact .inl ⟨a1, mm, ⟨o, es, ep, x _ _ (fun z => (fr _ z _ ho).1 _ _ hdd) ho, hdd, rest⟩, a3⟩
    · obtain ⟨o, ho, hdd⟩ := a3
      exact .inr ⟨a1, cc, a2, o, x _ _ (fun z => (fr _ z _ ho).2 _ hdd) ho, hdd⟩

theorem Fo.go {t : Expr} {xs : List (Str × Pos)} {body : List Stmt} {I : Addr} {items rest : List D} {hb : Heap} {hid₀ wr ow₀ : List Addr} {S : Nat → Heap → Prop} {o : Out} {cb : Int} (R : Room A k) (O : EnvOK env sc) (tg : Tg t xs) (hl : ∀ x ∈ xs, isLoc sc x.1) (hnd : (xs.map (·.1)).Nodup)
    (Nb : Now C hid₀ hb cb) (W : ∀ hid', (∀ b ∈ hid', b ∈ hid₀ ∨ hb.get? b = none) → Wk C hid' hb t I items wr S) (h0 : ∀ b ∈ ow₀, b ∈ hid₀) (h1 : ∀ b ∈ hid, b ∈ hid₀) (hown : ∀ b ∈ own, ∃ o, hb.get? b = some o ∧ ¬ DataObj o)
    (hP : ∀ b o, hb.get? b = some o → b ∉ own → b ∉ ow₀ → b ≠ C.β → P b o) (hP2 : ∀ b o, P b o → hb.get? b = some o)
    (f : Fo C k sc t xs body rest V c o) : ∀ (i : Nat) (om : Str → Addr) (s : Shared) (Q : Flow → Shared → Prop) (RE : Value → Shared → Prop), items.drop i = rest → i ≤ items.length → S i s.heap → St C env own P (wr ++ hid) V c om s.heap → Post C env own P hid s Q o →
    codeAny (model C.prog C.w) A (.forLoop t (.ref I) body [] env) (fun r s' => match r with | .ok f => Q f s' | .error e => RE e s') s := by
  have W0 := W [] fun b m => nomatch m
  have wrP : ∀ b ∈ wr, Off C b ∧ ∀ o, ¬ P b o := fun b m => ⟨Nb.off (W0.fresh b m), fun o q => by have := hP2 b o q; rw [W0.fresh b m] at this; cases this⟩
  have oo : ∀ b ∈ own, b ∉ wr := fun b m q => by obtain ⟨o, e, _⟩ := hown b m; rw [W0.fresh b q] at e; cases e
  have hidw : ∀ b ∈ hid, b ∉ wr := fun b m q => by obtain ⟨o, e⟩ := Nb.live b (h1 b m); rw [W0.fresh b q] at e; cases e
  have wrβ : C.β ∉ wr := fun m => (wrP _ m).1.β rfl
  -- all data of hb that is not hidden stands
  have pres : ∀ (H : List Addr) (h : Heap), (∀ b ∈ ow₀, b ∈ H) → (∀ b o, P b o → h.get? b = some o) → Pres C H hb h := fun H h hH hold b o nh nb dd e => by
    refine hold b o (hP b o e (fun q => ?_) (fun q => nh (hH b q)) nb)
    obtain ⟨o', e', nd⟩ := hown b q
    rw [e'] at e; cases e; exact nd dd
  have step : ∀ (d : D) (ds : List D) (V : Vs) (c : Int) (i : Nat) (om : Str → Addr) (s : Shared) (Q : Flow → Shared → Prop) (RE : Value → Shared → Prop), (tgD t d).length = xs.length → items.drop i = d :: ds → S i s.heap → St C env own P (wr ++ hid) V c om s.heap →
      (∀ om' h2 tk E', St C env own P (wr ++ hid) (putV (xs.map (·.1)) ((tgD t d).map .v) V) c om' h2 → S (i + 1) h2 → wpAny (model C.prog C.w) A (execs body env) (fun f s₃ => match f with
        | .next | .cont => codeAny (model C.prog C.w) A (.forLoop t (.ref I) body [] env) (fun r s' => match r with | .ok f => Q f s' | .error e => RE e s') s₃
        | .brk => Q .next s₃
        | .ret v => Q (.ret v) s₃) E' { s with heap := h2, toks := tk }) →
      codeAny (model C.prog C.w) A (.forLoop t (.ref I) body [] env) (fun r s' => match r with | .ok f => Q f s' | .error e => RE e s') s := by
    intro d ds V c i om s Q RE hlen hr hS st hgo
    have hdi : items[i]? = some d := by
      have := congrArg (fun l => l[0]?) hr
      simpa using this
    refine codeAny_of_tree ?_
    show wpAny _ _ ((forTurn t (.ref I) body [] env).onRaise (fun x => do noteFrame x env; theTreesLotGoes x)) _ _ s
    refine wpAny_noted ?_
    simp only [forTurn]
    refine wpAny_bind (wpAny_standAt (wpAny_bind (wpAny_onRaise ?_)))
    have hin : ∀ b ∈ ow om V ++ (ow₀ ++ (wr ++ hid)), b ∈ hid₀ ∨ hb.get? b = none := fun b m => by
      rcases List.mem_append.mp m with m | m
      · cases e : hb.get? b with
        | none => exact .inr rfl
        | some o =>
          by_cases q : b ∈ ow₀
          · exact .inl (h0 b q)
          · exact absurd (hP b o e (st.own_ne m) q (st.fw b m).1.β) ((st.fw b m).2 o)
      · rcases List.mem_append.mp m with m | m
        · exact .inl (h0 b m)
        · rcases List.mem_append.mp m with m | m
          · exact .inr (W0.fresh b m)
          · exact .inl (h1 b m)
    have Wv := W _ hin
    have szI : hb.objs.size < s.heap.objs.size := by
      obtain ⟨o, e⟩ := W0.live i _ hS I W0.mem
      exact Nat.lt_of_le_of_lt W0.top (Heap.lt_size e)
    have hne : ∀ b ∈ ow om V ++ (ow₀ ++ (wr ++ hid)), b ≠ s.heap.objs.size := fun b m q => by
      rcases List.mem_append.mp m with m | m
      · obtain ⟨o, e⟩ := st.now.live b (List.mem_append_left _ m); rw [q, get_size] at e; cases e
      · rcases List.mem_append.mp m with m | m
        · obtain ⟨o, e⟩ := Nb.live b (h0 b m)
          rw [q] at e
          exact Nat.lt_irrefl _ (Nat.lt_trans szI (Heap.lt_size e))
        · obtain ⟨o, e⟩ := st.now.live b (List.mem_append_right _ m); rw [q, get_size] at e; cases e
    let tail : Value → Sem Fin := fun v => do
      assign t env v
      match ← execs body env with
      | .next | .cont => again (.forLoop t (.ref I) body [] env)
      | .brk => pure (.done .next)
      | .ret v => pure (.done (.ret v))
    refine wpAny_mono (Wv.item A i d s (fun v s'' => wpAny (model C.prog C.w) A (tail v) _ _ s'') (fun _ _ => False) R.handled hdi hS (pres _ _ (fun b m => List.mem_append_right _ (List.mem_append_left _ m)) st.old) hne st.now.some_in.1 fun v h1 t1 hS1 x1 r1 => ?_)
      (fun r s' hr' => by obtain ⟨v, hv, hr'⟩ := hr'; subst hv; exact wpAny_bind (wpAny_mono hr' (fun _ _ q => q) fun _ _ f => f.elim)) fun _ _ f => f.elim
    have st1 := st.but wrP x1 (W0.nofr _ _ hS) (W0.live _ _ hS1) oo
    have rsub : ∀ a ∈ ow om V ++ (wr ++ hid), a ∈ ow om V ++ (ow₀ ++ (wr ++ hid)) := fun a m => (List.mem_append.mp m).elim (fun q => List.mem_append_left _ q) fun q => List.mem_append_right _ (List.mem_append_right _ q)
    refine wpAny_bind (assign_wp (own := own) (s := { s with heap := h1, toks := t1 }) R.handled tg (Mine.O.fn O) O.apart hnd (fun x hx => ⟨(hl x hx).1, st1.can _ (by rw [O.is]; exact hl x hx)⟩) hlen r1 fun vs h2 t2 st' rv hx hold => ?_)
    have st2 := st1.put (as := []) (.refl _ _) st1.now.box hnd (by simp [hlen]) (RepM.plain (rv.sub rsub)) (fun _ q => nomatch q) (by simp) st' hx hold
    have hS2 : S (i + 1) h2 := W0.frame _ _ _ hS1 fun b m o z => st'.but b o (fun q => oo b q m) z
    refine wpAny_bind (wpAny_mono (hgo _ h2 t2 _ st2 hS2) (fun f s₃ hf => ?_) fun _ _ e => e)
    cases f with
    | next => exact wpAny_pure ⟨rfl, hf⟩
    | cont => exact wpAny_pure ⟨rfl, hf⟩
    | brk => exact wpAny_pure hf
    | ret v => exact wpAny_pure hf
  -- the iterator is left as it is by the body
  have st2 : ∀ {V : Vs} {c : Int} {om : Str → Addr} {h2 : Heap}, St C env own P (wr ++ hid) V c om h2 → St C env own (fun b o => P b o ∨ (b ∈ wr ∧ h2.get? b = some o)) (wr ++ hid) V c om h2 := fun st =>
    st.re (fun b o q => q.elim (st.old b o) (·.2)) (fun o q => q.elim (st.pβ o) fun q => wrβ q.1) (fun b m o q => q.elim ((st.fo b m).2.1 o) fun q => oo b m q.1) (fun b m o q => q.elim ((st.fw b m).2 o) fun q => st.disj b m (List.mem_append_left _ q.1))
  induction f with
  | nil =>
    intro i om s Q RE hr hi hS st hQ
    have hi' : i = items.length := by
      rcases Nat.lt_or_ge i items.length with z | z
      · have := List.length_drop (i := i) (l := items); rw [hr] at this; simp at this; omega
      · omega
    subst hi'
    refine codeAny_of_tree ?_
    show wpAny _ _ ((forTurn t (.ref I) body [] env).onRaise (fun x => do noteFrame x env; theTreesLotGoes x)) _ _ s
    refine wpAny_noted ?_
    simp only [forTurn]
    refine wpAny_bind (wpAny_standAt (wpAny_bind (wpAny_onRaise ((W ow₀ fun b m => .inl (h0 b m)).done A s _ _ R.handled hS (pres _ _ (fun b m => m) st.old) fun h' tk x => ?_))))
    exact wpAny_pure ⟨rfl, codeAny_block (wpAny_execs_nil (hQ om h' tk (st.leave wrP x (W0.nofr _ _ hS) oo hidw)))⟩
  | @ret d d' ds V c c₁ hlen hbd =>
    intro i om s Q RE hr hi hS st hQ
    refine step d ds V c i om s Q RE hlen hr hS st fun om' h2 t2 E' st' hS' => ?_
    exact hbd A env own _ (wr ++ hid) om' _ _ _ R O (st2 st') fun v h' tk n kk r => hQ v h' tk (n.sub fun a m => List.mem_append_right _ m) (fun b o q => kk b o (.inl q)) (r.sub fun a m => List.mem_append_right _ m)
  | @turn d ds V V' c c₁ o hlen hbd _ ih =>
    intro i om s Q RE hr hi hS st hQ
    have hlt : i < items.length := by
      rcases Nat.lt_or_ge i items.length with z | z
      · exact z
      · rw [List.drop_of_length_le z] at hr; cases hr
    have hr' : items.drop (i + 1) = ds := by
      have := congrArg List.tail hr
      simpa using this
    refine step d ds V c i om s Q RE hlen hr hS st fun om' h2 t2 E' st' hS' => ?_
    refine hbd A env own _ (wr ++ hid) om' _ _ _ R O (st2 st') fun om3 h3 t3 st3 => ?_
    have st4 : St C env own P (wr ++ hid) V' c₁ om3 h3 := st3.re (fun b o q => st3.old b o (.inl q)) (fun o q => st3.pβ o (.inl q)) (fun b m o q => (st3.fo b m).2.1 o (.inl q)) (fun b m o q => (st3.fw b m).2 o (.inl q))
    have hS3 : S (i + 1) h3 := W0.frame _ _ _ hS' fun b m o z => st3.old b o (.inr ⟨m, z⟩)
    exact ih (i + 1) om3 _ Q RE hr' hlt hS3 st4 (hQ.same ⟨_, _, rfl⟩)

theorem Ex.for {t iter : Expr} {xs : List (Str × Pos)} {body : List Stmt} {pos : Pos} {items : List D} {o : Out} (hit : EvIt C k sc (plainΓ V) c iter t items c₁) (tg : Tg t xs) (hl : ∀ x ∈ xs, isLoc sc x.1) (hnd : (xs.map (·.1)).Nodup) (f : Fo C k sc t xs body items V c₁ o)
    (hs : ∀ env x, foldedSetIterable iter env x = pure x := by intro _ _; rfl) : Ex C k sc V c (.For t iter body [] pos) o := fun A env own P hid om s Q E R O st hQ => by
  refine wpAny_For (hs := hs env) (hit A env (ow om V ++ hid) s _ E R O st.now st.sees fun hb I wr S h' tk xb bb kb W hS => ?_)
  have stb := st.ext xb bb
  have W0 := W [] fun b m => nomatch m
  have sth := stb.hide kb W0.fresh (W0.live _ _ hS)
  let PL : Addr → Obj → Prop := fun b o => hb.get? b = some o ∧ b ∉ own ∧ b ∉ ow om V ∧ b ≠ C.β
  have up : ∀ b o, P b o → PL b o := fun b o q => ⟨stb.old b o q, fun m => (st.fo b m).2.1 o q, fun m => (st.fw b m).2 o q, fun m => st.pβ o (m ▸ q)⟩
  have stl : St C env own PL (wr ++ hid) V c₁ om h' := sth.re (fun b o q => kb b o q.1) (fun o q => q.2.2.2 rfl) (fun b m o q => q.2.1 m) (fun b m o q => q.2.2.1 m)
  refine Fo.go (P := PL) (hid := hid) (ow₀ := ow om V) R O tg hl hnd stb.now W (fun b m => List.mem_append_left _ m) (fun b m => List.mem_append_right _ m) (fun b m => (stb.fo b m).2.2) (fun b o e n1 n2 n3 => ⟨e, n1, n2, n3⟩) (fun b o q => q.1) f 0 om _ Q _ rfl (Nat.zero_le _) hS stl ?_
  cases o with
  | nx V' c' => exact fun om' h'' tk' st' => hQ om' h'' tk' (st'.re (fun b o q => st'.old b o (up b o q)) st.pβ (fun b m => (st.fo b m).2.1) (fun b m o q => (st'.fw b m).2 o (up b o q)))
  | rt d c' => exact fun v h'' tk' n kk r => hQ v h'' tk' n (fun b o q => kk b o (up b o q)) r
end
/-! ## A def from its body -/
theorem bindL_out (kf : Str → Option NameKind) {x : Str} : ∀ (xs : List Str) (vs : List Value) (m : Str → Option Value), x ∉ xs → bindL kf (xs.zip vs) m x = m x
  | [], _, _, _ => rfl
  | _ :: _, [], _, _ => rfl
  | n :: xs, v :: vs, m, h => by
    rw [List.zip_cons_cons, bindL, bindL_out kf xs vs _ fun q => h (List.mem_cons_of_mem _ q)]
    split
    · simp only
      rw [if_neg fun q => h (by rw [q]; exact List.mem_cons_self)]
    · rfl
theorem bindC_out (kf : Str → Option NameKind) {x : Str} : ∀ (xs : List Str) (vs : List Value) (m : Str → Option Value), x ∉ xs → bindC kf (xs.zip vs) m x = m x
  | [], _, _, _ => rfl
  | _ :: _, [], _, _ => rfl
  | n :: xs, v :: vs, m, h => by
    rw [List.zip_cons_cons, bindC, bindC_out kf xs vs _ fun q => h (List.mem_cons_of_mem _ q)]
    split
    · rfl
    · simp only
      rw [if_neg fun q => h (by rw [q]; exact List.mem_cons_self)]
theorem bindL_in (kf : Str → Option NameKind) {x : Str} {v : Value} (hx : kf x = some .local) : ∀ (xs : List Str) (vs : List Value) (m : Str → Option Value), xs.Nodup → (x, v) ∈ xs.zip vs → bindL kf (xs.zip vs) m x = some v
  | [], _, _, _, h => nomatch h
  | _ :: _, [], _, _, h => nomatch h
  | n :: xs, u :: vs, m, hnd, h => by
    have hnd' := List.nodup_cons.mp hnd
    rw [List.zip_cons_cons, bindL]
    rcases List.mem_cons.mp h with q | q
    · cases q; rw [bindL_out kf xs vs _ hnd'.1, if_pos hx]; simp
    · exact bindL_in kf hx xs vs _ hnd'.2 q
theorem bindC_in (kf : Str → Option NameKind) {x : Str} {v : Value} (hx : kf x = some .cell) : ∀ (xs : List Str) (vs : List Value) (m : Str → Option Value), xs.Nodup → (x, v) ∈ xs.zip vs → bindC kf (xs.zip vs) m x = some v
  | [], _, _, _, h => nomatch h
  | _ :: _, [], _, _, h => nomatch h
  | n :: xs, u :: vs, m, hnd, h => by
    have hnd' := List.nodup_cons.mp hnd
    rw [List.zip_cons_cons, bindC]
    rcases List.mem_cons.mp h with q | q
    · cases q; rw [bindC_out kf xs vs _ hnd'.1, if_neg (by rw [hx]; decide)]; simp
    · exact bindC_in kf hx xs vs _ hnd'.2 q

noncomputable def argV : List Str → List D → Vs
  | x :: xs, d :: ds => (x, .v d) :: argV xs ds
  | _, _ => []
theorem mem_argV {y : Str} {n : AV} : ∀ {xs : List Str} {ds : List D}, (y, n) ∈ argV xs ds → ∃ d, n = .v d ∧ (y, d) ∈ xs.zip ds
  | [], _, h => nomatch h
  | _ :: _, [], h => nomatch h
  | x :: xs, d :: ds, h => by
    rcases List.mem_cons.mp h with q | q
    · cases q; exact ⟨d, rfl, List.mem_cons_self⟩
    · obtain ⟨d', e, m⟩ := mem_argV q
      exact ⟨d', e, List.mem_cons_of_mem _ m⟩

theorem zip_rep {β : Addr} {hid : List Addr} {h : Heap} {y : Str} {d : D} : ∀ (ns : List Str) (us : List Value) (gs : List D), RepAll β hid h us gs → (y, d) ∈ ns.zip gs → ∃ u, (y, u) ∈ ns.zip us ∧ Rep β hid h u d
  | [], _, _, _, m => nomatch m
  | n :: ns, _, _, .nil, m => nomatch m
  | n :: ns, _, _, .cons (v := u) (d := g) a ra, m => by
    rcases List.mem_cons.mp m with q | q
    · cases q; exact ⟨u, List.mem_cons_self, a⟩
    · obtain ⟨u', m', r'⟩ := zip_rep ns _ _ ra q
      exact ⟨u', List.mem_cons_of_mem _ m', r'⟩

section
variable {C : Cx} {k : Nat} {c c' : Int}

theorem Fn.intro {i : Nat} {name : Str} {params : Arguments} {body : List Stmt} {scope : Scope} {args : List D} {d : D} (hi : defAt i = some (name, params, body, scope)) (xs : List Str)
    (hbind : ∀ pm cd doc vs, vs.length = args.length → bindArgs (Calls.docDef name params body scope pm cd doc) ⟨vs, []⟩ = pure (xs.zip vs)) (hlen : xs.length = args.length) (hnd : xs.Nodup) (hloc : ∀ x ∈ xs, isLoc scope x)
    (h : Exs C k scope (argV xs args) c body (.rt d c')) (hco : scope.isCoroutine = false := by rfl) (hgen : scope.isGenerator = false := by rfl) (hk : scope.kind = .function := by rfl) : Fn C (k + 1) name args c d c' := by
  refine ⟨⟨i, _, _, _, hi⟩, ?_⟩
  intro A hid s f vs Q E R N hm r hQ
  obtain ⟨a, o, pm, code, doc, h1, h2, h3, h4⟩ := N.ok.defs i name params body scope hi
  rw [hm] at h1; cases h1
  have hvl : vs.length = args.length := r.length
  refine wpAny_call ?_
  have hcs := cells_around scope.names (s.heap.push { cls := .type "dict", data := .dict #[] }) [] (fun x c q => nomatch q) (fun x y c q => nomatch q)
  have hsz : (s.heap.push { cls := .type "dict", data := .dict #[] }).objs.size = s.heap.objs.size + 1 := Heap.size_push ..
  rw [hsz] at hcs
  obtain ⟨i1, i2, i3, i4, i5⟩ := hcs
  have hcell : ∀ x, scope.names.lookup x = some .cell → ∃ c, (cellsFrom (s.heap.objs.size + 1) scope.names []).lookup x = some c ∧ s.heap.objs.size + 1 ≤ c := fun x q => by
    obtain ⟨c, q1, q2, _⟩ := i2 x (mem_of_lookup q)
    exact ⟨c, q1, q2⟩
  refine call_cells_ret (o := o) (body := body) (scope := scope) (pm := pm) (cd := code) (doc := doc) (binds := xs.zip vs) (by have := R.depth; show A.depth < 1000; omega) (N.base _ _ h2) h3 (by obtain ⟨mc, q1, q2⟩ := N.ok.nolimit; exact ⟨mc, q1.keeps N.base, q2⟩) (h4.keeps N.base) (hbind pm code doc vs hvl) (fun x hx => ?_) (fun h₁ tk F X => ?_) hco hgen hk
  · rcases (hloc x.1 (List.of_mem_zip hx).1).2 with q | q
    · exact .inl q
    · obtain ⟨c, q1, _⟩ := hcell x.1 q
      exact .inr ⟨q, by rw [q1]; rfl⟩
  · have key : ∀ (L : Addr) (env : Env), L = s.heap.objs.size → env = envOfC name scope L f code → Fr s.heap L h₁ (bindL env.kindOf (xs.zip vs) fun _ => none) → Cl L (cellsFrom (L + 1) scope.names []) h₁ (bindC env.kindOf (xs.zip vs) fun _ => none) →
        wpAny (model C.prog C.w) (A.deeper env) (execs body env) (fun f s' => Q (match f with | .ret v => v | _ => .none) s') (fun _ _ => False) { s with heap := h₁, toks := tk } := by
      intro L env hL he F X
      have kL : env.locals = L := by rw [he]; rfl
      have kC : env.cells = cellsFrom (L + 1) scope.names [] := by rw [he]; rfl
      have kS : env.scope = scope := by rw [he]; rfl
      rw [← hL] at i1 i2 i3 i4 hcell
      have O : EnvOK env scope := ⟨kS, hk, by rw [he]; rfl, by rw [he]; rfl, by rw [kC]; exact i4⟩
      have kpE : Ext C.β s.heap h₁ := .of_keeps F.keep
      have N₁ := N.ext kpE (N.box.keep fun o e => F.keep _ _ e)
      have hnone : ∀ b, L ≤ b → s.heap.get? b = none := fun b hb => by
        cases z : s.heap.get? b with
        | none => rfl
        | some o => exact absurd (Heap.lt_size z) (Nat.not_lt.mpr (hL ▸ hb))
      have st : St C env (L :: scope.names.filterMap fun p => (cellsFrom (L + 1) scope.names []).lookup p.1) (fun b o => s.heap.get? b = some o ∧ b ≠ C.β) hid (argV xs args) c (fun _ => 0) h₁ := by
        have how : ow (fun _ => 0) (argV xs args) = [] := by
          cases e : ow (fun _ => 0) (argV xs args) with
          | nil => rfl
          | cons b r =>
            have : b ∈ ow (fun _ => 0) (argV xs args) := by rw [e]; exact List.mem_cons_self
            obtain ⟨x, ds, m, _⟩ := mem_ow.mp this
            obtain ⟨d, q, _⟩ := mem_argV m
            cases q
        refine ⟨?_, fun b o q => F.keep b o q.1, fun o q => q.2 rfl, fun b m => ?_, fun b m => ?_, fun b m => ?_, fun x y ds es q => ?_, fun x d m => ?_, fun x ds m => ?_, fun x hx => ?_⟩
        · rw [how]; exact N₁
        · have hge : L ≤ b := by
            rcases List.mem_cons.mp m with rfl | m
            · exact Nat.le_refl _
            · obtain ⟨p, _, hp⟩ := List.mem_filterMap.mp m
              exact Nat.le_of_lt (X.above _ _ (mem_of_lookup hp))
          refine ⟨N.off (hnone b hge), fun o q => ?_, ?_⟩
          · have := hnone b hge; rw [q.1] at this; cases this
          · rcases List.mem_cons.mp m with rfl | m
            · obtain ⟨o, es, ep, ho, hd, _⟩ := F.ns
              exact ⟨o, ho, fun dd => dd.2.1 _ _ hd⟩
            · obtain ⟨p, _, hp⟩ := List.mem_filterMap.mp m
              obtain ⟨o, ho, hd⟩ := X.cell _ _ hp
              exact ⟨o, ho, fun dd => dd.2.2 _ hd⟩
        · rw [how] at m; cases m
        · rw [how] at m; cases m
        · obtain ⟨d, q', _⟩ := mem_argV q; cases q'
        · rw [how]
          obtain ⟨d', e, m'⟩ := mem_argV (mem_plain.mp m)
          cases e
          obtain ⟨v, mv, rv⟩ := zip_rep xs vs args r m'
          refine ⟨v, ⟨(hloc x (List.of_mem_zip m').1).1, ?_⟩, rv.ext kpE⟩
          rcases (hloc x (List.of_mem_zip m').1).2 with q | q
          · have hkf : env.kindOf x = some .local := by rw [kindOf_eq, kS]; exact q
            exact .inl ⟨hkf, _, by rw [kL]; exact F.ns, bindL_in _ hkf xs vs _ hnd mv⟩
          · have hkf : env.kindOf x = some .cell := by rw [kindOf_eq, kS]; exact q
            obtain ⟨cc, q1, _⟩ := hcell x q
            refine .inr ⟨.inl hkf, cc, by rw [kC]; exact q1, ?_⟩
            have := X.cell x cc q1
            rw [bindC_in _ hkf xs vs _ hnd mv] at this
            exact this
        · obtain ⟨d, q, _⟩ := mem_argV m; cases q
        · have hx' := hx.2
          rw [kS] at hx'
          rcases hx' with q | q
          · exact .inl ⟨by rw [kindOf_eq, kS]; exact q, by rw [kL]; exact List.mem_cons_self, _, by rw [kL]; exact F.ns⟩
          · obtain ⟨cc, q1, _⟩ := hcell x q
            exact .inr ⟨by rw [kindOf_eq, kS]; exact q, cc, by rw [kC]; exact q1, List.mem_cons_of_mem _ (List.mem_filterMap.mpr ⟨(x, .cell), mem_of_lookup q, q1⟩), _, X.cell x cc q1⟩
      refine h (A.deeper env) env _ _ hid _ _ _ _ (R.deeper env) O st fun v h' tk' n kk r' => ?_
      exact hQ v h' tk' ⟨fun b o nb e => kk b o ⟨e, nb⟩⟩ n.box r'
    exact key _ _ rfl rfl F X
end

/-! ## Words for the proofs to come -/
section
variable {C : Cx} {k : Nat} {sc : Scope} {Γ : List (Str × D)} {c c₁ c₂ : Int}
theorem Ev.nm {x : Str} {pos : Pos} {d : D} (h : Γ.lookup x = some d) : Ev C k sc Γ c (.Name x pos) d c := Ev.name (mem_of_lookup h)
end
/-! ## Rows of naturals, and words that lay the rules -/
noncomputable abbrev N1 (n : Nat) : D := .int (n : Int)
noncomputable abbrev LN (a : List Nat) : D := .list (a.map N1)

noncomputable def isLocB (sc : Scope) (x : Str) : Bool := !(x == ("__debug__" : Str)) && !(x == ("__classdict__" : Str)) && (match sc.names.lookup x with | some .local => true | some .cell => true | _ => false)
theorem isLoc_of {sc : Scope} {x : Str} (h : isLocB sc x = true) : isLoc sc x := by
  unfold isLocB at h
  rw [Bool.and_eq_true, Bool.and_eq_true] at h
  refine ⟨⟨by simpa using h.1.1, by simpa using h.1.2⟩, ?_⟩
  have h2 := h.2
  split at h2
  · rename_i e; exact .inl e
  · rename_i e; exact .inr e
  · cases h2
theorem locs_of {sc : Scope} {xs : List (Str × Pos)} (h : xs.all (fun x => isLocB sc x.1) = true) : ∀ x ∈ xs, isLoc sc x.1 := fun x m => isLoc_of (List.all_eq_true.mp h x m)
theorem names_of {sc : Scope} {xs : List Str} (h : xs.all (fun x => isLocB sc x) = true) : ∀ x ∈ xs, isLoc sc x := fun x m => isLoc_of (List.all_eq_true.mp h x m)

/-- names without a twin, told by a walk -/
noncomputable def nodupB : List Str → Bool
  | [] => true
  | x :: r => !(r.any fun y => x == y) && nodupB r
theorem nodup_of : ∀ {xs : List Str}, nodupB xs = true → xs.Nodup
  | [], _ => List.nodup_nil
  | x :: r, h => by
    rw [nodupB, Bool.and_eq_true] at h
    refine List.nodup_cons.mpr ⟨fun m => ?_, nodup_of h.2⟩
    have h1 : (r.any fun y => x == y) = false := by simpa using h.1
    have := List.any_eq_false.mp h1 x m
    simp at this

noncomputable def hasO (x : Str) : Vs → Option (List D)
  | [] => none
  | (y, .v _) :: r => hasO x r
  | (y, .o ds) :: r => if x == y then some ds else hasO x r
theorem hasO_mem {x : Str} {ds : List D} : ∀ {V : Vs}, hasO x V = some ds → (x, .o ds) ∈ V
  | [], h => nomatch h
  | (y, .v _) :: r, h => List.mem_cons_of_mem _ (hasO_mem h)
  | (y, .o es) :: r, h => by
    rw [hasO] at h
    by_cases e : x = y
    · subst e; simp at h; subst h; exact List.mem_cons_self
    · have : (x == y) = false := beq_eq_false_iff_ne.mpr e
      rw [this] at h
      exact List.mem_cons_of_mem _ (hasO_mem h)

section
variable {C : Cx} {k : Nat} {sc : Scope} {Γ : List (Str × D)} {V : Vs} {c c₁ c₂ c₃ : Int}

theorem Ev.cast {e : Expr} {d d' : D} (h : Ev C k sc Γ c e d c₁) (q : d = d') : Ev C k sc Γ c e d' c₁ := q ▸ h
theorem EvF.cast {e : Expr} {d d' : List D} (h : EvF C k sc Γ c e d c₁) (q : d = d') : EvF C k sc Γ c e d' c₁ := q ▸ h
theorem EvT.cast {e : Expr} {b b' : Bool} (h : EvT C k sc Γ c e b c₁) (q : b = b') : EvT C k sc Γ c e b' c₁ := q ▸ h
theorem Ex.cast {e : Stmt} {o o' : Out} (h : Ex C k sc V c e o) (q : o = o') : Ex C k sc V c e o' := q ▸ h
theorem Exs.cast {e : List Stmt} {o o' : Out} (h : Exs C k sc V c e o) (q : o = o') : Exs C k sc V c e o' := q ▸ h
theorem Fn.cast {name : Str} {args : List D} {d d' : D} (h : Fn C k name args c d c₁) (q : d = d') : Fn C k name args c d' c₁ := q ▸ h

/-- the state with another, equal row of names -/
theorem Exs.start {V' : Vs} {es : List Stmt} {o : Out} (h : Exs C k sc V' c es o) (q : V = V') : Exs C k sc V c es o := q ▸ h

theorem lookup_map_N (a : List Nat) (i : Nat) (h : i < a.length) : (a.map N1)[i]? = some (N1 (a.getD i 0)) := by
  rw [List.getElem?_map, List.getElem?_eq_getElem h, List.getD_eq_getElem?_getD, List.getElem?_eq_getElem h]; rfl

/-- a[i], a row of naturals -/
theorem Ev.itemN {value slice : Expr} {pos : Pos} {a : List Nat} {i : Int} (hv : Ev C k sc Γ c value (LN a) c₁) (hi : Ev C k sc Γ c₁ slice (.int i) c₂) (h0 : 0 ≤ i) (h1 : i < a.length) (hz : a.length ≤ 1000000)
    (hs : ∀ o i, subscripted slice false o i = operate [o, i] (getItem o i) := by intro _ _; rfl) : Ev C k sc Γ c (.Subscript value slice pos) (N1 (a.getD i.toNat 0)) c₂ :=
  Ev.item hv hi h0 (lookup_map_N a _ (by omega)) (by simpa using hz) hs
/-- a[-1] -/
theorem Ev.lastN {value slice : Expr} {pos : Pos} {a : List Nat} (hv : Ev C k sc Γ c value (LN a) c₁) (hi : Ev C k sc Γ c₁ slice (.int (-1)) c₂) (h1 : 1 ≤ a.length) (hz : a.length ≤ 1000000)
    (hs : ∀ o i, subscripted slice false o i = operate [o, i] (getItem o i) := by intro _ _; rfl) : Ev C k sc Γ c (.Subscript value slice pos) (N1 (a.getD (a.length - 1) 0)) c₂ := by
  refine Ev.itemNeg hv hi (by omega) (by simp; omega) ?_ (by simpa using hz) hs
  have : (-1 + ((a.map N1).length : Int)).toNat = a.length - 1 := by rw [List.length_map]; omega
  rw [this]
  exact lookup_map_N a _ (by omega)

theorem CallV.lenN {a : List Nat} (hz : a.length ≤ 1000000) : CallV C (.builtin "len") [LN a] (.int a.length) := by
  have := CallV.len (C := C) (ds := a.map N1) (by simpa using hz)
  simpa using this
theorem EvF.sliceToN {value hi : Expr} {p pos : Pos} {a : List Nat} {n : Nat} (hv : Ev C k sc Γ c value (LN a) c₁) (hh : Ev C k sc Γ c₁ hi (.int n) c₂) (hz : a.length ≤ 1000000) :
    EvF C k sc Γ c (.Subscript value (.Slice none (some hi) none p) pos) ((a.take n).map N1) c₂ := by
  refine (EvF.slice hv EvO.none (EvO.some hh) (by simpa using hz)).cast ?_
  rw [sliceD_to, List.map_take]
theorem EvF.sliceFromN {value lo : Expr} {p pos : Pos} {a : List Nat} {n : Nat} (hv : Ev C k sc Γ c value (LN a) c₁) (hh : Ev C k sc Γ c₁ lo (.int n) c₂) (hz : a.length ≤ 1000000) :
    EvF C k sc Γ c (.Subscript value (.Slice (some lo) none none p) pos) ((a.drop n).map N1) c₂ := by
  refine (EvF.slice hv (EvO.some hh) EvO.none (by simpa using hz)).cast ?_
  rw [sliceD_from, List.map_drop]
theorem EvF.listN {x : Expr} {p pos : Pos} {ds : List D} (h : EvL C k sc Γ c [x] [.list ds] c₁) (hz : ds.length ≤ 1000000) (hx : sc.names.lookup ("list" : Str) = some .globalImplicit) (hk : 1 ≤ k) : EvF C k sc Γ c (.Call (.Name "list" p) [x] [] pos) ds c₁ :=
  EvF.callB .list h (CallF.list_list hz) hx (by simp) hk
end

section
variable {C : Cx} {k : Nat} {sc : Scope} {Γ : List (Str × D)} {V : Vs} {c c₁ c₂ c₃ : Int}
/-! the same rules, all premises told -/
theorem Ev.bin' {l r : Expr} {op : Operator} {pos : Pos} {d₁ d₂ d : D} (hl : Ev C k sc Γ c l d₁ c₁) (hr : Ev C k sc Γ c₁ r d₂ c₂) (hb : Bin C op d₁ d₂ d) (hk : 1 ≤ k) : Ev C k sc Γ c (.BinOp l op r pos) d c₂ := Ev.bin hl hr hb hk
theorem Ev.cmp' {l r : Expr} {op : CmpOp} {pos : Pos} {d₁ d₂ : D} {b : Bool} (hl : Ev C k sc Γ c l d₁ c₁) (hr : Ev C k sc Γ c₁ r d₂ c₂) (hb : Cmp C op d₁ d₂ b) (hm : behindInMarks op r = false) (hk : 1 ≤ k) : Ev C k sc Γ c (.Compare l [op] [r] pos) (.bool b) c₂ := Ev.cmp hl hr hb hm hk
theorem EvT.cmp' {l r : Expr} {op : CmpOp} {pos : Pos} {d₁ d₂ : D} {b : Bool} (hl : Ev C k sc Γ c l d₁ c₁) (hr : Ev C k sc Γ c₁ r d₂ c₂) (hb : Cmp C op d₁ d₂ b) (hm : behindInMarks op r = false) (hk : 1 ≤ k) : EvT C k sc Γ c (.Compare l [op] [r] pos) b c₂ := EvT.cmp hl hr hb hm hk
theorem EvT.chain2' {l r₁ r₂ : Expr} {op₁ op₂ : CmpOp} {pos : Pos} {d d₁ d₂ : D} {b₁ b₂ : Bool} (hl : Ev C k sc Γ c l d c₁) (h₁ : Ev C k sc Γ c₁ r₁ d₁ c₂) (hb₁ : Cmp C op₁ d d₁ b₁) (h₂ : Ev C k sc Γ c₂ r₂ d₂ c₂) (hb₂ : Cmp C op₂ d₁ d₂ b₂) (hm : lastMarks [op₁, op₂] [r₁, r₂] = false) (hk : 1 ≤ k) : EvT C k sc Γ c (.Compare l [op₁, op₂] [r₁, r₂] pos) (b₁ && b₂) c₂ := EvT.chain2 hl h₁ hb₁ h₂ hb₂ hm hk
theorem Ev.tup' {es : List Expr} {n : Nat} {pos : Pos} {ds : List D} (h : EvL C k sc Γ c es ds c₁) (hz : ds.length ≤ 1000) : Ev C k sc Γ c (.Tuple es n pos) (.tup ds) c₁ := Ev.tup h hz
theorem EvF.list' {es : List Expr} {pos : Pos} {ds : List D} (h : EvL C k sc Γ c es ds c₁) (hz : ds.length ≤ 1000) : EvF C k sc Γ c (.List es pos) ds c₁ := EvF.list h hz
theorem EvL.cons' {e : Expr} {es : List Expr} {d : D} {ds : List D} (h : Ev C k sc Γ c e d c₁) (hr : EvL C k sc Γ c₁ es ds c₂) (he : ∀ env, starEach (e :: es) env = (false, eval e env) :: starEach es env) : EvL C k sc Γ c (e :: es) (d :: ds) c₂ := EvL.cons h hr he
theorem Ev.callB' {x : Str} {p pos : Pos} {v : Value} {es : List Expr} {ds : List D} {d : D} (b : BName x v) (h : EvL C k sc Γ c es ds c₁) (hc : CallV C v ds d)
    (hx : sc.names.lookup x = some .globalImplicit) (hne : es ≠ []) (hk : 1 ≤ k) : Ev C k sc Γ c (.Call (.Name x p) es [] pos) d c₁ := Ev.callB b h hc hx hne hk
theorem EvF.callB' {x : Str} {p pos : Pos} {v : Value} {es : List Expr} {ds ds' : List D} (b : BName x v) (h : EvL C k sc Γ c es ds c₁) (hc : CallF C v ds ds')
    (hx : sc.names.lookup x = some .globalImplicit) (hne : es ≠ []) (hk : 1 ≤ k) : EvF C k sc Γ c (.Call (.Name x p) es [] pos) ds' c₁ := EvF.callB b h hc hx hne hk
theorem Ev.call' {x : Str} {p pos : Pos} {es : List Expr} {ds : List D} {d : D} {k' : Nat} (h : EvL C k sc Γ c es ds c₁) (hc : Fn C k' x ds c₁ d c₂)
    (hx : sc.names.lookup x = some .globalImplicit) (hd : (x == ("__debug__" : Str)) = false) (hne : es ≠ []) (hk : k' ≤ k) :
    Ev C k sc Γ c (.Call (.Name x p) es [] pos) d c₂ := Ev.call h hc hx hd hne hk
theorem Ev.itemN' {value slice : Expr} {pos : Pos} {a : List Nat} {i : Int} (hv : Ev C k sc Γ c value (LN a) c₁) (hi : Ev C k sc Γ c₁ slice (.int i) c₂) (h0 : 0 ≤ i) (h1 : i < a.length) (hz : a.length ≤ 1000000)
    (hs : ∀ o i, subscripted slice false o i = operate [o, i] (getItem o i)) : Ev C k sc Γ c (.Subscript value slice pos) (N1 (a.getD i.toNat 0)) c₂ := Ev.itemN hv hi h0 h1 hz hs
theorem Ev.lastN' {value slice : Expr} {pos : Pos} {a : List Nat} (hv : Ev C k sc Γ c value (LN a) c₁) (hi : Ev C k sc Γ c₁ slice (.int (-1)) c₂) (h1 : 1 ≤ a.length) (hz : a.length ≤ 1000000)
    (hs : ∀ o i, subscripted slice false o i = operate [o, i] (getItem o i)) : Ev C k sc Γ c (.Subscript value slice pos) (N1 (a.getD (a.length - 1) 0)) c₂ := Ev.lastN hv hi h1 hz hs
theorem Ev.itemT' {value slice : Expr} {pos : Pos} {ds : List D} {i : Int} {d : D} (hv : Ev C k sc Γ c value (.tup ds) c₁) (hi : Ev C k sc Γ c₁ slice (.int i) c₂) (h0 : 0 ≤ i) (hd : ds[i.toNat]? = some d)
    (hz : ds.length ≤ 1000000) (hs : ∀ o i, subscripted slice false o i = operate [o, i] (getItem o i)) : Ev C k sc Γ c (.Subscript value slice pos) d c₂ := Ev.itemT hv hi h0 hd hz hs
end

section
variable {C : Cx} {k : Nat} {sc : Scope} {V V' : Vs} {c c₁ c₂ c₃ : Int} {rest : List Stmt} {o : Out}
/-! a statement, and what follows -/
theorem Exs.set {x : Str} {p pos : Pos} {value : Expr} {d : D} (h : Ev C k sc (plainΓ V) c value d c₁) (hl : isLocB sc x = true) (hs : ∀ env : Env, env.scope = sc → swapsWith value (some (.Name x p)) pos.line env = pure false)
    (r : Exs C k sc (putV [x] [.v d] V) c₁ rest o) : Exs C k sc V c (.Assign [.Name x p] value pos :: rest) o := Exs.cons (Ex.set h (isLoc_of hl) hs) r
theorem Exs.setA {x : Str} {p pos : Pos} {value : Expr} {d : D} (h : Ev C k sc (allΓ V) c value d c₁) (ha : Atomic d) (hl : isLocB sc x = true) (hs : ∀ env : Env, env.scope = sc → swapsWith value (some (.Name x p)) pos.line env = pure false)
    (r : Exs C k sc (putV [x] [.v d] V) c₁ rest o) : Exs C k sc V c (.Assign [.Name x p] value pos :: rest) o := Exs.cons (Ex.setA h ha (isLoc_of hl) hs) r
theorem Exs.setO {x : Str} {p pos : Pos} {value : Expr} {ds : List D} (h : EvF C k sc (plainΓ V) c value ds c₁) (hl : isLocB sc x = true) (hs : ∀ env : Env, env.scope = sc → swapsWith value (some (.Name x p)) pos.line env = pure false)
    (r : Exs C k sc (putV [x] [.o ds] V) c₁ rest o) : Exs C k sc V c (.Assign [.Name x p] value pos :: rest) o := Exs.cons (Ex.setO h (isLoc_of hl) hs) r
theorem Exs.aug {x : Str} {p pos : Pos} {value : Expr} {a b : Int} (h : Ev C k sc (allΓ V) c value (.int b) c₁) (hx : (plainΓ V).lookup x = some (.int a)) (hl : isLocB sc x = true) (hk : 1 ≤ k)
    (r : Exs C k sc (putV [x] [.v (.int (a + b))] V) c₁ rest o) : Exs C k sc V c (.AugAssign (.Name x p) .Add value pos :: rest) o := Exs.cons (Ex.aug (mem_plain.mp (mem_of_lookup hx)) h rfl (isLoc_of hl) hk) r
theorem Exs.tup {es elts : List Expr} {xs : List (Str × Pos)} {n m : Nat} {p q pos : Pos} {ms : List AV} (h : EvM C k sc (plainΓ V) c es ms c₁) (tg : Tg (.Tuple elts n p) xs) (hl : xs.all (fun x => isLocB sc x.1) = true) (hnd : nodupB (xs.map (·.1)) = true) (hlen : xs.length = ms.length) (hz : ms.length ≤ 1000)
    (hs : ∀ env : Env, env.scope = sc → swapsWithSole [.Tuple elts n p] (.Tuple es m q) pos.line env = pure false)
    (hw : ∀ env : Env, env.scope = sc → swappedStores [.Tuple elts n p] (.Tuple es m q) env = pure none ∨ swappedStores [.Tuple elts n p] (.Tuple es m q) env = pure (some (xs.map (·.1))))
    (r : Exs C k sc (putV (xs.map (·.1)) ms V) c₁ rest o) : Exs C k sc V c (.Assign [.Tuple elts n p] (.Tuple es m q) pos :: rest) o := Exs.cons (Ex.tup h tg (locs_of hl) (nodup_of hnd) hlen hz hs hw) r
theorem Exs.unp {value : Expr} {elts : List Expr} {xs : List (Str × Pos)} {n : Nat} {p pos : Pos} {ds : List D} (h : Ev C k sc (plainΓ V) c value (.tup ds) c₁) (tg : Tg (.Tuple elts n p) xs) (hl : xs.all (fun x => isLocB sc x.1) = true) (hnd : nodupB (xs.map (·.1)) = true) (hlen : ds.length = xs.length)
    (hs : ∀ env : Env, env.scope = sc → swapsWithSole [.Tuple elts n p] value pos.line env = pure false) (hw : ∀ env : Env, env.scope = sc → swappedStores [.Tuple elts n p] value env = pure none)
    (r : Exs C k sc (putV (xs.map (·.1)) (ds.map .v) V) c₁ rest o) : Exs C k sc V c (.Assign [.Tuple elts n p] value pos :: rest) o := Exs.cons (Ex.unp h tg (locs_of hl) (nodup_of hnd) hlen hs hw) r
theorem Exs.setItem {x : Str} {p pos pos' : Pos} {i value : Expr} {ds : List D} {d : D} {j : Int} (hv : Ev C k sc (allΓ V) c value d c₁) (hi : Ev C k sc (allΓ V) c₁ i (.int j) c₂) (hx : hasO x V = some ds) (h0 : 0 ≤ j) (hj : j < ds.length) (hz : ds.length ≤ 1000000) (ha : Atomic d)
    (hs : ∀ env : Env, env.scope = sc → swapsWith value (some (.Subscript (.Name x p) i pos')) pos.line env = pure false)
    (r : Exs C k sc (putV [x] [.o (ds.set j.toNat d)] V) c₂ rest o) : Exs C k sc V c (.Assign [.Subscript (.Name x p) i pos'] value pos :: rest) o := Exs.cons (Ex.setItem (hasO_mem hx) hv hi h0 hj hz ha hs) r
theorem Exs.append {x : Str} {p ap pos pos' : Pos} {e : Expr} {ds : List D} {d : D} (he : Ev C k sc (plainΓ V) c e d c₁) (hx : hasO x V = some ds) (hz : ds.length ≤ 1000000)
    (hs : ∀ env, starEach [e] env = (false, eval e env) :: starEach [] env) (hline : (ap.endLine == pos.line) = true)
    (r : Exs C k sc (putV [x] [.o (ds ++ [d])] V) c₁ rest o) : Exs C k sc V c (.Expr (.Call (.Attribute (.Name x p) "append" ap) [e] [] pos) pos' :: rest) o := Exs.cons (Ex.append (hasO_mem hx) (.inl he) hz hs hline) r
theorem Exs.appendA {x : Str} {p ap pos pos' : Pos} {e : Expr} {ds : List D} {d : D} (he : Ev C k sc (allΓ V) c e d c₁) (ha : Atomic d) (hx : hasO x V = some ds) (hz : ds.length ≤ 1000000)
    (hs : ∀ env, starEach [e] env = (false, eval e env) :: starEach [] env) (hline : (ap.endLine == pos.line) = true)
    (r : Exs C k sc (putV [x] [.o (ds ++ [d])] V) c₁ rest o) : Exs C k sc V c (.Expr (.Call (.Attribute (.Name x p) "append" ap) [e] [] pos) pos' :: rest) o := Exs.cons (Ex.append (hasO_mem hx) (.inr ⟨ha, he⟩) hz hs hline) r
theorem Exs.extend {x : Str} {p ap pos pos' : Pos} {e : Expr} {ds es : List D} (he : Ev C k sc (plainΓ V) c e (.list es) c₁) (hx : hasO x V = some ds) (hz : ds.length + es.length ≤ 1000000)
    (hs : ∀ env, starEach [e] env = (false, eval e env) :: starEach [] env) (hline : (ap.endLine == pos.line) = true)
    (r : Exs C k sc (putV [x] [.o (ds ++ es)] V) c₁ rest o) : Exs C k sc V c (.Expr (.Call (.Attribute (.Name x p) "extend" ap) [e] [] pos) pos' :: rest) o := Exs.cons (Ex.extend (hasO_mem hx) he hz hs hline) r
theorem Exs.pop {x y : Str} {p ap pos pos' py : Pos} {ds : List D} {d : D} (hx : hasO x V = some (ds ++ [d])) (hz : ds.length ≤ 1000000) (hl : isLocB sc y = true) (hxy : (y == x) = false) (hline : (ap.endLine == pos.line) = true)
    (r : Exs C k sc (putV [y] [.v d] (putV [x] [.o ds] V)) c rest o) : Exs C k sc V c (.Assign [.Name y py] (.Call (.Attribute (.Name x p) "pop" ap) [] [] pos) pos' :: rest) o := Exs.cons (Ex.pop (hasO_mem hx) hz (isLoc_of hl) (beq_eq_false_iff_ne.mp hxy) hline) r
theorem Exs.ret' {e : Expr} {pos : Pos} {d : D} (h : Ev C k sc (allΓ V) c e d c₁) : Exs C k sc V c (.Return (some e) pos :: rest) (.rt d c₁) := Exs.ret (Ex.ret h)
/-- a branch taken for sure, that may return -/
theorem Exs.iteR {test : Expr} {body orelse : List Stmt} {pos : Pos} {b : Bool} {d : D} (h : EvT C k sc (allΓ V) c test b c₁) (h₁ : b = true → Exs C k sc V c₁ body (.rt d c₂)) (h₂ : b = false → Exs C k sc V c₁ orelse (.nx V' c₃)) (r : b = false → Exs C k sc V' c₃ rest (.rt d c₂)) :
    Exs C k sc V c (.If test body orelse pos :: rest) (.rt d c₂) := by
  cases b with
  | true => exact Exs.ret (Ex.ifT h (h₁ rfl))
  | false => exact Exs.cons (Ex.ifF h (h₂ rfl)) (r rfl)
/-- if, that goes on either way -/
theorem Exs.iteN {test : Expr} {body orelse : List Stmt} {pos : Pos} {b : Bool} (h : EvT C k sc (allΓ V) c test b c₁) (h₁ : b = true → Exs C k sc V c₁ body (.nx V' c₂)) (h₂ : b = false → Exs C k sc V c₁ orelse (.nx V' c₂)) (r : Exs C k sc V' c₂ rest o) :
    Exs C k sc V c (.If test body orelse pos :: rest) o := Exs.cons (Ex.ite h h₁ h₂) r
theorem Exs.while {test : Expr} {body : List Stmt} {pos : Pos} (w : Wh C k sc test body V c (.nx V' c₁)) (r : Exs C k sc V' c₁ rest o) : Exs C k sc V c (.While test body [] pos :: rest) o := Exs.cons (Ex.while w) r
theorem Exs.for {t iter : Expr} {xs : List (Str × Pos)} {body : List Stmt} {pos : Pos} {items : List D} (hit : EvIt C k sc (plainΓ V) c iter t items c₁) (tg : Tg t xs) (hl : xs.all (fun x => isLocB sc x.1) = true) (hnd : nodupB (xs.map (·.1)) = true)
    (hs : ∀ env x, foldedSetIterable iter env x = pure x) (f : Fo C k sc t xs body items V c₁ (.nx V' c₂)) (r : Exs C k sc V' c₂ rest o) : Exs C k sc V c (.For t iter body [] pos :: rest) o := Exs.cons (Ex.for hit tg (locs_of hl) (nodup_of hnd) f hs) r
/-- the same state by another name -/
theorem Exs.at {es : List Stmt} (V' : Vs) (h : Exs C k sc V' c es o) (q : V = V' := by rfl) : Exs C k sc V c es o := q ▸ h
end

/-! the words: "st" lays the rule that the text asks for, wherever one is told by its form alone; what is left over is asked of the proof -/
local macro_rules | `(tactic| walk_at "side") => `(tactic| first | assumption | omega | (simp; done) | (simp; omega))
local macro_rules | `(tactic| walk_at "fn") => `(tactic| assumption)
local macro_rules | `(tactic| walk_at "bn") => `(tactic| first | exact BName.len | exact BName.abs | exact BName.list | exact BName.range | exact BName.max | exact BName.sorted | exact BName.zip | exact BName.enumerate | exact BName.reversed | exact BName.sum | exact BName.any | exact BName.all | exact BName.tuple)
local macro_rules | `(tactic| walk_at "ev") => `(tactic| first
  | ((with_reducible show Ev _ _ _ _ _ (.Name _ _) _ _); exact Ev.nm rfl)
  | ((with_reducible show Ev _ _ _ _ _ (.Constant _ _ _) _ _); first | exact Ev.int | exact Ev.str | exact Ev.bool | exact Ev.none)
  | ((with_reducible show Ev _ _ _ _ _ (.BinOp _ _ _ _) _ _); (apply Ev.bin') <;> walk_at "st")
  | ((with_reducible show Ev _ _ _ _ _ (.Compare _ [_] _ _) _ _); (apply Ev.cmp') <;> walk_at "st")
  | ((with_reducible show Ev _ _ _ _ _ (.UnaryOp _ _ _) _ _); (apply Ev.neg) <;> walk_at "st")
  | ((with_reducible show Ev _ _ _ _ _ (.Tuple _ _ _) _ _); (apply Ev.tup') <;> walk_at "st")
  | ((with_reducible show Ev _ _ _ _ _ (.Call _ _ _ _) _ _); first
    | (focus (apply Ev.callB'; (focus (walk_at "bn")); all_goals (walk_at "st")))
    | ((apply Ev.call') <;> walk_at "st"))
  | ((with_reducible show Ev _ _ _ _ _ (.Subscript _ _ _) _ _); first
    | (focus (apply Ev.itemN'; (focus (walk_at "ev")); all_goals (walk_at "st")))
    | (focus (apply Ev.lastN'; (focus (walk_at "ev")); all_goals (walk_at "st")))
    | (focus (apply Ev.itemT'; (focus (walk_at "ev")); all_goals (walk_at "st")))))
local macro_rules | `(tactic| walk_at "st") => `(tactic| first
  | ((with_reducible show Ev _ _ _ _ _ _ _ _); walk_at "ev")
  | ((with_reducible show EvT _ _ _ _ _ (.Compare _ [_] _ _) _ _); (apply EvT.cmp') <;> walk_at "st")
  | ((with_reducible show EvT _ _ _ _ _ (.UnaryOp _ _ _) _ _); (apply EvT.not) <;> walk_at "st")
  | ((with_reducible show EvL _ _ _ _ _ [] _ _); exact EvL.nil)
  | ((with_reducible show EvL _ _ _ _ _ (_ :: _) _ _); (apply EvL.cons') <;> walk_at "st")
  | ((with_reducible show Bin _ .Add (.int _) _ _); exact Bin.add)
  | ((with_reducible show Bin _ .Sub _ _ _); exact Bin.sub)
  | ((with_reducible show Bin _ .Mult (.int _) _ _); exact Bin.mul (by walk_at "side"))
  | ((with_reducible show Bin _ .Mod _ _ _); exact Bin.mod (by walk_at "side"))
  | ((with_reducible show Bin _ .FloorDiv _ _ _); exact Bin.fdiv (by walk_at "side") (by walk_at "side"))
  | ((with_reducible show Bin _ .Pow _ _ _); exact Bin.pow (by walk_at "side") (by walk_at "side") (by walk_at "side"))
  | ((with_reducible show Bin _ .Mult (.list _) _ _); exact Bin.rep (by walk_at "side") (by walk_at "side"))
  | ((with_reducible show Bin _ .Add (.list _) _ _); exact Bin.cat (by walk_at "side"))
  | ((with_reducible show Cmp _ .Eq (.int _) _ _); exact Cmp.eq)
  | ((with_reducible show Cmp _ .NotEq (.int _) _ _); exact Cmp.ne)
  | ((with_reducible show Cmp _ .Lt _ _ _); exact Cmp.lt)
  | ((with_reducible show Cmp _ .Gt _ _ _); exact Cmp.gt)
  | ((with_reducible show Cmp _ .LtE _ _ _); exact Cmp.le)
  | ((with_reducible show Cmp _ .GtE _ _ _); exact Cmp.ge)
  | ((with_reducible show Cmp _ .Is _ _ _); exact Cmp.is_none)
  | ((with_reducible show Cmp _ .IsNot _ _ _); exact Cmp.isnot_none)
  | ((with_reducible show CallV _ (.builtin "len") _ _); first | exact CallV.lenN (by walk_at "side") | exact CallV.len (by walk_at "side"))
  | ((with_reducible show CallV _ (.builtin "abs") _ _); exact CallV.abs)
  | ((with_reducible show CallV _ (.builtin "max") _ _); exact CallV.max)
  | ((with_reducible show CallV _ (.type "range") [_] _); exact CallV.range1)
  | ((with_reducible show CallV _ (.type "range") [_, _] _); exact CallV.range2)
  | ((with_reducible show CallV _ (.type "range") [_, _, _] _); exact CallV.range3 (by walk_at "side") (by walk_at "side"))
  | ((with_reducible show CallV _ (.type "tuple") _ _); exact CallV.tuple (by walk_at "side"))
  | ((with_reducible show Fn _ _ _ _ _ _ _); walk_at "fn")
  | ((with_reducible show _ ≤ _); walk_at "side")
  | ((with_reducible show _ < _); walk_at "side")
  | ((with_reducible show _ ≠ _); walk_at "side")
  | rfl
  | (intro _ _; rfl)
  | (intro _; rfl)
  | (with_unfolding_all rfl)
  | decide
  | skip)
/-! ## Loops by induction; names dropped -/
theorem all0 {α : Type} {P : List α → Prop} (h : P []) : ∀ vs : List α, vs.length = 0 → P vs := fun vs q => by rw [List.length_eq_zero_iff.mp q]; exact h
theorem allS {α : Type} {P : List α → Prop} {n : Nat} (h : ∀ a (vs : List α), vs.length = n → P (a :: vs)) : ∀ vs : List α, vs.length = n + 1 → P vs := fun vs q => by
  cases vs with
  | nil => cases q
  | cons a vs => exact h a vs (Nat.succ.inj q)
theorem all1 {α : Type} {P : List α → Prop} (h : ∀ a, P [a]) : ∀ vs : List α, vs.length = 1 → P vs := allS fun a => all0 (h a)
theorem all2 {α : Type} {P : List α → Prop} (h : ∀ a b, P [a, b]) : ∀ vs : List α, vs.length = 2 → P vs := allS fun a => all1 fun b => h a b
theorem all3 {α : Type} {P : List α → Prop} (h : ∀ a b c, P [a, b, c]) : ∀ vs : List α, vs.length = 3 → P vs := allS fun a => all2 fun b c => h a b c
theorem all4 {α : Type} {P : List α → Prop} (h : ∀ a b c d, P [a, b, c, d]) : ∀ vs : List α, vs.length = 4 → P vs := allS fun a => all3 fun b c d => h a b c d
theorem len2 {α : Type} {l : List α} (h : l.length = 2) : ∃ a b, l = [a, b] := all2 (P := fun l => ∃ a b, l = [a, b]) (fun a b => ⟨a, b, rfl⟩) l h
theorem len3 {α : Type} {l : List α} (h : l.length = 3) : ∃ a b c, l = [a, b, c] := all3 (P := fun l => ∃ a b c, l = [a, b, c]) (fun a b c => ⟨a, b, c, rfl⟩) l h
theorem len4 {α : Type} {l : List α} (h : l.length = 4) : ∃ a b c d, l = [a, b, c, d] := all4 (P := fun l => ∃ a b c d, l = [a, b, c, d]) (fun a b c d => ⟨a, b, c, d, rfl⟩) l h

noncomputable def keepV (ns : List Str) : Vs → Vs
  | [] => []
  | p :: r => if ns.any (fun n => p.1 == n) then p :: keepV ns r else keepV ns r
theorem keepV_sub {ns : List Str} : ∀ {V : Vs}, ∀ p ∈ keepV ns V, p ∈ V
  | [], p, h => nomatch h
  | q :: r, p, h => by
    rw [keepV] at h
    split at h
    · exact (List.mem_cons.mp h).elim (fun e => by rw [e]; exact List.mem_cons_self) fun m => List.mem_cons_of_mem _ (keepV_sub p m)
    · exact List.mem_cons_of_mem _ (keepV_sub p h)

section
variable {C : Cx} {k : Nat} {sc : Scope} {Γ : List (Str × D)} {V V' : Vs} {c c₁ c₂ : Int} {env : Env} {own : List Addr} {P : Addr → Obj → Prop} {hid : List Addr} {om : Str → Addr} {h : Heap}
theorem St.sub (st : St C env own P hid V c om h) (hs : ∀ p ∈ V', p ∈ V) : St C env own P hid V' c om h := by
  have how : ∀ a ∈ ow om V', a ∈ ow om V := fun a m => by
    obtain ⟨x, ds, q, rfl⟩ := mem_ow.mp m
    exact mem_ow.mpr ⟨x, ds, hs _ q, rfl⟩
  have sub : ∀ a ∈ ow om V' ++ hid, a ∈ ow om V ++ hid := fun a m => (List.mem_append.mp m).elim (fun q => List.mem_append_left _ (how a q)) fun q => List.mem_append_right _ q
  refine ⟨st.now.sub sub, st.old, st.pβ, st.fo, fun b m => st.fw b (how b m), fun a m => st.disj a (how a m), fun x y ds es q q' => st.inj x y ds es (hs _ q) (hs _ q'), fun x d m => ?_, fun x ds m => ?_, st.can⟩
  · obtain ⟨v, a, r⟩ := st.sees x d (mem_plain.mpr (hs _ (mem_plain.mp m)))
    exact ⟨v, a, r.sub sub⟩
  · obtain ⟨a, vs, n, hl, r⟩ := st.owns x ds (hs _ m)
    exact ⟨a, vs, n, hl, r.sub sub⟩
theorem Exs.sub {es : List Stmt} (h : Exs C k sc V c es (.nx V₁ c₁)) (hs : ∀ p ∈ V', p ∈ V₁) : Exs C k sc V c es (.nx V' c₁) := fun A env own P hid om s Q E R O st hQ =>
  h A env own P hid om s Q E R O st fun om' h' tk st' => hQ om' h' tk (st'.sub hs)
theorem Exs.keep (ns : List Str) {es : List Stmt} (h : Exs C k sc V c es (.nx V₁ c₁)) : Exs C k sc V c es (.nx (keepV ns V₁) c₁) := h.sub keepV_sub
/-- what is at hand, less some -/
theorem Exs.pre {es : List Stmt} {o : Out} (h : Exs C k sc V' c es o) (hs : ∀ p ∈ V', p ∈ V) : Exs C k sc V c es o := fun A env own P hid om s Q E R O st hQ => h A env own P hid om s Q E R O (st.sub hs) hQ

theorem Wh.ind {ι : Type} {test : Expr} {body : List Stmt} (V : ι → Vs) (o : ι → Out) (μ : ι → Nat) (P : ι → Prop)
    (step : ∀ i, P i → (∀ j, μ j < μ i → P j → Wh C k sc test body (V j) c (o j)) → Wh C k sc test body (V i) c (o i)) (i : ι) (h : P i) : Wh C k sc test body (V i) c (o i) := by
  generalize hn : μ i = n
  induction n using Nat.strongRecOn generalizing i with
  | ind n ih => exact step i h fun j hj hP => ih (μ j) (hn ▸ hj) j hP rfl
theorem Fo.ind {ι : Type} {t : Expr} {xs : List (Str × Pos)} {body : List Stmt} (items : ι → List D) (V : ι → Vs) (o : ι → Out) (P : ι → Prop)
    (step : ∀ i, P i → (∀ j, (items j).length < (items i).length → P j → Fo C k sc t xs body (items j) (V j) c (o j)) → Fo C k sc t xs body (items i) (V i) c (o i)) (i : ι) (h : P i) : Fo C k sc t xs body (items i) (V i) c (o i) := by
  generalize hn : (items i).length = n
  induction n using Nat.strongRecOn generalizing i with
  | ind n ih => exact step i h fun j hj hP => ih _ (hn ▸ hj) j hP rfl
end

/-! ## The first of them: mtrim -/
noncomputable def trimN : List Nat → List Nat
  | [] => []
  | a :: r => match trimN r with
    | [] => if a = 0 then [] else [a]
    | b :: s => a :: b :: s
theorem trimN_zero (l : List Nat) : trimN (l ++ [0]) = trimN l := by
  induction l with
  | nil => rfl
  | cons a r ih => rw [List.cons_append, trimN, trimN, ih]
theorem trimN_last (l : List Nat) {x : Nat} (hx : x ≠ 0) : trimN (l ++ [x]) = l ++ [x] := by
  induction l with
  | nil => simp [trimN, hx]
  | cons a r ih =>
    rw [List.cons_append, trimN, ih]
    cases r <;> rfl
theorem trimN_le (l : List Nat) : (trimN l).length ≤ l.length := by
  induction l with
  | nil => simp [trimN]
  | cons a r ih =>
    rw [trimN]
    split
    · split <;> simp
    · rename_i e; rw [e] at ih; simp at ih ⊢; omega
theorem trimN_take (l : List Nat) : l.take (trimN l).length = trimN l := by
  induction l with
  | nil => rfl
  | cons a r ih =>
    rw [trimN]
    split
    · split <;> simp
    · rename_i e; rw [e] at ih; simp at ih ⊢; exact ih
theorem take_succ_getD (a : List Nat) (n : Nat) (h : n < a.length) : a.take (n + 1) = a.take n ++ [a.getD n 0] := by
  rw [List.take_add_one, List.getD_eq_getElem?_getD, List.getElem?_eq_getElem h]; rfl

section
variable {C : Cx} {k : Nat} {c : Int}
theorem f_mtrim {a : List Nat} (hz : a.length ≤ 1000) : Fn C 3 "mtrim" [LN a] c (LN (trimN a)) c := by
  refine Fn.intro (k := 2) (i := 10) (by with_unfolding_all rfl) ["a"] (fun _ _ _ => all1 fun _ => rfl) rfl (nodup_of rfl) (names_of rfl) ?_
  refine Exs.set (c₁ := c) (by walk_at "st") rfl (by intro _ _; rfl) ?_
  refine Exs.while (V' := [("a", .v (LN a)), ("many", .v (N1 (trimN a).length))]) (c₁ := c) ?_ ?_
  · refine Wh.ind (V := fun n => [("a", .v (LN a)), ("many", .v (N1 n))]) (o := fun n => .nx [("a", .v (LN a)), ("many", .v (N1 (trimN a).length))] c) (μ := id) (P := fun n => n ≤ a.length ∧ trimN (a.take n) = trimN a) ?_ a.length ⟨Nat.le_refl _, by rw [List.take_length]⟩
    rintro n ⟨hn, ht⟩ ih
    cases n with
    | zero =>
      have e : (trimN a).length = 0 := by rw [← ht]; simp [trimN]
      rw [e]
      exact Wh.stop (EvT.and_false (EvT.cast (by walk_at "st") (by simp)))
    | succ n =>
      rw [take_succ_getD a n (by omega)] at ht
      have hi : ((n + 1 : Nat) : Int) - 1 = (n : Int) := by omega
      by_cases hx : a.getD n 0 = 0
      · rw [hx, trimN_zero] at ht
        refine Wh.turn (c₁ := c) (c₂ := c) (V' := [("a", .v (LN a)), ("many", .v (N1 n))]) (EvT.and_true (EvT.cast (by walk_at "st") (by simp)) (EvT.and1 (EvT.cast (by walk_at "st") ?_))) ?_ (ih n (Nat.lt_succ_self n) ⟨by omega, ht⟩)
        · have : (((n + 1 : Nat) : Int) - 1).toNat = n := by omega
          rw [this, hx]; rfl
        · exact Exs.set (c₁ := c) (d := N1 n) (Ev.cast (by walk_at "st") (by rw [hi])) rfl (by intro _ _; rfl) Exs.nil
      · rw [trimN_last _ hx, ← take_succ_getD a n (by omega)] at ht
        have e : (trimN a).length = n + 1 := by rw [← ht, List.length_take]; omega
        rw [e]
        refine Wh.stop (EvT.and_true (EvT.cast (by walk_at "st") (by simp)) (EvT.and1 (EvT.cast (by walk_at "st") ?_)))
        have : (((n + 1 : Nat) : Int) - 1).toNat = n := by omega
        rw [this]
        simpa using hx
  · have key : a.take (trimN a).length = trimN a := trimN_take a
    refine Exs.ret' (Ev.cast (EvF.ev (EvF.listN (EvL.cons (EvF.ev (EvF.sliceToN (c₂ := c) (by walk_at "st") (by walk_at "st") (by omega))) EvL.nil) ?_ rfl (by omega))) ?_)
    · simp; omega
    · rw [key]
end
/-! ## Comprehensions, ready for use -/
noncomputable def capΓ (scope : Scope) : List (Str × D) → List (Str × D)
  | [] => []
  | (x, d) :: r => if scope.names.lookup x == some .free then (x, d) :: capΓ scope r else capΓ scope r
theorem mem_capΓ {scope : Scope} {x : Str} {d : D} : ∀ {Γ : List (Str × D)}, (x, d) ∈ capΓ scope Γ ↔ (x, d) ∈ Γ ∧ scope.names.lookup x = some .free
  | [] => by simp [capΓ]
  | (y, e) :: r => by
    rw [capΓ]
    by_cases q : scope.names.lookup y = some .free
    · rw [if_pos (by simp [q]), List.mem_cons, List.mem_cons, mem_capΓ (Γ := r)]
      constructor
      · rintro (z | ⟨z1, z2⟩)
        · cases z; exact ⟨.inl rfl, q⟩
        · exact ⟨.inr z1, z2⟩
      · rintro ⟨z | z, z2⟩
        · exact .inl z
        · exact .inr ⟨z, z2⟩
    · rw [if_neg (by simp [q]), List.mem_cons, mem_capΓ (Γ := r)]
      constructor
      · rintro ⟨z1, z2⟩; exact ⟨.inr z1, z2⟩
      · rintro ⟨z | z, z2⟩
        · cases z; exact absurd z2 q
        · exact ⟨z, z2⟩
noncomputable def namesΓ : List (Str × D) → List Str
  | [] => []
  | (x, _) :: r => x :: namesΓ r
theorem mem_namesΓ {x : Str} : ∀ {Γ : List (Str × D)}, x ∈ namesΓ Γ → ∃ d, (x, d) ∈ Γ
  | [], h => nomatch h
  | (y, e) :: r, h => by
    rcases List.mem_cons.mp h with q | q
    · exact ⟨e, by rw [q]; exact List.mem_cons_self⟩
    · obtain ⟨d, m⟩ := mem_namesΓ q; exact ⟨d, List.mem_cons_of_mem _ m⟩
theorem namesΓ_mem {x : Str} {d : D} : ∀ {Γ : List (Str × D)}, (x, d) ∈ Γ → x ∈ namesΓ Γ
  | (y, e) :: r, h => by
    rcases List.mem_cons.mp h with q | q
    · cases q; exact List.mem_cons_self
    · exact List.mem_cons_of_mem _ (namesΓ_mem q)

noncomputable def compB (scope sc : Scope) (xs : List (Str × Pos)) (ns : List Str) : Bool :=
  (match scope.kind with | .function => true | _ => false) && scope.names.all (fun p => scope.names.lookup p.1 == some p.2) && xs.all (fun x => isLocB scope x.1) && nodupB (xs.map (·.1)) &&
  scope.names.all (fun p => !(p.2 == .free) || ns.any (fun n => p.1 == n)) && ns.all (fun n => !(scope.names.lookup n == some .free) || (sc.names.lookup n == some .cell || sc.names.lookup n == some .free))
theorem CompOK.of {scope sc : Scope} {xs : List (Str × Pos)} {Γ : List (Str × D)} (h : compB scope sc xs (namesΓ Γ) = true) : CompOK scope sc xs Γ (capΓ scope Γ) := by
  unfold compB at h
  simp only [Bool.and_eq_true] at h
  obtain ⟨⟨⟨⟨⟨h1, h2⟩, h3⟩, h4⟩, h5⟩, h6⟩ := h
  have lk : ∀ p ∈ scope.names, scope.names.lookup p.1 = some p.2 := fun p m => by simpa using List.all_eq_true.mp h2 p m
  refine ⟨?_, lk, fun x m => isLoc_of (List.all_eq_true.mp h3 x m), nodup_of h4, fun p m e => ?_, fun p m => ?_⟩
  · split at h1
    · assumption
    · cases h1
  · have := List.all_eq_true.mp h5 p m
    rw [e] at this
    simp only [beq_self_eq_true, Bool.not_true, Bool.false_or] at this
    obtain ⟨n, hn, q⟩ := List.any_eq_true.mp this
    obtain ⟨d, hd⟩ := mem_namesΓ hn
    have q' : p.1 = n := by simpa using q
    refine ⟨d, mem_capΓ.mpr ⟨by rw [q']; exact hd, ?_⟩⟩
    rw [lk p m, e]
  · obtain ⟨m1, m2⟩ := mem_capΓ.mp m
    refine ⟨m1, ?_, m2⟩
    have := List.all_eq_true.mp h6 p.1 (namesΓ_mem m1)
    rw [m2] at this
    simpa using this

section
variable {C : Cx} {k : Nat} {sc : Scope} {Γ : List (Str × D)} {V V' : Vs} {c c₁ c₂ : Int}

theorem CR.map {P : D → Int → List D → Int → Prop} (g : D → D) {c : Int} : ∀ (items : List D), (∀ d ∈ items, P d c [g d] c) → CR P items c (items.map g) c
  | [], _ => .nil c
  | d :: ds, h => by
    rw [List.map_cons]
    exact .cons (out := [g d]) (h d List.mem_cons_self) (CR.map g ds fun d m => h d (List.mem_cons_of_mem _ m))
theorem CR.fil {P : D → Int → List D → Int → Prop} (q : D → Bool) (g : D → D) {c : Int} : ∀ (items : List D), (∀ d ∈ items, P d c (if q d then [g d] else []) c) → CR P items c ((items.filter q).map g) c
  | [], _ => .nil c
  | d :: ds, h => by
    have h1 := h d List.mem_cons_self
    have h2 := CR.fil q g ds fun d m => h d (List.mem_cons_of_mem _ m)
    rw [List.filter_cons]
    cases e : q d with
    | true => rw [e] at h1; exact .cons h1 h2
    | false => rw [e] at h1; exact .cons h1 h2

/-- [elt for t in iter] -/
theorem EvF.compMap {elt t iter : Expr} {xs : List (Str × Pos)} {scope : Scope} {pos : Pos} {items : List D} (g : D → D) (hit : EvIt C k sc Γ c iter t items c₁) (tg : Tg t xs) (K : compB scope sc xs (namesΓ Γ) = true) (hl : ∀ d ∈ items, (tgD t d).length = xs.length)
    (he : ∀ d ∈ items, Ev C k (relabelS scope sc) (tgΓ xs t d ++ capΓ scope Γ) c₁ elt (g d) c₁) (hz : items.length ≤ 1000000) (hs : ∀ env x, foldedSetIterable iter env x = pure x) :
    EvF C k sc Γ c (.ListComp elt [⟨t, iter, [], 0⟩] scope pos) (items.map g) c₁ :=
  EvF.comp hit tg (CompOK.of K) (CR.map g items fun d m => ⟨hl d m, true, c₁, EvIfs.nil, fun _ => ⟨g d, rfl, he d m⟩, fun q => nomatch q⟩) (by simpa using hz) hs
/-- [elt for t in iter if test] -/
theorem EvF.compFil {elt t iter test : Expr} {xs : List (Str × Pos)} {scope : Scope} {pos : Pos} {items : List D} (q : D → Bool) (g : D → D) (hit : EvIt C k sc Γ c iter t items c₁) (tg : Tg t xs) (K : compB scope sc xs (namesΓ Γ) = true) (hl : ∀ d ∈ items, (tgD t d).length = xs.length)
    (ht : ∀ d ∈ items, EvT C k (relabelS scope sc) (tgΓ xs t d ++ capΓ scope Γ) c₁ test (q d) c₁) (he : ∀ d ∈ items, q d = true → Ev C k (relabelS scope sc) (tgΓ xs t d ++ capΓ scope Γ) c₁ elt (g d) c₁) (hz : items.length ≤ 1000000) (hs : ∀ env x, foldedSetIterable iter env x = pure x) :
    EvF C k sc Γ c (.ListComp elt [⟨t, iter, [test], 0⟩] scope pos) ((items.filter q).map g) c₁ :=
  EvF.comp hit tg (CompOK.of K) (CR.fil q g items fun d m => ⟨hl d m, q d, c₁, EvIfs.one (ht d m), fun e => ⟨g d, by rw [e]; rfl, he d m e⟩, fun e => ⟨by rw [e]; rfl, rfl⟩⟩)
    (by rw [List.length_map]; exact Nat.le_trans (List.length_filter_le _ _) hz) hs

/-- [elt for x in a], rows of naturals -/
theorem EvF.compN {elt iter : Expr} {x : Str} {px : Pos} {scope : Scope} {pos : Pos} {a : List Nat} (g : Nat → Nat) (hit : Ev C k sc Γ c iter (LN a) c₁) (K : compB scope sc [(x, px)] (namesΓ Γ) = true)
    (he : ∀ n ∈ a, Ev C k (relabelS scope sc) ((x, N1 n) :: capΓ scope Γ) c₁ elt (N1 (g n)) c₁) (hz : a.length ≤ 1000000) (hs : ∀ env x, foldedSetIterable iter env x = pure x) :
    EvF C k sc Γ c (.ListComp elt [⟨.Name x px, iter, [], 0⟩] scope pos) ((a.map g).map N1) c₁ := by
  have key : ∀ (l : List Nat) (c : Int), (∀ n ∈ l, Ev C k (relabelS scope sc) ((x, N1 n) :: capΓ scope Γ) c elt (N1 (g n)) c) → CR (TurnE C k (relabelS scope sc) [(x, px)] (capΓ scope Γ) (.Name x px) [] elt) (l.map N1) c ((l.map g).map N1) c := by
    intro l c h
    induction l with
    | nil => exact .nil c
    | cons n l ih =>
      exact .cons (out := [N1 (g n)]) ⟨rfl, true, c, EvIfs.nil, fun _ => ⟨_, rfl, h n List.mem_cons_self⟩, fun q => nomatch q⟩ (ih fun m hm => h m (List.mem_cons_of_mem _ hm))
  exact EvF.comp (EvIt.list hit) (.name x px) (CompOK.of K) (key a c₁ he) (by simpa using hz) hs
end

/-! ## Arithmetic of the rows -/
theorem fmod_nat (a b : Nat) : (a : Int).fmod (b : Int) = ((a % b : Nat) : Int) := by
  rw [Int.fmod_eq_emod_of_nonneg _ (by omega)]; rfl
noncomputable def negN (p n : Nat) : Nat := (p - n % p) % p
theorem fmod_neg (p n : Nat) (hp : 0 < p) : (-(n : Int)).fmod (p : Int) = ((negN p n : Nat) : Int) := by
  rw [Int.fmod_eq_emod_of_nonneg _ (by omega)]
  unfold negN
  have h1 : (-(n : Int)) % (p : Int) = (((p - n % p : Nat) : Int)) % (p : Int) := by
    have hlt := Nat.mod_lt n hp
    rw [Int.ofNat_sub (Nat.le_of_lt hlt)]
    have e : -(n : Int) = (p : Int) - ((n % p : Nat) : Int) - (p : Int) * (((n / p : Nat) : Int) + 1) := by
      have := Nat.div_add_mod n p
      have h2 : (n : Int) = (p : Int) * ((n / p : Nat) : Int) + ((n % p : Nat) : Int) := by exact_mod_cast this.symm
      rw [h2, Int.mul_add]
      omega
    rw [e, Int.sub_mul_emod_self_left]
  rw [h1]
  rfl

section
variable {C : Cx} {k : Nat} {c : Int}
theorem f_mdegree {a : List Nat} (hz : a.length ≤ 1000) : Fn C 2 "mdegree" [LN a] c (.int (a.length - 1)) c := by
  refine Fn.intro (k := 1) (i := 11) (by with_unfolding_all rfl) ["a"] (fun _ _ _ => all1 fun _ => rfl) rfl (nodup_of rfl) (names_of rfl) ?_
  exact Exs.ret' (by walk_at "st")
theorem f_mneg {a : List Nat} {p : Nat} (hz : a.length ≤ 1000) (hp : 0 < p) : Fn C 3 "mneg" [LN a, N1 p] c (LN (a.map (negN p))) c := by
  refine Fn.intro (k := 2) (i := 14) (by with_unfolding_all rfl) ["a", "p"] (fun _ _ _ => all2 fun _ _ => rfl) rfl (nodup_of rfl) (names_of rfl) ?_
  refine Exs.ret' (EvF.ev (EvF.compN (negN p) (by walk_at "st") (by with_unfolding_all rfl) (fun n hn => ?_) (by omega) (by intro _ _; rfl)))
  exact Ev.cast (by walk_at "st") (by rw [fmod_neg p n hp])
end
/-! ## for, place by place -/
section
variable {C : Cx} {k : Nat} {sc : Scope} {Γ : List (Str × D)} {V V' : Vs} {c c₁ c₂ : Int}
theorem Fo.seq {t : Expr} {xs : List (Str × Pos)} {body : List Stmt} : ∀ (items : List D) (V : Nat → Vs), (∀ d ∈ items, (tgD t d).length = xs.length) →
    (∀ i d, items[i]? = some d → Exs C k sc (putV (xs.map (·.1)) ((tgD t d).map .v) (V i)) c body (.nx (V (i + 1)) c)) → Fo C k sc t xs body items (V 0) c (.nx (V items.length) c)
  | [], V, _, _ => .nil
  | d :: ds, V, hl, hb => by
    refine .turn (hl d List.mem_cons_self) (hb 0 d rfl) ?_
    exact Fo.seq ds (fun i => V (i + 1)) (fun d m => hl d (List.mem_cons_of_mem _ m)) fun i d h => hb (i + 1) d (by simpa using h)
theorem Fo.seqN {t : Expr} {xs : List (Str × Pos)} {body : List Stmt} {items : List D} {n : Nat} (hn : items.length = n) (V : Nat → Vs) (hl : ∀ d ∈ items, (tgD t d).length = xs.length)
    (hb : ∀ i d, items[i]? = some d → Exs C k sc (putV (xs.map (·.1)) ((tgD t d).map .v) (V i)) c body (.nx (V (i + 1)) c)) : Fo C k sc t xs body items (V 0) c (.nx (V n) c) := hn ▸ Fo.seq items V hl hb
theorem Fo.seqE {t : Expr} {xs : List (Str × Pos)} {body : List Stmt} {items : List D} {V₀ Vₙ : Vs} (n : Nat) (hn : items.length = n) (V : Nat → Vs) (h0 : V₀ = V 0) (hV : V n = Vₙ) (hl : ∀ d ∈ items, (tgD t d).length = xs.length)
    (hb : ∀ i d, items[i]? = some d → Exs C k sc (putV (xs.map (·.1)) ((tgD t d).map .v) (V i)) c body (.nx (V (i + 1)) c)) : Fo C k sc t xs body items V₀ c (.nx Vₙ c) := by
  subst h0; subst hV; exact Fo.seqN hn V hl hb
theorem rngInts_get {a st : Int} {n i : Nat} {d : D} (h : (rngInts a st n)[i]? = some d) : i < n ∧ d = .int (a + (i : Int) * st) := by
  unfold rngInts at h
  rw [List.getElem?_map] at h
  have hlt : i < n := by
    rcases Nat.lt_or_ge i n with q | q
    · exact q
    · rw [List.getElem?_eq_none (by simpa using q)] at h; cases h
  rw [List.getElem?_range hlt] at h
  cases h
  exact ⟨hlt, rfl⟩
theorem rngInts_len {a st : Int} {n : Nat} : (rngInts a st n).length = n := by simp [rngInts]
theorem enumD_get {ds : List D} {i : Nat} {d : D} (h : (enumD ds)[i]? = some d) : ∃ e, ds[i]? = some e ∧ d = .tup [.int (i : Int), e] := by
  unfold enumD at h
  rw [List.getElem?_map, List.getElem?_zipIdx] at h
  cases q : ds[i]? with
  | none => rw [q] at h; cases h
  | some e => rw [q] at h; cases h; exact ⟨e, rfl, by simp⟩
theorem enumD_len {ds : List D} : (enumD ds).length = ds.length := by simp [enumD]
theorem mapN_get {a : List Nat} {i : Nat} {d : D} (h : (a.map N1)[i]? = some d) : i < a.length ∧ d = N1 (a.getD i 0) := by
  rw [List.getElem?_map] at h
  rcases Nat.lt_or_ge i a.length with q | q
  · rw [List.getElem?_eq_getElem q] at h
    cases h
    exact ⟨q, by rw [List.getD_eq_getElem?_getD, List.getElem?_eq_getElem q]; rfl⟩
  · rw [List.getElem?_eq_none q] at h; cases h
theorem rng_small {a b st : Int} {n : Nat} (ha : -2000000 ≤ a ∧ a ≤ 2000000) (hb : -2000000 ≤ b ∧ b ≤ 2000000) (hs : -2000000 ≤ st ∧ st ≤ 2000000) (hn : Builtin.Range.rangeSize a b st = (n : Int)) (hz : n ≤ 2000000) : Builtin.Range.small a b st = true := by
  have fit : ∀ x : Int, -5000000 ≤ x → x ≤ 5000000 → Builtin.Range.rangeFitsLong x = true := fun x h1 h2 => by
    unfold Builtin.Range.rangeFitsLong
    rw [Bool.and_eq_true, decide_eq_true_eq, decide_eq_true_eq]
    omega
  unfold Builtin.Range.small
  rw [hn, fit a (by omega) (by omega), fit b (by omega) (by omega), fit st (by omega) (by omega), fit (n : Int) (by omega) (by omega), fit (b + (st - 1)) (by omega) (by omega), fit (b + (st + 1)) (by omega) (by omega)]
  simp
theorem rngSize_up {n : Nat} : Builtin.Range.rangeSize 0 (n : Int) 1 = n := by
  unfold Builtin.Range.rangeSize
  rw [if_pos (by decide)]
  split <;> omega
/-- range(n) -/
theorem EvIt.rngN {e t : Expr} {n : Nat} (h : Ev C k sc Γ c e (.rng 0 (n : Int) 1) c₁) (hz : n ≤ 1000000) : EvIt C k sc Γ c e t (rngInts 0 1 n) c₁ :=
  EvIt.rng h (rng_small (n := n) (by omega) (by omega) (by omega) rngSize_up (by omega)) rngSize_up
end

/-! ## Contracts: the plain ones -/
noncomputable def lastN (a : List Nat) : Nat := a.getD (a.length - 1) 0
noncomputable def addN (p : Nat) (a b : List Nat) : List Nat := (List.range (max a.length b.length)).map fun i => (a.getD i 0 + b.getD i 0) % p
noncomputable def subN (p : Nat) (a b : List Nat) : List Nat := trimN (addN p a (b.map (negN p)))
noncomputable def scaleN (p n : Nat) (a : List Nat) : List Nat := trimN (a.map fun x => x * n % p)

section
variable {C : Cx} {k : Nat} {sc : Scope} {Γ : List (Str × D)} {V : Vs} {c : Int}
theorem Ev.getN {aE iE iF lE : Expr} {p1 p2 p3 p4 : Pos} {n : Nat} {a : List Nat} {j : Nat} (ha : Ev C k sc Γ c aE (LN a) c) (hi : Ev C k sc Γ c iE (N1 j) c) (hj : Ev C k sc Γ c iF (N1 j) c) (hl : Ev C k sc Γ c lE (.int a.length) c) (hz : a.length ≤ 1000000) (hk : 1 ≤ k)
    (hm : behindInMarks .Lt lE = false) (hs : ∀ o i, subscripted iF false o i = operate [o, i] (getItem o i)) :
    Ev C k sc Γ c (.IfExp (.Compare iE [.Lt] [lE] p1) (.Subscript aE iF p2) (.Constant (.int 0) n p3) p4) (N1 (a.getD j 0)) c := by
  refine Ev.ite (b := decide ((j : Int) < (a.length : Int))) (EvT.cmp hi hl Cmp.lt hm hk) (fun hb => ?_) fun hb => ?_
  · have hlt : j < a.length := by simpa using hb
    exact Ev.itemN ha hj (by omega) (by omega) hz hs
  · have hge : ¬ j < a.length := by simpa using hb
    refine Ev.cast Ev.int ?_
    rw [List.getD_eq_getElem?_getD, List.getElem?_eq_none (by omega)]; rfl

theorem f_mlead {a : List Nat} (hz : a.length ≤ 1000) : Fn C 2 "mlead" [LN a] c (N1 (lastN a)) c := by
  refine Fn.intro (k := 1) (i := 12) (by with_unfolding_all rfl) ["a"] (fun _ _ _ => all1 fun _ => rfl) rfl (nodup_of rfl) (names_of rfl) ?_
  refine Exs.ret' (Ev.ite (b := decide ((0 : Int) < (a.length : Int))) (c₁ := c) (by walk_at "st") (fun hb => ?_) fun hb => ?_)
  · have h1 : 1 ≤ a.length := by have : (0 : Int) < (a.length : Int) := by simpa using hb
                                 omega
    exact Ev.lastN (c₁ := c) (by walk_at "st") (by walk_at "st") h1 (by omega)
  · have h1 : ¬ (0 : Int) < (a.length : Int) := by simpa using hb
    refine Ev.cast Ev.int ?_
    unfold lastN
    rw [List.getD_eq_getElem?_getD, List.getElem?_eq_none (by omega)]; rfl

theorem range_snoc {α : Type} (f : Nat → α) (i : Nat) : (List.range (i + 1)).map f = (List.range i).map f ++ [f i] := by rw [List.range_succ, List.map_append]; rfl

theorem f_madd {a b : List Nat} {p : Nat} (ha : a.length ≤ 500) (hb : b.length ≤ 500) (hp : 0 < p) : Fn C 4 "madd" [LN a, LN b, N1 p] c (LN (trimN (addN p a b))) c := by
  refine Fn.intro (k := 3) (i := 13) (by with_unfolding_all rfl) ["a", "b", "p"] (fun _ _ _ => all3 fun _ _ _ => rfl) rfl (nodup_of rfl) (names_of rfl) ?_
  refine Exs.setO (c₁ := c) (EvF.list EvL.nil) rfl (by intro _ _; rfl) ?_
  have hmax : (Max.max (a.length : Int) (b.length : Int)) = ((max a.length b.length : Nat) : Int) := by omega
  let g : Nat → Nat := fun i => (a.getD i 0 + b.getD i 0) % p
  refine Exs.for (c₁ := c) (c₂ := c) (V' := [("a", .v (LN a)), ("b", .v (LN b)), ("p", .v (N1 p)), ("found", .o ((addN p a b).map N1))]) (items := rngInts 0 1 (max a.length b.length)) (EvIt.rngN (Ev.cast (by walk_at "st") (by rw [hmax])) (by omega)) (.name _ _) rfl rfl (by intro _ _; rfl) ?_ ?_
  · refine Fo.seqN (n := max a.length b.length) rngInts_len (fun i => [("a", .v (LN a)), ("b", .v (LN b)), ("p", .v (N1 p)), ("found", .o (((List.range i).map g).map N1))]) (fun d m => ?_) fun i d hd => ?_
    · obtain ⟨i, hi⟩ := List.mem_iff_getElem?.mp m
      obtain ⟨_, rfl⟩ := rngInts_get hi; rfl
    · obtain ⟨hlt, rfl⟩ := rngInts_get hd
      have e0 : (0 : Int) + (i : Int) * 1 = (i : Int) := by omega
      rw [e0]
      refine Exs.keep ["a", "b", "p", "found"] (V₁ := [("a", .v (LN a)), ("b", .v (LN b)), ("p", .v (N1 p)), ("found", .o (((List.range (i + 1)).map g).map N1)), ("at", .v (N1 i))]) ?_
      rw [range_snoc, List.map_append]
      refine Exs.at [("a", .v (LN a)), ("b", .v (LN b)), ("p", .v (N1 p)), ("found", .o (((List.range i).map g).map N1)), ("at", .v (N1 i))] ?_
      refine Exs.appendA (c₁ := c) (d := N1 (g i)) ?_ trivial rfl (by simp; omega) (by intro _; rfl) rfl Exs.nil
      refine Ev.cast (Ev.bin (c₁ := c) (Ev.bin (c₁ := c) (d₁ := N1 (a.getD i 0)) (d₂ := N1 (b.getD i 0)) ?_ ?_ Bin.add) (Ev.nm rfl) (Bin.mod (by omega))) ?_
      · exact Ev.getN (Ev.nm rfl) (Ev.nm rfl) (Ev.nm rfl) (by walk_at "st") (by omega) (by omega) (by with_unfolding_all rfl) (by intro _ _; rfl)
      · exact Ev.getN (Ev.nm rfl) (Ev.nm rfl) (Ev.nm rfl) (by walk_at "st") (by omega) (by omega) (by with_unfolding_all rfl) (by intro _ _; rfl)
      show D.int _ = D.int _
      rw [← Int.natCast_add, fmod_nat]
  · have hl : (addN p a b).length ≤ 1000 := by simp [addN]; omega
    have := @f_mtrim C c _ hl
    exact Exs.ret' (by walk_at "st")
end
/-! ## Contracts: msub, mscale, mmul -/
theorem addN_len (p : Nat) (a b : List Nat) : (addN p a b).length = max a.length b.length := by simp [addN]
noncomputable def axpy (p c : Nat) : List Nat → List Nat → List Nat
  | [], xs => xs
  | _ :: _, [] => []
  | y :: ys, x :: xs => ((x + c * y) % p) :: axpy p c ys xs
theorem axpy_len (p c : Nat) : ∀ (ys xs : List Nat), ys.length ≤ xs.length → (axpy p c ys xs).length = xs.length
  | [], xs, _ => rfl
  | _ :: _, [], h => by simp at h
  | y :: ys, x :: xs, h => by simp only [axpy, List.length_cons]; rw [axpy_len p c ys xs (by simpa using h)]
theorem axpy_step (p c : Nat) : ∀ (ys xs : List Nat) (s : Nat), s < ys.length → ys.length ≤ xs.length →
    (axpy p c (ys.take s) xs).getD s 0 = xs.getD s 0 ∧ (axpy p c (ys.take s) xs).set s ((xs.getD s 0 + c * ys.getD s 0) % p) = axpy p c (ys.take (s + 1)) xs
  | [], xs, s, h, _ => by simp at h
  | y :: ys, [], s, _, h => by simp at h
  | y :: ys, x :: xs, 0, _, _ => by constructor <;> simp [axpy]
  | y :: ys, x :: xs, s + 1, h, h' => by
    obtain ⟨i1, i2⟩ := axpy_step p c ys xs s (by simpa using h) (by simpa using h')
    constructor
    · simpa [axpy] using i1
    · simpa [axpy] using i2

/-- pre ++ ys, with ys changed at a place -/
theorem set_behind (pre ys : List Nat) (s x : Nat) : (pre ++ ys).set (pre.length + s) x = pre ++ ys.set s x := by
  rw [List.set_append_right _ _ (by omega)]; simp
theorem getD_behind (pre ys : List Nat) (s : Nat) : (pre ++ ys).getD (pre.length + s) 0 = ys.getD s 0 := by
  rw [List.getD_eq_getElem?_getD, List.getD_eq_getElem?_getD, List.getElem?_append_right (by omega)]; simp
theorem map_set_N (l : List Nat) (i x : Nat) : (l.map N1).set i (N1 x) = (l.set i x).map N1 := by rw [List.map_set]

noncomputable def rowAt (p h : Nat) (b : List Nat) (i : Nat) (f : List Nat) : List Nat := if h = 0 then f else f.take i ++ axpy p h b (f.drop i)
noncomputable def mulF (p : Nat) (b : List Nat) : List Nat → Nat → List Nat → List Nat
  | [], _, f => f
  | h :: a, i, f => mulF p b a (i + 1) (rowAt p h b i f)
theorem mulF_snoc (p : Nat) (b : List Nat) (h : Nat) : ∀ (l : List Nat) (i : Nat) (f : List Nat), mulF p b (l ++ [h]) i f = rowAt p h b (i + l.length) (mulF p b l i f)
  | [], i, f => by simp [mulF]
  | x :: l, i, f => by
    rw [List.cons_append, mulF, mulF, mulF_snoc p b h l (i + 1)]
    rw [List.length_cons]; congr 1; omega
theorem rowAt_len (p h : Nat) (b : List Nat) (i : Nat) (f : List Nat) (hl : i + b.length ≤ f.length) : (rowAt p h b i f).length = f.length := by
  unfold rowAt
  split
  · rfl
  · rw [List.length_append, axpy_len _ _ _ _ (by rw [List.length_drop]; omega), List.length_take, List.length_drop]; omega
theorem mulF_len (p : Nat) (b : List Nat) : ∀ (l : List Nat) (i : Nat) (f : List Nat), i + l.length + b.length ≤ f.length + 1 → (mulF p b l i f).length = f.length
  | [], i, f, _ => rfl
  | x :: l, i, f, h => by
    rw [List.length_cons] at h
    rw [mulF, mulF_len p b l (i + 1) _ (by rw [rowAt_len p x b i f (by omega)]; omega), rowAt_len p x b i f (by omega)]
noncomputable def mulN (p : Nat) (a b : List Nat) : List Nat := if a.length = 0 ∨ b.length = 0 then [] else trimN (mulF p b a 0 (List.replicate (a.length + b.length - 1) 0))

section
variable {C : Cx} {k : Nat} {sc : Scope} {Γ : List (Str × D)} {V : Vs} {c : Int}
theorem f_msub {a b : List Nat} {p : Nat} (ha : a.length ≤ 500) (hb : b.length ≤ 500) (hp : 0 < p) : Fn C 5 "msub" [LN a, LN b, N1 p] c (LN (subN p a b)) c := by
  refine Fn.intro (k := 4) (i := 15) (by with_unfolding_all rfl) ["a", "b", "p"] (fun _ _ _ => all3 fun _ _ _ => rfl) rfl (nodup_of rfl) (names_of rfl) ?_
  have h1 := @f_mneg C c b p (by omega) hp
  have h2 := @f_madd C c a (b.map (negN p)) p ha (by simpa using hb) hp
  exact Exs.ret' (by walk_at "st")
theorem f_mscale {a : List Nat} {n p : Nat} (ha : a.length ≤ 1000) (hn : n < 16777216) (hp : 0 < p) : Fn C 4 "mscale" [LN a, N1 n, N1 p] c (LN (scaleN p n a)) c := by
  refine Fn.intro (k := 3) (i := 16) (by with_unfolding_all rfl) ["a", "number", "p"] (fun _ _ _ => all3 fun _ _ _ => rfl) rfl (nodup_of rfl) (names_of rfl) ?_
  have h1 := @f_mtrim C c (a.map fun x => x * n % p) (by simpa using ha)
  refine Exs.ret' (Ev.call (EvL.cons (EvF.ev (EvF.compN (fun x => x * n % p) (by walk_at "st") (by with_unfolding_all rfl) (fun m hm => ?_) (by omega) (by intro _ _; rfl))) EvL.nil) h1)
  refine Ev.cast (Ev.bin (c₁ := c) (Ev.bin (c₁ := c) (d₁ := N1 m) (d₂ := N1 n) (Ev.nm rfl) (Ev.nm rfl) (Bin.mul (.inr (by omega)))) (Ev.nm rfl) (Bin.mod (by omega))) ?_
  rw [← Int.natCast_mul, fmod_nat]

/-- [d] * n, a fresh list -/
theorem EvF.rep {l r : Expr} {pos : Pos} {d : D} {x : Int} {c₁ c₂ : Int} (hl : Ev C k sc Γ c l (.list [d]) c₁) (hr : Ev C k sc Γ c₁ r (.int x) c₂) (hx : x ≤ 1000) (hx' : -1000 ≤ x) : EvF C k sc Γ c (.BinOp l .Mult r pos) (List.replicate x.toNat d) c₂ := fun A env hid s Q E R O N S hQ => by
  refine wpAny_BinOp (hl A env hid s _ E R O N S fun v₁ h₁ t₁ x₁ b₁ r₁ => ?_)
  have N₁ := N.ext x₁ b₁
  refine hr A env hid _ _ E R O N₁ (S.ext N x₁) fun v₂ h₂ t₂ x₂ b₂ r₂ => ?_
  have N₂ := N₁.ext x₂ b₂
  refine Bin.rep_wp hx hx' (by simp) N₂ (r₁.ext x₂) r₂ fun vs r => ?_
  rw [flat_one] at r
  exact hQ _ vs 0 _ t₂ ((x₁.trans x₂).trans (.push _ _ _)) (b₂.push _) (N.fresh_back (x₁.trans x₂) b₂ (get_size _)) (Heap.get?_push_size _ rfl) (RepAll.new N₂ r _)

theorem repl_map (n x : Nat) : List.replicate n (N1 x) = (List.replicate n x).map N1 := by simp
theorem take_snoc (a : List Nat) (i : Nat) (h : i < a.length) : a.take (i + 1) = a.take i ++ [a.getD i 0] := take_succ_getD a i h

theorem int_eq0 (n : Nat) : (((n : Nat) : Int) == 0) = decide (n = 0) := by
  by_cases h : n = 0
  · subst h; rfl
  · rw [decide_eq_false h]; simpa using h
theorem int_ne0 (n : Nat) : (((n : Nat) : Int) != 0) = decide (n ≠ 0) := by
  by_cases h : n = 0
  · subst h; rfl
  · rw [decide_eq_true h]; simpa using h
theorem Tg.two {x y : Str} {p q pos : Pos} {n : Nat} : Tg (.Tuple [.Name x p, .Name y q] n pos) [(x, p), (y, q)] := .tup (x, p) [(y, q)] _ _ _ rfl
theorem Tg.three {x y z : Str} {p q r pos : Pos} {n : Nat} : Tg (.Tuple [.Name x p, .Name y q, .Name z r] n pos) [(x, p), (y, q), (z, r)] := .tup (x, p) [(y, q), (z, r)] _ _ _ rfl
theorem EvT.or2 {x y : Expr} {pos : Pos} {b₁ b₂ : Bool} (hx : EvT C k sc Γ c x b₁ c) (hy : b₁ = false → EvT C k sc Γ c y b₂ c) : EvT C k sc Γ c (.BoolOp .Or [x, y] pos) (b₁ || b₂) c := by
  cases b₁ with
  | true => exact EvT.or_true hx
  | false => exact EvT.or_false hx (EvT.or1 (hy rfl))
theorem EvT.and2 {x y : Expr} {pos : Pos} {b₁ b₂ : Bool} (hx : EvT C k sc Γ c x b₁ c) (hy : b₁ = true → EvT C k sc Γ c y b₂ c) : EvT C k sc Γ c (.BoolOp .And [x, y] pos) (b₁ && b₂) c := by
  cases b₁ with
  | false => exact EvT.and_false hx
  | true => exact EvT.and_true hx (EvT.and1 (hy rfl))
theorem f_mmul {a b : List Nat} {p : Nat} (ha : a.length ≤ 400) (hb : b.length ≤ 400) (hs : ∀ x ∈ a, x < 16777216) (hp : 0 < p) : Fn C 4 "mmul" [LN a, LN b, N1 p] c (LN (mulN p a b)) c := by
  refine Fn.intro (k := 3) (i := 17) (by with_unfolding_all rfl) ["a", "b", "p"] (fun _ _ _ => all3 fun _ _ _ => rfl) rfl (nodup_of rfl) (names_of rfl) ?_
  refine Exs.iteR (c₁ := c) (c₃ := c) (b := decide (a.length = 0) || decide (b.length = 0)) (EvT.or2 (EvT.cast (by walk_at "st") (int_eq0 _)) fun _ => EvT.cast (by walk_at "st") (int_eq0 _)) (fun hc => ?_) (fun hc => Exs.nil) fun hc => ?_
  · have e : mulN p a b = [] := by unfold mulN; rw [if_pos (by simpa using hc)]
    rw [e]
    exact Exs.ret' (EvF.ev (EvF.list EvL.nil))
  · have hne : ¬ (a.length = 0 ∨ b.length = 0) := by simpa using hc
    have e : mulN p a b = trimN (mulF p b a 0 (List.replicate (a.length + b.length - 1) 0)) := by unfold mulN; rw [if_neg hne]
    rw [e]
    have hF : ∀ i, i ≤ a.length → (mulF p b (a.take i) 0 (List.replicate (a.length + b.length - 1) 0)).length = a.length + b.length - 1 := fun i hi => by
      rw [mulF_len _ _ _ _ _ (by rw [List.length_take, List.length_replicate]; omega), List.length_replicate]
    refine Exs.setO (c₁ := c) (ds := (List.replicate (a.length + b.length - 1) 0).map N1) (EvF.cast (EvF.rep (c₁ := c) (d := N1 0) (x := (a.length : Int) + b.length - 1) (EvF.ev (EvF.list (EvL.cons Ev.int EvL.nil))) (Ev.cast (by walk_at "st") rfl) (by omega) (by omega)) ?_) rfl (by intro _ _; rfl) ?_
    · rw [← repl_map]; congr 1; omega
    refine Exs.for (c₁ := c) (c₂ := c) (V' := [("a", .v (LN a)), ("b", .v (LN b)), ("p", .v (N1 p)), ("found", .o ((mulF p b a 0 (List.replicate (a.length + b.length - 1) 0)).map N1))]) (items := enumD (a.map N1)) (EvIt.enum (by walk_at "st")) Tg.two rfl rfl (by intro _ _; rfl) ?_ ?_
    · refine Fo.seqE a.length (by rw [enumD_len, List.length_map]) (fun i => [("a", .v (LN a)), ("b", .v (LN b)), ("p", .v (N1 p)), ("found", .o ((mulF p b (a.take i) 0 (List.replicate (a.length + b.length - 1) 0)).map N1))]) rfl (by simp only [List.take_length]) (fun d m => ?_) fun i d hd => ?_
      · obtain ⟨i, hi⟩ := List.mem_iff_getElem?.mp m
        obtain ⟨_, _, rfl⟩ := enumD_get hi; rfl
      · obtain ⟨e, he, rfl⟩ := enumD_get hd
        obtain ⟨hi, rfl⟩ := mapN_get he
        have hone : a.getD i 0 < 16777216 := by
          rw [List.getD_eq_getElem?_getD, List.getElem?_eq_getElem hi]; exact hs _ (List.getElem_mem hi)
        rw [take_snoc a i hi, mulF_snoc, Nat.zero_add, List.length_take, Nat.min_eq_left (Nat.le_of_lt hi)]
        have hFi := hF i (Nat.le_of_lt hi)
        generalize mulF p b (a.take i) 0 (List.replicate (a.length + b.length - 1) 0) = F at hFi ⊢
        generalize ho : a.getD i 0 = o at hone ⊢
        refine Exs.keep ["a", "b", "p", "found"] (V₁ := [("a", .v (LN a)), ("b", .v (LN b)), ("p", .v (N1 p)), ("found", .o ((rowAt p o b i F).map N1)), ("at", .v (N1 i)), ("one", .v (N1 o))]) ?_
        refine Exs.at [("a", .v (LN a)), ("b", .v (LN b)), ("p", .v (N1 p)), ("found", .o (F.map N1)), ("at", .v (N1 i)), ("one", .v (N1 o))] ?_
        refine Exs.iteN (c₁ := c) (c₂ := c) (b := decide (o ≠ 0)) (EvT.cast (by walk_at "st") ?_) (fun h1 => ?_) (fun h0 => ?_) Exs.nil
        · exact int_ne0 o
        · have h1' : o ≠ 0 := by simpa using h1
          have e1 : rowAt p o b i F = F.take i ++ axpy p o b (F.drop i) := by unfold rowAt; rw [if_neg h1']
          rw [e1]
          have hti : (F.take i).length = i := by rw [List.length_take]; omega
          have hdl : b.length ≤ (F.drop i).length := by rw [List.length_drop]; omega
          refine Exs.for (c₁ := c) (c₂ := c) (V' := [("a", .v (LN a)), ("b", .v (LN b)), ("p", .v (N1 p)), ("found", .o ((F.take i ++ axpy p o b (F.drop i)).map N1)), ("at", .v (N1 i)), ("one", .v (N1 o))]) (items := enumD (b.map N1)) (EvIt.enum (by walk_at "st")) Tg.two rfl rfl (by intro _ _; rfl) ?_ Exs.nil
          refine Fo.seqE b.length (by rw [enumD_len, List.length_map]) (fun s => [("a", .v (LN a)), ("b", .v (LN b)), ("p", .v (N1 p)), ("found", .o ((F.take i ++ axpy p o (b.take s) (F.drop i)).map N1)), ("at", .v (N1 i)), ("one", .v (N1 o))])
            (by simp only [List.take_zero, axpy, List.take_append_drop]) (by simp only [List.take_length]) (fun d m => ?_) fun s d hd => ?_
          · obtain ⟨j, hj⟩ := List.mem_iff_getElem?.mp m
            obtain ⟨_, _, rfl⟩ := enumD_get hj; rfl
          · obtain ⟨e, he, rfl⟩ := enumD_get hd
            obtain ⟨hsb, rfl⟩ := mapN_get he
            obtain ⟨q1, q2⟩ := axpy_step p o b (F.drop i) s hsb hdl
            have hlen : (F.take i ++ axpy p o (b.take s) (F.drop i)).length = a.length + b.length - 1 := by
              rw [List.length_append, axpy_len _ _ _ _ (by rw [List.length_take]; omega), hti, List.length_drop]; omega
            have g1 : (F.take i ++ axpy p o (b.take s) (F.drop i)).getD (i + s) 0 = (F.drop i).getD s 0 := by
              have := getD_behind (F.take i) (axpy p o (b.take s) (F.drop i)) s
              rw [hti] at this; rw [this, q1]
            have g2 : (F.take i ++ axpy p o (b.take s) (F.drop i)).set (i + s) (((F.drop i).getD s 0 + o * b.getD s 0) % p) = F.take i ++ axpy p o (b.take (s + 1)) (F.drop i) := by
              have := set_behind (F.take i) (axpy p o (b.take s) (F.drop i)) s (((F.drop i).getD s 0 + o * b.getD s 0) % p)
              rw [hti] at this; rw [this, q2]
            generalize F.take i ++ axpy p o (b.take s) (F.drop i) = G at hlen g1 g2 ⊢
            generalize b.getD s 0 = y at g2 ⊢
            refine Exs.keep ["a", "b", "p", "found", "at", "one"] (V₁ := [("a", .v (LN a)), ("b", .v (LN b)), ("p", .v (N1 p)), ("found", .o ((F.take i ++ axpy p o (b.take (s + 1)) (F.drop i)).map N1)), ("at", .v (N1 i)), ("one", .v (N1 o)), ("spot", .v (N1 s)), ("other", .v (N1 y))]) ?_
            refine Exs.at [("a", .v (LN a)), ("b", .v (LN b)), ("p", .v (N1 p)), ("found", .o (G.map N1)), ("at", .v (N1 i)), ("one", .v (N1 o)), ("spot", .v (N1 s)), ("other", .v (N1 y))] ?_
            rw [← g2, ← map_set_N]
            have ei : ((i : Int) + (s : Int)).toNat = i + s := by omega
            refine Exs.cast (Exs.setItem (c₁ := c) (c₂ := c) (d := N1 (((F.drop i).getD s 0 + o * y) % p)) (j := (i : Int) + s) (ds := G.map N1) ?_ (by walk_at "st") rfl (by omega) (by rw [List.length_map]; omega) (by rw [List.length_map]; omega) trivial (by intro _ _; rfl) Exs.nil) (by rw [ei]; rfl)
            refine Ev.cast (Ev.bin (c₁ := c) (Ev.bin (c₁ := c) (d₁ := N1 (G.getD ((i : Int) + s).toNat 0)) (d₂ := .int ((o : Int) * (y : Int))) (Ev.itemN (c₁ := c) (Ev.nm rfl) (by walk_at "st") (by omega) (by omega) (by omega)) (Ev.bin (c₁ := c) (Ev.nm rfl) (Ev.nm rfl) (Bin.mul (.inl (by omega)))) Bin.add) (Ev.nm rfl) (Bin.mod (by omega))) ?_
            rw [ei, g1, ← Int.natCast_mul, ← Int.natCast_add, fmod_nat]
        · have h0' : o = 0 := by simpa using h0
          have e1 : rowAt p o b i F = F := by unfold rowAt; rw [if_pos h0']
          rw [e1]
          exact Exs.nil
    · have := @f_mtrim C c (mulF p b a 0 (List.replicate (a.length + b.length - 1) 0)) (by have := hF a.length (Nat.le_refl _); rw [List.take_length] at this; rw [this]; omega)
      exact Exs.ret' (by walk_at "st")
end
/-! ## Contracts: extended, inverse_mod -/
noncomputable def extG : Nat → Int → Int → Int → Int → Int → Int → Option (Int × Int × Int)
  | 0, _, _, _, _, _, _ => none
  | f + 1, r0, s0, t0, r1, s1, t1 =>
    if r1 = 0 then some (if 0 ≤ r0 then (r0, s0, t0) else (0 - r0, 0 - s0, 0 - t0))
    else if (r0.fdiv r1).natAbs < 16777216 ∧ r1.natAbs < 1073741824 then extG f r1 s1 t1 (r0 - r0.fdiv r1 * r1) (s0 - r0.fdiv r1 * s1) (t0 - r0.fdiv r1 * t1)
    else none

noncomputable def isPr (p : Nat) : Prop := p = 2 ∨ p = 3 ∨ p = 5 ∨ p = 7 ∨ p = 11
noncomputable def invT (p a : Nat) : Nat := a ^ (p - 2) % p
theorem ext_table : ∀ p ∈ [2, 3, 5, 7, 11], ∀ r < p, r ≠ 0 → ((extG 20 (r : Nat) 1 0 (p : Nat) 0 1).map fun x => (x.1, x.2.1.fmod (p : Nat))) = some (1, ((invT p r : Nat) : Int)) := by decide +kernel

section
variable {C : Cx} {k : Nat} {sc : Scope} {Γ : List (Str × D)} {V : Vs} {c : Int}
theorem Exs.whileEx {test : Expr} {body : List Stmt} {pos : Pos} {rest : List Stmt} {c₁ : Int} {o : Out} (h : ∃ V', Wh C k sc test body V c (.nx V' c₁) ∧ Exs C k sc V' c₁ rest o) : Exs C k sc V c (.While test body [] pos :: rest) o :=
  let ⟨_, w, r⟩ := h; Exs.while w r
noncomputable abbrev T3 (a b c : Int) : D := .tup [.int a, .int b, .int c]

theorem f_extended {a b g s t : Int} {fu : Nat} (h : extG fu a 1 0 b 0 1 = some (g, s, t)) : Fn C 2 "extended" [.int a, .int b] c (T3 g s t) c := by
  refine Fn.intro (k := 1) (i := 3) (by with_unfolding_all rfl) ["a", "b"] (fun _ _ _ => all2 fun _ _ => rfl) rfl (nodup_of rfl) (names_of rfl) ?_
  refine Exs.tup (c₁ := c) (ms := [.v (T3 a 1 0), .v (T3 b 0 1)]) (EvM.v (c₁ := c) (by walk_at "st") (EvM.v (c₁ := c) (by walk_at "st") EvM.nil)) Tg.two rfl rfl rfl (by simp) (by intro _ _; rfl) (by rintro ⟨⟩ rfl; first | exact .inr rfl | exact .inl rfl) ?_
  refine Exs.at [("a", .v (.int a)), ("b", .v (.int b)), ("one", .v (T3 a 1 0)), ("other", .v (T3 b 0 1))] ?_
  refine Exs.whileEx (c₁ := c) ?_
  refine (fun (H : ∀ r0 s0 t0 r1 s1 t1, extG fu r0 s0 t0 r1 s1 t1 = some (g, s, t) → ∃ V', Wh C 1 _ _ _ [("a", .v (.int a)), ("b", .v (.int b)), ("one", .v (T3 r0 s0 t0)), ("other", .v (T3 r1 s1 t1))] c (.nx V' c) ∧ Exs C 1 _ V' c _ (.rt (T3 g s t) c)) => H a 1 0 b 0 1 h) ?_
  clear h
  induction fu with
  | zero => intro r0 s0 t0 r1 s1 t1 h; cases h
  | succ fu ih =>
    intro r0 s0 t0 r1 s1 t1 h
    rw [extG] at h
    by_cases h1 : r1 = 0
    · rw [if_pos h1] at h
      refine ⟨_, Wh.stop (EvT.cast (by walk_at "st") (by simp [h1])), ?_⟩
      refine Exs.ret' (Ev.ite (b := decide (0 ≤ r0)) (c₁ := c) (EvT.cast (by walk_at "st") rfl) (fun h2 => ?_) (fun h2 => ?_))
      · have h2' : 0 ≤ r0 := by simpa using h2
        rw [if_pos h2'] at h
        cases h
        exact Ev.nm rfl
      · have h2' : ¬ 0 ≤ r0 := by simpa using h2
        rw [if_neg h2'] at h
        cases h
        walk_at "st"
    · rw [if_neg h1] at h
      by_cases h2 : (r0.fdiv r1).natAbs < 16777216 ∧ r1.natAbs < 1073741824
      · rw [if_pos h2] at h
        obtain ⟨V', w, r⟩ := ih _ _ _ _ _ _ h
        refine ⟨V', Wh.turn (c₁ := c) (EvT.cast (by walk_at "st") (by simpa using h1)) ?_ w, r⟩
        have q1 := h2.1
        have q2 := h2.2
        generalize hq : r0.fdiv r1 = q at q1 ⊢
        refine Exs.keep ["a", "b", "one", "other"] (V₁ := [("a", .v (.int a)), ("b", .v (.int b)), ("one", .v (T3 r1 s1 t1)), ("other", .v (T3 (r0 - q * r1) (s0 - q * s1) (t0 - q * t1))), ("times", .v (.int q)), ("rest", .v (T3 (r0 - q * r1) (s0 - q * s1) (t0 - q * t1)))]) ?_
        refine Exs.set (c₁ := c) (d := .int q) ?_ rfl (by intro _ _; rfl) ?_
        · exact Ev.cast (by walk_at "st") (by show D.int (r0.fdiv r1) = _; rw [hq])
        refine Exs.at [("a", .v (.int a)), ("b", .v (.int b)), ("one", .v (T3 r0 s0 t0)), ("other", .v (T3 r1 s1 t1)), ("times", .v (.int q))] ?_
        refine Exs.set (c₁ := c) (by walk_at "st") rfl (by intro _ _; rfl) ?_
        refine Exs.at [("a", .v (.int a)), ("b", .v (.int b)), ("one", .v (T3 r0 s0 t0)), ("other", .v (T3 r1 s1 t1)), ("times", .v (.int q)), ("rest", .v (T3 (r0 - q * r1) (s0 - q * s1) (t0 - q * t1)))] ?_
        exact Exs.tup (c₁ := c) (EvM.v (c₁ := c) (by walk_at "st") (EvM.v (c₁ := c) (by walk_at "st") EvM.nil)) Tg.two rfl rfl rfl (by simp) (by intro _ _; rfl) (by rintro ⟨⟩ rfl; first | exact .inr rfl | exact .inl rfl) Exs.nil
      · rw [if_neg h2] at h; cases h

theorem isPr.pos {p : Nat} (h : isPr p) : 2 ≤ p ∧ p ≤ 11 := by rcases h with h | h | h | h | h <;> omega
theorem isPr.mem {p : Nat} (h : isPr p) : p ∈ [2, 3, 5, 7, 11] := by rcases h with h | h | h | h | h <;> subst h <;> decide
theorem f_inverse {n p : Nat} (hp : isPr p) (hn : n % p ≠ 0) : Fn C 3 "inverse_mod" [N1 n, N1 p] c (N1 (invT p (n % p))) c := by
  have hlt : n % p < p := Nat.mod_lt n (by have := hp.pos; omega)
  have tb := ext_table p hp.mem (n % p) hlt hn
  cases hx : extG 20 ((n % p : Nat) : Int) 1 0 (p : Int) 0 1 with
  | none => rw [hx] at tb; cases tb
  | some x =>
    obtain ⟨g, s, t⟩ := x
    rw [hx] at tb
    simp only [Option.map_some, Option.some.injEq, Prod.mk.injEq] at tb
    obtain ⟨hg, hs⟩ := tb
    have h1 := @f_extended C c _ _ _ _ _ _ hx
    refine Fn.intro (k := 2) (i := 4) (by with_unfolding_all rfl) ["a", "m"] (fun _ _ _ => all2 fun _ _ => rfl) rfl (nodup_of rfl) (names_of rfl) ?_
    have hpp := hp.pos
    refine Exs.unp (c₁ := c) (ds := [.int g, .int s, .int t]) (Ev.call (EvL.cons (c₁ := c) (d := .int ((n % p : Nat) : Int)) (Ev.cast (by walk_at "st") (by rw [fmod_nat])) (EvL.cons (c₁ := c) (Ev.nm rfl) EvL.nil)) h1) Tg.three rfl rfl rfl (by intro _ _; rfl) (by intro _ _; rfl) ?_
    refine Exs.ret' (Ev.ite (b := true) (c₁ := c) (EvT.cast (by walk_at "st") (by rw [hg]; rfl)) (fun _ => ?_) fun q => nomatch q)
    exact Ev.cast (by walk_at "st") (by rw [hs])
end
/-! ## Contracts: mdivmod and what leans on it -/
noncomputable def subAt (p x : Nat) (b : List Nat) (n : Nat) (r : List Nat) : List Nat := if x = 0 then r else r.take n ++ axpy p (p - x) b (r.drop n)
noncomputable def divF (p t : Nat) (b : List Nat) : Nat → List Nat → List Nat → List Nat × List Nat
  | 0, r, q => (r, q)
  | n + 1, r, q => divF p t b n (subAt p (r.getD (n + b.length - 1) 0 * t % p) b n r) (r.getD (n + b.length - 1) 0 * t % p :: q)
noncomputable def divN (p : Nat) (a b : List Nat) : List Nat × List Nat :=
  (trimN (divF p (invT p (lastN b % p)) b (a.length + 1 - b.length) a []).2, trimN ((divF p (invT p (lastN b % p)) b (a.length + 1 - b.length) a []).1.take (b.length - 1)))
theorem subAt_len (p x : Nat) (b : List Nat) (i : Nat) (f : List Nat) (hl : i + b.length ≤ f.length) : (subAt p x b i f).length = f.length := by
  unfold subAt
  split
  · rfl
  · rw [List.length_append, axpy_len _ _ _ _ (by rw [List.length_drop]; omega), List.length_take, List.length_drop]; omega
theorem divF_len (p t : Nat) (b : List Nat) : ∀ (n : Nat) (r q : List Nat), n + b.length ≤ r.length + 1 → (divF p t b n r q).1.length = r.length ∧ (divF p t b n r q).2.length = n + q.length
  | 0, r, q, _ => ⟨rfl, by simp [divF]⟩
  | n + 1, r, q, h => by
    have := divF_len p t b n (subAt p (r.getD (n + b.length - 1) 0 * t % p) b n r) (r.getD (n + b.length - 1) 0 * t % p :: q) (by rw [subAt_len _ _ _ _ _ (by omega)]; omega)
    rw [subAt_len _ _ _ _ _ (by omega)] at this
    rw [divF]
    refine ⟨this.1, ?_⟩
    rw [this.2, List.length_cons]; omega
theorem fmod_sub (p r x o : Nat) (hp : 0 < p) (hx : x ≤ p) : ((r : Int) - (x : Int) * (o : Int)).fmod (p : Int) = (((r + (p - x) * o) % p : Nat) : Int) := by
  rw [Int.fmod_eq_emod_of_nonneg _ (by omega), Int.natCast_emod]
  have e : ((r + (p - x) * o : Nat) : Int) = ((r : Int) - (x : Int) * (o : Int)) + (p : Int) * (o : Int) := by
    rw [Int.natCast_add, Int.natCast_mul, Int.ofNat_sub hx, Int.sub_mul]; omega
  rw [e, Int.add_mul_emod_self_left]
theorem rngInts_down (m : Nat) : rngInts (m : Int) (-1) (m + 1) = .int (m : Int) :: rngInts ((m : Int) - 1) (-1) m := by
  unfold rngInts
  rw [List.range_succ_eq_map, List.map_cons, List.map_map]
  have e0 : D.int ((m : Int) + ((0 : Nat) : Int) * -1) = .int (m : Int) := congrArg D.int (by omega)
  rw [e0]
  congr 1
  apply List.map_congr_left
  intro i _
  show D.int _ = D.int _
  congr 1
  show (m : Int) + ((i + 1 : Nat) : Int) * -1 = _
  omega
theorem repl_set (m x : Nat) (q : List Nat) : (List.replicate (m + 1) 0 ++ q).set m x = List.replicate m 0 ++ x :: q := by
  rw [List.replicate_succ']
  rw [List.append_assoc, List.set_append_right _ _ (by simp)]
  simp
section
variable {C : Cx} {k : Nat} {sc : Scope} {Γ : List (Str × D)} {V : Vs} {c : Int}
/-- a walk down to 0 -/
theorem EvIt.downN {e t : Expr} {i : Int} {n : Nat} (h : Ev C k sc Γ c e (.rng i (-1) (-1)) c) (hi : (n : Int) = max 0 (i + 1)) (hz : n ≤ 1000000) (hlo : -1000000 ≤ i) : EvIt C k sc Γ c e t (rngInts i (-1) n) c := by
  have hs : Builtin.Range.rangeSize i (-1) (-1) = (n : Int) := by
    unfold Builtin.Range.rangeSize
    rw [if_neg (by decide)]
    have e : (- (-1 : Int)) = 1 := rfl
    rw [e, Int.ediv_one]
    split <;> omega
  exact EvIt.rng h (rng_small (n := n) (by omega) (by omega) (by omega) hs (by omega)) hs

theorem f_mdivmod {a b : List Nat} {p : Nat} (hp : isPr p) (ha : a.length ≤ 400) (hb : b.length ≤ 400) (hb1 : 1 ≤ b.length) (hl : lastN b % p ≠ 0) : Fn C 5 "mdivmod" [LN a, LN b, N1 p] c (.tup [LN (divN p a b).1, LN (divN p a b).2]) c := by
  have hpp := hp.pos
  refine Fn.intro (k := 4) (i := 18) (by with_unfolding_all rfl) ["a", "b", "p"] (fun _ _ _ => all3 fun _ _ _ => rfl) rfl (nodup_of rfl) (names_of rfl) ?_
  refine Exs.tup (c₁ := c) (ms := [.o (a.map N1), .o ((List.replicate (a.length + 1 - b.length) 0).map N1)]) (EvM.o (c₁ := c) (EvF.listN (EvL.cons (Ev.nm rfl) EvL.nil) (by rw [List.length_map]; omega) rfl (by omega)) (EvM.o (c₁ := c) ?_ EvM.nil)) Tg.two rfl rfl rfl (by simp) (by intro _ _; rfl) (by rintro ⟨⟩ rfl; first | exact .inr rfl | exact .inl rfl) ?_
  · refine EvF.cast (EvF.rep (c₁ := c) (d := N1 0) (x := max 0 ((a.length : Int) - b.length + 1)) (EvF.ev (EvF.list (EvL.cons Ev.int EvL.nil))) (by walk_at "st") (by omega) (by omega)) ?_
    rw [← repl_map]; congr 1; omega
  have h1 := @f_inverse C c (lastN b) p hp hl
  refine Exs.set (c₁ := c) (d := N1 (invT p (lastN b % p))) (Ev.call (EvL.cons (c₁ := c) (d := N1 (lastN b)) (Ev.lastN (c₁ := c) (Ev.nm rfl) (by walk_at "st") hb1 (by omega)) (EvL.cons (c₁ := c) (Ev.nm rfl) EvL.nil)) h1) rfl (by intro _ _; rfl) ?_
  generalize htt : invT p (lastN b % p) = t
  have ht : t < 12 := by rw [← htt]; unfold invT; exact Nat.lt_of_lt_of_le (Nat.mod_lt _ (by omega)) (by omega)
  have hres : (divF p t b (a.length + 1 - b.length) a []).1.length = a.length ∧ (divF p t b (a.length + 1 - b.length) a []).2.length = a.length + 1 - b.length := by
    by_cases hle : b.length ≤ a.length + 1
    · have := divF_len p t b (a.length + 1 - b.length) a [] (by omega)
      exact ⟨this.1, by simpa using this.2⟩
    · have e : a.length + 1 - b.length = 0 := by omega
      rw [e]; exact ⟨rfl, rfl⟩
  have hdef : divN p a b = (trimN (divF p t b (a.length + 1 - b.length) a []).2, trimN ((divF p t b (a.length + 1 - b.length) a []).1.take (b.length - 1))) := by unfold divN; rw [htt]
  rw [hdef]
  generalize hR : divF p t b (a.length + 1 - b.length) a [] = RQ at hres ⊢
  obtain ⟨R, Q⟩ := RQ
  refine Exs.for (c₁ := c) (c₂ := c) (V' := [("a", .v (LN a)), ("b", .v (LN b)), ("p", .v (N1 p)), ("rest", .o (R.map N1)), ("quotient", .o (Q.map N1)), ("turn", .v (N1 t))]) (items := rngInts ((a.length : Int) - b.length) (-1) (a.length + 1 - b.length))
    (EvIt.downN (Ev.cast (by walk_at "st") rfl) (by omega) (by omega) (by omega)) (.name _ _) rfl rfl (by intro _ _; rfl) ?_ ?_
  · have e : (List.replicate (a.length + 1 - b.length) 0).map N1 = (List.replicate (a.length + 1 - b.length) 0 ++ []).map N1 := by rw [List.append_nil]
    rw [e]
    refine (fun (H : ∀ (m : Nat) (i : Int) (r q : List Nat), (m = 0 ∨ (i = (m : Int) - 1 ∧ m + b.length ≤ a.length + 1)) → r.length = a.length → divF p t b m r q = (R, Q) →
      Fo C 4 _ _ _ _ (rngInts i (-1) m) [("a", .v (LN a)), ("b", .v (LN b)), ("p", .v (N1 p)), ("rest", .o (r.map N1)), ("quotient", .o ((List.replicate m 0 ++ q).map N1)), ("turn", .v (N1 t))] c (.nx [("a", .v (LN a)), ("b", .v (LN b)), ("p", .v (N1 p)), ("rest", .o (R.map N1)), ("quotient", .o (Q.map N1)), ("turn", .v (N1 t))] c)) => H (a.length + 1 - b.length) ((a.length : Int) - b.length) a [] (by omega) rfl hR) ?_
    intro m
    induction m with
    | zero =>
      intro i r q _ hr h
      cases h
      exact .nil
    | succ m ih =>
      intro i r q hi hr h
      have hi' : i = (m : Int) := by omega
      subst hi'
      rw [rngInts_down]
      rw [divF] at h
      generalize hx : r.getD (m + b.length - 1) 0 * t % p = x at h
      have hxp : x < p := by rw [← hx]; exact Nat.mod_lt _ (by omega)
      have hsl : (subAt p x b m r).length = a.length := by rw [subAt_len _ _ _ _ _ (by omega), hr]
      refine .turn rfl ?_ (ih ((m : Int) - 1) (subAt p x b m r) (x :: q) (by omega) hsl h)
      refine Exs.keep ["a", "b", "p", "rest", "quotient", "turn"] (V₁ := [("a", .v (LN a)), ("b", .v (LN b)), ("p", .v (N1 p)), ("rest", .o ((subAt p x b m r).map N1)), ("quotient", .o ((List.replicate m 0 ++ x :: q).map N1)), ("turn", .v (N1 t)), ("at", .v (N1 m)), ("number", .v (N1 x))]) ?_
      refine Exs.at [("a", .v (LN a)), ("b", .v (LN b)), ("p", .v (N1 p)), ("rest", .o (r.map N1)), ("quotient", .o ((List.replicate (m + 1) 0 ++ q).map N1)), ("turn", .v (N1 t)), ("at", .v (N1 m))] ?_
      refine Exs.setA (c₁ := c) (d := N1 x) ?_ trivial rfl (by intro _ _; rfl) ?_
      · have ei : ((m : Int) + (b.length : Int) - 1).toNat = m + b.length - 1 := by omega
        refine Ev.cast (Ev.bin (c₁ := c) (Ev.bin (c₁ := c) (d₁ := N1 (r.getD ((m : Int) + (b.length : Int) - 1).toNat 0)) (d₂ := N1 t) (Ev.itemN (c₁ := c) (Ev.nm rfl) (by walk_at "st") (by omega) (by omega) (by omega)) (Ev.nm rfl) (Bin.mul (.inr (by omega)))) (Ev.nm rfl) (Bin.mod (by omega))) ?_
        rw [ei, ← Int.natCast_mul, fmod_nat, hx]
      refine Exs.at [("a", .v (LN a)), ("b", .v (LN b)), ("p", .v (N1 p)), ("rest", .o (r.map N1)), ("quotient", .o ((List.replicate (m + 1) 0 ++ q).map N1)), ("turn", .v (N1 t)), ("at", .v (N1 m)), ("number", .v (N1 x))] ?_
      refine Exs.setItem (c₁ := c) (c₂ := c) (d := N1 x) (j := (m : Int)) (ds := (List.replicate (m + 1) 0 ++ q).map N1) (Ev.nm rfl) (Ev.nm rfl) rfl (by omega) (by simp; omega) ?_ trivial (by intro _ _; rfl) ?_
      · have hql : (divF p t b m (subAt p x b m r) (x :: q)).2.length = m + (x :: q).length := (divF_len p t b m _ _ (by rw [hsl]; omega)).2
        rw [h] at hql
        have := hres.2
        simp only [List.length_cons] at hql
        simp only [List.length_map, List.length_append, List.length_replicate]
        simp only at hql this
        omega
      have ej : (m : Int).toNat = m := by omega
      rw [ej, map_set_N, repl_set]
      refine Exs.at [("a", .v (LN a)), ("b", .v (LN b)), ("p", .v (N1 p)), ("rest", .o (r.map N1)), ("quotient", .o ((List.replicate m 0 ++ x :: q).map N1)), ("turn", .v (N1 t)), ("at", .v (N1 m)), ("number", .v (N1 x))] ?_
      refine Exs.iteN (c₁ := c) (c₂ := c) (b := decide (x ≠ 0)) (EvT.cast (by walk_at "st") (int_ne0 x)) (fun h1 => ?_) (fun h0 => ?_) Exs.nil
      · have h1' : x ≠ 0 := by simpa using h1
        have e1 : subAt p x b m r = r.take m ++ axpy p (p - x) b (r.drop m) := by unfold subAt; rw [if_neg h1']
        rw [e1]
        have hti : (r.take m).length = m := by rw [List.length_take]; omega
        have hdl : b.length ≤ (r.drop m).length := by rw [List.length_drop]; omega
        generalize (List.replicate m 0 ++ x :: q).map N1 = QQ
        refine Exs.for (c₁ := c) (c₂ := c) (V' := [("a", .v (LN a)), ("b", .v (LN b)), ("p", .v (N1 p)), ("rest", .o ((r.take m ++ axpy p (p - x) b (r.drop m)).map N1)), ("quotient", .o QQ), ("turn", .v (N1 t)), ("at", .v (N1 m)), ("number", .v (N1 x))]) (items := enumD (b.map N1)) (EvIt.enum (by walk_at "st")) Tg.two rfl rfl (by intro _ _; rfl) ?_ Exs.nil
        refine Fo.seqE b.length (by rw [enumD_len, List.length_map]) (fun s => [("a", .v (LN a)), ("b", .v (LN b)), ("p", .v (N1 p)), ("rest", .o ((r.take m ++ axpy p (p - x) (b.take s) (r.drop m)).map N1)), ("quotient", .o QQ), ("turn", .v (N1 t)), ("at", .v (N1 m)), ("number", .v (N1 x))])
          (by simp only [List.take_zero, axpy, List.take_append_drop]) (by simp only [List.take_length]) (fun d m => ?_) fun s d hd => ?_
        · obtain ⟨j, hj⟩ := List.mem_iff_getElem?.mp m
          obtain ⟨_, _, rfl⟩ := enumD_get hj; rfl
        · obtain ⟨e, he, rfl⟩ := enumD_get hd
          obtain ⟨hsb, rfl⟩ := mapN_get he
          obtain ⟨q1, q2⟩ := axpy_step p (p - x) b (r.drop m) s hsb hdl
          have hlen : (r.take m ++ axpy p (p - x) (b.take s) (r.drop m)).length = a.length := by
            rw [List.length_append, axpy_len _ _ _ _ (by rw [List.length_take]; omega), hti, List.length_drop]; omega
          have g1 : (r.take m ++ axpy p (p - x) (b.take s) (r.drop m)).getD (m + s) 0 = (r.drop m).getD s 0 := by
            have := getD_behind (r.take m) (axpy p (p - x) (b.take s) (r.drop m)) s
            rw [hti] at this; rw [this, q1]
          have g2 : (r.take m ++ axpy p (p - x) (b.take s) (r.drop m)).set (m + s) (((r.drop m).getD s 0 + (p - x) * b.getD s 0) % p) = r.take m ++ axpy p (p - x) (b.take (s + 1)) (r.drop m) := by
            have := set_behind (r.take m) (axpy p (p - x) (b.take s) (r.drop m)) s (((r.drop m).getD s 0 + (p - x) * b.getD s 0) % p)
            rw [hti] at this; rw [this, q2]
          generalize r.take m ++ axpy p (p - x) (b.take s) (r.drop m) = G at hlen g1 g2 ⊢
          generalize b.getD s 0 = y at g2 ⊢
          refine Exs.keep ["a", "b", "p", "rest", "quotient", "turn", "at", "number"] (V₁ := [("a", .v (LN a)), ("b", .v (LN b)), ("p", .v (N1 p)), ("rest", .o ((r.take m ++ axpy p (p - x) (b.take (s + 1)) (r.drop m)).map N1)), ("quotient", .o QQ), ("turn", .v (N1 t)), ("at", .v (N1 m)), ("number", .v (N1 x)), ("spot", .v (N1 s)), ("other", .v (N1 y))]) ?_
          refine Exs.at [("a", .v (LN a)), ("b", .v (LN b)), ("p", .v (N1 p)), ("rest", .o (G.map N1)), ("quotient", .o QQ), ("turn", .v (N1 t)), ("at", .v (N1 m)), ("number", .v (N1 x)), ("spot", .v (N1 s)), ("other", .v (N1 y))] ?_
          rw [← g2, ← map_set_N]
          have ei : ((m : Int) + (s : Int)).toNat = m + s := by omega
          refine Exs.cast (Exs.setItem (c₁ := c) (c₂ := c) (d := N1 (((r.drop m).getD s 0 + (p - x) * y) % p)) (j := (m : Int) + s) (ds := G.map N1) ?_ (by walk_at "st") rfl (by omega) (by rw [List.length_map]; omega) (by rw [List.length_map]; omega) trivial (by intro _ _; rfl) Exs.nil) (by rw [ei]; rfl)
          refine Ev.cast (Ev.bin (c₁ := c) (Ev.bin (c₁ := c) (d₁ := N1 (G.getD ((m : Int) + s).toNat 0)) (d₂ := .int ((x : Int) * (y : Int))) (Ev.itemN (c₁ := c) (Ev.nm rfl) (by walk_at "st") (by omega) (by omega) (by omega)) (Ev.bin (c₁ := c) (Ev.nm rfl) (Ev.nm rfl) (Bin.mul (.inl (by omega)))) Bin.sub) (Ev.nm rfl) (Bin.mod (by omega))) ?_
          rw [ei, g1, fmod_sub _ _ _ _ (by omega) (by omega)]
      · have h0' : x = 0 := by simpa using h0
        have e1 : subAt p x b m r = r := by unfold subAt; rw [if_pos h0']
        rw [e1]
        exact Exs.nil
  · have h2 := @f_mtrim C c Q (by have := hres.2; simp at this; omega)
    have h3 := @f_mtrim C c (R.take (b.length - 1)) (by have := hres.1; simp at this ⊢; omega)
    refine Exs.ret' (Ev.tup (EvL.cons (c₁ := c) (by walk_at "st") (EvL.cons (c₁ := c) (Ev.call (EvL.cons (c₁ := c) (EvF.ev (EvF.sliceToN (c₁ := c) (c₂ := c) (Ev.nm rfl) (Ev.cast (by walk_at "st") ?_) ?_)) EvL.nil) h3) EvL.nil)))
    · show D.int _ = D.int _; congr 1; omega
    · have := hres.1; simp at this; omega
end
/-! ## What the text computes, checked on the way; contracts of what leans on mdivmod -/
noncomputable def smR (l : List Nat) : Nat → Bool := @List.rec Nat (fun _ => Nat → Bool) (fun _ => true) (fun x _ ih n => @Bool.rec (fun _ => Bool) false (@Nat.rec (fun _ => Bool) false (fun m _ => ih m) n) (Nat.ble x 16777215)) l
theorem smR_iff : ∀ (l : List Nat) (n : Nat), smR l n = true ↔ l.length ≤ n ∧ ∀ x ∈ l, x < 16777216
  | [], n => ⟨fun _ => ⟨Nat.zero_le _, (fun x m => nomatch m)⟩, fun _ => rfl⟩
  | x :: l, n => by
    have e : smR (x :: l) n = @Bool.rec (fun _ => Bool) false (@Nat.rec (fun _ => Bool) false (fun m _ => smR l m) n) (Nat.ble x 16777215) := rfl
    rw [e]
    cases hx : Nat.ble x 16777215 with
    | false =>
      refine ⟨(fun q => nomatch (q : false = true)), fun q => ?_⟩
      have := q.2 x List.mem_cons_self
      have h2 : Nat.ble x 16777215 = true := Nat.ble_eq_true_of_le (by omega)
      rw [hx] at h2; cases h2
    | true =>
      have hx' : x ≤ 16777215 := Nat.le_of_ble_eq_true hx
      cases n with
      | zero => exact ⟨(fun q => nomatch (q : false = true)), fun q => absurd q.1 (by simp)⟩
      | succ n =>
        show smR l n = true ↔ _
        rw [smR_iff l n]
        simp only [List.length_cons, List.mem_cons, forall_eq_or_imp]
        constructor
        · rintro ⟨a, b⟩; exact ⟨by omega, by omega, b⟩
        · rintro ⟨a, _, b⟩; exact ⟨by omega, b⟩
noncomputable def smB (a : List Nat) : Bool := smR a 8
theorem smB_len {a : List Nat} (h : smB a = true) : a.length ≤ 8 := ((smR_iff a 8).mp h).1
theorem smB_all {a : List Nat} (h : smB a = true) : ∀ x ∈ a, x < 16777216 := ((smR_iff a 8).mp h).2
theorem smB_of {a : List Nat} (h : a.length ≤ 8) (q : ∀ x ∈ a, x < 16777216) : smB a = true := (smR_iff a 8).mpr ⟨h, q⟩

/-! the same rows, as the kernel likes them -/
noncomputable def appR (a b : List Nat) : List Nat := @List.rec Nat (fun _ => List Nat) b (fun x _ ih => x :: ih) a
noncomputable def dropR (n : Nat) : List Nat → List Nat := @Nat.rec (fun _ => List Nat → List Nat) (fun l => l) (fun _ ih l => @List.rec Nat (fun _ => List Nat) [] (fun _ t _ => ih t) l) n
noncomputable def takeR (n : Nat) : List Nat → List Nat := @Nat.rec (fun _ => List Nat → List Nat) (fun _ => []) (fun _ ih l => @List.rec Nat (fun _ => List Nat) [] (fun x t _ => x :: ih t) l) n
noncomputable def getR (l : List Nat) (n : Nat) : Nat := @List.rec Nat (fun _ => Nat) 0 (fun x _ _ => x) (dropR n l)
noncomputable def lenR (l : List Nat) : Nat := @List.rec Nat (fun _ => Nat) 0 (fun _ _ ih => Nat.add ih 1) l
noncomputable def axpyR (p c : Nat) (ys : List Nat) : List Nat → List Nat := @List.rec Nat (fun _ => List Nat → List Nat) (fun xs => xs) (fun y _ ih xs => @List.rec Nat (fun _ => List Nat) [] (fun x t _ => Nat.mod (Nat.add x (Nat.mul c y)) p :: ih t) xs) ys
noncomputable def trimR (l : List Nat) : List Nat := @List.rec Nat (fun _ => List Nat) [] (fun a _ ih => @List.rec Nat (fun _ => List Nat) (@Bool.rec (fun _ => List Nat) [a] [] (Nat.beq a 0)) (fun _ _ _ => a :: ih) ih) l
noncomputable def rowR (p h : Nat) (b : List Nat) (i : Nat) (f : List Nat) : List Nat := @Bool.rec (fun _ => List Nat) (appR (takeR i f) (axpyR p h b (dropR i f))) f (Nat.beq h 0)
noncomputable def subR (p x : Nat) (b : List Nat) (n : Nat) (r : List Nat) : List Nat := @Bool.rec (fun _ => List Nat) (appR (takeR n r) (axpyR p (Nat.sub p x) b (dropR n r))) r (Nat.beq x 0)
noncomputable def mulR (p : Nat) (b l : List Nat) : Nat → List Nat → List Nat := @List.rec Nat (fun _ => Nat → List Nat → List Nat) (fun _ f => f) (fun h _ ih i f => ih (Nat.add i 1) (rowR p h b i f)) l
noncomputable def divR (p t : Nat) (b : List Nat) (n : Nat) : List Nat → List Nat → List Nat × List Nat := @Nat.rec (fun _ => List Nat → List Nat → List Nat × List Nat) (fun r q => (r, q)) (fun n ih r q => ih (subR p (Nat.mod (Nat.mul (getR r (Nat.sub (Nat.add n (lenR b)) 1)) t) p) b n r) (Nat.mod (Nat.mul (getR r (Nat.sub (Nat.add n (lenR b)) 1)) t) p :: q)) n
noncomputable def mulNR (p : Nat) (a b : List Nat) : List Nat := if a.length = 0 ∨ b.length = 0 then [] else trimR (mulR p b a 0 (List.replicate (a.length + b.length - 1) 0))
noncomputable def divNR (p : Nat) (a b : List Nat) : List Nat × List Nat :=
  (trimR (divR p (invT p (lastN b % p)) b (a.length + 1 - b.length) a []).2, trimR ((divR p (invT p (lastN b % p)) b (a.length + 1 - b.length) a []).1.take (b.length - 1)))
theorem appR_eq (b : List Nat) : ∀ a : List Nat, appR a b = a ++ b
  | [] => rfl
  | x :: a => congrArg (x :: ·) (appR_eq b a)
theorem dropR_eq : ∀ (n : Nat) (l : List Nat), dropR n l = l.drop n
  | 0, l => rfl
  | n + 1, [] => rfl
  | n + 1, _ :: t => dropR_eq n t
theorem takeR_eq : ∀ (n : Nat) (l : List Nat), takeR n l = l.take n
  | 0, l => rfl
  | n + 1, [] => rfl
  | n + 1, x :: t => congrArg (x :: ·) (takeR_eq n t)
theorem getR_eq (l : List Nat) (n : Nat) : getR l n = l.getD n 0 := by
  unfold getR
  rw [dropR_eq, List.getD_eq_getElem?_getD, ← List.head?_drop]
  cases l.drop n <;> rfl
theorem lenR_eq : ∀ l : List Nat, lenR l = l.length
  | [] => rfl
  | _ :: t => congrArg (· + 1) (lenR_eq t)
theorem axpyR_eq (p c : Nat) : ∀ (ys xs : List Nat), axpyR p c ys xs = axpy p c ys xs
  | [], xs => rfl
  | _ :: _, [] => rfl
  | y :: ys, x :: xs => congrArg (((x + c * y) % p) :: ·) (axpyR_eq p c ys xs)
theorem trimR_eq : ∀ l : List Nat, trimR l = trimN l
  | [] => rfl
  | a :: l => by
    have e : trimR (a :: l) = @List.rec Nat (fun _ => List Nat) (@Bool.rec (fun _ => List Nat) [a] [] (Nat.beq a 0)) (fun _ _ _ => a :: trimR l) (trimR l) := rfl
    rw [e, trimR_eq l, trimN]
    cases trimN l with
    | nil => cases a <;> rfl
    | cons b s => rfl
theorem rowR_eq (p h : Nat) (b : List Nat) (i : Nat) (f : List Nat) : rowR p h b i f = rowAt p h b i f := by
  unfold rowAt
  cases h with
  | zero => rfl
  | succ h =>
    show appR (takeR i f) (axpyR p (h + 1) b (dropR i f)) = _
    rw [if_neg (by omega), appR_eq, takeR_eq, axpyR_eq, dropR_eq]
theorem subR_eq (p x : Nat) (b : List Nat) (n : Nat) (r : List Nat) : subR p x b n r = subAt p x b n r := by
  unfold subAt
  cases x with
  | zero => rfl
  | succ x =>
    show appR (takeR n r) (axpyR p (p - (x + 1)) b (dropR n r)) = _
    rw [if_neg (by omega), appR_eq, takeR_eq, axpyR_eq, dropR_eq]
theorem mulR_eq (p : Nat) (b : List Nat) : ∀ (l : List Nat) (i : Nat) (f : List Nat), mulR p b l i f = mulF p b l i f
  | [], _, _ => rfl
  | h :: l, i, f => by
    show mulR p b l (i + 1) (rowR p h b i f) = mulF p b l (i + 1) (rowAt p h b i f)
    rw [mulR_eq p b l, rowR_eq]
theorem divR_eq (p t : Nat) (b : List Nat) : ∀ (n : Nat) (r q : List Nat), divR p t b n r q = divF p t b n r q
  | 0, _, _ => rfl
  | n + 1, r, q => by
    show divR p t b n (subR p (getR r (n + lenR b - 1) * t % p) b n r) (getR r (n + lenR b - 1) * t % p :: q) = divF p t b n (subAt p (r.getD (n + b.length - 1) 0 * t % p) b n r) (r.getD (n + b.length - 1) 0 * t % p :: q)
    rw [divR_eq p t b n, subR_eq, getR_eq, lenR_eq]
theorem mulNR_eq (p : Nat) (a b : List Nat) : mulNR p a b = mulN p a b := by
  unfold mulNR mulN
  rw [mulR_eq, trimR_eq]
theorem divNR_eq (p : Nat) (a b : List Nat) : divNR p a b = divN p a b := by
  unfold divNR divN
  rw [divR_eq, trimR_eq, trimR_eq]
noncomputable def mmulO (p : Nat) (a b : List Nat) : Option (List Nat) := if (smB a && smB b) = true then some (mulNR p a b) else none
noncomputable def mdivO (p : Nat) (a b : List Nat) : Option (List Nat × List Nat) := if (smB a && smB b && Nat.blt 0 (lastN b % p)) = true then some (divNR p a b) else none
noncomputable def mrestO (p : Nat) (a b : List Nat) : Option (List Nat) := (mdivO p a b).map (·.2)
noncomputable def mquoO (p : Nat) (a b : List Nat) : Option (List Nat) := (mdivO p a b).map (·.1)
noncomputable def monicO (p : Nat) (a : List Nat) : Option (List Nat) :=
  if a.length = 0 then some [] else if (smB a && Nat.blt 0 (lastN a % p)) = true then some (scaleN p (invT p (lastN a % p)) a) else none
theorem mdivO_ok {p : Nat} {a b : List Nat} {r : List Nat × List Nat} (h : mdivO p a b = some r) : smB a = true ∧ smB b = true ∧ lastN b % p ≠ 0 ∧ 1 ≤ b.length ∧ r = divN p a b := by
  unfold mdivO at h
  split at h
  · rename_i hc
    rw [Bool.and_eq_true, Bool.and_eq_true] at hc
    have h3 : 0 < lastN b % p := by have := hc.2; simpa [Nat.blt_eq] using this
    refine ⟨hc.1.1, hc.1.2, by omega, ?_, by cases h; exact divNR_eq p a b⟩
    rcases Nat.eq_zero_or_pos b.length with q | q
    · exfalso
      have e : b = [] := List.length_eq_zero_iff.mp q
      rw [e] at h3
      simp [lastN] at h3
    · exact q
  · cases h
theorem mrestO_ok {p : Nat} {a b r : List Nat} (h : mrestO p a b = some r) : smB a = true ∧ smB b = true ∧ lastN b % p ≠ 0 ∧ 1 ≤ b.length ∧ r = (divN p a b).2 := by
  unfold mrestO at h
  obtain ⟨x, hx, e⟩ := Option.map_eq_some_iff.mp h
  obtain ⟨h1, h2, h3, h4, h5⟩ := mdivO_ok hx
  exact ⟨h1, h2, h3, h4, by rw [← e, h5]⟩
theorem mquoO_ok {p : Nat} {a b r : List Nat} (h : mquoO p a b = some r) : smB a = true ∧ smB b = true ∧ lastN b % p ≠ 0 ∧ 1 ≤ b.length ∧ r = (divN p a b).1 := by
  unfold mquoO at h
  obtain ⟨x, hx, e⟩ := Option.map_eq_some_iff.mp h
  obtain ⟨h1, h2, h3, h4, h5⟩ := mdivO_ok hx
  exact ⟨h1, h2, h3, h4, by rw [← e, h5]⟩
theorem mmulO_ok {p : Nat} {a b r : List Nat} (h : mmulO p a b = some r) : smB a = true ∧ smB b = true ∧ r = mulN p a b := by
  unfold mmulO at h
  split at h
  · rename_i hc
    rw [Bool.and_eq_true] at hc
    exact ⟨hc.1, hc.2, by cases h; exact mulNR_eq p a b⟩
  · cases h

noncomputable def derN (p : Nat) (a : List Nat) : List Nat := trimN ((a.zipIdx.map fun x => x.2 * x.1 % p).drop 1)
noncomputable def rootN (p : Nat) (a : List Nat) : List Nat := (List.range ((a.length + p - 1) / p)).map fun i => a.getD (i * p) 0

section
variable {C : Cx} {k : Nat} {sc : Scope} {Γ : List (Str × D)} {V : Vs} {c : Int}
theorem f_mrest {a b r : List Nat} {p : Nat} (hp : isPr p) (h : mrestO p a b = some r) : Fn C 6 "mrest" [LN a, LN b, N1 p] c (LN r) c := by
  obtain ⟨h1, h2, h3, h4, h5⟩ := mrestO_ok h
  have f := @f_mdivmod C c a b p hp (by have := smB_len h1; omega) (by have := smB_len h2; omega) h4 h3
  refine Fn.intro (k := 5) (i := 19) (by with_unfolding_all rfl) ["a", "b", "p"] (fun _ _ _ => all3 fun _ _ _ => rfl) rfl (nodup_of rfl) (names_of rfl) ?_
  rw [h5]
  exact Exs.ret' (Ev.itemT (c₁ := c) (by walk_at "st") Ev.int (by omega) rfl (by simp))
theorem f_mquotient {a b r : List Nat} {p : Nat} (hp : isPr p) (h : mquoO p a b = some r) : Fn C 6 "mquotient" [LN a, LN b, N1 p] c (LN r) c := by
  obtain ⟨h1, h2, h3, h4, h5⟩ := mquoO_ok h
  have f := @f_mdivmod C c a b p hp (by have := smB_len h1; omega) (by have := smB_len h2; omega) h4 h3
  refine Fn.intro (k := 5) (i := 20) (by with_unfolding_all rfl) ["a", "b", "p"] (fun _ _ _ => all3 fun _ _ _ => rfl) rfl (nodup_of rfl) (names_of rfl) ?_
  rw [h5]
  exact Exs.ret' (Ev.itemT (c₁ := c) (by walk_at "st") Ev.int (by omega) rfl (by simp))
theorem f_mmulO {a b r : List Nat} {p : Nat} (hp : isPr p) (h : mmulO p a b = some r) : Fn C 4 "mmul" [LN a, LN b, N1 p] c (LN r) c := by
  obtain ⟨h1, h2, h3⟩ := mmulO_ok h
  rw [h3]
  exact f_mmul (by have := smB_len h1; omega) (by have := smB_len h2; omega) (smB_all h1) (by have := hp.pos; omega)
theorem f_mmonic {a r : List Nat} {p : Nat} (hp : isPr p) (h : monicO p a = some r) : Fn C 5 "mmonic" [LN a, N1 p] c (LN r) c := by
  have hpp := hp.pos
  refine Fn.intro (k := 4) (i := 21) (by with_unfolding_all rfl) ["a", "p"] (fun _ _ _ => all2 fun _ _ => rfl) rfl (nodup_of rfl) (names_of rfl) ?_
  unfold monicO at h
  by_cases h0 : a.length = 0
  · rw [if_pos h0] at h
    cases h
    refine Exs.ret' (Ev.ite (b := false) (c₁ := c) (EvT.cast (by walk_at "st") (by simp [h0])) (fun q => nomatch q) fun _ => EvF.ev (EvF.list EvL.nil))
  · rw [if_neg h0] at h
    split at h
    · rename_i hc
      rw [Bool.and_eq_true] at hc
      have h3 : lastN a % p ≠ 0 := by have := hc.2; simp [Nat.blt_eq] at this; omega
      have hl := smB_len hc.1
      cases h
      have f1 := @f_inverse C c (lastN a) p hp h3
      have hi : invT p (lastN a % p) < 12 := by unfold invT; exact Nat.lt_of_lt_of_le (Nat.mod_lt _ (by omega)) (by omega)
      have f2 := @f_mscale C c a (invT p (lastN a % p)) p (by omega) (by omega) (by omega)
      refine Exs.ret' (Ev.ite (b := true) (c₁ := c) (EvT.cast (by walk_at "st") (by simp; omega)) (fun _ => ?_) fun q => nomatch q)
      refine Ev.call (EvL.cons (c₁ := c) (Ev.nm rfl) (EvL.cons (c₁ := c) (Ev.call (EvL.cons (c₁ := c) (Ev.lastN (c₁ := c) (Ev.nm rfl) (by walk_at "st") (by omega) (by omega)) (EvL.cons (c₁ := c) (Ev.nm rfl) EvL.nil)) f1) (EvL.cons (c₁ := c) (Ev.nm rfl) EvL.nil))) f2
    · cases h
end
noncomputable def powG (p : Nat) (f : List Nat) : Nat → Nat → List Nat → List Nat → Option (List Nat)
  | 0, _, _, _ => none
  | fu + 1, n, x, s => if n = 0 then some x else
    (if n % 2 = 1 then (mmulO p x s).bind fun y => mrestO p y f else some x).bind fun x' =>
    (if 0 < n / 2 then (mmulO p s s).bind fun y => mrestO p y f else some s).bind fun s' => powG p f fu (n / 2) x' s'
noncomputable def powO (p : Nat) (a : List Nat) (n : Nat) (f : List Nat) : Option (List Nat) := (mrestO p [1] f).bind fun x => (mrestO p a f).bind fun s => powG p f 40 n x s
noncomputable def gcdG (p : Nat) : Nat → List Nat → List Nat → Option (List Nat)
  | 0, _, _ => none
  | fu + 1, a, b => if b.length = 0 then monicO p a else (mrestO p a b).bind fun r => gcdG p fu b r
noncomputable def gcdO (p : Nat) (a b : List Nat) : Option (List Nat) := gcdG p 12 a b

section
variable {C : Cx} {k : Nat} {sc : Scope} {Γ : List (Str × D)} {V : Vs} {c : Int}

theorem int_pos (n : Nat) : decide ((0 : Int) < (n : Int)) = decide (0 < n) := by simp
theorem f_mgcd {a b r : List Nat} {p : Nat} (hp : isPr p) (h : gcdO p a b = some r) : Fn C 7 "mgcd" [LN a, LN b, N1 p] c (LN r) c := by
  refine Fn.intro (k := 6) (i := 27) (by with_unfolding_all rfl) ["a", "b", "p"] (fun _ _ _ => all3 fun _ _ _ => rfl) rfl (nodup_of rfl) (names_of rfl) ?_
  unfold gcdO at h
  refine Exs.whileEx (c₁ := c) ?_
  refine (fun (H : ∀ (fu : Nat) (a b : List Nat), gcdG p fu a b = some r → ∃ V', Wh C 6 _ _ _ [("a", .v (LN a)), ("b", .v (LN b)), ("p", .v (N1 p))] c (.nx V' c) ∧ Exs C 6 _ V' c _ (.rt (LN r) c)) => H 12 a b h) ?_
  clear h a b
  intro fu
  induction fu with
  | zero => intro a b h; cases h
  | succ fu ih =>
    intro a b h
    rw [gcdG] at h
    by_cases h0 : b.length = 0
    · rw [if_pos h0] at h
      have f1 := @f_mmonic C c a r p hp h
      exact ⟨_, Wh.stop (EvT.cast (by walk_at "st") (by simp [h0])), Exs.ret' (by walk_at "st")⟩
    · rw [if_neg h0] at h
      obtain ⟨x, hx, h⟩ := Option.bind_eq_some_iff.mp h
      have f1 := @f_mrest C c a b x p hp hx
      have hl := smB_len (mrestO_ok hx).2.1
      obtain ⟨V', w, q⟩ := ih _ _ h
      refine ⟨V', Wh.turn (c₁ := c) (EvT.cast (by walk_at "st") (by simp; omega)) ?_ w, q⟩
      exact Exs.tup (c₁ := c) (EvM.v (c₁ := c) (Ev.nm rfl) (EvM.v (c₁ := c) (by walk_at "st") EvM.nil)) Tg.two rfl rfl rfl (by simp) (by intro _ _; rfl) (by rintro ⟨⟩ rfl; first | exact .inr rfl | exact .inl rfl) Exs.nil

theorem f_mpower {a f r : List Nat} {n p : Nat} (hp : isPr p) (hn : n ≤ 1000000) (h : powO p a n f = some r) : Fn C 7 "mpower_mod" [LN a, N1 n, LN f, N1 p] c (LN r) c := by
  refine Fn.intro (k := 6) (i := 23) (by with_unfolding_all rfl) ["a", "n", "f", "p"] (fun _ _ _ => all4 fun _ _ _ _ => rfl) rfl (nodup_of rfl) (names_of rfl) ?_
  unfold powO at h
  obtain ⟨x, hx, h⟩ := Option.bind_eq_some_iff.mp h
  obtain ⟨s, hs, h⟩ := Option.bind_eq_some_iff.mp h
  have f1 := @f_mrest C c [1] f x p hp hx
  have f2 := @f_mrest C c a f s p hp hs
  refine Exs.tup (c₁ := c) (ms := [.v (LN x), .v (LN s)]) (EvM.v (c₁ := c) (Ev.call (EvL.cons (c₁ := c) (EvF.ev (EvF.list (EvL.cons Ev.int EvL.nil))) (EvL.cons (c₁ := c) (Ev.nm rfl) (EvL.cons (c₁ := c) (Ev.nm rfl) EvL.nil))) f1) (EvM.v (c₁ := c) (by walk_at "st") EvM.nil)) Tg.two rfl rfl rfl (by simp) (by intro _ _; rfl) (by rintro ⟨⟩ rfl; first | exact .inr rfl | exact .inl rfl) ?_
  refine Exs.whileEx (c₁ := c) ?_
  refine (fun (H : ∀ (fu n : Nat) (x s : List Nat), n ≤ 1000000 → powG p f fu n x s = some r → ∃ V', Wh C 6 _ _ _ [("a", .v (LN a)), ("n", .v (N1 n)), ("f", .v (LN f)), ("p", .v (N1 p)), ("found", .v (LN x)), ("square", .v (LN s))] c (.nx V' c) ∧ Exs C 6 _ V' c _ (.rt (LN r) c)) => H 40 n x s hn h) ?_
  clear h hx hs f1 f2 hn
  intro fu
  induction fu with
  | zero => intro n x s _ h; cases h
  | succ fu ih =>
    intro n x s hn h
    rw [powG] at h
    by_cases h0 : n = 0
    · rw [if_pos h0] at h
      cases h
      exact ⟨_, Wh.stop (EvT.cast (by walk_at "st") (by simp [h0])), Exs.ret' (by walk_at "st")⟩
    · rw [if_neg h0] at h
      obtain ⟨x', hx, h⟩ := Option.bind_eq_some_iff.mp h
      obtain ⟨s', hs, h⟩ := Option.bind_eq_some_iff.mp h
      obtain ⟨V', w, q⟩ := ih _ _ _ (by omega) h
      refine ⟨V', Wh.turn (c₁ := c) (EvT.cast (by walk_at "st") (by simp; omega)) ?_ w, q⟩
      refine Exs.iteN (c₁ := c) (c₂ := c) (V' := [("a", .v (LN a)), ("n", .v (N1 n)), ("f", .v (LN f)), ("p", .v (N1 p)), ("found", .v (LN x')), ("square", .v (LN s))]) (b := decide (n % 2 = 1)) (EvT.cast (by walk_at "st") ?_) (fun h1 => ?_) (fun h1 => ?_) ?_
      · have e : (n : Int).fmod 2 = ((n % 2 : Nat) : Int) := fmod_nat n 2
        rw [e]
        by_cases q : n % 2 = 1
        · rw [q]; rfl
        · have : n % 2 = 0 := by omega
          rw [this]; rfl
      · have h1' : n % 2 = 1 := by simpa using h1
        rw [if_pos h1'] at hx
        obtain ⟨y, hy, hx⟩ := Option.bind_eq_some_iff.mp hx
        have g1 := @f_mmulO C c _ _ _ p hp hy
        have g2 := @f_mrest C c _ _ _ p hp hx
        exact Exs.set (c₁ := c) (by walk_at "st") rfl (by intro _ _; rfl) Exs.nil
      · have h1' : ¬ n % 2 = 1 := by simpa using h1
        rw [if_neg h1'] at hx
        cases hx
        exact Exs.nil
      · have e2 : (n : Int).fdiv 2 = ((n / 2 : Nat) : Int) := by rw [Int.fdiv_eq_ediv_of_nonneg _ (by omega)]; rfl
        refine Exs.set (c₁ := c) (d := N1 (n / 2)) (Ev.cast (by walk_at "st") (by rw [e2])) rfl (by intro _ _; rfl) ?_
        refine Exs.at [("a", .v (LN a)), ("n", .v (N1 (n / 2))), ("f", .v (LN f)), ("p", .v (N1 p)), ("found", .v (LN x')), ("square", .v (LN s))] ?_
        refine Exs.iteN (c₁ := c) (c₂ := c) (b := decide (0 < n / 2)) (EvT.cast (by walk_at "st") (int_pos _)) (fun h1 => ?_) (fun h1 => ?_) Exs.nil
        · have h1' : 0 < n / 2 := by simpa using h1
          rw [if_pos h1'] at hs
          obtain ⟨y, hy, hs⟩ := Option.bind_eq_some_iff.mp hs
          have g1 := @f_mmulO C c _ _ _ p hp hy
          have g2 := @f_mrest C c _ _ _ p hp hs
          exact Exs.set (c₁ := c) (by walk_at "st") rfl (by intro _ _; rfl) Exs.nil
        · have h1' : ¬ 0 < n / 2 := by simpa using h1
          rw [if_neg h1'] at hs
          cases hs
          exact Exs.nil

/-! mderive, mroot -/
noncomputable def derD (p : Nat) : D → D
  | .tup [.int i, .int x] => .int ((i * x).fmod p)
  | d => d
theorem enum_der (p : Nat) (a : List Nat) : (enumD (a.map N1)).map (derD p) = (a.zipIdx.map fun x => x.2 * x.1 % p).map N1 := by
  unfold enumD
  rw [List.zipIdx_map, List.map_map, List.map_map, List.map_map]
  apply List.map_congr_left
  rintro ⟨x, i⟩ _
  show D.int _ = D.int _
  rw [← Int.natCast_mul, fmod_nat]
  rfl
theorem f_mderive {a : List Nat} {p : Nat} (hp : 0 < p) (ha : smB a = true) : Fn C 4 "mderive" [LN a, N1 p] c (LN (derN p a)) c := by
  have hl := smB_len ha
  refine Fn.intro (k := 3) (i := 22) (by with_unfolding_all rfl) ["a", "p"] (fun _ _ _ => all2 fun _ _ => rfl) rfl (nodup_of rfl) (names_of rfl) ?_
  have f1 := @f_mtrim C c ((a.zipIdx.map fun x => x.2 * x.1 % p).drop 1) (by simp; omega)
  refine Exs.ret' (Ev.call (c₁ := c) (ds := [LN ((a.zipIdx.map fun x => x.2 * x.1 % p).drop 1)]) (EvL.cons (c₁ := c) ?_ EvL.nil) f1)
  refine EvF.ev (EvF.cast (EvF.slice (c₁ := c) (c₂ := c) (c₃ := c) (ds := (enumD (a.map N1)).map (derD p)) (l := some ((1 : Nat) : Int)) (EvF.ev ?_) (EvO.some Ev.int) EvO.none ?_) ?_)
  · refine EvF.compMap (derD p) (EvIt.enum (Ev.nm rfl)) Tg.two (by with_unfolding_all rfl) (fun d m => ?_) (fun d m => ?_) (by rw [enumD_len, List.length_map]; omega) (by intro _ _; rfl)
    · obtain ⟨i, hi⟩ := List.mem_iff_getElem?.mp m
      obtain ⟨_, _, rfl⟩ := enumD_get hi; rfl
    · obtain ⟨i, hi⟩ := List.mem_iff_getElem?.mp m
      obtain ⟨e, he, rfl⟩ := enumD_get hi
      obtain ⟨hlt, rfl⟩ := mapN_get he
      exact Ev.cast (Ev.bin (c₁ := c) (d₁ := .int ((i : Int) * ((a.getD i 0 : Nat) : Int))) (d₂ := N1 p) (Ev.bin (c₁ := c) (d₁ := N1 i) (d₂ := N1 (a.getD i 0)) (Ev.nm rfl) (Ev.nm rfl) (Bin.mul (.inl (by omega)))) (Ev.nm rfl) (Bin.mod (by omega))) rfl
  · rw [enum_der]; simp; omega
  · rw [sliceD_from, enum_der, List.map_drop]

noncomputable def rootD (a : List Nat) : D → D
  | .int j => N1 (a.getD j.toNat 0)
  | d => d
theorem f_mroot {a : List Nat} {p : Nat} (hp : isPr p) (ha : smB a = true) : Fn C 3 "mroot" [LN a, N1 p] c (LN (rootN p a)) c := by
  have hl := smB_len ha
  have hpp := hp.pos
  refine Fn.intro (k := 2) (i := 25) (by with_unfolding_all rfl) ["a", "p"] (fun _ _ _ => all2 fun _ _ => rfl) rfl (nodup_of rfl) (names_of rfl) ?_
  have hn : Builtin.Range.rangeSize 0 (a.length : Int) (p : Int) = (((a.length + p - 1) / p : Nat) : Int) := by
    unfold Builtin.Range.rangeSize
    rw [if_pos (by omega)]
    split
    · have e : (a.length + p - 1) = (a.length - 1) + p := by omega
      rw [e, Nat.add_div_right _ (by omega)]
      have e2 : ((a.length : Int) - 0 - 1) = ((a.length - 1 : Nat) : Int) := by omega
      rw [e2]
      rfl
    · have e : a.length = 0 := by omega
      rw [e, Nat.div_eq_of_lt (by omega)]; rfl
  have hnb : (a.length + p - 1) / p ≤ 20 := Nat.le_trans (Nat.div_le_self _ _) (by omega)
  refine Exs.ret' (EvF.ev (EvF.cast (EvF.compMap (items := rngInts 0 (p : Int) ((a.length + p - 1) / p)) (rootD a) (EvIt.rng (by walk_at "st") (rng_small (n := (a.length + p - 1) / p) (by omega) (by omega) (by omega) hn (by omega)) hn) (.name _ _) (by with_unfolding_all rfl) (fun d m => ?_) (fun d m => ?_) (by rw [rngInts_len]; omega) (by intro _ _; rfl)) ?_))
  · obtain ⟨i, hi⟩ := List.mem_iff_getElem?.mp m
    obtain ⟨_, rfl⟩ := rngInts_get hi; rfl
  · obtain ⟨i, hi⟩ := List.mem_iff_getElem?.mp m
    obtain ⟨hlt, rfl⟩ := rngInts_get hi
    have h1 : (i + 1) * p ≤ (a.length + p - 1) / p * p := Nat.mul_le_mul_right p hlt
    have h2 := Nat.div_mul_le_self (a.length + p - 1) p
    have h3 : (i + 1) * p = i * p + p := by rw [Nat.add_mul]; omega
    have h4 : i * p < a.length := by omega
    have e : (0 : Int) + (i : Int) * (p : Int) = ((i * p : Nat) : Int) := by push_cast; omega
    rw [e]
    exact Ev.itemN (c₁ := c) (Ev.nm rfl) (Ev.nm rfl) (by omega) (by omega) (by omega)
  · unfold rngInts rootN
    rw [List.map_map, List.map_map]
    apply List.map_congr_left
    intro i _
    show rootD a (.int ((0 : Int) + (i : Int) * (p : Int))) = N1 (a.getD (i * p) 0)
    have e : (0 : Int) + (i : Int) * (p : Int) = ((i * p : Nat) : Int) := by push_cast; omega
    rw [e]; rfl
end
noncomputable abbrev P2 (x : List Nat × Nat) : D := .tup [LN x.1, N1 x.2]
noncomputable def partsG (p many : Nat) : Nat → List (List Nat × Nat) → List Nat → List Nat → Nat → Option (List (List Nat × Nat) × List Nat)
  | 0, _, _, _, _ => none
  | fu + 1, found, left, common, pos =>
    if (smB left && Nat.ble found.length 100) = true then
      if left.length ≤ 1 then some (found, common) else
      (gcdO p left common).bind fun shared => (mquoO p left shared).bind fun part =>
      if smB part = true then (mquoO p common shared).bind fun c' => partsG p many fu (if 1 < part.length then found ++ [(part, pos)] else found) shared c' (pos + many) else none
    else none
noncomputable def partsO (p : Nat) (f : List Nat) (many : Nat) : Option (List (List Nat × Nat) × List Nat) :=
  if smB f = true then (gcdO p f (derN p f)).bind fun common => (mquoO p f common).bind fun left => partsG p many 12 [] left common many else none
noncomputable def sqfG (p : Nat) : Nat → List (List Nat × Nat) → Nat → List Nat → Option (List (List Nat × Nat))
  | 0, _, _, _ => none
  | fu + 1, found, many, f =>
    if smB f = true then
      if f.length ≤ 1 then some found else
      (partsO p f many).bind fun x => if (smB x.2 && Nat.ble found.length 100 && Nat.ble x.1.length 100) = true then sqfG p fu (found ++ x.1) (many * p) (rootN p x.2) else none
    else none
noncomputable def sqfO (p : Nat) (f : List Nat) : Option (List (List Nat × Nat)) := sqfG p 12 [] 1 f

section
variable {C : Cx} {k : Nat} {sc : Scope} {Γ : List (Str × D)} {V : Vs} {c : Int}
theorem deg_pos (n : Nat) : decide ((0 : Int) < (n : Int) - 1) = decide (1 < n) := by
  by_cases h : 1 < n
  · rw [decide_eq_true h, decide_eq_true_eq]; omega
  · rw [decide_eq_false h, decide_eq_false_iff_not]; omega

theorem f_parts {f : List Nat} {many p : Nat} {r : List (List Nat × Nat) × List Nat} (hp : isPr p) (h : partsO p f many = some r) : Fn C 8 "parts_once" [LN f, N1 many, N1 p] c (.tup [.list (r.1.map P2), LN r.2]) c := by
  have hpp := hp.pos
  refine Fn.intro (k := 7) (i := 28) (by with_unfolding_all rfl) ["f", "many", "p"] (fun _ _ _ => all3 fun _ _ _ => rfl) rfl (nodup_of rfl) (names_of rfl) ?_
  unfold partsO at h
  split at h
  · rename_i hf
    obtain ⟨common, hc, h⟩ := Option.bind_eq_some_iff.mp h
    obtain ⟨left, hl, h⟩ := Option.bind_eq_some_iff.mp h
    have f1 := @f_mderive C c f p (by omega) hf
    have f2 := @f_mgcd C c _ _ _ p hp hc
    have f3 := @f_mquotient C c _ _ _ p hp hl
    refine Exs.tup (c₁ := c) (ms := [.o [], .v (N1 many)]) (EvM.o (c₁ := c) (EvF.list EvL.nil) (EvM.v (c₁ := c) (Ev.nm rfl) EvM.nil)) Tg.two rfl rfl rfl (by simp) (by intro _ _; rfl) (by rintro ⟨⟩ rfl; first | exact .inr rfl | exact .inl rfl) ?_
    refine Exs.set (c₁ := c) (by walk_at "st") rfl (by intro _ _; rfl) ?_
    refine Exs.set (c₁ := c) (by walk_at "st") rfl (by intro _ _; rfl) ?_
    refine Exs.at [("f", .v (LN f)), ("many", .v (N1 many)), ("p", .v (N1 p)), ("found", .o (([] : List (List Nat × Nat)).map P2)), ("at", .v (N1 many)), ("common", .v (LN common)), ("left", .v (LN left))] ?_
    refine Exs.whileEx (c₁ := c) ?_
    refine (fun (H : ∀ (fu : Nat) (found : List (List Nat × Nat)) (left common : List Nat) (pos : Nat), partsG p many fu found left common pos = some r → ∃ V', Wh C 7 _ _ _ [("f", .v (LN f)), ("many", .v (N1 many)), ("p", .v (N1 p)), ("found", .o (found.map P2)), ("at", .v (N1 pos)), ("common", .v (LN common)), ("left", .v (LN left))] c (.nx V' c) ∧ Exs C 7 _ V' c _ (.rt (.tup [.list (r.1.map P2), LN r.2]) c)) => H 12 [] left common many h) ?_
    clear h f1 f2 f3
    intro fu
    induction fu with
    | zero => intro found left common pos h; cases h
    | succ fu ih =>
      intro found left common pos h
      rw [partsG] at h
      split at h
      · rename_i hok
        rw [Bool.and_eq_true] at hok
        have hll := smB_len hok.1
        have hfl : found.length ≤ 100 := Nat.le_of_ble_eq_true hok.2
        have g0 := @f_mdegree C c left (by omega)
        by_cases h0 : left.length ≤ 1
        · rw [if_pos h0] at h
          cases h
          refine ⟨_, Wh.stop (EvT.cast (by walk_at "st") ?_), Exs.ret' (by walk_at "st")⟩
          rw [deg_pos]; simpa using h0
        · rw [if_neg h0] at h
          obtain ⟨shared, hs, h⟩ := Option.bind_eq_some_iff.mp h
          obtain ⟨part, hpt, h⟩ := Option.bind_eq_some_iff.mp h
          split at h
          · rename_i hpo
            obtain ⟨c', hc', h⟩ := Option.bind_eq_some_iff.mp h
            have g1 := @f_mgcd C c _ _ _ p hp hs
            have g2 := @f_mquotient C c _ _ _ p hp hpt
            have g3 := @f_mquotient C c _ _ _ p hp hc'
            have hpl := smB_len hpo
            have g4 := @f_mdegree C c part (by omega)
            obtain ⟨V', w, q⟩ := ih _ _ _ _ h
            refine ⟨V', Wh.turn (c₁ := c) (EvT.cast (by walk_at "st") ?_) ?_ w, q⟩
            · rw [deg_pos]; simp; omega
            refine Exs.keep ["f", "many", "p", "found", "at", "common", "left"] (V₁ := [("f", .v (LN f)), ("many", .v (N1 many)), ("p", .v (N1 p)), ("found", .o ((if 1 < part.length then found ++ [(part, pos)] else found).map P2)), ("at", .v (N1 (pos + many))), ("common", .v (LN c')), ("left", .v (LN shared)), ("shared", .v (LN shared)), ("part", .v (LN part))]) ?_
            refine Exs.set (c₁ := c) (by walk_at "st") rfl (by intro _ _; rfl) ?_
            refine Exs.set (c₁ := c) (by walk_at "st") rfl (by intro _ _; rfl) ?_
            refine Exs.at [("f", .v (LN f)), ("many", .v (N1 many)), ("p", .v (N1 p)), ("found", .o (found.map P2)), ("at", .v (N1 pos)), ("common", .v (LN common)), ("left", .v (LN left)), ("shared", .v (LN shared)), ("part", .v (LN part))] ?_
            refine Exs.iteN (c₁ := c) (c₂ := c) (V' := [("f", .v (LN f)), ("many", .v (N1 many)), ("p", .v (N1 p)), ("found", .o ((if 1 < part.length then found ++ [(part, pos)] else found).map P2)), ("at", .v (N1 pos)), ("common", .v (LN common)), ("left", .v (LN left)), ("shared", .v (LN shared)), ("part", .v (LN part))]) (b := decide (1 < part.length)) (EvT.cast (by walk_at "st") (deg_pos _)) (fun h1 => ?_) (fun h1 => ?_) ?_
            · have h1' : 1 < part.length := by simpa using h1
              rw [if_pos h1', List.map_append]
              exact Exs.append (c₁ := c) (d := P2 (part, pos)) (ds := found.map P2) (by walk_at "st") rfl (by rw [List.length_map]; omega) (by intro _; rfl) rfl Exs.nil
            · have h1' : ¬ 1 < part.length := by simpa using h1
              rw [if_neg h1']
              exact Exs.nil
            · exact Exs.tup (c₁ := c) (ms := [.v (LN shared), .v (LN c'), .v (N1 (pos + many))]) (EvM.v (c₁ := c) (Ev.nm rfl) (EvM.v (c₁ := c) (by walk_at "st") (EvM.v (c₁ := c) (Ev.cast (by walk_at "st") (by show D.int _ = D.int _; rfl)) EvM.nil))) Tg.three rfl rfl rfl (by simp) (by intro _ _; rfl) (by rintro ⟨⟩ rfl; first | exact .inr rfl | exact .inl rfl) Exs.nil
          · cases h
      · cases h
  · cases h
end
noncomputable def ddG (p : Nat) : Nat → List (List Nat × Nat) → Nat → List Nat → List Nat → Option (List (List Nat × Nat))
  | 0, _, _, _, _ => none
  | fu + 1, found, deg, power, f =>
    if (smB f && smB power && Nat.ble found.length 100) = true then
      if 2 * (deg + 1) + 1 ≤ f.length then
        (powO p power p f).bind fun pw => if smB pw = true then (gcdO p (subN p pw [0, 1]) f).bind fun common => if smB common = true then
          if 1 < common.length then (mquoO p f common).bind fun f' => (mrestO p pw f').bind fun pw' => ddG p fu (found ++ [(common, deg + 1)]) (deg + 1) pw' f'
          else ddG p fu found (deg + 1) pw f else none else none
      else some (if 1 < f.length then found ++ [(f, f.length - 1)] else found)
    else none
noncomputable def ddO (p : Nat) (f : List Nat) : Option (List (List Nat × Nat)) := ddG p 8 [] 0 [0, 1] f

section
variable {C : Cx} {k : Nat} {sc : Scope} {Γ : List (Str × D)} {V : Vs} {c : Int}
theorem f_sqf {f : List Nat} {p : Nat} {r : List (List Nat × Nat)} (hp : isPr p) (h : sqfO p f = some r) : Fn C 9 "square_free_parts" [LN f, N1 p] c (.list (r.map P2)) c := by
  have hpp := hp.pos
  refine Fn.intro (k := 8) (i := 29) (by with_unfolding_all rfl) ["f", "p"] (fun _ _ _ => all2 fun _ _ => rfl) rfl (nodup_of rfl) (names_of rfl) ?_
  refine Exs.tup (c₁ := c) (ms := [.o (([] : List (List Nat × Nat)).map P2), .v (N1 1)]) (EvM.o (c₁ := c) (EvF.list EvL.nil) (EvM.v (c₁ := c) Ev.int EvM.nil)) Tg.two rfl rfl rfl (by simp) (by intro _ _; rfl) (by rintro ⟨⟩ rfl; first | exact .inr rfl | exact .inl rfl) ?_
  refine Exs.whileEx (c₁ := c) ?_
  refine (fun (H : ∀ (fu : Nat) (found : List (List Nat × Nat)) (many : Nat) (f : List Nat), sqfG p fu found many f = some r → ∃ V', Wh C 8 _ _ _ [("f", .v (LN f)), ("p", .v (N1 p)), ("found", .o (found.map P2)), ("many", .v (N1 many))] c (.nx V' c) ∧ Exs C 8 _ V' c _ (.rt (.list (r.map P2)) c)) => H 12 [] 1 f h) ?_
  clear h
  intro fu
  induction fu with
  | zero => intro found many f h; cases h
  | succ fu ih =>
    intro found many f h
    rw [sqfG] at h
    split at h
    · rename_i hf
      have hl := smB_len hf
      have g0 := @f_mdegree C c f (by omega)
      by_cases h0 : f.length ≤ 1
      · rw [if_pos h0] at h
        cases h
        refine ⟨_, Wh.stop (EvT.cast (by walk_at "st") ?_), Exs.ret' (by walk_at "st")⟩
        rw [deg_pos]; simpa using h0
      · rw [if_neg h0] at h
        obtain ⟨⟨parts, rest⟩, hx, h⟩ := Option.bind_eq_some_iff.mp h
        split at h
        · rename_i hok
          rw [Bool.and_eq_true, Bool.and_eq_true] at hok
          have l1 : found.length ≤ 100 := Nat.le_of_ble_eq_true hok.1.2
          have l2 : parts.length ≤ 100 := Nat.le_of_ble_eq_true hok.2
          have g1 := @f_parts C c _ _ _ _ hp hx
          have g2 := @f_mroot C c rest p hp hok.1.1
          obtain ⟨V', w, q⟩ := ih _ _ _ h
          refine ⟨V', Wh.turn (c₁ := c) (EvT.cast (by walk_at "st") ?_) ?_ w, q⟩
          · rw [deg_pos]; simp; omega
          refine Exs.keep ["f", "p", "found", "many"] (V₁ := [("f", .v (LN (rootN p rest))), ("p", .v (N1 p)), ("found", .o ((found ++ parts).map P2)), ("many", .v (N1 (many * p))), ("parts", .v (.list (parts.map P2))), ("rest", .v (LN rest))]) ?_
          refine Exs.unp (c₁ := c) (ds := [.list (parts.map P2), LN rest]) (by walk_at "st") Tg.two rfl rfl rfl (by intro _ _; rfl) (by intro _ _; rfl) ?_
          refine Exs.at [("f", .v (LN f)), ("p", .v (N1 p)), ("found", .o (found.map P2)), ("many", .v (N1 many)), ("parts", .v (.list (parts.map P2))), ("rest", .v (LN rest))] ?_
          refine Exs.extend (c₁ := c) (ds := found.map P2) (es := parts.map P2) (Ev.nm rfl) rfl (by simp; omega) (by intro _; rfl) rfl ?_
          rw [← List.map_append]
          exact Exs.tup (c₁ := c) (ms := [.v (LN (rootN p rest)), .v (N1 (many * p))]) (EvM.v (c₁ := c) (by walk_at "st") (EvM.v (c₁ := c) (Ev.bin (c₁ := c) (Ev.nm rfl) (Ev.nm rfl) (Bin.mul (.inr (by omega)))) EvM.nil)) Tg.two rfl rfl rfl (by simp) (by intro _ _; rfl) (by rintro ⟨⟩ rfl; first | exact .inr rfl | exact .inl rfl) Exs.nil
        · cases h
    · cases h

theorem f_dd {f : List Nat} {p : Nat} {r : List (List Nat × Nat)} (hp : isPr p) (h : ddO p f = some r) : Fn C 9 "distinct_degrees" [LN f, N1 p] c (.list (r.map P2)) c := by
  have hpp := hp.pos
  refine Fn.intro (k := 8) (i := 31) (by with_unfolding_all rfl) ["f", "p"] (fun _ _ _ => all2 fun _ _ => rfl) rfl (nodup_of rfl) (names_of rfl) ?_
  refine Exs.tup (c₁ := c) (ms := [.o (([] : List (List Nat × Nat)).map P2), .v (N1 0), .v (LN [0, 1])]) (EvM.o (c₁ := c) (EvF.list EvL.nil) (EvM.v (c₁ := c) Ev.int (EvM.v (c₁ := c) (EvF.ev (EvF.list (EvL.cons (c₁ := c) Ev.int (EvL.cons Ev.int EvL.nil)))) EvM.nil))) Tg.three rfl rfl rfl (by simp) (by intro _ _; rfl) (by rintro ⟨⟩ rfl; first | exact .inr rfl | exact .inl rfl) ?_
  refine Exs.whileEx (c₁ := c) ?_
  refine (fun (H : ∀ (fu : Nat) (found : List (List Nat × Nat)) (deg : Nat) (power f : List Nat), ddG p fu found deg power f = some r → ∃ V', Wh C 8 _ _ _ [("f", .v (LN f)), ("p", .v (N1 p)), ("found", .o (found.map P2)), ("degree", .v (N1 deg)), ("power", .v (LN power))] c (.nx V' c) ∧ Exs C 8 _ V' c _ (.rt (.list (r.map P2)) c)) => H 8 [] 0 [0, 1] f h) ?_
  clear h
  intro fu
  induction fu with
  | zero => intro found deg power f h; cases h
  | succ fu ih =>
    intro found deg power f h
    rw [ddG] at h
    split at h
    · rename_i hf
      rw [Bool.and_eq_true, Bool.and_eq_true] at hf
      have hl := smB_len hf.1.1
      have hpl := smB_len hf.1.2
      have hfl : found.length ≤ 100 := Nat.le_of_ble_eq_true hf.2
      have g0 := @f_mdegree C c f (by omega)
      have htest : decide (2 * ((deg : Int) + 1) ≤ (f.length : Int) - 1) = decide (2 * (deg + 1) + 1 ≤ f.length) := by
        by_cases q : 2 * (deg + 1) + 1 ≤ f.length
        · rw [decide_eq_true q, decide_eq_true_eq]; omega
        · rw [decide_eq_false q, decide_eq_false_iff_not]; omega
      by_cases h0 : 2 * (deg + 1) + 1 ≤ f.length
      · rw [if_pos h0] at h
        obtain ⟨pw, hpw, h⟩ := Option.bind_eq_some_iff.mp h
        split at h
        · rename_i hpo
          have hpwl := smB_len hpo
          obtain ⟨common, hcm, h⟩ := Option.bind_eq_some_iff.mp h
          split at h
          · rename_i hco
            have hcl := smB_len hco
            have g1 := @f_mpower C c _ _ _ p p hp (by omega) hpw
            have g2 := @f_msub C c pw [0, 1] p (by omega) (by simp) (by omega)
            have g3 := @f_mgcd C c _ _ _ p hp hcm
            have g4 := @f_mdegree C c common (by omega)
            have key : ∃ pw' f' found', (if 1 < common.length then found ++ [(common, deg + 1)] else found) = found' ∧ ddG p fu found' (deg + 1) pw' f' = some r ∧
                ((1 < common.length ∧ mquoO p f common = some f' ∧ mrestO p pw f' = some pw') ∨ (¬ 1 < common.length ∧ f' = f ∧ pw' = pw)) := by
              by_cases h1 : 1 < common.length
              · rw [if_pos h1] at h
                obtain ⟨f', hf', h⟩ := Option.bind_eq_some_iff.mp h
                obtain ⟨pw', hpw', h⟩ := Option.bind_eq_some_iff.mp h
                exact ⟨pw', f', _, by rw [if_pos h1], h, .inl ⟨h1, hf', hpw'⟩⟩
              · rw [if_neg h1] at h
                exact ⟨pw, f, _, by rw [if_neg h1], h, .inr ⟨h1, rfl, rfl⟩⟩
            obtain ⟨pw', f', found', hfd, hgo, hcase⟩ := key
            obtain ⟨V', w, q⟩ := ih _ _ _ _ hgo
            refine ⟨V', Wh.turn (c₁ := c) (EvT.cast (by walk_at "st") (by rw [htest]; exact decide_eq_true h0)) ?_ w, q⟩
            refine Exs.keep ["f", "p", "found", "degree", "power"] (V₁ := [("f", .v (LN f')), ("p", .v (N1 p)), ("found", .o (found'.map P2)), ("degree", .v (N1 (deg + 1))), ("power", .v (LN pw')), ("common", .v (LN common))]) ?_
            refine Exs.set (c₁ := c) (d := N1 (deg + 1)) (Ev.cast (by walk_at "st") rfl) rfl (by intro _ _; rfl) ?_
            refine Exs.set (c₁ := c) (by walk_at "st") rfl (by intro _ _; rfl) ?_
            refine Exs.at [("f", .v (LN f)), ("p", .v (N1 p)), ("found", .o (found.map P2)), ("degree", .v (N1 (deg + 1))), ("power", .v (LN pw))] ?_
            refine Exs.set (c₁ := c) (Ev.call (EvL.cons (c₁ := c) (Ev.call (EvL.cons (c₁ := c) (Ev.nm rfl) (EvL.cons (c₁ := c) (EvF.ev (EvF.list (EvL.cons (c₁ := c) (d := N1 0) Ev.int (EvL.cons (d := N1 1) Ev.int EvL.nil)))) (EvL.cons (c₁ := c) (Ev.nm rfl) EvL.nil))) g2) (EvL.cons (c₁ := c) (Ev.nm rfl) (EvL.cons (c₁ := c) (Ev.nm rfl) EvL.nil))) g3) rfl (by intro _ _; rfl) ?_
            refine Exs.at [("f", .v (LN f)), ("p", .v (N1 p)), ("found", .o (found.map P2)), ("degree", .v (N1 (deg + 1))), ("power", .v (LN pw)), ("common", .v (LN common))] ?_
            refine Exs.iteN (c₁ := c) (c₂ := c) (b := decide (1 < common.length)) (EvT.cast (by walk_at "st") (deg_pos _)) (fun h1 => ?_) (fun h1 => ?_) Exs.nil
            · have h1' : 1 < common.length := by simpa using h1
              rcases hcase with ⟨_, hf', hpw'⟩ | ⟨h2, _⟩
              · rw [if_pos h1'] at hfd
                rw [← hfd, List.map_append]
                have g5 := @f_mquotient C c _ _ _ p hp hf'
                have g6 := @f_mrest C c _ _ _ p hp hpw'
                refine Exs.append (c₁ := c) (d := P2 (common, deg + 1)) (ds := found.map P2) (by walk_at "st") rfl (by rw [List.length_map]; omega) (by intro _; rfl) rfl ?_
                refine Exs.set (c₁ := c) (by walk_at "st") rfl (by intro _ _; rfl) ?_
                exact Exs.set (c₁ := c) (by walk_at "st") rfl (by intro _ _; rfl) Exs.nil
              · exact absurd h1' h2
            · have h1' : ¬ 1 < common.length := by simpa using h1
              rcases hcase with ⟨h2, _⟩ | ⟨_, hf', hpw'⟩
              · exact absurd h2 h1'
              · rw [if_neg h1'] at hfd
                rw [← hfd, hf', hpw']
                exact Exs.nil
          · cases h
        · cases h
      · rw [if_neg h0] at h
        cases h
        refine ⟨_, Wh.stop (EvT.cast (by walk_at "st") (by rw [htest]; exact decide_eq_false h0)), ?_⟩
        refine Exs.iteN (c₁ := c) (c₂ := c) (V' := [("f", .v (LN f)), ("p", .v (N1 p)), ("found", .o ((if 1 < f.length then found ++ [(f, f.length - 1)] else found).map P2)), ("degree", .v (N1 deg)), ("power", .v (LN power))]) (b := decide (1 < f.length)) (EvT.cast (by walk_at "st") (deg_pos _)) (fun h1 => ?_) (fun h1 => ?_) (Exs.ret' (by walk_at "st"))
        · have h1' : 1 < f.length := by simpa using h1
          rw [if_pos h1', List.map_append]
          refine Exs.append (c₁ := c) (d := P2 (f, f.length - 1)) (ds := found.map P2) (Ev.cast (by walk_at "st") ?_) rfl (by rw [List.length_map]; omega) (by intro _; rfl) rfl Exs.nil
          have e : ((f.length : Int) - 1) = ((f.length - 1 : Nat) : Int) := by omega
          rw [e]
        · have h1' : ¬ 1 < f.length := by simpa using h1
          rw [if_neg h1']
          exact Exs.nil
    · cases h
end
noncomputable def traceG (p : Nat) (f : List Nat) : Nat → List Nat → List Nat → Option (List Nat)
  | 0, x, _ => some x
  | n + 1, x, s => if (smB x && smB s) = true then (mmulO p s s).bind fun y => (mrestO p y f).bind fun s' => traceG p f n (trimN (addN p x s)) s' else none
noncomputable def traceO (p : Nat) (a : List Nat) (many : Nat) (f : List Nat) : Option (List Nat) := (mrestO p a f).bind fun s => traceG p f many [] s
/-- what a degree may be -/
noncomputable def splitPow (p : Nat) (a : List Nat) (deg : Nat) (f : List Nat) : Option (List Nat) :=
  if p = 2 then (traceO p a deg f).bind fun x => if smB x = true then some (subN p x [1]) else none
  else (powO p a ((p ^ deg - 1) / 2) f).bind fun x => if smB x = true then some (subN p x [1]) else none
/-- none: a check fell; some none: not split -/
noncomputable def onceO (p : Nat) (f : List Nat) (deg : Nat) (a : List Nat) : Option (Option (List Nat)) :=
  if (smB f && Nat.ble deg 3) = true then
    (gcdO p a f).bind fun common => if smB common = true then
      if 1 < common.length ∧ common.length < f.length then some (some common) else
      (splitPow p a deg f).bind fun x => (gcdO p x f).bind fun common' => if smB common' = true then
        some (if 1 < common'.length ∧ common'.length < f.length then some common' else none) else none
    else none
  else none

section
variable {C : Cx} {k : Nat} {sc : Scope} {Γ : List (Str × D)} {V : Vs} {c : Int}
theorem Exs.forEx {t iter : Expr} {xs : List (Str × Pos)} {body : List Stmt} {pos : Pos} {items : List D} {rest : List Stmt} {o : Out} {c₁ c₂ : Int} (hit : EvIt C k sc (plainΓ V) c iter t items c₁) (tg : Tg t xs) (hl : xs.all (fun x => isLocB sc x.1) = true) (hnd : nodupB (xs.map (·.1)) = true)
    (hs : ∀ env x, foldedSetIterable iter env x = pure x) (h : ∃ V', Fo C k sc t xs body items V c₁ (.nx V' c₂) ∧ Exs C k sc V' c₂ rest o) : Exs C k sc V c (.For t iter body [] pos :: rest) o :=
  let ⟨_, f, r⟩ := h; Exs.for hit tg hl hnd hs f r
theorem f_trace {a f r : List Nat} {many p : Nat} (hp : isPr p) (hm : many ≤ 1000) (h : traceO p a many f = some r) : Fn C 7 "trace_power" [LN a, N1 many, LN f, N1 p] c (LN r) c := by
  have hpp := hp.pos
  refine Fn.intro (k := 6) (i := 32) (by with_unfolding_all rfl) ["a", "many", "f", "p"] (fun _ _ _ => all4 fun _ _ _ _ => rfl) rfl (nodup_of rfl) (names_of rfl) ?_
  unfold traceO at h
  obtain ⟨s, hs, h⟩ := Option.bind_eq_some_iff.mp h
  have f1 := @f_mrest C c _ _ _ p hp hs
  refine Exs.tup (c₁ := c) (ms := [.v (LN []), .v (LN s)]) (EvM.v (c₁ := c) (EvF.ev (EvF.list EvL.nil)) (EvM.v (c₁ := c) (by walk_at "st") EvM.nil)) Tg.two rfl rfl rfl (by simp) (by intro _ _; rfl) (by rintro ⟨⟩ rfl; first | exact .inr rfl | exact .inl rfl) ?_
  refine Exs.forEx (c₁ := c) (c₂ := c) (items := rngInts 0 1 many) (EvIt.rngN (by walk_at "st") (by omega)) (.name _ _) rfl rfl (by intro _ _; rfl) ?_
  refine (fun (H : ∀ (n i : Nat) (items : List D) (x s : List Nat), items = (rngInts 0 1 many).drop i → items.length = n → traceG p f n x s = some r → ∃ V', Fo C 6 _ _ _ _ items [("a", .v (LN a)), ("many", .v (N1 many)), ("f", .v (LN f)), ("p", .v (N1 p)), ("found", .v (LN x)), ("square", .v (LN s))] c (.nx V' c) ∧ Exs C 6 _ V' c _ (.rt (LN r) c)) => H many 0 (rngInts 0 1 many) [] s rfl rngInts_len h) ?_
  clear h f1
  intro n
  induction n with
  | zero =>
    intro i items x s hi hl h
    cases List.length_eq_zero_iff.mp hl
    cases h
    exact ⟨_, .nil, Exs.ret' (by walk_at "st")⟩
  | succ n ih =>
    intro i items x s hi hl h
    rw [traceG] at h
    split at h
    · rename_i hok
      rw [Bool.and_eq_true] at hok
      obtain ⟨y, hy, h⟩ := Option.bind_eq_some_iff.mp h
      obtain ⟨s', hs', h⟩ := Option.bind_eq_some_iff.mp h
      have l1 := smB_len hok.1
      have l2 := smB_len hok.2
      match items, hl with
      | d :: ds, hl =>
        have hd : (rngInts 0 1 many)[i]? = some d := by
          have := congrArg (fun l => l[0]?) hi
          simpa using this.symm
        obtain ⟨hlt, rfl⟩ := rngInts_get hd
        have hds : ds = (rngInts 0 1 many).drop (i + 1) := by
          have := congrArg List.tail hi
          simpa using this
        obtain ⟨V', w, q⟩ := ih (i + 1) ds _ _ hds (by simpa using hl) h
        have g1 := @f_madd C c x s p (by omega) (by omega) (by omega)
        have g2 := @f_mmulO C c _ _ _ p hp hy
        have g3 := @f_mrest C c _ _ _ p hp hs'
        refine ⟨V', .turn rfl ?_ w, q⟩
        refine Exs.keep ["a", "many", "f", "p", "found", "square"] (V₁ := [("a", .v (LN a)), ("many", .v (N1 many)), ("f", .v (LN f)), ("p", .v (N1 p)), ("found", .v (LN (trimN (addN p x s)))), ("square", .v (LN s')), ("turn", .v (.int (0 + (i : Int) * 1)))]) ?_
        refine Exs.set (c₁ := c) (by walk_at "st") rfl (by intro _ _; rfl) ?_
        exact Exs.set (c₁ := c) (by walk_at "st") rfl (by intro _ _; rfl) Exs.nil
    · cases h
end
noncomputable def optD : Option (List Nat) → D
  | none => .none
  | some l => LN l
section
variable {C : Cx} {k : Nat} {sc : Scope} {Γ : List (Str × D)} {V : Vs} {c : Int}
theorem pow_bound {p deg : Nat} (hp : isPr p) (hd : deg ≤ 3) : 1 ≤ p ^ deg ∧ p ^ deg ≤ 1331 := by
  have hpp := hp.pos
  refine ⟨Nat.one_le_pow _ _ (by omega), ?_⟩
  exact Nat.le_trans (Nat.pow_le_pow_left hpp.2 deg) (Nat.le_trans (Nat.pow_le_pow_right (by decide) hd) (by decide))

theorem f_splitpow {a f r : List Nat} {deg p : Nat} (hp : isPr p) (hd : deg ≤ 3) (h : splitPow p a deg f = some r) : Fn C 8 "split_power" [LN a, N1 deg, LN f, N1 p] c (LN r) c := by
  have hpp := hp.pos
  refine Fn.intro (k := 7) (i := 33) (by with_unfolding_all rfl) ["a", "degree", "f", "p"] (fun _ _ _ => all4 fun _ _ _ _ => rfl) rfl (nodup_of rfl) (names_of rfl) ?_
  unfold splitPow at h
  have e2 : (((p : Nat) : Int) == 2) = decide (p = 2) := by
    by_cases q : p = 2
    · subst q; rfl
    · rw [decide_eq_false q]; simp; omega
  refine Exs.iteR (c₁ := c) (c₃ := c) (b := decide (p = 2)) (EvT.cast (by walk_at "st") e2) (fun h1 => ?_) (fun h1 => Exs.nil) fun h1 => ?_
  · have h1' : p = 2 := by simpa using h1
    rw [if_pos h1'] at h
    obtain ⟨x, hx, h⟩ := Option.bind_eq_some_iff.mp h
    split at h
    · rename_i hok
      cases h
      have hl := smB_len hok
      have g1 := @f_trace C c _ _ _ deg p hp (by omega) hx
      have g2 := @f_msub C c x [1] p (by omega) (by simp) (by omega)
      exact Exs.ret' (Ev.call (EvL.cons (c₁ := c) (by walk_at "st") (EvL.cons (c₁ := c) (EvF.ev (EvF.list (EvL.cons (d := N1 1) Ev.int EvL.nil))) (EvL.cons (c₁ := c) (Ev.nm rfl) EvL.nil))) g2)
    · cases h
  · have h1' : ¬ p = 2 := by simpa using h1
    rw [if_neg h1'] at h
    obtain ⟨x, hx, h⟩ := Option.bind_eq_some_iff.mp h
    split at h
    · rename_i hok
      cases h
      have hl := smB_len hok
      obtain ⟨b1, b2⟩ := pow_bound hp hd
      have g1 := @f_mpower C c _ _ _ ((p ^ deg - 1) / 2) p hp (by omega) hx
      have g2 := @f_msub C c x [1] p (by omega) (by simp) (by omega)
      have ep : (((p : Int) ^ (deg : Int).toNat - 1).fdiv 2) = (((p ^ deg - 1) / 2 : Nat) : Int) := by
        have e3 : (deg : Int).toNat = deg := by omega
        rw [e3, Int.fdiv_eq_ediv_of_nonneg _ (by omega)]
        have e4 : (p : Int) ^ deg - 1 = ((p ^ deg - 1 : Nat) : Int) := by rw [Int.ofNat_sub b1, Int.natCast_pow]; rfl
        rw [e4]; rfl
      refine Exs.ret' (Ev.call (EvL.cons (c₁ := c) (Ev.call (EvL.cons (c₁ := c) (Ev.nm rfl) (EvL.cons (c₁ := c) (d := N1 ((p ^ deg - 1) / 2)) (Ev.cast (Ev.bin (c₁ := c) (d₁ := .int ((p : Int) ^ (deg : Int).toNat - 1)) (Ev.bin (c₁ := c) (d₁ := .int ((p : Int) ^ (deg : Int).toNat)) (Ev.bin (c₁ := c) (Ev.nm rfl) (Ev.nm rfl) (Bin.pow (by omega) (by omega) (by omega))) Ev.int Bin.sub) Ev.int (Bin.fdiv (by decide) (by decide))) (by rw [ep])) (EvL.cons (c₁ := c) (Ev.nm rfl) (EvL.cons (c₁ := c) (Ev.nm rfl) EvL.nil)))) g1) (EvL.cons (c₁ := c) (EvF.ev (EvF.list (EvL.cons (d := N1 1) Ev.int EvL.nil))) (EvL.cons (c₁ := c) (Ev.nm rfl) EvL.nil))) g2)
    · cases h

theorem chain_deg (x y : Nat) : (decide ((0 : Int) < (x : Int) - 1) && decide ((x : Int) - 1 < (y : Int) - 1)) = decide (1 < x ∧ x < y) := by
  rw [Bool.eq_iff_iff, Bool.and_eq_true, decide_eq_true_eq, decide_eq_true_eq, decide_eq_true_eq]
  omega

theorem f_once {a f : List Nat} {r : Option (List Nat)} {deg p : Nat} (hp : isPr p) (h : onceO p f deg a = some r) : Fn C 9 "split_once" [LN f, N1 deg, LN a, N1 p] c (optD r) c := by
  have hpp := hp.pos
  refine Fn.intro (k := 8) (i := 34) (by with_unfolding_all rfl) ["f", "degree", "a", "p"] (fun _ _ _ => all4 fun _ _ _ _ => rfl) rfl (nodup_of rfl) (names_of rfl) ?_
  unfold onceO at h
  split at h
  · rename_i hf
    rw [Bool.and_eq_true] at hf
    have hfl := smB_len hf.1
    have hdl : deg ≤ 3 := Nat.le_of_ble_eq_true hf.2
    obtain ⟨common, hcm, h⟩ := Option.bind_eq_some_iff.mp h
    split at h
    · rename_i hco
      have hcl := smB_len hco
      have g1 := @f_mgcd C c _ _ _ p hp hcm
      have g2 := @f_mdegree C c common (by omega)
      have g3 := @f_mdegree C c f (by omega)
      refine Exs.set (c₁ := c) (by walk_at "st") rfl (by intro _ _; rfl) ?_
      refine Exs.at [("f", .v (LN f)), ("degree", .v (N1 deg)), ("a", .v (LN a)), ("p", .v (N1 p)), ("common", .v (LN common))] ?_
      by_cases hb : 1 < common.length ∧ common.length < f.length
      · rw [if_pos hb] at h
        cases h
        refine Exs.iteR (c₁ := c) (c₃ := c) (V' := []) (b := true) (EvT.cast (EvT.chain2 (c₁ := c) (c₂ := c) Ev.int (by walk_at "st") Cmp.lt (by walk_at "st") Cmp.lt) (by rw [chain_deg]; exact decide_eq_true hb)) (fun _ => Exs.ret' (by exact Ev.nm rfl)) (fun q => nomatch q) fun q => nomatch q
      · rw [if_neg hb] at h
        obtain ⟨x, hx, h⟩ := Option.bind_eq_some_iff.mp h
        obtain ⟨common', hcm', h⟩ := Option.bind_eq_some_iff.mp h
        split at h
        · rename_i hco'
          have hcl' := smB_len hco'
          cases h
          have g4 := @f_splitpow C c _ _ _ _ p hp hdl hx
          have g5 := @f_mgcd C c _ _ _ p hp hcm'
          have g6 := @f_mdegree C c common' (by omega)
          refine Exs.iteR (c₁ := c) (c₃ := c) (b := false) (EvT.cast (EvT.chain2 (c₁ := c) (c₂ := c) Ev.int (by walk_at "st") Cmp.lt (by walk_at "st") Cmp.lt) (by rw [chain_deg]; exact decide_eq_false hb)) (fun q => nomatch q) (fun _ => Exs.nil) fun _ => ?_
          refine Exs.set (c₁ := c) (by walk_at "st") rfl (by intro _ _; rfl) ?_
          refine Exs.at [("f", .v (LN f)), ("degree", .v (N1 deg)), ("a", .v (LN a)), ("p", .v (N1 p)), ("common", .v (LN common'))] ?_
          refine Exs.ret' (Ev.ite (c₁ := c) (b := decide (1 < common'.length ∧ common'.length < f.length)) (EvT.cast (EvT.chain2 (c₁ := c) (c₂ := c) Ev.int (by walk_at "st") Cmp.lt (by walk_at "st") Cmp.lt) (chain_deg _ _)) (fun q => ?_) fun q => ?_)
          · have q' : 1 < common'.length ∧ common'.length < f.length := of_decide_eq_true q
            rw [if_pos q']; exact Ev.nm rfl
          · have q' : ¬ (1 < common'.length ∧ common'.length < f.length) := of_decide_eq_false q
            rw [if_neg q']; exact Ev.none
        · cases h
    · cases h
  · cases h
end
noncomputable def digG (p : Nat) : Nat → Nat → List Nat → Option (List Nat)
  | 0, _, _ => none
  | fu + 1, n, found => if Nat.ble found.length 100 = true then (if n = 0 then some (trimN found) else digG p fu (n / p) (found ++ [n % p])) else none
noncomputable def digO (p n : Nat) : Option (List Nat) := digG p 16 n []
noncomputable def firstG (p : Nat) (f : List Nat) (deg : Nat) : Nat → Nat → Option (List Nat)
  | 0, _ => none
  | fu + 1, n => if Nat.ble n 100000 = true then (digO p n).bind fun a => (onceO p f deg a).bind fun r => match r with
    | some part => some part
    | none => firstG p f deg fu (if p = 2 then 2 * n else n + 1) else none
noncomputable def firstO (p : Nat) (f : List Nat) (deg : Nat) : Option (List Nat) := firstG p f deg 30 p

section
variable {C : Cx} {k : Nat} {sc : Scope} {Γ : List (Str × D)} {V : Vs} {c : Int}
theorem f_counted {n p : Nat} {r : List Nat} (hp : isPr p) (h : digO p n = some r) : Fn C 4 "counted" [N1 n, N1 p] c (LN r) c := by
  have hpp := hp.pos
  refine Fn.intro (k := 3) (i := 37) (by with_unfolding_all rfl) ["number", "p"] (fun _ _ _ => all2 fun _ _ => rfl) rfl (nodup_of rfl) (names_of rfl) ?_
  unfold digO at h
  refine Exs.setO (c₁ := c) (ds := ([] : List Nat).map N1) (EvF.list EvL.nil) rfl (by intro _ _; rfl) ?_
  refine Exs.whileEx (c₁ := c) ?_
  refine (fun (H : ∀ (fu n : Nat) (found : List Nat), digG p fu n found = some r → ∃ V', Wh C 3 _ _ _ [("number", .v (N1 n)), ("p", .v (N1 p)), ("found", .o (found.map N1))] c (.nx V' c) ∧ Exs C 3 _ V' c _ (.rt (LN r) c)) => H 16 n [] h) ?_
  clear h
  intro fu
  induction fu with
  | zero => intro n found h; cases h
  | succ fu ih =>
    intro n found h
    rw [digG] at h
    split at h
    · rename_i hok
      have hl : found.length ≤ 100 := Nat.le_of_ble_eq_true hok
      by_cases h0 : n = 0
      · rw [if_pos h0] at h
        cases h
        have g1 := @f_mtrim C c found (by omega)
        exact ⟨_, Wh.stop (EvT.cast (by walk_at "st") (by rw [int_pos]; simp [h0])), Exs.ret' (by walk_at "st")⟩
      · rw [if_neg h0] at h
        obtain ⟨V', w, q⟩ := ih _ _ h
        refine ⟨V', Wh.turn (c₁ := c) (EvT.cast (by walk_at "st") (by rw [int_pos]; simp; omega)) ?_ w, q⟩
        have e1 : (n : Int).fmod (p : Int) = ((n % p : Nat) : Int) := fmod_nat n p
        have e2 : (n : Int).fdiv (p : Int) = ((n / p : Nat) : Int) := by rw [Int.fdiv_eq_ediv_of_nonneg _ (by omega)]; rfl
        rw [List.map_append]
        refine Exs.append (c₁ := c) (d := N1 (n % p)) (ds := found.map N1) (Ev.cast (by walk_at "st") (by rw [e1])) rfl (by rw [List.length_map]; omega) (by intro _; rfl) rfl ?_
        exact Exs.set (c₁ := c) (d := N1 (n / p)) (Ev.cast (by walk_at "st") (by rw [e2])) rfl (by intro _ _; rfl) Exs.nil
    · cases h

theorem f_first {f r : List Nat} {deg p : Nat} (hp : isPr p) (h : firstO p f deg = some r) : Fn C 10 "first_split" [LN f, N1 deg, .list [], N1 p] c (LN r) c := by
  have hpp := hp.pos
  refine Fn.intro (k := 9) (i := 36) (by with_unfolding_all rfl) ["f", "degree", "choices", "p"] (fun _ _ _ => all4 fun _ _ _ _ => rfl) rfl (nodup_of rfl) (names_of rfl) ?_
  unfold firstO at h
  refine Exs.for (c₁ := c) (c₂ := c) (items := []) (EvIt.list (Ev.nm rfl)) (.name _ _) rfl rfl (by intro _ _; rfl) .nil ?_
  refine Exs.tup (c₁ := c) (ms := [.v (N1 p), .v (optD none)]) (EvM.v (c₁ := c) (Ev.nm rfl) (EvM.v (c₁ := c) Ev.none EvM.nil)) Tg.two rfl rfl rfl (by simp) (by intro _ _; rfl) (by rintro ⟨⟩ rfl; first | exact .inr rfl | exact .inl rfl) ?_
  refine Exs.whileEx (c₁ := c) ?_
  refine (fun (H : ∀ (fu n : Nat), firstG p f deg fu n = some r → ∃ V', Wh C 9 _ _ _ [("f", .v (LN f)), ("degree", .v (N1 deg)), ("choices", .v (.list [])), ("p", .v (N1 p)), ("number", .v (N1 n)), ("part", .v (optD none))] c (.nx V' c) ∧ Exs C 9 _ V' c _ (.rt (LN r) c)) => H 30 p h) ?_
  clear h
  have e2 : (((p : Nat) : Int) == 2) = decide (p = 2) := by
    by_cases q : p = 2
    · subst q; rfl
    · rw [decide_eq_false q]; simp; omega
  intro fu
  induction fu with
  | zero => intro n h; cases h
  | succ fu ih =>
    intro n h
    rw [firstG] at h
    split at h
    · rename_i hn
      have hn' : n ≤ 100000 := Nat.le_of_ble_eq_true hn
      obtain ⟨a, ha, h⟩ := Option.bind_eq_some_iff.mp h
      obtain ⟨ro, hro, h⟩ := Option.bind_eq_some_iff.mp h
      have g1 := @f_counted C c n p a hp ha
      have g2 := @f_once C c _ _ _ _ p hp hro
      have body : ∃ nn, (if p = 2 then 2 * n else n + 1) = nn := ⟨_, rfl⟩
      obtain ⟨nn, hnn⟩ := body
      rw [hnn] at h
      cases ro with
      | some part =>
        cases h
        refine ⟨[("f", .v (LN f)), ("degree", .v (N1 deg)), ("choices", .v (.list [])), ("p", .v (N1 p)), ("number", .v (N1 nn)), ("part", .v (optD (some r)))], Wh.turn (c₁ := c) (EvT.cast (by walk_at "st") rfl) (c₂ := c) (V' := [("f", .v (LN f)), ("degree", .v (N1 deg)), ("choices", .v (.list [])), ("p", .v (N1 p)), ("number", .v (N1 nn)), ("part", .v (optD (some r)))]) ?_ (Wh.stop (EvT.cast (by walk_at "st") rfl)), Exs.ret' (Ev.nm rfl)⟩
        refine Exs.set (c₁ := c) (d := optD (some r)) (by walk_at "st") rfl (by intro _ _; rfl) ?_
        refine Exs.set (c₁ := c) (d := N1 nn) (Ev.ite (c₁ := c) (b := decide (p = 2)) (EvT.cast (by walk_at "st") e2) (fun q => ?_) fun q => ?_) rfl (by intro _ _; rfl) Exs.nil
        · have q' : p = 2 := of_decide_eq_true q
          rw [if_pos q'] at hnn
          exact Ev.cast (by walk_at "st") (by rw [← hnn]; rfl)
        · have q' : ¬ p = 2 := of_decide_eq_false q
          rw [if_neg q'] at hnn
          exact Ev.cast (by walk_at "st") (by rw [← hnn]; rfl)
      | none =>
        obtain ⟨V', w, q⟩ := ih _ h
        refine ⟨V', Wh.turn (c₁ := c) (EvT.cast (by walk_at "st") rfl) ?_ w, q⟩
        refine Exs.set (c₁ := c) (d := optD none) (by walk_at "st") rfl (by intro _ _; rfl) ?_
        refine Exs.set (c₁ := c) (d := N1 nn) (Ev.ite (c₁ := c) (b := decide (p = 2)) (EvT.cast (by walk_at "st") e2) (fun q => ?_) fun q => ?_) rfl (by intro _ _; rfl) Exs.nil
        · have q' : p = 2 := of_decide_eq_true q
          rw [if_pos q'] at hnn
          exact Ev.cast (by walk_at "st") (by rw [← hnn]; rfl)
        · have q' : ¬ p = 2 := of_decide_eq_false q
          rw [if_neg q'] at hnn
          exact Ev.cast (by walk_at "st") (by rw [← hnn]; rfl)
    · cases h
end
noncomputable abbrev keyD (a : List Nat) : D := .tup [N1 a.length, LN a.reverse]
noncomputable abbrev keyD2 (x : List Nat × Nat) : D := .tup [keyD x.1, N1 x.2]
section
variable {C : Cx} {k : Nat} {sc : Scope} {Γ : List (Str × D)} {V : Vs} {c : Int}
theorem f_morder {a : List Nat} (ha : a.length ≤ 1000) : Fn C 2 "morder" [LN a] c (keyD a) c := by
  refine Fn.intro (k := 1) (i := 24) (by with_unfolding_all rfl) ["a"] (fun _ _ _ => all1 fun _ => rfl) rfl (nodup_of rfl) (names_of rfl) ?_
  refine Exs.ret' (Ev.tup (EvL.cons (c₁ := c) (by walk_at "st") (EvL.cons (c₁ := c) (d := LN a.reverse) (Ev.cast (EvF.ev (EvF.rev (Ev.nm rfl) (by rw [List.length_map]; omega))) ?_) EvL.nil)))
  show D.list _ = D.list _
  rw [List.map_reverse]
theorem f_factor_order {x : List Nat × Nat} (ha : x.1.length ≤ 1000) : Fn C 3 "factor_order" [P2 x] c (keyD2 x) c := by
  refine Fn.intro (k := 2) (i := 40) (by with_unfolding_all rfl) ["pair"] (fun _ _ _ => all1 fun _ => rfl) rfl (nodup_of rfl) (names_of rfl) ?_
  have g := @f_morder C c x.1 ha
  exact Exs.ret' (Ev.tup (EvL.cons (c₁ := c) (Ev.call (EvL.cons (c₁ := c) (d := LN x.1) (Ev.itemT (c₁ := c) (Ev.nm rfl) Ev.int (by omega) rfl (by simp)) EvL.nil) g) (EvL.cons (c₁ := c) (d := N1 x.2) (Ev.itemT (c₁ := c) (Ev.nm rfl) Ev.int (by omega) rfl (by simp)) EvL.nil)))
end
section
open AutoSeq1 (wpAny_loadPart')
open MeetsSeq MeetsSeq2 MeetsSeq3 SeqRoads2 SeqAt

/-! ## Lists of ints, which comes first -/
noncomputable def ltZ : List Int → List Int → Bool
  | [], [] => false
  | [], _ :: _ => true
  | _ :: _, [] => false
  | a :: x, b :: y => if a = b then ltZ x y else decide (a < b)

theorem intsAre_get {vs : List Value} {ns : List Int} (h : IntsAre vs ns) : vs.length = ns.length ∧ ∀ i (hi : i < vs.length) (hn : i < ns.length), ∃ t, vs[i] = .int ns[i] t := by
  induction h with
  | nil => exact ⟨rfl, fun i hi => by simp at hi⟩
  | cons n t _ ih =>
    refine ⟨by simp [ih.1], fun i hi hn => ?_⟩
    cases i with
    | zero => exact ⟨t, rfl⟩
    | succ i => exact ih.2 i (by simpa using hi) (by simpa using hn)

theorem ltZ_nil (ys : List Int) : ltZ [] ys = decide (0 < ys.length) := by cases ys <;> rfl
theorem lt_loop (l b : Addr) (items items2 : Array Value) (n n2 : Nat) (xs ys : List Int) (hx : IntsAre items.toList xs) (hy : IntsAre items2.toList ys) (k : Nat) :
    ∀ i : Nat, items.size - i = k → i ≤ items.size → i ≤ items2.size → Meets (Builtin.«list.__eq__.loop» ⟨[.ref l, .ref b, rawInt i, rawInt 0], []⟩)
      (fun _ R s => s.heap.get? l = some { cls := .type "list", dict := none, data := .seq items n, slots := #[] } ∧ s.heap.get? b = some { cls := .type "list", dict := none, data := .seq items2 n2, slots := #[] } ∧
        R (.ok (.ret (.bool (ltZ (xs.drop i) (ys.drop i))))) s) := by
  obtain ⟨lx, gx⟩ := intsAre_get hx
  obtain ⟨ly, gy⟩ := intsAre_get hy
  rw [Array.length_toList] at lx ly
  induction k with
  | zero =>
    intro i hk hi hi2 prog w A R s h
    obtain ⟨hp, g, d, tk, os⟩ := s; obtain ⟨hl, hb, h⟩ := h
    wp_walk using wpAny_loadPart' hl, wpAny_loadPart' hb
    have hi1 : items[((i : Nat) : Int).toNat]? = none := by simp; omega
    have hd : xs.drop i = [] := by simp; omega
    rw [hd, ltZ_nil, List.length_drop] at h
    rw [hi1]
    cases hq : items2[((i : Nat) : Int).toNat]? <;>
    · dsimp only
      wp_walk using wpAny_loadPart' hl, wpAny_loadPart' hb
      show R (.ok (.ret (.bool (decide (items.size < items2.size))))) _
      have e : decide (items.size < items2.size) = decide (0 < ys.length - i) := by
        rw [Bool.eq_iff_iff, decide_eq_true_eq, decide_eq_true_eq]; omega
      rw [e]; exact h
  | succ k ih =>
    intro i hk hi hi2 prog w A R s h
    obtain ⟨hp, g, d, tk, os⟩ := s; obtain ⟨hl, hb, h⟩ := h
    wp_walk using wpAny_loadPart' hl, wpAny_loadPart' hb
    have hlt : i < items.size := by omega
    have hi1 : items[((i : Nat) : Int).toNat]? = some items[i] := by simp [hlt]
    have hdx : xs.drop i = xs[i] :: xs.drop (i + 1) := by rw [List.drop_eq_getElem_cons (by omega)]
    obtain ⟨t, hxi⟩ := gx i (by simpa using hlt) (by omega)
    rw [hdx] at h
    rw [hi1]
    by_cases hlt2 : i < items2.size
    · have hi2' : items2[((i : Nat) : Int).toNat]? = some items2[i] := by simp [hlt2]
      have hdy : ys.drop i = ys[i] :: ys.drop (i + 1) := by rw [List.drop_eq_getElem_cons (by omega)]
      obtain ⟨u, hyi⟩ := gy i (by simpa using hlt2) (by omega)
      rw [hdy] at h
      rw [hi2']
      have ex : items[i] = Value.int xs[i] t := by simpa using hxi
      have ey : items2[i] = Value.int ys[i] u := by simpa using hyi
      rw [ex, ey]
      dsimp only
      refine wpAny_bind (wpAny_eqBool_int ?_)
      by_cases he : xs[i] = ys[i]
      · have hb' : (xs[i] == ys[i]) = true := by simpa using he
        rw [hb', ltZ, if_pos he] at *
        have hc : ((i : Int) + 1) = ((i + 1 : Nat) : Int) := by push_cast; rfl
        wp_walk
        rw [hc]
        exact ⟨plainId_quiet plain_eq_loop _, codeAny_builtin entry_eq_loop (by
          rw [Around.under_plainId plain_eq_loop _]
          exact ih (i + 1) (by omega) (by omega) (by omega) prog w A R _ ⟨hl, hb, h⟩)⟩
      · have hb' : (xs[i] == ys[i]) = false := by simpa using he
        rw [hb']
        rw [ltZ, if_neg he] at h
        wp_walk using wpAny_loadPart' hl, wpAny_loadPart' hb
        rw [hi1, hi2', ex, ey]
        dsimp only
        refine wpAny_bind (show wpAny (model prog w) A.in1 (compareOp .Lt (.int xs[i] t) (.int ys[i] u)) _ _ _ from wpAny_lt_int ?_)
        wp_walk
        exact h
    · have hi2' : items2[((i : Nat) : Int).toNat]? = none := by simp; omega
      have hdy : ys.drop i = [] := by simp; omega
      rw [hdy] at h
      rw [hi2']
      dsimp only
      wp_walk using wpAny_loadPart' hl, wpAny_loadPart' hb
      show R (.ok (.ret (.bool (decide (items.size < items2.size))))) _
      have e : decide (items.size < items2.size) = false := by rw [decide_eq_false_iff_not]; omega
      rw [e]; exact h

theorem list_lt (l b : Addr) (items items2 : Array Value) (n n2 : Nat) (xs ys : List Int) (hx : IntsAre items.toList xs) (hy : IntsAre items2.toList ys) :
    Meets (Builtin.«list.__lt__» ⟨[.ref l, .ref b], []⟩)
      (fun _ R s => s.heap.get? l = some { cls := .type "list", dict := none, data := .seq items n, slots := #[] } ∧ s.heap.get? b = some { cls := .type "list", dict := none, data := .seq items2 n2, slots := #[] } ∧
        R (.ok (.ret (.bool (ltZ xs ys)))) s) := by
  intro prog w A R s h
  obtain ⟨hp, g, d, tk, os⟩ := s; obtain ⟨hl, hb, h⟩ := h
  have f3 := AutoSeq1.sub_list_list
  wp_walk using wpAny_loadPart' hl, wpAny_loadPart' hb
  exact ⟨plainId_quiet plain_eq_loop _, codeAny_builtin entry_eq_loop (by
    rw [Around.under_plainId plain_eq_loop _]
    exact lt_loop l b items items2 n n2 xs ys hx hy _ 0 rfl (Nat.zero_le _) (Nat.zero_le _) prog w A R _ ⟨hl, hb, by simpa using h⟩)⟩
end
section
open AutoSeq1 (wpAny_loadPart')
open MeetsSeq MeetsSeq2 MeetsSeq3 SeqRoads2 SeqAt

section
variable {prog : Program} {w : World} {A : Around} {E : Value → Shared → Prop} {s : Shared}
theorem lt_list_wp {l b : Addr} {vs us : List Value} {n m : Nat} {xs ys : List Int} {Q : Value → Shared → Prop} (hu : A.units < cLine) (hl : IsL s.heap l vs.toArray n) (hb : IsL s.heap b us.toArray m) (hx : IntsAre vs xs) (hy : IntsAre us ys)
    (h : Q (.bool (ltZ xs ys)) s) : wpAny (model prog w) A (richCompare .Lt (.ref l) (.ref b)) Q E s :=
  wpAny_richCompare_same_room (T := "list") ⟨_, hl, rfl⟩ ⟨_, hb, rfl⟩ PySem.F.slot_list_lt
    (call_meets PySem.F.slot_list_lt ⟨_, hl, rfl⟩ PySem.F.entry_list_lt (PySem.F.args_list_lt_2 _ _) (list_lt l b vs.toArray us.toArray n m xs ys (by simpa using hx) (by simpa using hy)) ⟨hl, hb, (fun q => nomatch q), h⟩) hu
end

theorem tupItems_wp {l : Addr} {items : Array Value} {n : Nat} {Q : Array Value → Shared → Prop} (hl : s.heap.get? l = some { cls := .type "tuple", dict := none, data := .seq items n, slots := #[] }) (h : Q items s) :
    wpAny (model prog w) A (Builtin.Tuple.tupleItemsOf (.ref l)) Q E s := by
  obtain ⟨hp, g, d, tk, os⟩ := s
  wp_walk using wpAny_loadPart' hl
  exact h
/-- (a, x) before (b, y) -/
theorem tup_lt2 (l b : Addr) (p q p' q' : Value) (n n2 : Nat) (e1 e2 : Bool) (r1 r2 : Bool) :
    Meets (Builtin.«tuple.__lt__» ⟨[.ref l, .ref b], []⟩)
      (fun A R s => s.heap.get? l = some { cls := .type "tuple", dict := none, data := .seq #[p, q] n, slots := #[] } ∧ s.heap.get? b = some { cls := .type "tuple", dict := none, data := .seq #[p', q'] n2, slots := #[] } ∧
        (∀ prog w E Q, Q e1 s → wpAny (model prog w) A.in1 (eqBool p p') Q E s) ∧ (∀ prog w E Q, Q e2 s → wpAny (model prog w) A.in1 (eqBool q q') Q E s) ∧
        (∀ prog w E Q, Q (.bool r1) s → wpAny (model prog w) A.in1 (richCompare .Lt p p') Q E s) ∧ (∀ prog w E Q, e2 = false → Q (.bool r2) s → wpAny (model prog w) A.in1 (richCompare .Lt q q') Q E s) ∧
        R (.ok (.ret (.bool (if e1 then (if e2 then false else r2) else r1)))) s) := by
  intro prog w A R s h
  obtain ⟨hp, g, d, tk, os⟩ := s; obtain ⟨hl, hb, h1, h2, h3, h4, h⟩ := h
  wp_walk using wpAny_loadPart' hl, wpAny_loadPart' hb
  refine wpAny_of_eq (a := true) AutoSeq1.sub_tuple_tuple ?_
  simp only [Bool.not_true, Bool.false_eq_true, if_false]
  refine wpAny_bind (tupItems_wp hl (wpAny_bind (tupItems_wp hb ?_)))
  have ez : (#[p, q] : Array Value).toList.zip (#[p', q'] : Array Value).toList = [(p, p'), (q, q')] := rfl
  rw [ez, List.forIn_cons]
  refine wpAny_bind ?_
  dsimp only
  refine wpAny_bind (wpAny_bind (h1 _ _ _ _ ?_))
  cases e1 with
  | false =>
    simp only [Bool.not_false, if_true]
    simp only [Bool.false_eq_true, if_false] at h
    refine wpAny_bind (wpAny_rule (wpAny_bind (h3 _ _ _ _ ?_)))
    wp_walk
    exact h
  | true =>
    simp only [Bool.not_true, Bool.false_eq_true, if_false]
    simp only [if_true] at h
    refine wpAny_pure ?_
    dsimp only
    rw [List.forIn_cons]
    refine wpAny_bind (wpAny_bind (h2 _ _ _ _ ?_))
    cases e2 with
    | false =>
      simp only [Bool.not_false, if_true]
      simp only [Bool.false_eq_true, if_false] at h
      refine wpAny_bind (wpAny_rule (wpAny_bind (h4 _ _ _ _ rfl ?_)))
      wp_walk
      exact h
    | true =>
      simp only [Bool.not_true, Bool.false_eq_true, if_false]
      simp only [if_true] at h
      refine wpAny_pure ?_
      dsimp only
      rw [List.forIn_nil]
      wp_walk
      exact h
end
section
open SeqAt

/-! ## Keys compared -/
noncomputable def ltL : List Nat → List Nat → Bool
  | [], [] => false
  | [], _ :: _ => true
  | _ :: _, [] => false
  | a :: x, b :: y => if a = b then ltL x y else Nat.blt a b
theorem ltZ_nat : ∀ a b : List Nat, ltZ (a.map fun n : Nat => (n : Int)) (b.map fun n : Nat => (n : Int)) = ltL a b
  | [], [] => rfl
  | [], _ :: _ => rfl
  | _ :: _, [] => rfl
  | a :: x, b :: y => by
    rw [List.map_cons, List.map_cons, ltZ, ltL, ltZ_nat x y]
    by_cases h : a = b
    · rw [if_pos h, if_pos (by omega)]
    · rw [if_neg h, if_neg (by omega), Bool.eq_iff_iff, decide_eq_true_eq, Nat.blt_eq]; omega
noncomputable def kLt (a b : List Nat) : Bool := if a.length = b.length then (if a = b then false else ltL a.reverse b.reverse) else Nat.blt a.length b.length
noncomputable def kLt2 (x y : List Nat × Nat) : Bool := if x.1 = y.1 then Nat.blt x.2 y.2 else kLt x.1 y.1
theorem eqv_LN : ∀ a b : List Nat, PyData.eqvAll (pyAll (a.map N1)) (pyAll (b.map N1)) = decide (a = b)
  | [], [] => rfl
  | [], _ :: _ => rfl
  | _ :: _, [] => rfl
  | a :: x, b :: y => by
    show (((a : Nat) : Int) == ((b : Nat) : Int) && PyData.eqvAll (pyAll (x.map N1)) (pyAll (y.map N1))) = _
    rw [eqv_LN x y, Bool.eq_iff_iff, Bool.and_eq_true, beq_iff_eq, decide_eq_true_eq, decide_eq_true_eq, List.cons.injEq]
    constructor
    · rintro ⟨h1, h2⟩; exact ⟨by omega, h2⟩
    · rintro ⟨h1, h2⟩; exact ⟨by omega, h2⟩
theorem plain_LN : ∀ a : List Nat, plainAll (a.map N1) = true
  | [] => rfl
  | a :: x => by show ((N1 a).plain && plainAll (x.map N1)) = true; rw [plain_LN x]; rfl

section
variable {prog : Program} {w : World} {A : Around} {E : Value → Shared → Prop} {s : Shared} {β : Addr} {hid : List Addr}
theorem eqB_wp {a b : Value} {d e : D} {r : Bool} {Q : Bool → Shared → Prop} (hu : A.units + 64 < cLine) (h1 : d.plain = true) (h2 : e.plain = true) (hd : d.py.depth ≤ 60) (ra : Rep β hid s.heap a d) (rb : Rep β hid s.heap b e) (hr : d.py.eqv e.py = r) (h : Q r s) :
    wpAny (model prog w) A (eqBool a b) Q E s := by
  obtain ⟨as, q₁⟩ := ra.reads h1
  obtain ⟨bs, q₂⟩ := rb.reads h2
  exact eqBoolOverData prog w A E s a b _ _ as bs Q q₁ q₂ (D.canLay _ h1) (D.canLay _ h2) (by have := Nat.min_le_left d.py.depth e.py.depth; omega) (by rw [hr]; exact h)

theorem depthAll_LN : ∀ a : List Nat, PyData.depthAll (pyAll (a.map N1)) = 0
  | [] => rfl
  | a :: x => by show max 0 (PyData.depthAll (pyAll (x.map N1))) = 0; rw [depthAll_LN x]; rfl
theorem rep_ints {v : Value} {a : List Nat} {h : Heap} (r : Rep β hid h v (LN a)) : ∃ l us n, v = .ref l ∧ IsL h l us.toArray n ∧ IntsAre us (a.map fun n : Nat => (n : Int)) := by
  cases r with
  | @list l us n _ _ _ e q =>
    refine ⟨l, us, n, rfl, e, ?_⟩
    have e2 : a.map N1 = (a.map fun n : Nat => (n : Int)).map .int := by rw [List.map_map]; rfl
    rw [e2] at q
    exact q.ints
theorem rep_key {v : Value} {a : List Nat} {h : Heap} (r : Rep β hid h v (keyD a)) : ∃ x t w' n, v = .ref x ∧ IsT h x #[.int (a.length : Int) t, w'] n ∧ Rep β hid h w' (LN a.reverse) := by
  cases r with
  | @tup x vs n _ _ _ e q =>
    cases q with
    | cons r1 q =>
      cases q with
      | cons r2 q =>
        cases q
        cases r1
        exact ⟨x, _, _, n, rfl, e, r2⟩
theorem eqLN_wp {v u : Value} {a b : List Nat} {Q : Bool → Shared → Prop} (hu : A.units + 64 < cLine) (ra : Rep β hid s.heap v (LN a)) (rb : Rep β hid s.heap u (LN b)) (h : Q (decide (a = b)) s) : wpAny (model prog w) A (eqBool v u) Q E s :=
  eqB_wp (d := LN a) (e := LN b) hu (plain_LN a) (plain_LN b) (by show PyData.depthAll (pyAll (a.map N1)) + 1 ≤ 60; rw [depthAll_LN]; decide) ra rb (eqv_LN a b) h

theorem ask1_wp {v u : Value} {a b : List Nat} {Q : Bool → Shared → Prop} (hu : A.units + 64 < cLine) (ra : Rep β hid s.heap v (keyD a)) (rb : Rep β hid s.heap u (keyD b)) (h : Q (kLt a b) s) : wpAny (model prog w) A (keyLt' (tuples' true) v u) Q E s := by
  obtain ⟨x, t, p, n, rfl, hx, rx⟩ := rep_key ra
  obtain ⟨y, t', p', n', rfl, hy, ry⟩ := rep_key rb
  refine kat_lt hx rfl hy rfl ?_
  show KatLex prog w A true (decide (2 < 2)) Q [(.int (a.length : Int) t, .int (b.length : Int) t'), (p, p')] 0 s
  refine kat_cons (wpAny_eqBool_int (kat_go (fun h1 => ?_) (fun h1 => ?_)))
  · have h1' : a.length = b.length := by have := beq_iff_eq.mp h1; omega
    unfold kLt at h
    rw [if_pos h1'] at h
    refine kat_yes (kat_cons (eqLN_wp hu rx ry (kat_go (fun h2 => ?_) (fun h2 => ?_))))
    · have h2' : a.reverse = b.reverse := of_decide_eq_true h2
      have h3 : a = b := by rw [← List.reverse_reverse a, h2', List.reverse_reverse]
      rw [if_pos h3] at h
      exact kat_yes (kat_nil h)
    · have h2' : ¬ a.reverse = b.reverse := of_decide_eq_false h2
      have h3 : ¬ a = b := fun q => h2' (by rw [q])
      rw [if_neg h3] at h
      obtain ⟨l, us, m, rfl, hl, il⟩ := rep_ints rx
      obtain ⟨l', us', m', rfl, hl', il'⟩ := rep_ints ry
      refine kat_no (kat_one _ _ (lt_list_wp (by omega) hl hl' il il' ?_))
      rw [ltZ_nat]
      exact h
  · have h1' : ¬ a.length = b.length := fun q => by rw [q] at h1; simp at h1
    unfold kLt at h
    rw [if_neg h1'] at h
    refine kat_no (oneLt_int ?_)
    have e : decide ((a.length : Int) < (b.length : Int)) = Nat.blt a.length b.length := by rw [Bool.eq_iff_iff, decide_eq_true_eq, Nat.blt_eq]; omega
    rw [e]; exact h

theorem eqv_key (a b : List Nat) : (keyD a).py.eqv (keyD b).py = decide (a = b) := by
  show ((((a.length : Nat) : Int) == ((b.length : Nat) : Int)) && (PyData.eqvAll (pyAll (a.reverse.map N1)) (pyAll (b.reverse.map N1)) && true)) = _
  rw [eqv_LN, Bool.and_true, Bool.eq_iff_iff, Bool.and_eq_true, beq_iff_eq, decide_eq_true_eq, decide_eq_true_eq]
  constructor
  · rintro ⟨_, h⟩
    rw [← List.reverse_reverse a, h, List.reverse_reverse]
  · rintro rfl; exact ⟨rfl, rfl⟩
theorem ltInt_wp {a b : Nat} {t u : Tok} {Q : Value → Shared → Prop} (h : Q (.bool (Nat.blt a b)) s) : wpAny (model prog w) A (richCompare .Lt (.int (a : Int) t) (.int (b : Int) u)) Q E s := by
  refine (show wpAny (model prog w) A (compareOp .Lt (.int (a : Int) t) (.int (b : Int) u)) Q E s from wpAny_lt_int ?_)
  have e : decide ((a : Int) < (b : Int)) = Nat.blt a b := by rw [Bool.eq_iff_iff, decide_eq_true_eq, Nat.blt_eq]; omega
  rw [e]; exact h
theorem ltKey_wp {v u : Value} {a b : List Nat} {Q : Value → Shared → Prop} (hu : A.units + 128 < cLine) (ra : Rep β hid s.heap v (keyD a)) (rb : Rep β hid s.heap u (keyD b)) (h : Q (.bool (kLt a b)) s) : wpAny (model prog w) A (richCompare .Lt v u) Q E s := by
  obtain ⟨x, t, p, n, rfl, hx, rx⟩ := rep_key ra
  obtain ⟨y, t', p', n', rfl, hy, ry⟩ := rep_key rb
  refine wpAny_richCompare_same_room (T := "tuple") ⟨_, hx, rfl⟩ ⟨_, hy, rfl⟩ PySem.F.slot_tuple_lt
    (call_meets PySem.F.slot_tuple_lt ⟨_, hx, rfl⟩ PySem.F.entry_tuple_lt (PySem.F.args_tuple_lt_2 _ _)
      (tup_lt2 x y (.int (a.length : Int) t) p (.int (b.length : Int) t') p' n n' (((a.length : Nat) : Int) == ((b.length : Nat) : Int)) (decide (a.reverse = b.reverse)) (Nat.blt a.length b.length) (ltL a.reverse b.reverse))
      ⟨hx, hy, (fun prog w E Q q => wpAny_eqBool_int q), (fun prog w E Q q => eqLN_wp ?_ rx ry q), (fun prog w E Q q => ltInt_wp q), (fun prog w E Q hne q => ?_), (fun q => nomatch q), ?_⟩) (by omega)
  · simp only [Around.in1_units]; omega
  · obtain ⟨l, us, m, rfl, hl, il⟩ := rep_ints rx
    obtain ⟨l', us', m', rfl, hl', il'⟩ := rep_ints ry
    refine lt_list_wp (by simp only [Around.in1_units]; omega) hl hl' il il' ?_
    rw [ltZ_nat]
    exact q
  · have e : (if (((a.length : Nat) : Int) == ((b.length : Nat) : Int)) = true then (if decide (a.reverse = b.reverse) = true then false else ltL a.reverse b.reverse) else Nat.blt a.length b.length) = kLt a b := by
      unfold kLt
      by_cases h1 : a.length = b.length
      · rw [if_pos h1, if_pos (by rw [h1]; simp)]
        by_cases h2 : a = b
        · rw [if_pos h2, if_pos (by rw [h2]; simp)]
        · rw [if_neg h2, if_neg (fun q => h2 (by rw [← List.reverse_reverse a, of_decide_eq_true q, List.reverse_reverse]))]
      · rw [if_neg h1, if_neg (fun q => h1 (by have := beq_iff_eq.mp q; omega))]
    rw [e]
    exact h

theorem rep_key2 {v : Value} {x : List Nat × Nat} {h : Heap} (r : Rep β hid h v (keyD2 x)) : ∃ l t w' n, v = .ref l ∧ IsT h l #[w', .int (x.2 : Int) t] n ∧ Rep β hid h w' (keyD x.1) := by
  cases r with
  | @tup l vs n _ _ _ e q =>
    cases q with
    | cons r1 q =>
      cases q with
      | cons r2 q =>
        cases q
        cases r2
        exact ⟨l, _, _, n, rfl, e, r1⟩
theorem plain_key (a : List Nat) : (keyD a).plain = true := by
  show ((N1 a.length).plain && ((LN a.reverse).plain && true)) = true
  have : (LN a.reverse).plain = true := plain_LN a.reverse
  rw [this]; rfl
theorem ask2_wp {v u : Value} {x y : List Nat × Nat} {Q : Bool → Shared → Prop} (hu : A.units + 128 < cLine) (ra : Rep β hid s.heap v (keyD2 x)) (rb : Rep β hid s.heap u (keyD2 y)) (h : Q (kLt2 x y) s) : wpAny (model prog w) A (keyLt' (tuples' false) v u) Q E s := by
  obtain ⟨l, t, p, n, rfl, hx, rx⟩ := rep_key2 ra
  obtain ⟨l', t', p', n', rfl, hy, ry⟩ := rep_key2 rb
  refine kat_lt hx rfl hy rfl ?_
  show KatLex prog w A false (decide (2 < 2)) Q [(p, p'), (.int (x.2 : Int) t, .int (y.2 : Int) t')] 0 s
  unfold kLt2 at h
  refine kat_cons (eqB_wp (by omega) (plain_key _) (plain_key _) ?_ rx ry (eqv_key _ _) (kat_go (fun h1 => ?_) (fun h1 => ?_)))
  · show max 0 (max (PyData.depthAll (pyAll (x.1.reverse.map N1)) + 1) 0) + 1 ≤ 60
    rw [depthAll_LN]; decide
  · have h1' : x.1 = y.1 := of_decide_eq_true h1
    rw [if_pos h1'] at h
    refine kat_yes (kat_cons (wpAny_eqBool_int (kat_go (fun h2 => ?_) (fun h2 => ?_))))
    · have h2' : x.2 = y.2 := by have := beq_iff_eq.mp h2; omega
      have e : Nat.blt x.2 y.2 = false := by
        cases q : Nat.blt x.2 y.2 with
        | false => rfl
        | true => rw [Nat.blt_eq] at q; omega
      rw [e] at h
      exact kat_yes (kat_nil h)
    · exact kat_no (kat_one _ _ (ltInt_wp h))
  · have h1' : ¬ x.1 = y.1 := of_decide_eq_false h1
    rw [if_neg h1'] at h
    exact kat_no (kat_one _ _ (ltKey_wp hu rx ry h))
end
end
/-! ## sorted, by a key -/
/-- the questions of a sort answered by lt -/
noncomputable def kasRun {α : Type} (lt : Nat → Nat → Bool) : KasT α → α
  | .ret a => a
  | .ask i j k => kasRun lt (k (lt i j))
/-- all questions are about the first n -/
noncomputable def kasIn {α : Type} (n : Nat) : KasT α → Bool
  | .ret _ => true
  | .ask i j k => Nat.blt i n && Nat.blt j n && kasIn n (k true) && kasIn n (k false)
theorem kas_in2 : kasIn 2 (kas_sort 2) = true := by decide +kernel
theorem kas_in3 : kasIn 3 (kas_sort 3) = true := by decide +kernel

theorem kasRun_wp {α : Type} {cmp : Nat → Nat → (Bool → Shared → Prop) → Shared → Prop} {n : Nat} (lt : Nat → Nat → Bool) (I : Shared → Prop) {Q : α → Shared → Prop}
    (hc : ∀ i j C s, i < n → j < n → I s → (∀ s', I s' → C (lt i j) s') → cmp i j C s) : ∀ (t : KasT α) (s : Shared), kasIn n t = true → I s → (∀ s', I s' → Q (kasRun lt t) s') → t.kasWp cmp Q s
  | .ret a, s, _, hI, hQ => hQ s hI
  | .ask i j k, s, hin, hI, hQ => by
    have hin' : ((Nat.blt i n && Nat.blt j n) && kasIn n (k true)) = true ∧ kasIn n (k false) = true := Bool.and_eq_true_iff.mp hin
    have h1 := Bool.and_eq_true_iff.mp hin'.1
    have h2 := Bool.and_eq_true_iff.mp h1.1
    have hi : i < n := by simpa [Nat.blt_eq] using h2.1
    have hj : j < n := by simpa [Nat.blt_eq] using h2.2
    refine hc i j _ s hi hj hI fun s' hI' => ?_
    refine kasRun_wp lt I hc (k (lt i j)) s' ?_ hI' hQ
    cases lt i j with
    | true => exact h1.2
    | false => exact hin'.2

section
variable {prog : Program} {w : World} {A : Around} {E : Value → Shared → Prop} {s : Shared}
theorem skTail {a kS : Addr} {st : SortSt} {e1 ek : Nat} {keys : Array Value} {out : List Value} {P : PySem.Fin → Shared → Prop} (hk : s.heap.get? kS = some (seqObj "list" keys ek)) (ha : s.heap.get? a = some (seqObj "list" #[] e1)) (hne : a ≠ kS)
    (hout : (arrOf st).map (·.2) = List.toArray out) (hz : out.length < 64) (hkz : keys.size < 64) (hf : failedOf st = none)
    (h : ∀ h' c, (∀ b o, b ≠ kS → b ≠ a → s.heap.get? b = some o → h'.get? b = some o) → h'.get? a = some (seqObj "list" (List.toArray out) c) → P (.done (.ret .none)) { s with heap := h' }) : wpAny (model prog w) A (ksk_tail a false e1 (.ref kS) st) P E s := by
  have s1 := Heap.SameBut.update s.heap kS (Obj.mapSeq fun _ => (#[] : Array Value))
  have ha1 : (s.heap.update kS (Obj.mapSeq fun _ => (#[] : Array Value))).get? a = some (seqObj "list" #[] e1) := s1.extBut _ _ hne ha
  have s2 := Heap.SameBut.update (s.heap.update kS (Obj.mapSeq fun _ => (#[] : Array Value))) a (Obj.mapSeq fun _ => List.toArray out)
  obtain ⟨c2, hc2⟩ : ∃ c2, ((s.heap.update kS (Obj.mapSeq fun _ => (#[] : Array Value))).update a (Obj.mapSeq fun _ => List.toArray out)).get? a = some (seqObj "list" (List.toArray out) c2) := ⟨_, get?_update_seq ha1 fun _ => List.toArray out⟩
  unfold ksk_tail
  try dsimp only
  rw [hout]
  refine wpAny_bind (listUpdate_at hk rfl ?_ (by rw [sizeLine_eq]; omega) (Nat.zero_le _))
  refine wpAny_bind (wpAny_letGo ?_)
  refine wpAny_bind (seqEpoch_at ha1 rfl ?_)
  refine wpAny_bind (listUpdate_at ha1 rfl ?_ (Nat.zero_le _) (by rw [sizeLine_eq]; simp; omega))
  rw [hf]
  simp only [bne_self_eq_false, Bool.false_eq_true, if_false]
  exact wpAny_pure (h _ c2 (fun b o n1 n2 e => s2.extBut b o n2 (s1.extBut b o n1 e)) hc2)

/-- what a sort of n items by lt puts where -/
noncomputable def permN (n : Nat) (lt : Nat → Nat → Bool) : List Nat := if n < 2 then List.range n else (kasRun lt (kas_sort n)).toList
theorem kas_inN {n : Nat} (h : n = 2 ∨ n = 3) : kasIn n (kas_sort n) = true := by
  rcases h with rfl | rfl
  · exact kas_in2
  · exact kas_in3
theorem getD_range (vs : List Value) : (List.range vs.length).map (fun i => vs.getD i Value.none) = vs := by
  apply List.ext_getElem?
  intro i
  rw [List.getElem?_map]
  by_cases h : i < vs.length
  · rw [List.getElem?_range h]; simp [h]
  · rw [List.getElem?_eq_none (by simp; omega), List.getElem?_eq_none (by omega)]; rfl

theorem skEnd {a kS : Addr} {vs ks : List Value} {e1 ek : Nat} {b : Bool} {P : PySem.Fin → Shared → Prop} (lt : Nat → Nat → Bool) (hk : s.heap.get? kS = some (seqObj "list" (List.toArray ks) ek)) (ha : s.heap.get? a = some (seqObj "list" #[] e1)) (hne : a ≠ kS)
    (hl : ks.length = vs.length) (hn : vs.length ≤ 3) (hkind : 2 ≤ vs.length → ∀ (Q : SortKind → Shared → Prop), Q (tuples' b) s → wpAny (model prog w) A (keyKind' ks.toArray) Q (fun _ _ => False) s)
    (hask : ∀ i j (Q : Bool → Shared → Prop), i < vs.length → j < vs.length → Q (lt i j) s → wpAny (model prog w) A (keyLt' (tuples' b) (ks.getD i Value.none) (ks.getD j Value.none)) Q (fun _ _ => False) s)
    (h : ∀ h' c, (∀ b o, b ≠ kS → b ≠ a → s.heap.get? b = some o → h'.get? b = some o) → h'.get? a = some (seqObj "list" (List.toArray ((permN vs.length lt).map fun i => vs.getD i Value.none)) c) → P (.done (.ret .none)) { s with heap := h' }) :
    wpAny (model prog w) A (ksk_end a false vs.toArray e1 (.ref kS) (List.toArray ks)) P E s := by
  unfold ksk_end
  try dsimp only
  by_cases h2 : vs.length < 2
  · have hn2 : vs.toArray.size < 2 := by rw [List.size_toArray]; exact h2
    rw [if_pos hn2, if_pos hn2]
    simp only [Bool.false_eq_true, if_false]
    refine wpAny_bind (wpAny_pure (wpAny_bind (wpAny_pure ?_)))
    have ep : permN vs.length lt = List.range vs.length := by unfold permN; rw [if_pos h2]
    rw [ep, getD_range] at h
    refine skTail hk ha hne (out := vs) ?_ (by omega) (by simp; omega) rfl h
    show ((List.toArray ks).zip vs.toArray).map (·.2) = List.toArray vs
    apply Array.toList_inj.mp
    rw [Array.toList_map, ksk_zip]
    show (List.zipWith Prod.mk ks vs).map (·.2) = vs
    rw [← List.zip_eq_zipWith]
    exact List.map_snd_zip (by omega)
  · have hn2 : ¬ vs.toArray.size < 2 := by rw [List.size_toArray]; exact h2
    rw [if_neg hn2, if_neg hn2]
    simp only [Bool.false_eq_true, if_false]
    refine wpAny_bind (wpAny_mono (hkind (by omega) (fun κ s' => κ = tuples' b ∧ s' = s) ⟨rfl, rfl⟩) (fun κ s0 hκ => ?_) fun _ _ x => x.elim)
    obtain ⟨rfl, rfl⟩ := hκ
    have hkas : (kas_sort vs.length).kasWp (kas_ask prog w A (tuples' b) ks) (fun p s' => p = kasRun lt (kas_sort vs.length) ∧ s' = s0) s0 :=
      kasRun_wp (n := vs.length) lt (fun s' => s' = s0) (fun i j C s' hi hj e hC => by subst e; exact hask i j C hi hj (hC _ rfl)) (kas_sort vs.length) s0 (kas_inN (by omega)) rfl (fun s' e => ⟨rfl, e⟩)
    refine wpAny_bind (wpAny_mono (kat_run (vs := vs) (ks := ks) (Q := fun st' s' => ∃ p : Array Nat, p.size = vs.length ∧ arrOf st' = p.map (kas_item ((List.toArray ks).zip vs.toArray)) ∧ failedOf st' = none ∧ p = kasRun lt (kas_sort vs.length) ∧ s' = s0)
      hl (by omega) (by omega) (fun p' st' s' a1 a2 a3 a4 => ⟨p', a1, a2, a3, a4.1, a4.2⟩) hkas) ?_ fun _ _ x => x)
    rintro ⟨⟨⟩, st'⟩ s' ⟨p, hp, har, hf, hpe, rfl⟩
    have ep : permN vs.length lt = p.toList := by unfold permN; rw [if_neg h2, hpe]
    rw [ep] at h
    exact skTail hk ha hne (kat_snds hl har) (by rw [List.length_map, Array.length_toList, hp]; omega) (by simp; omega) hf h
end
section
variable {C : Cx} {k : Nat} {sc : Scope} {Γ : List (Str × D)} {V : Vs} {c : Int} {A : Around} {E : Value → Shared → Prop} {s : Shared} {hid : List Addr}

/-- where the making of the keys stands -/
structure SkSt (C : Cx) (hid : List Addr) (kS L : Addr) (e1 : Nat) (c : Int) (h : Heap) (ks : List Value) (kd : List D) : Prop where
  now : Now C (kS :: L :: hid) h c
  off : Off C kS
  offL : Off C L
  keys : ∃ e, h.get? kS = some (seqObj "list" (List.toArray ks) e)
  l : h.get? L = some (seqObj "list" #[] e1)
  rep : RepAll C.β (kS :: L :: hid) h ks kd

theorem sk_loop {fa kS L : Addr} {e1 : Nat} {name : Str} {kf : D → D} {body : Value → PUnit → Sem (ForInStep PUnit)} (R : Room A k) (hne : L ≠ kS) (hm : C.mg name = some (.ref fa))
    (hb : ∀ x (s : Shared) (Q' : ForInStep PUnit → Shared → Prop), wpAny (model C.prog C.w) A (call (.ref fa) [x]) (fun v s' => wpAny (model C.prog C.w) A (Builtin.List.listUpdate (.ref kS) (·.push v)) (fun _ s'' => Q' (.yield ⟨⟩) s'') E s') (fun _ _ => False) s → wpAny (model C.prog C.w) A (body x ⟨⟩) Q' E s) :
    ∀ (r : List Value) (rd : List D) (ks : List Value) (kd : List D) (s : Shared) (Q : PUnit → Shared → Prop), (∀ d ∈ rd, Fn C k name [d] c (kf d) c) → ks.length + r.length ≤ 3 → SkSt C hid kS L e1 c s.heap ks kd → RepAll C.β (kS :: L :: hid) s.heap r rd →
      (∀ h' tk ks', (∀ b o, b ≠ C.β → b ≠ kS → s.heap.get? b = some o → h'.get? b = some o) → SkSt C hid kS L e1 c h' ks' (kd ++ rd.map kf) → Q ⟨⟩ { s with heap := h', toks := tk }) →
      wpAny (model C.prog C.w) A (forIn r PUnit.unit body) Q E s
  | [], rd, ks, kd, s, Q, _, _, st, ra, hQ => by
    cases ra
    rw [List.forIn_nil]
    exact wpAny_pure (hQ s.heap s.toks ks (fun _ _ _ _ e => e) (by simpa using st))
  | x :: r, rd, ks, kd, s, Q, hf, hlen, st, ra, hQ => by
    cases ra with
    | @cons _ _ d rd rx rr =>
      rw [List.forIn_cons]
      refine wpAny_bind (hb x s _ ((hf d List.mem_cons_self).2 A (kS :: L :: hid) s fa [x] _ _ R st.now hm (.cons rx .nil) fun v h1 t1 x1 b1 r1 => ?_))
      have N1 := st.now.ext x1 b1
      obtain ⟨e, hk⟩ := st.keys
      have hk1 : h1.get? kS = some (seqObj "list" (List.toArray ks) e) := x1.keep _ _ st.off.β hk
      have hl1 : h1.get? L = some (seqObj "list" #[] e1) := x1.keep _ _ st.offL.β st.l
      have s2 := Heap.SameBut.update h1 kS (Obj.mapSeq (·.push v))
      have ea : (List.toArray ks).push v = List.toArray (ks ++ [v]) := by simp
      obtain ⟨c2, hc2⟩ : ∃ c2, (h1.update kS (Obj.mapSeq (·.push v))).get? kS = some (seqObj "list" (List.toArray (ks ++ [v])) c2) := ⟨_, by rw [← ea]; exact get?_update_seq hk1 (·.push v)⟩
      rw [List.length_cons] at hlen
      refine listUpdate_at hk1 rfl ?_ (by rw [List.size_toArray, sizeLine_eq]; omega) (by rw [Array.size_push, List.size_toArray, sizeLine_eq]; omega)
      have up : ∀ b o, b ∉ kS :: L :: hid → b ≠ C.β → DataObj o → h1.get? b = some o → (h1.update kS (Obj.mapSeq (·.push v))).get? b = some o := fun b o nh _ _ q => s2.extBut b o (fun w => nh (by rw [w]; exact List.mem_cons_self)) q
      have upR : ∀ {vs : List Value} {ds : List D}, RepAll C.β (kS :: L :: hid) h1 vs ds → RepAll C.β (kS :: L :: hid) (h1.update kS (Obj.mapSeq (·.push v))) vs ds := fun q => q.map fun b o nh nb dd w => ⟨up b o nh nb dd w, nh⟩
      have N2 : Now C (kS :: L :: hid) (h1.update kS (Obj.mapSeq (·.push v))) c := N1.but' (wr := [kS]) (fun b m => by rw [List.mem_singleton.mp m]; exact st.off) (but_same s2) fun a m => by
        by_cases q : a = kS
        · subst q; exact .inr ⟨_, hc2⟩
        · exact .inl (by simp [q])
      have st2 : SkSt C hid kS L e1 c (h1.update kS (Obj.mapSeq (·.push v))) (ks ++ [v]) (kd ++ [kf d]) := ⟨N2, st.off, st.offL, ⟨c2, hc2⟩, s2.extBut _ _ hne hl1, upR ((st.rep.ext x1).append (.one r1))⟩
      refine sk_loop R hne hm hb r rd (ks ++ [v]) (kd ++ [kf d]) _ Q (fun d m => hf d (List.mem_cons_of_mem _ m)) (by rw [List.length_append, List.length_singleton]; omega) st2 (upR (rr.ext x1)) fun h' tk ks' keep st' => ?_
      refine hQ h' tk ks' (fun b o n1 n2 q => keep b o n1 n2 (s2.extBut b o n2 (x1.keep b o n1 q))) ?_
      rw [List.map_cons]
      have e3 : kd ++ kf d :: rd.map kf = (kd ++ [kf d]) ++ rd.map kf := by simp
      rw [e3]; exact st'

theorem skRest {fa kS L : Addr} {e1 : Nat} {name : Str} {kf : D → D} {vs : List Value} {ds : List D} {P : PySem.Fin → Shared → Prop} {b : Bool} (lt : Nat → Nat → Bool) (R : Room A k) (hk1 : 1 ≤ k) (hne : L ≠ kS) (hm : C.mg name = some (.ref fa))
    (hf : ∀ d ∈ ds, Fn C k name [d] c (kf d) c) (hlen : vs.length ≤ 3) (st : SkSt C hid kS L e1 c s.heap [] []) (ra : RepAll C.β (kS :: L :: hid) s.heap vs ds)
    (hkind : 2 ≤ vs.length → ∀ (ks : List Value) (s' : Shared) (Q : SortKind → Shared → Prop), RepAll C.β (kS :: L :: hid) s'.heap ks (ds.map kf) → Q (tuples' b) s' → wpAny (model C.prog C.w) A (keyKind' ks.toArray) Q (fun _ _ => False) s')
    (hask : ∀ (ks : List Value) (s' : Shared) i j (Q : Bool → Shared → Prop), RepAll C.β (kS :: L :: hid) s'.heap ks (ds.map kf) → i < vs.length → j < vs.length → Q (lt i j) s' → wpAny (model C.prog C.w) A (keyLt' (tuples' b) (ks.getD i Value.none) (ks.getD j Value.none)) Q (fun _ _ => False) s')
    (h : ∀ h' tk e, (∀ b o, b ≠ C.β → b ≠ kS → b ≠ L → s.heap.get? b = some o → h'.get? b = some o) → Bx C h' c → h'.get? L = some (seqObj "list" (List.toArray ((permN vs.length lt).map fun i => vs.getD i Value.none)) e) → P (.done (.ret .none)) { s with heap := h', toks := tk }) :
    wpAny (model C.prog C.w) A (ksk_rest L (.ref fa) false vs.toArray e1 (.ref kS)) P E s := by
  unfold ksk_rest
  refine wpAny_bind (wpAny_rule ?_)
  first
    | rw [List.forIn_toArray]
    | (rw [← Array.forIn_toList]; simp only [List.toList_toArray])
    | rw [← Array.forIn_toList]
  refine wpAny_bind (sk_loop (kS := kS) (L := L) (hid := hid) (c := c) (kf := kf) R hne hm (fun x s Q' hx => ?_) vs ds [] [] s _ hf (by simpa using hlen) st ra fun h' tk ks' keep st' => ?_)
  · refine wpAny_bind (wpAny_attempt (wpAny_mono hx (fun v s' hv => ?_) fun _ _ hF => hF.elim))
    try dsimp only
    exact wpAny_bind (wpAny_mono hv (fun _ s'' q => wpAny_pure q) fun _ _ x => x)
  · obtain ⟨e, hk⟩ := st'.keys
    try dsimp only
    refine wpAny_bind (listItems_at hk rfl ?_)
    have hl : ks'.length = vs.length := by rw [st'.rep.length, ra.length]; simp
    have rep' := st'.rep
    rw [List.nil_append] at rep'
    refine skEnd (s := { s with heap := h', toks := tk }) lt hk st'.l hne hl hlen (fun h2 Q q => hkind h2 ks' _ Q rep' q) (fun i j Q hi hj q => hask ks' _ i j Q rep' hi hj q) fun h2 c2 keep2 hL => ?_
    refine h h2 tk c2 (fun b o n1 n2 n3 q => keep2 b o n2 n3 (keep b o n1 n2 q)) ?_ hL
    exact st'.now.box.keep fun o q => keep2 _ _ (fun w => st'.off.β w.symm) (fun w => st'.offL.β w.symm) q
end
section
variable {C : Cx} {k : Nat} {sc : Scope} {Γ : List (Str × D)} {V : Vs} {c : Int} {A : Around} {E : Value → Shared → Prop} {s : Shared} {hid : List Addr}

/-- what is asked of the keys -/
structure KeyOK (C : Cx) (kf : D → D) (b : Bool) (ds : List D) (lt : Nat → Nat → Bool) : Prop where
  kind : ∀ (A : Around) (hid : List Addr) (ks : List Value) (s : Shared) (Q : SortKind → Shared → Prop), 2 ≤ ds.length → Room A 1 → RepAll C.β hid s.heap ks (ds.map kf) → Q (tuples' b) s → wpAny (model C.prog C.w) A (keyKind' ks.toArray) Q (fun _ _ => False) s
  ask : ∀ (A : Around) (hid : List Addr) (ks : List Value) (s : Shared) i j (Q : Bool → Shared → Prop), Room A 1 → RepAll C.β hid s.heap ks (ds.map kf) → i < ds.length → j < ds.length → Q (lt i j) s → wpAny (model C.prog C.w) A (keyLt' (tuples' b) (ks.getD i Value.none) (ks.getD j Value.none)) Q (fun _ _ => False) s

theorem skTree {fa L : Addr} {n : Nat} {name : Str} {kf : D → D} {vs : List Value} {ds : List D} {P : PySem.Fin → Shared → Prop} {b : Bool} {lt : Nat → Nat → Bool} (R : Room A k) (hk1 : 1 ≤ k) (hm : C.mg name = some (.ref fa))
    (hf : ∀ d ∈ ds, Fn C k name [d] c (kf d) c) (hlen : vs.length ≤ 3) (N : Now C hid s.heap c) (hL : s.heap.get? L = some (seqObj "list" vs.toArray n)) (offL : Off C L) (nL : L ∉ hid) (ra : RepAll C.β (L :: hid) s.heap vs ds) (K : KeyOK C kf b ds lt)
    (h : ∀ h' tk e, (∀ b o, b ≠ C.β → b ≠ L → s.heap.get? b = some o → h'.get? b = some o) → Bx C h' c → h'.get? L = some (seqObj "list" (List.toArray ((permN vs.length lt).map fun i => vs.getD i Value.none)) e) → P (.done (.ret .none)) { s with heap := h', toks := tk }) :
    wpAny (model C.prog C.w) A (ksk_tree L (.ref fa) false) P E s := by
  have s1 := Heap.SameBut.update s.heap L (Obj.mapSeq fun _ => (#[] : Array Value))
  obtain ⟨e1, ho1⟩ : ∃ e1, (s.heap.update L (Obj.mapSeq fun _ => (#[] : Array Value))).get? L = some (seqObj "list" #[] e1) := ⟨_, get?_update_seq hL fun _ => #[]⟩
  generalize hH1 : s.heap.update L (Obj.mapSeq fun _ => (#[] : Array Value)) = H1 at s1 ho1
  have hsz1 : H1.objs.size = s.heap.objs.size := by rw [← hH1, Heap.size_update]
  unfold ksk_tree
  refine wpAny_bind (listItems_at hL rfl ?_)
  refine wpAny_bind (listUpdate_at hL rfl ?_ (by rw [List.size_toArray, sizeLine_eq]; omega) (Nat.zero_le _))
  rw [hH1]
  refine wpAny_bind (seqEpoch_at (s := { s with heap := H1 }) ho1 rfl ?_)
  refine wpAny_bind (wpAny_newTuple ?_ (by show vs.length ≤ _; rw [sizeLine_eq]; omega))
  refine wpAny_bind (wpAny_newList ?_ (Nat.zero_le _))
  refine wpAny_holding ?_
  have hkS : (H1.push (seqObj "tuple" vs.toArray 0)).objs.size = s.heap.objs.size + 1 := by rw [size_push', hsz1]
  generalize hH2 : (H1.push (seqObj "tuple" vs.toArray 0)).push (seqObj "list" #[] 0) = H2
  have keep12 : ∀ b o, H1.get? b = some o → H2.get? b = some o := fun b o q => by rw [← hH2]; exact Heap.get?_push_of_some _ (Heap.get?_push_of_some _ q)
  have hkS2 : H2.get? (s.heap.objs.size + 1) = some (seqObj "list" #[] 0) := by rw [← hH2, ← hkS]; exact Heap.get?_push_size _ rfl
  have nkS : s.heap.get? (s.heap.objs.size + 1) = none := by
    cases q : s.heap.get? (s.heap.objs.size + 1) with
    | none => rfl
    | some o => exact absurd (Heap.lt_size q) (Nat.not_lt.mpr (Nat.le_succ _))
  have offk : Off C (s.heap.objs.size + 1) := N.off nkS
  have hne : L ≠ s.heap.objs.size + 1 := fun q => by rw [q, nkS] at hL; cases hL
  have keep02 : ∀ b o, b ≠ L → s.heap.get? b = some o → H2.get? b = some o := fun b o n1 q => keep12 b o (s1.extBut b o n1 q)
  have nowH : Now C ((s.heap.objs.size + 1) :: L :: hid) H2 c := by
    refine ⟨N.ok, fun b o q => keep02 b o (fun w => by rw [w] at q; rw [offL.base] at q; cases q) (N.base b o q), N.box.keep fun o q => keep02 _ o (fun w => offL.β w.symm) q, ?_, N.αβ, fun m => ?_, fun a m => ?_⟩
    · obtain ⟨vs', m, q, i⟩ := N.first
      exact ⟨vs', m, keep02 _ _ (fun w => offL.α w.symm) q, i⟩
    · rcases List.mem_cons.mp m with q | m
      · exact offk.α q.symm
      · rcases List.mem_cons.mp m with q | m
        · exact offL.α q.symm
        · exact N.αh m
    · rcases List.mem_cons.mp m with q | m
      · exact ⟨_, q ▸ hkS2⟩
      · rcases List.mem_cons.mp m with q | m
        · exact ⟨_, q ▸ keep12 _ _ ho1⟩
        · obtain ⟨o, w⟩ := N.live a m
          exact ⟨o, keep02 a o (fun z => nL (z ▸ m)) w⟩
  have ra2 : RepAll C.β ((s.heap.objs.size + 1) :: L :: hid) H2 vs ds := ra.map fun b o nh nb _ q => ⟨keep02 b o (fun z => nh (by rw [z]; exact List.mem_cons_self)) q, fun m => by
    rcases List.mem_cons.mp m with z | m
    · rw [z, nkS] at q; cases q
    · exact nh m⟩
  have hrl : vs.length = ds.length := ra.length
  have st : SkSt C hid (s.heap.objs.size + 1) L e1 c H2 [] [] := ⟨nowH, offk, offL, ⟨0, hkS2⟩, keep12 _ _ ho1, .nil⟩
  have goal : wpAny (model C.prog C.w) A (ksk_rest L (.ref fa) false vs.toArray e1 (.ref (s.heap.objs.size + 1))) P E { s with heap := H2 } := by
    refine skRest (kS := s.heap.objs.size + 1) (L := L) (hid := hid) (c := c) (kf := kf) (name := name) (ds := ds) (b := b) (s := { s with heap := H2 }) lt R hk1 hne hm hf hlen st ra2 (fun h2 ks s' Q r q => K.kind A _ ks s' Q (by omega) (R.mono hk1) r q)
      (fun ks s' i j Q r hi hj q => K.ask A _ ks s' i j Q (R.mono hk1) r (by omega) (by omega) q) fun h' tk e keep bx hL' => ?_
    exact h h' tk e (fun b o n1 n2 q => keep b o n1 (fun z => by rw [z, nkS] at q; cases q) n2 (keep02 b o n2 q)) bx hL'
  rw [← hkS] at goal
  exact goal

/-- sorted(x, key=f) -/
theorem call_sortedKey {fa l : Addr} {n : Nat} {name : Str} {kf : D → D} {vs : List Value} {ds : List D} {Q : Value → Shared → Prop} {b : Bool} {lt : Nat → Nat → Bool} (R : Room A (k + 2)) (hk1 : 1 ≤ k) (hm : C.mg name = some (.ref fa))
    (hf : ∀ d ∈ ds, Fn C k name [d] c (kf d) c) (hlen : vs.length ≤ 3) (N : Now C hid s.heap c) (hl : s.heap.IsList l vs.toArray) (ra : RepAll C.β hid s.heap vs ds) (K : KeyOK C kf b ds lt)
    (h : ∀ L h' tk e, Ext C.β s.heap h' → Bx C h' c → s.heap.get? L = none → IsL h' L (List.toArray ((permN vs.length lt).map fun i => vs.getD i Value.none)) e → RepAll C.β (L :: hid) h' vs ds → Q (.ref L) { s with heap := h', toks := tk }) :
    wpAny (model C.prog C.w) A (call (.builtin "sorted") [.ref l] [(Str.ofString "key", .ref fa)]) Q E s := by
  refine call_function_entry_kw kind_sorted plain_sorted entry_sorted (ksk_s1 _ _) ?_
  unfold Builtin.«sorted»
  refine wpAny_bind (m := checkCount "sorted" 1 1 _) (wpAny_pure ?_)
  refine wpAny_bind (collect_list hl ?_ (by rw [sizeLine_eq]; omega))
  refine wpAny_bind (wpAny_newList ?_ (by rw [sizeLine_eq]; omega))
  have hsz : ((s.heap.push (seqObj "list" #[] 0)).update s.heap.objs.size (Obj.mapSeq (· ++ vs.toArray))).objs.size = s.heap.objs.size + 1 := by
    rw [Heap.size_update, size_push']
  have hoL : (((s.heap.push (seqObj "list" #[] 0)).update s.heap.objs.size (Obj.mapSeq (· ++ vs.toArray))).push (seqObj "list" vs.toArray 0)).get? (s.heap.objs.size + 1) = some (seqObj "list" vs.toArray 0) := by
    rw [← hsz]; exact Heap.get?_push_size _ rfl
  have keep : ∀ b o, s.heap.get? b = some o → (((s.heap.push (seqObj "list" #[] 0)).update s.heap.objs.size (Obj.mapSeq (· ++ vs.toArray))).push (seqObj "list" vs.toArray 0)).get? b = some o := fun b o q => by
    have hlt : b < s.heap.objs.size := Heap.lt_size q
    rw [Heap.get?_push_ne _ _ _ (by rw [hsz]; exact Nat.ne_of_lt (Nat.lt_succ_of_lt hlt)), Heap.get?_update_ne _ _ _ _ (Nat.ne_of_lt hlt), Heap.get?_push_ne _ _ _ (Nat.ne_of_lt hlt)]
    exact q
  show wpAny _ _ _ _ _ { s with heap := ((s.heap.push (seqObj "list" #[] 0)).update s.heap.objs.size (Obj.mapSeq (· ++ vs.toArray))).push (seqObj "list" vs.toArray 0) }
  rw [hsz]
  generalize hH : ((s.heap.push (seqObj "list" #[] 0)).update s.heap.objs.size (Obj.mapSeq (· ++ vs.toArray))).push (seqObj "list" vs.toArray 0) = H at hoL keep
  have fL : s.heap.get? (s.heap.objs.size + 1) = none := by
    cases q : s.heap.get? (s.heap.objs.size + 1) with
    | none => rfl
    | some o => exact absurd (Heap.lt_size q) (Nat.not_lt.mpr (Nat.le_succ _))
  have xk : Ext C.β s.heap H := .of_keeps keep
  have NH := N.ext xk (N.box.keep fun o e => keep _ _ e)
  refine wpAny_bind (wpAny_holding (wpAny_call_entry_kw slot_list_sort ⟨_, hoL, rfl⟩ entry_list_sort ?body (ksk_l1 _ _)))
  case body =>
    show wpAny (model C.prog C.w) A.in1.in1 (Builtin.«list.sort» ⟨[.ref (s.heap.objs.size + 1)], [(Str.ofString "key", .ref fa)]⟩) _ _ _
    rw [ksk_t1]
    have ra2 : RepAll C.β ((s.heap.objs.size + 1) :: hid) H vs ds := ra.map fun b o nh nb _ q => ⟨keep b o q, fun m => by
      rcases List.mem_cons.mp m with z | m
      · rw [z, fL] at q; cases q
      · exact nh m⟩
    refine skTree (s := { s with heap := H }) (n := 0) (kf := kf) (name := name) (ds := ds) (c := c) (hid := hid) (b := b) (lt := lt) R.in1.in1 hk1 hm hf hlen NH hoL (N.off fL) (N.fresh fL).1 ra2 K fun h' tk e keep' bx hL' => ?_
    refine ⟨_, rfl, wpAny_pure ⟨_, rfl, ?_⟩⟩
    refine h _ h' tk e ⟨fun b o n1 q => keep' b o n1 (fun z => by rw [z, fL] at q; cases q) (keep b o q)⟩ bx fL hL' ?_
    exact ra2.map fun b o nh nb _ q => ⟨keep' b o nb (fun z => nh (by rw [z]; exact List.mem_cons_self)) q, nh⟩
end
noncomputable def kfA : D → D
  | .list ds => .tup [.int ds.length, .list ds.reverse]
  | d => d
noncomputable def kfB : D → D
  | .tup [a, m] => .tup [kfA a, m]
  | d => d
theorem kfA_LN (a : List Nat) : kfA (LN a) = keyD a := by
  show D.tup [.int ((a.map N1).length : Nat), .list (a.map N1).reverse] = _
  rw [List.length_map, ← List.map_reverse]
theorem kfB_P2 (x : List Nat × Nat) : kfB (P2 x) = keyD2 x := by
  show D.tup [kfA (LN x.1), N1 x.2] = _
  rw [kfA_LN]
noncomputable def ltA (l : List (List Nat)) (i j : Nat) : Bool := kLt (l.getD i []) (l.getD j [])
noncomputable def ltB (l : List (List Nat × Nat)) (i j : Nat) : Bool := kLt2 (l.getD i ([], 0)) (l.getD j ([], 0))

section
variable {C : Cx} {k : Nat} {A : Around} {hid : List Addr} {h : Heap}
theorem Room.units128 (r : Room A k) : A.units + 128 < cLine := by
  have := r.units
  show A.units + 128 < 9900
  omega
theorem repAll_getD {vs : List Value} {ds : List D} (r : RepAll C.β hid h vs ds) {i : Nat} {d : D} (hd : ds[i]? = some d) : Rep C.β hid h (vs.getD i Value.none) d := by
  obtain ⟨v, hv, hr⟩ := r.get hd
  rw [List.getD_eq_getElem?_getD, hv]
  exact hr
theorem tups_of (f : D → Option D) : ∀ (ds : List D) (vs : List Value), (∀ d ∈ ds, ∃ e r, d = .tup (e :: r)) → RepAll C.β hid h vs ds →
    ∃ fs, KatTups h vs fs ∧ fs.length = ds.length ∧ ∀ v ∈ fs, ∃ d ∈ ds, ∃ e r, d = .tup (e :: r) ∧ Rep C.β hid h v e
  | [], vs, _, r => by cases r; exact ⟨[], .nil, rfl, fun v m => nomatch m⟩
  | d :: ds, vs, hd, r => by
    cases r with
    | cons r1 r =>
      obtain ⟨e, q, rfl⟩ := hd d List.mem_cons_self
      obtain ⟨fs, t, hl, hm⟩ := tups_of f ds _ (fun d m => hd d (List.mem_cons_of_mem _ m)) r
      cases r1 with
      | tup nh nb o ra =>
        cases ra with
        | @cons w ws _ _ r2 r3 =>
          refine ⟨w :: fs, .cons (f := w) o rfl rfl (by simp) t, by simp [hl], fun v m => ?_⟩
          rcases List.mem_cons.mp m with rfl | m
          · exact ⟨_, List.mem_cons_self, e, q, rfl, r2⟩
          · obtain ⟨d', m', x⟩ := hm v m
            exact ⟨d', List.mem_cons_of_mem _ m', x⟩
theorem keyOK_A (l : List (List Nat)) : KeyOK C kfA true (l.map LN) (ltA l) where
  kind := fun A hid ks s Q h2 R r hq => by
    obtain ⟨fs, t, hl, hm⟩ := tups_of (C := C) (fun _ => none) _ ks (fun d m => by
      obtain ⟨d0, m0, rfl⟩ := List.mem_map.mp m
      obtain ⟨a, ma, rfl⟩ := List.mem_map.mp m0
      exact ⟨_, _, kfA_LN a⟩) r
    rw [List.length_map] at hl
    refine kat_kind (T := .type "int") t (by omega) (fun v m => ?_) (by decide) hq
    obtain ⟨d, md, e, r, rfl, hr⟩ := hm v m
    obtain ⟨d0, m0, e0⟩ := List.mem_map.mp md
    obtain ⟨a, ma, rfl⟩ := List.mem_map.mp m0
    rw [kfA_LN] at e0
    cases e0
    cases hr
    exact Looks.of_pure rfl
  ask := fun A hid ks s i j Q R r hi hj hq => by
    rw [List.length_map] at hi hj
    have g : ∀ i, i < l.length → Rep C.β hid s.heap (ks.getD i Value.none) (keyD (l.getD i [])) := fun i hi => by
      refine repAll_getD r ?_
      rw [List.map_map, List.getElem?_map, List.getElem?_eq_getElem hi, List.getD_eq_getElem?_getD, List.getElem?_eq_getElem hi]
      exact congrArg some (kfA_LN _)
    exact ask1_wp (by have := R.units128; omega) (g i hi) (g j hj) hq
theorem keyOK_B (l : List (List Nat × Nat)) : KeyOK C kfB false (l.map P2) (ltB l) where
  kind := fun A hid ks s Q h2 R r hq => by
    obtain ⟨fs, t, hl, hm⟩ := tups_of (C := C) (fun _ => none) _ ks (fun d m => by
      obtain ⟨d0, m0, rfl⟩ := List.mem_map.mp m
      obtain ⟨a, ma, rfl⟩ := List.mem_map.mp m0
      exact ⟨_, _, kfB_P2 a⟩) r
    rw [List.length_map] at hl
    refine kat_kind (T := .type "tuple") t (by omega) (fun v m => ?_) (by decide) hq
    obtain ⟨d, md, e, r, rfl, hr⟩ := hm v m
    obtain ⟨d0, m0, e0⟩ := List.mem_map.mp md
    obtain ⟨a, ma, rfl⟩ := List.mem_map.mp m0
    rw [kfB_P2] at e0
    cases e0
    cases hr with
    | tup nh nb o ra => exact (Looks.ld o).andThen .now
  ask := fun A hid ks s i j Q R r hi hj hq => by
    rw [List.length_map] at hi hj
    have g : ∀ i, i < l.length → Rep C.β hid s.heap (ks.getD i Value.none) (keyD2 (l.getD i ([], 0))) := fun i hi => by
      refine repAll_getD r ?_
      rw [List.map_map, List.getElem?_map, List.getElem?_eq_getElem hi, List.getD_eq_getElem?_getD, List.getElem?_eq_getElem hi]
      exact congrArg some (kfB_P2 _)
    exact ask2_wp R.units128 (g i hi) (g j hj) hq
end
inductive KD where
  | leaf (l : List Nat)
  | node (i j : Nat) (t f : KD)
noncomputable def toD : KasT (Array Nat) → KD
  | .ret a => .leaf a.toList
  | .ask i j k => .node i j (toD (k true)) (toD (k false))
noncomputable def runD (lt : Nat → Nat → Bool) : KD → List Nat
  | .leaf l => l
  | .node i j t f => if lt i j = true then runD lt t else runD lt f
theorem runD_toD (lt : Nat → Nat → Bool) : ∀ t : KasT (Array Nat), (kasRun lt t).toList = runD lt (toD t)
  | .ret a => rfl
  | .ask i j k => by
    show (kasRun lt (k (lt i j))).toList = if lt i j = true then runD lt (toD (k true)) else runD lt (toD (k false))
    rw [runD_toD lt (k (lt i j))]
    cases lt i j <;> rfl
/-- how up to three are put in order -/
noncomputable def perm' (n : Nat) (lt : Nat → Nat → Bool) : List Nat := match n with
  | 0 => []
  | 1 => [0]
  | 2 => if lt 1 0 = true then [1, 0] else [0, 1]
  | _ => if lt 1 0 = true then (if lt 2 1 = true then [2, 1, 0] else if lt 1 2 = true then (if lt 2 0 = true then [1, 2, 0] else [1, 0, 2]) else [1, 2, 0])
    else (if lt 2 1 = true then (if lt 0 1 = true then (if lt 2 0 = true then [2, 0, 1] else [0, 2, 1]) else [2, 0, 1]) else [0, 1, 2])
theorem toD2 : toD (kas_sort 2) = .node 1 0 (.leaf [1, 0]) (.leaf [0, 1]) := by kernel_rfl
theorem toD3 : toD (kas_sort 3) = .node 1 0 (.node 2 1 (.leaf [2, 1, 0]) (.node 1 2 (.node 2 0 (.node 2 0 (.node 2 1 (.leaf [2, 1, 0]) (.leaf [1, 2, 0])) (.leaf [1, 0, 2])) (.leaf [1, 0, 2])) (.leaf [1, 2, 0])))
    (.node 2 1 (.node 0 1 (.node 2 1 (.node 2 0 (.leaf [2, 0, 1]) (.leaf [0, 2, 1])) (.leaf [0, 1, 2])) (.leaf [2, 0, 1])) (.leaf [0, 1, 2])) := by kernel_rfl
theorem perm_eq {n : Nat} (lt : Nat → Nat → Bool) (h : n ≤ 3) : permN n lt = perm' n lt := by
  unfold permN
  match n, h with
  | 0, _ => rfl
  | 1, _ => rfl
  | 2, _ =>
    rw [if_neg (by omega), runD_toD, toD2]; rfl
  | 3, _ =>
    rw [if_neg (by omega), runD_toD, toD3]
    simp only [runD, perm']
    cases lt 1 0 <;> cases lt 2 1 <;> cases lt 1 2 <;> cases lt 2 0 <;> cases lt 0 1 <;> rfl
theorem perm_lt {n : Nat} (lt : Nat → Nat → Bool) (h : n ≤ 3) : ∀ i ∈ perm' n lt, i < n := by
  match n, h with
  | 0, _ => intro i m; cases m
  | 1, _ => intro i m; simp [perm'] at m; omega
  | 2, _ => unfold perm'; intro i; cases lt 1 0 <;> simp <;> omega
  | 3, _ => unfold perm'; intro i; cases lt 1 0 <;> cases lt 2 1 <;> cases lt 1 2 <;> cases lt 2 0 <;> cases lt 0 1 <;> simp <;> omega

noncomputable def sortA (l : List (List Nat)) : List (List Nat) := (perm' l.length (ltA l)).map fun i => l.getD i []
noncomputable def sortB (l : List (List Nat × Nat)) : List (List Nat × Nat) := (perm' l.length (ltB l)).map fun i => l.getD i ([], 0)

section
variable {C : Cx} {k : Nat} {sc : Scope} {Γ : List (Str × D)} {c c₁ c₂ : Int} {hid : List Addr} {h : Heap}
theorem perm_rep {vs : List Value} {ds : List D} (r : RepAll C.β hid h vs ds) : ∀ is : List Nat, RepAll C.β hid h (is.map fun i => vs.getD i Value.none) (is.map fun i => ds.getD i D.none)
  | [] => .nil
  | i :: is => by
    refine .cons ?_ (perm_rep r is)
    show Rep C.β hid h (vs.getD i Value.none) (ds.getD i D.none)
    by_cases hi : i < ds.length
    · refine repAll_getD r ?_
      rw [List.getD_eq_getElem?_getD, List.getElem?_eq_getElem hi]; rfl
    · have h1 : ds.getD i D.none = D.none := by rw [List.getD_eq_getElem?_getD, List.getElem?_eq_none (by omega)]; rfl
      have h2 : vs.getD i Value.none = Value.none := by rw [List.getD_eq_getElem?_getD, List.getElem?_eq_none (by rw [r.length]; omega)]; rfl
      rw [h1, h2]; exact .none

theorem EvF.sortedKey {e : Expr} {name key : Str} {p q kp pos : Pos} {ds : List D} {kf : D → D} {b : Bool} {lt : Nat → Nat → Bool} {k' : Nat} (he : EvL C k sc Γ c [e] [.list ds] c₁) (hf : ∀ d ∈ ds, Fn C k' name [d] c₁ (kf d) c₁) (hlen : ds.length ≤ 3) (K : KeyOK C kf b ds lt)
    (hdef : ∃ i params body scope, defAt i = some (name, params, body, scope)) (hk1 : 1 ≤ k') (hk : k' + 2 ≤ k) (hx : sc.names.lookup ("sorted" : Str) = some .globalImplicit := by rfl) (hn : sc.names.lookup name = some .globalImplicit := by rfl) (hd : (name == ("__debug__" : Str)) = false := by decide) (hkey : key = Str.ofString "key" := by rfl) :
    EvF C k sc Γ c (.Call (.Name "sorted" p) [e] [⟨some key, .Name name q, kp⟩] pos) ((perm' ds.length lt).map fun i => ds.getD i D.none) c₁ := fun A env hid s Q E R O N S hQ => by
  obtain ⟨b1, b2, b3, b4⟩ := BName.sorted.ok
  obtain ⟨i, params, body, scope, hi⟩ := hdef
  obtain ⟨a, o, pm, code, doc, h1, h2, h3, h4⟩ := N.ok.defs i name params body scope hi
  subst hkey
  show wpAny _ _ (eval (.Name "sorted" p) env >>= fun f => callWith pos f [] (backTo pos (starEach [e] env)) (backToKw pos (keywordEach [⟨some (Str.ofString "key"), .Name name q, kp⟩] env))) _ _ _
  refine wpAny_bind (name_builtin O N hx b1 b2 ?_ b3)
  refine callWith_kw ?_ (he.1 env pos) (plain_any he.1 env pos)
  refine he.2 A env hid s _ E pos R O N S fun vs h' tk x bx r => ?_
  refine kws_cons ?_
  have N1' := N.ext x bx
  refine name_global O N1' hn h1 (kws_nil ?_) hd
  cases r with
  | cons r1 r =>
    cases r
    cases r1 with
    | @list l us n _ nh nb hl ra =>
      have hlu : us.length = ds.length := ra.length
      refine call_sortedKey (n := 0) (k := k') (c := c₁) (hid := hid) (ds := ds) (kf := kf) (name := name) (b := b) (lt := lt) (R.mono hk) hk1 h1 hf (by omega) N1' hl.isList ra K fun L h'' tk' e'' x' bx' fr hL ra' => ?_
      rw [hlu, perm_eq lt hlen] at hL
      exact hQ L _ e'' h'' tk' (x.trans x') bx' (N.fresh_back x bx fr) hL (perm_rep ra' _)

theorem EvF.sortedA {e : Expr} {key : Str} {p q kp pos : Pos} {l : List (List Nat)} (he : EvL C k sc Γ c [e] [.list (l.map LN)] c₁) (hl : ∀ a ∈ l, a.length ≤ 1000) (hlen : l.length ≤ 3) (hk : 4 ≤ k)
    (hx : sc.names.lookup ("sorted" : Str) = some .globalImplicit := by rfl) (hn : sc.names.lookup ("morder" : Str) = some .globalImplicit := by rfl) (hkey : key = Str.ofString "key" := by rfl) :
    EvF C k sc Γ c (.Call (.Name "sorted" p) [e] [⟨some key, .Name "morder" q, kp⟩] pos) ((sortA l).map LN) c₁ := by
  refine (EvF.sortedKey he (kf := kfA) (b := true) (lt := ltA l) (k' := 2) (fun d m => ?_) (by simpa using hlen) (keyOK_A l) ⟨24, _, _, _, by with_unfolding_all rfl⟩ (by omega) hk hx hn (by decide) hkey).cast ?_
  · obtain ⟨a, ma, rfl⟩ := List.mem_map.mp m
    rw [kfA_LN]
    exact f_morder (hl a ma)
  · unfold sortA
    rw [List.length_map, List.map_map]
    refine List.map_congr_left fun i mi => ?_
    have := perm_lt (ltA l) hlen i mi
    show (l.map LN).getD i D.none = LN (l.getD i [])
    rw [List.getD_eq_getElem?_getD, List.getElem?_map, List.getD_eq_getElem?_getD, List.getElem?_eq_getElem this]; rfl
theorem EvF.sortedB {e : Expr} {key : Str} {p q kp pos : Pos} {l : List (List Nat × Nat)} (he : EvL C k sc Γ c [e] [.list (l.map P2)] c₁) (hl : ∀ a ∈ l, a.1.length ≤ 1000) (hlen : l.length ≤ 3) (hk : 5 ≤ k)
    (hx : sc.names.lookup ("sorted" : Str) = some .globalImplicit := by rfl) (hn : sc.names.lookup ("factor_order" : Str) = some .globalImplicit := by rfl) (hkey : key = Str.ofString "key" := by rfl) :
    EvF C k sc Γ c (.Call (.Name "sorted" p) [e] [⟨some key, .Name "factor_order" q, kp⟩] pos) ((sortB l).map P2) c₁ := by
  refine (EvF.sortedKey he (kf := kfB) (b := false) (lt := ltB l) (k' := 3) (fun d m => ?_) (by simpa using hlen) (keyOK_B l) ⟨40, _, _, _, by with_unfolding_all rfl⟩ (by omega) hk hx hn (by decide) hkey).cast ?_
  · obtain ⟨a, ma, rfl⟩ := List.mem_map.mp m
    rw [kfB_P2]
    exact f_factor_order (hl a ma)
  · unfold sortB
    rw [List.length_map, List.map_map]
    refine List.map_congr_left fun i mi => ?_
    have := perm_lt (ltB l) hlen i mi
    show (l.map P2).getD i D.none = P2 (l.getD i ([], 0))
    rw [List.getD_eq_getElem?_getD, List.getElem?_map, List.getD_eq_getElem?_getD, List.getElem?_eq_getElem this]; rfl
end
noncomputable def eqdG (p deg : Nat) : Nat → List (List Nat) → List (List Nat) → Option (List (List Nat))
  | 0, _, _ => none
  | fu + 1, W, found =>
    if (Nat.ble W.length 20 && Nat.ble found.length 20) = true then
      match W with
      | [] => if (Nat.ble found.length 3 && found.all smB) = true then some (sortA found) else none
      | here :: r => if smB here = true then
          if here.length = deg + 1 then eqdG p deg fu r (found ++ [here])
          else (firstO p here deg).bind fun part => (mquoO p here part).bind fun quo => eqdG p deg fu (quo :: part :: r) found
        else none
    else none
noncomputable def eqdO (p : Nat) (f : List Nat) (deg : Nat) : Option (List (List Nat)) :=
  if smB f = true then (if 1 < f.length then (monicO p f).bind fun m => eqdG p deg 12 [m] [] else eqdG p deg 12 [] []) else none

section
variable {C : Cx} {k : Nat} {sc : Scope} {Γ : List (Str × D)} {V : Vs} {c : Int}
theorem f_equal {f : List Nat} {deg p : Nat} {r : List (List Nat)} (hp : isPr p) (h : eqdO p f deg = some r) : Fn C 11 "equal_degree" [LN f, N1 deg, .list [], N1 p] c (.list (r.map LN)) c := by
  have hpp := hp.pos
  refine Fn.intro (k := 10) (i := 35) (by with_unfolding_all rfl) ["f", "degree", "choices", "p"] (fun _ _ _ => all4 fun _ _ _ _ => rfl) rfl (nodup_of rfl) (names_of rfl) ?_
  unfold eqdO at h
  split at h
  · rename_i hf
    have hfl := smB_len hf
    have g0 := @f_mdegree C c f (by omega)
    have key : ∃ W, eqdG p deg 12 W [] = some r ∧ ((1 < f.length ∧ ∃ m, monicO p f = some m ∧ W = [m]) ∨ (¬ 1 < f.length ∧ W = [])) := by
      by_cases h1 : 1 < f.length
      · rw [if_pos h1] at h
        obtain ⟨m, hm, h⟩ := Option.bind_eq_some_iff.mp h
        exact ⟨_, h, .inl ⟨h1, m, hm, rfl⟩⟩
      · rw [if_neg h1] at h
        exact ⟨_, h, .inr ⟨h1, rfl⟩⟩
    obtain ⟨W, hW, hcase⟩ := key
    clear h
    refine Exs.tup (c₁ := c) (ms := [.o (W.reverse.map LN), .o (([] : List (List Nat)).map LN)]) (EvM.o (c₁ := c) (EvF.ite (c₁ := c) (b := decide (1 < f.length)) (EvT.cast (by walk_at "st") (deg_pos _)) (fun h1 => ?_) (fun h1 => ?_)) (EvM.o (c₁ := c) (EvF.list EvL.nil) EvM.nil)) Tg.two rfl rfl rfl (by simp) (by intro _ _; rfl) (by rintro ⟨⟩ rfl; first | exact .inr rfl | exact .inl rfl) ?_
    · have h1' : 1 < f.length := by simpa using h1
      rcases hcase with ⟨_, m, hm, rfl⟩ | ⟨h2, _⟩
      · have g1 := @f_mmonic C c _ _ p hp hm
        exact EvF.list (EvL.cons (c₁ := c) (d := LN m) (by walk_at "st") EvL.nil)
      · exact absurd h1' h2
    · have h1' : ¬ 1 < f.length := by simpa using h1
      rcases hcase with ⟨h2, _⟩ | ⟨_, rfl⟩
      · exact absurd h2 h1'
      · exact EvF.list EvL.nil
    refine Exs.whileEx (c₁ := c) ?_
    refine (fun (H : ∀ (fu : Nat) (W found : List (List Nat)), eqdG p deg fu W found = some r → ∃ V', Wh C 10 _ _ _ [("f", .v (LN f)), ("degree", .v (N1 deg)), ("choices", .v (.list [])), ("p", .v (N1 p)), ("waiting", .o (W.reverse.map LN)), ("found", .o (found.map LN))] c (.nx V' c) ∧ Exs C 10 _ V' c _ (.rt (.list (r.map LN)) c)) => H 12 W [] hW) ?_
    clear hW hcase g0
    intro fu
    induction fu with
    | zero => intro W found h; cases h
    | succ fu ih =>
      intro W found h
      rw [eqdG.eq_def] at h
      dsimp only at h
      split at h
      · rename_i hok
        rw [Bool.and_eq_true] at hok
        have l1 : W.length ≤ 20 := Nat.le_of_ble_eq_true hok.1
        have l2 : found.length ≤ 20 := Nat.le_of_ble_eq_true hok.2
        cases W with
        | nil =>
          dsimp only at h
          split at h
          · rename_i hok2
            rw [Bool.and_eq_true] at hok2
            cases h
            exact ⟨_, Wh.stop (EvT.cast (by walk_at "st") rfl), Exs.ret' (EvF.ev (EvF.sortedA (EvL.cons (c₁ := c) (Ev.nm rfl) EvL.nil) (fun a m => by have := smB_len (List.all_eq_true.mp hok2.2 a m); omega) (Nat.le_of_ble_eq_true hok2.1) (by omega)))⟩
          · cases h
        | cons here rr =>
          dsimp only at h
          split at h
          · rename_i hh
            have hhl := smB_len hh
            have l1' : rr.length ≤ 19 := by simp at l1; omega
            have g1 := @f_mdegree C c here (by omega)
            have etest : decide ((0 : Int) < (((here :: rr).reverse.map LN).length : Int)) = true := by
              rw [decide_eq_true_eq]; simp <;> omega
            have epop : (here :: rr).reverse.map LN = rr.reverse.map LN ++ [LN here] := by simp
            have edeg : (((here.length : Int) - 1) == (deg : Int)) = decide (here.length = deg + 1) := by
              rw [Bool.eq_iff_iff, beq_iff_eq, decide_eq_true_eq]; omega
            by_cases hd : here.length = deg + 1
            · rw [if_pos hd] at h
              obtain ⟨V', w, q⟩ := ih _ _ h
              refine ⟨V', Wh.turn (c₁ := c) (EvT.cast (by walk_at "st") etest) ?_ w, q⟩
              refine Exs.keep ["f", "degree", "choices", "p", "waiting", "found"] (V₁ := [("f", .v (LN f)), ("degree", .v (N1 deg)), ("choices", .v (.list [])), ("p", .v (N1 p)), ("waiting", .o (rr.reverse.map LN)), ("found", .o ((found ++ [here]).map LN)), ("here", .v (LN here))]) ?_
              rw [epop]
              refine Exs.pop (ds := rr.reverse.map LN) (d := LN here) rfl (by simp at l1 ⊢; omega) rfl rfl rfl ?_
              refine Exs.at [("f", .v (LN f)), ("degree", .v (N1 deg)), ("choices", .v (.list [])), ("p", .v (N1 p)), ("waiting", .o (rr.reverse.map LN)), ("found", .o (found.map LN)), ("here", .v (LN here))] ?_
              refine Exs.iteN (c₁ := c) (c₂ := c) (b := true) (EvT.cast (by walk_at "st") (by rw [edeg]; exact decide_eq_true hd)) (fun _ => ?_) (fun q => nomatch q) Exs.nil
              rw [List.map_append]
              exact Exs.append (c₁ := c) (d := LN here) (ds := found.map LN) (by walk_at "st") rfl (by simp; omega) (by intro _; rfl) rfl Exs.nil
            · rw [if_neg hd] at h
              obtain ⟨part, hpt, h⟩ := Option.bind_eq_some_iff.mp h
              obtain ⟨quo, hq, h⟩ := Option.bind_eq_some_iff.mp h
              have g2 := @f_first C c _ _ deg p hp hpt
              have g3 := @f_mquotient C c _ _ _ p hp hq
              obtain ⟨V', w, q⟩ := ih _ _ h
              refine ⟨V', Wh.turn (c₁ := c) (EvT.cast (by walk_at "st") etest) ?_ w, q⟩
              refine Exs.keep ["f", "degree", "choices", "p", "waiting", "found"] (V₁ := [("f", .v (LN f)), ("degree", .v (N1 deg)), ("choices", .v (.list [])), ("p", .v (N1 p)), ("waiting", .o ((quo :: part :: rr).reverse.map LN)), ("found", .o (found.map LN)), ("here", .v (LN here)), ("part", .v (LN part))]) ?_
              have e2 : (quo :: part :: rr).reverse.map LN = (rr.reverse.map LN ++ [LN part]) ++ [LN quo] := by simp
              rw [epop, e2]
              refine Exs.pop (ds := rr.reverse.map LN) (d := LN here) rfl (by simp at l1 ⊢; omega) rfl rfl rfl ?_
              refine Exs.at [("f", .v (LN f)), ("degree", .v (N1 deg)), ("choices", .v (.list [])), ("p", .v (N1 p)), ("waiting", .o (rr.reverse.map LN)), ("found", .o (found.map LN)), ("here", .v (LN here))] ?_
              refine Exs.iteN (c₁ := c) (c₂ := c) (b := false) (EvT.cast (by walk_at "st") (by rw [edeg]; exact decide_eq_false hd)) (fun q => nomatch q) (fun _ => ?_) Exs.nil
              refine Exs.set (c₁ := c) (by walk_at "st") rfl (by intro _ _; rfl) ?_
              refine Exs.at [("f", .v (LN f)), ("degree", .v (N1 deg)), ("choices", .v (.list [])), ("p", .v (N1 p)), ("waiting", .o (rr.reverse.map LN)), ("found", .o (found.map LN)), ("here", .v (LN here)), ("part", .v (LN part))] ?_
              refine Exs.append (c₁ := c) (d := LN part) (ds := rr.reverse.map LN) (by walk_at "st") rfl (by simp at l1 ⊢; omega) (by intro _; rfl) rfl ?_
              exact Exs.append (c₁ := c) (d := LN quo) (ds := rr.reverse.map LN ++ [LN part]) (by walk_at "st") rfl (by simp at l1 ⊢; omega) (by intro _; rfl) rfl Exs.nil
          · cases h
      · cases h
  · cases h
end
noncomputable def ppG (p : Nat) : List (List Nat × Nat) → List (List Nat) → Option (List (List Nat))
  | [], found => if (Nat.ble found.length 3 && found.all smB) = true then some (sortA found) else none
  | x :: r, found => (eqdO p x.1 x.2).bind fun e => if (Nat.ble e.length 20 && Nat.ble found.length 100) = true then ppG p r (found ++ e) else none
noncomputable def ppO (p : Nat) (f : List Nat) : Option (List (List Nat)) := (ddO p f).bind fun l => ppG p l []
noncomputable def mfG (p : Nat) : List (List Nat × Nat) → List (List Nat × Nat) → Option (List (List Nat × Nat))
  | [], found => if (Nat.ble found.length 3 && found.all fun x => smB x.1) = true then some (sortB found) else none
  | x :: r, found => (ppO p x.1).bind fun e => if (Nat.ble e.length 20 && Nat.ble found.length 100) = true then mfG p r (found ++ e.map fun one => (one, x.2)) else none
noncomputable def mfO (p : Nat) (f : List Nat) : Option (List (List Nat × Nat)) := if smB f = true then (monicO p f).bind fun m => (sqfO p m).bind fun l => mfG p l [] else none

section
variable {C : Cx} {k : Nat} {sc : Scope} {Γ : List (Str × D)} {V : Vs} {c : Int}
theorem f_pparts {f : List Nat} {p : Nat} {r : List (List Nat)} (hp : isPr p) (h : ppO p f = some r) : Fn C 12 "prime_parts" [LN f, .list [], N1 p] c (.list (r.map LN)) c := by
  have hpp := hp.pos
  refine Fn.intro (k := 11) (i := 38) (by with_unfolding_all rfl) ["f", "choices", "p"] (fun _ _ _ => all3 fun _ _ _ => rfl) rfl (nodup_of rfl) (names_of rfl) ?_
  unfold ppO at h
  obtain ⟨l, hl, h⟩ := Option.bind_eq_some_iff.mp h
  have g0 := @f_dd C c _ _ _ hp hl
  refine Exs.setO (c₁ := c) (ds := ([] : List (List Nat)).map LN) (EvF.list EvL.nil) rfl (by intro _ _; rfl) ?_
  refine Exs.forEx (c₁ := c) (c₂ := c) (items := l.map P2) (EvIt.list (Ev.call (EvL.cons (c₁ := c) (Ev.nm rfl) (EvL.cons (c₁ := c) (Ev.nm rfl) EvL.nil)) g0)) Tg.two rfl rfl (by intro _ _; rfl) ?_
  refine (fun (H : ∀ (l : List (List Nat × Nat)) (found : List (List Nat)), ppG p l found = some r → ∃ V', Fo C 11 _ _ _ _ (l.map P2) [("f", .v (LN f)), ("choices", .v (.list [])), ("p", .v (N1 p)), ("found", .o (found.map LN))] c (.nx V' c) ∧ Exs C 11 _ V' c _ (.rt (.list (r.map LN)) c)) => H l [] h) ?_
  clear h hl g0
  intro l
  induction l with
  | nil =>
    intro found h
    rw [ppG] at h
    split at h
    · rename_i hok2
      rw [Bool.and_eq_true] at hok2
      cases h
      exact ⟨_, .nil, Exs.ret' (EvF.ev (EvF.sortedA (EvL.cons (c₁ := c) (Ev.nm rfl) EvL.nil) (fun a m => by have := smB_len (List.all_eq_true.mp hok2.2 a m); omega) (Nat.le_of_ble_eq_true hok2.1) (by omega)))⟩
    · cases h
  | cons x l ih =>
    intro found h
    rw [ppG] at h
    obtain ⟨e, he, h⟩ := Option.bind_eq_some_iff.mp h
    split at h
    · rename_i hok
      rw [Bool.and_eq_true] at hok
      have l1 : e.length ≤ 20 := Nat.le_of_ble_eq_true hok.1
      have l2 : found.length ≤ 100 := Nat.le_of_ble_eq_true hok.2
      have g1 := @f_equal C c _ _ _ _ hp he
      obtain ⟨V', w, q⟩ := ih _ h
      refine ⟨V', .turn rfl ?_ w, q⟩
      refine Exs.keep ["f", "choices", "p", "found"] (V₁ := [("f", .v (LN f)), ("choices", .v (.list [])), ("p", .v (N1 p)), ("found", .o ((found ++ e).map LN)), ("product", .v (LN x.1)), ("degree", .v (N1 x.2))]) ?_
      refine Exs.at [("f", .v (LN f)), ("choices", .v (.list [])), ("p", .v (N1 p)), ("found", .o (found.map LN)), ("product", .v (LN x.1)), ("degree", .v (N1 x.2))] ?_
      rw [List.map_append]
      exact Exs.extend (c₁ := c) (ds := found.map LN) (es := e.map LN) (by walk_at "st") rfl (by simp; omega) (by intro _; rfl) rfl Exs.nil
    · cases h

theorem f_mfactor {f : List Nat} {p : Nat} {r : List (List Nat × Nat)} (hp : isPr p) (h : mfO p f = some r) : Fn C 13 "mfactor" [LN f, N1 p] c (.tup [N1 (lastN f), .list (r.map P2)]) c := by
  have hpp := hp.pos
  refine Fn.intro (k := 12) (i := 39) (by with_unfolding_all rfl) ["f", "p"] (fun _ _ _ => all2 fun _ _ => rfl) rfl (nodup_of rfl) (names_of rfl) ?_
  unfold mfO at h
  split at h
  · rename_i hf
    have hfl := smB_len hf
    obtain ⟨m, hm, h⟩ := Option.bind_eq_some_iff.mp h
    obtain ⟨l, hl, h⟩ := Option.bind_eq_some_iff.mp h
    have g0 := @f_mmonic C c _ _ _ hp hm
    have g1 := @f_sqf C c _ _ _ hp hl
    have g9 := @f_mlead C c f (by omega)
    refine Exs.setO (c₁ := c) (ds := ([] : List (List Nat × Nat)).map P2) (EvF.list EvL.nil) rfl (by intro _ _; rfl) ?_
    refine Exs.forEx (c₁ := c) (c₂ := c) (items := l.map P2) (EvIt.list (Ev.call (EvL.cons (c₁ := c) (Ev.call (EvL.cons (c₁ := c) (Ev.nm rfl) (EvL.cons (c₁ := c) (Ev.nm rfl) EvL.nil)) g0) (EvL.cons (c₁ := c) (Ev.nm rfl) EvL.nil)) g1)) Tg.two rfl rfl (by intro _ _; rfl) ?_
    refine (fun (H : ∀ (l : List (List Nat × Nat)) (found : List (List Nat × Nat)), mfG p l found = some r → ∃ V', Fo C 12 _ _ _ _ (l.map P2) [("f", .v (LN f)), ("p", .v (N1 p)), ("found", .o (found.map P2))] c (.nx V' c) ∧ Exs C 12 _ V' c _ (.rt (.tup [N1 (lastN f), .list (r.map P2)]) c)) => H l [] h) ?_
    clear h hl g0 g1
    intro l
    induction l with
    | nil =>
      intro found h
      rw [mfG] at h
      split at h
      · rename_i hok2
        rw [Bool.and_eq_true] at hok2
        cases h
        exact ⟨_, .nil, Exs.ret' (Ev.tup (EvL.cons (c₁ := c) (by walk_at "st") (EvL.cons (c₁ := c) (EvF.ev (EvF.sortedB (EvL.cons (c₁ := c) (Ev.nm rfl) EvL.nil) (fun a m => by have := smB_len (List.all_eq_true.mp hok2.2 a m); omega) (Nat.le_of_ble_eq_true hok2.1) (by omega))) EvL.nil)))⟩
      · cases h
    | cons x l ih =>
      intro found h
      rw [mfG] at h
      obtain ⟨e, he, h⟩ := Option.bind_eq_some_iff.mp h
      split at h
      · rename_i hok
        rw [Bool.and_eq_true] at hok
        have l1 : e.length ≤ 20 := Nat.le_of_ble_eq_true hok.1
        have l2 : found.length ≤ 100 := Nat.le_of_ble_eq_true hok.2
        have g2 := @f_pparts C c _ _ _ hp he
        obtain ⟨V', w, q⟩ := ih _ h
        refine ⟨V', .turn rfl ?_ w, q⟩
        refine Exs.keep ["f", "p", "found"] (V₁ := [("f", .v (LN f)), ("p", .v (N1 p)), ("found", .o ((found ++ e.map fun one => (one, x.2)).map P2)), ("part", .v (LN x.1)), ("many", .v (N1 x.2))]) ?_
        refine Exs.at [("f", .v (LN f)), ("p", .v (N1 p)), ("found", .o (found.map P2)), ("part", .v (LN x.1)), ("many", .v (N1 x.2))] ?_
        rw [List.map_append]
        refine Exs.extend (c₁ := c) (ds := found.map P2) (es := (e.map fun one => (one, x.2)).map P2) (EvF.ev (EvF.cast (EvF.compMap (c₁ := c) (items := e.map LN) (fun d => .tup [d, N1 x.2]) (EvIt.list (Ev.call (EvL.cons (c₁ := c) (Ev.nm rfl) (EvL.cons (c₁ := c) (EvF.ev (EvF.list EvL.nil)) (EvL.cons (c₁ := c) (Ev.nm rfl) EvL.nil))) g2)) (.name _ _) (by with_unfolding_all rfl) (fun _ _ => rfl) (fun d md => ?_) (by simp; omega) (by intro _ _; rfl)) ?_)) rfl (by simp; omega) (by intro _; rfl) rfl Exs.nil
        · exact Ev.tup (EvL.cons (c₁ := c) (Ev.nm rfl) (EvL.cons (c₁ := c) (Ev.nm rfl) EvL.nil))
        · rw [List.map_map, List.map_map]; rfl
      · cases h
  · cases h
end
/-! ## A comprehension stored in a name at once -/
section
variable {C : Cx} {env : Env} {own : List Addr} {P : Addr → Obj → Prop} {hid : List Addr} {V : Vs} {c c₁ c₂ : Int} {om : Str → Addr} {h h' : Heap} {sc : Scope} {A : Around} {k : Nat} {L : Addr}

theorem Holds.letgo {m : Str → Option Value} {x : Str} {v : Value} (q : Holds env h x v) (hn : h.Ns L m) (hl : env.kindOf x = some .local → env.locals ≠ L) (x' : Heap.SameBut L h h') : Holds env h' x v := by
  refine ⟨q.plain, ?_⟩
  rcases q.is with ⟨a1, mm, a2, a3⟩ | ⟨a1, cc, a2, a3⟩
  · obtain ⟨o, es, ep, ho, hdd, rest⟩ := a2
    exact .inl ⟨a1, mm, ⟨o, es, ep, x'.extBut _ _ (hl a1) ho, hdd, rest⟩, a3⟩
  · have hne : cc ≠ L := fun w => ns_not_cell hn (w ▸ a3)
    obtain ⟨o, ho, hdd⟩ := a3
    exact .inr ⟨a1, cc, a2, o, x'.extBut _ _ hne ho, hdd⟩
theorem St.letgo {m : Str → Option Value} (st : St C env own P hid V c om h) (hn : h.Ns L m) (lo : L ∉ own) (lP : ∀ o, ¬ P L o) (off : Off C L) (lh : L ∉ hid) (x : Heap.SameBut L h h') : St C env own P hid V c om h' := by
  have nd : ∀ b o, DataObj o → h.get? b = some o → b ≠ L := fun b o dd e q => by
    subst q; obtain ⟨o', es, ep, ho, hd, _⟩ := hn; rw [ho] at e; cases e; exact dd.2.1 _ _ hd
  have keep : ∀ b o, b ≠ L → h.get? b = some o → h'.get? b = some o := fun b o n e => x.extBut b o n e
  have nw : ∀ a ∈ ow om V, a ≠ L := fun a q => by
    obtain ⟨y, ds, my, rfl⟩ := mem_ow.mp q
    obtain ⟨_, vs, n, hl, _⟩ := st.owns y ds my
    exact nd _ _ (dataL _ _) hl
  have loc : ∀ y, okName y → env.kindOf y = some .local → env.locals ≠ L := fun y ok hk q => by
    rcases st.can y ⟨ok, .inl hk⟩ with ⟨_, a2, _⟩ | ⟨a1, _⟩
    · exact lo (q ▸ a2)
    · rw [hk] at a1; cases a1
  have up : ∀ {H : List Addr} {v : List Value} {d : List D}, RepAll C.β H h v d → RepAll C.β H h' v d := fun r => r.map fun b o nh _ dd e => ⟨keep b o (nd b o dd e) e, nh⟩
  refine ⟨st.now.but' (wr := [L]) (fun b q => by rw [List.mem_singleton.mp q]; exact off) (but_same x) (fun a q => .inl ?_), fun b o e => keep b o (fun q => lP o (q ▸ e)) (st.old b o e), st.pβ,
    (fun b q => let ⟨a1, a2, o, e, n⟩ := st.fo b q; ⟨a1, a2, o, keep b o (fun w => lo (w ▸ q)) e, n⟩), st.fw, st.disj, st.inj, fun y d q => ?_, fun y ds q => ?_, fun y q => ?_⟩
  · rw [List.mem_singleton]
    rcases List.mem_append.mp q with q | q
    · exact nw a q
    · exact fun w => lh (w ▸ q)
  · obtain ⟨v, a, r⟩ := st.sees y d q
    exact ⟨v, a.letgo hn (loc y a.plain) x, r.map fun b o nh _ dd e => ⟨keep b o (nd b o dd e) e, nh⟩⟩
  · obtain ⟨a, vs, n, hl, r⟩ := st.owns y ds q
    exact ⟨a.letgo hn (loc y a.plain) x, vs, n, keep _ _ (nw _ (mem_ow.mpr ⟨y, ds, q, rfl⟩)) hl, up r⟩
  · rcases st.can y q with ⟨a1, a2, mm, a3⟩ | ⟨a1, cc, a2, a3, w, a4⟩
    · obtain ⟨o, es, ep, ho, hdd, rest⟩ := a3
      exact .inl ⟨a1, a2, mm, o, es, ep, keep _ _ (fun z => lo (z ▸ a2)) ho, hdd, rest⟩
    · have hne : cc ≠ L := fun z => ns_not_cell hn (z ▸ a4)
      obtain ⟨o, ho, hdd⟩ := a4
      exact .inr ⟨a1, cc, a2, a3, w, o, keep _ _ hne ho, hdd⟩

theorem Ex.setC {Γc : List (Str × D)} {names : List (Str × Pos)} {scope : Scope} {elt t iter : Expr} {ifs : List Expr} {y : Str} {py pos spos : Pos} {items outs : List D} (hit : EvIt C k sc (plainΓ V) c iter t items c₁) (tg : Tg t names) (K : CompOK scope sc names (plainΓ V) Γc)
    (hbody : CR (TurnE C k (relabelS scope sc) names Γc t ifs elt) items c₁ outs c₂) (hz : outs.length ≤ 1000000) (hl : isLoc sc y)
    (hsw : ∀ env : Env, env.scope = sc → swapsWith (.ListComp elt [⟨t, iter, ifs, 0⟩] scope pos) (some (.Name y py)) spos.line env = pure true) (hs : ∀ env x, foldedSetIterable iter env x = pure x) :
    Ex C k sc V c (.Assign [.Name y py] (.ListComp elt [⟨t, iter, ifs, 0⟩] scope pos) spos) (.nx (putV [y] [.o outs] V) c₂) := fun A env own P hid om s Q E R O st hQ => by
  rw [exec_Assign_Name_used _ _ _ _ (hsw env O.is)]
  refine wpAny_bind (wpAny_standAt (wpAny_bind ?_))
  show wpAny _ A (do let _ ← comprehension (.ListComp elt [⟨t, iter, ifs, 0⟩] scope pos) scope env _ (newList []) false (eval iter env) (some (assign (.Name y py) env))) _ _ s
  have core := comp_core (env := env) (pos := pos) (E := E) (RR := fun acc L => compPost (model C.prog C.w) A E (some (assign (.Name y py) env)) (fun _ s' => Q .next s') acc L) hit tg K hbody hz R O st.now st.sees fun D L vs n h' tk x bx nw fD fL hL r loc => ?_
  · refine wpAny_bind (wpAny_mono (wpAny_comprehension_free (use := some (assign (.Name y py) env)) (Q := fun _ s' => Q .next s') rfl (hs env) core.1 K.kind (fun x m e => by rw [K.wf x m, e]) core.2) (fun _ s' hq => wpAny_pure (wpAny_pure hq)) fun _ _ e => e)
  · show wpAny _ A (assign (.Name y py) env (.ref D)) _ _ _
    refine wpAny_assign_Name (st.store1 (as := [D]) O hl x bx (.o hL r .nil) (fun b q => by rw [List.mem_singleton.mp q]; exact ⟨fD, _, hL⟩) (by simp) fun om' h'' tk' S st' => ?_)
    have lo : L ∉ own := fun q => by obtain ⟨_, _, o, e, _⟩ := st.fo L q; rw [fL] at e; cases e
    obtain ⟨m, hn⟩ := loc
    have hn' : h''.Ns L m := by
      obtain ⟨o, es, ep, ho, hdd, rest⟩ := hn
      exact ⟨o, es, ep, S.but _ _ lo ho, hdd, rest⟩
    refine ⟨m, hn', fun h3 hs3 => hQ om' h3 tk' (st'.letgo hn' lo (fun o q => ?_) (st.now.off fL) (fun q => ?_) hs3)⟩
    · have := st.old L o q; rw [fL] at this; cases this
    · obtain ⟨o, e⟩ := st.now.live L (List.mem_append_right _ q); rw [fL] at e; cases e
end

section
variable {C : Cx} {k : Nat} {sc : Scope} {V : Vs} {c c₁ c₂ : Int} {rest : List Stmt} {o : Out}
/-- y = [elt for t in iter if tests] -/
theorem Exs.setC {xs : List (Str × Pos)} {scope : Scope} {elt t iter : Expr} {ifs : List Expr} {y : Str} {py pos spos : Pos} {items outs : List D} (hit : EvIt C k sc (plainΓ V) c iter t items c₁) (tg : Tg t xs) (K : compB scope sc xs (namesΓ (plainΓ V)) = true)
    (hbody : CR (TurnE C k (relabelS scope sc) xs (capΓ scope (plainΓ V)) t ifs elt) items c₁ outs c₂) (hz : outs.length ≤ 1000000) (hl : isLocB sc y = true)
    (hsw : ∀ env : Env, env.scope = sc → swapsWith (.ListComp elt [⟨t, iter, ifs, 0⟩] scope pos) (some (.Name y py)) spos.line env = pure true) (hs : ∀ env x, foldedSetIterable iter env x = pure x)
    (r : Exs C k sc (putV [y] [.o outs] V) c₂ rest o) :
    Exs C k sc V c (.Assign [.Name y py] (.ListComp elt [⟨t, iter, ifs, 0⟩] scope pos) spos :: rest) o := Exs.cons (Ex.setC hit tg (CompOK.of K) hbody hz (isLoc_of hl) hsw hs) r
/-- y = [elt for t in iter] -/
theorem Exs.setMap {xs : List (Str × Pos)} {scope : Scope} {elt t iter : Expr} {y : Str} {py pos spos : Pos} {items : List D} (g : D → D) (hit : EvIt C k sc (plainΓ V) c iter t items c₁) (tg : Tg t xs) (K : compB scope sc xs (namesΓ (plainΓ V)) = true)
    (hlen : ∀ d ∈ items, (tgD t d).length = xs.length) (he : ∀ d ∈ items, Ev C k (relabelS scope sc) (tgΓ xs t d ++ capΓ scope (plainΓ V)) c₁ elt (g d) c₁) (hz : items.length ≤ 1000000) (hl : isLocB sc y = true)
    (hsw : ∀ env : Env, env.scope = sc → swapsWith (.ListComp elt [⟨t, iter, [], 0⟩] scope pos) (some (.Name y py)) spos.line env = pure true) (hs : ∀ env x, foldedSetIterable iter env x = pure x)
    (r : Exs C k sc (putV [y] [.o (items.map g)] V) c₁ rest o) :
    Exs C k sc V c (.Assign [.Name y py] (.ListComp elt [⟨t, iter, [], 0⟩] scope pos) spos :: rest) o :=
  Exs.setC hit tg K (CR.map g items fun d m => ⟨hlen d m, true, c₁, EvIfs.nil, fun _ => ⟨g d, rfl, he d m⟩, fun q => nomatch q⟩) (by simpa using hz) hl hsw hs r
/-- y = [elt for t in iter if test] -/
theorem Exs.setFil {xs : List (Str × Pos)} {scope : Scope} {elt t iter test : Expr} {y : Str} {py pos spos : Pos} {items : List D} (q : D → Bool) (g : D → D) (hit : EvIt C k sc (plainΓ V) c iter t items c₁) (tg : Tg t xs) (K : compB scope sc xs (namesΓ (plainΓ V)) = true)
    (hlen : ∀ d ∈ items, (tgD t d).length = xs.length) (ht : ∀ d ∈ items, EvT C k (relabelS scope sc) (tgΓ xs t d ++ capΓ scope (plainΓ V)) c₁ test (q d) c₁) (he : ∀ d ∈ items, q d = true → Ev C k (relabelS scope sc) (tgΓ xs t d ++ capΓ scope (plainΓ V)) c₁ elt (g d) c₁) (hz : items.length ≤ 1000000) (hl : isLocB sc y = true)
    (hsw : ∀ env : Env, env.scope = sc → swapsWith (.ListComp elt [⟨t, iter, [test], 0⟩] scope pos) (some (.Name y py)) spos.line env = pure true) (hs : ∀ env x, foldedSetIterable iter env x = pure x)
    (r : Exs C k sc (putV [y] [.o ((items.filter q).map g)] V) c₁ rest o) :
    Exs C k sc V c (.Assign [.Name y py] (.ListComp elt [⟨t, iter, [test], 0⟩] scope pos) spos :: rest) o :=
  Exs.setC hit tg K (CR.fil q g items fun d m => ⟨hlen d m, q d, c₁, EvIfs.one (ht d m), fun e => ⟨g d, by rw [e]; rfl, he d m e⟩, fun e => ⟨by rw [e]; rfl, rfl⟩⟩)
    (by rw [List.length_map]; exact Nat.le_trans (List.length_filter_le _ _) hz) hl hsw hs r
end
/-! ## sum, any, all, sorted of whole numbers, list of a range -/
noncomputable def insZ (a : Int) : List Int → List Int
  | [] => [a]
  | b :: r => if a ≤ b then a :: b :: r else b :: insZ a r
noncomputable def sortZ : List Int → List Int
  | [] => []
  | a :: r => insZ a (sortZ r)
theorem insZ_perm (a : Int) : ∀ l, (insZ a l).Perm (a :: l)
  | [] => .refl _
  | b :: r => by
    unfold insZ
    split
    · exact .refl _
    · exact ((insZ_perm a r).cons b).trans (.swap _ _ _)
theorem sortZ_perm : ∀ l, (sortZ l).Perm l
  | [] => .refl _
  | a :: r => (insZ_perm a _).trans ((sortZ_perm r).cons a)
theorem insZ_sorted (a : Int) : ∀ l : List Int, l.Pairwise (· ≤ ·) → (insZ a l).Pairwise (· ≤ ·)
  | [], _ => by simp [insZ]
  | b :: r, h => by
    have hp := List.pairwise_cons.mp h
    unfold insZ
    split
    · rename_i hab
      refine List.pairwise_cons.mpr ⟨fun x m => ?_, h⟩
      rcases List.mem_cons.mp m with rfl | m
      · exact hab
      · exact Int.le_trans hab (hp.1 x m)
    · rename_i hab
      refine List.pairwise_cons.mpr ⟨fun x m => ?_, insZ_sorted a r hp.2⟩
      rcases List.mem_cons.mp ((insZ_perm a r).mem_iff.mp m) with rfl | m
      · omega
      · exact hp.1 x m
theorem sortZ_sorted : ∀ l : List Int, (sortZ l).Pairwise (· ≤ ·)
  | [] => .nil
  | a :: r => insZ_sorted a _ (sortZ_sorted r)
theorem sortZ_uniq {l l' : List Int} (hp : l'.Perm l) (hs : l'.Pairwise (· ≤ ·)) : l' = sortZ l :=
  List.Perm.eq_of_pairwise (le := (· ≤ ·)) (fun a b _ _ h1 h2 => Int.le_antisymm h1 h2) hs (sortZ_sorted l) (hp.trans (sortZ_perm l).symm)

section
variable {C : Cx} {k : Nat} {sc : Scope} {Γ : List (Str × D)} {c c₁ c₂ : Int} {hid : List Addr} {h : Heap}
theorem repAll_of_ints {β : Addr} : ∀ {vs : List Value} {ns : List Int}, IntsAre vs ns → RepAll β hid h vs (ns.map .int)
  | _, _, .nil => .nil
  | _, _, .cons n t r => .cons (.int _ _) (repAll_of_ints r)
theorem rep_bools {β : Addr} {i : Nat} {v : Value} : ∀ {vs : List Value} {bs : List Bool}, RepAll β hid h vs (bs.map .bool) → vs[i]? = some v → v = .bool (bs.getD i false) := by
  intro vs
  induction vs generalizing i with
  | nil => intro bs r hv; simp at hv
  | cons w vs ih =>
    intro bs r hv
    cases bs with
    | nil => cases r
    | cons b bs =>
      cases r with
      | cons r1 r2 =>
        cases i with
        | zero => cases r1; simpa using hv.symm
        | succ i => simpa using ih r2 (by simpa using hv)
theorem rep_ints_at {β : Addr} {i : Nat} {v : Value} : ∀ {vs : List Value} {ns : List Int}, RepAll β hid h vs (ns.map .int) → vs[i]? = some v → ∃ t, v = .int (ns.getD i 0) t := by
  intro vs
  induction vs generalizing i with
  | nil => intro bs r hv; simp at hv
  | cons w vs ih =>
    intro bs r hv
    cases bs with
    | nil => cases r
    | cons b bs =>
      cases r with
      | cons r1 r2 =>
        cases i with
        | zero =>
          cases r1 with
          | int _ t => exact ⟨t, by simpa using hv.symm⟩
        | succ i => simpa using ih r2 (by simpa using hv)
theorem range_getD_all (bs : List Bool) : (List.range bs.length).all (fun i => bs.getD i false) = bs.all id := by
  rw [Bool.eq_iff_iff, List.all_eq_true, List.all_eq_true]
  constructor
  · intro q x m
    obtain ⟨i, hi, rfl⟩ := List.getElem_of_mem m
    have := q i (List.mem_range.mpr hi)
    rwa [List.getD_eq_getElem?_getD, List.getElem?_eq_getElem hi] at this
  · intro q i m
    have hi := List.mem_range.mp m
    show bs.getD i false = true
    rw [List.getD_eq_getElem?_getD, List.getElem?_eq_getElem hi]
    exact q _ (List.getElem_mem hi)
theorem range_getD_any (bs : List Bool) : (List.range bs.length).any (fun i => bs.getD i false) = bs.any id := by
  rw [Bool.eq_iff_iff, List.any_eq_true, List.any_eq_true]
  constructor
  · rintro ⟨i, m, q⟩
    have hi := List.mem_range.mp m
    rw [List.getD_eq_getElem?_getD, List.getElem?_eq_getElem hi] at q
    exact ⟨_, List.getElem_mem hi, q⟩
  · rintro ⟨x, m, q⟩
    obtain ⟨i, hi, rfl⟩ := List.getElem_of_mem m
    refine ⟨i, List.mem_range.mpr hi, ?_⟩
    rw [List.getD_eq_getElem?_getD, List.getElem?_eq_getElem hi]
    exact q
theorem preSum_take (ns : List Int) : ∀ n, preSum (fun i => ns.getD i 0) n = (ns.take n).sum
  | 0 => by simp [preSum]
  | n + 1 => by
    rw [preSum, preSum_take ns n]
    by_cases hn : n < ns.length
    · rw [List.take_succ, List.getElem?_eq_getElem hn, List.sum_append, List.getD_eq_getElem?_getD, List.getElem?_eq_getElem hn]; simp
    · rw [List.take_of_length_le (by omega), List.take_of_length_le (by omega), List.getD_eq_getElem?_getD, List.getElem?_eq_none (by omega)]; simp

theorem CallV.all {bs : List Bool} : CallV C (.builtin "all") [.list (bs.map .bool)] (.bool (bs.all id)) := fun A hid c s vs Q E R N r hQ => by
  cases r with | cons a r => cases r; cases a with
  | @list l us n _ nh nb e q =>
    refine call_all_walk (wpAny_pyIter_list e.isList ?_)
    have hn : us.toArray.size = bs.length := by rw [List.size_toArray, q.length, List.length_map]
    refine ⟨_, _, _, _, _, _, fun i => bs.getD i false, rfl, Walks.list (A := A.in1) R.handled s.heap.objs.size l (Nat.ne_of_lt (Heap.lt_size e)) us.toArray, ⟨⟨_, Heap.get?_push_size _ rfl, rfl, rfl⟩, IsL.isList (Heap.get?_push_of_some _ e)⟩, fun i v s' Q' E' hP hq => ?_, fun h' tk hk => ?_⟩
    · have := rep_bools q (by simpa using hP)
      subst this
      exact wpAny_truthy_bool hq
    · rw [hn, range_getD_all]
      have x : ∀ b o, s.heap.get? b = some o → h'.get? b = some o := fun b o z => hk b o (fun m => by rw [List.mem_singleton.mp m, get_size] at z; cases z) (Heap.get?_push_of_some _ z)
      exact hQ _ h' tk (.of_keeps x) (fun o z => x _ o z) (.bool _)
theorem CallV.any {bs : List Bool} : CallV C (.builtin "any") [.list (bs.map .bool)] (.bool (bs.any id)) := fun A hid c s vs Q E R N r hQ => by
  cases r with | cons a r => cases r; cases a with
  | @list l us n _ nh nb e q =>
    refine call_any_walk (wpAny_pyIter_list e.isList ?_)
    have hn : us.toArray.size = bs.length := by rw [List.size_toArray, q.length, List.length_map]
    refine ⟨_, _, _, _, _, _, fun i => bs.getD i false, rfl, Walks.list (A := A.in1) R.handled s.heap.objs.size l (Nat.ne_of_lt (Heap.lt_size e)) us.toArray, ⟨⟨_, Heap.get?_push_size _ rfl, rfl, rfl⟩, IsL.isList (Heap.get?_push_of_some _ e)⟩, fun i v s' Q' E' hP hq => ?_, fun h' tk hk => ?_⟩
    · have := rep_bools q (by simpa using hP)
      subst this
      exact wpAny_truthy_bool hq
    · rw [hn, range_getD_any]
      have x : ∀ b o, s.heap.get? b = some o → h'.get? b = some o := fun b o z => hk b o (fun m => by rw [List.mem_singleton.mp m, get_size] at z; cases z) (Heap.get?_push_of_some _ z)
      exact hQ _ h' tk (.of_keeps x) (fun o z => x _ o z) (.bool _)
theorem CallV.sum {ns : List Int} : CallV C (.builtin "sum") [.list (ns.map .int)] (.int ns.sum) := fun A hid c s vs Q E R N r hQ => by
  cases r with | cons a r => cases r; cases a with
  | @list l us n _ nh nb e q =>
    refine call_sum_walkG (wpAny_pyIter_list e.isList ?_)
    have hn : us.toArray.size = ns.length := by rw [List.size_toArray, q.length, List.length_map]
    refine ⟨_, _, _, _, _, _, fun i => ns.getD i 0, rfl, Walks.list (A := A.in1) R.handled s.heap.objs.size l (Nat.ne_of_lt (Heap.lt_size e)) us.toArray, ⟨⟨_, Heap.get?_push_size _ rfl, rfl, rfl⟩, IsL.isList (Heap.get?_push_of_some _ e)⟩, fun b m => ?_, fun i v hP => rep_ints_at q (by simpa using hP), fun h' tk t' hk => ?_⟩
    · rw [size_push']
      rcases List.mem_cons.mp m with rfl | m
      · exact Nat.lt_succ_self _
      · rw [List.mem_singleton.mp m]; exact Nat.lt_succ_of_lt (Heap.lt_size e)
    · rw [hn, preSum_take, List.take_of_length_le (Nat.le_refl _)]
      have x : ∀ b o, s.heap.get? b = some o → h'.get? b = some o := fun b o z => hk b o (fun m => by rw [List.mem_singleton.mp m, get_size] at z; cases z) (Heap.get?_push_of_some _ z)
      exact hQ _ h' tk (.of_keeps x) (fun o z => x _ o z) (.int _ _)
theorem CallF.sorted {ns : List Int} (hz : ns.length < 64) : CallF C (.builtin "sorted") [.list (ns.map .int)] ((sortZ ns).map .int) := fun A hid c s vs Q E R N r hQ => by
  cases r with | cons a r => cases r; cases a with
  | @list l us n _ nh nb e q =>
    refine sorted_ints e.isList q.ints (by have := q.length; simp at this; omega) fun out ns' h1 h2 h3 => ?_
    rw [sortZ_uniq h2 h3] at h1
    have k : ∀ b o, s.heap.get? b = some o → (sortedAll s.heap us out).get? b = some o := fun b o z => sortedAll_old z
    obtain ⟨ep, hl⟩ := sortedAll_at s.heap us out
    refine hQ _ out.toList ep _ s.toks (.of_keeps k) (fun o z => k _ o z) ?_ hl (repAll_of_ints h1)
    cases z : s.heap.get? (s.heap.objs.size + 1) with
    | none => rfl
    | some o => exact absurd (Heap.lt_size z) (Nat.not_lt.mpr (Nat.le_succ _))
theorem items_rng {a st : Int} : ∀ (n : Nat) (vs : List Value), vs.length = n → (∀ (j : Nat) v, vs[j]? = some v → ∃ t, v = .int (a + j * st) t) → RepAll C.β hid h vs (rngInts a st n) := by
  intro n
  induction n with
  | zero => intro vs hl _; rw [List.length_eq_zero_iff.mp hl]; exact .nil
  | succ n ih =>
    intro vs hl hv
    have e : vs = vs.take n ++ [vs.getD n Value.none] := by
      have h1 : vs.drop n = [vs.getD n Value.none] := by
        rw [List.drop_eq_getElem_cons (by omega), List.drop_of_length_le (by omega), List.getD_eq_getElem?_getD, List.getElem?_eq_getElem (by omega)]; rfl
      rw [← h1, List.take_append_drop]
    have e2 : rngInts a st (n + 1) = rngInts a st n ++ [.int (a + (n : Int) * st)] := by
      unfold rngInts; rw [List.range_succ, List.map_append]; rfl
    rw [e, e2]
    refine (ih (vs.take n) (by simp; omega) fun j v q => hv j v ?_).append (.one ?_)
    · rw [List.getElem?_take] at q
      split at q
      · exact q
      · cases q
    · obtain ⟨t, q⟩ := hv n (vs.getD n Value.none) (by rw [List.getD_eq_getElem?_getD, List.getElem?_eq_getElem (by omega)]; rfl)
      rw [q]
      exact .int _ _
theorem CallF.listRng {a b st : Int} {n : Nat} (hs : Builtin.Range.small a b st = true) (hn : Builtin.Range.rangeSize a b st = n) (hz : n ≤ 1000000) : CallF C (.type "list") [.rng a b st] (rngInts a st n) := fun A hid c s vs Q E R N r hQ => by
  cases r with | cons a r => cases r; cases a with
  | rng nh nb e =>
    refine call_list_range R.handled e hs hn (Nat.le_trans hz (by decide)) fun h' tk acc' c' hk hl hi => ?_
    exact hQ _ acc'.toList c' h' tk (.of_keeps hk) (fun o z => hk _ o z) (get_size _) hl (items_rng n _ (by have := hi.1; simpa using this) fun j v q => hi.2 j v (by simpa using q))
end
/-! ## A comprehension of two clauses, the second along a range -/
section
variable {C : Cx} {k : Nat} {sc : Scope} {c c' : Int} {hid own : List Addr} {ce : Env} {D : Addr} {names : List (Str × Pos)} {Γc : List (Str × Mine.D)}
theorem emit_app {Γt : List (Str × Mine.D)} {elt : Expr} {d : Mine.D} {c₁ : Int} (O : EnvOK ce sc) (offD : Off C D) (h : Ev C k sc Γt c elt d c₁) :
    Emit C k sc ce hid own D names Γc (do let x ← eval elt ce; let _ ← call (.builtin "list.append") [.ref D, x]; pure ()) Γt c [d] c₁ := fun A s Q E out₀ R cs S hz hQ => by
  refine wpAny_bind (h A ce (D :: hid) s _ E R O cs.now S fun v h' tk x bx r => wpAny_bind ?_)
  have cs' := cs.ext x bx
  obtain ⟨vs, n, hl, ra⟩ := cs'.acc
  have hlen := ra.length
  refine wpAny_list_append_plain (s := { s with heap := h', toks := tk }) ⟨n, hl⟩ (fun h'' hpl hs => wpAny_pure ?_) (by rw [sizeLine_eq]; simp only [List.size_toArray, hlen]; simp only [List.length_singleton] at hz; omega)
  obtain ⟨n', hl'⟩ := hpl
  have bt : But [D] h' h'' := but_same hs
  have nofr : ∀ b ∈ [D], ∀ o, h'.get? b = some o → (∀ es n, o.data ≠ .dict es n) ∧ ∀ v, o.data ≠ .cell v := fun b m o e => by
    rw [List.mem_singleton.mp m, hl] at e; cases e
    exact ⟨(fun _ _ q => nomatch q), (fun _ q => nomatch q)⟩
  have up : ∀ b o, b ∉ D :: hid → b ≠ C.β → DataObj o → h'.get? b = some o → h''.get? b = some o := fun b o nh _ _ e => hs.extBut b o (fun q => nh (by rw [q]; exact List.mem_cons_self)) e
  refine hQ h'' tk (fun b o n1 n2 n3 e => hs.extBut b o n2 (x.keep b o n3 e)) ⟨?_, ?_, cs'.cap.but bt nofr up, fun y hy => ⟨(cs'.can y hy).1, (cs'.can y hy).2.but bt nofr⟩, cs'.Dβ, ns_but cs'.loc bt nofr⟩
  · refine cs'.now.but' (fun b m => by rw [List.mem_singleton.mp m]; exact offD) bt fun a m => ?_
    by_cases q : a = D
    · subst q; exact .inr ⟨_, hl'⟩
    · exact .inl (by simp [q])
  · refine ⟨vs ++ [v], n', ?_, ?_⟩
    · have e1 : (vs ++ [v]).toArray = vs.toArray.push v := by simp
      show IsL h'' D (vs ++ [v]).toArray n'
      exact e1 ▸ hl'
    · exact (ra.append (.one r)).map fun b o nh nbb dd e => ⟨up b o nh nbb dd e, nh⟩
end
section
variable {prog : Program} {w : World} {A : Around} {R : Result → Shared → Prop} {s : Shared}
/-- the start of the second clause -/
theorem start_second {elt : Expr} {g₀ g₁ : Comprehension} {scope : Scope} {pos : Pos} {it acc : Value} {env : Env} (hg : g₁.is_async = 0)
    (h0 : codeAny (model prog w) A (.compLoop (.ListComp elt [g₀, g₁] scope pos) 1 it acc env) R s)
    (h : wpAny (model prog w) A (pyIter it) (fun it' s' => codeAny (model prog w) A (.compLoop (.ListComp elt [g₀, g₁] scope pos) 1 it' acc env) R s') (notedBy (model prog w) A env fun x s' => R (.error x) s') s) :
    codeAny (model prog w) A (.compStart (.ListComp elt [g₀, g₁] scope pos) 1 it acc env) R s := by
  refine codeAny_of_tree ?_
  show wpAny _ _ ((compStart (.ListComp elt [g₀, g₁] scope pos) 1 it acc env).onRaise (fun x => do noteFrame x env; standAt theWindowsPlace)) _ _ s
  refine wpAny_notedAt ?_
  have e : compStart (.ListComp elt [g₀, g₁] scope pos) 1 it acc env = (do
      if (← ask).params.followText "comprehension-iter-twice" then return ← again (.compLoop (.ListComp elt [g₀, g₁] scope pos) 1 it acc env)
      rule "comprehension.iter-twice"
      standAt g₁.iter.pos
      again (.compLoop (.ListComp elt [g₀, g₁] scope pos) 1 (← pyIter it) acc env)) := by
    obtain ⟨t, i, f, a⟩ := g₁
    subst hg
    rfl
  rw [e]
  refine wpAny_bind (wpAny_askSetting (wpAny_ite ?_))
  split
  · first
      | exact wpAny_bind (wpAny_pure (wpAny_pure (And.intro rfl h0)))
      | exact wpAny_pure (And.intro rfl h0)
  · refine wpAny_bind (wpAny_rule ?_)
    refine wpAny_bind (wpAny_standAt ?_)
    exact wpAny_bind (wpAny_mono h (fun it' s' h' => wpAny_pure (And.intro rfl h')) fun _ _ x => x)
end

section
variable {C : Cx} {k : Nat} {sc : Scope} {c c' : Int} {hid own : List Addr} {ce : Env} {D : Addr} {names : List (Str × Pos)} {Γc : List (Str × Mine.D)}

theorem tgΓ_fst {n1 : List (Str × Pos)} {t : Expr} {d : Mine.D} {p : Str × Mine.D} (m : p ∈ tgΓ n1 t d) : p.1 ∈ n1.map (·.1) := by
  unfold tgΓ at m
  exact (List.of_mem_zip (a := p.1) (b := p.2) m).1

/-- what the first clause's turn does: the second clause, along a range -/
theorem emit_rng {n1 n2 : List (Str × Pos)} {t t2 iter iter2 elt : Expr} {scope : Scope} {pos : Pos} {ifs : List Expr} {a b st : Int} {n : Nat} {g : Mine.D → Mine.D} {d : Mine.D} (O : EnvOK ce sc) (offD : Off C D) (oo : ∀ b ∈ own, Off C b)
    (hnames : names = n1 ++ n2) (hne : n2 ≠ []) (hnd : (names.map (·.1)).Nodup) (hcapA : ∀ p ∈ Γc, p.1 ∉ names.map (·.1)) (hloc : ∀ x ∈ names, sc.names.lookup x.1 = some .local) (tg : Tg t2 n2)
    (hi : Ev C k sc (tgΓ n1 t d ++ Γc) c iter2 (.rng a b st) c) (hs : Builtin.Range.small a b st = true) (hn : Builtin.Range.rangeSize a b st = n) (hf : ∀ env x, foldedSetIterable iter2 env x = pure x)
    (hel : ∀ x ∈ rngInts a st n, (tgD t2 x).length = n2.length ∧ Ev C k sc (tgΓ n2 t2 x ++ (tgΓ n1 t d ++ Γc)) c elt (g x) c) :
    Emit C k sc ce hid own D names Γc (do let x ← eval iter2 ce; standAt iter2.pos; let x ← foldedSetIterable iter2 ce x; let it ← holding [x] (pyIter x); let _ ← runOwn (.compStart (.ListComp elt [⟨t, iter, ifs, 0⟩, ⟨t2, iter2, [], 0⟩] scope pos) 1 it (.ref D) ce) ce; pure ()) (tgΓ n1 t d ++ Γc) c ((rngInts a st n).map g) c := fun A s Q E out₀ R cs S hz hQ => by
  refine wpAny_bind (hi A ce (D :: hid) s _ E R O cs.now S fun v h' tk x bx r => ?_)
  have cs' := cs.ext x bx
  have S' := S.ext cs.now x
  cases r with
  | rng nh nb e =>
    refine wpAny_bind (wpAny_standAt (wpAny_bind ?_))
    rw [hf]
    refine wpAny_pure (wpAny_bind (wpAny_holding (wpAny_pyIter_range (s := { s with heap := h', toks := tk }) e hs ?_)))
    have fI : h'.get? h'.objs.size = none := get_size h'
    have x2 : ∀ z o, h'.get? z = some o → (h'.push { cls := .type "range_iterator", data := .fields #[rawInt a, rawInt (Builtin.Range.rangeSize a b st), rawInt st] }).get? z = some o := fun z o q => Heap.get?_push_of_some _ q
    have itI : IsRangeIter (h'.push { cls := .type "range_iterator", data := .fields #[rawInt a, rawInt (Builtin.Range.rangeSize a b st), rawInt st] }) h'.objs.size (a + ((0 : Nat) : Int) * st) ((n : Int) - ((0 : Nat) : Int)) st := by
      have q := Heap.get?_push_size h' (o := { cls := .type "range_iterator", data := .fields #[rawInt a, rawInt (Builtin.Range.rangeSize a b st), rawInt st] }) rfl
      rw [hn] at q ⊢
      simpa using q
    dsimp only
    generalize hH : h'.push { cls := .type "range_iterator", data := .fields #[rawInt a, rawInt (Builtin.Range.rangeSize a b st), rawInt st] } = H at x2 itI
    generalize hI : h'.objs.size = I at fI itI
    have xk : Ext C.β h' H := .of_keeps x2
    have csH := cs'.ext xk (cs'.now.box.keep fun o q => x2 _ _ q)
    have SH := S'.ext cs'.now xk
    have offI : Off C I := cs'.now.off fI
    have NI : Now C (D :: ([I] ++ hid)) H c := by
      refine ⟨csH.now.ok, csH.now.base, csH.now.box, csH.now.first, csH.now.αβ, fun m => ?_, fun q m => ?_⟩
      · rcases List.mem_cons.mp m with w | m
        · exact offD.α w.symm
        · rcases List.mem_cons.mp m with w | m
          · exact offI.α w.symm
          · exact csH.now.αh (List.mem_cons_of_mem _ m)
      · rcases List.mem_cons.mp m with w | m
        · exact csH.now.live q (w ▸ List.mem_cons_self)
        · rcases List.mem_cons.mp m with w | m
          · exact ⟨_, w ▸ itI⟩
          · exact csH.now.live q (List.mem_cons_of_mem _ m)
    have notI : ∀ b o, h'.get? b = some o → b ≠ I := fun b o q w => by rw [w, fI] at q; cases q
    have hideR : ∀ {v : Value} {d : Mine.D}, Rep C.β (D :: hid) h' v d → Rep C.β (D :: ([I] ++ hid)) H v d := fun r => r.map fun b o nh nb _ q => ⟨x2 _ _ q, fun m => by
      rcases List.mem_cons.mp m with w | m
      · exact nh (w ▸ List.mem_cons_self)
      · rcases List.mem_cons.mp m with w | m
        · exact notI b o q w
        · exact nh (List.mem_cons_of_mem _ m)⟩
    have hideA : ∀ {v : List Value} {d : List Mine.D}, RepAll C.β (D :: hid) h' v d → RepAll C.β (D :: ([I] ++ hid)) H v d := fun r => r.map fun b o nh nb _ q => ⟨x2 _ _ q, fun m => by
      rcases List.mem_cons.mp m with w | m
      · exact nh (w ▸ List.mem_cons_self)
      · rcases List.mem_cons.mp m with w | m
        · exact notI b o q w
        · exact nh (List.mem_cons_of_mem _ m)⟩
    have hkind : ∀ x ∈ names, ce.kindOf x.1 = some .local := fun x m => by rw [kindOf_eq, O.is]; exact hloc x m
    have mem2 : ∀ x ∈ n2, x ∈ names := fun x m => by rw [hnames]; exact List.mem_append_right _ m
    obtain ⟨m₀, hm₀⟩ := csH.loc
    have lown : ce.locals ∈ own := by
      obtain ⟨x0, hx0⟩ := List.exists_mem_of_ne_nil _ hne
      rcases (csH.can x0 (mem2 _ hx0)).2 with ⟨_, q, _⟩ | ⟨q, _⟩
      · exact q
      · rw [hkind x0 (mem2 _ hx0)] at q; cases q
    obtain ⟨m₁, hm₁⟩ := cs'.loc
    have lI : ce.locals ≠ I := by
      obtain ⟨o, _, _, q, _⟩ := hm₁
      exact notI _ _ q
    have lD : D ≠ ce.locals := fun q => by
      obtain ⟨us, m, hl, _⟩ := csH.acc
      obtain ⟨o, es, ep, ho, hd, _⟩ := hm₀
      rw [← q, hl] at ho; cases ho; cases hd
    have csI : CS C ([I] ++ hid) ce [ce.locals] D names (tgΓ n1 t d ++ Γc) H c out₀ := by
      refine ⟨NI, ?_, fun y dd m => ?_, fun y m => ⟨(csH.can y m).1, .inl ⟨hkind y m, List.mem_singleton.mpr rfl, _, hm₀⟩⟩, csH.Dβ, ⟨_, hm₀⟩⟩
      · obtain ⟨us, m, hl, ra⟩ := cs'.acc
        exact ⟨us, m, x2 _ _ hl, hideA ra⟩
      · obtain ⟨u, hu, ru⟩ := S' y dd m
        exact ⟨u, hu.keeps x2, hideR ru⟩
    have F : FixN C hid [ce.locals] [I] D := ⟨fun b m => by rw [List.mem_singleton.mp m]; exact oo _ lown, fun b m => by rw [List.mem_singleton.mp m]; exact offI,
      fun b m => by rw [List.mem_singleton.mp m, List.mem_singleton]; exact lI, fun m => by
        obtain ⟨us, q, hl, _⟩ := cs'.acc
        exact notI _ _ hl (List.mem_singleton.mp m), fun m => lD (List.mem_singleton.mp m), fun q m w => by
        obtain ⟨o, z⟩ := cs'.now.live q m
        exact notI _ _ z (List.mem_singleton.mp w)⟩
    have Wr : Wk C (D :: ([I] ++ hid)) {} t2 I (rngInts a st n) [I] (fun i h => IsRangeIter h I (a + (i : Int) * st) ((n : Int) - i) st) := Wk.rng (by rfl) (Nat.zero_le _)
    have hnd' : (n1.map (·.1) ++ n2.map (·.1)).Nodup := by rw [hnames, List.map_append] at hnd; exact hnd
    have hz' : out₀.length + ((rngInts a st n).map g).length ≤ 1000000 := hz
    have loop : ∀ RR : Result → Shared → Prop, (∀ h'' tk', (∀ b o, b ∉ [ce.locals] → b ∉ [I] → b ≠ D → b ≠ C.β → H.get? b = some o → h''.get? b = some o) → CS C hid ce [ce.locals] D names (tgΓ n1 t d ++ Γc) h'' c (out₀ ++ (rngInts a st n).map g) → RR (.ok .next) { s with heap := h'', toks := tk' }) →
        codeAny (model C.prog C.w) A (.compLoop (.ListComp elt [⟨t, iter, ifs, 0⟩, ⟨t2, iter2, [], 0⟩] scope pos) 1 (.ref I) (.ref D) ce) RR { s with heap := H, toks := tk } := fun RR hRR => by
      refine comp_loopN (s := { s with heap := H, toks := tk }) (names := names) (tn := n2) (q := iter2.pos) (X := do let x ← eval elt ce; let _ ← call (.builtin "list.append") [.ref D, x]; pure ()) (out₀ := out₀) mem2 rfl rfl (fun _ => rfl) rfl tg
        (List.nodup_append.mp hnd').2.1 (fun p m w => ?_) R O O.apart F Wr (CR.map g _ fun x m => ⟨(hel x m).1, true, c, EvIfs.nil, fun _ => emit_app O offD (hel x m).2, fun q => nomatch q⟩) hz' itI csI (fun h _ b o nh nb dd q => by cases q) hRR
      rcases List.mem_append.mp m with m | m
      · exact (List.nodup_append.mp hnd').2.2 _ (tgΓ_fst m) _ w rfl
      · exact hcapA p m (by rw [hnames, List.map_append]; exact List.mem_append_right _ w)
    have fin : ∀ h'' tk', (∀ b o, b ∉ [ce.locals] → b ∉ [I] → b ≠ D → b ≠ C.β → H.get? b = some o → h''.get? b = some o) → CS C hid ce [ce.locals] D names (tgΓ n1 t d ++ Γc) h'' c (out₀ ++ (rngInts a st n).map g) → Q () { s with heap := h'', toks := tk' } := fun h'' tk' keep csF => by
      refine hQ h'' tk' (fun b o q1 q2 q3 q => ?_) ⟨csF.now, csF.acc, fun y dd m => csF.cap y dd (List.mem_append_right _ m), fun y m => ⟨(csF.can y m).1, ?_⟩, csF.Dβ, csF.loc⟩
      · have q' := x.keep b o q3 q
        exact keep b o (fun w => q1 (by rw [List.mem_singleton.mp w]; exact lown)) (fun w => notI b o q' (List.mem_singleton.mp w)) q2 q3 (x2 _ _ q')
      · rcases (csF.can y m).2 with ⟨q1, _, q3⟩ | ⟨q, _⟩
        · exact .inl ⟨q1, lown, q3⟩
        · rw [hkind y m] at q; cases q
    refine wpAny_bind (wpAny_runOwn (h := none) ?_ (by intro x; cases x))
    rw [R.mark]
    refine start_second rfl (loop _ fun h'' tk' keep csF => wpAny_pure (fin h'' tk' keep csF)) ?_
    exact Wr.self A 0 _ _ _ itI (loop _ fun h'' tk' keep csF => wpAny_pure (fin h'' tk' keep csF))
end
theorem turn_two (elt t iter t2 iter2 : Expr) (scope : Scope) (pos : Pos) (I D : Addr) (ce : Env) : compTurn (.ListComp elt [⟨t, iter, [], 0⟩, ⟨t2, iter2, [], 0⟩] scope pos) 0 (.ref I) (.ref D) ce = turnAll iter.pos t I ce []
      (do let x ← eval iter2 ce; standAt iter2.pos; let x ← foldedSetIterable iter2 ce x; let it ← holding [x] (pyIter x); let _ ← runOwn (.compStart (.ListComp elt [⟨t, iter, [], 0⟩, ⟨t2, iter2, [], 0⟩] scope pos) 1 it (.ref D) ce) ce; pure ()) (.compLoop (.ListComp elt [⟨t, iter, [], 0⟩, ⟨t2, iter2, [], 0⟩] scope pos) 0 (.ref I) (.ref D) ce) := by
  have e : compTurn (.ListComp elt [⟨t, iter, [], 0⟩, ⟨t2, iter2, [], 0⟩] scope pos) 0 (.ref I) (.ref D) ce = (do
      standAt iter.pos
      match ← pyNext (.ref I) with
      | none => pure (.done .next)
      | some v => do
        letOwnedTupleGo t (.ref I) v
        assign t ce v
        let ok ← (forIn ([] : List Expr) true fun c r => if r = true then do let ok ← isTrue c ce (eval c ce); pure (ForInStep.yield ok) else pure (ForInStep.yield r))
        if ok = true then (do
          let x ← eval iter2 ce
          standAt iter2.pos
          let x ← foldedSetIterable iter2 ce x
          let it ← holding [x] (pyIter x)
          let _ ← runOwn (.compStart (.ListComp elt [⟨t, iter, [], 0⟩, ⟨t2, iter2, [], 0⟩] scope pos) 1 it (.ref D) ce) ce
          again (.compLoop (.ListComp elt [⟨t, iter, [], 0⟩, ⟨t2, iter2, [], 0⟩] scope pos) 0 (.ref I) (.ref D) ce))
        else again (.compLoop (.ListComp elt [⟨t, iter, [], 0⟩, ⟨t2, iter2, [], 0⟩] scope pos) 0 (.ref I) (.ref D) ce)) := by rfl
  rw [e]
  unfold turnAll turnTail
  simp only [bind_assoc, pure_bind]
  all_goals rfl
section
variable {C : Cx} {k : Nat} {sc : Scope} {c c₁ : Int} {hid own : List Addr} {ce : Env} {D : Addr} {names : List (Str × Pos)} {Γc : List (Str × Mine.D)}
/-- a turn of the first of two clauses -/
noncomputable def Turn2 (C : Cx) (k : Nat) (sc : Scope) (n1 n2 : List (Str × Pos)) (Γc : List (Str × Mine.D)) (t t2 iter2 elt : Expr) (d : Mine.D) (c : Int) (out : List Mine.D) (c' : Int) : Prop :=
  (tgD t d).length = n1.length ∧ c' = c ∧ ∃ a b st n g, Ev C k sc (tgΓ n1 t d ++ Γc) c iter2 (.rng a b st) c ∧ Builtin.Range.small a b st = true ∧ Builtin.Range.rangeSize a b st = ((n : Nat) : Int) ∧ out = (rngInts a st n).map g ∧
    ∀ x ∈ rngInts a st n, (tgD t2 x).length = n2.length ∧ Ev C k sc (tgΓ n2 t2 x ++ (tgΓ n1 t d ++ Γc)) c elt (g x) c
theorem turn2_of {n1 n2 : List (Str × Pos)} {t t2 iter iter2 elt : Expr} {scope : Scope} {pos : Pos} {d : Mine.D} {out : List Mine.D} (O : EnvOK ce sc) (offD : Off C D) (oo : ∀ b ∈ own, Off C b)
    (hnames : names = n1 ++ n2) (hne : n2 ≠ []) (hnd : (names.map (·.1)).Nodup) (hcapA : ∀ p ∈ Γc, p.1 ∉ names.map (·.1)) (hloc : ∀ x ∈ names, sc.names.lookup x.1 = some .local) (tg : Tg t2 n2) (hf : ∀ env x, foldedSetIterable iter2 env x = pure x)
    (h : Turn2 C k sc n1 n2 Γc t t2 iter2 elt d c out c₁) :
    TurnN C k sc ce hid own D n1 names Γc t [] (do let x ← eval iter2 ce; standAt iter2.pos; let x ← foldedSetIterable iter2 ce x; let it ← holding [x] (pyIter x); let _ ← runOwn (.compStart (.ListComp elt [⟨t, iter, [], 0⟩, ⟨t2, iter2, [], 0⟩] scope pos) 1 it (.ref D) ce) ce; pure ()) d c out c₁ := by
  obtain ⟨h1, rfl, a, b, st, n, g, h2, h3, h4, rfl, h5⟩ := h
  exact ⟨h1, true, _, EvIfs.nil, fun _ => emit_rng O offD oo hnames hne hnd hcapA hloc tg h2 h3 h4 hf h5, fun q => nomatch q⟩
end
section
variable {C : Cx} {k : Nat} {sc : Scope} {Γ Γc : List (Str × D)} {c c₁ c₂ : Int} {hid : List Addr} {env : Env} {scope : Scope}
theorem comp_core2 {n1 n2 : List (Str × Pos)} {elt t iter t2 iter2 : Expr} {pos : Pos} {items outs : List D} (hit : EvIt C k sc Γ c iter t items c₁) (tg : Tg t n1) (tg2 : Tg t2 n2) (hne : n2 ≠ []) (K : CompOK scope sc (n1 ++ n2) Γ Γc) (hloc : ∀ x ∈ n1 ++ n2, (relabelS scope sc).names.lookup x.1 = some .local) (hf2 : ∀ env x, foldedSetIterable iter2 env x = pure x)
    (hbody : CR (Turn2 C k (relabelS scope sc) n1 n2 Γc t t2 iter2 elt) items c₁ outs c₂) (hz : outs.length ≤ 1000000)
    {A : Around} {s : Shared} {E : Value → Shared → Prop} {RR : Value → Addr → Result → Shared → Prop} (R : Room A k) (O : EnvOK env sc) (N : Now C hid s.heap c) (S : Sees C env hid s.heap Γ)
    (hR : ∀ D L vs n h' tk, Ext C.β s.heap h' → Bx C h' c₂ → Now C (D :: hid) h' c₂ → s.heap.get? D = none → s.heap.get? L = none → IsL h' D vs.toArray n → RepAll C.β (D :: hid) h' vs outs → (∃ m, h'.Ns L m) → RR (.ref D) L (.ok .next) { s with heap := h', toks := tk }) :
    closureFor scope env = pure (clOf env scope.names []) ∧
    wpAny (model C.prog C.w) A (eval iter env) (fun x s₁ => wpAny (model C.prog C.w) A (pyIter x) (fun it s₂ => wpAny (model C.prog C.w) A (newList []) (fun acc s₃ =>
      wpAny (model C.prog C.w) A (newFunctionEnv scope env.globals (clOf env scope.names []) [] env.qual none .none (some env)) (fun cenv s₄ =>
        codeAny (model C.prog C.w) A (.compStart (.ListComp elt [⟨t, iter, [], 0⟩, ⟨t2, iter2, [], 0⟩] scope pos) 0 it acc { cenv with scope := relabel scope env }) (RR acc cenv.locals) s₄) E s₃) E s₂) E s₁) E s := by
  refine ⟨(comp_env_wp (A := A) (E := fun _ _ => True) (s := s) (Q := fun _ _ => True) K O S fun _ _ _ _ _ _ _ _ _ _ _ _ => trivial).1, ?_⟩
  refine hit A env hid s _ E R O N S fun hb I wr St h₁ tk xb bb kb W hS => ?_
  have Nb := N.ext xb bb
  have N₁ := Nb.ext (.of_keeps kb) (bb.keep fun o e => kb _ _ e)
  refine wpAny_newObj_type ?_
  -- behind the list
  generalize hh2 : h₁.push { cls := .type "list", dict := none, data := .seq ([] : List Value).toArray } = h₂
  have x12 : ∀ b o, h₁.get? b = some o → h₂.get? b = some o := fun b o e => by rw [← hh2]; exact Heap.get?_push_of_some _ e
  have hDl : IsL h₂ h₁.objs.size ([] : List Value).toArray 0 := by rw [← hh2]; exact Heap.get?_push_size _ rfl
  generalize hD : h₁.objs.size = D at *
  have fD1 : h₁.get? D = none := by rw [← hD]; exact get_size _
  have fD : hb.get? D = none := by
    cases e : hb.get? D with
    | none => rfl
    | some o => have := kb _ _ e; rw [fD1] at this; cases this
  have Wd := W (D :: (wr ++ hid)) fun b m => by
    rcases List.mem_cons.mp m with rfl | m
    · exact .inr fD
    · rcases List.mem_append.mp m with m | m
      · exact .inr ((W [] fun b m => by cases m).fresh b m)
      · exact .inl m
  have liveW : ∀ b ∈ wr, ∃ o, h₁.get? b = some o := fun b m => Wd.live 0 h₁ hS b m
  have Dw : D ∉ wr := fun m => by obtain ⟨o, e⟩ := liveW D m; rw [fD1] at e; cases e
  have x02 : Ext C.β s.heap h₂ := xb.trans ((Ext.of_keeps kb).trans (.of_keeps x12))
  have b2 : Bx C h₂ c₁ := bb.keep fun o e => x12 _ _ (kb _ _ e)
  have N₂ : Now C (D :: (wr ++ hid)) h₂ c₁ := by
    have n := N₁.ext (.of_keeps x12) (N₁.box.keep fun o e => x12 _ _ e)
    refine ⟨n.ok, n.base, n.box, n.first, n.αβ, fun m => ?_, fun a m => ?_⟩
    · obtain ⟨vs, nn, q, _⟩ := Nb.first
      rcases List.mem_cons.mp m with e | m
      · rw [e] at q; cases fD.symm.trans q
      · rcases List.mem_append.mp m with m | m
        · cases (Wd.fresh _ m).symm.trans q
        · exact n.αh m
    · rcases List.mem_cons.mp m with rfl | m
      · exact ⟨_, hDl⟩
      · rcases List.mem_append.mp m with m | m
        · obtain ⟨o, e⟩ := liveW a m; exact ⟨o, x12 _ _ e⟩
        · exact n.live a m
  have S₂ : Sees C env (D :: (wr ++ hid)) h₂ Γ := fun y d m => by
    have q := S.ext N xb
    obtain ⟨v, a, r⟩ := q y d m
    refine ⟨v, a.keeps fun b o e => x12 _ _ (kb _ _ e), r.map fun b o nh nbb dd e => ⟨x12 _ _ (kb _ _ e), fun m => ?_⟩⟩
    rcases List.mem_cons.mp m with rfl | m
    · rw [fD] at e; cases e
    · rcases List.mem_append.mp m with m | m
      · rw [Wd.fresh b m] at e; cases e
      · exact nh m
  refine (comp_env_wp (A := A) (E := E) (s := { s with heap := h₂, toks := tk }) K O S₂ fun cenv ce own h₃ hce O' fo k23 cn cap loc lown => ?_).2
  have Ek : ∀ b o, h₂.get? b = some o → h₃.get? b = some o := k23
  have N₃ : Now C (D :: (wr ++ hid)) h₃ c₁ := N₂.ext (.of_keeps k23) (N₂.box.keep fun o e => k23 _ _ e)
  have cs₃ : CS C (wr ++ hid) ce own D (n1 ++ n2) Γc h₃ c₁ [] := ⟨N₃, ⟨[], 0, k23 _ _ hDl, .nil⟩, cap, cn, (fun e => by
    obtain ⟨t, m, q⟩ := Nb.box; exact nomatch (e ▸ fD).symm.trans q), (by rw [hce]; exact loc)⟩
  have hS₃ : St 0 h₃ := Wd.frame _ _ _ hS fun b _ o e => k23 _ _ (x12 _ _ e)
  have fown : ∀ b ∈ own, hb.get? b = none := fun b m => by
    cases e : hb.get? b with
    | none => rfl
    | some o => have := fo b m; rw [x12 _ _ (kb _ _ e)] at this; cases this
  have F : Fix C hid own wr D hb := ⟨⟨_, Nb⟩, fown, Wd.fresh, fD, (fun b m w => by obtain ⟨o, e⟩ := liveW b w; have := fo b m; rw [x12 _ _ e] at this; cases this), Dw, (fun m => by have := fo D m; cases this.symm.trans hDl)⟩
  have ap : Apart ce := O'.apart
  have offD : Off C D := Nb.off fD
  have offO : ∀ b ∈ own, Off C b := fun b m => Nb.off (fown b m)
  have F2 : FixN C hid own wr D := ⟨offO, fun b m => Nb.off (Wd.fresh b m), F.ow, F.Dw, F.Do, not_wr Nb F.fw F.Dw⟩
  have hnd1 : (n1.map (·.1)).Nodup := by have := K.nd; rw [List.map_append] at this; exact (List.nodup_append.mp this).1
  have loop : codeAny (model C.prog C.w) A (.compLoop (.ListComp elt [⟨t, iter, [], 0⟩, ⟨t2, iter2, [], 0⟩] scope pos) 0 (.ref I) (.ref D) ce) (RR (.ref D) cenv.locals) { s with heap := h₃, toks := tk } := by
    refine comp_loopN (s := { s with heap := h₃, toks := tk }) (names := n1 ++ n2) (tn := n1) (q := iter.pos) (X := do let x ← eval iter2 ce; standAt iter2.pos; let x ← foldedSetIterable iter2 ce x; let it ← holding [x] (pyIter x); let _ ← runOwn (.compStart (.ListComp elt [⟨t, iter, [], 0⟩, ⟨t2, iter2, [], 0⟩] scope pos) 1 it (.ref D) ce) ce; pure ()) (out₀ := []) (fun x m => List.mem_append_left _ m) (turn_two _ _ _ _ _ _ _ _ _ _) rfl (fun _ => rfl) rfl tg hnd1 (fun p m q => CompOK.apart K p m (by rw [List.map_append]; exact List.mem_append_left _ q)) R O' ap F2 Wd
      (hbody.imp fun d c out c' q => turn2_of O' offD offO rfl hne K.nd (CompOK.apart K) hloc tg2 hf2 q) (by simpa using hz) hS₃ cs₃ (fun h keep b o nh nb dd e => ?_) fun h' tk' keep cs => ?_
    · exact keep b o (fun m => by rw [fown b m] at e; cases e) (fun m => by rw [Wd.fresh b m] at e; cases e) (fun m => by rw [m, fD] at e; cases e) nb (k23 _ _ (x12 _ _ (kb _ _ e)))
    obtain ⟨vs, n, hl, r⟩ := cs.acc
    refine hR D cenv.locals vs n h' tk' ⟨fun b o nb e => ?_⟩ cs.now.box cs.now ?_ ?_ hl (by simpa using r) (by have := cs.loc; rw [hce] at this; exact this)
    · have eb := xb.keep b o nb e
      exact keep b o (fun m => by rw [fown b m] at eb; cases eb) (fun m => by rw [Wd.fresh b m] at eb; cases eb) (fun m => by rw [m, fD] at eb; cases eb) nb (k23 _ _ (x12 _ _ (kb _ _ eb)))
    · exact N.fresh_back xb bb fD
    · exact N.fresh_back xb bb (fown _ lown)
  rw [← hce]
  exact codeAny_compStart_list loop (Wd.self A 0 _ _ _ hS₃ loop)

end
section
variable {C : Cx} {V : Vs} {c c₁ c₂ : Int} {sc : Scope} {k : Nat}
theorem Ex.setC2 {Γc : List (Str × D)} {n1 n2 : List (Str × Pos)} {scope : Scope} {elt t iter t2 iter2 : Expr} {y : Str} {py pos spos : Pos} {items outs : List D} (hit : EvIt C k sc (plainΓ V) c iter t items c₁) (tg : Tg t n1) (tg2 : Tg t2 n2) (hne : n2 ≠ []) (K : CompOK scope sc (n1 ++ n2) (plainΓ V) Γc)
    (hloc : ∀ x ∈ n1 ++ n2, (relabelS scope sc).names.lookup x.1 = some .local) (hf2 : ∀ env x, foldedSetIterable iter2 env x = pure x)
    (hbody : CR (Turn2 C k (relabelS scope sc) n1 n2 Γc t t2 iter2 elt) items c₁ outs c₂) (hz : outs.length ≤ 1000000) (hl : isLoc sc y)
    (hsw : ∀ env : Env, env.scope = sc → swapsWith (.ListComp elt [⟨t, iter, [], 0⟩, ⟨t2, iter2, [], 0⟩] scope pos) (some (.Name y py)) spos.line env = pure true) (hs : ∀ env x, foldedSetIterable iter env x = pure x) :
    Ex C k sc V c (.Assign [.Name y py] (.ListComp elt [⟨t, iter, [], 0⟩, ⟨t2, iter2, [], 0⟩] scope pos) spos) (.nx (putV [y] [.o outs] V) c₂) := fun A env own P hid om s Q E R O st hQ => by
  rw [exec_Assign_Name_used _ _ _ _ (hsw env O.is)]
  refine wpAny_bind (wpAny_standAt (wpAny_bind ?_))
  show wpAny _ A (do let _ ← comprehension (.ListComp elt [⟨t, iter, [], 0⟩, ⟨t2, iter2, [], 0⟩] scope pos) scope env _ (newList []) false (eval iter env) (some (assign (.Name y py) env))) _ _ s
  have core := comp_core2 (env := env) (pos := pos) (E := E) (RR := fun acc L => compPost (model C.prog C.w) A E (some (assign (.Name y py) env)) (fun _ s' => Q .next s') acc L) hit tg tg2 hne K hloc hf2 hbody hz R O st.now st.sees fun D L vs n h' tk x bx nw fD fL hL r loc => ?_
  · refine wpAny_bind (wpAny_mono (wpAny_comprehension_free (use := some (assign (.Name y py) env)) (Q := fun _ s' => Q .next s') rfl (hs env) core.1 K.kind (fun x m e => by rw [K.wf x m, e]) core.2) (fun _ s' hq => wpAny_pure (wpAny_pure hq)) fun _ _ e => e)
  · show wpAny _ A (assign (.Name y py) env (.ref D)) _ _ _
    refine wpAny_assign_Name (st.store1 (as := [D]) O hl x bx (.o hL r .nil) (fun b q => by rw [List.mem_singleton.mp q]; exact ⟨fD, _, hL⟩) (by simp) fun om' h'' tk' S st' => ?_)
    have lo : L ∉ own := fun q => by obtain ⟨_, _, o, e, _⟩ := st.fo L q; rw [fL] at e; cases e
    obtain ⟨m, hn⟩ := loc
    have hn' : h''.Ns L m := by
      obtain ⟨o, es, ep, ho, hdd, rest⟩ := hn
      exact ⟨o, es, ep, S.but _ _ lo ho, hdd, rest⟩
    refine ⟨m, hn', fun h3 hs3 => hQ om' h3 tk' (st'.letgo hn' lo (fun o q => ?_) (st.now.off fL) (fun q => ?_) hs3)⟩
    · have := st.old L o q; rw [fL] at this; cases this
    · obtain ⟨o, e⟩ := st.now.live L (List.mem_append_right _ q); rw [fL] at e; cases e
end
/-! ## More words; primes, tried -/
noncomputable def frzV (V : Vs) : Vs := V.map fun p => (p.1, .v p.2.frz)
theorem ow_frz (om : Str → Addr) : ∀ V : Vs, ow om (frzV V) = []
  | [] => rfl
  | (x, a) :: r => ow_frz om r
theorem plain_frz : ∀ V : Vs, plainΓ (frzV V) = allΓ V
  | [] => rfl
  | (x, .v d) :: r => by show (x, d) :: plainΓ (frzV r) = _; rw [plain_frz r]; rfl
  | (x, .o ds) :: r => by show (x, D.list ds) :: plainΓ (frzV r) = _; rw [plain_frz r]; rfl
theorem mem_frz {x : Str} {ds : List D} {V : Vs} : (x, AV.o ds) ∉ frzV V := fun m => by
  obtain ⟨p, _, e⟩ := List.mem_map.mp m
  cases e
section
variable {C : Cx} {k : Nat} {sc : Scope} {Γ : List (Str × D)} {V V' : Vs} {c c₁ c₂ : Int} {rest : List Stmt} {o : Out} {env : Env} {own : List Addr} {P : Addr → Obj → Prop} {hid : List Addr} {om : Str → Addr} {h : Heap}
theorem St.frz (st : St C env own P hid V c om h) : St C env own P hid (frzV V) c om h := by
  have e := ow_frz om V
  refine ⟨by rw [e]; exact st.all.1, st.old, st.pβ, st.fo, (fun b m => by rw [e] at m; cases m), (fun b m => by rw [e] at m; cases m), (fun x y ds es m => absurd m mem_frz), ?_, (fun x ds m => absurd m mem_frz), st.can⟩
  rw [e, plain_frz]
  exact st.all.2
/-- all lists are named by others from here on -/
theorem Exs.frz {es : List Stmt} (h : Exs C k sc (frzV V) c es o) : Exs C k sc V c es o := fun A env own P hid om s Q E R O st hQ => h A env own P hid om s Q E R O st.frz hQ
theorem Exs.frzTo {es : List Stmt} (V' : Vs) (h : Exs C k sc V' c es o) (q : frzV V = V' := by rfl) : Exs C k sc V c es o := Exs.frz (q ▸ h)
theorem Exs.whileOr {test : Expr} {body : List Stmt} {pos : Pos} {d : D} (h : Wh C k sc test body V c (.rt d c₂) ∨ ∃ V', Wh C k sc test body V c (.nx V' c₁) ∧ Exs C k sc V' c₁ rest (.rt d c₂)) : Exs C k sc V c (.While test body [] pos :: rest) (.rt d c₂) := by
  rcases h with w | ⟨_, w, r⟩
  · exact Exs.ret (Ex.while w)
  · exact Exs.while w r
theorem Exs.forOr {t iter : Expr} {xs : List (Str × Pos)} {body : List Stmt} {pos : Pos} {items : List D} {d : D} {c₃ : Int} (hit : EvIt C k sc (plainΓ V) c iter t items c₁) (tg : Tg t xs) (hl : xs.all (fun x => isLocB sc x.1) = true) (hnd : nodupB (xs.map (·.1)) = true)
    (hs : ∀ env x, foldedSetIterable iter env x = pure x) (h : Fo C k sc t xs body items V c₁ (.rt d c₃) ∨ ∃ V', Fo C k sc t xs body items V c₁ (.nx V' c₂) ∧ Exs C k sc V' c₂ rest (.rt d c₃)) : Exs C k sc V c (.For t iter body [] pos :: rest) (.rt d c₃) := by
  rcases h with w | ⟨_, w, r⟩
  · exact Exs.ret (Ex.for hit tg (locs_of hl) (nodup_of hnd) w hs)
  · exact Exs.for hit tg hl hnd hs w r
end

noncomputable def ldG : Nat → Nat → Nat → Option Nat
  | 0, _, _ => none
  | fu + 1, n, f => if (Nat.ble 1 f && Nat.ble f 100000) = true then (if f * f ≤ n then (if n % f = 0 then some f else ldG fu n (f + if f = 2 then 1 else 2)) else some n) else none
noncomputable def ldO (n b : Nat) : Option Nat := ldG 20 n b
noncomputable def primO (i : Int) : Option Bool := if i < 2 then some false else (ldO i.toNat 2).map fun r => decide (r = i.toNat)
noncomputable def stripG : Nat → Nat → Nat → Nat → Option (Nat × Nat)
  | 0, _, _, _ => none
  | fu + 1, n, p, many => if (Nat.ble 1 p && Nat.ble p 100000) = true then (if n % p = 0 then stripG fu (n / p) p (many + 1) else some (n, many)) else none
noncomputable def pfG : Nat → Nat → Nat → List (Nat × Nat) → Option (List (Nat × Nat))
  | 0, _, _, _ => none
  | fu + 1, n, p, found => if Nat.ble found.length 100 = true then (if 1 < n then (ldO n p).bind fun q => (stripG 20 n q 0).bind fun x => pfG fu x.1 (if q = 2 then 3 else q + 2) (found ++ [(q, x.2)]) else some found) else none
noncomputable abbrev NN (x : Nat × Nat) : D := .tup [N1 x.1, N1 x.2]

section
variable {C : Cx} {k : Nat} {sc : Scope} {Γ : List (Str × D)} {V : Vs} {c : Int}
theorem f_least {n b r : Nat} (h : ldO n b = some r) : Fn C 2 "least_divisor" [N1 n, N1 b] c (N1 r) c := by
  refine Fn.intro (k := 1) (i := 5) (by with_unfolding_all rfl) ["n", "begin"] (fun _ _ _ => all2 fun _ _ => rfl) rfl (nodup_of rfl) (names_of rfl) ?_
  unfold ldO at h
  refine Exs.set (c₁ := c) (d := N1 b) (Ev.nm rfl) rfl (by intro _ _; rfl) ?_
  refine Exs.whileOr (c₁ := c) ?_
  refine (fun (H : ∀ (fu f : Nat), ldG fu n f = some r → (Wh C 1 _ _ _ [("n", .v (N1 n)), ("begin", .v (N1 b)), ("found", .v (N1 f))] c (.rt (N1 r) c) ∨ ∃ V', Wh C 1 _ _ _ [("n", .v (N1 n)), ("begin", .v (N1 b)), ("found", .v (N1 f))] c (.nx V' c) ∧ Exs C 1 _ V' c _ (.rt (N1 r) c))) => H 20 b h) ?_
  clear h
  intro fu
  induction fu with
  | zero => intro f h; cases h
  | succ fu ih =>
    intro f h
    rw [ldG] at h
    split at h
    · rename_i hok
      rw [Bool.and_eq_true] at hok
      have h1 : 1 ≤ f := Nat.le_of_ble_eq_true hok.1
      have h2 : f ≤ 100000 := Nat.le_of_ble_eq_true hok.2
      have et : decide ((f : Int) * (f : Int) ≤ (n : Int)) = decide (f * f ≤ n) := by rw [Bool.eq_iff_iff, decide_eq_true_eq, decide_eq_true_eq]; exact_mod_cast Iff.rfl
      have em : (((n : Int).fmod (f : Int)) == 0) = decide (n % f = 0) := by rw [fmod_nat, int_eq0]
      have e2 : (((f : Nat) : Int) == 2) = decide (f = 2) := by rw [Bool.eq_iff_iff, beq_iff_eq, decide_eq_true_eq]; omega
      by_cases hf : f * f ≤ n
      · rw [if_pos hf] at h
        by_cases hm : n % f = 0
        · rw [if_pos hm] at h
          cases h
          refine .inl (Wh.ret (c₁ := c) (EvT.cast (EvT.cmp (c₁ := c) (Ev.bin (c₁ := c) (Ev.nm rfl) (Ev.nm rfl) (Bin.mul (.inl (by omega)))) (Ev.nm rfl) Cmp.le) (by rw [et]; exact decide_eq_true hf)) ?_)
          exact Exs.ret (Ex.ifT (c₁ := c) (EvT.cast (EvT.cmp (c₁ := c) (Ev.bin (c₁ := c) (Ev.nm rfl) (Ev.nm rfl) (Bin.mod (by omega))) Ev.int Cmp.eq) (by rw [em]; exact decide_eq_true hm)) (Exs.ret' (Ev.nm rfl)))
        · rw [if_neg hm] at h
          refine (ih _ h).imp (fun w => Wh.turn (c₁ := c) ?_ ?_ w) (fun ⟨V', w, q⟩ => ⟨V', Wh.turn (c₁ := c) ?_ ?_ w, q⟩)
          any_goals exact (EvT.cast (EvT.cmp (c₁ := c) (Ev.bin (c₁ := c) (Ev.nm rfl) (Ev.nm rfl) (Bin.mul (.inl (by omega)))) (Ev.nm rfl) Cmp.le) (by rw [et]; exact decide_eq_true hf))
          all_goals (
            refine Exs.iteN (c₁ := c) (c₂ := c) (V' := [("n", .v (N1 n)), ("begin", .v (N1 b)), ("found", .v (N1 f))]) (b := false) (EvT.cast (EvT.cmp (c₁ := c) (Ev.bin (c₁ := c) (Ev.nm rfl) (Ev.nm rfl) (Bin.mod (by omega))) Ev.int Cmp.eq) (by rw [em]; exact decide_eq_false hm)) (fun q => nomatch q) (fun _ => Exs.nil) ?_
            refine Exs.aug (c₁ := c) (a := f) (b := ((if f = 2 then 1 else 2 : Nat) : Int)) (Ev.ite (c₁ := c) (b := decide (f = 2)) (EvT.cast (EvT.cmp (c₁ := c) (Ev.nm rfl) Ev.int Cmp.eq) e2) (fun q => ?_) (fun q => ?_)) rfl rfl (by omega) Exs.nil
            · rw [if_pos (of_decide_eq_true q)]; exact Ev.int
            · rw [if_neg (of_decide_eq_false q)]; exact Ev.int)
      · rw [if_neg hf] at h
        cases h
        exact .inr ⟨_, Wh.stop (EvT.cast (EvT.cmp (c₁ := c) (Ev.bin (c₁ := c) (Ev.nm rfl) (Ev.nm rfl) (Bin.mul (.inl (by omega)))) (Ev.nm rfl) Cmp.le) (by rw [et]; exact decide_eq_false hf)), Exs.ret' (Ev.nm rfl)⟩
    · cases h

theorem f_isprime {i : Int} {r : Bool} (h : primO i = some r) : Fn C 3 "is_prime" [.int i] c (.bool r) c := by
  refine Fn.intro (k := 2) (i := 6) (by with_unfolding_all rfl) ["n"] (fun _ _ _ => all1 fun _ => rfl) rfl (nodup_of rfl) (names_of rfl) ?_
  unfold primO at h
  by_cases h2 : i < 2
  · rw [if_pos h2] at h
    cases h
    exact Exs.ret' (Ev.and_false (Ev.cast (Ev.cmp (c₁ := c) (Ev.nm rfl) Ev.int Cmp.ge) (by rw [decide_eq_false (by omega)])))
  · rw [if_neg h2] at h
    obtain ⟨m, rfl⟩ : ∃ m : Nat, i = (m : Int) := ⟨i.toNat, by omega⟩
    rw [Int.toNat_natCast] at h
    obtain ⟨q, hq, rfl⟩ := Option.map_eq_some_iff.mp h
    have g := @f_least C c m 2 q hq
    refine Exs.ret' (Ev.and_true (c₁ := c) (Ev.cast (Ev.cmp (c₁ := c) (Ev.nm rfl) Ev.int Cmp.ge) (by rw [decide_eq_true (by omega)])) (Ev.and1 (Ev.cast (Ev.cmp (c₁ := c) (Ev.call (EvL.cons (c₁ := c) (Ev.nm rfl) (EvL.cons (c₁ := c) (d := N1 2) Ev.int EvL.nil)) g) (Ev.nm rfl) Cmp.eq) ?_)))
    congr 1
    rw [Bool.eq_iff_iff, beq_iff_eq, decide_eq_true_eq]; omega
end
noncomputable def pfO (n : Nat) : Option (List (Nat × Nat)) := pfG 10 n 2 []
noncomputable def mul2 (q m : Nat) (found : List Nat) : List Nat := found.flatMap fun one => (List.range (m + 1)).map fun t => one * q ^ t
noncomputable def divL : List (Nat × Nat) → List Nat → Option (List Nat)
  | [], found => some found
  | x :: r, found => if (Nat.ble x.2 100 && Nat.ble found.length 100 && Nat.ble x.1 100000 && found.all fun x => Nat.blt x 16777216) = true then divL r (mul2 x.1 x.2 found) else none
noncomputable def divO (i : Int) : Option (List Int) := (pfO i.natAbs).bind fun l => (divL l [1]).bind fun f => if Nat.blt f.length 64 = true then some (sortZ (f.map fun n : Nat => (n : Int))) else none

theorem swaps_true {elt : Expr} {gens : List Comprehension} {scope sc : Scope} {p pos : Pos} {t : Str} {line : Nat} {env : Env} (h : env.scope = sc)
    (hk : (sc.kind == .function && sc.names.lookup t == some .local && pos.line == p.line && !(scope.names.any fun (n, k) => n == t && (k == .local || k == .cell))) = true) : swapsWith (.ListComp elt gens scope p) (some (.Name t pos)) line env = pure true := by
  subst h
  refine congrArg pure ?_
  have e : env.blockKind = .function := by
    rw [Bool.and_eq_true, Bool.and_eq_true, Bool.and_eq_true] at hk
    unfold Env.blockKind
    split
    · rfl
    · exact LawfulBEq.eq_of_beq hk.1.1.1
  rw [e]
  rw [Bool.and_eq_true, Bool.and_eq_true, Bool.and_eq_true] at hk
  rw [Bool.and_eq_true, Bool.and_eq_true, Bool.and_eq_true]
  exact ⟨⟨⟨rfl, hk.1.1.2⟩, hk.1.2⟩, hk.2⟩
section
variable {C : Cx} {k : Nat} {sc : Scope} {Γ : List (Str × D)} {V : Vs} {c : Int}
theorem f_pfactors {n : Nat} {r : List (Nat × Nat)} (h : pfO n = some r) : Fn C 3 "prime_factors" [N1 n] c (.list (r.map NN)) c := by
  refine Fn.intro (k := 2) (i := 7) (by with_unfolding_all rfl) ["n"] (fun _ _ _ => all1 fun _ => rfl) rfl (nodup_of rfl) (names_of rfl) ?_
  unfold pfO at h
  refine Exs.tup (c₁ := c) (ms := [.o (([] : List (Nat × Nat)).map NN), .v (N1 2)]) (EvM.o (c₁ := c) (EvF.list EvL.nil) (EvM.v (c₁ := c) Ev.int EvM.nil)) Tg.two rfl rfl rfl (by simp) (by intro _ _; rfl) (by rintro ⟨⟩ rfl; first | exact .inr rfl | exact .inl rfl) ?_
  refine Exs.whileEx (c₁ := c) ?_
  refine (fun (H : ∀ (fu n p : Nat) (found : List (Nat × Nat)), pfG fu n p found = some r → ∃ V', Wh C 2 _ _ _ [("n", .v (N1 n)), ("found", .o (found.map NN)), ("prime", .v (N1 p))] c (.nx V' c) ∧ Exs C 2 _ V' c _ (.rt (.list (r.map NN)) c)) => H 10 n 2 [] h) ?_
  clear h
  intro fu
  induction fu with
  | zero => intro n p found h; cases h
  | succ fu ih =>
    intro n p found h
    rw [pfG] at h
    split at h
    · rename_i hok
      have hfl : found.length ≤ 100 := Nat.le_of_ble_eq_true hok
      have et : decide ((1 : Int) < (n : Int)) = decide (1 < n) := by rw [Bool.eq_iff_iff, decide_eq_true_eq, decide_eq_true_eq]; omega
      by_cases h1 : 1 < n
      · rw [if_pos h1] at h
        obtain ⟨q, hq, h⟩ := Option.bind_eq_some_iff.mp h
        obtain ⟨⟨n', m⟩, hx, h⟩ := Option.bind_eq_some_iff.mp h
        have g := @f_least C c n p q hq
        obtain ⟨V', w, z⟩ := ih _ _ _ h
        have e2 : (((q : Nat) : Int) == 2) = decide (q = 2) := by rw [Bool.eq_iff_iff, beq_iff_eq, decide_eq_true_eq]; omega
        refine ⟨V', Wh.turn (c₁ := c) (EvT.cast (by walk_at "st") (by rw [et]; exact decide_eq_true h1)) ?_ w, z⟩
        refine Exs.keep ["n", "found", "prime"] (V₁ := [("n", .v (N1 n')), ("found", .o ((found ++ [(q, m)]).map NN)), ("prime", .v (N1 (if q = 2 then 3 else q + 2))), ("many", .v (N1 m))]) ?_
        refine Exs.tup (c₁ := c) (ms := [.v (N1 q), .v (N1 0)]) (EvM.v (c₁ := c) (Ev.call (EvL.cons (c₁ := c) (Ev.nm rfl) (EvL.cons (c₁ := c) (Ev.nm rfl) EvL.nil)) g) (EvM.v (c₁ := c) Ev.int EvM.nil)) Tg.two rfl rfl rfl (by simp) (by intro _ _; rfl) (by rintro ⟨⟩ rfl; first | exact .inr rfl | exact .inl rfl) ?_
        refine Exs.at [("n", .v (N1 n)), ("found", .o (found.map NN)), ("prime", .v (N1 q)), ("many", .v (N1 0))] ?_
        refine Exs.whileEx (c₁ := c) ?_
        refine (fun (H : ∀ (fu n many : Nat), stripG fu n q many = some (n', m) → ∃ V', Wh C 2 _ _ _ [("n", .v (N1 n)), ("found", .o (found.map NN)), ("prime", .v (N1 q)), ("many", .v (N1 many))] c (.nx V' c) ∧ Exs C 2 _ V' c _ (.nx [("n", .v (N1 n')), ("found", .o ((found ++ [(q, m)]).map NN)), ("prime", .v (N1 (if q = 2 then 3 else q + 2))), ("many", .v (N1 m))] c)) => H 20 n 0 hx) ?_
        clear hx h w z g ih hq
        intro fu
        induction fu with
        | zero => intro n many h; cases h
        | succ fu ih =>
          intro n many h
          rw [stripG] at h
          split at h
          · rename_i hok2
            rw [Bool.and_eq_true] at hok2
            have q1 : 1 ≤ q := Nat.le_of_ble_eq_true hok2.1
            have q2 : q ≤ 100000 := Nat.le_of_ble_eq_true hok2.2
            have em : (((n : Int).fmod (q : Int)) == 0) = decide (n % q = 0) := by rw [fmod_nat, int_eq0]
            by_cases hm : n % q = 0
            · rw [if_pos hm] at h
              obtain ⟨V', w, z⟩ := ih _ _ h
              refine ⟨V', Wh.turn (c₁ := c) (EvT.cast (EvT.cmp (c₁ := c) (Ev.bin (c₁ := c) (Ev.nm rfl) (Ev.nm rfl) (Bin.mod (by omega))) Ev.int Cmp.eq) (by rw [em]; exact decide_eq_true hm)) ?_ w, z⟩
              have e3 : (n : Int).fdiv (q : Int) = ((n / q : Nat) : Int) := by rw [Int.fdiv_eq_ediv_of_nonneg _ (by omega)]; rfl
              exact Exs.tup (c₁ := c) (ms := [.v (N1 (n / q)), .v (N1 (many + 1))]) (EvM.v (c₁ := c) (Ev.cast (Ev.bin (c₁ := c) (Ev.nm rfl) (Ev.nm rfl) (Bin.fdiv (by omega) (by omega))) (by rw [e3])) (EvM.v (c₁ := c) (Ev.cast (Ev.bin (c₁ := c) (Ev.nm rfl) Ev.int Bin.add) rfl) EvM.nil)) Tg.two rfl rfl rfl (by simp) (by intro _ _; rfl) (by rintro ⟨⟩ rfl; first | exact .inr rfl | exact .inl rfl) Exs.nil
            · rw [if_neg hm] at h
              cases h
              refine ⟨_, Wh.stop (EvT.cast (EvT.cmp (c₁ := c) (Ev.bin (c₁ := c) (Ev.nm rfl) (Ev.nm rfl) (Bin.mod (by omega))) Ev.int Cmp.eq) (by rw [em]; exact decide_eq_false hm)), ?_⟩
              refine Exs.append (c₁ := c) (d := NN (q, m)) (ds := found.map NN) (by walk_at "st") rfl (by rw [List.length_map]; omega) (by intro _; rfl) rfl ?_
              rw [List.map_append]
              refine Exs.set (c₁ := c) (d := N1 (if q = 2 then 3 else q + 2)) (Ev.ite (c₁ := c) (b := decide (q = 2)) (EvT.cast (EvT.cmp (c₁ := c) (Ev.nm rfl) Ev.int Cmp.eq) e2) (fun w => ?_) (fun w => ?_)) rfl (by intro _ _; rfl) Exs.nil
              · rw [if_pos (of_decide_eq_true w)]; exact Ev.int
              · rw [if_neg (of_decide_eq_false w)]; exact Ev.cast (Ev.bin (c₁ := c) (Ev.nm rfl) Ev.int Bin.add) rfl
          · cases h
      · rw [if_neg h1] at h
        cases h
        exact ⟨_, Wh.stop (EvT.cast (by walk_at "st") (by rw [et]; exact decide_eq_false h1)), Exs.ret' (Ev.nm rfl)⟩
    · cases h

theorem f_divisors {i : Int} {r : List Int} (h : divO i = some r) : Fn C 4 "divisors" [.int i] c (.list (r.map .int)) c := by
  refine Fn.intro (k := 3) (i := 8) (by with_unfolding_all rfl) ["n"] (fun _ _ _ => all1 fun _ => rfl) rfl (nodup_of rfl) (names_of rfl) ?_
  unfold divO at h
  obtain ⟨l, hl, h⟩ := Option.bind_eq_some_iff.mp h
  obtain ⟨f, hf, h⟩ := Option.bind_eq_some_iff.mp h
  have g := @f_pfactors C c _ _ hl
  refine Exs.set (c₁ := c) (d := LN [1]) (EvF.ev (EvF.list (EvL.cons (d := N1 1) Ev.int EvL.nil))) rfl (by intro _ _; rfl) ?_
  refine Exs.forEx (c₁ := c) (c₂ := c) (items := l.map NN) (EvIt.list (Ev.call (EvL.cons (c₁ := c) (Ev.callB .abs (EvL.cons (c₁ := c) (Ev.nm rfl) EvL.nil) CallV.abs) EvL.nil) g)) Tg.two rfl rfl (by intro _ _; rfl) ?_
  refine (fun (H : ∀ (l : List (Nat × Nat)) (found : List Nat), divL l found = some f → ∃ V', Fo C 3 _ _ _ _ (l.map NN) [("n", .v (.int i)), ("found", .v (LN found))] c (.nx V' c) ∧ Exs C 3 _ V' c _ (.rt (.list (r.map .int)) c)) => H l [1] hf) ?_
  clear hl hf g
  intro l
  induction l with
  | nil =>
    intro found hd
    rw [divL] at hd
    cases hd
    split at h
    · rename_i hz
      cases h
      have hz' : f.length < 64 := by simpa [Nat.blt_eq] using hz
      refine ⟨_, .nil, Exs.ret' (EvF.ev (EvF.callB .sorted (EvL.cons (c₁ := c) (d := .list ((f.map fun n : Nat => (n : Int)).map .int)) (Ev.cast (Ev.nm rfl) (by rw [List.map_map]; rfl)) EvL.nil) (CallF.sorted (by rw [List.length_map]; exact hz'))))⟩
    · cases h
  | cons x l ih =>
    intro found hd
    rw [divL] at hd
    split at hd
    · rename_i hok
      simp only [Bool.and_eq_true] at hok
      obtain ⟨⟨⟨k1, k2⟩, k3⟩, k4⟩ := hok
      have k1' : x.2 ≤ 100 := Nat.le_of_ble_eq_true k1
      have k2' : found.length ≤ 100 := Nat.le_of_ble_eq_true k2
      have k3' : x.1 ≤ 100000 := Nat.le_of_ble_eq_true k3
      have k4' : ∀ y ∈ found, y < 16777216 := fun y m => by have := List.all_eq_true.mp k4 y m; simpa [Nat.blt_eq] using this
      obtain ⟨V', w, z⟩ := ih _ hd
      refine ⟨V', .turn rfl ?_ w, z⟩
      refine Exs.keep ["n", "found"] (V₁ := [("n", .v (.int i)), ("found", .v (LN (mul2 x.1 x.2 found))), ("prime", .v (N1 x.1)), ("many", .v (N1 x.2))]) ?_
      refine Exs.at [("n", .v (.int i)), ("found", .v (LN found)), ("prime", .v (N1 x.1)), ("many", .v (N1 x.2))] ?_
      have hout : (found.map N1).flatMap (fun d => (rngInts 0 1 (x.2 + 1)).map fun t => match d, t with | .int a, .int b => .int (a * (x.1 : Int) ^ b.toNat) | d, _ => d) = (mul2 x.1 x.2 found).map N1 := by
        unfold mul2 rngInts
        rw [List.flatMap_map, List.map_flatMap]
        congr 1
        funext one
        rw [List.map_map, List.map_map]
        refine List.map_congr_left fun t _ => ?_
        show D.int ((one : Int) * (x.1 : Int) ^ (0 + (t : Int) * 1).toNat) = D.int ((one * x.1 ^ t : Nat) : Int)
        have : (0 + (t : Int) * 1).toNat = t := by omega
        rw [this]; push_cast; rfl
      have hsz : Builtin.Range.rangeSize 0 ((x.2 : Int) + 1) 1 = ((x.2 + 1 : Nat) : Int) := by
        have := @rngSize_up (x.2 + 1)
        push_cast at this ⊢; exact this
      refine Exs.cons (Ex.setC2 (c₁ := c) (c₂ := c) (Γc := capΓ _ _) (items := found.map N1) (outs := (mul2 x.1 x.2 found).map N1) (EvIt.list (Ev.nm rfl)) (.name _ _) (.name _ _) (by simp) (CompOK.of (by with_unfolding_all rfl)) (fun x m => by
        rcases List.mem_cons.mp m with rfl | m
        · rfl
        · rcases List.mem_cons.mp m with rfl | m
          · rfl
          · cases m) (by intro _ _; rfl) ?_ ?_ (isLoc_of rfl) (fun _ q => swaps_true q rfl) (by intro _ _; rfl)) ?_
      · rw [← hout]
        refine CR.flat _ _ fun d m => ?_
        obtain ⟨one, m1, rfl⟩ := List.mem_map.mp m
        refine ⟨rfl, rfl, 0, (x.2 : Int) + 1, 1, x.2 + 1, _, Ev.callB .range (EvL.cons (c₁ := c) (Ev.bin (c₁ := c) (Ev.nm rfl) Ev.int Bin.add) EvL.nil) CallV.range1, ?_, hsz, rfl, fun t mt => ⟨rfl, ?_⟩⟩
        · exact rng_small (by omega) (by omega) (by omega) hsz (by omega)
        · obtain ⟨j, mj, rfl⟩ := List.mem_map.mp mt
          have hj := List.mem_range.mp mj
          have := k4' one m1
          exact Ev.bin (c₁ := c) (Ev.nm rfl) (Ev.bin (c₁ := c) (d := .int ((x.1 : Int) ^ (0 + (j : Int) * 1).toNat)) (Ev.nm rfl) (Ev.nm rfl) (Bin.pow (by omega) (by omega) (by omega))) (Bin.mul (.inl (by omega)))
      · rw [List.length_map]
        unfold mul2
        have : ∀ l : List Nat, (l.flatMap fun one => (List.range (x.2 + 1)).map fun t => one * x.1 ^ t).length = l.length * (x.2 + 1) := by
          intro l
          induction l with
          | nil => simp
          | cons a l ih => rw [List.flatMap_cons, List.length_append, ih, List.length_map, List.length_range, List.length_cons, Nat.add_mul]; omega
        rw [this]
        have := Nat.mul_le_mul k2' (show x.2 + 1 ≤ 101 by omega)
        omega
      · exact Exs.frzTo [("n", .v (.int i)), ("found", .v (LN (mul2 x.1 x.2 found))), ("prime", .v (N1 x.1)), ("many", .v (N1 x.2))] Exs.nil
    · cases hd
end
noncomputable abbrev LZ (f : List Int) : D := .list (f.map .int)
noncomputable def optZ : Option (List Int) → D
  | none => .none
  | some l => LZ l
noncomputable def lastZ (f : List Int) : Int := f.getD (f.length - 1) 0
noncomputable def redN (p : Nat) (f : List Int) : List Nat := f.map fun x => (x.fmod p).toNat
/-- what degrees_mod answers for a prime -/
noncomputable def dmP (p : Nat) (g : List Nat) : Option (Option (List Int)) :=
  (mfO p g).bind fun pairs => if (Nat.ble pairs.length 60 && pairs.all fun x => Nat.ble x.1.length 100) = true then
    (if (pairs.any fun x => Nat.blt 1 x.2) = true then some none else some (some (sortZ (pairs.map fun x => (x.1.length : Int) - 1)))) else none
noncomputable def dmO (f : List Int) (i : Int) : Option (Option (List Int)) :=
  (primO i).bind fun pr => if pr = false then some none else if (lastZ f).fmod i = 0 then some none else dmP i.toNat (redN i.toNat f)
/-- a whole number of which the text knows whether it is a prime -/
noncomputable def PrOK (i : Int) : Prop := primO i = some false ∨ ∃ p : Nat, i = (p : Int) ∧ isPr p ∧ primO i = some true

section
variable {C : Cx} {k : Nat} {sc : Scope} {Γ : List (Str × D)} {V : Vs} {c c₁ c₂ : Int}
theorem lookup_Z (a : List Int) (i : Nat) (h : i < a.length) : (a.map D.int)[i]? = some (.int (a.getD i 0)) := by
  rw [List.getElem?_map, List.getElem?_eq_getElem h, List.getD_eq_getElem?_getD, List.getElem?_eq_getElem h]; rfl
theorem Ev.lastZ {value slice : Expr} {pos : Pos} {a : List Int} (hv : Ev C k sc Γ c value (LZ a) c₁) (hi : Ev C k sc Γ c₁ slice (.int (-1)) c₂) (h1 : 1 ≤ a.length) (hz : a.length ≤ 1000000)
    (hs : ∀ o i, subscripted slice false o i = operate [o, i] (getItem o i) := by intro _ _; rfl) : Ev C k sc Γ c (.Subscript value slice pos) (.int (Mine.lastZ a)) c₂ := by
  refine Ev.itemNeg hv hi (by omega) (by simp; omega) ?_ (by simpa using hz) hs
  have : (-1 + ((a.map D.int).length : Int)).toNat = a.length - 1 := by rw [List.length_map]; omega
  rw [this]
  exact lookup_Z a _ (by omega)
theorem Ev.itemZ {value slice : Expr} {pos : Pos} {a : List Int} {i : Int} (hv : Ev C k sc Γ c value (LZ a) c₁) (hi : Ev C k sc Γ c₁ slice (.int i) c₂) (h0 : 0 ≤ i) (h1 : i < a.length) (hz : a.length ≤ 1000000)
    (hs : ∀ o i, subscripted slice false o i = operate [o, i] (getItem o i) := by intro _ _; rfl) : Ev C k sc Γ c (.Subscript value slice pos) (.int (a.getD i.toNat 0)) c₂ :=
  Ev.item hv hi h0 (lookup_Z a _ (by omega)) (by simpa using hz) hs
theorem CallV.lenZ {a : List Int} (hz : a.length ≤ 1000000) : CallV C (.builtin "len") [LZ a] (.int a.length) := by
  have := CallV.len (C := C) (ds := a.map D.int) (by simpa using hz)
  simpa using this
theorem fmod_toNat (x : Int) (p : Nat) (hp : 0 < p) : x.fmod (p : Int) = (((x.fmod (p : Int)).toNat : Nat) : Int) := by
  rw [Int.fmod_eq_emod_of_nonneg _ (by omega)]
  have := Int.emod_nonneg x (show (p : Int) ≠ 0 by omega)
  omega
theorem redN_len (p : Nat) (f : List Int) : (redN p f).length = f.length := by simp [redN]

theorem f_degmod {f : List Int} {i : Int} {r : Option (List Int)} (hi : PrOK i) (hf1 : 1 ≤ f.length) (hf2 : f.length ≤ 100) (h : dmO f i = some r) : Fn C 14 "degrees_mod" [LZ f, .int i] c (optZ r) c := by
  refine Fn.intro (k := 13) (i := 62) (by with_unfolding_all rfl) ["f", "p"] (fun _ _ _ => all2 fun _ _ => rfl) rfl (nodup_of rfl) (names_of rfl) ?_
  unfold dmO at h
  rcases hi with hi | ⟨p, rfl, hp, hi⟩
  · rw [hi] at h
    cases h
    have g := @f_isprime C c i false hi
    exact Exs.ret (Ex.ifT (c₁ := c) (EvT.or_true (EvT.cast (EvT.not (EvT.bool (Ev.call (EvL.cons (c₁ := c) (Ev.nm rfl) EvL.nil) g))) rfl)) (Exs.ret' Ev.none))
  · have hpp := hp.pos
    have g := @f_isprime C c p true hi
    rw [hi] at h
    replace h : (if (Mine.lastZ f).fmod p = 0 then some none else dmP (p : Int).toNat (redN (p : Int).toNat f)) = some r := h
    rw [Int.toNat_natCast] at h
    by_cases hl : (Mine.lastZ f).fmod p = 0
    · rw [if_pos hl] at h
      cases h
      exact Exs.ret (Ex.ifT (c₁ := c) (EvT.or_false (c₁ := c) (EvT.cast (EvT.not (EvT.bool (Ev.call (EvL.cons (c₁ := c) (Ev.nm rfl) EvL.nil) g))) rfl) (EvT.or1 (EvT.cast (EvT.cmp (c₁ := c) (Ev.bin (c₁ := c) (Ev.lastZ (c₁ := c) (Ev.nm rfl) (Ev.neg Ev.int) hf1 (by omega)) (Ev.nm rfl) (Bin.mod (by omega))) Ev.int Cmp.eq) (by rw [hl]; rfl)))) (Exs.ret' Ev.none))
    · rw [if_neg hl] at h
      unfold dmP at h
      obtain ⟨pairs, hm, h⟩ := Option.bind_eq_some_iff.mp h
      have g2 := @f_mfactor C c _ _ _ hp hm
      split at h
      · rename_i hok
        rw [Bool.and_eq_true] at hok
        have hl1 : pairs.length ≤ 60 := Nat.le_of_ble_eq_true hok.1
        have hl2 : ∀ x ∈ pairs, x.1.length ≤ 100 := fun x m => Nat.le_of_ble_eq_true (List.all_eq_true.mp hok.2 x m)
        refine Exs.iteN (c₁ := c) (c₂ := c) (V' := [("f", .v (LZ f)), ("p", .v (N1 p))]) (b := false) (EvT.or_false (c₁ := c) (EvT.cast (EvT.not (EvT.bool (Ev.call (EvL.cons (c₁ := c) (Ev.nm rfl) EvL.nil) g))) rfl) (EvT.or1 (EvT.cast (EvT.cmp (c₁ := c) (Ev.bin (c₁ := c) (Ev.lastZ (c₁ := c) (Ev.nm rfl) (Ev.neg Ev.int) hf1 (by omega)) (Ev.nm rfl) (Bin.mod (by omega))) Ev.int Cmp.eq) (by simpa using hl)))) (fun q => nomatch q) (fun _ => Exs.nil) ?_
        refine Exs.unp (c₁ := c) (ds := [N1 (lastN (redN p f)), .list (pairs.map P2)]) (Ev.call (EvL.cons (c₁ := c) (d := LN (redN p f)) (EvF.ev (EvF.cast (EvF.compMap (c₁ := c) (items := f.map D.int) (fun d => match d with | .int x => N1 ((x.fmod (p : Int)).toNat) | d => d) (EvIt.list (Ev.nm rfl)) (.name _ _) (by with_unfolding_all rfl) (fun _ _ => rfl) (fun d md => ?_) (by simp; omega) (by intro _ _; rfl)) ?_)) (EvL.cons (c₁ := c) (Ev.nm rfl) EvL.nil)) g2) Tg.two rfl rfl rfl (by intro _ _; rfl) (by intro _ _; rfl) ?_
        · obtain ⟨x, mx, rfl⟩ := List.mem_map.mp md
          refine Ev.cast (Ev.bin (c₁ := c) (Ev.nm rfl) (Ev.nm rfl) (Bin.mod (by omega))) ?_
          show D.int _ = D.int _
          rw [← fmod_toNat x p (by omega)]
        · unfold redN; rw [List.map_map, List.map_map]; rfl
        · refine Exs.at [("f", .v (LZ f)), ("p", .v (N1 p)), ("lead", .v (N1 (lastN (redN p f)))), ("pairs", .v (.list (pairs.map P2)))] ?_
          have hany : (pairs.map P2).map (fun d => match d with | .tup [_, .int m] => D.bool (decide (1 < m)) | d => d) = (pairs.map fun x => Nat.blt 1 x.2).map D.bool := by
            rw [List.map_map, List.map_map]
            refine List.map_congr_left fun x _ => ?_
            show D.bool (decide ((1 : Int) < (x.2 : Int))) = D.bool (Nat.blt 1 x.2)
            congr 1
            rw [Bool.eq_iff_iff, decide_eq_true_eq, Nat.blt_eq]; omega
          have ha : (pairs.map fun x => Nat.blt 1 x.2).any id = pairs.any fun x => Nat.blt 1 x.2 := by rw [List.any_map]; rfl
          refine Exs.iteR (c₁ := c) (c₃ := c) (V' := [("f", .v (LZ f)), ("p", .v (N1 p)), ("lead", .v (N1 (lastN (redN p f)))), ("pairs", .v (.list (pairs.map P2)))]) (b := pairs.any fun x => Nat.blt 1 x.2)
            (EvT.bool (Ev.cast (Ev.callB .any (EvL.cons (c₁ := c) (d := .list ((pairs.map fun x => Nat.blt 1 x.2).map D.bool)) (EvF.ev (EvF.cast (EvF.compMap (c₁ := c) (items := pairs.map P2) (fun d => match d with | .tup [_, .int m] => D.bool (decide (1 < m)) | d => d) (EvIt.list (Ev.nm rfl)) Tg.two (by with_unfolding_all rfl) (fun d md => ?_) (fun d md => ?_) (by simp; omega) (by intro _ _; rfl)) hany)) EvL.nil) CallV.any) (by rw [ha]))) (fun hb => ?_) (fun _ => Exs.nil) (fun hb => ?_)
          · obtain ⟨x, mx, rfl⟩ := List.mem_map.mp md; rfl
          · obtain ⟨x, mx, rfl⟩ := List.mem_map.mp md
            exact Ev.cmp (c₁ := c) (Ev.nm rfl) Ev.int Cmp.gt
          · rw [if_pos hb] at h; cases h
            exact Exs.ret' Ev.none
          · rw [if_neg (by rw [hb]; simp)] at h; cases h
            refine Exs.ret' (EvF.ev (EvF.callB .sorted (EvL.cons (c₁ := c) (d := LZ (pairs.map fun x => (x.1.length : Int) - 1)) (EvF.ev (EvF.cast (EvF.compMap (c₁ := c) (items := pairs.map P2) (fun d => match d with | .tup [.list a, _] => D.int ((a.length : Int) - 1) | d => d) (EvIt.list (Ev.nm rfl)) Tg.two (by with_unfolding_all rfl) (fun d md => ?_) (fun d md => ?_) (by simp; omega) (by intro _ _; rfl)) ?_)) EvL.nil) (CallF.sorted (by rw [List.length_map]; omega))))
            · obtain ⟨x, mx, rfl⟩ := List.mem_map.mp md; rfl
            · obtain ⟨x, mx, rfl⟩ := List.mem_map.mp md
              refine Ev.bin (c₁ := c) (Ev.callB .len (EvL.cons (c₁ := c) (Ev.nm rfl) EvL.nil) (CallV.len (by have := hl2 x mx; simp; omega))) Ev.int Bin.sub
            · rw [List.map_map, List.map_map]
              refine List.map_congr_left fun x _ => ?_
              show D.int (((x.1.map N1).length : Int) - 1) = D.int ((x.1.length : Int) - 1)
              rw [List.length_map]
      · cases h
end
noncomputable def sumsS (d : Int) (found : List Int) : List Int := found ++ (found.filter fun o => !(found.any (· == d + o))).map (d + ·)
noncomputable def sumsG : List Int → List Int → Option (List Int)
  | [], found => if Nat.ble found.length 60 = true then some (sortZ found) else none
  | d :: r, found => if Nat.ble found.length 60 = true then sumsG r (sumsS d found) else none
noncomputable def sumsO (l : List Int) : Option (List Int) := sumsG l [0]
noncomputable def rngZ (n : Nat) : List Int := (List.range n).map fun i : Nat => (i : Int)
theorem rngZ_eq (n : Nat) : rngInts 0 1 n = (rngZ n).map D.int := by
  unfold rngInts rngZ
  rw [List.map_map]
  refine List.map_congr_left fun i _ => ?_
  show D.int (0 + (i : Int) * 1) = D.int (i : Int)
  congr 1; omega
noncomputable def dlG (f : List Int) : List Int → List Int → Option (List Int)
  | [], left => some left
  | p :: r, left => if Nat.ble left.length 100 = true then (dmO f p).bind fun t => match t with
    | none => dlG f r left
    | some t => (sumsO t).bind fun s => dlG f r (left.filter fun d => s.any (· == d)) else none
noncomputable def dlO (f : List Int) (ps : List Int) : Option (List Int) := dlG f ps (rngZ f.length)
noncomputable def eisO (f : List Int) (p : Int) : Option Bool := (primO p).bind fun pr => if pr = false then some false else if (lastZ f).fmod p = 0 then some false else if (f.getD 0 0).fmod (p * p) = 0 then some false else some ((f.take (f.length - 1)).all fun x => x.fmod p == 0)

section
variable {C : Cx} {k : Nat} {sc : Scope} {Γ : List (Str × D)} {V : Vs} {c c₁ c₂ : Int}
noncomputable def intOf : D → Int
  | .int x => x
  | _ => 0
theorem filZ (q : Int → Bool) (l : List Int) : (l.map D.int).filter (fun d => q (intOf d)) = (l.filter q).map D.int := by
  rw [List.filter_map]; rfl

theorem f_sums {l r : List Int} (h : sumsO l = some r) : Fn C 2 "sums_of" [LZ l] c (LZ r) c := by
  refine Fn.intro (k := 1) (i := 63) (by with_unfolding_all rfl) ["degrees"] (fun _ _ _ => all1 fun _ => rfl) rfl (nodup_of rfl) (names_of rfl) ?_
  unfold sumsO at h
  refine Exs.set (c₁ := c) (d := LZ [0]) (EvF.ev (EvF.list (EvL.cons (d := .int 0) Ev.int EvL.nil))) rfl (by intro _ _; rfl) ?_
  refine Exs.forEx (c₁ := c) (c₂ := c) (items := l.map D.int) (EvIt.list (Ev.nm rfl)) (.name _ _) rfl rfl (by intro _ _; rfl) ?_
  refine (fun (H : ∀ (l' : List Int) (found : List Int), sumsG l' found = some r → ∃ V', Fo C 1 _ _ _ _ (l'.map D.int) [("degrees", .v (LZ l)), ("found", .v (LZ found))] c (.nx V' c) ∧ Exs C 1 _ V' c _ (.rt (LZ r) c)) => H l [0] h) ?_
  clear h
  intro l'
  induction l' with
  | nil =>
    intro found h
    rw [sumsG] at h
    split at h
    · rename_i hok
      have hl : found.length ≤ 60 := Nat.le_of_ble_eq_true hok
      cases h
      exact ⟨_, .nil, Exs.ret' (EvF.ev (EvF.callB .sorted (EvL.cons (c₁ := c) (Ev.nm rfl) EvL.nil) (CallF.sorted (by omega))))⟩
    · cases h
  | cons d l' ih =>
    intro found h
    rw [sumsG] at h
    split at h
    · rename_i hok
      have hl : found.length ≤ 60 := Nat.le_of_ble_eq_true hok
      obtain ⟨V', w, z⟩ := ih _ h
      refine ⟨V', .turn rfl ?_ w, z⟩
      refine Exs.keep ["degrees", "found"] (V₁ := [("degrees", .v (LZ l)), ("found", .v (LZ (sumsS d found))), ("degree", .v (.int d))]) ?_
      refine Exs.at [("degrees", .v (LZ l)), ("found", .v (LZ found)), ("degree", .v (.int d))] ?_
      refine Exs.set (c₁ := c) (d := LZ (sumsS d found)) (Ev.cast (Ev.bin (c₁ := c) (Ev.nm rfl) (EvF.ev (EvF.compFil (c₁ := c) (items := found.map D.int) (fun o => !(found.any (· == d + intOf o))) (fun o => .int (d + intOf o)) (EvIt.list (Ev.nm rfl)) (.name _ _) (by with_unfolding_all rfl) (fun _ _ => rfl) (fun x mx => ?_) (fun x mx _ => ?_) (by simp; omega) (by intro _ _; rfl))) (Bin.cat ?_)) ?_) rfl (by intro _ _; rfl) Exs.nil
      · obtain ⟨o, mo, rfl⟩ := List.mem_map.mp mx
        exact EvT.cmp (c₁ := c) (Ev.bin (c₁ := c) (Ev.nm rfl) (Ev.nm rfl) Bin.add) (Ev.nm rfl) Cmp.notin
      · obtain ⟨o, mo, rfl⟩ := List.mem_map.mp mx
        exact Ev.bin (c₁ := c) (Ev.nm rfl) (Ev.nm rfl) Bin.add
      · rw [List.length_map, List.length_map]
        have := List.length_filter_le (fun o => !(found.any (· == d + intOf o))) (found.map D.int)
        rw [List.length_map] at this
        omega
      · unfold sumsS
        show D.list _ = D.list _
        rw [List.map_append, filZ (fun o => !(found.any (· == d + o))), List.map_map, List.map_map]
        rfl
    · cases h

theorem f_degleft {f ps r : List Int} (hps : ∀ p ∈ ps, PrOK p) (hf1 : 1 ≤ f.length) (hf2 : f.length ≤ 100) (h : dlO f ps = some r) : Fn C 15 "degrees_left" [LZ f, LZ ps] c (LZ r) c := by
  refine Fn.intro (k := 14) (i := 64) (by with_unfolding_all rfl) ["f", "primes"] (fun _ _ _ => all2 fun _ _ => rfl) rfl (nodup_of rfl) (names_of rfl) ?_
  unfold dlO at h
  refine Exs.set (c₁ := c) (d := LZ (rngZ f.length)) (EvF.ev (EvF.cast (EvF.callB .list (EvL.cons (c₁ := c) (Ev.callB .range (EvL.cons (c₁ := c) (Ev.callB .len (EvL.cons (c₁ := c) (Ev.nm rfl) EvL.nil) (CallV.lenZ (by omega))) EvL.nil) CallV.range1) EvL.nil) (CallF.listRng (n := f.length) (rng_small (by omega) (by omega) (by omega) rngSize_up (by omega)) rngSize_up (by omega))) (rngZ_eq _))) rfl (by intro _ _; rfl) ?_
  refine Exs.forEx (c₁ := c) (c₂ := c) (items := ps.map D.int) (EvIt.list (Ev.nm rfl)) (.name _ _) rfl rfl (by intro _ _; rfl) ?_
  refine (fun (H : ∀ (ps' : List Int) (left : List Int), (∀ p ∈ ps', PrOK p) → dlG f ps' left = some r → ∃ V', Fo C 14 _ _ _ _ (ps'.map D.int) [("f", .v (LZ f)), ("primes", .v (LZ ps)), ("left", .v (LZ left))] c (.nx V' c) ∧ Exs C 14 _ V' c _ (.rt (LZ r) c)) => H ps _ hps h) ?_
  clear h hps
  intro ps'
  induction ps' with
  | nil =>
    intro left _ h
    rw [dlG] at h
    cases h
    exact ⟨_, .nil, Exs.ret' (Ev.nm rfl)⟩
  | cons p ps' ih =>
    intro left hps h
    rw [dlG] at h
    split at h
    · rename_i hok
      have hl : left.length ≤ 100 := Nat.le_of_ble_eq_true hok
      obtain ⟨t, ht, h⟩ := Option.bind_eq_some_iff.mp h
      have g := @f_degmod C c f p t (hps p List.mem_cons_self) hf1 hf2 ht
      have hps' : ∀ x ∈ ps', PrOK x := fun x m => hps x (List.mem_cons_of_mem _ m)
      cases t with
      | none =>
        obtain ⟨V', w, z⟩ := ih _ hps' h
        refine ⟨V', .turn rfl ?_ w, z⟩
        refine Exs.keep ["f", "primes", "left"] (V₁ := [("f", .v (LZ f)), ("primes", .v (LZ ps)), ("left", .v (LZ left)), ("p", .v (.int p)), ("told", .v (optZ none))]) ?_
        refine Exs.set (c₁ := c) (d := optZ none) (Ev.call (EvL.cons (c₁ := c) (Ev.nm rfl) (EvL.cons (c₁ := c) (Ev.nm rfl) EvL.nil)) g) rfl (by intro _ _; rfl) ?_
        exact Exs.iteN (c₁ := c) (c₂ := c) (b := false) (EvT.cast (EvT.cmp (c₁ := c) (Ev.nm rfl) Ev.none Cmp.isnot_none) rfl) (fun q => nomatch q) (fun _ => Exs.nil) Exs.nil
      | some t =>
        obtain ⟨s, hs, h⟩ := Option.bind_eq_some_iff.mp h
        have g2 := @f_sums C c t s hs
        obtain ⟨V', w, z⟩ := ih _ hps' h
        refine ⟨V', .turn rfl ?_ w, z⟩
        refine Exs.keep ["f", "primes", "left"] (V₁ := [("f", .v (LZ f)), ("primes", .v (LZ ps)), ("left", .v (LZ (left.filter fun d => s.any (· == d)))), ("p", .v (.int p)), ("told", .v (LZ t))]) ?_
        refine Exs.set (c₁ := c) (d := optZ (some t)) (Ev.call (EvL.cons (c₁ := c) (Ev.nm rfl) (EvL.cons (c₁ := c) (Ev.nm rfl) EvL.nil)) g) rfl (by intro _ _; rfl) ?_
        refine Exs.at [("f", .v (LZ f)), ("primes", .v (LZ ps)), ("left", .v (LZ left)), ("p", .v (.int p)), ("told", .v (LZ t))] ?_
        refine Exs.iteN (c₁ := c) (c₂ := c) (b := true) (EvT.cast (EvT.cmp (c₁ := c) (Ev.nm rfl) Ev.none Cmp.isnot_none) rfl) (fun _ => ?_) (fun q => nomatch q) Exs.nil
        refine Exs.setFil (c₁ := c) (items := left.map D.int) (fun d => s.any (· == intOf d)) (fun d => d) (EvIt.list (Ev.nm rfl)) (.name _ _) (by with_unfolding_all rfl) (fun _ _ => rfl) (fun x mx => ?_) (fun x mx _ => ?_) (by simp; omega) rfl (fun _ q => swaps_true q rfl) (by intro _ _; rfl) ?_
        · obtain ⟨o, mo, rfl⟩ := List.mem_map.mp mx
          exact EvT.cmp (c₁ := c) (Ev.nm rfl) (Ev.call (EvL.cons (c₁ := c) (Ev.nm rfl) EvL.nil) g2) Cmp.isin
        · obtain ⟨o, mo, rfl⟩ := List.mem_map.mp mx
          exact Ev.nm rfl
        · refine Exs.frzTo _ ?_ rfl
          refine Exs.at [("f", .v (LZ f)), ("primes", .v (LZ ps)), ("left", .v (LZ (left.filter fun d => s.any (· == d)))), ("p", .v (.int p)), ("told", .v (LZ t))] Exs.nil ?_
          have e : ((left.map D.int).filter fun d => s.any (· == intOf d)).map (fun d => d) = (left.filter fun d => s.any (· == d)).map D.int := by
            rw [List.map_id', filZ (fun d => s.any (· == d))]
          rw [e]
          rfl
    · cases h

theorem f_eis {f : List Int} {p : Int} {r : Bool} (hp : p ≤ 1000) (hf1 : 1 ≤ f.length) (hf2 : f.length ≤ 100) (h : eisO f p = some r) : Fn C 4 "is_eisenstein" [LZ f, .int p] c (.bool r) c := by
  refine Fn.intro (k := 3) (i := 60) (by with_unfolding_all rfl) ["f", "p"] (fun _ _ _ => all2 fun _ _ => rfl) rfl (nodup_of rfl) (names_of rfl) ?_
  unfold eisO at h
  obtain ⟨pr, hpr, h⟩ := Option.bind_eq_some_iff.mp h
  have g := @f_isprime C c p pr hpr
  cases pr with
  | false =>
    cases h
    exact Exs.ret (Ex.ifT (c₁ := c) (EvT.or_true (EvT.cast (EvT.not (EvT.bool (Ev.call (EvL.cons (c₁ := c) (Ev.nm rfl) EvL.nil) g))) rfl)) (Exs.ret' Ev.bool))
  | true =>
    have hp2 : 2 ≤ p := by
      unfold primO at hpr
      by_cases q : p < 2
      · rw [if_pos q] at hpr; cases hpr
      · omega
    have hpp : p * p ≠ 0 := by
      intro q
      rcases Int.mul_eq_zero.mp q with q | q <;> omega
    replace h : (if (Mine.lastZ f).fmod p = 0 then some false else if (f.getD 0 0).fmod (p * p) = 0 then some false else some ((f.take (f.length - 1)).all fun x => x.fmod p == 0)) = some r := h
    by_cases h1 : (Mine.lastZ f).fmod p = 0
    · rw [if_pos h1] at h
      cases h
      refine Exs.ret (Ex.ifT (c₁ := c) (EvT.or_false (c₁ := c) (EvT.cast (EvT.not (EvT.bool (Ev.call (EvL.cons (c₁ := c) (Ev.nm rfl) EvL.nil) g))) rfl) (EvT.or_true (EvT.cast (EvT.cmp (c₁ := c) (Ev.bin (c₁ := c) (Ev.lastZ (c₁ := c) (Ev.nm rfl) (Ev.neg Ev.int) hf1 (by omega)) (Ev.nm rfl) (Bin.mod (by omega))) Ev.int Cmp.eq) (by rw [h1]; rfl)))) (Exs.ret' Ev.bool))
    · rw [if_neg h1] at h
      by_cases h2 : (f.getD 0 0).fmod (p * p) = 0
      · rw [if_pos h2] at h
        cases h
        refine Exs.ret (Ex.ifT (c₁ := c) (EvT.or_false (c₁ := c) (EvT.cast (EvT.not (EvT.bool (Ev.call (EvL.cons (c₁ := c) (Ev.nm rfl) EvL.nil) g))) rfl) (EvT.or_false (c₁ := c) (EvT.cast (EvT.cmp (c₁ := c) (Ev.bin (c₁ := c) (Ev.lastZ (c₁ := c) (Ev.nm rfl) (Ev.neg Ev.int) hf1 (by omega)) (Ev.nm rfl) (Bin.mod (by omega))) Ev.int Cmp.eq) (by simpa using h1))
          (EvT.or1 (EvT.cast (EvT.cmp (c₁ := c) (Ev.bin (c₁ := c) (Ev.itemZ (c₁ := c) (i := 0) (Ev.nm rfl) Ev.int (by omega) (by omega) (by omega)) (Ev.bin (c₁ := c) (Ev.nm rfl) (Ev.nm rfl) (Bin.mul (.inl (by omega)))) (Bin.mod hpp)) Ev.int Cmp.eq) (by show (((f.getD 0 0).fmod (p * p)) == 0) = true; rw [h2]; rfl))))) (Exs.ret' Ev.bool))
      · rw [if_neg h2] at h
        cases h
        refine Exs.iteN (c₁ := c) (c₂ := c) (V' := [("f", .v (LZ f)), ("p", .v (.int p))]) (b := false) (EvT.or_false (c₁ := c) (EvT.cast (EvT.not (EvT.bool (Ev.call (EvL.cons (c₁ := c) (Ev.nm rfl) EvL.nil) g))) rfl) (EvT.or_false (c₁ := c) (EvT.cast (EvT.cmp (c₁ := c) (Ev.bin (c₁ := c) (Ev.lastZ (c₁ := c) (Ev.nm rfl) (Ev.neg Ev.int) hf1 (by omega)) (Ev.nm rfl) (Bin.mod (by omega))) Ev.int Cmp.eq) (by simpa using h1))
          (EvT.or1 (EvT.cast (EvT.cmp (c₁ := c) (Ev.bin (c₁ := c) (Ev.itemZ (c₁ := c) (i := 0) (Ev.nm rfl) Ev.int (by omega) (by omega) (by omega)) (Ev.bin (c₁ := c) (Ev.nm rfl) (Ev.nm rfl) (Bin.mul (.inl (by omega)))) (Bin.mod hpp)) Ev.int Cmp.eq) (by show (((f.getD 0 0).fmod (p * p)) == 0) = false; simpa using h2))))) (fun q => nomatch q) (fun _ => Exs.nil) ?_
        have hsl : sliceD (f.map D.int) none (some (-1)) = (f.take (f.length - 1)).map D.int := by
          have := sliceD_butLast (f.map D.int) 1 (by omega)
          rw [List.length_map, ← List.map_take] at this
          exact this
        have hmap : ((f.take (f.length - 1)).map D.int).map (fun d => D.bool ((intOf d).fmod p == 0)) = ((f.take (f.length - 1)).map fun x => x.fmod p == 0).map D.bool := by
          rw [List.map_map, List.map_map]; rfl
        refine Exs.ret' (Ev.cast (Ev.callB .all (EvL.cons (c₁ := c) (d := .list (((f.take (f.length - 1)).map fun x => x.fmod p == 0).map D.bool)) (EvF.ev (EvF.cast (EvF.compMap (c₁ := c) (items := (f.take (f.length - 1)).map D.int) (fun d => D.bool ((intOf d).fmod p == 0)) (EvIt.list (EvF.ev (EvF.cast (EvF.slice (c₁ := c) (c₂ := c) (c₃ := c) (Ev.nm rfl) EvO.none (EvO.some (Ev.neg Ev.int)) (by simp; omega)) hsl))) (.name _ _) (by with_unfolding_all rfl) (fun _ _ => rfl) (fun x mx => ?_) (by simp; omega) (by intro _ _; rfl)) hmap)) EvL.nil) CallV.all) ?_)
        · obtain ⟨o, mo, rfl⟩ := List.mem_map.mp mx
          exact Ev.cmp (c₁ := c) (Ev.bin (c₁ := c) (Ev.nm rfl) (Ev.nm rfl) (Bin.mod (by omega))) Ev.int Cmp.eq
        · congr 1
          rw [List.all_map]; rfl
end
noncomputable def zatZ (f : List Int) (n : Int) : Int := f.reverse.foldl (fun a x => a * n + x) 0
theorem eqv_LZ : ∀ a b : List Int, PyData.eqvAll (pyAll (a.map D.int)) (pyAll (b.map D.int)) = decide (a = b)
  | [], [] => rfl
  | [], _ :: _ => rfl
  | _ :: _, [] => rfl
  | a :: x, b :: y => by
    show (a == b && PyData.eqvAll (pyAll (x.map D.int)) (pyAll (y.map D.int))) = _
    rw [eqv_LZ x y, Bool.eq_iff_iff, Bool.and_eq_true, beq_iff_eq, decide_eq_true_eq, decide_eq_true_eq, List.cons.injEq]
theorem plain_LZ : ∀ a : List Int, plainAll (a.map D.int) = true
  | [] => rfl
  | a :: x => by show ((D.int a).plain && plainAll (x.map D.int)) = true; rw [plain_LZ x]; rfl
theorem depth_LZ : ∀ a : List Int, PyData.depthAll (pyAll (a.map D.int)) = 0
  | [] => rfl
  | a :: x => by show max 0 (PyData.depthAll (pyAll (x.map D.int))) = 0; rw [depth_LZ x]; rfl
theorem Cmp.eqZ {C : Cx} {a b : List Int} : Cmp C .Eq (LZ a) (LZ b) (decide (a = b)) :=
  Cmp.eqd (plain_LZ a) (plain_LZ b) (by show PyData.depthAll (pyAll (a.map D.int)) + 1 ≤ 60; rw [depth_LZ]; decide) (eqv_LZ a b)
theorem Cmp.eqS {C : Cx} {a b : Str} (ha : PyData.strOk a = true) (hb : PyData.strOk b = true) {r : Bool} (h : (a == b) = r) : Cmp C .Eq (.str a) (.str b) r :=
  Cmp.eqd ha hb (by show (0 : Nat) ≤ 60; decide) h

section
variable {C : Cx} {k : Nat} {sc : Scope} {Γ : List (Str × D)} {V : Vs} {c c₁ c₂ : Int}
/-- a loop that leaves the names as they were -/
theorem Fo.const {t : Expr} {xs : List (Str × Pos)} {body : List Stmt} {V : Vs} : ∀ (items : List D), (∀ d ∈ items, (tgD t d).length = xs.length ∧ Exs C k sc (putV (xs.map (·.1)) ((tgD t d).map .v) V) c body (.nx V c)) → Fo C k sc t xs body items V c (.nx V c)
  | [], _ => .nil
  | d :: ds, h => .turn (h d List.mem_cons_self).1 (h d List.mem_cons_self).2 (Fo.const ds fun x m => h x (List.mem_cons_of_mem _ m))

theorem f_zat {f : List Int} {n : Int} (hn : n.natAbs < 16777216) (hf : f.length ≤ 1000) : Fn C 2 "zat" [LZ f, .int n] c (.int (zatZ f n)) c := by
  refine Fn.intro (k := 1) (i := 54) (by with_unfolding_all rfl) ["p", "n"] (fun _ _ _ => all2 fun _ _ => rfl) rfl (nodup_of rfl) (names_of rfl) ?_
  refine Exs.set (c₁ := c) (d := .int 0) Ev.int rfl (by intro _ _; rfl) ?_
  refine Exs.forEx (c₁ := c) (c₂ := c) (items := f.reverse.map D.int) (by rw [List.map_reverse]; exact EvIt.rev (Ev.nm rfl)) (.name _ _) rfl rfl (by intro _ _; rfl) ?_
  unfold zatZ
  refine (fun (H : ∀ (l : List Int) (a : Int), ∃ V', Fo C 1 _ _ _ _ (l.map D.int) [("p", .v (LZ f)), ("n", .v (.int n)), ("found", .v (.int a))] c (.nx V' c) ∧ Exs C 1 _ V' c _ (.rt (.int (l.foldl (fun a x => a * n + x) a)) c)) => H f.reverse 0) ?_
  intro l
  induction l with
  | nil => intro a; exact ⟨_, .nil, Exs.ret' (Ev.nm rfl)⟩
  | cons x l ih =>
    intro a
    obtain ⟨V', w, z⟩ := ih (a * n + x)
    refine ⟨V', .turn rfl ?_ w, z⟩
    refine Exs.keep ["p", "n", "found"] (V₁ := [("p", .v (LZ f)), ("n", .v (.int n)), ("found", .v (.int (a * n + x))), ("number", .v (.int x))]) ?_
    exact Exs.set (c₁ := c) (d := .int (a * n + x)) (Ev.bin (c₁ := c) (Ev.bin (c₁ := c) (Ev.nm rfl) (Ev.nm rfl) (Bin.mul (.inr (by omega)))) (Ev.nm rfl) Bin.add) rfl (by intro _ _; rfl) Exs.nil

theorem f_zshift0 {f : List Int} (h1 : 1 ≤ f.length) (hf : f.length ≤ 1000) : Fn C 2 "zshift" [LZ f, .int 0] c (LZ f) c := by
  refine Fn.intro (k := 1) (i := 55) (by with_unfolding_all rfl) ["p", "n"] (fun _ _ _ => all2 fun _ _ => rfl) rfl (nodup_of rfl) (names_of rfl) ?_
  refine Exs.setO (c₁ := c) (ds := f.map D.int) (EvF.listN (EvL.cons (c₁ := c) (Ev.nm rfl) EvL.nil) (by simp; omega) rfl (by omega)) rfl (by intro _ _; rfl) ?_
  refine Exs.at [("p", .v (LZ f)), ("n", .v (.int 0)), ("found", .o (f.map D.int))] ?_
  refine Exs.for (c₁ := c) (c₂ := c) (V' := [("p", .v (LZ f)), ("n", .v (.int 0)), ("found", .o (f.map D.int))]) (items := rngInts 0 1 (f.length - 1)) (EvIt.rngN (Ev.cast (Ev.callB .range (EvL.cons (c₁ := c) (Ev.bin (c₁ := c) (Ev.callB .len (EvL.cons (c₁ := c) (Ev.nm rfl) EvL.nil) (CallV.lenZ (by omega))) Ev.int Bin.sub) EvL.nil) CallV.range1) ?_) (by omega)) (.name _ _) rfl rfl (by intro _ _; rfl) (Fo.const _ fun d md => ?_) (Exs.ret' (Ev.nm rfl))
  · show D.rng _ _ _ = D.rng _ _ _
    congr 1; omega
  · obtain ⟨lo, ml, rfl⟩ := List.mem_map.mp md
    have hlo := List.mem_range.mp ml
    refine ⟨rfl, ?_⟩
    refine Exs.keep ["p", "n", "found"] (V₁ := [("p", .v (LZ f)), ("n", .v (.int 0)), ("found", .o (f.map D.int)), ("low", .v (.int (0 + (lo : Int) * 1)))]) ?_
    refine Exs.at [("p", .v (LZ f)), ("n", .v (.int 0)), ("found", .o (f.map D.int)), ("low", .v (.int (0 + (lo : Int) * 1)))] ?_
    have hsz : Builtin.Range.rangeSize ((f.length : Int) - 2) (0 + (lo : Int) * 1 - 1) (-1) = ((f.length - 1 - lo : Nat) : Int) := by
      unfold Builtin.Range.rangeSize
      rw [if_neg (by omega), if_pos (by omega)]
      have : ((f.length : Int) - 2 - (0 + (lo : Int) * 1 - 1) - 1) / -(-1) + 1 = ((f.length - 1 - lo : Nat) : Int) := by
        rw [Int.neg_neg, Int.ediv_one]; omega
      exact this
    refine Exs.for (c₁ := c) (c₂ := c) (V' := [("p", .v (LZ f)), ("n", .v (.int 0)), ("found", .o (f.map D.int)), ("low", .v (.int (0 + (lo : Int) * 1)))]) (items := rngInts ((f.length : Int) - 2) (-1) (f.length - 1 - lo))
      (EvIt.rng (Ev.callB .range (EvL.cons (c₁ := c) (Ev.bin (c₁ := c) (Ev.callB .len (EvL.cons (c₁ := c) (Ev.nm rfl) EvL.nil) (CallV.lenZ (by omega))) Ev.int Bin.sub) (EvL.cons (c₁ := c) (Ev.bin (c₁ := c) (Ev.nm rfl) Ev.int Bin.sub) (EvL.cons (c₁ := c) (Ev.neg Ev.int) EvL.nil))) (CallV.range3 (by decide) (by decide))) (rng_small (by omega) (by omega) (by omega) hsz (by omega)) hsz) (.name _ _) rfl rfl (by intro _ _; rfl) (Fo.const _ fun d md => ?_) Exs.nil
    obtain ⟨j, mj, rfl⟩ := List.mem_map.mp md
    have hj := List.mem_range.mp mj
    refine ⟨rfl, ?_⟩
    refine Exs.keep ["p", "n", "found", "low"] (V₁ := [("p", .v (LZ f)), ("n", .v (.int 0)), ("found", .o (f.map D.int)), ("low", .v (.int (0 + (lo : Int) * 1))), ("at", .v (.int ((f.length : Int) - 2 + (j : Int) * -1)))]) ?_
    refine Exs.at [("p", .v (LZ f)), ("n", .v (.int 0)), ("found", .o (f.map D.int)), ("low", .v (.int (0 + (lo : Int) * 1))), ("at", .v (.int ((f.length : Int) - 2 + (j : Int) * -1)))] ?_
    have hat : ((f.length : Int) - 2 + (j : Int) * -1).toNat < f.length := by omega
    have hval : f.map D.int = (f.map D.int).set ((f.length : Int) - 2 + (j : Int) * -1).toNat (.int (f.getD ((f.length : Int) - 2 + (j : Int) * -1).toNat 0 + 0 * f.getD ((f.length : Int) - 2 + (j : Int) * -1 + 1).toNat 0)) := by
      rw [Int.zero_mul, Int.add_zero]
      refine List.ext_getElem? fun q => ?_
      rw [List.getElem?_set]
      split
      · rename_i hq
        subst hq
        rw [lookup_Z f _ hat, if_pos (by rw [List.length_map]; exact hat)]
      · rfl
    refine Exs.cons (V₁ := [("p", .v (LZ f)), ("n", .v (.int 0)), ("found", .o ((f.map D.int).set ((f.length : Int) - 2 + (j : Int) * -1).toNat (.int (f.getD ((f.length : Int) - 2 + (j : Int) * -1).toNat 0 + 0 * f.getD ((f.length : Int) - 2 + (j : Int) * -1 + 1).toNat 0)))), ("low", .v (.int (0 + (lo : Int) * 1))), ("at", .v (.int ((f.length : Int) - 2 + (j : Int) * -1)))]) (Ex.augItem (x := "found") (y := "at") (c₁ := c) (j := (f.length : Int) - 2 + (j : Int) * -1) (hasO_mem rfl) (mem_plain.mp (mem_of_lookup rfl)) (Ev.bin (c₁ := c) (Ev.nm rfl) (Ev.itemZ (c₁ := c) (a := f) (Ev.nm rfl) (Ev.bin (c₁ := c) (Ev.nm rfl) Ev.int Bin.add) (by omega) (by omega) (by omega)) (Bin.mul (.inl (by decide)))) (by omega) (lookup_Z f _ hat) (by simp; omega)) ?_
    rw [← hval]
    exact Exs.nil
end
/-- what kronecker_divisor leans on when it may try nothing -/
noncomputable def KrOK (f : List Int) : Prop := zatZ f 0 = 0 ∨ zatZ f 1 = 0 ∨ ∃ d0 d1 : List Int, divO ((zatZ f 0).natAbs : Int) = some d0 ∧ divO ((zatZ f 1).natAbs : Int) = some d1 ∧ 1 ≤ d0.length ∧ 1 ≤ d1.length ∧ d0.length ≤ 100 ∧ d1.length ≤ 100

section
variable {C : Cx} {k : Nat} {sc : Scope} {Γ : List (Str × D)} {V : Vs} {c c₁ c₂ : Int}
theorem f_points : Fn C 2 "value_points" [.int 2] c (LZ [0, 1]) c := by
  refine Fn.intro (k := 1) (i := 65) (by with_unfolding_all rfl) ["many"] (fun _ _ _ => all1 fun _ => rfl) rfl (nodup_of rfl) (names_of rfl) ?_
  refine Exs.setO (c₁ := c) (ds := [.int 0]) (EvF.list (EvL.cons (c₁ := c) Ev.int EvL.nil)) rfl (by intro _ _; rfl) ?_
  refine Exs.while (c₁ := c) (V' := [("many", .v (.int 2)), ("found", .o [.int 0, .int 1])]) (Wh.turn (c₁ := c) (c₂ := c) (V' := [("many", .v (.int 2)), ("found", .o [.int 0, .int 1])]) (EvT.cast (EvT.cmp (c₁ := c) (Ev.callB .len (EvL.cons (c₁ := c) (Ev.nm rfl) EvL.nil) (CallV.len (by simp))) (Ev.nm rfl) Cmp.lt) rfl) ?_
    (Wh.stop (EvT.cast (EvT.cmp (c₁ := c) (Ev.callB .len (EvL.cons (c₁ := c) (Ev.nm rfl) EvL.nil) (CallV.len (by simp))) (Ev.nm rfl) Cmp.lt) rfl))) (Exs.ret' (Ev.nm rfl))
  refine Exs.at [("many", .v (.int 2)), ("found", .o [.int 0])] ?_
  refine Exs.appendA (c₁ := c) (ds := [.int 0]) (d := .int 1) (Ev.ite (c₁ := c) (b := false) (EvT.cast (EvT.cmp (c₁ := c) (Ev.lastZ (c₁ := c) (a := [0]) (Ev.nm rfl) (Ev.neg Ev.int) (by simp) (by simp)) Ev.int Cmp.gt) rfl) (fun q => nomatch q) (fun _ => ?_)) trivial rfl (by simp) (by intro _; rfl) rfl Exs.nil
  exact Ev.cast (Ev.bin (c₁ := c) Ev.int (Ev.lastZ (c₁ := c) (a := [0]) (Ev.nm rfl) (Ev.neg Ev.int) (by simp) (by simp)) Bin.sub) rfl

theorem f_signed {i : Int} {ds : List Int} (h : divO (i.natAbs : Int) = some ds) (hz : ds.length ≤ 1000) : Fn C 5 "signed_divisors" [.int i] c (LZ (ds ++ ds.map (- ·))) c := by
  refine Fn.intro (k := 4) (i := 68) (by with_unfolding_all rfl) ["n"] (fun _ _ _ => all1 fun _ => rfl) rfl (nodup_of rfl) (names_of rfl) ?_
  have g := @f_divisors C c _ _ h
  refine Exs.set (c₁ := c) (d := LZ ds) (Ev.call (EvL.cons (c₁ := c) (Ev.callB .abs (EvL.cons (c₁ := c) (Ev.nm rfl) EvL.nil) CallV.abs) EvL.nil) g) rfl (by intro _ _; rfl) ?_
  refine Exs.ret' (Ev.cast (Ev.bin (c₁ := c) (Ev.nm rfl) (EvF.ev (EvF.compMap (c₁ := c) (items := ds.map D.int) (fun d => .int (-(intOf d))) (EvIt.list (Ev.nm rfl)) (.name _ _) (by with_unfolding_all rfl) (fun _ _ => rfl) (fun x mx => ?_) (by simp; omega) (by intro _ _; rfl))) (Bin.cat (by simp; omega))) ?_)
  · obtain ⟨o, mo, rfl⟩ := List.mem_map.mp mx
    exact Ev.neg (Ev.nm rfl)
  · show D.list _ = D.list _
    rw [List.map_append, List.map_map, List.map_map]; rfl

theorem f_lots {f : List Int} {d0 d1 : List Int} (hf : f.length ≤ 1000) (h0 : divO ((zatZ f 0).natAbs : Int) = some d0) (h1 : divO ((zatZ f 1).natAbs : Int) = some d1) (l0 : 1 ≤ d0.length) (l1 : 1 ≤ d1.length) (z0 : d0.length ≤ 100) (z1 : d1.length ≤ 100) :
    Fn C 6 "values_lots" [LZ f, LZ [0, 1], .int 0] c .none c := by
  refine Fn.intro (k := 5) (i := 69) (by with_unfolding_all rfl) ["f", "points", "most"] (fun _ _ _ => all3 fun _ _ _ => rfl) rfl (nodup_of rfl) (names_of rfl) ?_
  have g0 := @f_divisors C c _ _ h0
  have g1 := @f_signed C c (zatZ f 1) _ h1 (by omega)
  have ga := @f_zat C c f 0 (by decide) hf
  have gb := @f_zat C c f 1 (by decide) hf
  refine Exs.setMap (c₁ := c) (items := d0.map D.int) (fun d => .list [d]) (EvIt.list (Ev.call (EvL.cons (c₁ := c) (Ev.callB .abs (EvL.cons (c₁ := c) (Ev.call (EvL.cons (c₁ := c) (Ev.nm rfl) (EvL.cons (c₁ := c) (Ev.itemZ (c₁ := c) (a := [0, 1]) (i := 0) (Ev.nm rfl) Ev.int (by omega) (by simp) (by simp)) EvL.nil)) ga) EvL.nil) CallV.abs) EvL.nil) g0)) (.name _ _) (by with_unfolding_all rfl) (fun _ _ => rfl) (fun x mx => ?_) (by simp; omega) rfl (fun _ q => swaps_true q rfl) (by intro _ _; rfl) ?_
  · exact EvF.ev (EvF.list (EvL.cons (c₁ := c) (Ev.nm rfl) EvL.nil))
  · refine Exs.frzTo [("f", .v (LZ f)), ("points", .v (LZ [0, 1])), ("most", .v (.int 0)), ("rows", .v (.list ((d0.map D.int).map fun d => .list [d])))] ?_
    refine Exs.forOr (c₁ := c) (c₂ := c) (items := [.int 1]) (EvIt.list (EvF.ev (EvF.cast (EvF.slice (c₁ := c) (c₂ := c) (c₃ := c) (ds := [.int 0, .int 1]) (Ev.nm rfl) (EvO.some Ev.int) EvO.none (by simp)) rfl))) (.name _ _) rfl rfl (by intro _ _; rfl) (.inl (Fo.ret rfl ?_))
    refine Exs.set (c₁ := c) (d := LZ (d1 ++ d1.map (- ·))) (Ev.call (EvL.cons (c₁ := c) (Ev.call (EvL.cons (c₁ := c) (Ev.nm rfl) (EvL.cons (c₁ := c) (Ev.nm rfl) EvL.nil)) gb) EvL.nil) g1) rfl (by intro _ _; rfl) ?_
    refine Exs.ret (Ex.ifT (c₁ := c) (EvT.cast (EvT.cmp (c₁ := c) (Ev.bin (c₁ := c) (Ev.callB .len (EvL.cons (c₁ := c) (Ev.nm rfl) EvL.nil) (CallV.len (by simp; omega))) (Ev.callB .len (EvL.cons (c₁ := c) (Ev.nm rfl) EvL.nil) (CallV.lenZ (by simp; omega))) (Bin.mul (.inl (by simp; omega)))) (Ev.nm rfl) Cmp.gt) ?_) (Exs.ret' Ev.none))
    rw [decide_eq_true_eq]
    have e1 : (0 : Int) < (((d0.map D.int).map fun d => D.list [d]).length : Int) := by simp; omega
    have e2 : (0 : Int) < ((d1 ++ d1.map (- ·)).length : Int) := by simp; omega
    exact Int.mul_pos e1 e2

theorem f_kron {f : List Int} (hf : f.length = 3 ∨ f.length = 4) (hk : KrOK f) : ∃ (w : Str) (d : D), (w = "found" ∨ w = "many") ∧ Fn C 7 "kronecker_divisor" [LZ f, .int 0] c (.tup [.str w, d]) c := by
  have ga := @f_zat C c f 0 (by decide) (by omega)
  have gb := @f_zat C c f 1 (by decide) (by omega)
  have gp := @f_points C c
  have hdeg : (((f.length : Int) - 1).fdiv 2) = 1 := by rcases hf with h | h <;> (rw [h]; rfl)
  by_cases h0 : zatZ f 0 = 0
  · refine ⟨"found", LZ [-0, 1], .inl rfl, ?_⟩
    refine Fn.intro (k := 6) (i := 70) (by with_unfolding_all rfl) ["f", "most"] (fun _ _ _ => all2 fun _ _ => rfl) rfl (nodup_of rfl) (names_of rfl) ?_
    refine Exs.set (c₁ := c) (d := .int 1) (Ev.cast (Ev.bin (c₁ := c) (Ev.bin (c₁ := c) (Ev.callB .len (EvL.cons (c₁ := c) (Ev.nm rfl) EvL.nil) (CallV.lenZ (by omega))) Ev.int Bin.sub) Ev.int (Bin.fdiv (by decide) (by decide))) (by rw [hdeg])) rfl (by intro _ _; rfl) ?_
    refine Exs.set (c₁ := c) (d := LZ [0, 1]) (Ev.call (EvL.cons (c₁ := c) (d := .int 2) (Ev.cast (Ev.bin (c₁ := c) (Ev.nm rfl) Ev.int Bin.add) rfl) EvL.nil) gp) rfl (by intro _ _; rfl) ?_
    refine Exs.forOr (c₁ := c) (c₂ := c) (items := [.int 0, .int 1]) (EvIt.list (Ev.nm rfl)) (.name _ _) rfl rfl (by intro _ _; rfl) (.inl (Fo.ret rfl ?_))
    exact Exs.ret (Ex.ifT (c₁ := c) (EvT.cast (EvT.cmp (c₁ := c) (Ev.call (EvL.cons (c₁ := c) (Ev.nm rfl) (EvL.cons (c₁ := c) (Ev.nm rfl) EvL.nil)) ga) Ev.int Cmp.eq) (by rw [h0]; rfl)) (Exs.ret' (Ev.tup (EvL.cons (c₁ := c) Ev.str (EvL.cons (c₁ := c) (EvF.ev (EvF.list (EvL.cons (c₁ := c) (Ev.neg (Ev.nm rfl)) (EvL.cons (c₁ := c) Ev.int EvL.nil)))) EvL.nil)))))
  · by_cases h1 : zatZ f 1 = 0
    · refine ⟨"found", LZ [-1, 1], .inl rfl, ?_⟩
      refine Fn.intro (k := 6) (i := 70) (by with_unfolding_all rfl) ["f", "most"] (fun _ _ _ => all2 fun _ _ => rfl) rfl (nodup_of rfl) (names_of rfl) ?_
      refine Exs.set (c₁ := c) (d := .int 1) (Ev.cast (Ev.bin (c₁ := c) (Ev.bin (c₁ := c) (Ev.callB .len (EvL.cons (c₁ := c) (Ev.nm rfl) EvL.nil) (CallV.lenZ (by omega))) Ev.int Bin.sub) Ev.int (Bin.fdiv (by decide) (by decide))) (by rw [hdeg])) rfl (by intro _ _; rfl) ?_
      refine Exs.set (c₁ := c) (d := LZ [0, 1]) (Ev.call (EvL.cons (c₁ := c) (d := .int 2) (Ev.cast (Ev.bin (c₁ := c) (Ev.nm rfl) Ev.int Bin.add) rfl) EvL.nil) gp) rfl (by intro _ _; rfl) ?_
      refine Exs.forOr (c₁ := c) (c₂ := c) (items := [.int 0, .int 1]) (EvIt.list (Ev.nm rfl)) (.name _ _) rfl rfl (by intro _ _; rfl) (.inl (Fo.turn (c₁ := c) (V' := [("f", .v (LZ f)), ("most", .v (.int 0)), ("degree", .v (.int 1)), ("points", .v (LZ [0, 1])), ("point", .v (.int 0))]) rfl ?_ (Fo.ret rfl ?_)))
      · exact Exs.iteN (c₁ := c) (c₂ := c) (b := false) (EvT.cast (EvT.cmp (c₁ := c) (Ev.call (EvL.cons (c₁ := c) (Ev.nm rfl) (EvL.cons (c₁ := c) (Ev.nm rfl) EvL.nil)) ga) Ev.int Cmp.eq) (by simpa using h0)) (fun q => nomatch q) (fun _ => Exs.nil) Exs.nil
      · exact Exs.ret (Ex.ifT (c₁ := c) (EvT.cast (EvT.cmp (c₁ := c) (Ev.call (EvL.cons (c₁ := c) (Ev.nm rfl) (EvL.cons (c₁ := c) (Ev.nm rfl) EvL.nil)) gb) Ev.int Cmp.eq) (by rw [h1]; rfl)) (Exs.ret' (Ev.tup (EvL.cons (c₁ := c) Ev.str (EvL.cons (c₁ := c) (EvF.ev (EvF.list (EvL.cons (c₁ := c) (Ev.neg (Ev.nm rfl)) (EvL.cons (c₁ := c) Ev.int EvL.nil)))) EvL.nil)))))
    · rcases hk with q | q | ⟨d0, d1, e0, e1, l0, l1, z0, z1⟩
      · exact absurd q h0
      · exact absurd q h1
      · have gl := @f_lots C c f d0 d1 (by omega) e0 e1 l0 l1 z0 z1
        refine ⟨"many", .none, .inr rfl, ?_⟩
        refine Fn.intro (k := 6) (i := 70) (by with_unfolding_all rfl) ["f", "most"] (fun _ _ _ => all2 fun _ _ => rfl) rfl (nodup_of rfl) (names_of rfl) ?_
        refine Exs.set (c₁ := c) (d := .int 1) (Ev.cast (Ev.bin (c₁ := c) (Ev.bin (c₁ := c) (Ev.callB .len (EvL.cons (c₁ := c) (Ev.nm rfl) EvL.nil) (CallV.lenZ (by omega))) Ev.int Bin.sub) Ev.int (Bin.fdiv (by decide) (by decide))) (by rw [hdeg])) rfl (by intro _ _; rfl) ?_
        refine Exs.set (c₁ := c) (d := LZ [0, 1]) (Ev.call (EvL.cons (c₁ := c) (d := .int 2) (Ev.cast (Ev.bin (c₁ := c) (Ev.nm rfl) Ev.int Bin.add) rfl) EvL.nil) gp) rfl (by intro _ _; rfl) ?_
        refine Exs.forOr (c₁ := c) (c₂ := c) (items := [.int 0, .int 1]) (EvIt.list (Ev.nm rfl)) (.name _ _) rfl rfl (by intro _ _; rfl) (.inr ⟨[("f", .v (LZ f)), ("most", .v (.int 0)), ("degree", .v (.int 1)), ("points", .v (LZ [0, 1])), ("point", .v (.int 1))], Fo.turn (c₁ := c) (V' := [("f", .v (LZ f)), ("most", .v (.int 0)), ("degree", .v (.int 1)), ("points", .v (LZ [0, 1])), ("point", .v (.int 0))]) rfl ?_ (Fo.turn (c₁ := c) (V' := [("f", .v (LZ f)), ("most", .v (.int 0)), ("degree", .v (.int 1)), ("points", .v (LZ [0, 1])), ("point", .v (.int 1))]) rfl ?_ .nil), ?_⟩)
        · exact Exs.iteN (c₁ := c) (c₂ := c) (b := false) (EvT.cast (EvT.cmp (c₁ := c) (Ev.call (EvL.cons (c₁ := c) (Ev.nm rfl) (EvL.cons (c₁ := c) (Ev.nm rfl) EvL.nil)) ga) Ev.int Cmp.eq) (by simpa using h0)) (fun q => nomatch q) (fun _ => Exs.nil) Exs.nil
        · exact Exs.iteN (c₁ := c) (c₂ := c) (b := false) (EvT.cast (EvT.cmp (c₁ := c) (Ev.call (EvL.cons (c₁ := c) (Ev.nm rfl) (EvL.cons (c₁ := c) (Ev.nm rfl) EvL.nil)) gb) Ev.int Cmp.eq) (by simpa using h1)) (fun q => nomatch q) (fun _ => Exs.nil) Exs.nil
        · refine Exs.set (c₁ := c) (d := .none) (Ev.call (EvL.cons (c₁ := c) (Ev.nm rfl) (EvL.cons (c₁ := c) (Ev.nm rfl) (EvL.cons (c₁ := c) (Ev.nm rfl) EvL.nil))) gl) rfl (by intro _ _; rfl) ?_
          exact Exs.ret (Ex.ifT (c₁ := c) (EvT.cast (EvT.cmp (c₁ := c) (Ev.nm rfl) Ev.none Cmp.is_none) rfl) (Exs.ret' (Ev.tup (EvL.cons (c₁ := c) Ev.str (EvL.cons (c₁ := c) Ev.none EvL.nil)))))
end
noncomputable def endsOf (f : List Int) : List Int := [0, (f.length : Int) - 1]
section
variable {C : Cx} {k : Nat} {sc : Scope} {Γ : List (Str × D)} {V : Vs} {c c₁ c₂ : Int}
theorem f_shown {f ps : List Int} {l : List Int} (hf : f.length = 3 ∨ f.length = 4) (hps : ∀ p ∈ ps, PrOK p) (hl : dlO f ps = some l) (hne : l ≠ endsOf f) (hk : KrOK f) : Fn C 16 "shown_prime" [LZ f, .list [], LZ ps, .int 0] c .none c := by
  obtain ⟨w, d, hw, gk⟩ := @f_kron C c f hf hk
  have g := @f_degleft C c f ps l hps (by omega) (by omega) hl
  refine Fn.intro (k := 15) (i := 71) (by with_unfolding_all rfl) ["f", "shifts", "primes", "most"] (fun _ _ _ => all4 fun _ _ _ _ => rfl) rfl (nodup_of rfl) (names_of rfl) ?_
  refine Exs.iteN (c₁ := c) (c₂ := c) (V' := [("f", .v (LZ f)), ("shifts", .v (.list [])), ("primes", .v (LZ ps)), ("most", .v (.int 0))]) (b := false) (EvT.cast (EvT.cmp (c₁ := c) (Ev.callB .len (EvL.cons (c₁ := c) (Ev.nm rfl) EvL.nil) (CallV.lenZ (by omega))) Ev.int Cmp.eq) (by rcases hf with h | h <;> rw [h] <;> rfl)) (fun q => nomatch q) (fun _ => Exs.nil) ?_
  refine Exs.for (c₁ := c) (c₂ := c) (items := []) (EvIt.list (Ev.nm rfl)) (.name _ _) rfl rfl (by intro _ _; rfl) .nil ?_
  refine Exs.iteN (c₁ := c) (c₂ := c) (V' := [("f", .v (LZ f)), ("shifts", .v (.list [])), ("primes", .v (LZ ps)), ("most", .v (.int 0))]) (b := false) (EvT.cast (EvT.cmp (c₁ := c) (Ev.call (EvL.cons (c₁ := c) (Ev.nm rfl) (EvL.cons (c₁ := c) (Ev.nm rfl) EvL.nil)) g) (EvF.ev (EvF.list (ds := [.int 0, .int ((f.length : Int) - 1)]) (EvL.cons (c₁ := c) Ev.int (EvL.cons (c₁ := c) (Ev.bin (c₁ := c) (Ev.callB .len (EvL.cons (c₁ := c) (Ev.nm rfl) EvL.nil) (CallV.lenZ (by omega))) Ev.int Bin.sub) EvL.nil)))) (Cmp.eqZ (a := l) (b := endsOf f))) (decide_eq_false hne)) (fun q => nomatch q) (fun _ => Exs.nil) ?_
  refine Exs.iteN (c₁ := c) (c₂ := c) (V' := [("f", .v (LZ f)), ("shifts", .v (.list [])), ("primes", .v (LZ ps)), ("most", .v (.int 0))]) (b := false) (EvT.cmp (c₁ := c) (d₁ := .str w) (Ev.itemT (c₁ := c) (Ev.call (EvL.cons (c₁ := c) (Ev.nm rfl) (EvL.cons (c₁ := c) (Ev.nm rfl) EvL.nil)) gk) Ev.int (by omega) rfl (by simp)) Ev.str (by rcases hw with rfl | rfl <;> exact Cmp.eqS (by decide +kernel) (by decide +kernel) (by decide +kernel))) (fun q => nomatch q) (fun _ => Exs.nil) ?_
  exact Exs.ret' Ev.none

theorem f_holdsD {f ps l : List Int} (hps : ∀ p ∈ ps, PrOK p) (hf1 : 1 ≤ f.length) (hf2 : f.length ≤ 100) (hz : ps.length ≤ 1000) (hl : dlO f ps = some l) : Fn C 16 "holds" [LZ f, .str "degrees", .tup (ps.map .int)] c (.bool (decide (l = endsOf f))) c := by
  have g := @f_degleft C c f ps l hps hf1 hf2 hl
  refine Fn.intro (k := 15) (i := 72) (by with_unfolding_all rfl) ["f", "way", "data"] (fun _ _ _ => all3 fun _ _ _ => rfl) rfl (nodup_of rfl) (names_of rfl) ?_
  refine Exs.iteN (c₁ := c) (c₂ := c) (V' := [("f", .v (LZ f)), ("way", .v (.str "degrees")), ("data", .v (.tup (ps.map .int)))]) (b := false) (EvT.cmp (c₁ := c) (Ev.nm rfl) Ev.str (Cmp.eqS (by decide +kernel) (by decide +kernel) (by decide +kernel))) (fun q => nomatch q) (fun _ => Exs.nil) ?_
  refine Exs.iteN (c₁ := c) (c₂ := c) (V' := [("f", .v (LZ f)), ("way", .v (.str "degrees")), ("data", .v (.tup (ps.map .int)))]) (b := false) (EvT.cmp (c₁ := c) (Ev.nm rfl) Ev.str (Cmp.eqS (by decide +kernel) (by decide +kernel) (by decide +kernel))) (fun q => nomatch q) (fun _ => Exs.nil) ?_
  refine Exs.ret (Ex.ifT (c₁ := c) (EvT.cmp (c₁ := c) (Ev.nm rfl) Ev.str (Cmp.eqS (by decide +kernel) (by decide +kernel) (by decide +kernel))) (Exs.ret' ?_))
  exact Ev.cmp (c₁ := c) (Ev.call (EvL.cons (c₁ := c) (Ev.nm rfl) (EvL.cons (c₁ := c) (EvF.ev (EvF.callB .list (EvL.cons (c₁ := c) (Ev.nm rfl) EvL.nil) (CallF.list_tup (by simp; omega)))) EvL.nil)) g) (EvF.ev (EvF.list (ds := [.int 0, .int ((f.length : Int) - 1)]) (EvL.cons (c₁ := c) Ev.int (EvL.cons (c₁ := c) (Ev.bin (c₁ := c) (Ev.callB .len (EvL.cons (c₁ := c) (Ev.nm rfl) EvL.nil) (CallV.lenZ (by omega))) Ev.int Bin.sub) EvL.nil)))) (Cmp.eqZ (a := l) (b := endsOf f))

theorem f_holdsE {f : List Int} {p : Int} {r : Bool} (hp : p ≤ 1000) (hf1 : 1 ≤ f.length) (hf2 : f.length ≤ 100) (h : eisO f p = some r) : Fn C 6 "holds" [LZ f, .str "eisenstein", .tup [.int 0, .int p]] c (.bool r) c := by
  have g := @f_eis C c f p r hp hf1 hf2 h
  have gz := @f_zshift0 C c f hf1 (by omega)
  refine Fn.intro (k := 5) (i := 72) (by with_unfolding_all rfl) ["f", "way", "data"] (fun _ _ _ => all3 fun _ _ _ => rfl) rfl (nodup_of rfl) (names_of rfl) ?_
  refine Exs.iteN (c₁ := c) (c₂ := c) (V' := [("f", .v (LZ f)), ("way", .v (.str "eisenstein")), ("data", .v (.tup [.int 0, .int p]))]) (b := false) (EvT.cmp (c₁ := c) (Ev.nm rfl) Ev.str (Cmp.eqS (by decide +kernel) (by decide +kernel) (by decide +kernel))) (fun q => nomatch q) (fun _ => Exs.nil) ?_
  refine Exs.ret (Ex.ifT (c₁ := c) (EvT.cmp (c₁ := c) (Ev.nm rfl) Ev.str (Cmp.eqS (by decide +kernel) (by decide +kernel) (by decide +kernel))) (Exs.ret' ?_))
  exact Ev.call (EvL.cons (c₁ := c) (Ev.call (EvL.cons (c₁ := c) (Ev.nm rfl) (EvL.cons (c₁ := c) (Ev.itemT (c₁ := c) (Ev.nm rfl) Ev.int (by omega) rfl (by simp)) EvL.nil)) gz) (EvL.cons (c₁ := c) (Ev.itemT (c₁ := c) (Ev.nm rfl) Ev.int (by omega) rfl (by simp)) EvL.nil)) g
end
section
variable {C : Cx} {k : Nat} {sc : Scope} {Γ : List (Str × D)} {V : Vs} {c c₁ c₂ : Int} {rest : List Stmt} {o : Out}
/-- box[1] -/
theorem Ev.box1 {value slice : Expr} {pos : Pos} (hv : Ev C k sc Γ c value .box c₁) (hi : Ev C k sc Γ c₁ slice (.int 1) c₁) (hs : ∀ o i, subscripted slice false o i = operate [o, i] (getItem o i) := by intro _ _; rfl) :
    Ev C k sc Γ c (.Subscript value slice pos) (.int c₁) c₁ := fun A env hid s Q E R O N S hQ => by
  refine Subscript_ (hv A env hid s _ E R O N S fun v₁ h₁ t₁ x₁ b₁ r₁ => ?_)
  refine hi A env hid _ _ E R O (N.ext x₁ b₁) (S.ext N x₁) fun v₂ h₂ t₂ x₂ b₂ r₂ => ?_
  cases r₁ with | box =>
  cases r₂ with | int _ u =>
  obtain ⟨t, n, q⟩ := id b₂
  exact tail_any q.isList.typeIs slot_list_getitem.lookup (wpAny_getItem_list q.isList (by decide) (by decide) rfl (hQ _ h₂ t₂ (x₁.trans x₂) b₂ (.int _ _))) (hs _ _)
/-- box[0] -/
theorem Ev.box0 {value slice : Expr} {pos : Pos} (hv : Ev C k sc Γ c value .box c₁) (hi : Ev C k sc Γ c₁ slice (.int 0) c₁) (hs : ∀ o i, subscripted slice false o i = operate [o, i] (getItem o i) := by intro _ _; rfl) :
    Ev C k sc Γ c (.Subscript value slice pos) (LZ C.xs) c₁ := fun A env hid s Q E R O N S hQ => by
  refine Subscript_ (hv A env hid s _ E R O N S fun v₁ h₁ t₁ x₁ b₁ r₁ => ?_)
  have N1' := N.ext x₁ b₁
  refine hi A env hid _ _ E R O N1' (S.ext N x₁) fun v₂ h₂ t₂ x₂ b₂ r₂ => ?_
  have N2 := N1'.ext x₂ b₂
  cases r₁ with | box =>
  cases r₂ with | int _ u =>
  obtain ⟨t, n, q⟩ := id b₂
  obtain ⟨vs, m, hl, hI⟩ := N2.first
  exact tail_any q.isList.typeIs slot_list_getitem.lookup (wpAny_getItem_list q.isList (by decide) (by decide) rfl (hQ _ h₂ t₂ (x₁.trans x₂) b₂ (.list (vs := vs.toList) N2.αh N2.αβ (n := m) hl (repAll_of_ints hI)))) (hs _ _)
/-- box[1] = e -/
theorem Ex.setBox {x : Str} {p pos pos' : Pos} {i value : Expr} {e : Int} (hx : (x, AV.v .box) ∈ V) (hv : Ev C k sc (allΓ V) c value (.int e) c₁) (hi : Ev C k sc (allΓ V) c₁ i (.int 1) c₁)
    (hs : ∀ env : Env, env.scope = sc → swapsWith value (some (.Subscript (.Name x p) i pos')) pos.line env = pure false := by intro _ _; rfl) : Ex C k sc V c (.Assign [.Subscript (.Name x p) i pos'] value pos) (.nx V e) := fun A env own P hid om s Q E R O st hQ => by
  refine wpAny_Assign_Subscript (hs := hs env O.is) (hv A env _ s _ E R O st.all.1 st.all.2 fun v h₁ t₁ x₁ b₁ r₁ => ?_)
  have st₁ := st.ext x₁ b₁
  obtain ⟨bx, hb, rb⟩ := st₁.sees x _ (mem_plain.mpr hx)
  refine name_wp (h := h₁) O hb ?_
  refine hi A env _ _ _ E R O st₁.all.1 st₁.all.2 fun w h₂ t₂ x₂ b₂ r₂ => ?_
  have st₂ := st₁.ext x₂ b₂
  cases rb with | box =>
  cases r₁ with | int _ t =>
  cases r₂ with | int _ u =>
  obtain ⟨tt, n, q⟩ := id b₂
  refine ki_setAt q (by decide) (by decide) (by show (1 : Int) < 2; decide) ?_
  have sb := Heap.SameBut.update h₂ C.β (Obj.mapSeq (·.setIfInBounds (1 : Int).toNat (.int e t)))
  obtain ⟨n', q'⟩ := update_isL (·.setIfInBounds (1 : Int).toNat (.int e t)) q
  exact hQ om _ _ (st₂.ext ⟨fun b o nb z => sb.extBut b o nb z⟩ ⟨t, n', q'⟩)
theorem Exs.setBox {x : Str} {p pos pos' : Pos} {i value : Expr} {e : Int} (hx : (plainΓ V).lookup x = some .box) (hv : Ev C k sc (allΓ V) c value (.int e) c₁) (hi : Ev C k sc (allΓ V) c₁ i (.int 1) c₁)
    (hs : ∀ env : Env, env.scope = sc → swapsWith value (some (.Subscript (.Name x p) i pos')) pos.line env = pure false) (r : Exs C k sc V e rest o) : Exs C k sc V c (.Assign [.Subscript (.Name x p) i pos'] value pos :: rest) o :=
  Exs.cons (Ex.setBox (mem_plain.mp (mem_of_lookup hx)) hv hi hs) r
end

/-- what _law_take gives -/
noncomputable def takeN (xs : List Int) (m c : Nat) : Nat := if c + 1 ≤ xs.length then (xs.getD c 0).natAbs % m else (5 * (c + 1) + (c + 1) / 3) % m
theorem takeN_lt (xs : List Int) {m : Nat} (c : Nat) (h : 0 < m) : takeN xs m c < m := by
  unfold takeN
  split <;> exact Nat.mod_lt _ h
section
variable {C : Cx}
theorem f_take {m c : Nat} (hm : 0 < m) (hxs : C.xs.length ≤ 1000000) : Fn C 2 "_law_take" [.box, N1 m] (c : Int) (N1 (takeN C.xs m c)) ((c + 1 : Nat) : Int) := by
  refine Fn.intro (k := 1) (i := 75) (by with_unfolding_all rfl) ["box", "many"] (fun _ _ _ => all2 fun _ _ => rfl) rfl (nodup_of rfl) (names_of rfl) ?_
  refine Exs.setBox (c₁ := (c : Int)) (e := ((c + 1 : Nat) : Int)) rfl (Ev.bin (c₁ := (c : Int)) (Ev.box1 (c₁ := (c : Int)) (Ev.nm rfl) Ev.int) Ev.int Bin.add) Ev.int (by intro _ _; rfl) ?_
  have et : decide ((((c + 1 : Nat) : Int)) ≤ (C.xs.length : Int)) = decide (c + 1 ≤ C.xs.length) := by rw [Bool.eq_iff_iff, decide_eq_true_eq, decide_eq_true_eq]; omega
  refine Exs.iteR (c₁ := ((c + 1 : Nat) : Int)) (c₃ := ((c + 1 : Nat) : Int)) (V' := [("box", .v .box), ("many", .v (N1 m))]) (b := decide (c + 1 ≤ C.xs.length)) (EvT.cast (EvT.cmp (c₁ := ((c + 1 : Nat) : Int)) (Ev.box1 (c₁ := ((c + 1 : Nat) : Int)) (Ev.nm rfl) Ev.int) (Ev.callB .len (EvL.cons (c₁ := ((c + 1 : Nat) : Int)) (Ev.box0 (c₁ := ((c + 1 : Nat) : Int)) (Ev.nm rfl) Ev.int) EvL.nil) (CallV.lenZ hxs)) Cmp.le) et) (fun h => ?_) (fun _ => Exs.nil) (fun h => ?_)
  · have h' : c + 1 ≤ C.xs.length := of_decide_eq_true h
    unfold takeN
    rw [if_pos h']
    refine Exs.ret' (Ev.cast (Ev.bin (c₁ := ((c + 1 : Nat) : Int)) (d₁ := .int ((C.xs.getD c 0).natAbs : Int)) (Ev.callB .abs (EvL.cons (c₁ := ((c + 1 : Nat) : Int)) (d := .int (C.xs.getD c 0)) (Ev.cast (Ev.itemZ (c₁ := ((c + 1 : Nat) : Int)) (c₂ := ((c + 1 : Nat) : Int)) (i := ((c + 1 : Nat) : Int) - 1) (Ev.box0 (c₁ := ((c + 1 : Nat) : Int)) (Ev.nm rfl) Ev.int) (Ev.bin (c₁ := ((c + 1 : Nat) : Int)) (Ev.box1 (c₁ := ((c + 1 : Nat) : Int)) (Ev.nm rfl) Ev.int) Ev.int Bin.sub) (by omega) (by omega) hxs) ?_) EvL.nil) CallV.abs) (Ev.nm rfl) (Bin.mod (by omega))) ?_)
    · have : (((c + 1 : Nat) : Int) - 1).toNat = c := by omega
      rw [this]
    · rw [fmod_nat]
  · have h' : ¬ c + 1 ≤ C.xs.length := of_decide_eq_false h
    unfold takeN
    rw [if_neg h']
    refine Exs.ret' (Ev.cast (Ev.bin (c₁ := ((c + 1 : Nat) : Int)) (d₁ := .int (5 * ((c + 1 : Nat) : Int) + (((c + 1 : Nat) : Int)).fdiv 3)) (Ev.bin (c₁ := ((c + 1 : Nat) : Int)) (Ev.bin (c₁ := ((c + 1 : Nat) : Int)) Ev.int (Ev.box1 (c₁ := ((c + 1 : Nat) : Int)) (Ev.nm rfl) Ev.int) (Bin.mul (.inl (by decide)))) (Ev.bin (c₁ := ((c + 1 : Nat) : Int)) (Ev.box1 (c₁ := ((c + 1 : Nat) : Int)) (Ev.nm rfl) Ev.int) Ev.int (Bin.fdiv (by decide) (by decide))) Bin.add) (Ev.nm rfl) (Bin.mod (by omega))) ?_)
    have e1 : (((c + 1 : Nat) : Int)).fdiv 3 = (((c + 1) / 3 : Nat) : Int) := by rw [Int.fdiv_eq_ediv_of_nonneg _ (by omega)]; rfl
    have e2 : 5 * ((c + 1 : Nat) : Int) + (((c + 1) / 3 : Nat) : Int) = ((5 * (c + 1) + (c + 1) / 3 : Nat) : Int) := by push_cast; rfl
    rw [e1, e2, fmod_nat]
end
theorem CR.run {P : D → Int → List D → Int → Prop} (g : Nat → D) : ∀ (items : List D) (c : Nat), (∀ d ∈ items, ∀ j : Nat, P d (j : Int) [g j] ((j + 1 : Nat) : Int)) → CR P items (c : Int) ((List.range items.length).map fun i => g (c + i)) ((c + items.length : Nat) : Int)
  | [], c, _ => .nil _
  | d :: ds, c, h => by
    have r := CR.run g ds (c + 1) fun x m j => h x (List.mem_cons_of_mem _ m) j
    have e : (List.range (d :: ds).length).map (fun i => g (c + i)) = [g c] ++ (List.range ds.length).map fun i => g (c + 1 + i) := by
      rw [List.length_cons, List.range_succ_eq_map, List.map_cons, List.map_map]
      show g (c + 0) :: _ = _
      rw [Nat.add_zero]
      congr 1
      refine List.map_congr_left fun i _ => ?_
      show g (c + (i + 1)) = g (c + 1 + i)
      congr 1; omega
    have e2 : c + (d :: ds).length = c + 1 + ds.length := by rw [List.length_cons]; omega
    rw [e, e2]
    exact .cons (h d List.mem_cons_self c) r
theorem Exs.frzSet {C : Cx} {k : Nat} {sc : Scope} {V : Vs} {c : Int} {es : List Stmt} {o : Out} (V' : Vs) (q : frzV V = V') (h : Exs C k sc V' c es o) : Exs C k sc V c es o := Exs.frz (q ▸ h)

noncomputable def mulRoot (f : List Int) (r : Int) : List Int := List.zipWith (fun one other => one - r * other) (0 :: f) (f ++ [0])
noncomputable def polyF (kind : Nat) (row : List Int) : List Int := if kind = 0 then row.foldl mulRoot [1] else if kind = 1 then row ++ [1] else [2 * row.getD 0 0 + 1] ++ row.drop 1 ++ [2]
noncomputable def sizeN (xs : List Int) (c : Nat) : Nat := 2 + takeN xs 2 c
noncomputable def rowZ (xs : List Int) (c : Nat) : List Int := (List.range (sizeN xs c)).map fun i => (takeN xs 11 (c + 2 + i) : Int) - 4
noncomputable def builtF (xs : List Int) (c : Nat) : List Int := polyF (takeN xs 3 (c + 1)) (rowZ xs c)

theorem mulRoot_len (f : List Int) (r : Int) : (mulRoot f r).length = f.length + 1 := by simp [mulRoot]
theorem rowZ_len (xs : List Int) (c : Nat) : (rowZ xs c).length = sizeN xs c := by simp [rowZ]
theorem rowZ_mem {xs : List Int} {c : Nat} : ∀ x ∈ rowZ xs c, -4 ≤ x ∧ x ≤ 6 := fun x m => by
  obtain ⟨i, _, rfl⟩ := List.mem_map.mp m
  have := takeN_lt xs (c + 2 + i) (show 0 < 11 by decide)
  omega
theorem sizeN_le (xs : List Int) (c : Nat) : 2 ≤ sizeN xs c ∧ sizeN xs c ≤ 3 := by
  have := takeN_lt xs c (show 0 < 2 by decide)
  unfold sizeN; omega

noncomputable def subD (x : Int) : D → D
  | .tup [.int a, .int b] => .int (a - x * b)
  | d => d
theorem zip_ints : ∀ {us ws : List Int} {d : D}, d ∈ zipD (us.map D.int) (ws.map D.int) → ∃ a b, d = .tup [.int a, .int b]
  | [], _, _, m => nomatch m
  | _ :: _, [], _, m => nomatch m
  | u :: us, w :: ws, d, m => by
    rcases List.mem_cons.mp m with rfl | m
    · exact ⟨u, w, rfl⟩
    · exact zip_ints m
section
variable {C : Cx} {k : Nat} {sc : Scope} {V : Vs}
theorem f_built {c : Nat} (hxs : C.xs.length ≤ 1000000) : Fn C 3 "_law_built" [.box] (c : Int) (LZ (builtF C.xs c)) ((c + 2 + sizeN C.xs c : Nat) : Int) := by
  have gt : ∀ (m : Nat) (c : Nat), 0 < m → Fn C 2 "_law_take" [.box, N1 m] (c : Int) (N1 (takeN C.xs m c)) ((c + 1 : Nat) : Int) := fun m c hm => f_take hm hxs
  have hsz := sizeN_le C.xs c
  refine Fn.intro (k := 2) (i := 76) (by with_unfolding_all rfl) ["box"] (fun _ _ _ => all1 fun _ => rfl) rfl (nodup_of rfl) (names_of rfl) ?_
  refine Exs.tup (c₁ := ((c + 2 : Nat) : Int)) (ms := [.v (N1 (sizeN C.xs c)), .v (N1 (takeN C.xs 3 (c + 1)))]) (EvM.v (c₁ := ((c + 1 : Nat) : Int)) (Ev.cast (Ev.bin (c₁ := (c : Int)) Ev.int (Ev.call (EvL.cons (c₁ := (c : Int)) (Ev.nm rfl) (EvL.cons (c₁ := (c : Int)) (d := N1 2) Ev.int EvL.nil)) (gt 2 c (by omega))) Bin.add) (by unfold sizeN; show D.int _ = D.int _; congr 1)) (EvM.v (c₁ := ((c + 2 : Nat) : Int)) (Ev.call (EvL.cons (c₁ := ((c + 1 : Nat) : Int)) (Ev.nm rfl) (EvL.cons (c₁ := ((c + 1 : Nat) : Int)) (d := N1 3) Ev.int EvL.nil)) (gt 3 (c + 1) (by omega))) EvM.nil)) Tg.two rfl rfl rfl (by simp) (by intro _ _; rfl) (by rintro ⟨⟩ rfl; first | exact .inr rfl | exact .inl rfl) ?_
  refine Exs.at [("box", .v .box), ("size", .v (N1 (sizeN C.xs c))), ("kind", .v (N1 (takeN C.xs 3 (c + 1))))] ?_
  have hrow : (List.range (rngInts 0 1 (sizeN C.xs c)).length).map (fun i => D.int ((takeN C.xs 11 (c + 2 + i) : Int) - 4)) = (rowZ C.xs c).map D.int := by
    rw [rngInts_len]
    unfold rowZ
    rw [List.map_map]; rfl
  refine Exs.setC (c₁ := ((c + 2 : Nat) : Int)) (c₂ := ((c + 2 + sizeN C.xs c : Nat) : Int)) (items := rngInts 0 1 (sizeN C.xs c)) (outs := (rowZ C.xs c).map D.int) (EvIt.rngN (by walk_at "st") (by omega)) (.name _ _) (by with_unfolding_all rfl) ?_ (by rw [List.length_map, rowZ_len]; omega) rfl (fun _ q => swaps_true q rfl) (by intro _ _; rfl) ?_
  · rw [← hrow]
    have e : ((c + 2 + sizeN C.xs c : Nat) : Int) = ((c + 2 + (rngInts 0 1 (sizeN C.xs c)).length : Nat) : Int) := by rw [rngInts_len]
    rw [e]
    refine CR.run (fun j => D.int ((takeN C.xs 11 j : Int) - 4)) _ (c + 2) fun d m j => ?_
    obtain ⟨i, _, rfl⟩ := List.mem_map.mp m
    refine ⟨rfl, true, (j : Int), EvIfs.nil, fun _ => ⟨_, rfl, ?_⟩, fun q => nomatch q⟩
    exact Ev.bin (c₁ := ((j + 1 : Nat) : Int)) (Ev.call (EvL.cons (c₁ := (j : Int)) (Ev.nm rfl) (EvL.cons (c₁ := (j : Int)) (d := N1 11) Ev.int EvL.nil)) (gt 11 j (by omega))) Ev.int Bin.sub
  · refine Exs.frzTo [("box", .v .box), ("size", .v (N1 (sizeN C.xs c))), ("kind", .v (N1 (takeN C.xs 3 (c + 1)))), ("row", .v (LZ (rowZ C.xs c)))] ?_
    generalize hc' : ((c + 2 + sizeN C.xs c : Nat) : Int) = c'
    have hrl := rowZ_len C.xs c
    have hrm := @rowZ_mem C.xs c
    unfold builtF
    generalize hk : takeN C.xs 3 (c + 1) = kind
    generalize hS : sizeN C.xs c = size at *
    generalize hR : rowZ C.xs c = row at *
    have ek : ∀ n : Nat, (((kind : Nat) : Int) == (n : Int)) = decide (kind = n) := fun n => by rw [Bool.eq_iff_iff, beq_iff_eq, decide_eq_true_eq]; omega
    refine Exs.iteR (c₁ := c') (c₃ := c') (V' := [("box", .v .box), ("size", .v (N1 size)), ("kind", .v (N1 kind)), ("row", .v (LZ row))]) (b := decide (kind = 0)) (EvT.cast (EvT.cmp (c₁ := c') (Ev.nm rfl) Ev.int Cmp.eq) (ek 0)) (fun h => ?_) (fun _ => Exs.nil) (fun h => ?_)
    · have h' : kind = 0 := of_decide_eq_true h
      unfold polyF
      rw [if_pos h']
      refine Exs.set (c₁ := c') (d := LZ [1]) (EvF.ev (EvF.list (EvL.cons (d := .int 1) Ev.int EvL.nil))) rfl (by intro _ _; rfl) ?_
      refine Exs.forEx (c₁ := c') (c₂ := c') (items := row.map D.int) (EvIt.list (Ev.nm rfl)) (.name _ _) rfl rfl (by intro _ _; rfl) ?_
      refine (fun (H : ∀ (l : List Int) (f : List Int), (∀ x ∈ l, -4 ≤ x ∧ x ≤ 6) → l.length + f.length ≤ 100 → ∃ V', Fo C 2 _ _ _ _ (l.map D.int) [("box", .v .box), ("size", .v (N1 size)), ("kind", .v (N1 kind)), ("row", .v (LZ row)), ("f", .v (LZ f))] c' (.nx V' c') ∧ Exs C 2 _ V' c' _ (.rt (LZ (l.foldl mulRoot f)) c')) => H row [1] hrm (by simp; omega)) ?_
      intro l
      induction l with
      | nil => intro f _ _; exact ⟨_, .nil, Exs.ret' (Ev.nm rfl)⟩
      | cons x l ih =>
        intro f hm hl
        obtain ⟨V', w, z⟩ := ih (mulRoot f x) (fun y m => hm y (List.mem_cons_of_mem _ m)) (by rw [mulRoot_len]; simp at hl; omega)
        refine ⟨V', .turn rfl ?_ w, z⟩
        have hx := hm x List.mem_cons_self
        refine Exs.keep ["box", "size", "kind", "row", "f"] (V₁ := [("box", .v .box), ("size", .v (N1 size)), ("kind", .v (N1 kind)), ("row", .v (LZ row)), ("f", .v (LZ (mulRoot f x))), ("number", .v (.int x))]) ?_
        refine Exs.at [("box", .v .box), ("size", .v (N1 size)), ("kind", .v (N1 kind)), ("row", .v (LZ row)), ("f", .v (LZ f)), ("number", .v (.int x))] ?_
        have hz : (zipD ([D.int 0] ++ f.map D.int) (f.map D.int ++ [D.int 0])).map (subD x) = (mulRoot f x).map D.int := by
          unfold zipD mulRoot
          have e1 : [D.int 0] ++ f.map D.int = (0 :: f).map D.int := rfl
          have e2 : f.map D.int ++ [D.int 0] = (f ++ [0]).map D.int := by rw [List.map_append]; rfl
          rw [e1, e2]
          generalize (0 :: f) = us
          generalize (f ++ [0]) = ws
          induction us generalizing ws with
          | nil => rfl
          | cons u us ih =>
            cases ws with
            | nil => rfl
            | cons w ws => exact congrArg _ (ih ws)
        refine Exs.setMap (c₁ := c') (items := zipD ([D.int 0] ++ f.map D.int) (f.map D.int ++ [D.int 0])) (subD x)
          (EvIt.zip (Ev.bin (c₁ := c') (EvF.ev (EvF.list (EvL.cons (c₁ := c') Ev.int EvL.nil))) (Ev.nm rfl) (Bin.cat (by simp at hl ⊢; omega))) (Ev.bin (c₁ := c') (Ev.nm rfl) (EvF.ev (EvF.list (EvL.cons (c₁ := c') Ev.int EvL.nil))) (Bin.cat (by simp at hl ⊢; omega)))) Tg.two (by with_unfolding_all rfl) (fun d md => ?_) (fun d md => ?_) (by simp [zipD] at hl ⊢; omega) rfl (fun _ q => swaps_true q rfl) (by intro _ _; rfl) ?_
        · obtain ⟨a, b, rfl⟩ : ∃ a b, d = .tup [.int a, .int b] := zip_ints (us := 0 :: f) (ws := f ++ [0]) (by rw [List.map_append]; exact md)
          rfl
        · obtain ⟨a, b, rfl⟩ : ∃ a b, d = .tup [.int a, .int b] := zip_ints (us := 0 :: f) (ws := f ++ [0]) (by rw [List.map_append]; exact md)
          exact Ev.bin (c₁ := c') (Ev.nm rfl) (Ev.bin (c₁ := c') (Ev.nm rfl) (Ev.nm rfl) (Bin.mul (.inl (by omega)))) Bin.sub
        · refine Exs.frzSet [("box", .v .box), ("size", .v (N1 size)), ("kind", .v (N1 kind)), ("row", .v (LZ row)), ("f", .v (LZ (mulRoot f x))), ("number", .v (.int x))] ?_ Exs.nil
          rw [hz]
          rfl
    · have h' : ¬ kind = 0 := of_decide_eq_false h
      unfold polyF
      rw [if_neg h']
      refine Exs.ret' (Ev.ite (c₁ := c') (b := decide (kind = 1)) (EvT.cast (EvT.cmp (c₁ := c') (Ev.nm rfl) Ev.int Cmp.eq) (ek 1)) (fun q => ?_) (fun q => ?_))
      · rw [if_pos (of_decide_eq_true q)]
        refine Ev.cast (Ev.bin (c₁ := c') (Ev.nm rfl) (EvF.ev (EvF.list (EvL.cons (c₁ := c') Ev.int EvL.nil))) (Bin.cat (by simp; omega))) ?_
        show D.list _ = D.list _
        rw [List.map_append]; rfl
      · rw [if_neg (of_decide_eq_false q)]
        refine Ev.cast (Ev.bin (c₁ := c') (Ev.bin (c₁ := c') (EvF.ev (EvF.list (EvL.cons (c₁ := c') (Ev.bin (c₁ := c') (Ev.bin (c₁ := c') Ev.int (Ev.itemZ (c₁ := c') (a := row) (i := 0) (Ev.nm rfl) Ev.int (by omega) (by omega) (by omega)) (Bin.mul (.inl (by decide)))) Ev.int Bin.add) EvL.nil))) (EvF.ev (EvF.cast (EvF.slice (c₁ := c') (c₂ := c') (c₃ := c') (ds := row.map D.int) (Ev.nm rfl) (EvO.some Ev.int) EvO.none (by simp; omega)) (sliceD_from (row.map D.int) 1))) (Bin.cat (by simp; omega))) (EvF.ev (EvF.list (EvL.cons (c₁ := c') Ev.int EvL.nil))) (Bin.cat (by simp; omega))) ?_
        show D.list _ = D.list _
        rw [List.map_append, List.map_append, List.map_drop]; rfl
end
noncomputable def rngZ2 (a : Int) (k : Nat) : List Int := (List.range k).map fun i : Nat => a + (i : Int) * 1
theorem rngZ2_eq (a : Int) (k : Nat) : rngInts a 1 k = (rngZ2 a k).map D.int := by
  unfold rngInts rngZ2
  rw [List.map_map]; rfl
theorem rngZ2_len (a : Int) (k : Nat) : (rngZ2 a k).length = k := by simp [rngZ2]
noncomputable def lprB (n : Int) : Bool := if n < 2 then false else decide (((rngZ2 2 (n - 2).toNat).filter fun d => n.fmod d == 0) = [])
noncomputable def zerosZ (f : List Int) (p : Int) : List Int := (rngZ2 0 p.toNat).filter fun x => (zatZ f x).fmod p == 0
noncomputable def steepZ (f : List Int) : List Int := (f.zipIdx.map fun z => (z.2 : Int) * z.1).drop 1
noncomputable def lawDeg (f : List Int) (p : Int) : Option (List Int) :=
  if lprB p = false then none else if (lastZ f).fmod p = 0 then none else
  if ((zerosZ f p).filter fun x => (zatZ (steepZ f) x).fmod p == 0) ≠ [] then none else
  some (List.replicate (zerosZ f p).length 1 ++ if 0 < (f.length : Int) - 1 - (zerosZ f p).length then [(f.length : Int) - 1 - (zerosZ f p).length] else [])
noncomputable def lawEis (f : List Int) (p : Int) : Bool :=
  decide (((f.take (f.length - 1)).filter fun x => !lprB p || x.fmod p != 0) = []) && ((lastZ f).fmod p != 0) && ((f.getD 0 0).fmod (p * p) != 0)

theorem Cmp.neZ {C : Cx} {a b : List Int} : Cmp C .NotEq (LZ a) (LZ b) (!(decide (a = b))) :=
  Cmp.ned (plain_LZ a) (plain_LZ b) (by show PyData.depthAll (pyAll (a.map D.int)) + 1 ≤ 60; rw [depth_LZ]; decide) (eqv_LZ a b)

section
variable {C : Cx} {k : Nat} {sc : Scope} {V : Vs} {c : Int}
theorem rngSize2 {n : Int} (h : 2 ≤ n) : Builtin.Range.rangeSize 2 n 1 = (((n - 2).toNat : Nat) : Int) := by
  unfold Builtin.Range.rangeSize
  rw [if_pos (by decide), Int.ediv_one]
  split <;> omega
theorem f_lprime {n : Int} (hn : n ≤ 1000) : Fn C 2 "_law_is_prime" [.int n] c (.bool (lprB n)) c := by
  refine Fn.intro (k := 1) (i := 77) (by with_unfolding_all rfl) ["n"] (fun _ _ _ => all1 fun _ => rfl) rfl (nodup_of rfl) (names_of rfl) ?_
  unfold lprB
  by_cases h2 : n < 2
  · rw [if_pos h2]
    exact Exs.ret' (Ev.and_false (Ev.cast (Ev.cmp (c₁ := c) (Ev.nm rfl) Ev.int Cmp.ge) (by rw [decide_eq_false (by omega)])))
  · rw [if_neg h2]
    have hs := rngSize2 (show 2 ≤ n by omega)
    refine Exs.ret' (Ev.and_true (c₁ := c) (Ev.cast (Ev.cmp (c₁ := c) (Ev.nm rfl) Ev.int Cmp.ge) (by rw [decide_eq_true (by omega)])) (Ev.and1 (Ev.cmp (c₁ := c) (d₁ := LZ ((rngZ2 2 (n - 2).toNat).filter fun d => n.fmod d == 0)) (d₂ := LZ []) (EvF.ev (EvF.cast (EvF.compFil (c₁ := c) (items := rngInts 2 1 (n - 2).toNat) (fun d => n.fmod (intOf d) == 0) (fun d => d) (EvIt.rng (Ev.callB .range (EvL.cons (c₁ := c) Ev.int (EvL.cons (c₁ := c) (Ev.nm rfl) EvL.nil)) CallV.range2) (rng_small (by omega) (by omega) (by omega) hs (by omega)) hs) (.name _ _) (by with_unfolding_all rfl) (fun _ _ => rfl) (fun x mx => ?_) (fun x mx _ => ?_) (by rw [rngInts_len]; omega) (by intro _ _; rfl)) ?_)) (EvF.ev (EvF.list EvL.nil)) Cmp.eqZ)))
    · obtain ⟨i, _, rfl⟩ := List.mem_map.mp mx
      exact EvT.cmp (c₁ := c) (Ev.bin (c₁ := c) (Ev.nm rfl) (Ev.nm rfl) (Bin.mod (by omega))) Ev.int Cmp.eq
    · obtain ⟨i, _, rfl⟩ := List.mem_map.mp mx
      exact Ev.nm rfl
    · rw [rngZ2_eq, List.map_id', filZ (fun d => n.fmod d == 0)]

theorem f_lvalue {f : List Int} {n : Int} (hn : n.natAbs < 16777216) (hf : f.length ≤ 1000) : Fn C 2 "_law_value" [LZ f, .int n] c (.int (zatZ f n)) c := by
  refine Fn.intro (k := 1) (i := 78) (by with_unfolding_all rfl) ["f", "x"] (fun _ _ _ => all2 fun _ _ => rfl) rfl (nodup_of rfl) (names_of rfl) ?_
  refine Exs.set (c₁ := c) (d := .int 0) Ev.int rfl (by intro _ _; rfl) ?_
  refine Exs.forEx (c₁ := c) (c₂ := c) (items := f.reverse.map D.int) (by rw [List.map_reverse]; exact EvIt.list (EvF.ev (EvF.rev (Ev.nm rfl) (by simp; omega)))) (.name _ _) rfl rfl (by intro _ _; rfl) ?_
  unfold zatZ
  refine (fun (H : ∀ (l : List Int) (a : Int), ∃ V', Fo C 1 _ _ _ _ (l.map D.int) [("f", .v (LZ f)), ("x", .v (.int n)), ("total", .v (.int a))] c (.nx V' c) ∧ Exs C 1 _ V' c _ (.rt (.int (l.foldl (fun a x => a * n + x) a)) c)) => H f.reverse 0) ?_
  intro l
  induction l with
  | nil => intro a; exact ⟨_, .nil, Exs.ret' (Ev.nm rfl)⟩
  | cons x l ih =>
    intro a
    obtain ⟨V', w, z⟩ := ih (a * n + x)
    refine ⟨V', .turn rfl ?_ w, z⟩
    refine Exs.keep ["f", "x", "total"] (V₁ := [("f", .v (LZ f)), ("x", .v (.int n)), ("total", .v (.int (a * n + x))), ("number", .v (.int x))]) ?_
    exact Exs.set (c₁ := c) (d := .int (a * n + x)) (Ev.bin (c₁ := c) (Ev.bin (c₁ := c) (Ev.nm rfl) (Ev.nm rfl) (Bin.mul (.inr (by omega)))) (Ev.nm rfl) Bin.add) rfl (by intro _ _; rfl) Exs.nil

theorem f_lawdeg {f : List Int} {p : Int} (hp : p ≤ 1000) (hf1 : 1 ≤ f.length) (hf2 : f.length ≤ 100) : Fn C 4 "_law_degrees" [LZ f, .int p] c (optZ (lawDeg f p)) c := by
  have gp := @f_lprime C c p hp
  refine Fn.intro (k := 3) (i := 79) (by with_unfolding_all rfl) ["f", "p"] (fun _ _ _ => all2 fun _ _ => rfl) rfl (nodup_of rfl) (names_of rfl) ?_
  unfold lawDeg
  cases hpr : lprB p with
  | false =>
    rw [if_pos rfl]
    exact Exs.ret (Ex.ifT (c₁ := c) (EvT.or_true (EvT.cast (EvT.not (EvT.bool (Ev.call (EvL.cons (c₁ := c) (Ev.nm rfl) EvL.nil) gp))) (by rw [hpr]; rfl))) (Exs.ret' Ev.none))
  | true =>
    rw [if_neg (by simp)]
    have hp2 : 2 ≤ p := by
      unfold lprB at hpr
      by_cases q : p < 2
      · rw [if_pos q] at hpr; cases hpr
      · omega
    by_cases hl : (lastZ f).fmod p = 0
    · rw [if_pos hl]
      exact Exs.ret (Ex.ifT (c₁ := c) (EvT.or_false (c₁ := c) (EvT.cast (EvT.not (EvT.bool (Ev.call (EvL.cons (c₁ := c) (Ev.nm rfl) EvL.nil) gp))) (by rw [hpr]; rfl)) (EvT.or1 (EvT.cast (EvT.cmp (c₁ := c) (Ev.bin (c₁ := c) (Ev.lastZ (c₁ := c) (Ev.nm rfl) (Ev.neg Ev.int) hf1 (by omega)) (Ev.nm rfl) (Bin.mod (by omega))) Ev.int Cmp.eq) (by rw [hl]; rfl)))) (Exs.ret' Ev.none))
    · rw [if_neg hl]
      refine Exs.iteN (c₁ := c) (c₂ := c) (V' := [("f", .v (LZ f)), ("p", .v (.int p))]) (b := false) (EvT.or_false (c₁ := c) (EvT.cast (EvT.not (EvT.bool (Ev.call (EvL.cons (c₁ := c) (Ev.nm rfl) EvL.nil) gp))) (by rw [hpr]; rfl)) (EvT.or1 (EvT.cast (EvT.cmp (c₁ := c) (Ev.bin (c₁ := c) (Ev.lastZ (c₁ := c) (Ev.nm rfl) (Ev.neg Ev.int) hf1 (by omega)) (Ev.nm rfl) (Bin.mod (by omega))) Ev.int Cmp.eq) (by simpa using hl)))) (fun q => nomatch q) (fun _ => Exs.nil) ?_
      have hsz : Builtin.Range.rangeSize 0 p 1 = ((p.toNat : Nat) : Int) := by
        unfold Builtin.Range.rangeSize
        rw [if_pos (by decide), Int.ediv_one]
        split <;> omega
      have hzr : ((rngInts 0 1 p.toNat).filter (fun d => (zatZ f (intOf d)).fmod p == 0)).map (fun d => d) = (zerosZ f p).map D.int := by
        unfold zerosZ
        rw [rngZ2_eq, List.map_id', filZ (fun x => (zatZ f x).fmod p == 0)]
      have hz1 : ∀ x ∈ zerosZ f p, 0 ≤ x ∧ x < p := fun x m => by
        obtain ⟨i, hi, rfl⟩ := List.mem_map.mp (List.mem_filter.mp m).1
        have := List.mem_range.mp hi
        omega
      have hz2 : (zerosZ f p).length ≤ 1000 := by
        have := List.length_filter_le (fun x => (zatZ f x).fmod p == 0) (rngZ2 0 p.toNat)
        rw [rngZ2_len] at this
        unfold zerosZ; omega
      refine Exs.setFil (c₁ := c) (items := rngInts 0 1 p.toNat) (fun d => (zatZ f (intOf d)).fmod p == 0) (fun d => d) (EvIt.rng (Ev.callB .range (EvL.cons (c₁ := c) (Ev.nm rfl) EvL.nil) CallV.range1) (rng_small (by omega) (by omega) (by omega) hsz (by omega)) hsz) (.name _ _) (by with_unfolding_all rfl) (fun _ _ => rfl) (fun x mx => ?_) (fun x mx _ => ?_) (by rw [rngInts_len]; omega) rfl (fun _ q => swaps_true q rfl) (by intro _ _; rfl) ?_
      · obtain ⟨i, hi, rfl⟩ := List.mem_map.mp mx
        have := List.mem_range.mp hi
        exact EvT.cmp (c₁ := c) (Ev.bin (c₁ := c) (Ev.call (EvL.cons (c₁ := c) (Ev.nm rfl) (EvL.cons (c₁ := c) (Ev.nm rfl) EvL.nil)) (f_lvalue (by omega) (by omega))) (Ev.nm rfl) (Bin.mod (by omega))) Ev.int Cmp.eq
      · obtain ⟨i, hi, rfl⟩ := List.mem_map.mp mx
        exact Ev.nm rfl
      · rw [hzr]
        refine Exs.frzTo [("f", .v (LZ f)), ("p", .v (.int p)), ("zeros", .v (LZ (zerosZ f p)))] ?_
        have hst : sliceD ((enumD (f.map D.int)).map (fun d => match d with | .tup [.int a, .int b] => D.int (a * b) | d => d)) (some 1) none = (steepZ f).map D.int := by
          refine (sliceD_from _ 1).trans ?_
          unfold steepZ enumD
          rw [List.map_drop, List.map_map, List.map_map, List.zipIdx_map, List.map_map]; rfl
        have hsl : (steepZ f).length ≤ 100 := by unfold steepZ; simp; omega
        refine Exs.set (c₁ := c) (d := LZ (steepZ f)) (EvF.ev (EvF.cast (EvF.slice (c₁ := c) (c₂ := c) (c₃ := c) (EvF.ev (EvF.compMap (c₁ := c) (items := enumD (f.map D.int)) (fun d => match d with | .tup [.int a, .int b] => D.int (a * b) | d => d) (EvIt.enum (Ev.nm rfl)) Tg.two (by with_unfolding_all rfl) (fun d md => ?_) (fun d md => ?_) (by rw [enumD_len, List.length_map]; omega) (by intro _ _; rfl))) (EvO.some Ev.int) EvO.none (by rw [List.length_map, enumD_len, List.length_map]; omega)) hst)) rfl (by intro _ _; rfl) ?_
        · obtain ⟨z, mz, rfl⟩ := List.mem_map.mp md
          rfl
        · obtain ⟨z, mz, rfl⟩ := List.mem_map.mp md
          have h1 := List.snd_lt_of_mem_zipIdx mz
          rw [List.zipIdx_map] at mz
          obtain ⟨z', mz', rfl⟩ := List.mem_map.mp mz
          simp at h1
          exact Ev.bin (c₁ := c) (Ev.nm rfl) (Ev.nm rfl) (Bin.mul (.inl (by show ((z'.2 : Nat) : Int).natAbs < _; omega)))
        · refine Exs.at [("f", .v (LZ f)), ("p", .v (.int p)), ("zeros", .v (LZ (zerosZ f p))), ("steep", .v (LZ (steepZ f)))] ?_
          refine Exs.iteR (c₁ := c) (c₃ := c) (V' := [("f", .v (LZ f)), ("p", .v (.int p)), ("zeros", .v (LZ (zerosZ f p))), ("steep", .v (LZ (steepZ f)))]) (b := !(decide (((zerosZ f p).filter fun x => (zatZ (steepZ f) x).fmod p == 0) = [])))
            (EvT.cmp (c₁ := c) (d₁ := LZ ((zerosZ f p).filter fun x => (zatZ (steepZ f) x).fmod p == 0)) (d₂ := LZ []) (EvF.ev (EvF.cast (EvF.compFil (c₁ := c) (items := (zerosZ f p).map D.int) (fun d => (zatZ (steepZ f) (intOf d)).fmod p == 0) (fun d => d) (EvIt.list (Ev.nm rfl)) (.name _ _) (by with_unfolding_all rfl) (fun _ _ => rfl) (fun x mx => ?_) (fun x mx _ => ?_) (by rw [List.length_map]; omega) (by intro _ _; rfl)) ?_)) (EvF.ev (EvF.list EvL.nil)) Cmp.neZ) (fun h => ?_) (fun _ => Exs.nil) (fun h => ?_)
          · obtain ⟨i, hi, rfl⟩ := List.mem_map.mp mx
            have := hz1 i hi
            exact EvT.cmp (c₁ := c) (Ev.bin (c₁ := c) (Ev.call (EvL.cons (c₁ := c) (Ev.nm rfl) (EvL.cons (c₁ := c) (Ev.nm rfl) EvL.nil)) (f_lvalue (by omega) (by omega))) (Ev.nm rfl) (Bin.mod (by omega))) Ev.int Cmp.eq
          · obtain ⟨i, hi, rfl⟩ := List.mem_map.mp mx
            exact Ev.nm rfl
          · rw [List.map_id', filZ (fun x => (zatZ (steepZ f) x).fmod p == 0)]
          · rw [if_pos (by simpa using h)]
            exact Exs.ret' Ev.none
          · rw [if_neg (by simpa using h)]
            refine Exs.set (c₁ := c) (d := .int ((f.length : Int) - 1 - (zerosZ f p).length)) (Ev.bin (c₁ := c) (Ev.bin (c₁ := c) (Ev.callB .len (EvL.cons (c₁ := c) (Ev.nm rfl) EvL.nil) (CallV.lenZ (by omega))) Ev.int Bin.sub) (Ev.callB .len (EvL.cons (c₁ := c) (Ev.nm rfl) EvL.nil) (CallV.lenZ (by omega))) Bin.sub) rfl (by intro _ _; rfl) ?_
            refine Exs.ret' (Ev.cast (Ev.bin (c₁ := c) (Ev.bin (c₁ := c) (EvF.ev (EvF.list (EvL.cons (c₁ := c) (d := .int 1) Ev.int EvL.nil))) (Ev.callB .len (EvL.cons (c₁ := c) (Ev.nm rfl) EvL.nil) (CallV.lenZ (a := zerosZ f p) (by omega))) (Bin.rep (by omega) (by omega)))
              (Ev.ite (c₁ := c) (b := decide (0 < (f.length : Int) - 1 - (zerosZ f p).length)) (d := LZ (if 0 < (f.length : Int) - 1 - (zerosZ f p).length then [(f.length : Int) - 1 - (zerosZ f p).length] else [])) (EvT.cmp (c₁ := c) (Ev.nm rfl) Ev.int Cmp.gt) (fun q => ?_) (fun q => ?_)) (Bin.cat (by rw [List.length_replicate, List.length_map]; split <;> simp <;> omega))) ?_)
            · rw [if_pos (of_decide_eq_true q)]
              exact EvF.ev (EvF.list (EvL.cons (c₁ := c) (Ev.nm rfl) EvL.nil))
            · rw [if_neg (of_decide_eq_false q)]
              exact EvF.ev (EvF.list EvL.nil)
            · show D.list _ = D.list _
              rw [List.map_append, List.map_replicate, Int.toNat_natCast]

theorem f_laweis {f : List Int} {p : Int} (hp : p ≤ 1000) (hf1 : 2 ≤ f.length) (hf2 : f.length ≤ 100) : Fn C 4 "_law_by_eisenstein" [LZ f, .int p] c (.bool (lawEis f p)) c := by
  have gp := @f_lprime C c p hp
  refine Fn.intro (k := 3) (i := 80) (by with_unfolding_all rfl) ["f", "p"] (fun _ _ _ => all2 fun _ _ => rfl) rfl (nodup_of rfl) (names_of rfl) ?_
  unfold lawEis
  have hsl : sliceD (f.map D.int) none (some (-1)) = (f.take (f.length - 1)).map D.int := by
    have := sliceD_butLast (f.map D.int) 1 (by omega)
    rw [List.length_map, ← List.map_take] at this
    exact this
  have hp0 : lprB p = true → 2 ≤ p := fun hpr => by
    unfold lprB at hpr
    by_cases q : p < 2
    · rw [if_pos q] at hpr; cases hpr
    · omega
  refine Exs.setFil (c₁ := c) (items := (f.take (f.length - 1)).map D.int) (fun d => !lprB p || (intOf d).fmod p != 0) (fun d => d) (EvIt.list (EvF.ev (EvF.cast (EvF.slice (c₁ := c) (c₂ := c) (c₃ := c) (Ev.nm rfl) EvO.none (EvO.some (Ev.neg Ev.int)) (by simp; omega)) hsl))) (.name _ _) (by with_unfolding_all rfl) (fun _ _ => rfl) (fun x mx => ?_) (fun x mx _ => ?_) (by simp; omega) rfl (fun _ q => swaps_true q rfl) (by intro _ _; rfl) ?_
  · obtain ⟨i, hi, rfl⟩ := List.mem_map.mp mx
    exact EvT.or2 (EvT.not (EvT.bool (Ev.call (EvL.cons (c₁ := c) (Ev.nm rfl) EvL.nil) gp))) (fun q => EvT.cmp (c₁ := c) (Ev.bin (c₁ := c) (Ev.nm rfl) (Ev.nm rfl) (Bin.mod (by have := hp0 (by simpa using q); omega))) Ev.int Cmp.ne)
  · obtain ⟨i, hi, rfl⟩ := List.mem_map.mp mx
    exact Ev.nm rfl
  · rw [List.map_id', filZ (fun x => !lprB p || x.fmod p != 0)]
    generalize hL : ((f.take (f.length - 1)).filter fun x => !lprB p || x.fmod p != 0) = lower
    refine Exs.frzTo [("f", .v (LZ f)), ("p", .v (.int p)), ("lower", .v (LZ lower))] ?_
    by_cases h1 : lower = []
    · have hpr : lprB p = true := by
        cases hq : lprB p with
        | true => rfl
        | false =>
          exfalso
          rw [h1] at hL
          have hne : f.take (f.length - 1) ≠ [] := fun w => by
            have := congrArg List.length w
            simp at this
            omega
          obtain ⟨x, mx⟩ := List.exists_mem_of_ne_nil _ hne
          have := List.filter_eq_nil_iff.mp hL x mx
          rw [hq] at this
          simp at this
      have hp2 := hp0 hpr
      have hpp : p * p ≠ 0 := by
        intro q
        rcases Int.mul_eq_zero.mp q with q | q <;> omega
      rw [decide_eq_true h1, Bool.true_and]
      refine Exs.ret' (Ev.and_true (c₁ := c) (Ev.cast (Ev.cmp (c₁ := c) (d₁ := LZ lower) (d₂ := LZ []) (Ev.nm rfl) (EvF.ev (EvF.list EvL.nil)) Cmp.eqZ) (by rw [decide_eq_true h1])) ?_)
      cases hx : ((lastZ f).fmod p != 0) with
      | false => exact Ev.and_false (Ev.cast (Ev.cmp (c₁ := c) (Ev.bin (c₁ := c) (Ev.lastZ (c₁ := c) (Ev.nm rfl) (Ev.neg Ev.int) (by omega) (by omega)) (Ev.nm rfl) (Bin.mod (by omega))) Ev.int Cmp.ne) (by rw [hx]))
      | true =>
        rw [Bool.true_and]
        exact Ev.and_true (c₁ := c) (Ev.cast (Ev.cmp (c₁ := c) (Ev.bin (c₁ := c) (Ev.lastZ (c₁ := c) (Ev.nm rfl) (Ev.neg Ev.int) (by omega) (by omega)) (Ev.nm rfl) (Bin.mod (by omega))) Ev.int Cmp.ne) (by rw [hx])) (Ev.and1 (Ev.cmp (c₁ := c) (Ev.bin (c₁ := c) (Ev.itemZ (c₁ := c) (i := 0) (Ev.nm rfl) Ev.int (by omega) (by omega) (by omega)) (Ev.bin (c₁ := c) (Ev.nm rfl) (Ev.nm rfl) (Bin.mul (.inl (by omega)))) (Bin.mod hpp)) Ev.int Cmp.ne))
    · rw [decide_eq_false h1, Bool.false_and]
      exact Exs.ret' (Ev.and_false (Ev.cast (Ev.cmp (c₁ := c) (d₁ := LZ lower) (d₂ := LZ []) (Ev.nm rfl) (EvF.ev (EvF.list EvL.nil)) Cmp.eqZ) (by rw [decide_eq_false h1])))
end
noncomputable def numsZ (xs : List Int) (c : Nat) : List Int := (List.range (1 + takeN xs 3 c)).map fun i => someInts.getD (takeN xs 14 (c + 1 + i)) 0
noncomputable def sumsLaw (t : List Int) : List Int := (rngZ2 0 (2 ^ t.length)).map fun mask => ((t.zipIdx.filter fun z => (mask.fdiv (2 ^ z.2)).fmod 2 == 1).map (·.1)).sum
noncomputable def leftLaw (ts : List (List Int)) (left : List Int) : List Int := ts.foldl (fun left t => left.filter fun d => (sumsLaw t).any (· == d)) left
noncomputable def toldZ (f nums : List Int) : List (List Int) := nums.filterMap (lawDeg f)

/-- what the law leans on -/
structure PlainOK (f nums : List Int) : Prop where
  len : f.length = 3 ∨ f.length = 4
  num : nums.length ≤ 1000
  pr : ∀ p ∈ nums, PrOK p ∧ p ≤ 1000
  dm : ∀ p ∈ nums, dmO f p = some (lawDeg f p)
  eis : ∀ p ∈ nums, eisO f p = some (lawEis f p)
  sm : ∀ p ∈ nums, ∀ t, lawDeg f p = some t → t.length ≤ 10 ∧ ∃ s, sumsO t = some s ∧ ∀ d, s.any (· == d) = (sumsLaw t).any (· == d)
  kr : KrOK f

theorem leftLaw_len : ∀ (ts : List (List Int)) (left : List Int), (leftLaw ts left).length ≤ left.length
  | [], _ => Nat.le_refl _
  | t :: ts, left => Nat.le_trans (leftLaw_len ts _) (List.length_filter_le _ _)
theorem dl_left {f : List Int} : ∀ (ps left : List Int), (∀ p ∈ ps, dmO f p = some (lawDeg f p)) → (∀ p ∈ ps, ∀ t, lawDeg f p = some t → ∃ s, sumsO t = some s ∧ ∀ d, s.any (· == d) = (sumsLaw t).any (· == d)) → left.length ≤ 100 →
    dlG f ps left = some (leftLaw (ps.filterMap (lawDeg f)) left)
  | [], left, _, _, _ => rfl
  | p :: ps, left, h1, h2, hl => by
    rw [dlG, if_pos (Nat.ble_eq_true_of_le hl), h1 p List.mem_cons_self]
    show (match lawDeg f p with | none => dlG f ps left | some t => (sumsO t).bind fun s => dlG f ps (left.filter fun d => s.any (· == d))) = _
    cases q : lawDeg f p with
    | none =>
      rw [List.filterMap_cons_none q]
      exact dl_left ps left (fun x m => h1 x (List.mem_cons_of_mem _ m)) (fun x m => h2 x (List.mem_cons_of_mem _ m)) hl
    | some t =>
      obtain ⟨s, hs, e⟩ := h2 p List.mem_cons_self t q
      rw [List.filterMap_cons_some q]
      show ((sumsO t).bind fun s => dlG f ps (left.filter fun d => s.any (· == d))) = _
      rw [hs]
      show dlG f ps (left.filter fun d => s.any (· == d)) = leftLaw (ps.filterMap (lawDeg f)) (left.filter fun d => (sumsLaw t).any (· == d))
      have : (left.filter fun d => s.any (· == d)) = left.filter fun d => (sumsLaw t).any (· == d) := List.filter_congr fun d _ => e d
      rw [this]
      exact dl_left ps _ (fun x m => h1 x (List.mem_cons_of_mem _ m)) (fun x m => h2 x (List.mem_cons_of_mem _ m)) (Nat.le_trans (List.length_filter_le _ _) hl)
theorem dl_none {f : List Int} : ∀ (ps left : List Int), (∀ p ∈ ps, dmO f p = some none) → left.length ≤ 100 → dlG f ps left = some left
  | [], left, _, _ => rfl
  | p :: ps, left, h1, hl => by
    rw [dlG, if_pos (Nat.ble_eq_true_of_le hl), h1 p List.mem_cons_self]
    exact dl_none ps left (fun x m => h1 x (List.mem_cons_of_mem _ m)) hl
theorem PlainOK.dl {f nums : List Int} (h : PlainOK f nums) : dlO f nums = some (leftLaw (toldZ f nums) (rngZ f.length)) :=
  dl_left nums _ h.dm (fun p m t q => (h.sm p m t q).2) (by have := h.len; simp [rngZ]; omega)

theorem eqvAll_self : ∀ ds : List D, (∀ d ∈ ds, d.py.eqv d.py = true) → PyData.eqvAll (pyAll ds) (pyAll ds) = true
  | [], _ => rfl
  | d :: ds, h => by
    show (d.py.eqv d.py && PyData.eqvAll (pyAll ds) (pyAll ds)) = true
    rw [h d List.mem_cons_self, eqvAll_self ds fun x m => h x (List.mem_cons_of_mem _ m)]; rfl
theorem plainAll_of : ∀ ds : List D, (∀ d ∈ ds, d.plain = true) → plainAll ds = true
  | [], _ => rfl
  | d :: ds, h => by
    show (d.plain && plainAll ds) = true
    rw [h d List.mem_cons_self, plainAll_of ds fun x m => h x (List.mem_cons_of_mem _ m)]; rfl
theorem depthAll_of : ∀ ds : List D, (∀ d ∈ ds, d.py.depth ≤ 5) → PyData.depthAll (pyAll ds) ≤ 5
  | [], _ => by show 0 ≤ 5; decide
  | d :: ds, h => by
    show max d.py.depth (PyData.depthAll (pyAll ds)) ≤ 5
    exact Nat.max_le.mpr ⟨h d List.mem_cons_self, depthAll_of ds fun x m => h x (List.mem_cons_of_mem _ m)⟩
theorem optZ_ok (t : Option (List Int)) : (optZ t).plain = true ∧ (optZ t).py.eqv (optZ t).py = true ∧ (optZ t).py.depth ≤ 5 := by
  cases t with
  | none => exact ⟨rfl, rfl, by show 0 ≤ 5; decide⟩
  | some l => exact ⟨plain_LZ l, by show PyData.eqvAll (pyAll (l.map D.int)) (pyAll (l.map D.int)) = true; rw [eqv_LZ]; simp, by show PyData.depthAll (pyAll (l.map D.int)) + 1 ≤ 5; rw [depth_LZ]; decide⟩
theorem Cmp.neSelf {C : Cx} {ds : List D} (h : ∀ d ∈ ds, d.plain = true ∧ d.py.eqv d.py = true ∧ d.py.depth ≤ 5) : Cmp C .NotEq (.list ds) (.list ds) false :=
  Cmp.ned (b := true) (plainAll_of ds fun d m => (h d m).1) (plainAll_of ds fun d m => (h d m).1) (by show PyData.depthAll (pyAll ds) + 1 ≤ 60; have := depthAll_of ds fun d m => (h d m).2.2; omega) (eqvAll_self ds fun d m => (h d m).2.1)
theorem Cmp.neB {C : Cx} {a b : Bool} (h : a = b) : Cmp C .NotEq (.bool a) (.bool b) false :=
  Cmp.ned (b := true) rfl rfl (by show 0 ≤ 60; decide) (by subst h; cases a <;> rfl)

section
variable {C : Cx} {k : Nat} {sc : Scope} {V : Vs}
theorem sum_masks {c : Int} {t : List Int} (ht : t.length ≤ 10) {i : Nat} (hi : i < 2 ^ t.length) : ((enumD (t.map D.int)).filter (fun d => match d with | .tup [.int a, _] => (((0 + (i : Int) * 1).fdiv (2 ^ a.toNat)).fmod 2 == 1) | _ => false)).map (fun d => match d with | .tup [_, y] => y | d => d) =
    (((t.zipIdx.filter fun z => ((0 + (i : Int) * 1).fdiv (2 ^ z.2)).fmod 2 == 1).map (·.1)).map D.int) := by
  unfold enumD
  rw [List.zipIdx_map, List.map_map, List.filter_map, List.map_map, List.map_map]
  rfl
end
noncomputable def selMask (i : Nat) : D → Bool
  | .tup [.int a, _] => ((0 + (i : Int) * 1).fdiv (2 ^ a.toNat)).fmod 2 == 1
  | _ => false
noncomputable def snd2 : D → D
  | .tup [_, y] => y
  | d => d
theorem sel_masks {t : List Int} (i : Nat) : ((enumD (t.map D.int)).filter (selMask i)).map snd2 = (((t.zipIdx.filter fun z => ((0 + (i : Int) * 1).fdiv (2 ^ z.2)).fmod 2 == 1).map (·.1)).map D.int) := by
  unfold enumD
  rw [List.zipIdx_map, List.map_map, List.filter_map, List.map_map, List.map_map]
  rfl
noncomputable def cntEnd (xs : List Int) : Nat := 2 + sizeN xs 0 + 1 + (1 + takeN xs 3 (2 + sizeN xs 0))

theorem swaps_cell {elt : Expr} {gens : List Comprehension} {scope sc : Scope} {p pos : Pos} {t : Str} {line : Nat} {env : Env} (h : env.scope = sc)
    (hk : (sc.names.lookup t == some .local) = false) : swapsWith (.ListComp elt gens scope p) (some (.Name t pos)) line env = pure false := by
  subst h
  refine congrArg pure ?_
  have e : (env.kindOf t == some .local) = false := hk
  rw [e]; simp
section
variable {C : Cx}
theorem law_rest0 (hxs : C.xs.length ≤ 1000000) {f nums : List Int} (hf : builtF C.xs 0 = f) (hn : numsZ C.xs (2 + sizeN C.xs 0) = nums) (H : PlainOK f nums) :
    ∃ name params s1 rest scope, defAt 81 = some (name, params, s1 :: rest, scope) ∧ Exs C 20 scope [("box", .v .box)] (((0 : Nat) : Int)) rest (.rt (.bool true) ((cntEnd C.xs : Nat) : Int)) := by
  refine ⟨_, _, _, _, _, by with_unfolding_all rfl, ?_⟩
  have hlen := H.len
  have gb := @f_built C 0 hxs
  rw [hf] at gb
  have e0 : (0 + 2 + sizeN C.xs 0 : Nat) = 2 + sizeN C.xs 0 := by omega
  rw [e0] at gb
  have gt : ∀ (m : Nat) (c : Nat), 0 < m → Fn C 2 "_law_take" [.box, N1 m] (c : Int) (N1 (takeN C.xs m c)) ((c + 1 : Nat) : Int) := fun m c hm => f_take hm hxs
  refine Exs.set (c₁ := ((2 + sizeN C.xs 0 : Nat) : Int)) (d := LZ f) (Ev.call (EvL.cons (c₁ := ((0 : Nat) : Int)) (Ev.nm rfl) EvL.nil) gb) rfl (by intro _ _; rfl) ?_
  unfold cntEnd
  generalize hc1 : 2 + sizeN C.xs 0 = c1 at *
  have ht3 := takeN_lt C.xs c1 (show 0 < 3 by decide)
  refine Exs.at [("box", .v .box), ("f", .v (LZ f))] ?_
  have hnums : (List.range (rngInts 0 1 (1 + takeN C.xs 3 c1)).length).map (fun i => D.int (someInts.getD (takeN C.xs 14 (c1 + 1 + i)) 0)) = nums.map D.int := by
    rw [← hn, rngInts_len]
    unfold numsZ
    rw [List.map_map]; rfl
  have hnl : nums.length = 1 + takeN C.xs 3 c1 := by rw [← hn]; simp [numsZ]
  refine Exs.setC (c₁ := ((c1 + 1 : Nat) : Int)) (c₂ := ((c1 + 1 + (1 + takeN C.xs 3 c1) : Nat) : Int)) (items := rngInts 0 1 (1 + takeN C.xs 3 c1)) (outs := nums.map D.int) (EvIt.rngN (n := 1 + takeN C.xs 3 c1) (Ev.cast (Ev.callB .range (EvL.cons (c₁ := ((c1 + 1 : Nat) : Int)) (Ev.bin (c₁ := ((c1 : Nat) : Int)) Ev.int (Ev.call (EvL.cons (c₁ := ((c1 : Nat) : Int)) (Ev.nm rfl) (EvL.cons (c₁ := ((c1 : Nat) : Int)) (d := N1 3) Ev.int EvL.nil)) (gt 3 c1 (by omega))) Bin.add) EvL.nil) CallV.range1) (by show D.rng _ _ _ = D.rng _ _ _; congr 1)) (by omega)) (.name _ _) (by with_unfolding_all rfl) ?_ (by rw [List.length_map]; omega) rfl (fun _ q => swaps_true q rfl) (by intro _ _; rfl) ?_
  · rw [← hnums]
    have e : ((c1 + 1 + (1 + takeN C.xs 3 c1) : Nat) : Int) = ((c1 + 1 + (rngInts 0 1 (1 + takeN C.xs 3 c1)).length : Nat) : Int) := by rw [rngInts_len]
    rw [e]
    refine CR.run (fun j => D.int (someInts.getD (takeN C.xs 14 j) 0)) _ (c1 + 1) fun d m j => ?_
    obtain ⟨i, _, rfl⟩ := List.mem_map.mp m
    have hj := takeN_lt C.xs j (show 0 < 14 by decide)
    refine ⟨rfl, true, (j : Int), EvIfs.nil, fun _ => ⟨_, rfl, ?_⟩, fun q => nomatch q⟩
    refine Ev.menu (i := ((takeN C.xs 14 j : Nat) : Int)) (Ev.call (EvL.cons (c₁ := (j : Int)) (Ev.nm rfl) (EvL.cons (c₁ := (j : Int)) (d := N1 14) Ev.int EvL.nil)) (gt 14 j (by omega))) (by omega) ?_
    rw [Int.toNat_natCast, List.getD_eq_getElem?_getD]
    have : takeN C.xs 14 j < someInts.length := hj
    rw [List.getElem?_eq_getElem this]; rfl
  · refine Exs.frzTo [("box", .v .box), ("f", .v (LZ f)), ("numbers", .v (LZ nums))] ?_
    generalize ((c1 + 1 + (1 + takeN C.xs 3 c1) : Nat) : Int) = c at *
    have hpr35 : ∀ p ∈ [(35 : Int)], PrOK p := fun p m => by rw [List.mem_singleton.mp m]; exact .inl (by decide +kernel)
    have hd35 : dlO [36, -20, 1] [35] = some [0, 1, 2] := by decide +kernel
    have g35 := @f_holdsD C c [36, -20, 1] [35] [0, 1, 2] hpr35 (by simp) (by simp) (by simp) hd35
    refine Exs.iteN (c₁ := c) (c₂ := c) (V' := [("box", .v .box), ("f", .v (LZ f)), ("numbers", .v (LZ nums))]) (b := false) (EvT.cast (EvT.bool (Ev.call (EvL.cons (c₁ := c) (d := LZ [36, -20, 1]) (EvF.ev (EvF.list (EvL.cons (c₁ := c) Ev.int (EvL.cons (c₁ := c) (Ev.neg Ev.int) (EvL.cons (c₁ := c) Ev.int EvL.nil))))) (EvL.cons (c₁ := c) Ev.str (EvL.cons (c₁ := c) (Ev.tup (EvL.cons (c₁ := c) Ev.int EvL.nil)) EvL.nil))) g35)) (by decide +kernel)) (fun q => nomatch q) (fun _ => Exs.nil) ?_
    -- due
    refine Exs.setMap (c₁ := c) (items := nums.map D.int) (fun d => optZ (lawDeg f (intOf d))) (EvIt.list (Ev.nm rfl)) (.name _ _) (by with_unfolding_all rfl) (fun _ _ => rfl) (fun x mx => ?_) (by rw [List.length_map]; omega) rfl (fun _ q => swaps_true q rfl) (by intro _ _; rfl) ?_
    · obtain ⟨p, mp, rfl⟩ := List.mem_map.mp mx
      exact Ev.call (EvL.cons (c₁ := c) (Ev.nm rfl) (EvL.cons (c₁ := c) (Ev.nm rfl) EvL.nil)) (f_lawdeg (H.pr p mp).2 (by omega) (by omega))
    have hdue : (nums.map D.int).map (fun d => optZ (lawDeg f (intOf d))) = nums.map fun p => optZ (lawDeg f p) := by rw [List.map_map]; rfl
    rw [hdue]
    refine Exs.frzTo [("box", .v .box), ("f", .v (LZ f)), ("numbers", .v (LZ nums)), ("due", .v (.list (nums.map fun p => optZ (lawDeg f p))))] ?_
    refine Exs.set (c₁ := c) (d := LZ (rngZ f.length)) (EvF.ev (EvF.cast (EvF.callB .list (EvL.cons (c₁ := c) (Ev.callB .range (EvL.cons (c₁ := c) (Ev.callB .len (EvL.cons (c₁ := c) (Ev.nm rfl) EvL.nil) (CallV.lenZ (by omega))) EvL.nil) CallV.range1) EvL.nil) (CallF.listRng (n := f.length) (rng_small (by omega) (by omega) (by omega) rngSize_up (by omega)) rngSize_up (by omega))) (rngZ_eq _))) rfl (by intro _ _; rfl) ?_
    have htold : ((nums.map fun p => optZ (lawDeg f p)).filter fun d => !d.isNone).map (fun d => d) = (toldZ f nums).map LZ := by
      rw [List.map_id']
      unfold toldZ
      clear hn hnums hnl hdue H
      induction nums with
      | nil => rfl
      | cons p ps ih =>
        rw [List.map_cons, List.filter_cons]
        cases q : lawDeg f p with
        | none => rw [List.filterMap_cons_none q]; exact ih
        | some t => 
          rw [List.filterMap_cons_some q, List.map_cons]
          show LZ t :: _ = LZ t :: _
          rw [ih]
    have hsm : ∀ t ∈ toldZ f nums, t.length ≤ 10 := fun t m => by
      obtain ⟨p, mp, q⟩ := List.mem_filterMap.mp m
      exact (H.sm p mp t q).1
    have hnl' : nums.length ≤ 1000 := H.num
    refine Exs.forEx (c₁ := c) (c₂ := c) (items := (toldZ f nums).map LZ) (EvIt.list (EvF.ev (EvF.cast (EvF.compFil (c₁ := c) (items := nums.map fun p => optZ (lawDeg f p)) (fun d => !d.isNone) (fun d => d) (EvIt.list (Ev.nm rfl)) (.name _ _) (by with_unfolding_all rfl) (fun _ _ => rfl) (fun x mx => ?_) (fun x mx _ => ?_) (by rw [List.length_map]; omega) (by intro _ _; rfl)) htold))) (.name _ _) rfl rfl (by intro _ _; rfl) ?_
    · exact EvT.cmp (c₁ := c) (Ev.nm rfl) Ev.none Cmp.isnot_none
    · exact Ev.nm rfl
    have hdl := H.dl
    refine (fun (G : ∀ (ts : List (List Int)) (left : List Int), (∀ t ∈ ts, t.length ≤ 10) → left.length ≤ 100 → leftLaw ts left = leftLaw (toldZ f nums) (rngZ f.length) → ∃ V', Fo C 20 _ _ _ _ (ts.map LZ) [("box", .v .box), ("f", .v (LZ f)), ("numbers", .v (LZ nums)), ("due", .v (.list (nums.map fun p => optZ (lawDeg f p)))), ("left", .v (LZ left))] c (.nx V' c) ∧ Exs C 20 _ V' c _ (.rt (.bool true) c)) => G (toldZ f nums) _ hsm (by simp [rngZ]; omega) rfl) ?_
    intro ts
    induction ts with
    | nil =>
      intro left _ hll hleft
      refine ⟨_, .nil, ?_⟩
      replace hleft : left = leftLaw (toldZ f nums) (rngZ f.length) := hleft
      have gd := @f_holdsD C c f nums left (fun p m => (H.pr p m).1) (by omega) (by omega) H.num (by rw [hleft]; exact hdl)
      have hends : endsOf f = [0, (f.length : Int) - 1] := rfl
      refine Exs.set (c₁ := c) (d := if left = endsOf f then .tup [.str "degrees", .tup (nums.map D.int)] else .none) (Ev.ite (c₁ := c) (b := decide (left = endsOf f)) (EvT.cmp (c₁ := c) (d₁ := LZ left) (d₂ := LZ (endsOf f)) (Ev.nm rfl) (EvF.ev (EvF.list (ds := [.int 0, .int ((f.length : Int) - 1)]) (EvL.cons (c₁ := c) Ev.int (EvL.cons (c₁ := c) (Ev.bin (c₁ := c) (Ev.callB .len (EvL.cons (c₁ := c) (Ev.nm rfl) EvL.nil) (CallV.lenZ (by omega))) Ev.int Bin.sub) EvL.nil)))) Cmp.eqZ) (fun q => ?_) (fun q => ?_)) rfl (by intro _ _; rfl) ?_
      · rw [if_pos (of_decide_eq_true q)]
        exact Ev.tup (EvL.cons (c₁ := c) Ev.str (EvL.cons (c₁ := c) (Ev.callB .tuple (EvL.cons (c₁ := c) (Ev.nm rfl) EvL.nil) (CallV.tuple (by rw [List.length_map]; omega))) EvL.nil))
      · rw [if_neg (of_decide_eq_false q)]
        exact Ev.none
      · generalize hway : (if left = endsOf f then D.tup [.str "degrees", .tup (nums.map D.int)] else D.none) = way
        have hwn : (!way.isNone) = decide (left = endsOf f) := by
          rw [← hway]
          by_cases q : left = endsOf f
          · rw [if_pos q, decide_eq_true q]; rfl
          · rw [if_neg q, decide_eq_false q]; rfl
        refine Exs.at [("box", .v .box), ("f", .v (LZ f)), ("numbers", .v (LZ nums)), ("due", .v (.list (nums.map fun p => optZ (lawDeg f p)))), ("left", .v (LZ left)), ("way", .v way)] ?_
        have hdm : (nums.map D.int).map (fun d => optZ (lawDeg f (intOf d))) = nums.map fun p => optZ (lawDeg f p) := by rw [List.map_map]; rfl
        refine Exs.iteN (c₁ := c) (c₂ := c) (V' := [("box", .v .box), ("f", .v (LZ f)), ("numbers", .v (LZ nums)), ("due", .v (.list (nums.map fun p => optZ (lawDeg f p)))), ("left", .v (LZ left)), ("way", .v way)]) (b := false)
          (EvT.or_false (c₁ := c) (EvT.cmp (c₁ := c) (d₁ := .list (nums.map fun p => optZ (lawDeg f p))) (EvF.ev (EvF.cast (EvF.compMap (c₁ := c) (items := nums.map D.int) (fun d => optZ (lawDeg f (intOf d))) (EvIt.list (Ev.nm rfl)) (.name _ _) (by with_unfolding_all rfl) (fun _ _ => rfl) (fun x mx => ?_) (by rw [List.length_map]; omega) (by intro _ _; rfl)) hdm)) (Ev.nm rfl) (Cmp.neSelf fun d m => ?_))
            (EvT.or1 (EvT.cmp (c₁ := c) (Ev.call (EvL.cons (c₁ := c) (Ev.nm rfl) (EvL.cons (c₁ := c) Ev.str (EvL.cons (c₁ := c) (Ev.callB .tuple (EvL.cons (c₁ := c) (Ev.nm rfl) EvL.nil) (CallV.tuple (by rw [List.length_map]; omega))) EvL.nil))) gd) (Ev.cmp (c₁ := c) (Ev.nm rfl) Ev.none Cmp.isnot_none) (Cmp.neB hwn.symm)))) (fun q => nomatch q) (fun _ => Exs.nil) ?_
        · obtain ⟨p, mp, rfl⟩ := List.mem_map.mp mx
          exact Ev.call (EvL.cons (c₁ := c) (Ev.nm rfl) (EvL.cons (c₁ := c) (Ev.nm rfl) EvL.nil)) (f_degmod (H.pr p mp).1 (by omega) (by omega) (H.dm p mp))
        · obtain ⟨p, mp, rfl⟩ := List.mem_map.mp m
          exact optZ_ok _
        · have hb1 : (nums.map D.int).map (fun d => D.bool (lawEis f (intOf d))) = nums.map fun p => D.bool (lawEis f p) := by rw [List.map_map]; rfl
          refine Exs.iteN (c₁ := c) (c₂ := c) (V' := [("box", .v .box), ("f", .v (LZ f)), ("numbers", .v (LZ nums)), ("due", .v (.list (nums.map fun p => optZ (lawDeg f p)))), ("left", .v (LZ left)), ("way", .v way)]) (b := false)
            (EvT.cmp (c₁ := c) (d₁ := .list (nums.map fun p => D.bool (lawEis f p))) (d₂ := .list (nums.map fun p => D.bool (lawEis f p))) (EvF.ev (EvF.cast (EvF.compMap (c₁ := c) (items := nums.map D.int) (fun d => D.bool (lawEis f (intOf d))) (EvIt.list (Ev.nm rfl)) (.name _ _) (by with_unfolding_all rfl) (fun _ _ => rfl) (fun x mx => ?_) (by rw [List.length_map]; omega) (by intro _ _; rfl)) hb1))
              (EvF.ev (EvF.cast (EvF.compMap (c₁ := c) (items := nums.map D.int) (fun d => D.bool (lawEis f (intOf d))) (EvIt.list (Ev.nm rfl)) (.name _ _) (by with_unfolding_all rfl) (fun _ _ => rfl) (fun x mx => ?_) (by rw [List.length_map]; omega) (by intro _ _; rfl)) hb1)) (Cmp.neSelf fun d m => ?_)) (fun q => nomatch q) (fun _ => Exs.nil) ?_
          · obtain ⟨p, mp, rfl⟩ := List.mem_map.mp mx
            exact Ev.call (EvL.cons (c₁ := c) (Ev.nm rfl) (EvL.cons (c₁ := c) Ev.str (EvL.cons (c₁ := c) (Ev.tup (EvL.cons (c₁ := c) Ev.int (EvL.cons (c₁ := c) (Ev.nm rfl) EvL.nil))) EvL.nil))) (f_holdsE (H.pr p mp).2 (by omega) (by omega) (H.eis p mp))
          · obtain ⟨p, mp, rfl⟩ := List.mem_map.mp mx
            exact Ev.call (EvL.cons (c₁ := c) (Ev.nm rfl) (EvL.cons (c₁ := c) (Ev.nm rfl) EvL.nil)) (f_laweis (H.pr p mp).2 (by omega) (by omega))
          · obtain ⟨p, mp, rfl⟩ := List.mem_map.mp m
            exact ⟨rfl, by cases lawEis f p <;> rfl, by show 0 ≤ 5; decide⟩
          · have hnp : ∀ p ∈ nums.filter (fun p => !lprB p), dmO f p = some none := fun p m => by
              have hm := List.mem_filter.mp m
              rw [H.dm p hm.1]
              have : lprB p = false := by simpa using hm.2
              unfold lawDeg
              rw [this]; rfl
            have hdn := dl_none (f := f) (nums.filter fun p => !lprB p) (rngZ f.length) hnp (by simp [rngZ]; omega)
            have hne : rngZ f.length ≠ endsOf f := by
              rcases hlen with h | h
              · unfold endsOf; rw [h]; decide
              · unfold endsOf; rw [h]; decide
            have gs := @f_shown C c f (nums.filter fun p => !lprB p) (rngZ f.length) hlen (fun p m => (H.pr p (List.mem_filter.mp m).1).1) hdn hne H.kr
            have hfl : ((nums.map D.int).filter (fun d => !lprB (intOf d))).map (fun d => d) = (nums.filter fun p => !lprB p).map D.int := by rw [List.map_id', filZ (fun p => !lprB p)]
            refine Exs.ret' (Ev.cmp (c₁ := c) (d₁ := .none) (Ev.call (EvL.cons (c₁ := c) (Ev.nm rfl) (EvL.cons (c₁ := c) (EvF.ev (EvF.list EvL.nil)) (EvL.cons (c₁ := c) (EvF.ev (EvF.cast (EvF.compFil (c₁ := c) (items := nums.map D.int) (fun d => !lprB (intOf d)) (fun d => d) (EvIt.list (Ev.nm rfl)) (.name _ _) (by with_unfolding_all rfl) (fun _ _ => rfl) (fun x mx => ?_) (fun x mx _ => ?_) (by rw [List.length_map]; omega) (by intro _ _; rfl)) hfl)) (EvL.cons (c₁ := c) Ev.int EvL.nil)))) gs) Ev.none Cmp.is_none)
            · obtain ⟨p, mp, rfl⟩ := List.mem_map.mp mx
              exact EvT.not (EvT.bool (Ev.call (EvL.cons (c₁ := c) (Ev.nm rfl) EvL.nil) (f_lprime (H.pr p mp).2)))
            · obtain ⟨p, mp, rfl⟩ := List.mem_map.mp mx
              exact Ev.nm rfl
    | cons t ts ih =>
      intro left hts hll hleft
      obtain ⟨V', w, z⟩ := ih (left.filter fun d => (sumsLaw t).any (· == d)) (fun x m => hts x (List.mem_cons_of_mem _ m)) (Nat.le_trans (List.length_filter_le _ _) hll) hleft
      have ht := hts t List.mem_cons_self
      refine ⟨V', .turn rfl ?_ w, z⟩
      refine Exs.keep ["box", "f", "numbers", "due", "left"] (V₁ := [("box", .v .box), ("f", .v (LZ f)), ("numbers", .v (LZ nums)), ("due", .v (.list (nums.map fun p => optZ (lawDeg f p)))), ("left", .v (LZ (left.filter fun d => (sumsLaw t).any (· == d)))), ("degrees", .v (LZ t)), ("masks", .v (.rng 0 (2 ^ t.length) 1)), ("sums", .v (LZ (sumsLaw t)))]) ?_
      refine Exs.at [("box", .v .box), ("f", .v (LZ f)), ("numbers", .v (LZ nums)), ("due", .v (.list (nums.map fun p => optZ (lawDeg f p)))), ("left", .v (LZ left)), ("degrees", .v (LZ t))] ?_
      have hpow : (2 : Nat) ^ t.length ≤ 1024 := Nat.le_trans (Nat.pow_le_pow_right (by decide) ht) (by decide)
      refine Exs.set (c₁ := c) (d := .rng 0 (2 ^ t.length) 1) (Ev.cast (Ev.callB .range (EvL.cons (c₁ := c) (Ev.bin (c₁ := c) Ev.int (Ev.callB .len (EvL.cons (c₁ := c) (Ev.nm rfl) EvL.nil) (CallV.lenZ (by omega))) (Bin.pow (by omega) (by omega) (by decide))) EvL.nil) CallV.range1) (by rw [Int.toNat_natCast])) rfl (by intro _ _; rfl) ?_
      refine Exs.at [("box", .v .box), ("f", .v (LZ f)), ("numbers", .v (LZ nums)), ("due", .v (.list (nums.map fun p => optZ (lawDeg f p)))), ("left", .v (LZ left)), ("degrees", .v (LZ t)), ("masks", .v (.rng 0 (2 ^ t.length) 1))] ?_
      have e2 : ((2 : Int) ^ t.length) = (((2 ^ t.length : Nat)) : Int) := by push_cast; rfl
      have hsums : (rngInts 0 1 (2 ^ t.length)).map (fun d => D.int (((t.zipIdx.filter fun z => ((intOf d).fdiv (2 ^ z.2)).fmod 2 == 1).map (·.1)).sum)) = (sumsLaw t).map D.int := by
        rw [rngZ2_eq]
        unfold sumsLaw
        rw [List.map_map, List.map_map]; rfl
      refine Exs.set (c₁ := c) (d := LZ (sumsLaw t)) (EvF.ev (EvF.cast (EvF.compMap (c₁ := c) (items := rngInts 0 1 (2 ^ t.length)) (fun d => D.int (((t.zipIdx.filter fun z => ((intOf d).fdiv (2 ^ z.2)).fmod 2 == 1).map (·.1)).sum)) (EvIt.rngN (by rw [← e2]; exact Ev.nm rfl) (by omega)) (.name _ _) (by with_unfolding_all rfl) (fun _ _ => rfl) (fun x mx => ?_) (by rw [rngInts_len]; omega) (by intro _ _; rfl)) hsums)) rfl (fun _ q => swaps_cell q rfl) ?_
      · obtain ⟨i, mi, rfl⟩ := List.mem_map.mp mx
        have hi := List.mem_range.mp mi
        refine Ev.callB .sum (EvL.cons (c₁ := c) (EvF.ev (EvF.cast (EvF.compFil (c₁ := c) (items := enumD (t.map D.int)) (selMask i) snd2 (EvIt.enum (Ev.nm rfl)) Tg.two (by with_unfolding_all rfl) (fun y my => ?_) (fun y my => ?_) (fun y my _ => ?_) (by rw [enumD_len, List.length_map]; omega) (by intro _ _; rfl)) (sel_masks i))) EvL.nil) CallV.sum
        · obtain ⟨z, mz, rfl⟩ := List.mem_map.mp my; rfl
        · obtain ⟨z, mz, rfl⟩ := List.mem_map.mp my
          have h1 := List.snd_lt_of_mem_zipIdx mz
          rw [List.length_map] at h1
          have hp2 : (2 : Nat) ^ z.2 ≤ 1024 := Nat.le_trans (Nat.pow_le_pow_right (by decide) (show z.2 ≤ 10 by omega)) (by decide)
          have hp1 : 1 ≤ (2 : Nat) ^ z.2 := Nat.one_le_pow _ _ (by decide)
          have e3 : ((2 : Int) ^ ((z.2 : Int)).toNat) = (((2 ^ z.2 : Nat)) : Int) := by rw [Int.toNat_natCast]; push_cast; rfl
          refine EvT.cmp (c₁ := c) (Ev.bin (c₁ := c) (Ev.bin (c₁ := c) (Ev.nm rfl) (Ev.bin (c₁ := c) (d := .int ((2 : Int) ^ ((z.2 : Int)).toNat)) Ev.int (Ev.nm rfl) (Bin.pow (by omega) (by omega) (by decide))) (Bin.fdiv (by rw [e3]; omega) (by rw [e3]; omega))) Ev.int (Bin.mod (by decide))) Ev.int Cmp.eq
        · obtain ⟨z, mz, rfl⟩ := List.mem_map.mp my
          exact Ev.nm rfl
      · refine Exs.at [("box", .v .box), ("f", .v (LZ f)), ("numbers", .v (LZ nums)), ("due", .v (.list (nums.map fun p => optZ (lawDeg f p)))), ("left", .v (LZ left)), ("degrees", .v (LZ t)), ("masks", .v (.rng 0 (2 ^ t.length) 1)), ("sums", .v (LZ (sumsLaw t)))] ?_
        refine Exs.setFil (c₁ := c) (items := left.map D.int) (fun d => (sumsLaw t).any (· == intOf d)) (fun d => d) (EvIt.list (Ev.nm rfl)) (.name _ _) (by with_unfolding_all rfl) (fun _ _ => rfl) (fun x mx => ?_) (fun x mx _ => ?_) (by rw [List.length_map]; omega) rfl (fun _ q => swaps_true q rfl) (by intro _ _; rfl) ?_
        · obtain ⟨o, mo, rfl⟩ := List.mem_map.mp mx
          exact EvT.cmp (c₁ := c) (Ev.nm rfl) (Ev.nm rfl) Cmp.isin
        · obtain ⟨o, mo, rfl⟩ := List.mem_map.mp mx
          exact Ev.nm rfl
        · rw [List.map_id', filZ (fun d => (sumsLaw t).any (· == d))]
          exact Exs.frzSet _ rfl Exs.nil
end
/-! ## The plain law -/
noncomputable def evalN (m : List Nat) (x : Nat) : Nat := m.foldr (fun a acc => acc * x + a) 0
noncomputable def zerosN (p : Nat) (m : List Nat) : List Nat := (List.range p).filter fun x => evalN m x % p == 0
noncomputable def stpN (m : List Nat) : List Nat := (m.zipIdx.map fun z => z.2 * z.1).drop 1
noncomputable def lawDegN (p : Nat) (m : List Nat) : Option (List Int) :=
  if ((zerosN p m).any fun x => evalN (stpN m) x % p == 0) = true then none else
  some (List.replicate (zerosN p m).length 1 ++ if 0 < (m.length : Int) - 1 - (zerosN p m).length then [(m.length : Int) - 1 - (zerosN p m).length] else [])
noncomputable def coreO (p : Nat) (m : List Nat) : Option (List (List Nat × Nat)) := (sqfO p m).bind fun l => mfG p l []
noncomputable def okT (t : List Int) : Bool := t == [1, 1] || t == [2] || t == [1, 1, 1] || t == [1, 2] || t == [3]
noncomputable def tabOK (p : Nat) (m : List Nat) : Bool := match coreO p m with
  | none => false
  | some pairs => Nat.ble pairs.length 60 && (pairs.all fun x => Nat.ble x.1.length 100) &&
    (match lawDegN p m with
     | none => pairs.any fun x => Nat.blt 1 x.2
     | some t => okT t && !(pairs.any fun x => Nat.blt 1 x.2) && (sortZ (pairs.map fun x => (x.1.length : Int) - 1) == t))
noncomputable def allB : Nat → (Nat → Bool) → Bool
  | 0, _ => true
  | n + 1, q => q n && allB n q
theorem allB_all {q : Nat → Bool} : ∀ {n : Nat}, allB n q = true → ∀ i < n, q i = true
  | 0, _, i, hi => by omega
  | n + 1, h, i, hi => by
    rw [allB, Bool.and_eq_true] at h
    rcases Nat.lt_or_ge i n with z | z
    · exact allB_all h.2 i z
    · have : i = n := by omega
      rw [this]; exact h.1

/-- m is f, times t, mod p -/
inductive RelL (t p : Int) : List Nat → List Int → Prop
  | nil : RelL t p [] []
  | cons {y : Nat} {x : Int} {m : List Nat} {f : List Int} (k : Int) : (y : Int) = t * x + p * k → RelL t p m f → RelL t p (y :: m) (x :: f)
theorem RelL.length {t p : Int} {m : List Nat} {f : List Int} (r : RelL t p m f) : m.length = f.length := by
  induction r with
  | nil => rfl
  | cons _ _ _ ih => rw [List.length_cons, List.length_cons, ih]
theorem zatZ_foldr (f : List Int) (n : Int) : zatZ f n = f.foldr (fun x a => a * n + x) 0 := by
  unfold zatZ; rw [List.foldl_reverse]
theorem RelL.eval {t p : Int} {m : List Nat} {f : List Int} (r : RelL t p m f) (x : Nat) : ∃ k, (evalN m x : Int) = t * zatZ f x + p * k := by
  rw [zatZ_foldr]
  unfold evalN
  induction r with
  | nil => exact ⟨0, by simp⟩
  | @cons y z m f k h r ih =>
    obtain ⟨j, hj⟩ := ih
    refine ⟨j * x + k, ?_⟩
    rw [List.foldr_cons, List.foldr_cons]
    generalize (List.foldr (fun a acc => acc * x + a) 0 m) = e at *
    generalize (List.foldr (fun z a => a * (x : Int) + z) 0 f) = g at *
    rw [Int.natCast_add, Int.natCast_mul, hj, h]
    grind
theorem RelL.drop {t p : Int} {m : List Nat} {f : List Int} (r : RelL t p m f) : ∀ n, RelL t p (m.drop n) (f.drop n) := by
  induction r with
  | nil => intro n; simpa using RelL.nil
  | cons k h r ih =>
    intro n
    cases n with
    | zero => exact .cons k h r
    | succ n => simpa using ih n
theorem RelL.stp {t p : Int} {m : List Nat} {f : List Int} (r : RelL t p m f) : ∀ i : Nat, RelL t p ((m.zipIdx i).map fun z => z.2 * z.1) ((f.zipIdx i).map fun z => (z.2 : Int) * z.1) := by
  induction r with
  | nil => intro i; exact .nil
  | @cons y x m f k h r ih =>
    intro i
    rw [List.zipIdx_cons, List.zipIdx_cons, List.map_cons, List.map_cons]
    refine .cons (i * k) ?_ (ih (i + 1))
    show ((i * y : Nat) : Int) = _
    rw [Int.natCast_mul, h]
    grind
theorem RelL.of (t p : Nat) (hp : 0 < p) : ∀ f : List Int, RelL (t : Int) (p : Int) ((redN p f).map fun x => x * t % p) f
  | [] => .nil
  | x :: f => by
    have h1 : ((x.fmod (p : Int)).toNat : Int) = x % (p : Int) := by
      rw [← fmod_toNat x p hp, Int.fmod_eq_emod_of_nonneg _ (by omega)]
    have h2 : x = p * (x / p) + x % p := (Int.mul_ediv_add_emod x p).symm
    have h3 : ((((x.fmod (p : Int)).toNat * t % p : Nat)) : Int) = (x % p) * t - p * ((x % p) * t / p) := by
      rw [Int.natCast_emod, Int.natCast_mul, h1]
      have := Int.mul_ediv_add_emod ((x % p) * t) p
      omega
    refine .cons (-(t * (x / p)) - ((x % p) * t / p)) ?_ (RelL.of t p hp f)
    rw [h3]
    generalize hq : x / (p : Int) = q at *
    generalize hr : x % (p : Int) = r at *
    generalize (r * (t : Int) / (p : Int)) = s at *
    rw [h2]
    grind
theorem rel_zero {t p l : Nat} {e : Int} {n : Nat} {k : Int} (hp : 0 < p) (hl : l * t % p = 1) (h : (n : Int) = t * e + p * k) : (n % p == 0) = (e.fmod p == 0) := by
  rw [Int.fmod_eq_emod_of_nonneg _ (by omega), Bool.eq_iff_iff, beq_iff_eq, beq_iff_eq]
  have hn : n % p = 0 ↔ (p : Int) ∣ (n : Int) := by
    rw [← Nat.dvd_iff_mod_eq_zero, Int.natCast_dvd_natCast]
  have he : e % (p : Int) = 0 ↔ (p : Int) ∣ e := (Int.dvd_iff_emod_eq_zero).symm
  rw [hn, he]
  have h1 : ((l * t : Nat) : Int) = p * (l * t / p : Nat) + 1 := by
    have := Nat.div_add_mod (l * t) p
    rw [hl] at this
    exact_mod_cast this.symm
  constructor
  · rintro ⟨j, hj⟩
    refine ⟨l * (j - k) - (l * t / p : Nat) * e, ?_⟩
    rw [Int.natCast_mul] at h1
    generalize ((l * t / p : Nat) : Int) = w at *
    have h2 : (t : Int) * e = p * (j - k) := by grind
    have h3 : (l : Int) * (t * e) = (p * w + 1) * e := by grind
    grind
  · rintro ⟨j, hj⟩
    exact ⟨t * j + k, by rw [h, hj]; grind⟩
theorem rel_zeros {t p l : Nat} {m : List Nat} {f : List Int} (hp : 0 < p) (hl : l * t % p = 1) (r : RelL t p m f) : zerosZ f p = (zerosN p m).map fun i : Nat => (0 : Int) + (i : Int) * 1 := by
  unfold zerosZ zerosN rngZ2
  rw [Int.toNat_natCast, List.filter_map]
  congr 1
  refine List.filter_congr fun i _ => ?_
  obtain ⟨k, hk⟩ := r.eval i
  show ((zatZ f (0 + (i : Int) * 1)).fmod (p : Int) == 0) = _
  have e : (0 : Int) + (i : Int) * 1 = i := by omega
  rw [e]
  exact (rel_zero hp hl hk).symm
theorem rel_law {t p l : Nat} {m : List Nat} {f : List Int} (hp : 0 < p) (hl : l * t % p = 1) (r : RelL t p m f) (h1 : lprB p = true) (h2 : (lastZ f).fmod (p : Int) ≠ 0) : lawDeg f p = lawDegN p m := by
  unfold lawDeg lawDegN
  have hz := rel_zeros hp hl r
  have hs : RelL t p (stpN m) (steepZ f) := (r.stp 0).drop 1
  have hany : (((zerosZ f p).filter fun x => (zatZ (steepZ f) x).fmod p == 0) ≠ []) ↔ ((zerosN p m).any fun x => evalN (stpN m) x % p == 0) = true := by
    rw [hz, List.filter_map, List.any_eq_true]
    constructor
    · intro q
      obtain ⟨x, mx⟩ := List.exists_mem_of_ne_nil _ q
      obtain ⟨i, mi, rfl⟩ := List.mem_map.mp mx
      obtain ⟨mi, qi⟩ := List.mem_filter.mp mi
      refine ⟨i, mi, ?_⟩
      obtain ⟨k, hk⟩ := hs.eval i
      rw [rel_zero hp hl hk]
      have e : (0 : Int) + (i : Int) * 1 = i := by omega
      have qi' : (zatZ (steepZ f) (0 + (i : Int) * 1)).fmod (p : Int) == 0 := qi
      rwa [e] at qi'
    · rintro ⟨i, mi, qi⟩ w
      obtain ⟨k, hk⟩ := hs.eval i
      rw [rel_zero hp hl hk] at qi
      have e : (0 : Int) + (i : Int) * 1 = i := by omega
      have : i ∈ (zerosN p m).filter ((fun x => (zatZ (steepZ f) x).fmod (p : Int) == 0) ∘ fun i : Nat => (0 : Int) + (i : Int) * 1) := List.mem_filter.mpr ⟨mi, by show (zatZ (steepZ f) (0 + (i : Int) * 1)).fmod (p : Int) == 0; rw [e]; exact qi⟩
      rw [List.map_eq_nil_iff] at w
      rw [w] at this; cases this
  have hlen : (zerosZ f p).length = (zerosN p m).length := by rw [hz, List.length_map]
  rw [if_neg (by rw [h1]; simp), if_neg h2]
  by_cases q : ((zerosN p m).any fun x => evalN (stpN m) x % p == 0) = true
  · rw [if_pos q, if_pos (hany.mpr q)]
  · rw [if_neg q, if_neg fun w => q (hany.mp w), hlen, r.length]
theorem pr_tab : ∀ p ∈ [2, 3, 5, 7, 11], lprB ((p : Nat) : Int) = true ∧ primO ((p : Nat) : Int) = some true := by decide +kernel
theorem inv_tab : ∀ p ∈ [2, 3, 5, 7, 11], ∀ l < p, l ≠ 0 → l * invT p l % p = 1 := by decide +kernel
theorem some_tab : ∀ p ∈ someInts, p ≤ 1000 ∧ ((primO p = some false ∧ lprB p = false) ∨ p ∈ [(2 : Int), 3, 5, 7, 11]) := by decide +kernel
theorem sums_tab : ∀ t ∈ [[(1 : Int), 1], [2], [1, 1, 1], [1, 2], [3]], (match sumsO t with | some s => s.all (fun d => (sumsLaw t).any (· == d)) && (sumsLaw t).all (fun d => s.any (· == d)) | none => false) = true := by decide +kernel
theorem okT_mem {t : List Int} (h : okT t = true) : t ∈ [[(1 : Int), 1], [2], [1, 1, 1], [1, 2], [3]] := by
  unfold okT at h
  simpa [Bool.or_eq_true, or_assoc] using h
theorem okT_sums {t : List Int} (h : okT t = true) : t.length ≤ 10 ∧ ∃ s, sumsO t = some s ∧ ∀ d, s.any (· == d) = (sumsLaw t).any (· == d) := by
  have hm := okT_mem h
  refine ⟨?_, ?_⟩
  · revert hm t
    intro t _ hm
    simp at hm
    rcases hm with rfl | rfl | rfl | rfl | rfl <;> simp
  · have q := sums_tab t hm
    cases hs : sumsO t with
    | none => rw [hs] at q; cases q
    | some s =>
      rw [hs] at q
      replace q : (s.all (fun d => (sumsLaw t).any (· == d)) && (sumsLaw t).all (fun d => s.any (· == d))) = true := q
      rw [Bool.and_eq_true, List.all_eq_true, List.all_eq_true] at q
      refine ⟨s, rfl, fun d => ?_⟩
      rw [Bool.eq_iff_iff, List.any_eq_true, List.any_eq_true]
      constructor
      · rintro ⟨x, mx, e⟩
        rw [beq_iff_eq.mp e] at mx
        exact List.any_eq_true.mp (q.1 d mx)
      · rintro ⟨x, mx, e⟩
        rw [beq_iff_eq.mp e] at mx
        exact List.any_eq_true.mp (q.2 d mx)

/-- the table -/
noncomputable def TabOK : Prop := ∀ p, isPr p → ∀ a b, a < p → b < p → tabOK p [a, b, 1] = true ∧ ∀ c, c < p → tabOK p [a, b, c, 1] = true

theorem tab_dm {p : Nat} {f : List Int} {g m : List Nat} (hp : isPr p) (hg : smB g = true) (hm : monicO p g = some m) (ht : tabOK p m = true) (hr : lawDeg f p = lawDegN p m) : dmP p g = some (lawDeg f p) ∧ ∀ t, lawDeg f p = some t → okT t = true := by
  unfold tabOK at ht
  have e : mfO p g = coreO p m := by unfold mfO coreO; rw [if_pos hg, hm]; rfl
  unfold dmP
  rw [e]
  cases hc : coreO p m with
  | none => rw [hc] at ht; cases ht
  | some pairs =>
    rw [hc] at ht
    replace ht : (Nat.ble pairs.length 60 && (pairs.all fun x => Nat.ble x.1.length 100) &&
      (match lawDegN p m with
       | none => pairs.any fun x => Nat.blt 1 x.2
       | some t => okT t && !(pairs.any fun x => Nat.blt 1 x.2) && (sortZ (pairs.map fun x => (x.1.length : Int) - 1) == t))) = true := ht
    rw [Bool.and_eq_true] at ht
    show (if (Nat.ble pairs.length 60 && pairs.all fun x => Nat.ble x.1.length 100) = true then
      (if (pairs.any fun x => Nat.blt 1 x.2) = true then some none else some (some (sortZ (pairs.map fun x => (x.1.length : Int) - 1)))) else none) = _ ∧ _
    rw [if_pos ht.1, hr]
    cases hl : lawDegN p m with
    | none =>
      have h2 := ht.2
      rw [hl] at h2
      replace h2 : (pairs.any fun x => Nat.blt 1 x.2) = true := h2
      rw [if_pos h2]
      exact ⟨rfl, fun t q => nomatch q⟩
    | some t =>
      have h2 := ht.2
      rw [hl] at h2
      replace h2 : (okT t && !(pairs.any fun x => Nat.blt 1 x.2) && (sortZ (pairs.map fun x => (x.1.length : Int) - 1) == t)) = true := h2
      rw [Bool.and_eq_true, Bool.and_eq_true] at h2
      have h3 : (pairs.any fun x => Nat.blt 1 x.2) = false := by simpa using h2.1.2
      rw [if_neg (by rw [h3]; simp), beq_iff_eq.mp h2.2]
      exact ⟨rfl, fun t' q => by cases q; exact h2.1.1⟩

theorem redN_mem {p : Nat} (hp : 0 < p) {f : List Int} : ∀ x ∈ redN p f, x < p := fun x m => by
  obtain ⟨y, _, rfl⟩ := List.mem_map.mp m
  rw [Int.fmod_eq_emod_of_nonneg _ (by omega)]
  have h1 := Int.emod_nonneg y (show (p : Int) ≠ 0 by omega)
  have h2 := Int.emod_lt_of_pos y (show (0 : Int) < p by omega)
  omega
theorem dm_prime (T : TabOK) {p : Nat} {f : List Int} (hp : isPr p) (hf : f.length = 3 ∨ f.length = 4) (hl : (lastZ f).fmod (p : Int) ≠ 0) : dmP p (redN p f) = some (lawDeg f p) ∧ ∀ t, lawDeg f p = some t → okT t = true := by
  have hpp := hp.pos
  have hmem := @redN_mem p (by omega) f
  have hg : smB (redN p f) = true := by
    refine smB_of (by rw [redN_len]; omega) fun x m => ?_
    have := hmem x m
    omega
  have hlast : lastN (redN p f) = ((lastZ f).fmod (p : Int)).toNat := by
    rcases hf with h | h
    · obtain ⟨a, b, c, rfl⟩ := len3 h; rfl
    · obtain ⟨a, b, c, d, rfl⟩ := len4 h; rfl
  have hl1 : lastN (redN p f) < p := by
    rw [hlast, Int.fmod_eq_emod_of_nonneg _ (by omega)]
    have h1 := Int.emod_nonneg (lastZ f) (show (p : Int) ≠ 0 by omega)
    have h2 := Int.emod_lt_of_pos (lastZ f) (show (0 : Int) < p by omega)
    omega
  have hl2 : lastN (redN p f) ≠ 0 := by
    rw [hlast]
    intro q
    have := fmod_toNat (lastZ f) p (by omega)
    rw [q] at this
    exact hl (by simpa using this)
  have hmod : lastN (redN p f) % p = lastN (redN p f) := Nat.mod_eq_of_lt hl1
  have hinv := inv_tab p hp.mem _ hl1 hl2
  have hmon : monicO p (redN p f) = some (scaleN p (invT p (lastN (redN p f))) (redN p f)) := by
    unfold monicO
    rw [if_neg (by rw [redN_len]; omega), if_pos, hmod]
    rw [hg, hmod, Bool.true_and, Nat.blt_eq]; omega
  have hr := RelL.of (invT p (lastN (redN p f))) p (by omega) f
  have hsc : scaleN p (invT p (lastN (redN p f))) (redN p f) = (redN p f).map fun x => x * invT p (lastN (redN p f)) % p := by
    unfold scaleN
    generalize hv : invT p (lastN (redN p f)) = v at *
    generalize hG : redN p f = g at *
    have hgl : g.length = f.length := by rw [← hG, redN_len]
    rcases hf with h | h
    · obtain ⟨a, b, c, rfl⟩ := len3 (hgl.trans h)
      · have hc : c * v % p = 1 := hinv
        exact trimN_last [a * v % p, b * v % p] (by show c * v % p ≠ 0; rw [hc]; decide)
    · obtain ⟨a, b, c, d, rfl⟩ := len4 (hgl.trans h)
      · have hc : d * v % p = 1 := hinv
        exact trimN_last [a * v % p, b * v % p, c * v % p] (by show d * v % p ≠ 0; rw [hc]; decide)
  have hlaw := rel_law (by omega) hinv hr (pr_tab p hp.mem).1 hl
  refine tab_dm hp hg (hmon.trans (congrArg some hsc)) ?_ hlaw
  generalize hv : invT p (lastN (redN p f)) = v at *
  generalize hG : redN p f = g at *
  have hgl : g.length = f.length := by rw [← hG, redN_len]
  have hlt : ∀ x : Nat, x % p < p := fun x => Nat.mod_lt _ (by omega)
  rcases hf with h | h
  · obtain ⟨a, b, c, rfl⟩ := len3 (hgl.trans h)
    · have hc : c * v % p = 1 := hinv
      have := (T p hp (a * v % p) (b * v % p) (hlt _) (hlt _)).1
      show tabOK p [a * v % p, b * v % p, c * v % p] = true
      rw [hc]; exact this
  · obtain ⟨a, b, c, d, rfl⟩ := len4 (hgl.trans h)
    · have hc : d * v % p = 1 := hinv
      have := (T p hp (a * v % p) (b * v % p) (hlt _) (hlt _)).2 (c * v % p) (hlt _)
      show tabOK p [a * v % p, b * v % p, c * v % p, d * v % p] = true
      rw [hc]; exact this

theorem mem5 {p : Int} (h : p ∈ [(2 : Int), 3, 5, 7, 11]) : ∃ q : Nat, p = (q : Int) ∧ isPr q := by
  simp at h
  rcases h with rfl | rfl | rfl | rfl | rfl
  · exact ⟨2, rfl, .inl rfl⟩
  · exact ⟨3, rfl, .inr (.inl rfl)⟩
  · exact ⟨5, rfl, .inr (.inr (.inl rfl))⟩
  · exact ⟨7, rfl, .inr (.inr (.inr (.inl rfl)))⟩
  · exact ⟨11, rfl, .inr (.inr (.inr (.inr rfl)))⟩
theorem some_ok {p : Int} (h : p ∈ someInts) : PrOK p ∧ p ≤ 1000 := by
  obtain ⟨h1, h2⟩ := some_tab p h
  refine ⟨?_, h1⟩
  rcases h2 with h2 | h2
  · exact .inl h2.1
  · obtain ⟨q, rfl, hq⟩ := mem5 h2
    exact .inr ⟨q, rfl, hq, (pr_tab q hq.mem).2⟩
theorem dm_all (T : TabOK) {p : Int} {f : List Int} (h : p ∈ someInts) (hf : f.length = 3 ∨ f.length = 4) : dmO f p = some (lawDeg f p) ∧ ∀ t, lawDeg f p = some t → okT t = true := by
  rcases (some_tab p h).2 with ⟨h1, h2⟩ | h2
  · unfold dmO lawDeg
    rw [h1, h2]
    exact ⟨rfl, fun t q => by rw [if_pos rfl] at q; cases q⟩
  · obtain ⟨q, rfl, hq⟩ := mem5 h2
    have hpp := hq.pos
    have e1 := (pr_tab q hq.mem)
    by_cases hl : (lastZ f).fmod (q : Int) = 0
    · have hd : lawDeg f (q : Int) = none := by
        unfold lawDeg
        rw [e1.1, if_neg (by simp), if_pos hl]
      rw [hd]
      refine ⟨?_, fun t w => nomatch w⟩
      unfold dmO
      rw [e1.2]
      show (if (true = false) then some none else if (lastZ f).fmod (q : Int) = 0 then some none else dmP (q : Int).toNat (redN (q : Int).toNat f)) = _
      rw [if_neg (by simp), if_pos hl]
    · have := dm_prime T hq hf hl
      refine ⟨?_, this.2⟩
      rw [← this.1]
      unfold dmO
      rw [e1.2]
      show (if (true = false) then some none else if (lastZ f).fmod (q : Int) = 0 then some none else dmP (q : Int).toNat (redN (q : Int).toNat f)) = _
      rw [if_neg (by simp), if_neg hl, Int.toNat_natCast]
theorem eis_all {p : Int} {f : List Int} (h : p ∈ someInts) (hf : 2 ≤ f.length) : eisO f p = some (lawEis f p) := by
  unfold eisO lawEis
  rcases (some_tab p h).2 with ⟨h1, h2⟩ | h2
  · rw [h1, h2]
    have hne : (f.take (f.length - 1)).filter (fun x => !false || x.fmod p != 0) ≠ [] := fun w => by
      have : f.take (f.length - 1) ≠ [] := fun w => by
        have := congrArg List.length w
        simp at this; omega
      obtain ⟨x, mx⟩ := List.exists_mem_of_ne_nil _ this
      have := List.filter_eq_nil_iff.mp w x mx
      simp at this
    rw [decide_eq_false hne]; rfl
  · obtain ⟨q, rfl, hq⟩ := mem5 h2
    have e1 := pr_tab q hq.mem
    rw [e1.1, e1.2]
    show (if (true = false) then some false else if (lastZ f).fmod (q : Int) = 0 then some false else if (f.getD 0 0).fmod ((q : Int) * q) = 0 then some false else some ((f.take (f.length - 1)).all fun x => x.fmod (q : Int) == 0)) = _
    rw [if_neg (by simp)]
    by_cases hl : (lastZ f).fmod (q : Int) = 0
    · rw [if_pos hl, hl]; simp
    · rw [if_neg hl]
      by_cases h0 : (f.getD 0 0).fmod ((q : Int) * q) = 0
      · rw [if_pos h0, h0]; simp
      · rw [if_neg h0]
        congr 1
        have e2 : ((lastZ f).fmod (q : Int) != 0) = true := by simpa using hl
        have e3 : ((f.getD 0 0).fmod ((q : Int) * q) != 0) = true := by simpa using h0
        rw [e2, e3, Bool.and_true, Bool.and_true, Bool.eq_iff_iff, decide_eq_true_eq, List.filter_eq_nil_iff, List.all_eq_true]
        constructor
        · intro w x m
          have := w x m
          simp at this ⊢; exact this
        · intro w x m
          have := w x m
          simp at this ⊢; exact this

/-! the polynomials -/
theorem mulRoot_go (r n : Int) : ∀ (f : List Int) (a : Int), (List.zipWith (fun one other => one - r * other) (a :: f) (f ++ [0])).foldr (fun x a => a * n + x) 0 = a + n * f.foldr (fun x a => a * n + x) 0 - r * f.foldr (fun x a => a * n + x) 0
  | [], a => by simp
  | y :: f, a => by
    show (List.zipWith (fun one other => one - r * other) (y :: f) (f ++ [0])).foldr (fun x a => a * n + x) 0 * n + (a - r * y) = _
    rw [mulRoot_go r n f y, List.foldr_cons]
    generalize f.foldr (fun x a => a * n + x) 0 = e
    grind
theorem zat_mulRoot (f : List Int) (r n : Int) : zatZ (mulRoot f r) n = (n - r) * zatZ f n := by
  rw [zatZ_foldr, zatZ_foldr]
  unfold mulRoot
  rw [mulRoot_go]
  generalize f.foldr (fun x a => a * n + x) 0 = e
  grind
theorem zat_roots {n : Int} (hn : n = 0 ∨ n = 1) : ∀ (row : List Int) (f : List Int), (∀ x ∈ row, -4 ≤ x ∧ x ≤ 6) → (zatZ (row.foldl mulRoot f) n).natAbs ≤ 6 ^ row.length * (zatZ f n).natAbs
  | [], f, _ => by simp
  | r :: row, f, h => by
    have h1 := zat_roots hn row (mulRoot f r) fun x m => h x (List.mem_cons_of_mem _ m)
    rw [zat_mulRoot, Int.natAbs_mul] at h1
    have hr := h r List.mem_cons_self
    have h2 : (n - r).natAbs ≤ 6 := by rcases hn with rfl | rfl <;> omega
    refine Nat.le_trans h1 ?_
    rw [List.length_cons, Nat.pow_succ, Nat.mul_assoc]
    exact Nat.mul_le_mul_left _ (Nat.mul_le_mul_right _ h2)
theorem roots_len : ∀ (row f : List Int), (row.foldl mulRoot f).length = f.length + row.length
  | [], f => rfl
  | r :: row, f => by rw [List.foldl_cons, roots_len row, mulRoot_len, List.length_cons]; omega
theorem poly_ok {kind : Nat} {row : List Int} (h1 : row.length = 2 ∨ row.length = 3) (h2 : ∀ x ∈ row, -4 ≤ x ∧ x ≤ 6) : (polyF kind row).length = row.length + 1 ∧ ∀ n : Int, (n = 0 ∨ n = 1) → (zatZ (polyF kind row) n).natAbs ≤ 216 := by
  unfold polyF
  by_cases k0 : kind = 0
  · rw [if_pos k0]
    refine ⟨by rw [roots_len]; simp; omega, fun n hn => ?_⟩
    have := zat_roots hn row [1] h2
    have e : (zatZ [1] n).natAbs = 1 := by unfold zatZ; simp
    rw [e, Nat.mul_one] at this
    refine Nat.le_trans this ?_
    rcases h1 with h | h <;> rw [h] <;> decide
  · rw [if_neg k0]
    rcases h1 with h | h
    · obtain ⟨a, b, rfl⟩ := len2 h
      · have ha := h2 a (by simp)
        have hb := h2 b (by simp)
        by_cases k1 : kind = 1
        · rw [if_pos k1]
          refine ⟨rfl, fun n hn => ?_⟩
          rcases hn with rfl | rfl <;> (rw [zatZ_foldr]; simp; omega)
        · rw [if_neg k1]
          refine ⟨rfl, fun n hn => ?_⟩
          rcases hn with rfl | rfl <;> (rw [zatZ_foldr]; simp; omega)
    · obtain ⟨a, b, c, rfl⟩ := len3 h
      · have ha := h2 a (by simp)
        have hb := h2 b (by simp)
        have hc := h2 c (by simp)
        by_cases k1 : kind = 1
        · rw [if_pos k1]
          refine ⟨rfl, fun n hn => ?_⟩
          rcases hn with rfl | rfl <;> (rw [zatZ_foldr]; simp; omega)
        · rw [if_neg k1]
          refine ⟨rfl, fun n hn => ?_⟩
          rcases hn with rfl | rfl <;> (rw [zatZ_foldr]; simp; omega)
theorem div_tab : allB 217 (fun n => n == 0 || (match divO (n : Int) with | some ds => Nat.ble 1 ds.length && Nat.ble ds.length 100 | none => false)) = true := by decide +kernel
theorem div_ok {n : Nat} (h0 : n ≠ 0) (h1 : n ≤ 216) : ∃ ds, divO (n : Int) = some ds ∧ 1 ≤ ds.length ∧ ds.length ≤ 100 := by
  have := allB_all div_tab n (by omega)
  rw [Bool.or_eq_true] at this
  rcases this with q | q
  · exact absurd (beq_iff_eq.mp q) h0
  · cases hd : divO (n : Int) with
    | none => rw [hd] at q; cases q
    | some ds =>
      rw [hd] at q
      replace q : (Nat.ble 1 ds.length && Nat.ble ds.length 100) = true := q
      rw [Bool.and_eq_true] at q
      exact ⟨ds, rfl, Nat.le_of_ble_eq_true q.1, Nat.le_of_ble_eq_true q.2⟩
theorem plain_ok (T : TabOK) (xs : List Int) : PlainOK (builtF xs 0) (numsZ xs (2 + sizeN xs 0)) := by
  have hsz := sizeN_le xs 0
  have hrl := rowZ_len xs 0
  have hp := @poly_ok (takeN xs 3 (0 + 1)) (rowZ xs 0) (by omega) rowZ_mem
  have hlen : (builtF xs 0).length = 3 ∨ (builtF xs 0).length = 4 := by unfold builtF; rw [hp.1]; omega
  have hmem : ∀ p ∈ numsZ xs (2 + sizeN xs 0), p ∈ someInts := fun p m => by
    obtain ⟨i, _, rfl⟩ := List.mem_map.mp m
    have hlt : takeN xs 14 (2 + sizeN xs 0 + 1 + i) < someInts.length := takeN_lt xs _ (by decide)
    rw [List.getD_eq_getElem?_getD, List.getElem?_eq_getElem hlt]
    exact List.getElem_mem hlt
  refine ⟨hlen, ?_, fun p m => some_ok (hmem p m), fun p m => (dm_all T (hmem p m) hlen).1, fun p m => eis_all (hmem p m) (by omega), fun p m t q => okT_sums ((dm_all T (hmem p m) hlen).2 t q), ?_⟩
  · have := takeN_lt xs (2 + sizeN xs 0) (show 0 < 3 by decide)
    simp [numsZ]; omega
  · by_cases h0 : zatZ (builtF xs 0) 0 = 0
    · exact .inl h0
    · by_cases h1 : zatZ (builtF xs 0) 1 = 0
      · exact .inr (.inl h1)
      · obtain ⟨d0, a1, a2, a3⟩ := div_ok (n := (zatZ (builtF xs 0) 0).natAbs) (by omega) (hp.2 0 (.inl rfl))
        obtain ⟨d1, b1, b2, b3⟩ := div_ok (n := (zatZ (builtF xs 0) 1).natAbs) (by omega) (hp.2 1 (.inr rfl))
        exact .inr (.inr ⟨d0, d1, a1, b1, a2, b2, a3, b3⟩)
/-! ## law from behind its first statement on -/
structure Base (mg mb : Str → Option Value) (h₀ : Heap) : Prop where
  g : h₀.Ns mainGlobals mg
  b : h₀.Ns builtinsNs mb
  nolimit : h₀.NoLimit
  defs : ∀ i name params body scope, defAt i = some (name, params, body, scope) →
    ∃ a o pm code doc, mg name = some (.ref a) ∧ h₀.get? a = some o ∧ o.data = .func (Calls.docDef name params body scope pm code doc) ∧ h₀.CodeRec code name
  blt : ∀ x ∈ blts, mg x = none ∧ mb x = bootBuiltins x
  menu : ∃ l vs n, mg "_law_some" = some (.ref l) ∧ IsL h₀ l vs n ∧ IntsAre vs.toList someInts

structure Began (s₁ s' : Shared) (L α β : Addr) (xs : List Int) (m : Str → Option Value) : Prop where
  F : Fr s₁.heap L s'.heap m
  box : ∃ t n, IsL s'.heap β #[.ref α, .int 0 t] n
  row : ∃ ws n, IsL s'.heap α (List.toArray ws) n ∧ IntsAre ws xs
  nβ : s₁.heap.get? β = none
  nα : s₁.heap.get? α = none
  αβ : α ≠ β
  c1 : s'.heap.IsCell (L + 1) (some (.ref β))
  c2 : ∃ v, s'.heap.IsCell (L + 1 + 1) v
  c3 : ∃ v, s'.heap.IsCell (L + 1 + 1 + 1) v
  c4 : ∃ v, s'.heap.IsCell (L + 1 + 1 + 1 + 1) v
  n1 : s₁.heap.get? (L + 1) = none
  n2 : s₁.heap.get? (L + 1 + 1) = none
  n3 : s₁.heap.get? (L + 1 + 1 + 1) = none
  n4 : s₁.heap.get? (L + 1 + 1 + 1 + 1) = none

theorem law_start {prog : Program} {w : World} {mg mb : Str → Option Value} {s₁ s' : Shared} {A : Around} {α β : Addr} {xs : List Int} {m : Str → Option Value} {Q : Flow → Shared → Prop} {E : Value → Shared → Prop} (T : TabOK) (B : Base mg mb s₁.heap) (hxs : xs.length ≤ 1000000) (R : Room A 20)
    (H : Began s₁ s' s₁.heap.objs.size α β xs m)
    (hQ : ∀ h'' tk, (∀ b o, s₁.heap.get? b = some o → h''.get? b = some o) → Q (.ret (.bool true)) { s' with heap := h'', toks := tk }) :
    ∃ name params s1 rest scope, defAt 81 = some (name, params, s1 :: rest, scope) ∧ ∀ env : Env, env.scope = scope → env.globals = mainGlobals → env.builtins = builtinsNs → env.locals = s₁.heap.objs.size → env.cells = cellsFrom (s₁.heap.objs.size + 1) scope.names [] →
      wpAny (model prog w) A (execs rest env) Q E s' := by
  let C : Cx := ⟨prog, w, mg, mb, s₁.heap, α, β, xs⟩
  obtain ⟨name, params, s1, rest, scope, hi, hx⟩ := law_rest0 (C := C) hxs rfl rfl (plain_ok T xs)
  refine ⟨name, params, s1, rest, scope, hi, ?_⟩
  obtain ⟨name', params', s1', rest', scope', hi', hk, hall, hbx, hsz⟩ : ∃ name params s1 rest scope, defAt 81 = some (name, params, s1 :: rest, scope) ∧ scope.kind = .function ∧
      scope.names.lookup ("box" : Str) = some .cell ∧ (∀ L, (cellsFrom L scope.names []).lookup ("box" : Str) = some L) ∧ (∀ h : Heap, (pushCells h scope.names).objs.size = h.objs.size + 4) := by
    refine ⟨_, _, _, _, _, by with_unfolding_all rfl, rfl, rfl, fun _ => rfl, fun h => ?_⟩
    simp [pushCells, Heap.size_push]
  rw [hi] at hi'
  cases hi'
  intro env e1 e2 e3 e4 e5
  have ok : C.Ok := ⟨B.g, B.b, B.nolimit, B.defs, B.blt, B.menu, H.nβ⟩
  obtain ⟨tb, nb, hb⟩ := H.box
  obtain ⟨ws, nr, hr, hI⟩ := H.row
  obtain ⟨v2, h2⟩ := H.c2
  obtain ⟨v3, h3⟩ := H.c3
  obtain ⟨v4, h4⟩ := H.c4
  have nL : s₁.heap.get? s₁.heap.objs.size = none := get_size _
  have hsz1 : (s₁.heap.push { cls := .type "dict", data := .dict #[] }).objs.size = s₁.heap.objs.size + 1 := Heap.size_push ..
  have hcs := cells_around scope.names (s₁.heap.push { cls := .type "dict", data := .dict #[] }) [] (fun x c q => nomatch q) (fun x y c q => nomatch q)
  rw [hsz, hsz1] at hcs
  obtain ⟨i1, i2, i3, i4, i5⟩ := hcs
  have now : Now C [] s'.heap 0 := ⟨ok, H.F.keep, ⟨tb, nb, hb⟩, ⟨ws.toArray, nr, hr, by simpa using hI⟩, H.αβ, by simp, fun a q => nomatch q⟩
  have cellOf4 : ∀ c, s₁.heap.objs.size + 1 ≤ c → c < s₁.heap.objs.size + 1 + 4 → c ∈ [s₁.heap.objs.size, s₁.heap.objs.size + 1, s₁.heap.objs.size + 1 + 1, s₁.heap.objs.size + 1 + 1 + 1, s₁.heap.objs.size + 1 + 1 + 1 + 1] ∧ ∃ v, s'.heap.IsCell c v := fun c q1 q2 => by
    have : c = s₁.heap.objs.size + 1 ∨ c = s₁.heap.objs.size + 1 + 1 ∨ c = s₁.heap.objs.size + 1 + 1 + 1 ∨ c = s₁.heap.objs.size + 1 + 1 + 1 + 1 := by
      have q1' : (s₁.heap.objs.size : Nat) + 1 ≤ (c : Nat) := q1
      have q2' : (c : Nat) < (s₁.heap.objs.size : Nat) + 1 + 4 := q2
      show (c : Nat) = (s₁.heap.objs.size : Nat) + 1 ∨ (c : Nat) = (s₁.heap.objs.size : Nat) + 1 + 1 ∨ (c : Nat) = (s₁.heap.objs.size : Nat) + 1 + 1 + 1 ∨ (c : Nat) = (s₁.heap.objs.size : Nat) + 1 + 1 + 1 + 1
      omega
    rcases this with rfl | rfl | rfl | rfl
    · exact ⟨by simp, _, H.c1⟩
    · exact ⟨by simp, _, h2⟩
    · exact ⟨by simp, _, h3⟩
    · exact ⟨by simp, _, h4⟩
  have offD : ∀ b, s₁.heap.get? b = none → (∃ o, s'.heap.get? b = some o ∧ ¬ DataObj o) → Off C b ∧ (∀ o, ¬ s₁.heap.get? b = some o) ∧ ∃ o, s'.heap.get? b = some o ∧ ¬ DataObj o := fun b q ⟨o, e, nd⟩ => by
    refine ⟨⟨fun z => ?_, fun z => ?_, q⟩, (fun o' z => by rw [q] at z; cases z), o, e, nd⟩
    · rw [z] at e
      have : o = { cls := .type "list", dict := none, data := .seq #[.ref α, .int 0 tb] nb, slots := #[] } := Option.some.inj (e.symm.trans hb)
      exact nd (this ▸ dataL _ _)
    · rw [z] at e
      have : o = { cls := .type "list", dict := none, data := .seq ws.toArray nr, slots := #[] } := Option.some.inj (e.symm.trans hr)
      exact nd (this ▸ dataL _ _)
  have cellND : ∀ c v, s'.heap.IsCell c v → ∃ o, s'.heap.get? c = some o ∧ ¬ DataObj o := fun c v ⟨o, e, d⟩ => ⟨o, e, fun q => q.2.2 _ d⟩
  have O : EnvOK env scope := ⟨e1, hk, e2, e3, fun x y c q q' => by rw [e5] at q q'; exact i4 x y c q q'⟩
  have st : St C env [s₁.heap.objs.size, s₁.heap.objs.size + 1, s₁.heap.objs.size + 1 + 1, s₁.heap.objs.size + 1 + 1 + 1, s₁.heap.objs.size + 1 + 1 + 1 + 1] (fun b o => s₁.heap.get? b = some o) [] [("box", .v .box)] 0 (fun _ => 0) s'.heap := by
    refine ⟨now, H.F.keep, (fun o q => ?_), (fun b q => ?_), (fun b q => nomatch q), (fun b q => nomatch q), (fun x y ds es q => ?_), (fun x d q => ?_), (fun x ds q => ?_), (fun x q => ?_)⟩
    · have := H.nβ; rw [this] at q; cases q
    · simp only [List.mem_cons, List.not_mem_nil, or_false] at q
      rcases q with rfl | rfl | rfl | rfl | rfl
      · refine offD _ nL ?_
        obtain ⟨o, es, ep, ho, hd, _⟩ := H.F.ns
        exact ⟨o, ho, fun z => z.2.1 _ _ hd⟩
      · exact offD _ H.n1 (cellND _ _ H.c1)
      · exact offD _ H.n2 (cellND _ _ h2)
      · exact offD _ H.n3 (cellND _ _ h3)
      · exact offD _ H.n4 (cellND _ _ h4)
    · rcases List.mem_cons.mp q with q | q
      · cases q
      · cases q
    · rcases List.mem_cons.mp q with q | q
      · cases q
        refine ⟨.ref β, ⟨⟨by decide +kernel, by decide +kernel⟩, .inr ⟨.inl ?_, _, ?_, H.c1⟩⟩, .box⟩
        · rw [kindOf_eq, e1]; exact hall
        · rw [e5]; exact hbx _
      · cases q
    · rcases List.mem_cons.mp q with q | q
      · cases q
      · cases q
    · obtain ⟨ok', q⟩ := q
      rw [e1] at q
      rcases q with q | q
      · exact .inl ⟨by rw [kindOf_eq, e1]; exact q, by rw [e4]; simp, _, e4 ▸ H.F.ns⟩
      · obtain ⟨c, q1, q2, q3, q4⟩ := i2 x (mem_of_lookup q)
        obtain ⟨z1, v, z2⟩ := cellOf4 c q2 q3
        exact .inr ⟨by rw [kindOf_eq, e1]; exact q, c, by rw [e5]; exact q1, z1, v, z2⟩
  exact hx A env _ _ [] _ s' Q E R O st fun v h'' tk n k r => by
    cases r
    exact hQ h'' tk k
theorem law_go {prog : Program} {w : World} {mg mb : Str → Option Value} {s₁ s' : Shared} {A : Around} {α β : Addr} {xs : List Int} {m : Str → Option Value} {Q : Flow → Shared → Prop} {E : Value → Shared → Prop} (T : TabOK) (B : Base mg mb s₁.heap) (hxs : xs.length ≤ 1000000) (R : Room A 20)
    (H : Began s₁ s' s₁.heap.objs.size α β xs m)
    (hQ : ∀ h'' tk, (∀ b o, s₁.heap.get? b = some o → h''.get? b = some o) → Q (.ret (.bool true)) { s' with heap := h'', toks := tk })
    {name : Str} {params : Arguments} {s1 : Stmt} {rest : List Stmt} {scope : Scope} (hi : defAt 81 = some (name, params, s1 :: rest, scope)) {env : Env} (e1 : env.scope = scope) (e2 : env.globals = mainGlobals) (e3 : env.builtins = builtinsNs) (e4 : env.locals = s₁.heap.objs.size) (e5 : env.cells = cellsFrom (s₁.heap.objs.size + 1) scope.names []) :
    wpAny (model prog w) A (execs rest env) Q E s' := by
  obtain ⟨_, _, _, _, _, hi', hx⟩ := law_start (prog := prog) (w := w) (E := E) T B hxs R H hQ
  rw [hi'] at hi
  cases hi
  exact hx env e1 e2 e3 e4 e5
noncomputable def defsL : List (Str × Arguments × List Stmt × Scope) := PySem.Challenge.pw_rh0033_01.main.body.filterMap fun st => match st with
  | .FunctionDef name args body _ _ _ scope _ _ _ => some (name, args, body, scope)
  | _ => none
theorem defAt_mem {i : Nat} {x : Str × Arguments × List Stmt × Scope} (h : defAt i = some x) : x ∈ defsL := by
  unfold defAt at h
  unfold defsL
  refine List.mem_filterMap.mpr ?_
  split at h
  · rename_i q
    exact ⟨_, List.mem_of_getElem? q, h⟩
  · cases h
theorem base_of {p : Program} {loose : List Str} {mean : ExcName → Option Value} {mg mb : Str → Option Value} {h : Heap} {K : Frag} {l : Addr} {vs : Array Value} {n : Nat} (T : Top p loose mean mg mb h) (X : K.In h)
    (hrec : defsL = (recsOf p).map fun d => (d.name, d.params, d.body, d.scope)) (hblt : blts.map (fun x => nsIn K mainGlobals x) = blts.map fun _ => some none) (hm : nsIn K mainGlobals "_law_some" = some (some (.ref l)))
    (hl : K.lookup l = some { cls := .type "list", dict := none, data := .seq vs n, slots := #[] }) (hI : IntsAre vs.toList someInts) : Base mg mb h where
  g := T.g
  b := T.b
  nolimit := T.nolimit
  defs := fun i name params body scope q => by
    have := defAt_mem q
    rw [hrec] at this
    obtain ⟨d, md, e⟩ := List.mem_map.mp this
    cases e
    exact T.fn d md
  blt := fun x m => by
    refine ⟨ns_none_of X T.g ?_, T.builtins x ?_⟩
    · obtain ⟨i, hi, rfl⟩ := List.getElem_of_mem m
      have := congrArg (fun l => l[i]?) hblt
      simpa [hi] using this
    · rintro rfl
      exact absurd m (by decide +kernel)
  menu := ⟨l, vs, n, mg_of X T.g hm, X _ _ hl, hI⟩
theorem began_of {s₁ s' : Shared} {L α β D2 : Addr} {o1 o2 o3 o4 x : Obj} {ws : List Value} {t : Tok} {n c : Nat} {xs : List Int} {m : Str → Option Value} (F : Fr s₁.heap L s'.heap m)
    (N : News s₁.heap L s'.heap [(β, W.listOf #[.ref α, .int 0 t] n), (α, W.listOf ws.toArray c), (D2, x), (L + 1 + 1 + 1 + 1, o4), (L + 1 + 1 + 1, o3), (L + 1 + 1, o2), (L + 1, o1)])
    (d1 : o1.data = .cell (some (.ref β))) (d2 : ∃ v, o2.data = .cell v) (d3 : ∃ v, o3.data = .cell v) (d4 : ∃ v, o4.data = .cell v) (I : IntsAre ws xs) (ab : α ≠ β) : Began s₁ s' L α β xs m := by
  have q1 := N _ (.head _)
  have q2 := N _ (.tail _ (.head _))
  have q4 := N _ (.tail _ (.tail _ (.tail _ (.head _))))
  have q5 := N _ (.tail _ (.tail _ (.tail _ (.tail _ (.head _)))))
  have q6 := N _ (.tail _ (.tail _ (.tail _ (.tail _ (.tail _ (.head _))))))
  have q7 := N _ (.tail _ (.tail _ (.tail _ (.tail _ (.tail _ (.tail _ (.head _)))))))
  obtain ⟨v2, d2⟩ := d2
  obtain ⟨v3, d3⟩ := d3
  obtain ⟨v4, d4⟩ := d4
  exact ⟨F, ⟨_, _, q1.1⟩, ⟨_, _, q2.1, I⟩, q1.2.2, q2.2.2, ab, ⟨_, q7.1, d1⟩, ⟨v2, _, q6.1, d2⟩, ⟨v3, _, q5.1, d3⟩, ⟨v4, _, q4.1, d4⟩, q7.2.2, q6.2.2, q5.2.2, q4.2.2⟩

noncomputable def CutPost (s₁ : Shared) (xs : List Int) (m : Str → Option Value) (f : Flow) (s' : Shared) : Prop := f = .next ∧ s'.gens = s₁.gens ∧ s'.os = s₁.os ∧ ∃ α β, Began s₁ s' s₁.heap.objs.size α β (xs.take 12) m
theorem law_cut {prog : Program} {w : World} {mg mb : Str → Option Value} {s₁ : Shared} {h₁ : Heap} {tk : Nat} {A : Around} {vs : List Value} {xs : List Int} {m : Str → Option Value} {Q : Flow → Shared → Prop} {E : Value → Shared → Prop} {env : Env} {name : Str} {params : Arguments} {s1 : Stmt} {rest : List Stmt} {scope : Scope}
    (T : TabOK) (B : Base mg mb s₁.heap) (I : IntsAre vs xs) (F : Fr s₁.heap s₁.heap.objs.size h₁ m) (hi : defAt 81 = some (name, params, s1 :: rest, scope)) (e1 : env.scope = scope) (e2 : env.globals = mainGlobals) (e3 : env.builtins = builtinsNs) (e4 : env.locals = s₁.heap.objs.size) (e5 : env.cells = cellsFrom (s₁.heap.objs.size + 1) scope.names [])
    (R : Room A 20)
    (hw : wpAny (model prog w) A (exec s1 env) (CutPost s₁ xs m) E { heap := h₁, gens := s₁.gens, drawn := s₁.drawn, toks := tk, os := s₁.os })
    (hQ : ∀ s'' : Shared, (∀ b o, s₁.heap.get? b = some o → s''.heap.get? b = some o) → s''.gens = s₁.gens → s''.os = s₁.os → Q (.ret (.bool true)) s'') :
    wpAny (model prog w) A (execs (s1 :: rest) env) Q E { heap := h₁, gens := s₁.gens, drawn := s₁.drawn, toks := tk, os := s₁.os } := by
  refine wpAny_execs_cons (wpAny_mono hw (fun f s' ⟨e, hg, ho, α, β, H⟩ => ?_) fun _ _ x => x)
  subst e
  exact law_go T B (by have := List.length_take_le 12 xs; omega) R H (fun h'' tk' k => hQ _ k hg ho) hi e1 e2 e3 e4 e5
end Mine
namespace Mine
/-! ## The table, by the kernel -/
theorem t2 : allB 2 (fun a => allB 2 fun b => tabOK 2 [a, b, 1]) = true := by decide +kernel
theorem t3 : allB 3 (fun a => allB 3 fun b => tabOK 3 [a, b, 1]) = true := by decide +kernel
theorem t5 : allB 5 (fun a => allB 5 fun b => tabOK 5 [a, b, 1]) = true := by decide +kernel
theorem t7 : allB 7 (fun a => allB 7 fun b => tabOK 7 [a, b, 1]) = true := by decide +kernel
theorem t11 : allB 11 (fun a => allB 11 fun b => tabOK 11 [a, b, 1]) = true := by decide +kernel
theorem u2 : allB 2 (fun a => allB 2 fun b => allB 2 fun c => tabOK 2 [a, b, c, 1]) = true := by decide +kernel
theorem u3 : allB 3 (fun a => allB 3 fun b => allB 3 fun c => tabOK 3 [a, b, c, 1]) = true := by decide +kernel
theorem u5 : allB 5 (fun a => allB 5 fun b => allB 5 fun c => tabOK 5 [a, b, c, 1]) = true := by decide +kernel
theorem u7_0 : allB 7 (fun b => allB 7 fun c => tabOK 7 [0, b, c, 1]) = true := by decide +kernel
theorem u7_1 : allB 7 (fun b => allB 7 fun c => tabOK 7 [1, b, c, 1]) = true := by decide +kernel
theorem u7_2 : allB 7 (fun b => allB 7 fun c => tabOK 7 [2, b, c, 1]) = true := by decide +kernel
theorem u7_3 : allB 7 (fun b => allB 7 fun c => tabOK 7 [3, b, c, 1]) = true := by decide +kernel
theorem u7_4 : allB 7 (fun b => allB 7 fun c => tabOK 7 [4, b, c, 1]) = true := by decide +kernel
theorem u7_5 : allB 7 (fun b => allB 7 fun c => tabOK 7 [5, b, c, 1]) = true := by decide +kernel
theorem u7_6 : allB 7 (fun b => allB 7 fun c => tabOK 7 [6, b, c, 1]) = true := by decide +kernel
theorem u11_0 : allB 11 (fun b => allB 11 fun c => tabOK 11 [0, b, c, 1]) = true := by decide +kernel
theorem u11_1 : allB 11 (fun b => allB 11 fun c => tabOK 11 [1, b, c, 1]) = true := by decide +kernel
theorem u11_2 : allB 11 (fun b => allB 11 fun c => tabOK 11 [2, b, c, 1]) = true := by decide +kernel
theorem u11_3 : allB 11 (fun b => allB 11 fun c => tabOK 11 [3, b, c, 1]) = true := by decide +kernel
theorem u11_4 : allB 11 (fun b => allB 11 fun c => tabOK 11 [4, b, c, 1]) = true := by decide +kernel
theorem u11_5 : allB 11 (fun b => allB 11 fun c => tabOK 11 [5, b, c, 1]) = true := by decide +kernel
theorem u11_6 : allB 11 (fun b => allB 11 fun c => tabOK 11 [6, b, c, 1]) = true := by decide +kernel
theorem u11_7 : allB 11 (fun b => allB 11 fun c => tabOK 11 [7, b, c, 1]) = true := by decide +kernel
theorem u11_8 : allB 11 (fun b => allB 11 fun c => tabOK 11 [8, b, c, 1]) = true := by decide +kernel
theorem u11_9 : allB 11 (fun b => allB 11 fun c => tabOK 11 [9, b, c, 1]) = true := by decide +kernel
theorem u11_10 : allB 11 (fun b => allB 11 fun c => tabOK 11 [10, b, c, 1]) = true := by decide +kernel
theorem tab_ok : TabOK := fun p hp a b ha hb => by
  rcases hp with rfl | rfl | rfl | rfl | rfl
  · exact ⟨allB_all (allB_all t2 a ha) b hb, fun c hc => allB_all (allB_all (allB_all u2 a ha) b hb) c hc⟩
  · exact ⟨allB_all (allB_all t3 a ha) b hb, fun c hc => allB_all (allB_all (allB_all u3 a ha) b hb) c hc⟩
  · exact ⟨allB_all (allB_all t5 a ha) b hb, fun c hc => allB_all (allB_all (allB_all u5 a ha) b hb) c hc⟩
  · refine ⟨allB_all (allB_all t7 a ha) b hb, fun c hc => ?_⟩
    have h : a = 0 ∨ a = 1 ∨ a = 2 ∨ a = 3 ∨ a = 4 ∨ a = 5 ∨ a = 6 := by omega
    rcases h with rfl | rfl | rfl | rfl | rfl | rfl | rfl
    · exact allB_all (allB_all u7_0 b hb) c hc
    · exact allB_all (allB_all u7_1 b hb) c hc
    · exact allB_all (allB_all u7_2 b hb) c hc
    · exact allB_all (allB_all u7_3 b hb) c hc
    · exact allB_all (allB_all u7_4 b hb) c hc
    · exact allB_all (allB_all u7_5 b hb) c hc
    · exact allB_all (allB_all u7_6 b hb) c hc
  · refine ⟨allB_all (allB_all t11 a ha) b hb, fun c hc => ?_⟩
    have h : a = 0 ∨ a = 1 ∨ a = 2 ∨ a = 3 ∨ a = 4 ∨ a = 5 ∨ a = 6 ∨ a = 7 ∨ a = 8 ∨ a = 9 ∨ a = 10 := by omega
    rcases h with rfl | rfl | rfl | rfl | rfl | rfl | rfl | rfl | rfl | rfl | rfl
    · exact allB_all (allB_all u11_0 b hb) c hc
    · exact allB_all (allB_all u11_1 b hb) c hc
    · exact allB_all (allB_all u11_2 b hb) c hc
    · exact allB_all (allB_all u11_3 b hb) c hc
    · exact allB_all (allB_all u11_4 b hb) c hc
    · exact allB_all (allB_all u11_5 b hb) c hc
    · exact allB_all (allB_all u11_6 b hb) c hc
    · exact allB_all (allB_all u11_7 b hb) c hc
    · exact allB_all (allB_all u11_8 b hb) c hc
    · exact allB_all (allB_all u11_9 b hb) c hc
    · exact allB_all (allB_all u11_10 b hb) c hc
end Mine
namespace Mine
/-! ## The law -/
/-! The head lays a faster twin of each of its own constants, with a proof that they are one; the kernel does without, and the file would be too large. A name that is taken keeps a twin away. -/
theorem holds.tw4587438098139958336 : True := trivial
theorem holds.tw12563481999192008768 : True := trivial
theorem holds.tw11021402016762074336 : True := trivial
theorem holds.tw1672651397029140864 : True := trivial
theorem holds.tw14374762386000251392 : True := trivial
theorem holds.tw12941468149822085856 : True := trivial
theorem holds.tw617803661917330176 : True := trivial
theorem holds.tw10520202591518659360 : True := trivial
theorem holds.tw6674158366018852832 : True := trivial
theorem holds.tw4954732016240277505 : True := trivial
theorem holds.tw7122917452565745793 : True := trivial
theorem holds.tw6278366128872770721 : True := trivial
theorem holds.tw2929439407932294337 : True := trivial
theorem holds.tw12461706298059298081 : True := trivial
theorem holds.tw7366336091430424897 : True := trivial
theorem holds.tw13942211991455542721 : True := trivial
theorem holds.tw13200177327426563521 : True := trivial
theorem holds.tw10061326939861387809 : True := trivial
theorem holds.tw9458989268892848673 : True := trivial
theorem holds.tw14205006904943715905 : True := trivial
theorem holds.tw3393808461323943489 : True := trivial
theorem holds.tw13356387430892511905 : True := trivial
theorem holds.tw12632932662738783937 : True := trivial
theorem holds.tw1833173380454153921 : True := trivial
theorem holds.tw3378624336152846145 : True := trivial
theorem holds.tw13980644296350529377 : True := trivial
theorem holds.tw12633084752571091873 : True := trivial
theorem holds.tw746027875243172801 : True := trivial
theorem holds.tw18202751451028033538 : True := trivial
theorem holds.tw4702539438339769474 : True := trivial
theorem holds.tw7923702915469573346 : True := trivial
theorem holds.tw11322816463052944642 : True := trivial
theorem holds.tw12467034654032377186 : True := trivial
theorem holds.tw17551835440721493442 : True := trivial
theorem holds.tw13860560629476652642 : True := trivial
theorem holds.tw15573729904360925794 : True := trivial
theorem holds.tw11210861575573996130 : True := trivial
theorem holds.tw7236078064509089410 : True := trivial
theorem holds.tw7258431392514884226 : True := trivial
theorem holds.tw16049930973857864354 : True := trivial
theorem holds.tw2682973687022302978 : True := trivial
theorem holds.tw4772410448533662562 : True := trivial
theorem holds.tw17450472940649059298 : True := trivial
theorem holds.tw14054693376921006050 : True := trivial
theorem holds.tw7442186320969616419 : True := trivial
theorem holds.tw13416111870119765123 : True := trivial
theorem holds.tw759334954848157859 : True := trivial
theorem holds.tw6735552807121987811 : True := trivial
theorem holds.tw11502601298335438083 : True := trivial
theorem holds.tw10238092577321643331 : True := trivial
theorem holds.tw4397353207691548035 : True := trivial
theorem holds.tw3081346186701454755 : True := trivial
theorem holds.tw6817751937963910627 : True := trivial
theorem holds.tw9284948610034456067 : True := trivial
theorem holds.tw7365562674294520451 : True := trivial
theorem holds.tw4659233104850659043 : True := trivial
theorem holds.tw10675174832548182787 : True := trivial
theorem holds.tw15421342739227911939 : True := trivial
theorem holds.tw9523873602847724419 : True := trivial
theorem holds.tw17096001632197288867 : True := trivial
theorem holds.tw4302478151189881795 : True := trivial
theorem holds.tw3210078786618844196 : True := trivial
theorem holds.tw5082999880386992228 : True := trivial
theorem holds.tw10576265454180977796 : True := trivial
theorem holds.tw11379536335273661636 : True := trivial
theorem holds.tw11223116819087169764 : True := trivial
theorem holds.tw6099975724469302500 : True := trivial
theorem holds.tw13370180491053348 : True := trivial
theorem holds.tw3579776383272448420 : True := trivial
theorem holds.tw10066566674380323332 : True := trivial
theorem holds.tw8868040359437915812 : True := trivial
theorem holds.tw14314133134477209284 : True := trivial
theorem holds.tw14533596452844920548 : True := trivial
theorem holds.tw5747684920607356772 : True := trivial
theorem holds.tw10876536743886354276 : True := trivial
theorem holds.tw4500180452004054980 : True := trivial
theorem holds.tw4408763645494598628 : True := trivial
theorem holds.tw7840918076549728228 : True := trivial
theorem holds.tw8006095370074002437 : True := trivial
theorem holds.tw18173914834931495973 : True := trivial
theorem holds.tw6654929391614583909 : True := trivial
theorem holds.tw2661161477798328453 : True := trivial
theorem holds.tw4876135695594978501 : True := trivial
theorem holds.tw6330134614895140133 : True := trivial
theorem holds.tw11037822914523747621 : True := trivial
theorem holds.tw298297018594106725 : True := trivial
theorem holds.tw2946744036017948005 : True := trivial
theorem holds.tw4065146272016792997 : True := trivial
theorem holds.tw5031978486770369989 : True := trivial
theorem holds.tw707885073954110949 : True := trivial
theorem holds.tw14062913937729191461 : True := trivial
theorem holds.tw2667925813562934949 : True := trivial
theorem holds.tw8102643725754146565 : True := trivial
theorem holds.tw3101148707280403237 : True := trivial
theorem holds.tw8664812251140827045 : True := trivial
theorem holds.tw14456359579513077766 : True := trivial
theorem holds.tw7991519602905016326 : True := trivial
theorem holds.tw14040500308302212198 : True := trivial
theorem holds.tw14394845925615563878 : True := trivial
theorem holds.tw12629177860411813126 : True := trivial
theorem holds.tw9486143321106344294 : True := trivial
theorem holds.tw10973056549479156102 : True := trivial
theorem holds.tw4480811336153992742 : True := trivial
theorem holds.tw8451429660923938374 : True := trivial
theorem holds.tw4695128735345963622 : True := trivial
theorem holds.tw16239030619513480838 : True := trivial
theorem holds.tw13564983018704479910 : True := trivial
theorem holds.tw6606875086121380550 : True := trivial
theorem holds.tw12091882185175152326 : True := trivial
theorem holds.tw14856189802965030758 : True := trivial
theorem holds.tw2720468260678641542 : True := trivial
theorem holds.tw8564859838321607590 : True := trivial
theorem holds.tw63030109126827207 : True := trivial
theorem holds.tw2490583276235294983 : True := trivial
theorem holds.tw17094759248423572775 : True := trivial
theorem holds.tw13563289320671947111 : True := trivial
theorem holds.tw9072656965561520583 : True := trivial
theorem holds.tw17549760099613038055 : True := trivial
theorem holds.tw12203709797637585511 : True := trivial
theorem holds.tw5932082505621288647 : True := trivial
theorem holds.tw9441326970708011783 : True := trivial
theorem holds.tw13676757877788619591 : True := trivial
theorem holds.tw5583946556138506119 : True := trivial
theorem holds.tw9518972631687950247 : True := trivial
theorem holds.tw9784731065822230439 : True := trivial
theorem holds.tw10894570999934473159 : True := trivial
theorem holds.tw16801115162389100519 : True := trivial
theorem holds.tw2422663375537807432 : True := trivial
theorem holds.tw12135579543755162760 : True := trivial
theorem holds.tw685634667276709000 : True := trivial
theorem holds.tw3589964763223657672 : True := trivial
theorem holds.tw16939745714101447976 : True := trivial
theorem holds.tw5078402968320093544 : True := trivial
theorem holds.tw2451063411067222376 : True := trivial
theorem holds.tw10824115321126796680 : True := trivial
theorem holds.tw2207817973478938216 : True := trivial
theorem holds.tw16478504620199068264 : True := trivial
theorem holds.tw10595842591828190984 : True := trivial
theorem holds.tw14149781006570564392 : True := trivial
theorem holds.tw303617358959260456 : True := trivial
theorem holds.tw9647410926604887880 : True := trivial
theorem holds.tw2697976716319701033 : True := trivial
theorem holds.tw15580662879708500073 : True := trivial
theorem holds.tw5878047611234877577 : True := trivial
theorem holds.tw12808162357026388105 : True := trivial
theorem holds.tw7058599786907716777 : True := trivial
theorem holds.tw17533166617710000329 : True := trivial
theorem holds.tw6896159741398044905 : True := trivial
theorem holds.tw14432740918813763817 : True := trivial
theorem holds.tw8163853742193369449 : True := trivial
theorem holds.tw154871700347349385 : True := trivial
theorem holds.tw4624323801304008105 : True := trivial
theorem holds.tw5763553328388235881 : True := trivial
theorem holds.tw2963349702327202441 : True := trivial
theorem holds.tw7944191787301449481 : True := trivial
theorem holds.tw14341210406198164329 : True := trivial
theorem holds.tw12056596633878991817 : True := trivial
theorem holds.tw15942494369296127945 : True := trivial
theorem holds.tw17294395744611713098 : True := trivial
theorem holds.tw4381757428849502282 : True := trivial
theorem holds.tw4485590747672999114 : True := trivial
theorem holds.tw5887078386916838634 : True := trivial
theorem holds.tw15228004617427520810 : True := trivial
theorem holds.tw14083834280242248106 : True := trivial
theorem holds.tw12540800736699631050 : True := trivial
theorem holds.tw10491065262344570346 : True := trivial
theorem holds.tw1095465085569150570 : True := trivial
theorem holds.tw1092734292537931370 : True := trivial
theorem holds.tw2296293446034493066 : True := trivial
theorem holds.tw9408521175777228426 : True := trivial
theorem holds.tw7580357766596436714 : True := trivial
theorem holds.tw13373784697917265674 : True := trivial
theorem holds.tw6166532556598395850 : True := trivial
theorem holds.tw16725066886706607050 : True := trivial
theorem holds.tw12468101337765408714 : True := trivial
theorem holds.tw10587580826675096554 : True := trivial
theorem holds.tw4998001990490953706 : True := trivial
theorem holds.tw15462992800728643659 : True := trivial
theorem holds.tw187104208977503339 : True := trivial
theorem holds.tw10705761992013847755 : True := trivial
theorem holds.tw8324913547053779211 : True := trivial
theorem holds.tw6159885450047824267 : True := trivial
theorem holds.tw1438057683635843531 : True := trivial
theorem holds.tw10828986214106111531 : True := trivial
theorem holds.tw960582308587345451 : True := trivial
theorem holds.tw11040456503202229835 : True := trivial
theorem holds.tw1477864382951527211 : True := trivial
theorem holds.tw8323465864499181419 : True := trivial
theorem holds.tw13945929957867325323 : True := trivial
theorem holds.tw17779192219718171531 : True := trivial
theorem holds.tw9638990691586225099 : True := trivial
theorem holds.tw1357463484097335404 : True := trivial
theorem holds.tw5282283922864298156 : True := trivial
theorem holds.tw10817008591213730988 : True := trivial
theorem holds.tw150268843892594924 : True := trivial
theorem holds.tw2335221107431800076 : True := trivial
theorem holds.tw15043986215568586124 : True := trivial
theorem holds.tw3093010850272755244 : True := trivial
theorem holds.tw8253004272172430988 : True := trivial
theorem holds.tw12158838097934144204 : True := trivial
theorem holds.tw13150661809386230508 : True := trivial
theorem holds.tw10859938921441162988 : True := trivial
theorem holds.tw12657093848384798476 : True := trivial
theorem holds.tw3381435865837020940 : True := trivial
theorem holds.tw12354433232887552844 : True := trivial
theorem holds.tw14012497318314112844 : True := trivial
theorem holds.tw11968577826497805164 : True := trivial
theorem holds.tw14977296931134136204 : True := trivial
theorem holds.tw945861476033566700 : True := trivial
theorem holds.tw341249449185904685 : True := trivial
theorem holds.tw16740147826971877517 : True := trivial
theorem holds.tw6216033271563703469 : True := trivial
theorem holds.tw1508545211966159021 : True := trivial
theorem holds.tw17822619038779606285 : True := trivial
theorem holds.tw6396523623945614605 : True := trivial
theorem holds.tw15349486494167490861 : True := trivial
theorem holds.tw4399152324972305773 : True := trivial
theorem holds.tw5531990279233569197 : True := trivial
theorem holds.tw11750193621415288269 : True := trivial
theorem holds.tw13281364814482169325 : True := trivial
theorem holds.tw2167384251425162797 : True := trivial
theorem holds.tw6460966521098074893 : True := trivial
theorem holds.tw14064534554856164141 : True := trivial
theorem holds.tw12306811582311103309 : True := trivial
theorem holds.tw7221694943082674061 : True := trivial
theorem holds.tw2160012875989923789 : True := trivial
theorem holds.tw11569915684508697678 : True := trivial
theorem holds.tw12762722769849151566 : True := trivial
theorem holds.tw8239031253751857358 : True := trivial
theorem holds.tw15305512045591798990 : True := trivial
theorem holds.tw3279077582325829838 : True := trivial
theorem holds.tw4475622257904601326 : True := trivial
theorem holds.tw3280128972450656526 : True := trivial
theorem holds.tw3864012138097595758 : True := trivial
theorem holds.tw17476224472650253806 : True := trivial
theorem holds.tw8351548024695214574 : True := trivial
theorem holds.tw12160635655254385198 : True := trivial
theorem holds.tw1692041494862269998 : True := trivial
theorem holds.tw8087799500789234286 : True := trivial
theorem holds.tw11775407622660791982 : True := trivial
theorem holds.tw8571184235532366510 : True := trivial
theorem holds.tw99148262030102190 : True := trivial
theorem holds.tw2936799095737714382 : True := trivial
theorem holds.tw9232459349045140238 : True := trivial
theorem holds.tw3969078344035082030 : True := trivial
theorem holds.tw8260078842695283502 : True := trivial
theorem holds.tw9855210162650666830 : True := trivial
theorem holds.tw14271935136423247726 : True := trivial
theorem holds.tw16898140867199733807 : True := trivial
theorem holds.tw1382383790286775375 : True := trivial
theorem holds.tw11566098377363298415 : True := trivial
theorem holds.tw7791430327242384495 : True := trivial
theorem holds.tw16532224993992427823 : True := trivial
theorem holds.tw15356600547250028879 : True := trivial
theorem holds.tw16035096773351161327 : True := trivial
theorem holds.tw4046193847619289583 : True := trivial
theorem holds.tw17040301576142915119 : True := trivial
theorem holds.tw11341941285841758863 : True := trivial
theorem holds.tw5588498093969417903 : True := trivial
theorem holds.tw6357344898813262543 : True := trivial
theorem holds.tw5959074840488112208 : True := trivial
theorem holds.tw13926404443759844560 : True := trivial
theorem holds.tw5225467491883748592 : True := trivial
theorem holds.tw2084331650109322480 : True := trivial
theorem holds.tw8218819101457601776 : True := trivial
theorem holds.tw5619803957841784048 : True := trivial
theorem holds.tw4381346726385406224 : True := trivial
theorem holds.tw15969937429085165904 : True := trivial
theorem holds.tw11822188140940861840 : True := trivial
theorem holds.tw7350330377624401328 : True := trivial
theorem holds.tw15750308709622187472 : True := trivial
theorem holds.tw10726778698580467152 : True := trivial
theorem holds.tw15493915963290111440 : True := trivial
theorem holds.tw10637851664137882224 : True := trivial
theorem holds.tw7145057240379410032 : True := trivial
theorem holds.tw5099458221760260784 : True := trivial
theorem holds.tw8801499457356032720 : True := trivial
theorem holds.tw15326264675407861456 : True := trivial
theorem holds.tw16281141667863336784 : True := trivial
theorem holds.tw16796854770986717008 : True := trivial
theorem holds.tw3906943341852370832 : True := trivial
theorem holds.tw18145382148040430673 : True := trivial
theorem holds.tw3232270311777372273 : True := trivial
theorem holds.tw11311999394344832113 : True := trivial
theorem holds.tw15296638952792297585 : True := trivial
theorem holds.tw9160814584890018001 : True := trivial
theorem holds.tw5274829272982666545 : True := trivial
theorem holds.tw6545324650690627985 : True := trivial
theorem holds.tw9327718836232418737 : True := trivial
theorem holds.tw14085268106739128817 : True := trivial
theorem holds.tw10645105620128953169 : True := trivial
theorem holds.tw13338651292558784369 : True := trivial
theorem holds.tw16034146489351607153 : True := trivial
theorem holds.tw5857869478962280401 : True := trivial
theorem holds.tw17453241218497372113 : True := trivial
theorem holds.tw576298715544257586 : True := trivial
theorem holds.tw1032644102275906610 : True := trivial
theorem holds.tw7400771686186127474 : True := trivial
theorem holds.tw5857794014393010482 : True := trivial
theorem holds.tw13334661261001831826 : True := trivial
theorem holds.tw8035951141280138642 : True := trivial
theorem holds.tw1552857426587298226 : True := trivial
theorem holds.tw8778671856527934898 : True := trivial
theorem holds.tw8903297777125119442 : True := trivial
theorem holds.tw14947864908287233490 : True := trivial
theorem holds.tw17642598502550569490 : True := trivial
theorem holds.tw9766128667603022514 : True := trivial
theorem holds.tw8943767207682116370 : True := trivial
theorem holds.tw8789113547377566482 : True := trivial
theorem holds.tw4583756282420477746 : True := trivial
theorem holds.tw12774209864397607762 : True := trivial
theorem holds.tw12788872388335264594 : True := trivial
theorem holds.tw10840139340582571922 : True := trivial
theorem holds.tw5791938023122869331 : True := trivial
theorem holds.tw13108245259352980691 : True := trivial
theorem holds.tw17591727778206626035 : True := trivial
theorem holds.tw5498966250228494579 : True := trivial
theorem holds.tw8086972369959518483 : True := trivial
theorem holds.tw17417429595627488627 : True := trivial
theorem holds.tw13341946137322399123 : True := trivial
theorem holds.tw5599412692616142259 : True := trivial
theorem holds.tw15985840036639034899 : True := trivial
theorem holds.tw13306226422529918579 : True := trivial
theorem holds.tw1639197193820686003 : True := trivial
theorem holds.tw9260842090827677427 : True := trivial
theorem holds.tw15216533652830951187 : True := trivial
theorem holds.tw5350216910946226995 : True := trivial
theorem holds.tw1986877004247180340 : True := trivial
theorem holds.tw10280545108713110612 : True := trivial
theorem holds.tw4496467784121089108 : True := trivial
theorem holds.tw2972900019843275892 : True := trivial
theorem holds.tw8551410553514715252 : True := trivial
theorem holds.tw16497969686579978388 : True := trivial
theorem holds.tw14691085348537605332 : True := trivial
theorem holds.tw15402825562841796884 : True := trivial
theorem holds.tw18020473825885896052 : True := trivial
theorem holds.tw9321796208036801940 : True := trivial
theorem holds.tw4252685499439207924 : True := trivial
theorem holds.tw9367411864662104596 : True := trivial
theorem holds.tw2277698456845511444 : True := trivial
theorem holds.tw3529921767576855348 : True := trivial
theorem holds.tw15383290158734973844 : True := trivial
theorem holds.tw5252246860307943348 : True := trivial
theorem holds.tw5471403574791894133 : True := trivial
theorem holds.tw4717937361131159733 : True := trivial
theorem holds.tw16887932952891968693 : True := trivial
theorem holds.tw5295917329084666069 : True := trivial
theorem holds.tw2395783193375807797 : True := trivial
theorem holds.tw5323918697378788693 : True := trivial
theorem holds.tw12528141070781557109 : True := trivial
theorem holds.tw16451975095625300501 : True := trivial
theorem holds.tw16307742377514257941 : True := trivial
theorem holds.tw6424660084863691381 : True := trivial
theorem holds.tw4796666493748621973 : True := trivial
theorem holds.tw2752272122444995253 : True := trivial
theorem holds.tw9143120035062812437 : True := trivial
theorem holds.tw17597196502641442581 : True := trivial
theorem holds.tw3083665863380995925 : True := trivial
theorem holds.tw14485436498256648053 : True := trivial
theorem holds.tw5015485144833937494 : True := trivial
theorem holds.tw14438757958421221462 : True := trivial
theorem holds.tw11866763835798034582 : True := trivial
theorem holds.tw9866653766423218390 : True := trivial
theorem holds.tw15464432741802594518 : True := trivial
theorem holds.tw15023731206431723734 : True := trivial
theorem holds.tw4079574721724423606 : True := trivial
theorem holds.tw7885888744534978006 : True := trivial
theorem holds.tw13130249910395747862 : True := trivial
theorem holds.tw2156681307112010326 : True := trivial
theorem holds.tw4949047195023096438 : True := trivial
theorem holds.tw14404905868111484630 : True := trivial
theorem holds.tw151567797773009622 : True := trivial
theorem holds.tw11450275943994455990 : True := trivial
theorem holds.tw9157471666820141079 : True := trivial
theorem holds.tw2003794701753356343 : True := trivial
theorem holds.tw8115153917610635543 : True := trivial
theorem holds.tw9250495785965993271 : True := trivial
theorem holds.tw16697607604324151607 : True := trivial
theorem holds.tw96072713605637463 : True := trivial
theorem holds.tw17500814259130102135 : True := trivial
theorem holds.tw2562329033357795767 : True := trivial
theorem holds.tw13384883100587833847 : True := trivial
theorem holds.tw18224010420261798391 : True := trivial
theorem holds.tw16568243084613897719 : True := trivial
theorem holds.tw4422276619278600727 : True := trivial
theorem holds.tw4043779546988386903 : True := trivial
theorem holds.tw7877780744568003191 : True := trivial
theorem holds.tw11111472982789046935 : True := trivial
theorem holds.tw12542415522573167287 : True := trivial
theorem holds.tw15733542881966949079 : True := trivial
theorem holds.tw8827755016177155863 : True := trivial
theorem holds.tw8868445881999480663 : True := trivial
theorem holds.tw5635654813233479639 : True := trivial
theorem holds.tw17858152450515298520 : True := trivial
theorem holds.tw9732041140710341944 : True := trivial
theorem holds.tw9160933379109621080 : True := trivial
theorem holds.tw14607219995997415800 : True := trivial
theorem holds.tw8143335708233088440 : True := trivial
theorem holds.tw1446027475299390936 : True := trivial
theorem holds.tw15659084048362614264 : True := trivial
theorem holds.tw14400433609042604536 : True := trivial
theorem holds.tw9430090754398894584 : True := trivial
theorem holds.tw8870338830035865080 : True := trivial
theorem holds.tw6816380694822836728 : True := trivial
theorem holds.tw16461013251600362008 : True := trivial
theorem holds.tw4197124852483764760 : True := trivial
theorem holds.tw15785218014132313688 : True := trivial
theorem holds.tw1974762919298152056 : True := trivial
theorem holds.tw4921510776622977656 : True := trivial
theorem holds.tw244668840739839672 : True := trivial
theorem holds.tw5112738896828158680 : True := trivial
theorem holds.tw4137054072099604216 : True := trivial
theorem holds.tw1466284255255076664 : True := trivial
theorem holds.tw9140063382869304120 : True := trivial
theorem holds.tw16260029586006496120 : True := trivial
theorem holds.tw10684964147190113176 : True := trivial
theorem holds.tw1316056555746827224 : True := trivial
theorem holds.tw18078616723997116376 : True := trivial
theorem holds.tw3339025504875072537 : True := trivial
theorem holds.tw13602253286356535353 : True := trivial
theorem holds.tw14347601042897743961 : True := trivial
theorem holds.tw3117193011312037209 : True := trivial
theorem holds.tw13222035019132090745 : True := trivial
theorem holds.tw4905061745869718969 : True := trivial
theorem holds.tw12004703523718567385 : True := trivial
theorem holds.tw12076565508225125241 : True := trivial
theorem holds.tw8944343764007091065 : True := trivial
theorem holds.tw7942442253511216057 : True := trivial
theorem holds.tw8070350036930755802 : True := trivial
theorem holds.tw10494946348260405530 : True := trivial
theorem holds.tw14777700561071354170 : True := trivial
theorem holds.tw4532548537324856634 : True := trivial
theorem holds.tw14387954076880322906 : True := trivial
theorem holds.tw10698829266838348154 : True := trivial
theorem holds.tw7798976556582896058 : True := trivial
theorem holds.tw14411328915609312922 : True := trivial
theorem holds.tw2395109189467087578 : True := trivial
theorem holds.tw8684541073956307770 : True := trivial
theorem holds.tw11413208387583891290 : True := trivial
theorem holds.tw11319453509113102234 : True := trivial
theorem holds.tw14247145606103189434 : True := trivial
theorem holds.tw17631178891982236634 : True := trivial
theorem holds.tw12553914923479104506 : True := trivial
theorem holds.tw10447927361281507451 : True := trivial
theorem holds.tw1569810199879761147 : True := trivial
theorem holds.tw8413133151647880539 : True := trivial
theorem holds.tw16179787414501680475 : True := trivial
theorem holds.tw1882270145967814011 : True := trivial
theorem holds.tw10269081998898121243 : True := trivial
theorem holds.tw2642592217982111355 : True := trivial
theorem holds.tw12733908048491186811 : True := trivial
theorem holds.tw11723004889028688699 : True := trivial
theorem holds.tw5915465848944024539 : True := trivial
theorem holds.tw4636335402390110268 : True := trivial
theorem holds.tw2781561513384061212 : True := trivial
theorem holds.tw10274680400919065884 : True := trivial
theorem holds.tw15203487316939043196 : True := trivial
theorem holds.tw16141144775947785660 : True := trivial
theorem holds.tw10009309266167291388 : True := trivial
theorem holds.tw13002855754428957212 : True := trivial
theorem holds.tw14642846902033847964 : True := trivial
theorem holds.tw7399101569421298396 : True := trivial
theorem holds.tw142377125942736700 : True := trivial
theorem holds.tw3937267528351423324 : True := trivial
theorem holds.tw10531532615022067580 : True := trivial
theorem holds.tw17180457848445815676 : True := trivial
theorem holds.tw16315053957116525436 : True := trivial
theorem holds.tw10705619171732726748 : True := trivial
theorem holds.tw17779774989671706653 : True := trivial
theorem holds.tw11612728935029869629 : True := trivial
theorem holds.tw8393340031374782525 : True := trivial
theorem holds.tw8575535491628544125 : True := trivial
theorem holds.tw9370115536473471133 : True := trivial
theorem holds.tw8277820557490507997 : True := trivial
theorem holds.tw8217837808669207805 : True := trivial
theorem holds.tw17254660705983429885 : True := trivial
theorem holds.tw4529002996912422141 : True := trivial
theorem holds.tw15663057623668237757 : True := trivial
theorem holds.tw15566814792845459997 : True := trivial
theorem holds.tw4753448620645791293 : True := trivial
theorem holds.tw8105830805119860317 : True := trivial
theorem holds.tw10953125311028157021 : True := trivial
theorem holds.tw4952593789767209597 : True := trivial
theorem holds.tw12698916279152862973 : True := trivial
theorem holds.tw6902667361888063293 : True := trivial
theorem holds.tw16878984735049331645 : True := trivial
theorem holds.tw820627826665183454 : True := trivial
theorem holds.tw14260810753255085310 : True := trivial
theorem holds.tw14786066558164337950 : True := trivial
theorem holds.tw6307330118970589470 : True := trivial
theorem holds.tw9930548314228155742 : True := trivial
theorem holds.tw2912959965789975038 : True := trivial
theorem holds.tw6489310206099298910 : True := trivial
theorem holds.tw10853043219271619230 : True := trivial
theorem holds.tw14571696787620697854 : True := trivial
theorem holds.tw2041457743892144894 : True := trivial
theorem holds.tw10292701021901942622 : True := trivial
theorem holds.tw3626213265524300766 : True := trivial
theorem holds.tw9816476011544392670 : True := trivial
theorem holds.tw10240100896771907615 : True := trivial
theorem holds.tw9245723823536211039 : True := trivial
theorem holds.tw14786868411472786527 : True := trivial
theorem holds.tw3092724735428445279 : True := trivial
theorem holds.tw13208604148985916543 : True := trivial
theorem holds.tw11619669790576578751 : True := trivial
theorem holds.tw7873036012977236159 : True := trivial
theorem holds.tw9188266559522036927 : True := trivial
theorem holds.tw14747351113905286367 : True := trivial
theorem holds.tw1876284267304334591 : True := trivial
theorem holds.tw949623864930693503 : True := trivial
theorem holds.tw16569799976186059295 : True := trivial
theorem holds.tw2326337939012181599 : True := trivial
theorem holds.tw4374827463496512255 : True := trivial
theorem holds.tw10677865647760817919 : True := trivial
theorem holds.tw9569093901706499007 : True := trivial
theorem holds.tw4008379429564310787 : True := trivial
set_option Elab.async true in
set_option maxHeartbeats 8000000 in
theorem holds : PySem.Challenge.rw_rh0033_01.Holds := by
  w_on; o_law; k_head; (case hw => w_witness2); w_strict (
    k_go0
    all_goals try k_fold
    (with_reducible rename Fr _ _ _ _ => F0)
    rename Top _ _ _ _ _ _ => T0
    rename Frag.In _ _ => X0
    rename IntsAre _ _ => I0
    have B := base_of T0 X0 (by kernel_rfl) (by kernel_rfl) (show nsIn _ mainGlobals "_law_some" = some (some (.ref 451)) by kernel_rfl) (n := 0) (vs := #[.int 5 825, .int 4 826, .int 3 827, .int 1 828, .int 2 829, .int 35 830, .int (-3) 832, .int 7 833, .int 9 834, .int 0 835, .int 11 836, .int 6 837, .int 15 838, .int (-1) 840]) (by kernel_rfl)
      (.cons _ _ (.cons _ _ (.cons _ _ (.cons _ _ (.cons _ _ (.cons _ _ (.cons _ _ (.cons _ _ (.cons _ _ (.cons _ _ (.cons _ _ (.cons _ _ (.cons _ _ (.cons _ _ .nil))))))))))))))
    refine law_cut tab_ok B I0 F0 (by with_unfolding_all rfl) rfl rfl rfl rfl rfl ?croom ?cwalk ?cquit
    case croom => exact Room.deeper (k := 20) (A := callerA) ⟨rfl, by decide, by decide⟩ _
    case cwalk =>
      k_steps
      (with_reducible rename Fr _ _ _ _ => F')
      (with_reducible rename News _ _ _ _ => N')
      rename IntsAre _ (List.take _ _) => I'
      rename _ = Data.cell (some _) => d'
      rename _ ∧ _ => l'
      exact ⟨rfl, rfl, rfl, _, _, began_of F' N' d' ⟨_, by assumption⟩ ⟨_, by assumption⟩ ⟨_, by assumption⟩ I' (Nat.ne_of_lt l'.1)⟩
    case cquit =>
      intro s'' k1 k2 k3
      show GoodW _ _ _ _ _ _ _
      refine ⟨.inl ⟨.bool true, .bool true, [], rfl, ?_, ?_, ?_, ?_⟩, k1, k3, k2.trans (by assumption)⟩
      · exact fun _ => rfl
      · exact .bool _
      · first | rfl | (with_unfolding_all rfl)
      · exact fun _ => ⟨.nil, fun _ q => nomatch q⟩)
end Mine

theorem PySem.Challenge.cw_rh0033_01_holds : PySem.Challenge.rw_rh0033_01.Holds :=
  Mine.holds
