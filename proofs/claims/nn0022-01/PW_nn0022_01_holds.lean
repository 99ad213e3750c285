import PyProof.Rows.All
import Wide.All
import OpenK.AllK
import Wide.FinOn
import PySem.Challenge.RW_nn0022_01
set_option Elab.async false
set_option maxRecDepth 100000
set_option maxHeartbeats 4000000
namespace Mine
section
open PySem PySem.W PyProof.Rows PySem.Calls
set_option maxHeartbeats 8000000
/-- the head is looked at with one more thing: nothing has been read -/
def osHook (H : Hook) : Hook := ⟨H.α × Nat, fun s => (H.obs s, s.os.stdinAt), fun w => (H.val w, 0), H.says, fun w s e => H.of w s (congrArg Prod.fst e), H.keeps⟩
local macro_rules | `(tactic| o_head ($f:ident $a $b $c)) => `(tactic| o_head (Mine.osHook ($f $a $b $c)))
open_top hd for PySem.Challenge.rw_nn0022_01
end

section
open PySem PySem.W PyProof.Rows PySem.Calls
/-- the program's values as plain data -/
inductive MV where
  | int (i : Int)
  | bool (b : Bool)
  | list (xs : List Int)
  | raw (xs : List Int)
  | pair (a b : MV)
  | lpair (xs ys : List Int)
  | fn (n : Str)
  | box
  | rng (a b c : Int)

/-- the text's defs -/
def REC : List DefRec := recsOf PySem.Challenge.pw_nn0022_01
def NM : List Str := ["normal", "nat_of", "compare", "add", "sub", "add_at", "shift_left", "shift_right", "bits", "bit", "split", "sqrt_small", "sqrt_plain", "sqrt_two_limbs", "sqrt_halves", "sqrt_rem", "sqrt_newton", "power_of_nat", "root_rem",
  "_law_limbs", "_law_number", "_law_mul", "_law_divrem", "_law_pow", "_law_take", "_law_box", "_law_root", "_law_drawn", "_law_told_right", "_law_is_refused", "law"]
theorem rec_names : REC.map (·.name) = NM := by decide +kernel

/-- what stands behind the top -/
structure TC where
  prog : Program
  w : World
  mg : Str → Option Value
  mb : Str → Option Value
  hT : Heap
  hg : hT.Ns mainGlobals mg
  hb : hT.Ns builtinsNs mb
  nolimit : hT.NoLimit
  mbs : ∀ x : Str, x ≠ "__name__" → mb x = bootBuiltins x
  free : ∀ x : Str, x ∈ (["len", "range", "list", "abs", "max", "reversed"] : List Str) → mg x = none
  fnAt : ∀ d ∈ REC, ∃ a o pm code doc, mg d.name = some (.ref a) ∧ hT.get? a = some o ∧ o.data = .func (docDef d.name d.params d.body d.scope pm code doc) ∧ hT.CodeRec code d.name

abbrev BoxA := Option (Addr × Addr)
def dirty (δ : BoxA) (b : Addr) : Prop := ∃ p, δ = some p ∧ (b = p.1 ∨ b = p.2)
def BoxIs (h : Heap) (p : Addr × Addr) (l : List Int) (x : Int) : Prop :=
  (∃ t, h.IsList p.1 #[.ref p.2, .int x t]) ∧ (∃ items, h.PlainList p.2 items ∧ IntsAre items.toList l) ∧ p.1 ≠ p.2
def BoxOK (δ : BoxA) (h : Heap) : Prop := ∀ p, δ = some p → ∃ l x, BoxIs h p l x ∧ (∀ v ∈ l, 0 ≤ v) ∧ l.length ≤ 30 ∧ 0 ≤ x ∧ x < 1000003

def Rep (G : TC) (h : Heap) (bad : Addr → Prop) (β : BoxA) : Value → MV → Prop
  | v, .int i => ∃ t, v = .int i t
  | v, .bool b => v = .bool b
  | v, .list xs => ∃ a items, v = .ref a ∧ ¬ bad a ∧ h.PlainList a items ∧ IntsAre items.toList xs
  | v, .raw xs => ∃ a items, v = .ref a ∧ ¬ bad a ∧ h.IsList a items ∧ IntsAre items.toList xs
  | v, .pair p q => ∃ a vp vq, v = .ref a ∧ ¬ bad a ∧ h.IsTuple a #[vp, vq] ∧ Rep G h bad β vp p ∧ Rep G h bad β vq q
  | v, .lpair xs ys => ∃ a b c is js, v = .ref a ∧ ¬ bad a ∧ ¬ bad b ∧ ¬ bad c ∧ h.PlainList a #[.ref b, .ref c] ∧ h.PlainList b is ∧ h.PlainList c js ∧ IntsAre is.toList xs ∧ IntsAre js.toList ys
  | v, .fn n => G.mg n = some v ∧ ∃ a, v = .ref a
  | v, .box => ∃ p, β = some p ∧ v = .ref p.1 ∧ G.hT.get? p.1 = none ∧ G.hT.get? p.2 = none
  | v, .rng a b c => ∃ r t u x, v = .ref r ∧ ¬ bad r ∧ IsRange h r a b c t u x

/-- objects off the bad ones stay -/
def Ext (bad : Addr → Prop) (h h' : Heap) : Prop := ∀ b o, h.get? b = some o → ¬ bad b → h'.get? b = some o
theorem Ext.refl (bad : Addr → Prop) (h : Heap) : Ext bad h h := fun _ _ e _ => e
theorem Ext.trans {bad : Addr → Prop} {h h' h'' : Heap} (x : Ext bad h h') (y : Ext bad h' h'') : Ext bad h h'' := fun b o e n => y b o (x b o e n) n
theorem Ext.mono {bad bad' : Addr → Prop} {h h' : Heap} (x : Ext bad h h') (k : ∀ b, bad b → bad' b) : Ext bad' h h' := fun b o e n => x b o e fun q => n (k b q)

theorem IsTuple_at {h h' : Heap} {a : Addr} {its : Array Value} (x : h.IsTuple a its) (e : ∀ o, h.get? a = some o → h'.get? a = some o) : h'.IsTuple a its :=
  let ⟨o, ho, r⟩ := x; ⟨o, e o ho, r⟩

theorem Rep.ext {G : TC} {bad : Addr → Prop} {β : BoxA} {h h' : Heap} (x : Ext bad h h') : ∀ {mv : MV} {v : Value}, Rep G h bad β v mv → Rep G h' bad β v mv
  | .int _, _, r => r
  | .bool _, _, r => r
  | .list _, _, ⟨a, items, e, n, p, i⟩ => ⟨a, items, e, n, p.at fun o q => x a o q n, i⟩
  | .raw _, _, ⟨a, items, e, n, p, i⟩ => ⟨a, items, e, n, p.at fun o q => x a o q n, i⟩
  | .pair _ _, _, ⟨a, vp, vq, e, n, p, r1, r2⟩ => ⟨a, vp, vq, e, n, IsTuple_at p fun o q => x a o q n, r1.ext x, r2.ext x⟩
  | .lpair _ _, _, ⟨a, b, c, is, js, e, n1, n2, n3, p1, p2, p3, i, j⟩ =>
    ⟨a, b, c, is, js, e, n1, n2, n3, p1.at fun o q => x a o q n1, p2.at fun o q => x b o q n2, p3.at fun o q => x c o q n3, i, j⟩
  | .fn _, _, r => r
  | .box, _, r => r
  | .rng _ _ _, _, ⟨r, t, u, y, e, n, i⟩ => ⟨r, t, u, y, e, n, x r _ i n⟩

theorem PlainList_get {h : Heap} {a : Addr} {its : Array Value} (p : h.PlainList a its) : ∃ o, h.get? a = some o := let ⟨_, e⟩ := p; ⟨_, e⟩
theorem IsTuple_get {h : Heap} {a : Addr} {its : Array Value} (p : h.IsTuple a its) : ∃ o, h.get? a = some o := let ⟨o, e, _⟩ := p; ⟨o, e⟩

/-- other bad addresses: those that were bad, or that stood not -/
theorem Rep.bad {G : TC} {bad bad' : Addr → Prop} {β : BoxA} {h : Heap} (k : ∀ b, bad' b → bad b ∨ h.get? b = none) : ∀ {mv : MV} {v : Value}, Rep G h bad β v mv → Rep G h bad' β v mv := by
  have nb : ∀ {a : Addr}, ¬ bad a → (∃ o, h.get? a = some o) → ¬ bad' a := fun {a} n g q => by
    rcases k a q with q | q
    · exact n q
    · obtain ⟨o, e⟩ := g; rw [q] at e; cases e
  intro mv
  induction mv with
  | int i => exact fun r => r
  | bool b => exact fun r => r
  | list xs => exact fun ⟨a, items, e, n, p, i⟩ => ⟨a, items, e, nb n (PlainList_get p), p, i⟩
  | raw xs => exact fun ⟨a, items, e, n, p, i⟩ => ⟨a, items, e, nb n (let ⟨o, q, _⟩ := p; ⟨o, q⟩), p, i⟩
  | pair p q ih1 ih2 => exact fun ⟨a, vp, vq, e, n, p, r1, r2⟩ => ⟨a, vp, vq, e, nb n (IsTuple_get p), p, ih1 r1, ih2 r2⟩
  | lpair xs ys => exact fun ⟨a, b, c, is, js, e, n1, n2, n3, p1, p2, p3, i, j⟩ => ⟨a, b, c, is, js, e, nb n1 (PlainList_get p1), nb n2 (PlainList_get p2), nb n3 (PlainList_get p3), p1, p2, p3, i, j⟩
  | fn n => exact fun r => r
  | box => exact fun r => r
  | rng a b c => exact fun ⟨r, t, u, y, e, n, i⟩ => ⟨r, t, u, y, e, nb n ⟨_, i⟩, i⟩

/-- frame data -/
structure FD where
  h₀ : Heap
  bad₀ : Addr → Prop
  L : Addr
  β : BoxA
/-- what a def's text fixes -/
structure FS where
  sc : Scope
  bx : Bool
  n : Nat

def FS.δ (S : FS) (F : FD) : BoxA := if S.bx then F.β else none
def badOf (S : FS) (F : FD) (μa : Option Addr) (b : Addr) : Prop := F.bad₀ b ∨ b = F.L ∨ dirty (S.δ F) b ∨ μa = some b

abbrev SE := Str → Option MV
def upd (σ : SE) (x : Str) (v : MV) : SE := fun y => if y = x then some v else σ y
abbrev MU := Option (Str × List Int)

def Vars (G : TC) (S : FS) (F : FD) (σ : SE) (μa : Option Addr) (h : Heap) (m : Str → Option Value) : Prop :=
  ∀ x mv, σ x = some mv → S.sc.names.lookup x = some .local ∧ ∃ v, m x = some v ∧ Rep G h (badOf S F μa) F.β v mv
def MuOK (G : TC) (S : FS) (F : FD) (μ : MU) (μa : Option Addr) (h : Heap) (m : Str → Option Value) : Prop :=
  match μ with
  | none => μa = none
  | some (x, xs) => S.sc.names.lookup x = some .local ∧ ∃ a items, μa = some a ∧ m x = some (.ref a) ∧ (F.h₀.get? a = none ∧ G.hT.get? a = none) ∧ ¬ F.bad₀ a ∧ a ≠ F.L ∧ ¬ dirty (S.δ F) a ∧ h.PlainList a items ∧ IntsAre items.toList xs

structure Inv (G : TC) (S : FS) (F : FD) (σ : SE) (μ : MU) (μa : Option Addr) (h : Heap) : Prop where
  top : ∀ b o, G.hT.get? b = some o → h.get? b = some o
  keep : ∀ b o, F.h₀.get? b = some o → ¬ dirty (S.δ F) b → h.get? b = some o
  alloc0 : ∀ b, F.bad₀ b → ∃ o, h.get? b = some o
  Lge : F.h₀.objs.size ≤ F.L
  Lnd : ¬ dirty (S.δ F) F.L
  Lt : G.hT.get? F.L = none
  box : BoxOK (S.δ F) h
  vars : ∃ m, h.Ns F.L m ∧ Vars G S F σ μa h m ∧ MuOK G S F μ μa h m

section
variable {G : TC} {S : FS} {F : FD} {σ : SE} {μ : MU} {μa : Option Addr} {h h' : Heap}

theorem dirty_alloc (x : BoxOK (S.δ F) h) {b : Addr} (d : dirty (S.δ F) b) : ∃ o, h.get? b = some o := by
  obtain ⟨p, e, q⟩ := d
  obtain ⟨l, y, ⟨⟨t, p1⟩, ⟨items, p2, _⟩, _⟩, _⟩ := x p e
  rcases q with rfl | rfl
  · obtain ⟨o, e, _⟩ := p1; exact ⟨o, e⟩
  · exact PlainList_get p2

theorem Inv.alloc (I : Inv G S F σ μ μa h) {b : Addr} (k : badOf S F μa b) : ∃ o, h.get? b = some o := by
  rcases k with k | k | k | k
  · exact I.alloc0 b k
  · obtain ⟨m, ⟨o, _, _, e, _⟩, _⟩ := I.vars
    exact ⟨o, k ▸ e⟩
  · exact dirty_alloc I.box k
  · obtain ⟨m, _, _, u⟩ := I.vars
    cases μ with
    | none => cases (show μa = none from u) ▸ k
    | some y =>
      obtain ⟨x, xs⟩ := y
      obtain ⟨_, a, items, e, _, _, _, _, _, p, _⟩ := u
      rw [e] at k
      cases k
      exact PlainList_get p

theorem Inv.fresh (I : Inv G S F σ μ μa h) : ¬ badOf S F μa h.objs.size := fun k => by
  obtain ⟨o, e⟩ := I.alloc k
  exact absurd (Heap.lt_size e) (Nat.lt_irrefl _)

/-- all that is not dirty stays: the frame is as it was -/
theorem Inv.ext (I : Inv G S F σ μ μa h) (x : Ext (dirty (S.δ F)) h h') (ht : ∀ b o, G.hT.get? b = some o → h'.get? b = some o) (bx : BoxOK (S.δ F) h') : Inv G S F σ μ μa h' where
  top := ht
  keep := fun b o e n => x b o (I.keep b o e n) n
  alloc0 := fun b k => by
    obtain ⟨o, e⟩ := I.alloc0 b k
    by_cases d : dirty (S.δ F) b
    · exact dirty_alloc bx d
    · exact ⟨o, x b o e d⟩
  Lge := I.Lge
  Lnd := I.Lnd
  Lt := I.Lt
  box := bx
  vars := by
    obtain ⟨m, hn, v, u⟩ := I.vars
    refine ⟨m, hn.at fun o e => x _ o e I.Lnd, fun y mv e => ?_, ?_⟩
    · obtain ⟨k, w, e2, r⟩ := v y mv e
      exact ⟨k, w, e2, r.ext (x.mono fun b d => .inr (.inr (.inl d)))⟩
    · cases μ with
      | none => exact u
      | some y =>
        obtain ⟨z, xs⟩ := y
        obtain ⟨k, a, items, e1, e2, g1, g0, g2, g3, p, i⟩ := u
        exact ⟨k, a, items, e1, e2, g1, g0, g2, g3, p.at fun o q => x a o q g3, i⟩

/-- nothing but the heap and the tokens turned, and all that stood stays -/
structure Evo (δ : BoxA) (s s' : Shared) : Prop where
  eq : ∃ h' tk, s' = { s with heap := h', toks := tk }
  ext : Ext (dirty δ) s.heap s'.heap
theorem Evo.refl (δ : BoxA) (s : Shared) : Evo δ s s := ⟨⟨s.heap, s.toks, rfl⟩, Ext.refl _ _⟩
theorem Evo.trans {δ : BoxA} {s s' s'' : Shared} (x : Evo δ s s') (y : Evo δ s' s'') : Evo δ s s'' :=
  ⟨by obtain ⟨h, t, rfl⟩ := x.eq; obtain ⟨h', t', rfl⟩ := y.eq; exact ⟨h', t', rfl⟩, x.ext.trans y.ext⟩
theorem no_dirty {b : Addr} : ¬ dirty none b := fun ⟨_, e, _⟩ => nomatch e

/-- a full keeping, as an Evo for any δ -/
theorem Evo.full {δ : BoxA} {s : Shared} {h' : Heap} {tk : Nat} (k : ∀ b o, s.heap.get? b = some o → h'.get? b = some o) : Evo δ s { s with heap := h', toks := tk } :=
  ⟨⟨h', tk, rfl⟩, fun b o e _ => k b o e⟩
theorem Evo.push {δ : BoxA} {s : Shared} {o : Obj} {tk : Nat} : Evo δ s { s with heap := s.heap.push o, toks := tk } := .full fun _ _ e => Heap.get?_push_of_some _ e
theorem Evo.toks {δ : BoxA} {s : Shared} {tk : Nat} : Evo δ s { s with toks := tk } := .full fun _ _ e => e

theorem BoxOK.keeps {δ : BoxA} {h h' : Heap} (x : BoxOK δ h) (k : ∀ b o, h.get? b = some o → h'.get? b = some o) : BoxOK δ h' := fun p e => by
  obtain ⟨l, y, ⟨⟨t, p1⟩, ⟨items, p2, i⟩, n⟩, r⟩ := x p e
  exact ⟨l, y, ⟨⟨t, p1.at fun o => k _ o⟩, ⟨items, p2.at fun o => k _ o, i⟩, n⟩, r⟩
theorem Inv.keeps (I : Inv G S F σ μ μa h) (k : ∀ b o, h.get? b = some o → h'.get? b = some o) : Inv G S F σ μ μa h' :=
  I.ext (fun b o e _ => k b o e) (fun b o e => k b o (I.top b o e)) (I.box.keeps k)
theorem Inv.push (I : Inv G S F σ μ μa h) (o : Obj) : Inv G S F σ μ μa (h.push o) := I.keeps fun _ _ e => Heap.get?_push_of_some _ e
end

/-- room for n more calls -/
structure Bud (n : Nat) (A : Around) : Prop where
  handled : A.handled = none
  depth : A.depth + n < recursionLimit
  units : A.units + 8 * n + 100 < cLine

def NoE : Value → Shared → Prop := fun _ _ => False

structure EV (G : TC) (S : FS) (σ : SE) (μ : MU) (e : Expr) (P : MV → Prop) : Prop where
  run : ∀ (F : FD) (μa : Option Addr) (A : Around) (nm : Str) (fa : Addr) (cd : Value) (s : Shared) (Q : Value → Shared → Prop),
    Bud S.n A → Inv G S F σ μ μa s.heap →
    (∀ v mv s', P mv → Evo (S.δ F) s s' → Inv G S F σ μ μa s'.heap → Rep G s'.heap (badOf S F μa) F.β v mv → Q v s') →
    wpAny (model G.prog G.w) A (eval e (envOf nm S.sc F.L fa cd)) Q NoE s

structure TR (G : TC) (S : FS) (σ : SE) (μ : MU) (e : Expr) (P : Bool → Prop) : Prop where
  run : ∀ (F : FD) (μa : Option Addr) (A : Around) (nm : Str) (fa : Addr) (cd : Value) (s : Shared) (Q : Bool → Shared → Prop),
    Bud S.n A → Inv G S F σ μ μa s.heap →
    (∀ b s', P b → Evo (S.δ F) s s' → Inv G S F σ μ μa s'.heap → Q b s') →
    wpAny (model G.prog G.w) A (PySem.isTrue e (envOf nm S.sc F.L fa cd) (eval e (envOf nm S.sc F.L fa cd))) Q NoE s

inductive RepL (G : TC) (h : Heap) (bad : Addr → Prop) (β : BoxA) : List Value → List MV → Prop
  | nil : RepL G h bad β [] []
  | cons {v : Value} {mv : MV} {vs : List Value} {mvs : List MV} : Rep G h bad β v mv → RepL G h bad β vs mvs → RepL G h bad β (v :: vs) (mv :: mvs)
theorem RepL.ext {G : TC} {bad : Addr → Prop} {β : BoxA} {h h' : Heap} (x : Ext bad h h') {vs : List Value} {mvs : List MV} (r : RepL G h bad β vs mvs) : RepL G h' bad β vs mvs := by
  induction r with
  | nil => exact .nil
  | cons r _ ih => exact .cons (r.ext x) ih

structure AV (G : TC) (S : FS) (σ : SE) (μ : MU) (es : List Expr) (P : List MV → Prop) : Prop where
  run : ∀ (F : FD) (μa : Option Addr) (A : Around) (nm : Str) (fa : Addr) (cd : Value) (pos : Pos) (s : Shared) (Q : List Value → Shared → Prop),
    Bud S.n A → Inv G S F σ μ μa s.heap →
    (∀ vs mvs s', P mvs → Evo (S.δ F) s s' → Inv G S F σ μ μa s'.heap → RepL G s'.heap (badOf S F μa) F.β vs mvs → Q vs s') →
    wpAny (model G.prog G.w) A (spliced (backTo pos (starEach es (envOf nm S.sc F.L fa cd)))) Q NoE s

/-- an int of at most 8000 bits -/
structure Sm (x : Int) : Prop where
  bits : Builtin.Int.intBits x ≤ 8000
theorem Sm.lt {x : Int} {k : Nat} (h : x.natAbs < 2 ^ k) (hk : k ≤ 8000) : Sm x := ⟨Nat.le_trans (intBits_le_iff.mpr h) hk⟩
theorem Sm.pos {x : Int} {k : Nat} (h0 : 0 ≤ x) (h : x < 2 ^ k) (hk : k ≤ 8000) : Sm x := by
  refine .lt (k := k) ?_ hk
  have e : ((2 ^ k : Nat) : Int) = (2 : Int) ^ k := by norm_cast
  omega
theorem Sm.nat {x k : Nat} (h : x < 2 ^ k) (hk : k ≤ 8000) : Sm (x : Int) := .lt (k := k) (by simpa using h) hk
theorem Sm.lit {x : Int} (h : x.natAbs < 2 ^ 60) : Sm x := .lt h (by decide)
theorem Sm.fdiv {x y : Int} (h : Sm y) : Builtin.divisionGoesByPylong x y = false := by
  refine PyProof.noPylong_of_log2 ?_
  have h := h.bits
  unfold Builtin.Int.intBits at h
  by_cases h0 : y = 0
  · subst h0; decide +kernel
  · rw [if_neg (by simpa using h0)] at h; omega

/-- what an operation on values yields -/
structure BN (G : TC) (op : Operator) (x y : MV) (P : MV → Prop) : Prop where
  run : ∀ (bad : Addr → Prop) (β : BoxA) (A : Around) (s : Shared) (vx vy : Value) (Q : Value → Shared → Prop),
    A.handled = none → ¬ bad s.heap.objs.size → Rep G s.heap bad β vx x → Rep G s.heap bad β vy y →
    (∀ v mv h' tk, P mv → (∀ b o, s.heap.get? b = some o → h'.get? b = some o) → Rep G h' bad β v mv → Q v { s with heap := h', toks := tk }) →
    wpAny (model G.prog G.w) A (binaryOp op vx vy) Q NoE s
structure CP (G : TC) (op : CmpOp) (x y : MV) (P : Bool → Prop) : Prop where
  run : ∀ (bad : Addr → Prop) (β : BoxA) (A : Around) (s : Shared) (vx vy : Value) (Q : Value → Shared → Prop),
    A.handled = none → A.units + 90 < cLine → Rep G s.heap bad β vx x → Rep G s.heap bad β vy y →
    (∀ b h' tk, P b → (∀ b o, s.heap.get? b = some o → h'.get? b = some o) → Q (.bool b) { s with heap := h', toks := tk }) →
    wpAny (model G.prog G.w) A (compareOp op vx vy) Q NoE s

section
variable {G : TC} {S : FS} {σ : SE} {μ : MU} {P : MV → Prop}

theorem EV.mono {e : Expr} {P' : MV → Prop} (h : EV G S σ μ e P) (k : ∀ mv, P mv → P' mv) : EV G S σ μ e P' :=
  ⟨fun F μa A nm fa cd s Q B I q => h.run F μa A nm fa cd s Q B I fun v mv s' p => q v mv s' (k mv p)⟩
theorem TR.mono {e : Expr} {P P' : Bool → Prop} (h : TR G S σ μ e P) (k : ∀ b, P b → P' b) : TR G S σ μ e P' :=
  ⟨fun F μa A nm fa cd s Q B I q => h.run F μa A nm fa cd s Q B I fun v s' p => q v s' (k v p)⟩

theorem ev_int {i : Int} {k : Nat} {pos : Pos} (p : P (.int i)) : EV G S σ μ (.Constant (.int i) k pos) P :=
  ⟨fun _ _ _ _ _ _ _ _ _ I q => wpAny_Constant_int (q _ (.int i) _ p .toks I ⟨_, rfl⟩)⟩

theorem ev_name {x : Str} {pos : Pos} {mv : MV} (e : σ x = some mv) (p : P mv) (hk : S.sc.kind = .function := by rfl) (hd : (x == ("__debug__" : Str)) = false := by decide +kernel) : EV G S σ μ (.Name x pos) P := by
  refine ⟨fun F μa A nm fa cd s Q B I q => ?_⟩
  obtain ⟨m, hn, v, u⟩ := I.vars
  obtain ⟨hl, w, e2, r⟩ := v x mv e
  exact wpAny_Name (wpAny_loadName_local hk hl hn e2 (q w mv s p (.refl _ _) I r)) hd

theorem ev_bin {l r : Expr} {op : Operator} {pos : Pos} (h : EV G S σ μ l fun x => EV G S σ μ r fun y => BN G op x y P) : EV G S σ μ (.BinOp l op r pos) P := by
  refine ⟨fun F μa A nm fa cd s Q B I q => ?_⟩
  refine wpAny_BinOp (h.run F μa A nm fa cd s _ B I fun vx x s₁ hx E₁ I₁ r₁ => hx.run F μa A nm fa cd s₁ _ B I₁ fun vy y s₂ hy E₂ I₂ r₂ => ?_)
  refine hy.run _ _ A s₂ vx vy _ B.handled I₂.fresh (r₁.ext (E₂.ext.mono fun b d => .inr (.inr (.inl d)))) r₂ fun v mv h' tk p k r => ?_
  exact q v mv _ p ((E₁.trans E₂).trans (.full k)) (I₂.keeps k) r

theorem ev_neg {x : Expr} {pos : Pos} (h : EV G S σ μ x fun y => ∃ i, y = .int i ∧ P (.int (-i))) : EV G S σ μ (.UnaryOp .USub x pos) P := by
  refine ⟨fun F μa A nm fa cd s Q B I q => ?_⟩
  refine UnaryOp_ (h.run F μa A nm fa cd s _ B I fun vx x s₁ hx E₁ I₁ r₁ => ?_)
  obtain ⟨i, rfl, p⟩ := hx
  obtain ⟨t, rfl⟩ := r₁
  exact neg_int (q _ _ _ p (E₁.trans .toks) I₁ ⟨_, rfl⟩)

theorem tr_cmp {l r : Expr} {op : CmpOp} {pos : Pos} {P : Bool → Prop} (h : EV G S σ μ l fun x => EV G S σ μ r fun y => CP G op x y P) (hm : behindInMarks op r = false := by with_unfolding_all rfl) :
    TR G S σ μ (.Compare l [op] [r] pos) P := by
  refine ⟨fun F μa A nm fa cd s Q B I q => ?_⟩
  refine wpAny_isTrue_Compare1 (h.run F μa A nm fa cd s _ B I fun vx x s₁ hx E₁ I₁ r₁ => hx.run F μa A nm fa cd s₁ _ B I₁ fun vy y s₂ hy E₂ I₂ r₂ => ?_) hm
  refine hy.run _ _ A s₂ vx vy _ B.handled (by have := B.units; omega) (r₁.ext (E₂.ext.mono fun b d => .inr (.inr (.inl d)))) r₂ fun b h' tk p k => ?_
  exact wpAny_truthy_bool (q b _ p ((E₁.trans E₂).trans (.full k)) (I₂.keeps k))
theorem ev_cmp {l r : Expr} {op : CmpOp} {pos : Pos} (h : EV G S σ μ l fun x => EV G S σ μ r fun y => CP G op x y fun b => P (.bool b)) (hm : behindInMarks op r = false := by with_unfolding_all rfl) :
    EV G S σ μ (.Compare l [op] [r] pos) P := by
  refine ⟨fun F μa A nm fa cd s Q B I q => ?_⟩
  refine wpAny_Compare1 (h.run F μa A nm fa cd s _ B I fun vx x s₁ hx E₁ I₁ r₁ => hx.run F μa A nm fa cd s₁ _ B I₁ fun vy y s₂ hy E₂ I₂ r₂ => ?_) hm
  refine hy.run _ _ A s₂ vx vy _ B.handled (by have := B.units; omega) (r₁.ext (E₂.ext.mono fun b d => .inr (.inr (.inl d)))) r₂ fun b h' tk p k => ?_
  exact q _ (.bool b) _ p ((E₁.trans E₂).trans (.full k)) (I₂.keeps k) rfl

theorem ev_ifexp {t b o : Expr} {pos : Pos} (h : TR G S σ μ t fun c => if c = true then EV G S σ μ b P else EV G S σ μ o P) : EV G S σ μ (.IfExp t b o pos) P := by
  refine ⟨fun F μa A nm fa cd s Q B I q => ?_⟩
  refine IfExp_ (h.run F μa A nm fa cd s _ B I fun c s₁ hc E₁ I₁ => ?_)
  cases c with
  | true => exact hc.run F μa A nm fa cd s₁ Q B I₁ fun v mv s' p E I r => q v mv s' p (E₁.trans E) I r
  | false => exact hc.run F μa A nm fa cd s₁ Q B I₁ fun v mv s' p E I r => q v mv s' p (E₁.trans E) I r

theorem tr_not {x : Expr} {pos : Pos} {P : Bool → Prop} (h : TR G S σ μ x fun b => P (!b)) : TR G S σ μ (.UnaryOp .Not x pos) P := by
  refine ⟨fun F μa A nm fa cd s Q B I q => ?_⟩
  exact isTrue_not (h.run F μa A nm fa cd s _ B I fun b s' p E I => q (!b) s' p E I)

theorem av_nil {P : List MV → Prop} (p : P []) : AV G S σ μ [] P :=
  ⟨fun _ _ _ _ _ _ _ s _ _ I q => args_nil (q [] [] s p (.refl _ _) I .nil)⟩
theorem av_cons {e : Expr} {es : List Expr} {P : List MV → Prop} (h : EV G S σ μ e fun x => AV G S σ μ es fun xs => P (x :: xs)) (he : ∀ env, starEach (e :: es) env = (false, eval e env) :: starEach es env := by intro _; rfl) :
    AV G S σ μ (e :: es) P := by
  refine ⟨fun F μa A nm fa cd pos s Q B I q => ?_⟩
  refine args_cons (h.run F μa A nm fa cd s _ B I fun vx x s₁ hx E₁ I₁ r₁ => hx.run F μa A nm fa cd pos s₁ _ B I₁ fun vs mvs s₂ p E₂ I₂ r₂ => ?_) (he _)
  exact q _ _ s₂ p (E₁.trans E₂) I₂ (.cons (r₁.ext (E₂.ext.mono fun b d => .inr (.inr (.inl d)))) r₂)

section
variable {a b : Int}
theorem bn_add (p : P (.int (a + b))) : BN G .Add (.int a) (.int b) P := by
  refine ⟨?_⟩
  rintro bad β A s vx vy Q hh nb ⟨t, rfl⟩ ⟨u, rfl⟩ q
  exact add_int (q _ _ _ _ p (fun _ _ e => e) ⟨_, rfl⟩)
theorem bn_sub (p : P (.int (a - b))) : BN G .Sub (.int a) (.int b) P := by
  refine ⟨?_⟩
  rintro bad β A s vx vy Q hh nb ⟨t, rfl⟩ ⟨u, rfl⟩ q
  exact sub_int (q _ _ _ _ p (fun _ _ e => e) ⟨_, rfl⟩)
theorem bn_mul (ha : Sm a) (hb : Sm b) (p : P (.int (a * b))) : BN G .Mult (.int a) (.int b) P := by
  refine ⟨?_⟩
  rintro bad β A s vx vy Q hh nb ⟨t, rfl⟩ ⟨u, rfl⟩ q
  exact mul_int (q _ _ _ _ p (fun _ _ e => e) ⟨_, rfl⟩) (IntMulOk.of_bits (Nat.le_trans ha.bits (by decide)) (Nat.le_trans hb.bits (by decide)))
theorem bn_fdiv (h0 : b ≠ 0) (hb : Sm b) (p : P (.int (a.fdiv b))) : BN G .FloorDiv (.int a) (.int b) P := by
  refine ⟨?_⟩
  rintro bad β A s vx vy Q hh nb ⟨t, rfl⟩ ⟨u, rfl⟩ q
  exact floordiv_int h0 (q _ _ _ _ p (fun _ _ e => e) ⟨_, rfl⟩) (.inl hb.fdiv)
theorem bn_mod (h0 : b ≠ 0) (p : P (.int (a.fmod b))) : BN G .Mod (.int a) (.int b) P := by
  refine ⟨?_⟩
  rintro bad β A s vx vy Q hh nb ⟨t, rfl⟩ ⟨u, rfl⟩ q
  exact mod_int' h0 (q _ _ _ _ p (fun _ _ e => e) ⟨_, rfl⟩)
theorem bn_shl (h0 : 0 ≤ b) (h1 : b ≤ 1000000) (hb : Sm a) (p : P (.int (a * 2 ^ b.toNat))) : BN G .LShift (.int a) (.int b) P := by
  refine ⟨?_⟩
  rintro bad β A s vx vy Q hh nb ⟨t, rfl⟩ ⟨u, rfl⟩ q
  refine lshift_int_or hh (fun h => absurd h (by omega)) (fun _ => ?_) fun _ => q _ _ _ _ p (fun _ _ e => e) ⟨_, rfl⟩
  have h2 := hb.bits
  have e : (2 : Int) ^ 27 = 134217728 := by decide
  omega
theorem bn_shr (h0 : 0 ≤ b) (p : P (.int (a.fdiv (2 ^ b.toNat)))) : BN G .RShift (.int a) (.int b) P := by
  refine ⟨?_⟩
  rintro bad β A s vx vy Q hh nb ⟨t, rfl⟩ ⟨u, rfl⟩ q
  exact rshift_int h0 (q _ _ _ _ p (fun _ _ e => e) ⟨_, rfl⟩)
theorem bn_and (p : P (.int (Builtin.bitAnd a b))) : BN G .BitAnd (.int a) (.int b) P := by
  refine ⟨?_⟩
  rintro bad β A s vx vy Q hh nb ⟨t, rfl⟩ ⟨u, rfl⟩ q
  exact and_int (q _ _ _ _ p (fun _ _ e => e) ⟨_, rfl⟩)
theorem bn_or (p : P (.int (Builtin.bitOr a b))) : BN G .BitOr (.int a) (.int b) P := by
  refine ⟨?_⟩
  rintro bad β A s vx vy Q hh nb ⟨t, rfl⟩ ⟨u, rfl⟩ q
  exact or_int (q _ _ _ _ p (fun _ _ e => e) ⟨_, rfl⟩)
variable {P : Bool → Prop}
theorem cp_eq (p : P (a == b)) : CP G .Eq (.int a) (.int b) P := by
  refine ⟨?_⟩
  rintro bad β A s vx vy Q hh nb ⟨t, rfl⟩ ⟨u, rfl⟩ q
  exact eq_int (q _ _ _ p fun _ _ e => e)
theorem cp_ne (p : P (a != b)) : CP G .NotEq (.int a) (.int b) P := by
  refine ⟨?_⟩
  rintro bad β A s vx vy Q hh nb ⟨t, rfl⟩ ⟨u, rfl⟩ q
  exact ne_int (q _ _ _ p fun _ _ e => e)
theorem cp_lt (p : P (decide (a < b))) : CP G .Lt (.int a) (.int b) P := by
  refine ⟨?_⟩
  rintro bad β A s vx vy Q hh nb ⟨t, rfl⟩ ⟨u, rfl⟩ q
  exact lt_int (q _ _ _ p fun _ _ e => e)
theorem cp_le (p : P (decide (a ≤ b))) : CP G .LtE (.int a) (.int b) P := by
  refine ⟨?_⟩
  rintro bad β A s vx vy Q hh nb ⟨t, rfl⟩ ⟨u, rfl⟩ q
  exact le_int (q _ _ _ p fun _ _ e => e)
theorem cp_gt (p : P (decide (b < a))) : CP G .Gt (.int a) (.int b) P := by
  refine ⟨?_⟩
  rintro bad β A s vx vy Q hh nb ⟨t, rfl⟩ ⟨u, rfl⟩ q
  exact gt_int (q _ _ _ p fun _ _ e => e)
theorem cp_ge (p : P (decide (b ≤ a))) : CP G .GtE (.int a) (.int b) P := by
  refine ⟨?_⟩
  rintro bad β A s vx vy Q hh nb ⟨t, rfl⟩ ⟨u, rfl⟩ q
  exact ge_int (q _ _ _ p fun _ _ e => e)
end
end
end

section
open PySem PySem.W PyProof.Rows PySem.Calls
section
variable {G : TC} {S : FS} {σ : SE} {μ : MU} {P : MV → Prop}

theorem FS.env_kind {S : FS} {nm : Str} {L fa : Addr} {cd : Value} {x : Str} {k : NameKind} (h : S.sc.names.lookup x = some k) : (envOf nm S.sc L fa cd).kindOf x = some k := h

/-- a built-in's name -/
theorem wp_boot {F : FD} {μa : Option Addr} {A : Around} {nm : Str} {fa : Addr} {cd : Value} {s : Shared} {x : Str} {pos : Pos} {v : Value} {Q : Value → Shared → Prop}
    (I : Inv G S F σ μ μa s.heap) (hk : S.sc.kind = .function) (hl : S.sc.names.lookup x = some .globalImplicit)
    (hf : x ∈ (["len", "range", "list", "abs", "max", "reversed"] : List Str)) (hb : bootBuiltins x = some v) (hn : x ≠ "__name__") (hd : (x == ("__debug__" : Str)) = false) (h : Q v s) :
    wpAny (model G.prog G.w) A (eval (.Name x pos) (envOf nm S.sc F.L fa cd)) Q NoE s :=
  Name_function_global (env := envOf nm S.sc F.L fa cd) hk hl (loadGlobal_builtin (env := envOf nm S.sc F.L fa cd) (G.hg.keeps I.top) (G.free x hf) (G.hb.keeps I.top) ((G.mbs x hn).trans hb) h) hd

theorem rec_of {x : Str} (h : x ∈ NM) : ∃ d ∈ REC, d.name = x := by
  rw [← rec_names] at h
  exact List.mem_map.mp h
theorem ev_gfn {x : Str} {pos : Pos} (hx : x ∈ NM) (p : P (.fn x)) (hl : S.sc.names.lookup x = some .globalImplicit := by first | decide +kernel | (dsimp only; decide +kernel)) (hk : S.sc.kind = .function := by rfl) (hdb : (x == ("__debug__" : Str)) = false := by first | decide +kernel | (dsimp only; decide +kernel)) :
    EV G S σ μ (.Name x pos) P := by
  refine ⟨fun F μa A nm fa cd s Q B I q => ?_⟩
  obtain ⟨d, hd, hx⟩ := rec_of hx
  obtain ⟨a, o, pm, code, doc, e1, _⟩ := G.fnAt d hd
  rw [hx] at e1
  exact Name_function_global (env := envOf nm S.sc F.L fa cd) hk hl (loadGlobal_global (env := envOf nm S.sc F.L fa cd) (G.hg.keeps I.top) e1 (q _ (.fn x) s p (.refl _ _) I ⟨e1, a, rfl⟩)) hdb

/-- the contract of a def -/
structure Con (G : TC) (bx : Bool) (n : Nat) (f : Str) (args : List MV) (P : MV → Prop) : Prop where
  run : ∀ (a : Addr) (A : Around) (s : Shared) (bad : Addr → Prop) (β : BoxA) (vs : List Value) (Q : Value → Shared → Prop),
    G.mg f = some (.ref a) → Bud n A → (∀ b o, G.hT.get? b = some o → s.heap.get? b = some o) → (∀ b, bad b → ∃ o, s.heap.get? b = some o) →
    (∀ b, dirty (if bx then β else none) b → bad b) → BoxOK (if bx then β else none) s.heap → RepL G s.heap bad β vs args →
    (∀ v mv s', P mv → Evo (if bx then β else none) s s' → (∀ b o, G.hT.get? b = some o → s'.heap.get? b = some o) → BoxOK (if bx then β else none) s'.heap → Rep G s'.heap bad β v mv → Q v s') →
    wpAny (model G.prog G.w) A (call (.ref a) vs) Q NoE s

theorem Con.mono {bx : Bool} {n : Nat} {f : Str} {args : List MV} {P' : MV → Prop} (h : Con G bx n f args P) (k : ∀ mv, P mv → P' mv) : Con G bx n f args P' :=
  ⟨fun a A s bad β vs Q e B t al dd bo r q => h.run a A s bad β vs Q e B t al dd bo r fun v mv s' p => q v mv s' (k mv p)⟩
theorem Con.le {bx : Bool} {n n' : Nat} {f : Str} {args : List MV} (h : Con G bx n f args P) (k : n ≤ n') : Con G bx n' f args P :=
  ⟨fun a A s bad β vs Q e B => h.run a A s bad β vs Q e ⟨B.handled, by have := B.depth; omega, by have := B.units; omega⟩⟩

/-- a call, the callee in hand as a value -/
theorem wp_call_fn {F : FD} {μa : Option Addr} {A : Around} {s : Shared} {f : Str} {a : Addr} {vs : List Value} {args : List MV} {Q : Value → Shared → Prop} {bx : Bool} (hbx : bx = true → S.bx = true)
    (B : Bud S.n A) (I : Inv G S F σ μ μa s.heap) (e : G.mg f = some (.ref a)) (r : RepL G s.heap (badOf S F μa) F.β vs args) (c : Con G bx S.n f args P)
    (q : ∀ v mv s', P mv → Evo (S.δ F) s s' → Inv G S F σ μ μa s'.heap → Rep G s'.heap (badOf S F μa) F.β v mv → Q v s') :
    wpAny (model G.prog G.w) A (call (.ref a) vs) Q NoE s := by
  have hδ : ∀ b, dirty (if bx then F.β else none) b → dirty (S.δ F) b := by
    intro b d
    cases bx with
    | false => exact (no_dirty d).elim
    | true => unfold FS.δ; rw [hbx rfl]; exact d
  have hbo : BoxOK (if bx then F.β else none) s.heap := by
    cases bx with
    | false => exact fun p e => nomatch e
    | true => have := I.box; unfold FS.δ at this; rw [hbx rfl] at this; exact this
  refine c.run a A s (badOf S F μa) F.β vs Q e B I.top (fun b k => I.alloc k) (fun b d => .inr (.inr (.inl (hδ b d)))) hbo r fun v mv s' p E t bo r' => ?_
  have E' : Evo (S.δ F) s s' := ⟨E.eq, E.ext.mono hδ⟩
  refine q v mv s' p E' (I.ext E'.ext t ?_) r'
  cases bx with
  | true => unfold FS.δ; rw [hbx rfl]; exact bo
  | false =>
    intro p e
    obtain ⟨l, y, ⟨⟨t, p1⟩, ⟨items, p2, i⟩, n⟩, r⟩ := I.box p e
    exact ⟨l, y, ⟨⟨t, p1.at fun o e => E.ext _ o e no_dirty⟩, ⟨items, p2.at fun o e => E.ext _ o e no_dirty, i⟩, n⟩, r⟩

/-- a call of a def by its name, or by a name that holds one -/
theorem ev_call {fe : Expr} {args : List Expr} {pos : Pos} (bx : Bool) (hbx : bx = true → S.bx = true := by intro h; first | exact h | cases h)
    (h : EV G S σ μ fe fun f => ∃ n, f = .fn n ∧ n ∈ NM ∧ AV G S σ μ args fun mvs => Con G bx S.n n mvs P)
    (hc : ∀ env, eval (.Call fe args [] pos) env = (do callWith pos (← eval fe env) [] (backTo pos (starEach args env)) (backToKw pos (keywordEach [] env))) := by intro _; rfl)
    (ha : ∃ e rest, args = e :: rest ∧ (∀ env, starEach (e :: rest) env = (false, eval e env) :: starEach rest env) ∧ ∀ env, (backTo pos (starEach rest env)).any (·.1) = false := by exact ⟨_, _, rfl, fun _ => rfl, fun _ => rfl⟩) :
    EV G S σ μ (.Call fe args [] pos) P := by
  refine ⟨fun F μa A nm fa cd s Q B I q => ?_⟩
  obtain ⟨e, rest, rfl, hs, hp⟩ := ha
  refine Call_ (h.run F μa A nm fa cd s _ B I fun vf f s₁ hf E₁ I₁ r₁ => ?_) (hc _)
  obtain ⟨n, rfl, hn, hav⟩ := hf
  obtain ⟨d, hd, hn⟩ := rec_of hn
  obtain ⟨em, a, rfl⟩ := r₁
  obtain ⟨a', o, pm, code, doc, e1, e2, e3, e4⟩ := G.fnAt d hd
  rw [hn, em] at e1
  obtain rfl : a = a' := by simpa using e1
  refine callWith_def_at (h' := G.hT) e2 e3 (hav.run F μa A nm fa cd pos s₁ _ B I₁ fun vs mvs s₂ hc E₂ I₂ r₂ => ⟨I₂.top _ _ e2, ?_⟩) (hs _)
  exact wp_call_fn hbx B I₂ em r₂ hc fun v mv s' p E I r => q v mv s' p ((E₁.trans E₂).trans E) I r

theorem ev_len {e : Expr} {p₁ pos : Pos} (h : EV G S σ μ e fun x => ∃ xs, x = .list xs ∧ xs.length < 2 ^ 62 ∧ P (.int xs.length))
    (hl : S.sc.names.lookup ("len" : Str) = some .globalImplicit := by first | decide +kernel | (dsimp only; decide +kernel)) (hk : S.sc.kind = .function := by rfl)
    (hc : ∀ env, eval (.Call (.Name "len" p₁) [e] [] pos) env = (do callWith pos (← eval (.Name "len" p₁) env) [] (backTo pos (starEach [e] env)) (backToKw pos (keywordEach [] env))) := by intro _; rfl)
    (hs : ∀ env, starEach [e] env = [(false, eval e env)] := by intro _; rfl) : EV G S σ μ (.Call (.Name "len" p₁) [e] [] pos) P := by
  refine ⟨fun F μa A nm fa cd s Q B I q => ?_⟩
  refine Call_ (wp_boot I hk hl (by decide +kernel) boot_len (by decide +kernel) (by decide +kernel) ?_) (hc _)
  refine PyProof.Rows.callWith_builtin1 (args_cons (h.run F μa A nm fa cd s _ B I fun vx x s₁ hx E₁ I₁ r₁ => args_nil ?_) (hs _)) (hs _)
  obtain ⟨xs, rfl, hb, p⟩ := hx
  obtain ⟨a, items, rfl, nb, pl, i⟩ := r₁
  have hsz : items.size = xs.length := by have := i.length; simpa using this
  refine len_list pl.isList (by omega) ?_
  rw [hsz]
  exact q _ (.int xs.length) _ p (E₁.trans .toks) I₁ ⟨_, rfl⟩
end

/-- statements: K what holds behind, R of what is handed back -/
def chgOf (S : FS) (F : FD) (μa : Option Addr) (b : Addr) : Prop := b = F.L ∨ dirty (S.δ F) b ∨ μa = some b
theorem chg_bad {S : FS} {F : FD} {μa : Option Addr} {b : Addr} (k : chgOf S F μa b) : badOf S F μa b := .inr k
structure EvoS (S : FS) (F : FD) (μa : Option Addr) (s : Shared) (μa' : Option Addr) (s' : Shared) : Prop where
  eq : ∃ h' tk, s' = { s with heap := h', toks := tk }
  ext : Ext (chgOf S F μa) s.heap s'.heap
  nb : ∀ b, chgOf S F μa' b → chgOf S F μa b ∨ s.heap.get? b = none
theorem EvoS.refl (S : FS) (F : FD) (μa : Option Addr) (s : Shared) : EvoS S F μa s μa s := ⟨⟨s.heap, s.toks, rfl⟩, Ext.refl _ _, fun _ k => .inl k⟩
theorem Evo.toS {S : FS} {F : FD} {μa : Option Addr} {s s' : Shared} (x : Evo (S.δ F) s s') : EvoS S F μa s μa s' := ⟨x.eq, x.ext.mono fun _ d => .inr (.inl d), fun _ k => .inl k⟩
theorem EvoS.trans {S : FS} {F : FD} {μa μa' μa'' : Option Addr} {s s' s'' : Shared} (x : EvoS S F μa s μa' s') (y : EvoS S F μa' s' μa'' s'') : EvoS S F μa s μa'' s'' where
  eq := by obtain ⟨h, t, rfl⟩ := x.eq; obtain ⟨h', t', rfl⟩ := y.eq; exact ⟨h', t', rfl⟩
  ext := fun b o e n => y.ext b o (x.ext b o e n) fun k => by
    rcases x.nb b k with k | k
    · exact n k
    · rw [k] at e; cases e
  nb := fun b k => by
    rcases y.nb b k with k | k
    · exact x.nb b k
    · by_cases hb : chgOf S F μa b
      · exact .inl hb
      · cases e : s.heap.get? b with
        | none => exact .inr rfl
        | some o => rw [x.ext b o e hb] at k; cases k

structure SX (G : TC) (S : FS) (σ : SE) (μ : MU) (ss : List Stmt) (K : SE → MU → Prop) (R : MV → Prop) : Prop where
  run : ∀ (F : FD) (μa : Option Addr) (A : Around) (nm : Str) (fa : Addr) (cd : Value) (s : Shared) (Q : Flow → Shared → Prop),
    Bud S.n A → Inv G S F σ μ μa s.heap →
    (∀ σ' μ' μa' s', K σ' μ' → EvoS S F μa s μa' s' → Inv G S F σ' μ' μa' s'.heap → Q .next s') →
    (∀ v mv σ' μ' μa' s', R mv → EvoS S F μa s μa' s' → Inv G S F σ' μ' μa' s'.heap → Rep G s'.heap F.bad₀ F.β v mv → Q (.ret v) s') →
    wpAny (model G.prog G.w) A (execs ss (envOf nm S.sc F.L fa cd)) Q NoE s
structure S1 (G : TC) (S : FS) (σ : SE) (μ : MU) (st : Stmt) (K : SE → MU → Prop) (R : MV → Prop) : Prop where
  run : ∀ (F : FD) (μa : Option Addr) (A : Around) (nm : Str) (fa : Addr) (cd : Value) (s : Shared) (Q : Flow → Shared → Prop),
    Bud S.n A → Inv G S F σ μ μa s.heap →
    (∀ σ' μ' μa' s', K σ' μ' → EvoS S F μa s μa' s' → Inv G S F σ' μ' μa' s'.heap → Q .next s') →
    (∀ v mv σ' μ' μa' s', R mv → EvoS S F μa s μa' s' → Inv G S F σ' μ' μa' s'.heap → Rep G s'.heap F.bad₀ F.β v mv → Q (.ret v) s') →
    wpAny (model G.prog G.w) A (exec st (envOf nm S.sc F.L fa cd)) Q NoE s

section
variable {G : TC} {S : FS} {σ : SE} {μ : MU} {K : SE → MU → Prop} {R : MV → Prop} {ss : List Stmt}

theorem sx_nil (h : K σ μ) : SX G S σ μ [] K R :=
  ⟨fun _ _ _ _ _ _ s _ _ I qn _ => wpAny_execs_nil (qn _ _ _ s h (.refl ..) I)⟩
theorem sx_cons {st : Stmt} (h : S1 G S σ μ st (fun σ' μ' => SX G S σ' μ' ss K R) R) : SX G S σ μ (st :: ss) K R := by
  refine ⟨fun F μa A nm fa cd s Q B I qn qr => ?_⟩
  refine wpAny_execs_cons (h.run F μa A nm fa cd s _ B I (fun σ' μ' μa' s' hk E I' => ?_) fun v mv σ' μ' μa' s' hr E I' r => qr v mv σ' μ' μa' s' hr E I' r)
  exact hk.run F μa' A nm fa cd s' Q B I' (fun σ'' μ'' μa'' s'' k E' => qn σ'' μ'' μa'' s'' k (E.trans E')) fun v mv σ'' μ'' μa'' s'' k E' => qr v mv σ'' μ'' μa'' s'' k (E.trans E')
theorem SX.mono {K' : SE → MU → Prop} {R' : MV → Prop} (h : SX G S σ μ ss K R) (k : ∀ σ μ, K σ μ → K' σ μ) (r : ∀ mv, R mv → R' mv) : SX G S σ μ ss K' R' :=
  ⟨fun F μa A nm fa cd s Q B I qn qr => h.run F μa A nm fa cd s Q B I (fun σ' μ' μa' s' p => qn σ' μ' μa' s' (k _ _ p)) fun v mv σ' μ' μa' s' p => qr v mv σ' μ' μa' s' (r _ p)⟩

/-- forget names -/
theorem Inv.weak {F : FD} {μa : Option Addr} {h : Heap} {σ' : SE} (I : Inv G S F σ μ μa h) (k : ∀ x v, σ' x = some v → σ x = some v) : Inv G S F σ' μ μa h :=
  { I with vars := let ⟨m, hn, v, u⟩ := I.vars; ⟨m, hn, fun x mv e => v x mv (k x mv e), u⟩ }
theorem sx_weak {σ' : SE} (k : ∀ x v, σ' x = some v → σ x = some v) (h : SX G S σ' μ ss K R) : SX G S σ μ ss K R :=
  ⟨fun F μa A nm fa cd s Q B I => h.run F μa A nm fa cd s Q B (I.weak k)⟩

theorem bad_none {F : FD} {μa : Option Addr} {b : Addr} (k : badOf S F none b) : badOf S F μa b := by
  rcases k with k | k | k | k
  · exact .inl k
  · exact .inr (.inl k)
  · exact .inr (.inr (.inl k))
  · cases k

theorem chg_none {F : FD} {μa : Option Addr} {b : Addr} (k : chgOf S F none b) : chgOf S F μa b := by
  rcases k with k | k | k
  · exact .inl k
  · exact .inr (.inl k)
  · cases k
/-- the list that was grown is a value from here on -/
theorem Inv.freeze {F : FD} {μa : Option Addr} {h : Heap} {x : Str} {xs : List Int} (I : Inv G S F σ (some (x, xs)) μa h) : Inv G S F (upd σ x (.list xs)) none none h := by
  obtain ⟨m, hn, v, k, a, items, rfl, e, g1, g0, g2, g3, p, i⟩ := I.vars
  refine { I with vars := ⟨m, hn, fun y mv q => ?_, rfl⟩ }
  unfold upd at q
  split at q
  · rename_i hy
    subst hy
    cases q
    refine ⟨k, _, e, a, items, rfl, ?_, p, i⟩
    rintro (q | q | q | q)
    · exact g0 q
    · exact g2 q
    · exact g3 q
    · cases q
  · obtain ⟨k, w, e, r⟩ := v y mv q
    exact ⟨k, w, e, r.bad fun b q => .inl (bad_none q)⟩
theorem sx_freeze {x : Str} {xs : List Int} (h : SX G S (upd σ x (.list xs)) none ss K R) : SX G S σ (some (x, xs)) ss K R := by
  refine ⟨fun F μa A nm fa cd s Q B I qn qr => ?_⟩
  have E : EvoS S F μa s none s := ⟨⟨s.heap, s.toks, rfl⟩, Ext.refl _ _, fun b k => .inl (chg_none k)⟩
  exact h.run F none A nm fa cd s Q B I.freeze (fun σ'' μ'' μa'' s'' k E' => qn σ'' μ'' μa'' s'' k (E.trans E')) fun v mv σ'' μ'' μa'' s'' k E' => qr v mv σ'' μ'' μa'' s'' k (E.trans E')

/-- a name is stored -/
theorem wp_store {F : FD} {μa : Option Addr} {A : Around} {nm : Str} {fa : Addr} {cd : Value} {s : Shared} {x : Str} {v : Value} {mv : MV} {Q : Unit → Shared → Prop}
    (I : Inv G S F σ μ μa s.heap) (hl : S.sc.names.lookup x = some .local) (hk : S.sc.kind = .function) (hμ : ∀ y ys, μ = some (y, ys) → y ≠ x) (r : Rep G s.heap (badOf S F μa) F.β v mv)
    (q : ∀ s', EvoS S F μa s μa s' → Ext (· = F.L) s.heap s'.heap → Inv G S F (upd σ x mv) μ μa s'.heap → Q () s') :
    wpAny (model G.prog G.w) A (storeName (envOf nm S.sc F.L fa cd) x v) Q NoE s := by
  obtain ⟨m, hn, vs, u⟩ := I.vars
  have hLs : ∀ b o, F.h₀.get? b = some o → b ≠ F.L := fun b o e => Nat.ne_of_lt (Nat.lt_of_lt_of_le (Heap.lt_size e) I.Lge)
  refine wpAny_storeName_local (env := envOf nm S.sc F.L fa cd) hl hn (fun h' hn' hs => ?_) (by show (S.sc.kind == .class || (S.sc.kind == .module && F.L != mainGlobals)) = false; rw [hk]; rfl)
  have X : Ext (· = F.L) s.heap h' := fun b o e n => hs.extBut b o n e
  have XB : Ext (badOf S F μa) s.heap h' := X.mono fun b e => .inr (.inl e)
  refine q _ ⟨⟨h', _, rfl⟩, X.mono fun b e => .inl e, fun b k => .inl k⟩ X ?_
  have top : ∀ b o, G.hT.get? b = some o → h'.get? b = some o := by
    intro b o e
    refine X b o (I.top b o e) ?_
    rintro rfl
    rw [I.Lt] at e; cases e
  refine ⟨top, fun b o e n => X b o (I.keep b o e n) (hLs b o e), fun b k => ?_, I.Lge, I.Lnd, I.Lt, ?_, _, hn', ?_, ?_⟩
  · by_cases hb : b = F.L
    · obtain ⟨o, _, _, e, _⟩ := hn'
      exact ⟨o, hb ▸ e⟩
    · obtain ⟨o, e⟩ := I.alloc0 b k
      exact ⟨o, X b o e hb⟩
  · intro p e
    obtain ⟨l, y, ⟨⟨t, p1⟩, ⟨items, p2, i⟩, n⟩, r⟩ := I.box p e
    exact ⟨l, y, ⟨⟨t, p1.at fun o e' => X _ o e' fun q => I.Lnd ⟨p, e, .inl q.symm⟩⟩, ⟨items, p2.at fun o e' => X _ o e' fun q => I.Lnd ⟨p, e, .inr q.symm⟩, i⟩, n⟩, r⟩
  · intro y w e
    unfold upd at e
    split at e
    · rename_i hy
      subst hy
      cases e
      exact ⟨hl, v, if_pos rfl, r.ext XB⟩
    · rename_i hy
      obtain ⟨k, w', e', r'⟩ := vs y w e
      exact ⟨k, w', (if_neg hy).trans e', r'.ext XB⟩
  · cases μ with
    | none => exact u
    | some z =>
      obtain ⟨y, ys⟩ := z
      obtain ⟨k, a, items, e1, e2, g1, g0, g2, g3, p, i⟩ := u
      exact ⟨k, a, items, e1, (if_neg (hμ y ys rfl)).trans e2, g1, g0, g2, g3, p.at fun o e => X a o e g2, i⟩
end
end

section
open PySem PySem.W PyProof.Rows PySem.Calls
/-- in-place operations on ints -/
structure IN (G : TC) (op : Operator) (x y : MV) (P : MV → Prop) : Prop where
  run : ∀ (A : Around) (s : Shared) (vx vy : Value) (bad : Addr → Prop) (β : BoxA) (Q : Value → Shared → Prop),
    A.handled = none → Rep G s.heap bad β vx x → Rep G s.heap bad β vy y →
    (∀ v mv tk, P mv → Rep G s.heap bad β v mv → Q v { s with toks := tk }) →
    wpAny (model G.prog G.w) A (inplaceOp op vx vy) Q NoE s

section
variable {G : TC} {P : MV → Prop} {a b : Int}
theorem in_add (p : P (.int (a + b))) : IN G .Add (.int a) (.int b) P := by
  refine ⟨?_⟩
  rintro A s vx vy bad β Q hh ⟨t, rfl⟩ ⟨u, rfl⟩ q
  exact iadd_int (q _ _ _ p ⟨_, rfl⟩)
theorem in_sub (p : P (.int (a - b))) : IN G .Sub (.int a) (.int b) P := by
  refine ⟨?_⟩
  rintro A s vx vy bad β Q hh ⟨t, rfl⟩ ⟨u, rfl⟩ q
  exact isub_int (q _ _ _ p ⟨_, rfl⟩)
theorem in_shr (h0 : 0 ≤ b) (p : P (.int (a.fdiv (2 ^ b.toNat)))) : IN G .RShift (.int a) (.int b) P := by
  refine ⟨?_⟩
  rintro A s vx vy bad β Q hh ⟨t, rfl⟩ ⟨u, rfl⟩ q
  exact irshift_int h0 (q _ _ _ p ⟨_, rfl⟩)
theorem in_or (p : P (.int (Builtin.bitOr a b))) : IN G .BitOr (.int a) (.int b) P := by
  refine ⟨?_⟩
  rintro A s vx vy bad β Q hh ⟨t, rfl⟩ ⟨u, rfl⟩ q
  exact ior_int (q _ _ _ p ⟨_, rfl⟩)
end

section
variable {G : TC} {S : FS} {σ : SE} {μ : MU} {K : SE → MU → Prop} {R : MV → Prop} {ss : List Stmt}

theorem Rep.up {F : FD} {μa : Option Addr} {s s' : Shared} {v : Value} {mv : MV} (r : Rep G s.heap (badOf S F μa) F.β v mv) (E : Evo (S.δ F) s s') : Rep G s'.heap (badOf S F μa) F.β v mv :=
  r.ext (E.ext.mono fun _ d => .inr (.inr (.inl d)))
theorem RepL.up {F : FD} {μa : Option Addr} {s s' : Shared} {v : List Value} {mv : List MV} (r : RepL G s.heap (badOf S F μa) F.β v mv) (E : Evo (S.δ F) s s') : RepL G s'.heap (badOf S F μa) F.β v mv :=
  r.ext (E.ext.mono fun _ d => .inr (.inr (.inl d)))
theorem Rep.base {F : FD} {μa : Option Addr} {h : Heap} {v : Value} {mv : MV} (r : Rep G h (badOf S F μa) F.β v mv) : Rep G h F.bad₀ F.β v mv := r.bad fun _ k => .inl (.inl k)

theorem s1_return {e : Expr} {pos : Pos} (h : EV G S σ μ e R) : S1 G S σ μ (.Return (some e) pos) K R := by
  refine ⟨fun F μa A nm fa cd s Q B I qn qr => ?_⟩
  exact wpAny_Return_some (h.run F μa A nm fa cd s _ B I fun v mv s' p E I' r => qr v mv σ μ μa s' p E.toS I' r.base)

theorem s1_if {t : Expr} {b o : List Stmt} {pos : Pos} (h : TR G S σ μ t fun c => if c = true then SX G S σ μ b K R else SX G S σ μ o K R) : S1 G S σ μ (.If t b o pos) K R := by
  refine ⟨fun F μa A nm fa cd s Q B I qn qr => ?_⟩
  refine wpAny_If (h.run F μa A nm fa cd s _ B I fun c s₁ hc E₁ I₁ => ?_)
  cases c with
  | true => exact hc.run F μa A nm fa cd s₁ Q B I₁ (fun σ' μ' μa' s' k E I => qn σ' μ' μa' s' k (E₁.toS.trans E) I) fun v mv σ' μ' μa' s' k E I => qr v mv σ' μ' μa' s' k (E₁.toS.trans E) I
  | false => exact hc.run F μa A nm fa cd s₁ Q B I₁ (fun σ' μ' μa' s' k E I => qn σ' μ' μa' s' k (E₁.toS.trans E) I) fun v mv σ' μ' μa' s' k E I => qr v mv σ' μ' μa' s' k (E₁.toS.trans E) I

/-- the names that a store may not meet: the grown list's -/
def offμ (μ : MU) (x : Str) : Prop := ∀ y ys, μ = some (y, ys) → y ≠ x
theorem offμ_none {x : Str} : offμ none x := fun _ _ e => nomatch e
theorem offμ_some {x y : Str} {ys : List Int} (h : y ≠ x) : offμ (some (y, ys)) x := fun _ _ e => by cases e; exact h

theorem s1_assign {x : Str} {p₁ pos : Pos} {e : Expr} (h : EV G S σ μ e fun mv => K (upd σ x mv) μ) (hμ : offμ μ x)
    (hl : S.sc.names.lookup x = some .local := by first | decide +kernel | (dsimp only; decide +kernel)) (hk : S.sc.kind = .function := by rfl)
    (hs : ∀ env, swapsWith e (some (.Name x p₁)) pos.line env = pure false := by intro _; rfl) : S1 G S σ μ (.Assign [.Name x p₁] e pos) K R := by
  refine ⟨fun F μa A nm fa cd s Q B I qn qr => ?_⟩
  refine wpAny_Assign_Name (h.run F μa A nm fa cd s _ B I fun v mv s₁ hK E₁ I₁ r => ?_) (hs _)
  exact wp_store I₁ hl hk hμ r fun s' E X I' => qn _ _ _ s' hK (E₁.toS.trans E) I'

theorem s1_aug {x : Str} {p₁ pos : Pos} {op : Operator} {e : Expr} {old : MV} (ho : σ x = some old) (h : EV G S σ μ e fun y => IN G op old y fun mv => K (upd σ x mv) μ) (hμ : offμ μ x)
    (hl : S.sc.names.lookup x = some .local := by first | decide +kernel | (dsimp only; decide +kernel)) (hk : S.sc.kind = .function := by rfl) : S1 G S σ μ (.AugAssign (.Name x p₁) op e pos) K R := by
  refine ⟨fun F μa A nm fa cd s Q B I qn qr => ?_⟩
  obtain ⟨m, hn, vs, u⟩ := I.vars
  obtain ⟨_, w, e2, r⟩ := vs x old ho
  refine wpAny_AugAssign_Name (wpAny_loadName_local (env := envOf nm S.sc F.L fa cd) hk hl hn e2 (h.run F μa A nm fa cd s _ B I fun v y s₁ hI E₁ I₁ r₁ => ?_))
  refine hI.run A s₁ w v _ _ _ B.handled (r.up E₁) r₁ fun v' mv tk hK r' => ?_
  exact wp_store (s := { s₁ with toks := tk }) I₁ hl hk hμ r' fun s' E X I' => qn _ _ _ s' hK ((E₁.trans .toks).toS.trans E) I'

/-- found.append(e) -/
theorem s1_append {x : Str} {xs : List Int} {p₁ apos cpos pos : Pos} {e : Expr} (h : EV G S σ (some (x, xs)) e fun y => ∃ i, y = .int i ∧ K σ (some (x, xs ++ [i]))) (hsz : xs.length ≤ 1000000)
    (hk : S.sc.kind = .function := by rfl) (hd : (x == ("__debug__" : Str)) = false := by first | decide +kernel | (dsimp only; decide +kernel))
    (hev : ∃ pl : Env → Sem Bool, ∀ env, eval (.Call (.Attribute (.Name x p₁) "append" apos) [e] [] cpos) env = (do
      let ov ← eval (.Name x p₁) env
      standAt apos.atName
      let (f, first) ← holding [ov] (getMethod ov "append" (pl env))
      callWith cpos f first (backTo cpos (starEach [e] env)) []) := by exact ⟨_, fun _ => rfl⟩)
    (hs : ∀ env, starEach [e] env = [(false, eval e env)] := by intro _; rfl)
    (hi : ∀ nm L fa cd, interactive (envOf nm S.sc L fa cd) = false := by intro _ _ _ _; rfl)
    (hsw : ∀ env, swapsWith (.Call (.Attribute (.Name x p₁) "append" apos) [e] [] cpos) none pos.line env = pure false := by intro _; rfl) :
    S1 G S σ (some (x, xs)) (.Expr (.Call (.Attribute (.Name x p₁) "append" apos) [e] [] cpos) pos) K R := by
  refine ⟨fun F μa A nm fa cd s Q B I qn qr => ?_⟩
  obtain ⟨m, hn, vs, hl, a, items, rfl, e2, g1, g0, g2, g3, pl, i⟩ := I.vars
  obtain ⟨plc, hev⟩ := hev
  have hT := pl
  obtain ⟨k, ho⟩ := pl
  refine wpAny_Expr (MethodCall_ (wpAny_Name (wpAny_loadName_local (env := envOf nm S.sc F.L fa cd) hk hl hn e2 ?_) hd) (hev _)) (hi ..) (hsw _)
  refine getMethod_list_append ho rfl rfl ?_
  refine callWith_method1 (args_cons (h.run F (some a) A nm fa cd s _ B I fun v y s₁ hI E₁ I₁ r₁ => args_nil ?_) (hs _)) (hs _)
  obtain ⟨j, rfl, hK⟩ := hI
  obtain ⟨t, rfl⟩ := r₁
  obtain ⟨m', hn', vs', hl', a', items', ea, e2', g1', g0', g2', g3', pl', i'⟩ := I₁.vars
  cases ea
  have hsz' : items'.size ≤ sizeLine := by
    have e := i'.length
    simp only [Array.length_toList] at e
    rw [sizeLine_eq, e]; omega
  refine wpAny_list_append_plain pl' (fun h' p' sb => ?_) hsz'
  have X : Ext (badOf S F (some a)) s₁.heap h' := fun b o e n => sb.extBut b o (fun q => n (.inr (.inr (.inr (by rw [q]))))) e
  have Xa : ∀ b o, b ≠ a → s₁.heap.get? b = some o → h'.get? b = some o := fun b o n e => sb.extBut b o n e
  refine qn _ _ (some a) _ hK (E₁.toS.trans ⟨⟨h', _, rfl⟩, fun b o e n => Xa b o (fun q => n (.inr (.inr (by rw [q])))) e, fun b k => .inl k⟩) ?_
  have hLa : F.L ≠ a := fun q => g2' q.symm
  refine ⟨fun b o q => ?_, fun b o q n => ?_, fun b q => ?_, I₁.Lge, I₁.Lnd, I₁.Lt, ?_, m', hn'.sameBut sb hLa, ?_, hl', a, _, rfl, e2', g1', g0', g2', g3', p', ?_⟩
  · by_cases hb : b = a
    · subst hb
      rw [g1.2] at q; cases q
    · exact Xa b o hb (I₁.top b o q)
  · refine Xa b o ?_ (I₁.keep b o q n)
    rintro rfl
    rw [g1.1] at q; cases q
  · obtain ⟨o, q'⟩ := I₁.alloc0 b q
    exact ⟨o, Xa b o (fun e => g0 (e ▸ q)) q'⟩
  · intro p e
    obtain ⟨l, y, ⟨⟨t, p1⟩, ⟨its, p2, i⟩, n⟩, r⟩ := I₁.box p e
    exact ⟨l, y, ⟨⟨t, p1.at fun o q => Xa _ o (fun z => g3 ⟨p, e, .inl z.symm⟩) q⟩, ⟨its, p2.at fun o q => Xa _ o (fun z => g3 ⟨p, e, .inr z.symm⟩) q, i⟩, n⟩, r⟩
  · intro y w q
    obtain ⟨k, w', q', r⟩ := vs' y w q
    exact ⟨k, w', q', r.ext X⟩
  · have e3 : (items'.push (Value.int j t)).toList = items'.toList ++ [.int j t] := by simp
    rw [e3]
    exact i'.append (.cons j t .nil)
end
end

section
open PySem PySem.W PyProof.Rows PySem.Calls
section
variable {G : TC} {S : FS} {σ : SE} {μ : MU} {P : MV → Prop}

/-- tests -/
theorem tr_and2 {x y : Expr} {pos : Pos} {P : Bool → Prop} (h : TR G S σ μ x fun c => if c = true then TR G S σ μ y P else P false) : TR G S σ μ (.BoolOp .And [x, y] pos) P := by
  refine ⟨fun F μa A nm fa cd s Q B I q => ?_⟩
  refine isTrue_and (h.run F μa A nm fa cd s _ B I fun c s₁ hc E₁ I₁ => ?_)
  cases c with
  | false => exact q false s₁ hc E₁ I₁
  | true =>
    refine isTrue_and (hc.run F μa A nm fa cd s₁ _ B I₁ fun c s₂ hc E₂ I₂ => ?_)
    cases c with
    | false => exact q false s₂ hc (E₁.trans E₂) I₂
    | true => exact isTrue_and_nil (q true s₂ hc (E₁.trans E₂) I₂)
theorem tr_or2 {x y : Expr} {pos : Pos} {P : Bool → Prop} (h : TR G S σ μ x fun c => if c = true then P true else TR G S σ μ y P) : TR G S σ μ (.BoolOp .Or [x, y] pos) P := by
  refine ⟨fun F μa A nm fa cd s Q B I q => ?_⟩
  refine isTrue_or (h.run F μa A nm fa cd s _ B I fun c s₁ hc E₁ I₁ => ?_)
  cases c with
  | true => exact q true s₁ hc E₁ I₁
  | false =>
    refine isTrue_or (hc.run F μa A nm fa cd s₁ _ B I₁ fun c s₂ hc E₂ I₂ => ?_)
    cases c with
    | true => exact q true s₂ hc (E₁.trans E₂) I₂
    | false => exact isTrue_or_nil (q false s₂ hc (E₁.trans E₂) I₂)
/-- any expression that yields a bool -/
theorem tr_plain {e : Expr} {P : Bool → Prop} (h : EV G S σ μ e fun x => ∃ b, x = .bool b ∧ P b)
    (hp : ∀ env whole, PySem.isTrue e env whole = (do let v ← whole; standAt e.pos; holding [v] (truthy v)) := by intro _ _; rfl) : TR G S σ μ e P := by
  refine ⟨fun F μa A nm fa cd s Q B I q => ?_⟩
  refine isTrue_plain (h.run F μa A nm fa cd s _ B I fun v x s₁ hx E₁ I₁ r => ?_) (hp _ _)
  obtain ⟨b, rfl, p⟩ := hx
  cases r
  exact wpAny_truthy_bool (q b s₁ p E₁ I₁)
theorem tr_true {k : Nat} {pos : Pos} {P : Bool → Prop} (p : P true) : TR G S σ μ (.Constant (.bool true) k pos) P := by
  refine ⟨fun F μa A nm fa cd s Q B I q => ?_⟩
  have e : ∀ env, eval (.Constant (.bool true) k pos) env = pure (Value.bool true) := fun _ => rfl
  refine isTrue_plain ?_ rfl
  rw [e]
  exact wpAny_pure (wpAny_truthy_bool (q true s p (.refl _ _) I))
theorem ev_bool {b : Bool} {k : Nat} {pos : Pos} (p : P (.bool b)) : EV G S σ μ (.Constant (.bool b) k pos) P := by
  refine ⟨fun F μa A nm fa cd s Q B I q => ?_⟩
  have e : ∀ env, eval (.Constant (.bool b) k pos) env = pure (Value.bool b) := fun _ => rfl
  rw [e]
  exact wpAny_pure (q _ (.bool b) s p (.refl _ _) I rfl)

/-- displays -/
theorem nb_push {F : FD} {μa : Option Addr} {h : Heap} (I : Inv G S F σ μ μa h) : ¬ badOf S F μa h.objs.size := I.fresh
inductive AreInts : List MV → List Int → Prop
  | nil : AreInts [] []
  | cons {i : Int} {ms : List MV} {xs : List Int} : AreInts ms xs → AreInts (.int i :: ms) (i :: xs)
theorem RepL.ints {h : Heap} {bad : Addr → Prop} {β : BoxA} {vs : List Value} {ms : List MV} {xs : List Int} (r : RepL G h bad β vs ms) (a : AreInts ms xs) : IntsAre vs xs := by
  induction a generalizing vs with
  | nil => cases r; exact .nil
  | cons _ ih =>
    cases r with
    | cons r1 r2 => obtain ⟨t, rfl⟩ := r1; exact .cons _ _ (ih r2)
theorem wp_newList {F : FD} {μa : Option Addr} {A : Around} {s : Shared} {vs : List Value} {xs : List Int} {Q : Value → Shared → Prop} (I : Inv G S F σ μ μa s.heap) (i : IntsAre vs xs) (hsz : xs.length ≤ 1000000)
    (q : ∀ s', Evo (S.δ F) s s' → Inv G S F σ μ μa s'.heap → s'.heap.PlainList s.heap.objs.size vs.toArray → Rep G s'.heap (badOf S F μa) F.β (.ref s.heap.objs.size) (.list xs) → Q (.ref s.heap.objs.size) s') :
    wpAny (model G.prog G.w) A (newList vs) Q NoE s := by
  have pl : (s.heap.push { cls := .type "list", data := .seq vs.toArray }).PlainList s.heap.objs.size vs.toArray := ⟨_, Heap.get?_push_size _ rfl⟩
  refine wpAny_newObj_type (q _ .push (I.push _) pl ⟨_, vs.toArray, rfl, I.fresh, pl, by simpa using i⟩) ?_
  show vs.toArray.size ≤ sizeLine
  have := i.length
  rw [sizeLine_eq, List.size_toArray]
  omega
/-- a display of ints -/
theorem ev_list {es : List Expr} {pos : Pos} (h : AV G S σ μ es fun ms => ∃ xs, AreInts ms xs ∧ xs.length ≤ 1000000 ∧ P (.list xs)) : EV G S σ μ (.List es pos) P := by
  refine ⟨fun F μa A nm fa cd s Q B I q => ?_⟩
  refine List_ (h.run F μa A nm fa cd pos s _ B I fun vs ms s₁ hx E₁ I₁ r => ?_)
  obtain ⟨xs, a, hsz, p⟩ := hx
  exact wp_newList I₁ (r.ints a) hsz fun s' E I' pl r => q _ _ s' p (E₁.trans E) I' r
/-- a display of two int lists -/
theorem ev_list2 {es : List Expr} {pos : Pos} (h : AV G S σ μ es fun ms => ∃ xs ys, ms = [.list xs, .list ys] ∧ P (.lpair xs ys)) : EV G S σ μ (.List es pos) P := by
  refine ⟨fun F μa A nm fa cd s Q B I q => ?_⟩
  refine List_ (h.run F μa A nm fa cd pos s _ B I fun vs ms s₁ hx E₁ I₁ r => ?_)
  obtain ⟨xs, ys, rfl, p⟩ := hx
  cases r with
  | cons r1 r =>
    cases r with
    | cons r2 r =>
      cases r
      refine wpAny_newObj_type (q _ _ _ p (E₁.trans .push) (I₁.push _) ?_) (by show 2 ≤ sizeLine; rw [sizeLine_eq]; decide)
      obtain ⟨b, is, rfl, n1, p1, i1⟩ := r1
      obtain ⟨c, js, rfl, n2, p2, i2⟩ := r2
      exact ⟨_, b, c, is, js, rfl, I₁.fresh, n1, n2, ⟨_, Heap.get?_push_size _ rfl⟩, p1.at fun o e => Heap.get?_push_of_some _ e, p2.at fun o e => Heap.get?_push_of_some _ e, i1, i2⟩
/-- a pair -/
theorem ev_pair {es : List Expr} {k : Nat} {pos : Pos} (h : AV G S σ μ es fun ms => ∃ x y, ms = [x, y] ∧ P (.pair x y)) : EV G S σ μ (.Tuple es k pos) P := by
  refine ⟨fun F μa A nm fa cd s Q B I q => ?_⟩
  refine Tuple_ (h.run F μa A nm fa cd pos s _ B I fun vs ms s₁ hx E₁ I₁ r => ?_)
  obtain ⟨x, y, rfl, p⟩ := hx
  cases r with
  | cons r1 r =>
    cases r with
    | cons r2 r =>
      cases r
      refine wpAny_newObj_type (q _ _ _ p (E₁.trans .push) (I₁.push _) ?_) (by show 2 ≤ sizeLine; rw [sizeLine_eq]; decide)
      exact ⟨_, _, _, rfl, I₁.fresh, ⟨_, Heap.get?_push_size _ rfl, rfl, _, rfl⟩, r1.ext (fun b o e _ => Heap.get?_push_of_some _ e), r2.ext (fun b o e _ => Heap.get?_push_of_some _ e)⟩

/-- list + list -/
theorem bn_cat {xs ys : List Int} (hsz : xs.length + ys.length ≤ 1000000) (p : P (.list (xs ++ ys))) : BN G .Add (.list xs) (.list ys) P := by
  refine ⟨?_⟩
  rintro bad β A s vx vy Q hh nb ⟨a, is, rfl, n1, ⟨k1, h1⟩, i⟩ ⟨b, js, rfl, n2, ⟨k2, h2⟩, j⟩ q
  have e1 := i.length
  have e2 := j.length
  simp only [Array.length_toList] at e1 e2
  have e : is ++ js = (is.toList ++ js.toList).toArray := by simp
  refine concat_meets ⟨_, h1, rfl⟩ ⟨_, h2, rfl⟩ noFill_list_add seq_list_add PySem.F.slot_list_add PySem.F.entry_list_add (PySem.F.args_list_add_2 _ _) (list_addW a b is js k1 k2 none none #[] #[] (by rw [sizeLine_eq]; omega)) ⟨h1, h2, ?_⟩
  refine q _ (.list (xs ++ ys)) _ _ p (fun _ _ e => Heap.get?_push_of_some _ e) ⟨_, is ++ js, rfl, nb, ⟨_, Heap.get?_push_size _ rfl⟩, ?_⟩
  rw [e]
  simpa using i.append j

/-- [c] * n -/
theorem ints_rep {v : Value} {c : Int} {t : Tok} (hv : v = .int c t) : ∀ n : Nat, IntsAre (List.replicate n v) (List.replicate n c)
  | 0 => .nil
  | n + 1 => by subst hv; exact .cons c t (ints_rep rfl n)
theorem foldl_rep (v : Value) : ∀ (n : Nat) (a : Array Value), (List.foldl (fun x1 x2 => x1 ++ x2) a (List.replicate n #[v])).toList = a.toList ++ List.replicate n v
  | 0, a => by simp
  | n + 1, a => by
    rw [List.replicate_succ, List.foldl_cons, foldl_rep v n]
    simp [List.replicate_succ]
theorem wp_rep {A : Around} {s : Shared} {a : Addr} {is : Array Value} {c n : Int} {u : Tok} {Q : Value → Shared → Prop} (h0 : 0 ≤ n) (h1 : n ≤ 1000000) (pl : s.heap.PlainList a is) (i : IntsAre is.toList [c])
    (q : ∀ its o, IntsAre its.toList (List.replicate n.toNat c) → o = ({ cls := .type "list", data := .seq its } : Obj) → Q (.ref s.heap.objs.size) { s with heap := s.heap.push o }) :
    wpAny (model G.prog G.w) A (binaryOp .Mult (.ref a) (.int n u)) Q NoE s := by
  obtain ⟨k1, hl⟩ := pl
  obtain ⟨v, t, rfl, e⟩ : ∃ v t, is = #[v] ∧ v = Value.int c t := by
    obtain ⟨l⟩ := is
    cases i with
    | cons n t r => cases r; exact ⟨_, t, rfl, rfl⟩
  refine wpAny_binaryOp_repeat_ref (T := "list") (U := "int") (by decide) ⟨_, hl, rfl⟩ (fun s' => typeIs_int s' n u) noFill_list_mul F.fills_int_mul F.slot_int_rmul repeat_list F.slot_int_index.lookup
    (call_meets F.slot_int_rmul (typeIs_int s n u) F.entry_int_rmul (F.args_int_rmul_2 _ _) (int___rmul___int_list n u a #[v] k1)
      ⟨hl, rfl, ⟨_, hl, rfl⟩, call_meets F.slot_list_mul ⟨_, hl, rfl⟩ F.entry_list_mul (F.args_list_mul_2 _ _)
        (AutoListH.list___mul___list_int_3 a #[v] k1 n u (by simp [Builtin.List.listFitsIndex]; omega) (by simp; omega) (by simp [Builtin.List.listTooLong, sizeLine]; omega))
        ⟨hl, ?_⟩⟩)
  refine q _ _ ?_ rfl
  rw [show (if (#[v] : Array Value).isEmpty = true then 0 else n.toNat) = n.toNat from rfl, foldl_rep]
  simpa using ints_rep e n.toNat
theorem bn_rep {c n : Int} (h0 : 0 ≤ n) (h1 : n ≤ 1000000) (p : P (.list (List.replicate n.toNat c))) : BN G .Mult (.list [c]) (.int n) P := by
  refine ⟨?_⟩
  rintro bad β A s vx vy Q hh nb ⟨a, is, rfl, n1, pl, i⟩ ⟨u, rfl⟩ q
  refine wp_rep h0 h1 pl i fun its o hi e => ?_
  subst e
  exact q _ (.list (List.replicate n.toNat c)) _ _ p (fun _ _ e => Heap.get?_push_of_some _ e) ⟨_, _, rfl, nb, ⟨_, Heap.get?_push_size _ rfl⟩, hi⟩
end
end

section
open PySem PySem.W PyProof.Rows PySem.Calls
section
variable {G : TC} {S : FS} {σ : SE} {μ : MU} {P : MV → Prop}

theorem ints_size {is : Array Value} {xs : List Int} (i : IntsAre is.toList xs) : is.size = xs.length := by have := i.length; simpa using this

theorem ev_item {v ix : Expr} {pos : Pos} (h : EV G S σ μ v fun x => EV G S σ μ ix fun y => ∃ xs k, x = .list xs ∧ y = .int k ∧ 0 ≤ k ∧ k < xs.length ∧ xs.length < 2 ^ 62 ∧ P (.int (xs.getD k.toNat 0)))
    (hs : ∀ l k u, subscripted ix false (.ref l) (.int k u) = operate [.ref l, .int k u] (getItem (.ref l) (.int k u)) := by intro _ _ _; with_unfolding_all rfl)
    (ht : ∀ o r, letTemporaryGo v o r = pure () := by intro _ _; rfl) : EV G S σ μ (.Subscript v ix pos) P := by
  refine ⟨fun F μa A nm fa cd s Q B I q => ?_⟩
  refine Subscript_ (h.run F μa A nm fa cd s _ B I fun vx x s₁ hx E₁ I₁ r₁ => hx.run F μa A nm fa cd s₁ _ B I₁ fun vy y s₂ hy E₂ I₂ r₂ => ?_)
  obtain ⟨xs, k, rfl, rfl, h0, h1, hb, p⟩ := hy
  have r₁ := r₁.up E₂
  obtain ⟨a, is, rfl, nb, pl, i⟩ := r₁
  obtain ⟨t, rfl⟩ := r₂
  refine item_list_ints (vs := is.toList) (by simpa using pl.isList) i h0 h1 (by omega) (fun t => ?_) (hs ..) (fun r => ht _ r)
  exact q _ (.int _) s₂ p (E₁.trans E₂) I₂ ⟨_, rfl⟩
theorem ev_last {v ix : Expr} {pos : Pos} (h : EV G S σ μ v fun x => EV G S σ μ ix fun y => ∃ xs, x = .list xs ∧ y = .int (-1) ∧ 0 < xs.length ∧ xs.length < 2 ^ 62 ∧ P (.int (xs.getD (xs.length - 1) 0)))
    (hs : ∀ l k u, subscripted ix false (.ref l) (.int k u) = operate [.ref l, .int k u] (getItem (.ref l) (.int k u)) := by intro _ _ _; with_unfolding_all rfl)
    (ht : ∀ o r, letTemporaryGo v o r = pure () := by intro _ _; rfl) : EV G S σ μ (.Subscript v ix pos) P := by
  refine ⟨fun F μa A nm fa cd s Q B I q => ?_⟩
  refine Subscript_ (h.run F μa A nm fa cd s _ B I fun vx x s₁ hx E₁ I₁ r₁ => hx.run F μa A nm fa cd s₁ _ B I₁ fun vy y s₂ hy E₂ I₂ r₂ => ?_)
  obtain ⟨xs, rfl, rfl, h0, hb, p⟩ := hy
  have r₁ := r₁.up E₂
  obtain ⟨a, is, rfl, nb, pl, i⟩ := r₁
  obtain ⟨t, rfl⟩ := r₂
  refine item_list_ints_neg (vs := is.toList) (by simpa using pl.isList) i (by decide) (by omega) (by decide) (fun t => ?_) (hs ..) (fun r => ht _ r)
  refine q _ (.int _) s₂ p (E₁.trans E₂) I₂ ⟨t, ?_⟩
  rw [show ((-1 : Int) + (xs.length : Int)).toNat = xs.length - 1 from by omega]
/-- the first of a pair -/
theorem ev_fst {v ix : Expr} {pos : Pos} (h : EV G S σ μ v fun x => EV G S σ μ ix fun y => ∃ a b, x = .pair a b ∧ y = .int 0 ∧ P a)
    (hs : ∀ l k u, subscripted ix false (.ref l) (.int k u) = operate [.ref l, .int k u] (getItem (.ref l) (.int k u)) := by intro _ _ _; with_unfolding_all rfl) : EV G S σ μ (.Subscript v ix pos) P := by
  refine ⟨fun F μa A nm fa cd s Q B I q => ?_⟩
  refine Subscript_ (h.run F μa A nm fa cd s _ B I fun vx x s₁ hx E₁ I₁ r₁ => hx.run F μa A nm fa cd s₁ _ B I₁ fun vy y s₂ hy E₂ I₂ r₂ => ?_)
  obtain ⟨a, b, rfl, rfl, p⟩ := hy
  obtain ⟨c, va, vb, rfl, nb, tp, ra, rb⟩ := r₁.up E₂
  obtain ⟨t, rfl⟩ := r₂
  refine kba_turn (value' := .Name (PySem.Str.ofString "_") ⟨0, 0, 0, 0⟩) (fun _ => rfl) ?_
  exact item_tupleT (k := 0) (l := [va, vb]) tp (by decide) (by decide) (j := 0) rfl rfl (q _ _ s₂ p (E₁.trans E₂) I₂ ra) (hs c 0 t)

/-- slices -/
theorem Evo.push2 {δ : BoxA} {s : Shared} {o o' : Obj} {tk : Nat} : Evo δ s { s with heap := (s.heap.push o).push o', toks := tk } :=
  .full fun _ _ e => Heap.get?_push_of_some _ (Heap.get?_push_of_some _ e)
theorem rep_slice {F : FD} {μa : Option Addr} {s : Shared} (I : Inv G S F σ μ μa s.heap) {o : Obj} {its : Array Value} {xs : List Int} (i : IntsAre its.toList xs) :
    Rep G ((s.heap.push o).push { cls := .type "list", data := .seq its }) (badOf S F μa) F.β (.ref (s.heap.objs.size + 1)) (.list xs) := by
  have nb := (I.push o).fresh
  rw [Heap.size_push] at nb
  have g := Heap.get?_push_size (s.heap.push o) (o := { cls := .type "list", data := .seq its }) rfl
  rw [Heap.size_push] at g
  exact ⟨_, its, rfl, nb, ⟨_, g⟩, i⟩
theorem ev_upto {v u : Expr} {p₁ pos : Pos} (h : EV G S σ μ v fun x => EV G S σ μ u fun y => ∃ xs n, x = .list xs ∧ y = .int n ∧ 0 ≤ n ∧ xs.length ≤ 1000000 ∧ P (.list (xs.take n.toNat)))
    (ht : ∀ o r, letTemporaryGo v o r = pure () := by intro _ _; rfl) : EV G S σ μ (.Subscript v (.Slice none (some u) none p₁) pos) P := by
  refine ⟨fun F μa A nm fa cd s Q B I q => ?_⟩
  refine wpAny_Subscript_list_slice (h.run F μa A nm fa cd s _ B I fun vx x s₁ hx E₁ I₁ r₁ => ?_) ht
  rw [evalPart_none]
  refine wpAny_pure ?_
  rw [evalPart_some]
  refine hx.run F μa A nm fa cd s₁ _ B I₁ fun vy y s₂ hy E₂ I₂ r₂ => ?_
  obtain ⟨xs, n, rfl, rfl, h0, hb, p⟩ := hy
  obtain ⟨a, is, rfl, nb, pl, i⟩ := r₁.up E₂
  obtain ⟨t, rfl⟩ := r₂
  have hsz := ints_size i
  refine ⟨a, is, none, some n, rfl, pl.isList, by rw [sizeLine_eq]; omega, .none, .int n t, q _ (.list _) _ p ((E₁.trans E₂).trans .push2) ((I₂.push _).push _) (rep_slice I₂ ?_)⟩
  have := kmk_upto i h0
  simpa using this
theorem ev_from {v u : Expr} {p₁ pos : Pos} (h : EV G S σ μ v fun x => EV G S σ μ u fun y => ∃ xs n, x = .list xs ∧ y = .int n ∧ 0 ≤ n ∧ xs.length ≤ 1000000 ∧ P (.list (xs.drop n.toNat)))
    (ht : ∀ o r, letTemporaryGo v o r = pure () := by intro _ _; rfl) : EV G S σ μ (.Subscript v (.Slice (some u) none none p₁) pos) P := by
  refine ⟨fun F μa A nm fa cd s Q B I q => ?_⟩
  refine wpAny_Subscript_list_slice (h.run F μa A nm fa cd s _ B I fun vx x s₁ hx E₁ I₁ r₁ => ?_) ht
  rw [evalPart_some]
  refine hx.run F μa A nm fa cd s₁ _ B I₁ fun vy y s₂ hy E₂ I₂ r₂ => ?_
  rw [evalPart_none]
  refine wpAny_pure ?_
  obtain ⟨xs, n, rfl, rfl, h0, hb, p⟩ := hy
  obtain ⟨a, is, rfl, nb, pl, i⟩ := r₁.up E₂
  obtain ⟨t, rfl⟩ := r₂
  have hsz := ints_size i
  refine ⟨a, is, some n, none, rfl, pl.isList, by rw [sizeLine_eq]; omega, .int n t, .none, q _ (.list _) _ p ((E₁.trans E₂).trans .push2) ((I₂.push _).push _) (rep_slice I₂ ?_)⟩
  have := kmk_from i h0
  simpa using this
theorem ev_all {v : Expr} {p₁ pos : Pos} (h : EV G S σ μ v fun x => ∃ xs, x = .list xs ∧ xs.length ≤ 1000000 ∧ P (.list xs))
    (ht : ∀ o r, letTemporaryGo v o r = pure () := by intro _ _; rfl) : EV G S σ μ (.Subscript v (.Slice none none none p₁) pos) P := by
  refine ⟨fun F μa A nm fa cd s Q B I q => ?_⟩
  refine wpAny_Subscript_list_slice (h.run F μa A nm fa cd s _ B I fun vx x s₁ hx E₁ I₁ r₁ => ?_) ht
  rw [evalPart_none]
  refine wpAny_pure (wpAny_pure ?_)
  obtain ⟨xs, rfl, hb, p⟩ := hx
  obtain ⟨a, is, rfl, nb, pl, i⟩ := r₁
  have hsz := ints_size i
  refine ⟨a, is, none, none, rfl, pl.isList, by rw [sizeLine_eq]; omega, .none, .none, q _ (.list _) _ p (E₁.trans .push2) ((I₁.push _).push _) (rep_slice I₁ ?_)⟩
  have := kmk_all i
  simpa using this
theorem ev_rev {v : Expr} {k : Nat} {p₀ p₁ p₂ pos : Pos} (h : EV G S σ μ v fun x => ∃ xs, x = .list xs ∧ xs.length ≤ 1000000 ∧ P (.list xs.reverse))
    (ht : ∀ o r, letTemporaryGo v o r = pure () := by intro _ _; rfl) : EV G S σ μ (.Subscript v (.Slice none none (some (.UnaryOp .USub (.Constant (.int 1) k p₀) p₁)) p₂) pos) P := by
  refine ⟨fun F μa A nm fa cd s Q B I q => ?_⟩
  refine Subscript_ (h.run F μa A nm fa cd s _ B I fun vx x s₁ hx E₁ I₁ r₁ => ?_)
  obtain ⟨xs, rfl, hb, p⟩ := hx
  refine wpAny_Slice ?_
  rw [evalPart_none]
  refine wpAny_pure (wpAny_pure ?_)
  rw [evalPart_some]
  refine UnaryOp_ (wpAny_Constant_int (neg_int ?_))
  obtain ⟨a, is, rfl, nb, pl, i⟩ := r₁
  have hsz := ints_size i
  have pl' := pl.at (h' := s₁.heap.push { cls := .type "slice", data := .fields #[.none, .none, .int (-1) (s₁.toks + 1)] }) fun o e => Heap.get?_push_of_some _ e
  refine subscriptTail_ops (ops := [.ref a, .ref s₁.heap.objs.size]) pl'.isList.typeIs list_getitem_lookup
    (wpAny_getItem_list_slice pl'.isList (Heap.IsSliceOf.new ..) .none .none (.int (-1) _) (by decide) ?_ (by rw [sizeLine_eq]; omega)) (by with_unfolding_all rfl) (ht _)
  rw [krv_pick]
  show Q (.ref (s₁.heap.push _).objs.size) _
  rw [Heap.size_push]
  refine q _ (.list _) _ p (E₁.trans .push2) ((I₁.push _).push _) (rep_slice I₁ ?_)
  simpa using i.reverse

/-- e.bit_length() -/
theorem ev_bits {e : Expr} {apos pos : Pos} (h : EV G S σ μ e fun x => ∃ i, x = .int i ∧ P (.int (Builtin.Int.intBits i)))
    (hev : ∃ pl : Env → Sem Bool, ∀ env, eval (.Call (.Attribute e "bit_length" apos) [] [] pos) env = (do
      let ov ← eval e env
      standAt apos.atName
      let (f, first) ← holding [ov] (getMethod ov "bit_length" (pl env))
      callWith pos f first (backTo pos (starEach [] env)) []) := by exact ⟨_, fun _ => rfl⟩) : EV G S σ μ (.Call (.Attribute e "bit_length" apos) [] [] pos) P := by
  refine ⟨fun F μa A nm fa cd s Q B I q => ?_⟩
  obtain ⟨plc, hev⟩ := hev
  refine MethodCall_ (h.run F μa A nm fa cd s _ B I fun v x s₁ hx E₁ I₁ r₁ => ?_) (hev _)
  obtain ⟨i, rfl, p⟩ := hx
  obtain ⟨t, rfl⟩ := r₁
  exact getMethod_int_bit_length (callWith_method0 (call_int_bit_length (q _ (.int _) _ p (E₁.trans .toks) I₁ ⟨_, rfl⟩)))

/-- ranges -/
theorem ev_range1 {e : Expr} {p₁ pos : Pos} (h : EV G S σ μ e fun x => ∃ n, x = .int n ∧ P (.rng 0 n 1))
    (hl : S.sc.names.lookup ("range" : Str) = some .globalImplicit := by first | decide +kernel | (dsimp only; decide +kernel)) (hk : S.sc.kind = .function := by rfl)
    (hc : ∀ env, eval (.Call (.Name "range" p₁) [e] [] pos) env = (do callWith pos (← eval (.Name "range" p₁) env) [] (backTo pos (starEach [e] env)) (backToKw pos (keywordEach [] env))) := by intro _; rfl)
    (hs : ∀ env, starEach [e] env = [(false, eval e env)] := by intro _; rfl) : EV G S σ μ (.Call (.Name "range" p₁) [e] [] pos) P := by
  refine ⟨fun F μa A nm fa cd s Q B I q => ?_⟩
  refine Call_ (wp_boot I hk hl (by decide +kernel) (v := .type "range") (by decide +kernel) (by decide +kernel) (by decide +kernel) ?_) (hc _)
  refine PyProof.Rows.callWith_type1 (args_cons (h.run F μa A nm fa cd s _ B I fun vx x s₁ hx E₁ I₁ r₁ => args_nil ?_) (hs _)) (hs _)
  obtain ⟨n, rfl, p⟩ := hx
  obtain ⟨t, rfl⟩ := r₁
  exact call_range_1 (q _ (.rng 0 n 1) _ p (E₁.trans .push) (I₁.push _) ⟨_, _, _, _, rfl, I₁.fresh, Heap.get?_push_size _ rfl⟩)
theorem ev_range2 {e f : Expr} {p₁ pos : Pos} (h : EV G S σ μ e fun x => EV G S σ μ f fun y => ∃ a b, x = .int a ∧ y = .int b ∧ P (.rng a b 1))
    (hl : S.sc.names.lookup ("range" : Str) = some .globalImplicit := by first | decide +kernel | (dsimp only; decide +kernel)) (hk : S.sc.kind = .function := by rfl)
    (hc : ∀ env, eval (.Call (.Name "range" p₁) [e, f] [] pos) env = (do callWith pos (← eval (.Name "range" p₁) env) [] (backTo pos (starEach [e, f] env)) (backToKw pos (keywordEach [] env))) := by intro _; rfl)
    (hs : ∀ env, starEach [e, f] env = [(false, eval e env), (false, eval f env)] := by intro _; rfl) (hs2 : ∀ env, starEach [f] env = [(false, eval f env)] := by intro _; rfl) : EV G S σ μ (.Call (.Name "range" p₁) [e, f] [] pos) P := by
  refine ⟨fun F μa A nm fa cd s Q B I q => ?_⟩
  refine Call_ (wp_boot I hk hl (by decide +kernel) (v := .type "range") (by decide +kernel) (by decide +kernel) (by decide +kernel) ?_) (hc _)
  refine PyProof.Rows.callWith_type1 (args_cons (h.run F μa A nm fa cd s _ B I fun vx x s₁ hx E₁ I₁ r₁ => args_cons (hx.run F μa A nm fa cd s₁ _ B I₁ fun vy y s₂ hy E₂ I₂ r₂ => args_nil ?_) (hs2 _)) ((hs _).trans (by rw [hs2]))) ((hs _).trans (by rw [hs2])) (by rw [hs2]; rfl)
  obtain ⟨a, b, rfl, rfl, p⟩ := hy
  obtain ⟨t, rfl⟩ := r₁
  obtain ⟨u, rfl⟩ := r₂
  exact call_range_2 (q _ (.rng a b 1) _ p ((E₁.trans E₂).trans .push) (I₂.push _) ⟨_, _, _, _, rfl, I₂.fresh, Heap.get?_push_size _ rfl⟩)
theorem ev_range3 {e f g : Expr} {p₁ pos : Pos} (h : EV G S σ μ e fun x => EV G S σ μ f fun y => EV G S σ μ g fun z => ∃ a b, x = .int a ∧ y = .int b ∧ z = .int (-1) ∧ P (.rng a b (-1)))
    (hl : S.sc.names.lookup ("range" : Str) = some .globalImplicit := by first | decide +kernel | (dsimp only; decide +kernel)) (hk : S.sc.kind = .function := by rfl)
    (hc : ∀ env, eval (.Call (.Name "range" p₁) [e, f, g] [] pos) env = (do callWith pos (← eval (.Name "range" p₁) env) [] (backTo pos (starEach [e, f, g] env)) (backToKw pos (keywordEach [] env))) := by intro _; rfl)
    (hs : ∀ env, starEach [e, f, g] env = [(false, eval e env), (false, eval f env), (false, eval g env)] := by intro _; rfl) (hs2 : ∀ env, starEach [f, g] env = [(false, eval f env), (false, eval g env)] := by intro _; rfl) (hs3 : ∀ env, starEach [g] env = [(false, eval g env)] := by intro _; rfl) :
    EV G S σ μ (.Call (.Name "range" p₁) [e, f, g] [] pos) P := by
  refine ⟨fun F μa A nm fa cd s Q B I q => ?_⟩
  refine Call_ (wp_boot I hk hl (by decide +kernel) (v := .type "range") (by decide +kernel) (by decide +kernel) (by decide +kernel) ?_) (hc _)
  refine PyProof.Rows.callWith_type1 (args_cons (h.run F μa A nm fa cd s _ B I fun vx x s₁ hx E₁ I₁ r₁ => args_cons (hx.run F μa A nm fa cd s₁ _ B I₁ fun vy y s₂ hy E₂ I₂ r₂ => args_cons (hy.run F μa A nm fa cd s₂ _ B I₂ fun vz z s₃ hz E₃ I₃ r₃ => args_nil ?_) (hs3 _))
    ((hs2 _).trans (by rw [hs3]))) ((hs _).trans (by rw [hs2]))) ((hs _).trans (by rw [hs2])) (by rw [hs2]; rfl)
  obtain ⟨a, b, rfl, rfl, rfl, p⟩ := hz
  obtain ⟨t, rfl⟩ := r₁
  obtain ⟨u, rfl⟩ := r₂
  obtain ⟨w, rfl⟩ := r₃
  exact call_range_3 (by decide) (q _ (.rng a b (-1)) _ p (((E₁.trans E₂).trans E₃).trans .push) (I₃.push _) ⟨_, _, _, _, rfl, I₃.fresh, Heap.get?_push_size _ rfl⟩) (.inl (PyProof.noPylong_small (by decide)))

/-- list(x) -/
theorem ev_listof {e : Expr} {p₁ pos : Pos} (h : EV G S σ μ e fun x => ∃ xs, x = .list xs ∧ xs.length ≤ 1000000 ∧ P (.list xs))
    (hl : S.sc.names.lookup ("list" : Str) = some .globalImplicit := by first | decide +kernel | (dsimp only; decide +kernel)) (hk : S.sc.kind = .function := by rfl)
    (hc : ∀ env, eval (.Call (.Name "list" p₁) [e] [] pos) env = (do callWith pos (← eval (.Name "list" p₁) env) [] (backTo pos (starEach [e] env)) (backToKw pos (keywordEach [] env))) := by intro _; rfl)
    (hs : ∀ env, starEach [e] env = [(false, eval e env)] := by intro _; rfl) : EV G S σ μ (.Call (.Name "list" p₁) [e] [] pos) P := by
  refine ⟨fun F μa A nm fa cd s Q B I q => ?_⟩
  refine Call_ (wp_boot I hk hl (by decide +kernel) (v := .type "list") (by decide +kernel) (by decide +kernel) (by decide +kernel) ?_) (hc _)
  refine PyProof.Rows.callWith_type1 (args_cons (h.run F μa A nm fa cd s _ B I fun vx x s₁ hx E₁ I₁ r₁ => args_nil ?_) (hs _)) (hs _)
  obtain ⟨xs, rfl, hb, p⟩ := hx
  obtain ⟨a, is, rfl, nb, ⟨k, ho⟩, i⟩ := r₁
  have hsz := ints_size i
  refine call_list_seq a (.inl rfl) ho rfl rfl (fun h' c' hk' hn => ?_) (by rw [sizeLine_eq]; omega)
  exact q _ (.list xs) _ p (E₁.trans (.full hk')) (I₁.keeps hk') ⟨_, is, rfl, I₁.fresh, ⟨_, hn⟩, i⟩
theorem ev_listof2 {e : Expr} {p₁ pos : Pos} (h : EV G S σ μ e fun x => ∃ xs ys, x = .pair (.list xs) (.list ys) ∧ P (.lpair xs ys))
    (hl : S.sc.names.lookup ("list" : Str) = some .globalImplicit := by first | decide +kernel | (dsimp only; decide +kernel)) (hk : S.sc.kind = .function := by rfl)
    (hc : ∀ env, eval (.Call (.Name "list" p₁) [e] [] pos) env = (do callWith pos (← eval (.Name "list" p₁) env) [] (backTo pos (starEach [e] env)) (backToKw pos (keywordEach [] env))) := by intro _; rfl)
    (hs : ∀ env, starEach [e] env = [(false, eval e env)] := by intro _; rfl) : EV G S σ μ (.Call (.Name "list" p₁) [e] [] pos) P := by
  refine ⟨fun F μa A nm fa cd s Q B I q => ?_⟩
  refine Call_ (wp_boot I hk hl (by decide +kernel) (v := .type "list") (by decide +kernel) (by decide +kernel) (by decide +kernel) ?_) (hc _)
  refine PyProof.Rows.callWith_type1 (args_cons (h.run F μa A nm fa cd s _ B I fun vx x s₁ hx E₁ I₁ r₁ => args_nil ?_) (hs _)) (hs _)
  obtain ⟨xs, ys, rfl, p⟩ := hx
  obtain ⟨a, va, vb, rfl, nb, ⟨o, ho, hcl, n, hd⟩, ⟨b, is, rfl, n1, p1, i1⟩, ⟨c, js, rfl, n2, p2, i2⟩⟩ := r₁
  refine call_list_seq a (.inr rfl) ho hcl hd (fun h' c' hk' hn => ?_) (by show 2 ≤ sizeLine; rw [sizeLine_eq]; decide)
  exact q _ (.lpair xs ys) _ p (E₁.trans (.full hk')) (I₁.keeps hk') ⟨_, b, c, is, js, rfl, I₁.fresh, n1, n2, ⟨_, hn⟩, p1.at fun o e => hk' _ _ e, p2.at fun o e => hk' _ _ e, i1, i2⟩

/-- lists compared -/
theorem cp_eql {xs ys : List Int} {P : Bool → Prop} (p : P (decide (xs = ys))) : CP G .Eq (.list xs) (.list ys) P := by
  refine ⟨?_⟩
  rintro bad β A s vx vy Q hh hu ⟨a, is, rfl, n1, p1, i1⟩ ⟨b, js, rfl, n2, p2, i2⟩ q
  exact eq_intsK (vs := is.toList) (us := js.toList) (by simpa using p1.isList) i1 (by simpa using p2.isList) i2 (by omega) (q _ _ _ p fun _ _ e => e)
theorem cp_nel {xs ys : List Int} {P : Bool → Prop} (p : P (!decide (xs = ys))) : CP G .NotEq (.list xs) (.list ys) P := by
  refine ⟨?_⟩
  rintro bad β A s vx vy Q hh hu ⟨a, is, rfl, n1, p1, i1⟩ ⟨b, js, rfl, n2, p2, i2⟩ q
  exact ne_intsK (vs := is.toList) (us := js.toList) (by simpa using p1.isList) i1 (by simpa using p2.isList) i2 (by omega) (q _ _ _ p fun _ _ e => e)
end
end

section
open PySem PySem.W PyProof.Rows PySem.Calls
section
variable {G : TC} {S : FS} {σ : SE} {μ : MU} {K : SE → MU → Prop} {R : MV → Prop} {ss : List Stmt}

theorem ExtBut_full {h h' : Heap} (x : Heap.ExtBut h.objs.size h h') : ∀ b o, h.get? b = some o → h'.get? b = some o :=
  fun b o e => x b o (Nat.ne_of_lt (Heap.lt_size e)) e

/-- x, y = value (a call that hands back a pair) -/
theorem s1_unpack {x y : Str} {p₁ p₂ tp pos : Pos} {k : Nat} {e : Expr} (h : EV G S σ μ e fun v => ∃ a b, v = .pair a b ∧ K (upd (upd σ x a) y b) μ) (hx : offμ μ x) (hy : offμ μ y)
    (hl : S.sc.names.lookup x = some .local := by first | decide +kernel | (dsimp only; decide +kernel)) (hl' : S.sc.names.lookup y = some .local := by first | decide +kernel | (dsimp only; decide +kernel)) (hk : S.sc.kind = .function := by rfl)
    (hs : ∀ env, swapsWithSole [.Tuple [.Name x p₁, .Name y p₂] k tp] e pos.line env = pure false := by intro _; rfl)
    (hw : ∀ env, swappedStores [.Tuple [.Name x p₁, .Name y p₂] k tp] e env = pure none := by intro _; rfl) :
    S1 G S σ μ (.Assign [.Tuple [.Name x p₁, .Name y p₂] k tp] e pos) K R := by
  refine ⟨fun F μa A nm fa cd s Q B I qn qr => ?_⟩
  refine Assign_Tuple (h.run F μa A nm fa cd s _ B I fun v mv s₁ hK E₁ I₁ r => ?_) (hs _) (hw _)
  obtain ⟨a, b, rfl, hK⟩ := hK
  obtain ⟨t, va, vb, rfl, nb, tp, ra, rb⟩ := r
  refine wpAny_assign_Tuple B.handled tp rfl rfl fun h' hb => ?_
  have hk' := ExtBut_full hb
  have E₂ : Evo (S.δ F) s₁ { s₁ with heap := h' } := .full hk'
  refine assignInOrder_cons (assign_Name (wp_store (s := { s₁ with heap := h' }) (I₁.keeps hk') hl hk hx (ra.up E₂) fun s₃ E₃ X₃ I₃ => ?_))
  have rb' : Rep G s₃.heap (badOf S F μa) F.β vb b := (rb.up E₂).ext (E₃.ext.mono fun _ k => chg_bad k)
  refine assignInOrder_cons (assign_Name (wp_store I₃ hl' hk hy rb' fun s₄ E₄ X₄ I₄ => assignInOrder_nil ?_))
  exact qn _ _ _ s₄ hK (((E₁.trans E₂).toS.trans E₃).trans E₄) I₄

/-- x, y = e, f -/
theorem s1_two {x y : Str} {p₁ p₂ tp vp pos : Pos} {k k' : Nat} {e f : Expr} (h : AV G S σ μ [e, f] fun ms => ∃ a b, ms = [a, b] ∧ K (upd (upd σ y b) x a) μ) (hx : offμ μ x) (hy : offμ μ y)
    (hl : S.sc.names.lookup x = some .local := by first | decide +kernel | (dsimp only; decide +kernel)) (hl' : S.sc.names.lookup y = some .local := by first | decide +kernel | (dsimp only; decide +kernel)) (hk : S.sc.kind = .function := by rfl)
    (hs : ∀ env, swapsWithSole [.Tuple [.Name x p₁, .Name y p₂] k tp] (.Tuple [e, f] k' vp) pos.line env = pure false := by intro _; rfl)
    (hw : ∀ nm L fa cd, swappedStores [.Tuple [.Name x p₁, .Name y p₂] k tp] (.Tuple [e, f] k' vp) (envOf nm S.sc L fa cd) = pure (some [x, y]) := by intro _ _ _ _; kernel_rfl) :
    S1 G S σ μ (.Assign [.Tuple [.Name x p₁, .Name y p₂] k tp] (.Tuple [e, f] k' vp) pos) K R := by
  refine ⟨fun F μa A nm fa cd s Q B I qn qr => ?_⟩
  refine Assign_Tuple_swapped (Tuple_ (h.run F μa A nm fa cd vp s _ B I fun vs ms s₁ hK E₁ I₁ r => ?_)) (hs _) (hw ..)
  obtain ⟨a, b, rfl, hK⟩ := hK
  cases r with
  | cons ra r =>
    cases r with
    | cons rb r =>
      cases r
      rename_i va vb
      refine wpAny_newObj_type ?_ (by show 2 ≤ sizeLine; rw [sizeLine_eq]; decide)
      refine unpackItems_tuple (items := #[va, vb]) (s := { s₁ with heap := _ }) B.handled ⟨_, Heap.get?_push_size _ rfl, rfl, _, rfl⟩ fun h' hb => ?_
      have hk' : ∀ b o, s₁.heap.get? b = some o → h'.get? b = some o := fun b o q => ExtBut_full hb b o (Heap.get?_push_of_some _ q)
      have E₂ : Evo (S.δ F) s₁ { s₁ with heap := h' } := .full hk'
      refine assignInOrder_cons (bindName_ (wp_store (s := { s₁ with heap := h' }) (I₁.keeps hk') hl' hk hy (rb.up E₂) fun s₃ E₃ X₃ I₃ => ?_))
      have ra' : Rep G s₃.heap (badOf S F μa) F.β va a := (ra.up E₂).ext (E₃.ext.mono fun _ k => chg_bad k)
      refine assignInOrder_cons (bindName_ (wp_store I₃ hl hk hx ra' fun s₄ E₄ X₄ I₄ => assignInOrder_nil ?_))
      exact qn _ _ _ s₄ hK (((E₁.trans E₂).toS.trans E₃).trans E₄) I₄

/-- a fresh list -/
structure EF (G : TC) (S : FS) (σ : SE) (e : Expr) (P : List Int → Prop) : Prop where
  run : ∀ (F : FD) (A : Around) (nm : Str) (fa : Addr) (cd : Value) (s : Shared) (Q : Value → Shared → Prop),
    Bud S.n A → Inv G S F σ none none s.heap →
    (∀ a its xs s', P xs → Evo (S.δ F) s s' → Inv G S F σ none none s'.heap → s.heap.get? a = none → s'.heap.PlainList a its → IntsAre its.toList xs → Q (.ref a) s') →
    wpAny (model G.prog G.w) A (eval e (envOf nm S.sc F.L fa cd)) Q NoE s
theorem none_size (h : Heap) : h.get? h.objs.size = none := by
  cases e : h.get? h.objs.size with
  | none => rfl
  | some o => exact absurd (Heap.lt_size e) (Nat.lt_irrefl _)
theorem ef_nil {pos : Pos} {P : List Int → Prop} (p : P []) : EF G S σ (.List [] pos) P := by
  refine ⟨fun F A nm fa cd s Q B I q => ?_⟩
  refine List_ (args_nil (wp_newList I .nil (by decide) fun s' E I' pl r => ?_))
  exact q _ _ [] s' p E I' (none_size _) pl .nil
/-- [c] * e, c written -/
theorem ef_rep {c : Int} {k : Nat} {p₀ p₁ pos : Pos} {e : Expr} {P : List Int → Prop} (h : EV G S σ none e fun x => ∃ n, x = .int n ∧ 0 ≤ n ∧ n ≤ 1000000 ∧ P (List.replicate n.toNat c)) :
    EF G S σ (.BinOp (.List [.Constant (.int c) k p₀] p₁) .Mult e pos) P := by
  refine ⟨fun F A nm fa cd s Q B I q => ?_⟩
  refine wpAny_BinOp ((ev_list (es := [.Constant (.int c) k p₀]) (P := fun x => x = .list [c]) (av_cons (ev_int (av_nil ⟨[c], .cons .nil, (by show 1 ≤ 1000000; decide), rfl⟩)))).run F none A nm fa cd s _ B I fun vx x s₁ hx E₁ I₁ r₁ => ?_)
  refine h.run F none A nm fa cd s₁ _ B I₁ fun vy y s₂ hy E₂ I₂ r₂ => ?_
  obtain rfl := hx
  obtain ⟨n, rfl, h0, h1, p⟩ := hy
  obtain ⟨a, is, rfl, nb, pl, i⟩ := r₁.up E₂
  obtain ⟨u, rfl⟩ := r₂
  refine wp_rep h0 h1 pl i fun its o hi e => ?_
  subst e
  refine q _ its _ _ p ((E₁.trans E₂).trans .push) (I₂.push _) ?_ ⟨_, Heap.get?_push_size _ rfl⟩ hi
  cases e : s.heap.get? s₂.heap.objs.size with
  | none => rfl
  | some o =>
    by_cases d : dirty (S.δ F) s₂.heap.objs.size
    · obtain ⟨o', e'⟩ := dirty_alloc I₂.box d
      exact absurd (Heap.lt_size e') (Nat.lt_irrefl _)
    · exact absurd (Heap.lt_size ((E₁.trans E₂).ext _ _ e d)) (Nat.lt_irrefl _)

/-- the grown list's name is stored: from here on the list is bad for the others -/
def withBad (F : FD) (a : Addr) : FD := { F with bad₀ := fun b => F.bad₀ b ∨ b = a }
theorem badOf_with {F : FD} {a b : Addr} : badOf S (withBad F a) none b ↔ badOf S F (some a) b := by
  constructor
  · rintro (k | k | k | k)
    · rcases k with k | k
      · exact .inl k
      · exact .inr (.inr (.inr (by rw [k])))
    · exact .inr (.inl k)
    · exact .inr (.inr (.inl k))
    · cases k
  · rintro (k | k | k | k)
    · exact .inl (.inl k)
    · exact .inr (.inl k)
    · exact .inr (.inr (.inl k))
    · exact .inl (.inr (Option.some.inj k).symm)
theorem Rep.iff {h : Heap} {b b' : Addr → Prop} {β : BoxA} {v : Value} {mv : MV} (r : Rep G h b β v mv) (k : ∀ x, b' x → b x) : Rep G h b' β v mv := r.bad fun x q => .inl (k x q)
theorem Inv.with {F : FD} {s s' : Shared} {a : Addr} {its : Array Value} (I : Inv G S F σ none none s.heap) (E : Evo (S.δ F) s s') (I' : Inv G S F σ none none s'.heap) (n : s.heap.get? a = none) (p : s'.heap.PlainList a its) :
    Inv G S (withBad F a) σ none none s'.heap where
  top := I'.top
  keep := I'.keep
  alloc0 := fun b k => by
    rcases k with k | rfl
    · exact I'.alloc0 b k
    · exact PlainList_get p
  Lge := I'.Lge
  Lnd := I'.Lnd
  Lt := I'.Lt
  box := I'.box
  vars := by
    obtain ⟨m, hn, v, u⟩ := I.vars
    refine ⟨m, hn.at fun o e => E.ext _ o e I.Lnd, fun x mv e => ?_, rfl⟩
    obtain ⟨k, w, e2, r⟩ := v x mv e
    refine ⟨k, w, e2, ?_⟩
    have r1 : Rep G s.heap (badOf S F (some a)) F.β w mv := r.bad fun b q => by
      rcases q with q | q | q | q
      · exact .inl (.inl q)
      · exact .inl (.inr (.inl q))
      · exact .inl (.inr (.inr (.inl q)))
      · cases q; exact .inr n
    exact (r1.iff fun b q => badOf_with.mp q).ext (E.ext.mono fun b d => .inr (.inr (.inl d)))
theorem wp_store_mut {F : FD} {A : Around} {nm : Str} {fa : Addr} {cd : Value} {s : Shared} {x : Str} {a : Addr} {its : Array Value} {xs : List Int} {Q : Unit → Shared → Prop}
    (I : Inv G S (withBad F a) σ none none s.heap) (hl : S.sc.names.lookup x = some .local) (hk : S.sc.kind = .function) (hσ : σ x = none) (p : s.heap.PlainList a its) (i : IntsAre its.toList xs)
    (hn0 : F.h₀.get? a = none) (hT : G.hT.get? a = none) (hnb : ¬ F.bad₀ a) (hL : a ≠ F.L) (hd : ¬ dirty (S.δ F) a)
    (q : ∀ s', EvoS S (withBad F a) none s none s' → Inv G S F σ (some (x, xs)) (some a) s'.heap → Q () s') :
    wpAny (model G.prog G.w) A (storeName (envOf nm S.sc F.L fa cd) x (.ref a)) Q NoE s := by
  obtain ⟨m, hn, vs, u⟩ := I.vars
  refine wpAny_storeName_local (env := envOf nm S.sc F.L fa cd) hl hn (fun h' hn' hs => ?_) (by show (S.sc.kind == .class || (S.sc.kind == .module && F.L != mainGlobals)) = false; rw [hk]; rfl)
  have X : Ext (· = F.L) s.heap h' := fun b o e n => hs.extBut b o n e
  have XB : Ext (badOf S (withBad F a) none) s.heap h' := X.mono fun b e => .inr (.inl e)
  refine q _ ⟨⟨h', _, rfl⟩, X.mono fun b e => .inl e, fun b k => .inl k⟩ ⟨fun b o e => ?_, fun b o e n => ?_, fun b k => ?_, I.Lge, I.Lnd, I.Lt, ?_, _, hn', fun y w e => ?_, hl, a, its, rfl, if_pos rfl, ⟨hn0, hT⟩, hnb, hL, hd, p.at fun o e => X a o e hL, i⟩
  · refine X b o (I.top b o e) ?_
    rintro rfl
    have := I.Lt
    rw [show (withBad F a).L = F.L from rfl] at this
    rw [this] at e; cases e
  · exact X b o (I.keep b o e n) (Nat.ne_of_lt (Nat.lt_of_lt_of_le (Heap.lt_size e) I.Lge))
  · by_cases hb : b = F.L
    · obtain ⟨o, _, _, e, _⟩ := hn'
      exact ⟨o, hb ▸ e⟩
    · obtain ⟨o, e⟩ := I.alloc0 b (.inl k)
      exact ⟨o, X b o e hb⟩
  · intro p e
    obtain ⟨l, y, ⟨⟨t, p1⟩, ⟨items, p2, i⟩, n⟩, r⟩ := I.box p e
    exact ⟨l, y, ⟨⟨t, p1.at fun o e' => X _ o e' fun q => I.Lnd ⟨p, e, .inl q.symm⟩⟩, ⟨items, p2.at fun o e' => X _ o e' fun q => I.Lnd ⟨p, e, .inr q.symm⟩, i⟩, n⟩, r⟩
  · have hy : y ≠ x := by rintro rfl; rw [hσ] at e; cases e
    obtain ⟨k, w', e', r'⟩ := vs y w e
    exact ⟨k, w', (if_neg hy).trans e', (r'.ext XB).iff fun b q => badOf_with.mpr q⟩

theorem fresh_facts {F : FD} {μa : Option Addr} {h : Heap} {a : Addr} (I : Inv G S F σ μ μa h) (n : h.get? a = none) : F.h₀.get? a = none ∧ G.hT.get? a = none ∧ ¬ F.bad₀ a ∧ a ≠ F.L ∧ ¬ dirty (S.δ F) a := by
  have no : ∀ {P : Prop}, (∃ o, h.get? a = some o) → P := fun ⟨o, e⟩ => by rw [n] at e; cases e
  refine ⟨?_, ?_, fun k => no (I.alloc (.inl k)), fun k => no (I.alloc (.inr (.inl k))), fun k => no (I.alloc (.inr (.inr (.inl k))))⟩
  · cases e : F.h₀.get? a with
    | none => rfl
    | some o =>
      by_cases d : dirty (S.δ F) a
      · exact no (I.alloc (.inr (.inr (.inl d))))
      · exact no ⟨o, I.keep a o e d⟩
  · cases e : G.hT.get? a with
    | none => rfl
    | some o => exact no ⟨o, I.top a o e⟩
theorem EvoS.unwith {F : FD} {s s₁ s' : Shared} {a : Addr} (n : s.heap.get? a = none) (E : Evo (S.δ F) s s₁) (E' : EvoS S (withBad F a) none s₁ none s') : EvoS S F none s (some a) s' where
  eq := by obtain ⟨h, t, rfl⟩ := E.eq; obtain ⟨h', t', rfl⟩ := E'.eq; exact ⟨h', t', rfl⟩
  ext := fun b o e nb => E'.ext b o (E.ext b o e fun d => nb (.inr (.inl d))) fun k => nb (chg_none (F := F) k)
  nb := fun b k => by
    rcases k with k | k | k
    · exact .inl (.inl k)
    · exact .inl (.inr (.inl k))
    · cases k; exact .inr n

/-- x = a fresh list, that will be grown -/
theorem s1_fresh {x : Str} {p₁ pos : Pos} {e : Expr} (hσ : σ x = none) (h : EF G S σ e fun xs => K σ (some (x, xs)))
    (hl : S.sc.names.lookup x = some .local := by first | decide +kernel | (dsimp only; decide +kernel)) (hk : S.sc.kind = .function := by rfl)
    (hs : ∀ env, swapsWith e (some (.Name x p₁)) pos.line env = pure false := by intro _; rfl) : S1 G S σ none (.Assign [.Name x p₁] e pos) K R := by
  refine ⟨fun F μa A nm fa cd s Q B I qn qr => ?_⟩
  obtain rfl : μa = none := by obtain ⟨_, _, _, u⟩ := I.vars; exact u
  refine wpAny_Assign_Name (h.run F A nm fa cd s _ B I fun a its xs s₁ hK E₁ I₁ n pl i => ?_) (hs _)
  obtain ⟨f1, f2, f3, f4, f5⟩ := fresh_facts I n
  exact wp_store_mut (I.with E₁ I₁ n pl) hl hk hσ pl i f1 f2 f3 f4 f5 fun s' E' I' => qn _ _ _ s' hK (E'.unwith n E₁) I'

/-- x, y = a fresh list, that will be grown, and a value -/
theorem s1_fresh2 {x y : Str} {p₁ p₂ tp vp pos : Pos} {k k' : Nat} {e f : Expr} (hσ : σ x = none) (hxy : x ≠ y)
    (h : EF G S σ e fun xs => EV G S σ none f fun b => K (upd σ y b) (some (x, xs)))
    (hl : S.sc.names.lookup x = some .local := by first | decide +kernel | (dsimp only; decide +kernel)) (hl' : S.sc.names.lookup y = some .local := by first | decide +kernel | (dsimp only; decide +kernel)) (hk : S.sc.kind = .function := by rfl)
    (hs : ∀ env, swapsWithSole [.Tuple [.Name x p₁, .Name y p₂] k tp] (.Tuple [e, f] k' vp) pos.line env = pure false := by intro _; rfl)
    (hw : ∀ nm L fa cd, swappedStores [.Tuple [.Name x p₁, .Name y p₂] k tp] (.Tuple [e, f] k' vp) (envOf nm S.sc L fa cd) = pure (some [x, y]) := by intro _ _ _ _; kernel_rfl)
    (hst : ∀ env, starEach [e, f] env = [(false, eval e env), (false, eval f env)] := by intro _; rfl) (hst2 : ∀ env, starEach [f] env = [(false, eval f env)] := by intro _; rfl) :
    S1 G S σ none (.Assign [.Tuple [.Name x p₁, .Name y p₂] k tp] (.Tuple [e, f] k' vp) pos) K R := by
  refine ⟨fun F μa A nm fa cd s Q B I qn qr => ?_⟩
  obtain rfl : μa = none := by obtain ⟨_, _, _, u⟩ := I.vars; exact u
  refine Assign_Tuple_swapped (Tuple_ (args_cons (h.run F A nm fa cd s _ B I fun a its xs s₁ hK E₁ I₁ n pl i => ?_) ((hst _).trans (by rw [hst2])))) (hs _) (hw ..)
  obtain ⟨f1, f2, f3, f4, f5⟩ := fresh_facts I n
  refine args_cons (hK.run (withBad F a) none A nm fa cd s₁ _ B (I.with E₁ I₁ n pl) fun vb b s₂ hK E₂ I₂ rb => args_nil ?_) (hst2 _)
  have pl₂ : s₂.heap.PlainList a its := pl.at fun o e => E₂.ext _ o e f5
  refine wpAny_newObj_type ?_ (by show 2 ≤ sizeLine; rw [sizeLine_eq]; decide)
  refine unpackItems_tuple (items := #[.ref a, vb]) (s := { s₂ with heap := _ }) B.handled ⟨_, Heap.get?_push_size _ rfl, rfl, _, rfl⟩ fun h' hb => ?_
  have hk' : ∀ b o, s₂.heap.get? b = some o → h'.get? b = some o := fun b o q => ExtBut_full hb b o (Heap.get?_push_of_some _ q)
  have E₃ : Evo (S.δ F) s₂ { s₂ with heap := h' } := .full hk'
  refine assignInOrder_cons (bindName_ (wp_store (F := withBad F a) (s := { s₂ with heap := h' }) (I₂.keeps hk') hl' hk offμ_none (rb.ext fun b o e _ => hk' b o e) fun s₄ E₄ X₄ I₄ => ?_))
  have pl₄ : s₄.heap.PlainList a its := (pl₂.at fun o e => hk' _ o e).at fun o e => X₄ _ o e f4
  refine assignInOrder_cons (bindName_ (wp_store_mut I₄ hl hk (by unfold upd; rw [if_neg hxy]; exact hσ) pl₄ i f1 f2 f3 f4 f5 fun s₅ E₅ I₅ => assignInOrder_nil ?_))
  exact qn _ _ _ s₅ hK (EvoS.unwith n E₁ (((Evo.toS (S := S) (F := withBad F a) E₂).trans (Evo.toS (F := withBad F a) E₃)).trans (E₄.trans E₅))) I₅

/-- x, y, z = a fresh list, that will be grown, and two values -/
theorem s1_fresh3 {x y z : Str} {p₁ p₂ p₃ tp vp pos : Pos} {k k' : Nat} {e f g : Expr} (hσ : σ x = none) (hxy : x ≠ y) (hxz : x ≠ z)
    (h : EF G S σ e fun xs => EV G S σ none f fun b => EV G S σ none g fun c => K (upd (upd σ z c) y b) (some (x, xs)))
    (hl : S.sc.names.lookup x = some .local := by first | decide +kernel | (dsimp only; decide +kernel)) (hl' : S.sc.names.lookup y = some .local := by first | decide +kernel | (dsimp only; decide +kernel)) (hl'' : S.sc.names.lookup z = some .local := by first | decide +kernel | (dsimp only; decide +kernel)) (hk : S.sc.kind = .function := by rfl)
    (hs : ∀ env, swapsWithSole [.Tuple [.Name x p₁, .Name y p₂, .Name z p₃] k tp] (.Tuple [e, f, g] k' vp) pos.line env = pure false := by intro _; rfl)
    (hw : ∀ nm L fa cd, swappedStores [.Tuple [.Name x p₁, .Name y p₂, .Name z p₃] k tp] (.Tuple [e, f, g] k' vp) (envOf nm S.sc L fa cd) = pure (some [x, y, z]) := by intro _ _ _ _; kernel_rfl)
    (hst : ∀ env, starEach [e, f, g] env = [(false, eval e env), (false, eval f env), (false, eval g env)] := by intro _; rfl) (hst2 : ∀ env, starEach [f, g] env = [(false, eval f env), (false, eval g env)] := by intro _; rfl) (hst3 : ∀ env, starEach [g] env = [(false, eval g env)] := by intro _; rfl) :
    S1 G S σ none (.Assign [.Tuple [.Name x p₁, .Name y p₂, .Name z p₃] k tp] (.Tuple [e, f, g] k' vp) pos) K R := by
  refine ⟨fun F μa A nm fa cd s Q B I qn qr => ?_⟩
  obtain rfl : μa = none := by obtain ⟨_, _, _, u⟩ := I.vars; exact u
  refine Assign_Tuple_swapped (Tuple_ (args_cons (h.run F A nm fa cd s _ B I fun a its xs s₁ hK E₁ I₁ n pl i => ?_) ((hst _).trans (by rw [hst2])))) (hs _) (hw ..)
  obtain ⟨f1, f2, f3, f4, f5⟩ := fresh_facts I n
  refine args_cons (hK.run (withBad F a) none A nm fa cd s₁ _ B (I.with E₁ I₁ n pl) fun vb b s₂ hK E₂ I₂ rb => ?_) ((hst2 _).trans (by rw [hst3]))
  refine args_cons (hK.run (withBad F a) none A nm fa cd s₂ _ B I₂ fun vc c s₃ hK E₃ I₃ rc => args_nil ?_) (hst3 _)
  have pl₃ : s₃.heap.PlainList a its := (pl.at fun o e => E₂.ext _ o e f5).at fun o e => E₃.ext _ o e f5
  have rb := rb.up E₃
  refine wpAny_newObj_type ?_ (by show 3 ≤ sizeLine; rw [sizeLine_eq]; decide)
  refine unpackItems_tuple (items := #[.ref a, vb, vc]) (s := { s₃ with heap := _ }) B.handled ⟨_, Heap.get?_push_size _ rfl, rfl, _, rfl⟩ fun h' hb => ?_
  have hk' : ∀ b o, s₃.heap.get? b = some o → h'.get? b = some o := fun b o q => ExtBut_full hb b o (Heap.get?_push_of_some _ q)
  have E₄ : Evo (S.δ F) s₃ { s₃ with heap := h' } := .full hk'
  refine assignInOrder_cons (bindName_ (wp_store (F := withBad F a) (s := { s₃ with heap := h' }) (I₃.keeps hk') hl'' hk offμ_none (rc.ext fun b o e _ => hk' b o e) fun s₅ E₅ X₅ I₅ => ?_))
  have rb₅ : Rep G s₅.heap (badOf S (withBad F a) none) F.β vb b := (rb.ext fun b o e _ => hk' b o e).ext (E₅.ext.mono fun _ k => chg_bad k)
  refine assignInOrder_cons (bindName_ (wp_store (F := withBad F a) I₅ hl' hk offμ_none rb₅ fun s₆ E₆ X₆ I₆ => ?_))
  have pl₆ : s₆.heap.PlainList a its := ((pl₃.at fun o e => hk' _ o e).at fun o e => X₅ _ o e f4).at fun o e => X₆ _ o e f4
  refine assignInOrder_cons (bindName_ (wp_store_mut I₆ hl hk (by unfold upd; rw [if_neg hxy, if_neg hxz]; exact hσ) pl₆ i f1 f2 f3 f4 f5 fun s₇ E₇ I₇ => assignInOrder_nil ?_))
  exact qn _ _ _ s₇ hK (EvoS.unwith n E₁ ((((Evo.toS (S := S) (F := withBad F a) E₂).trans (Evo.toS (F := withBad F a) E₃)).trans (Evo.toS (F := withBad F a) E₄)).trans (E₅.trans (E₆.trans E₇)))) I₇
end
end

section
open PySem PySem.W PyProof.Rows PySem.Calls
theorem noE_imp {P : Value → Shared → Prop} : ∀ e s, NoE e s → P e s := fun _ _ h => h.elim

section
variable {G : TC} {S : FS} {σ : SE} {μ : MU} {K : SE → MU → Prop} {R : MV → Prop} {ss : List Stmt}

/-- a while, by what holds of its n-th rest -/
theorem s1_while {test : Expr} {body : List Stmt} {pos : Pos} (J : Nat → SE → MU → Prop) {n₀ : Nat} (h0 : J n₀ σ μ)
    (turn : ∀ n σ' μ', J n σ' μ' → TR G S σ' μ' test fun b => if b = true then SX G S σ' μ' body (fun σ'' μ'' => ∃ n', n' < n ∧ J n' σ'' μ'') R else K σ' μ') :
    S1 G S σ μ (.While test body [] pos) K R := by
  refine ⟨fun F μa A nm fa cd s Q B I qn qr => ?_⟩
  refine wpAny_While (codeAny_whileLoop (fun n s' => ∃ σ' μ' μa', J n σ' μ' ∧ EvoS S F μa s μa' s' ∧ Inv G S F σ' μ' μa' s'.heap) ?_ n₀ ⟨σ, μ, μa, h0, .refl .., I⟩)
  rintro n s' ⟨σ', μ', μa', hJ, E, I'⟩
  refine wpAny_mono ((turn n σ' μ' hJ).run F μa' A nm fa cd s' (fun b s₂ => if b = true then wpAny (model G.prog G.w) A (execs body (envOf nm S.sc F.L fa cd)) (fun f s₃ => match f with
      | .next | .cont => ∃ m, m < n ∧ ∃ σ' μ' μa', J m σ' μ' ∧ EvoS S F μa s μa' s₃ ∧ Inv G S F σ' μ' μa' s₃.heap
      | .brk => Q .next s₃
      | .ret v => Q (.ret v) s₃) NoE s₂ else Q .next s₂) B I' fun b s₂ hb E₂ I₂ => ?_) (fun b s₂ h₂ => ?_) noE_imp
  · have E₃ := E.trans E₂.toS
    cases b with
    | false => exact qn σ' μ' μa' s₂ hb E₃ I₂
    | true =>
      refine hb.run F μa' A nm fa cd s₂ _ B I₂ (fun σ'' μ'' μa'' s₃ hk E₄ I₃ => ?_) fun v mv σ'' μ'' μa'' s₃ hr E₄ I₃ r => ?_
      · obtain ⟨n', hn, hJ'⟩ := hk
        exact ⟨n', hn, σ'', μ'', μa'', hJ', E₃.trans E₄, I₃⟩
      · exact qr v mv σ'' μ'' μa'' s₃ hr (E₃.trans E₄) I₃ r
  · cases b with
    | false => exact wpAny_execs_nil h₂
    | true => exact wpAny_mono h₂ (fun f s₃ h₃ => by cases f <;> exact h₃) noE_imp

/-- a further bad address -/
theorem Inv.withB {F : FD} {μa : Option Addr} {s s' : Shared} {a : Addr} (I : Inv G S F σ μ μa s.heap) (E : Evo (S.δ F) s s') (I' : Inv G S F σ μ μa s'.heap) (n : s.heap.get? a = none) (p : ∃ o, s'.heap.get? a = some o) :
    Inv G S (withBad F a) σ μ μa s'.heap where
  top := I'.top
  keep := I'.keep
  alloc0 := fun b k => by
    rcases k with k | rfl
    · exact I'.alloc0 b k
    · exact p
  Lge := I'.Lge
  Lnd := I'.Lnd
  Lt := I'.Lt
  box := I'.box
  vars := by
    obtain ⟨m, hn, v, u⟩ := I.vars
    refine ⟨m, hn.at fun o e => E.ext _ o e I.Lnd, fun x mv e => ?_, ?_⟩
    · obtain ⟨k, w, e2, r⟩ := v x mv e
      refine ⟨k, w, e2, ?_⟩
      have r1 : Rep G s.heap (badOf S (withBad F a) μa) F.β w mv := r.bad fun b q => by
        rcases q with (q | q) | q
        · exact .inl (.inl q)
        · exact .inr (q ▸ n)
        · exact .inl (.inr q)
      exact r1.ext (E.ext.mono fun b d => .inr (.inr (.inl d)))
    · cases μ with
      | none => exact u
      | some y =>
        obtain ⟨z, xs⟩ := y
        obtain ⟨k, c, items, e1, e2, g1, g0, g2, g3, q, i⟩ := u
        refine ⟨k, c, items, e1, e2, g1, ?_, g2, g3, q.at fun o e => E.ext _ o e g3, i⟩
        rintro (h | rfl)
        · exact g0 h
        · obtain ⟨o, e⟩ := PlainList_get q
          rw [n] at e; cases e
theorem Inv.unB {F : FD} {μa : Option Addr} {h : Heap} {a : Addr} (I : Inv G S (withBad F a) σ μ μa h) : Inv G S F σ μ μa h where
  top := I.top
  keep := I.keep
  alloc0 := fun b k => I.alloc0 b (.inl k)
  Lge := I.Lge
  Lnd := I.Lnd
  Lt := I.Lt
  box := I.box
  vars := by
    obtain ⟨m, hn, v, u⟩ := I.vars
    refine ⟨m, hn, fun x mv e => ?_, ?_⟩
    · obtain ⟨k, w, e2, r⟩ := v x mv e
      refine ⟨k, w, e2, r.iff fun b q => ?_⟩
      rcases q with q | q
      · exact .inl (.inl q)
      · exact .inr q
    · cases μ with
      | none => exact u
      | some y =>
        obtain ⟨z, xs⟩ := y
        obtain ⟨k, c, items, e1, e2, g1, g0, r⟩ := u
        exact ⟨k, c, items, e1, e2, g1, fun q => g0 (.inl q), r⟩
/-- the iterator turns -/
theorem Inv.turn {F : FD} {μa : Option Addr} {h h' : Heap} {a : Addr} (I : Inv G S (withBad F a) σ μ μa h) (X : ∀ b o, b ≠ a → h.get? b = some o → h'.get? b = some o) (hT : G.hT.get? a = none) (h₀ : F.h₀.get? a = none) (hL : F.L ≠ a) (hd : ¬ dirty (S.δ F) a) (al : ∃ o, h'.get? a = some o) :
    Inv G S (withBad F a) σ μ μa h' := by
  obtain ⟨m, hn, vs, u⟩ := I.vars
  refine ⟨fun b o e => ?_, fun b o e n => ?_, fun b k => ?_, I.Lge, I.Lnd, I.Lt, ?_, m, hn.at fun o e => X _ o hL e, fun y w e => ?_, ?_⟩
  · exact X b o (by rintro rfl; rw [hT] at e; cases e) (I.top b o e)
  · exact X b o (by rintro rfl; rw [show (withBad F b).h₀ = F.h₀ from rfl, h₀] at e; cases e) (I.keep b o e n)
  · by_cases hb : b = a
    · exact hb ▸ al
    · obtain ⟨o, e⟩ := I.alloc0 b k
      exact ⟨o, X b o hb e⟩
  · intro p e
    obtain ⟨l, y, ⟨⟨t, p1⟩, ⟨its, p2, i⟩, n⟩, r⟩ := I.box p e
    exact ⟨l, y, ⟨⟨t, p1.at fun o q => X _ o (fun z => hd ⟨p, e, .inl z.symm⟩) q⟩, ⟨its, p2.at fun o q => X _ o (fun z => hd ⟨p, e, .inr z.symm⟩) q, i⟩, n⟩, r⟩
  · obtain ⟨k, w', e', r⟩ := vs y w e
    exact ⟨k, w', e', r.ext fun b o e n => X b o (fun z => n (.inl (.inr z))) e⟩
  · cases μ with
    | none => exact u
    | some z =>
      obtain ⟨y, ys⟩ := z
      obtain ⟨k, c, items, rfl, e2, g1, g0, g2, g3, p, i⟩ := u
      exact ⟨k, c, items, rfl, e2, g1, g0, g2, g3, p.at fun o e => X c o (fun z => g0 (.inr z)) e, i⟩

theorem EvoS.un {F : FD} {s s' : Shared} {μa μa' : Option Addr} {a : Addr} (x : EvoS S (withBad F a) μa s μa' s') : EvoS S F μa s μa' s' := ⟨x.eq, x.ext, x.nb⟩
/-- the ints that a for runs through -/
structure IT (G : TC) (S : FS) (σ : SE) (μ : MU) (it : Expr) (P : List Int → Prop) : Prop where
  run : ∀ (F : FD) (μa : Option Addr) (A : Around) (nm : Str) (fa : Addr) (cd : Value) (s : Shared) (Q : Value → Shared → Prop),
    Bud S.n A → Inv G S F σ μ μa s.heap →
    (∀ xs I fp Pw St s₂, P xs → Evo (S.δ F) s s₂ → Inv G S F σ μ μa s₂.heap → Walks G.prog G.w A I fp [I] xs.length Pw St → St 0 s₂.heap → (∀ b ∈ fp, ¬ chgOf S F μa b ∧ ∃ o, s₂.heap.get? b = some o) → s.heap.get? I = none →
      (∀ i h, i ≤ xs.length → St i h → ∃ o, h.get? I = some o) →
      (∀ i v, i < xs.length → Pw i v → ∃ t, v = .int (xs.getD i 0) t) → Q (.ref I) s₂) →
    wpAny (model G.prog G.w) A (eval it (envOf nm S.sc F.L fa cd)) (fun x s₁ => wpAny (model G.prog G.w) A (pyIter x) Q NoE s₁) NoE s

theorem s1_for {x : Str} {p₁ pos : Pos} {it : Expr} {body : List Stmt} (h : IT G S σ μ it fun xs => ∃ J : Nat → SE → MU → Prop, J 0 σ μ ∧
      (∀ i σ' μ', i < xs.length → J i σ' μ' → offμ μ' x ∧ SX G S (upd σ' x (.int (xs.getD i 0))) μ' body (J (i + 1)) R) ∧ ∀ σ' μ', J xs.length σ' μ' → K σ' μ')
    (hl : S.sc.names.lookup x = some .local := by first | decide +kernel | (dsimp only; decide +kernel)) (hk : S.sc.kind = .function := by rfl)
    (hs : ∀ env y, foldedSetIterable it env y = pure y := by intro _ _; rfl) (ht : ∀ it v, letOwnedTupleGo (.Name x p₁) it v = pure () := by intro _ _; rfl) :
    S1 G S σ μ (.For (.Name x p₁) it body [] pos) K R := by
  refine ⟨fun F μa A nm fa cd s Q B I qn qr => ?_⟩
  refine wpAny_For (h.run F μa A nm fa cd s _ B I fun xs It fp Pw St s₂ hx E₂ I₂ W st hfp hIn hal hv => ?_) (hs _)
  obtain ⟨J, h0, turn, done⟩ := hx
  obtain ⟨f1, f2, f3, f4, f5⟩ := fresh_facts I hIn
  have I₂' := I.withB E₂ I₂ hIn (hal 0 _ (Nat.zero_le _) st)
  refine codeAny_forLoop (fun k s' => ∃ i σ' μ' μa', k = xs.length + 1 - i ∧ i ≤ xs.length ∧ J i σ' μ' ∧ EvoS S F μa s μa' s' ∧ (∀ b ∈ fp, ¬ chgOf S F μa' b ∧ ∃ o, s'.heap.get? b = some o) ∧ Inv G S (withBad F It) σ' μ' μa' s'.heap ∧ St i s'.heap) ?_ (xs.length + 1)
    ⟨0, σ, μ, μa, rfl, Nat.zero_le _, h0, E₂.toS, hfp, I₂', st⟩ (ht _)
  rintro k s' ⟨i, σ', μ', μa', rfl, hi, hJ, E, hoff, I', st'⟩
  have itIn : It ∈ fp := W.sub _ (by simp)
  by_cases hlt : i < xs.length
  · refine W.item i s' _ _ hlt st' fun v h₁ tk₁ hP st₁ hk₁ => ?_
    obtain ⟨t, rfl⟩ := hv i v hlt hP
    have X₁ : ∀ b o, b ≠ It → s'.heap.get? b = some o → h₁.get? b = some o := fun b o n e => hk₁ b o (by simpa using n) e
    have al₁ := hal (i + 1) h₁ hlt st₁
    have I₁ : Inv G S (withBad F It) σ' μ' μa' h₁ := I'.turn X₁ f2 f1 (fun z => f4 z.symm) f5 al₁
    obtain ⟨hμ, hbody⟩ := turn i σ' μ' hlt hJ
    have evo' : ∀ {μb : Option Addr} {t : Shared}, EvoS S F μa' { s' with heap := h₁, toks := tk₁ } μb t → EvoS S F μa s μb t := fun {μb t} Eb => by
      refine ⟨?_, fun b o e n => ?_, fun b k => ?_⟩
      · obtain ⟨h, t, rfl⟩ := E.eq; obtain ⟨h', t', rfl⟩ := Eb.eq; exact ⟨h', t', rfl⟩
      · have hb : b ≠ It := by rintro rfl; rw [hIn] at e; cases e
        refine Eb.ext b o (X₁ b o hb (E.ext b o e n)) fun q => ?_
        rcases E.nb b q with q | q
        · exact n q
        · rw [q] at e; cases e
      · rcases Eb.nb b k with q | q
        · exact E.nb b q
        · by_cases hc : chgOf S F μa b
          · exact .inl hc
          · cases e : s.heap.get? b with
            | none => exact .inr rfl
            | some o =>
              have hb : b ≠ It := by rintro rfl; rw [hIn] at e; cases e
              have := X₁ b o hb (E.ext b o e hc)
              have q' : h₁.get? b = none := q
              rw [q'] at this; cases this
    refine wpAny_mono (wpAny_assign_Name (wp_store (F := withBad F It) (s := { s' with heap := h₁, toks := tk₁ }) (mv := .int (xs.getD i 0)) I₁ hl hk hμ ⟨_, rfl⟩ fun s₃ E₃ X₃ I₃ =>
      (hbody.run (withBad F It) μa' A nm fa cd s₃ (fun f s₄ => match f with
        | .next | .cont => ∃ m, m < xs.length + 1 - i ∧ ∃ i' σ' μ' μa', m = xs.length + 1 - i' ∧ i' ≤ xs.length ∧ J i' σ' μ' ∧ EvoS S F μa s μa' s₄ ∧ (∀ b ∈ fp, ¬ chgOf S F μa' b ∧ ∃ o, s₄.heap.get? b = some o) ∧ Inv G S (withBad F It) σ' μ' μa' s₄.heap ∧ St i' s₄.heap
        | .brk => Q .next s₄
        | .ret v => Q (.ret v) s₄) B I₃ ?_ ?_))) (fun _ s₃ h₃ => wpAny_mono h₃ (fun f s₄ h₄ => by cases f <;> exact h₄) noE_imp) noE_imp
    · intro σ'' μ'' μa'' s₄ hJ' E₄ I₄
      have Eb : EvoS S F μa' { s' with heap := h₁, toks := tk₁ } μa'' s₄ := EvoS.trans E₃.un E₄.un
      have EF := evo' Eb
      have al : ∀ b ∈ fp, ∃ o, h₁.get? b = some o := fun b hb => by
        by_cases hbi : b = It
        · exact hbi ▸ al₁
        · obtain ⟨_, o, e⟩ := hoff b hb
          exact ⟨o, X₁ b o hbi e⟩
      have hst4 : St (i + 1) s₄.heap := W.frame _ _ _ st₁ fun b hb o e => Eb.ext b o e (hoff b hb).1
      refine ⟨xs.length + 1 - (i + 1), by omega, i + 1, σ'', μ'', μa'', rfl, hlt, hJ', EF, fun b hb => ⟨fun k => ?_, ?_⟩, I₄, hst4⟩
      · rcases Eb.nb b k with q | q
        · exact (hoff b hb).1 q
        · obtain ⟨o', e'⟩ := al b hb
          have q' : h₁.get? b = none := q
          rw [q'] at e'; cases e'
      · obtain ⟨o', e'⟩ := al b hb
        exact ⟨o', Eb.ext b o' e' (hoff b hb).1⟩
    · intro v mv σ'' μ'' μa'' s₄ hr E₄ I₄ r
      exact qr v mv σ'' μ'' μa'' s₄ hr (evo' (EvoS.trans E₃.un E₄.un)) I₄.unB (r.iff fun b q => .inl q)
  · obtain rfl : i = xs.length := by omega
    refine W.done s' _ _ st' fun h₁ tk₁ hk₁ => wpAny_execs_nil ?_
    have X₁ : ∀ b o, b ≠ It → s'.heap.get? b = some o → h₁.get? b = some o := fun b o n e => hk₁ b o (by simpa using n) e
    have I'' := I'.unB
    refine qn σ' μ' μa' _ (done σ' μ' hJ) ⟨?_, fun b o e n => ?_, E.nb⟩ ?_
    · obtain ⟨h, t, rfl⟩ := E.eq; exact ⟨_, _, rfl⟩
    · exact X₁ b o (by rintro rfl; rw [hIn] at e; cases e) (E.ext b o e n)
    · obtain ⟨m, hn, vs, u⟩ := I'.vars
      refine ⟨fun b o e => ?_, fun b o e n => ?_, fun b k => ?_, I'.Lge, I'.Lnd, I'.Lt, ?_, m, hn.at fun o e => X₁ _ o (fun z => f4 z.symm) e, fun y w e => ?_, ?_⟩
      · exact X₁ b o (by rintro rfl; rw [f2] at e; cases e) (I'.top b o e)
      · exact X₁ b o (by rintro rfl; rw [f1] at e; cases e) (I'.keep b o e n)
      · obtain ⟨o, e⟩ := I''.alloc0 b k
        exact ⟨o, X₁ b o (by rintro rfl; exact f3 k) e⟩
      · intro p e
        obtain ⟨l, y, ⟨⟨t, p1⟩, ⟨its, p2, i⟩, n⟩, r⟩ := I'.box p e
        exact ⟨l, y, ⟨⟨t, p1.at fun o q => X₁ _ o (fun z => f5 ⟨p, e, .inl z.symm⟩) q⟩, ⟨its, p2.at fun o q => X₁ _ o (fun z => f5 ⟨p, e, .inr z.symm⟩) q, i⟩, n⟩, r⟩
      · obtain ⟨k, w', e', r⟩ := vs y w e
        refine ⟨k, w', e', (r.ext fun b o e n => X₁ b o (fun z => n (.inl (.inr z))) e).iff fun b q => ?_⟩
        rcases q with q | q
        · exact .inl (.inl q)
        · exact .inr q
      · cases μ' with
        | none => exact u
        | some z =>
          obtain ⟨y, ys⟩ := z
          obtain ⟨k, c, items, rfl, e2, g1, g0, g2, g3, p, i⟩ := u
          exact ⟨k, c, items, rfl, e2, g1, fun q => g0 (.inl q), g2, g3, p.at fun o e => X₁ c o (fun z => g0 (.inr z)) e, i⟩
end
end

section
open PySem PySem.W PyProof.Rows PySem.Calls
section
variable {G : TC} {S : FS} {σ : SE} {μ : MU} {P : List Int → Prop}

theorem off_of {F : FD} {μa : Option Addr} {h : Heap} {a : Addr} (nb : ¬ badOf S F μa a) : ¬ chgOf S F μa a := fun k => nb (chg_bad k)
theorem none_before {F : FD} {μa : Option Addr} {s s' : Shared} (I : Inv G S F σ μ μa s'.heap) (E : Evo (S.δ F) s s') : s.heap.get? s'.heap.objs.size = none := by
  cases e : s.heap.get? s'.heap.objs.size with
  | none => rfl
  | some o =>
    by_cases d : dirty (S.δ F) s'.heap.objs.size
    · obtain ⟨o', e'⟩ := dirty_alloc I.box d
      exact absurd (Heap.lt_size e') (Nat.lt_irrefl _)
    · exact absurd (Heap.lt_size (E.ext _ _ e d)) (Nat.lt_irrefl _)

theorem ints_at {is : Array Value} {xs : List Int} (i : IntsAre is.toList xs) {k : Nat} {v : Value} (hk : k < xs.length) (e : is[k]? = some v) : ∃ t, v = .int (xs.getD k 0) t := by
  obtain ⟨t, h⟩ := i.get k xs[k] (by simp [hk])
  have e' : is.toList[k]? = some v := by simpa using e
  rw [h] at e'
  refine ⟨t, ?_⟩
  have := (Option.some.inj e').symm
  simpa [List.getD, hk] using this

theorem it_list {it : Expr} (h : EV G S σ μ it fun x => ∃ xs, x = .list xs ∧ P xs) : IT G S σ μ it P := by
  refine ⟨fun F μa A nm fa cd s Q B I q => ?_⟩
  refine h.run F μa A nm fa cd s _ B I fun v x s₁ hx E₁ I₁ r => ?_
  obtain ⟨xs, rfl, p⟩ := hx
  obtain ⟨a, is, rfl, nb, pl, i⟩ := r
  have hsz := ints_size i
  have hne : a ≠ s₁.heap.objs.size := by obtain ⟨o, e⟩ := PlainList_get pl; exact Nat.ne_of_lt (Heap.lt_size e)
  refine wpAny_pyIter_list pl.isList ?_
  have W := Walks.list (prog := G.prog) (w := G.w) B.handled s₁.heap.objs.size a hne is
  rw [hsz] at W
  have gi := Heap.get?_push_size s₁.heap (o := { cls := .type "list_iterator", data := .fields #[.ref a, .int 0 0] }) rfl
  have pl' := pl.at (h' := s₁.heap.push { cls := .type "list_iterator", data := .fields #[.ref a, .int 0 0] }) fun o e => Heap.get?_push_of_some _ e
  refine q xs _ _ _ _ _ p (E₁.trans .push) (I₁.push _) W ⟨⟨_, gi, rfl, rfl⟩, pl'.isList⟩ (fun b hb => ?_) (none_before I₁ E₁) (fun i h _ st => ?_) fun j v hj e => ints_at i hj e
  · rcases List.mem_cons.mp hb with rfl | hb
    · exact ⟨off_of (h := s₁.heap) I₁.fresh, _, gi⟩
    · rw [List.mem_singleton.mp hb]
      obtain ⟨o, e⟩ := PlainList_get pl'
      exact ⟨off_of (h := s₁.heap) nb, o, e⟩
  · obtain ⟨o, e, _⟩ := st.1; exact ⟨o, e⟩

theorem it_reversed {e : Expr} {p₁ pos : Pos} (h : EV G S σ μ e fun x => ∃ xs, x = .list xs ∧ P xs.reverse)
    (hl : S.sc.names.lookup ("reversed" : Str) = some .globalImplicit := by first | decide +kernel | (dsimp only; decide +kernel)) (hk : S.sc.kind = .function := by rfl)
    (hc : ∀ env, eval (.Call (.Name "reversed" p₁) [e] [] pos) env = (do callWith pos (← eval (.Name "reversed" p₁) env) [] (backTo pos (starEach [e] env)) (backToKw pos (keywordEach [] env))) := by intro _; rfl)
    (hs : ∀ env, starEach [e] env = [(false, eval e env)] := by intro _; rfl) : IT G S σ μ (.Call (.Name "reversed" p₁) [e] [] pos) P := by
  refine ⟨fun F μa A nm fa cd s Q B I q => ?_⟩
  refine Call_ (wp_boot I hk hl (by decide +kernel) (v := .type "reversed") (by decide +kernel) (by decide +kernel) (by decide +kernel) ?_) (hc _)
  refine PyProof.Rows.callWith_type1 (args_cons (h.run F μa A nm fa cd s _ B I fun vx x s₁ hx E₁ I₁ r₁ => args_nil ?_) (hs _)) (hs _)
  obtain ⟨xs, rfl, p⟩ := hx
  obtain ⟨a, is, rfl, nb, pl, i⟩ := r₁
  have hsz := ints_size i
  have hne : a ≠ s₁.heap.objs.size := by obtain ⟨o, e⟩ := PlainList_get pl; exact Nat.ne_of_lt (Heap.lt_size e)
  refine call_reversed_list pl.isList ?_
  have gi := Heap.get?_push_size s₁.heap (o := revObj a ((is.size : Int) - 1)) rfl
  have pl' := pl.at (h' := s₁.heap.push (revObj a ((is.size : Int) - 1))) fun o e => Heap.get?_push_of_some _ e
  have it0 : (s₁.heap.push (revObj a ((is.size : Int) - 1))).IsRevIter s₁.heap.objs.size a ((is.size : Int) - 1) := ⟨_, gi, rfl, rfl⟩
  refine wpAny_pyIter_revIter (s := { s₁ with heap := _ }) it0 ?_
  have W := Walks.listRev (prog := G.prog) (w := G.w) B.handled s₁.heap.objs.size a hne is
  rw [show is.size = xs.reverse.length from by rw [List.length_reverse, hsz]] at W
  refine q xs.reverse _ _ _ _ _ p (E₁.trans .push) (I₁.push _) W ⟨Nat.zero_le _, ?_, pl'.isList⟩ (fun b hb => ?_) (none_before I₁ E₁) (fun i h _ st => ?_) fun j v hj e => ?_
  · rw [List.length_reverse, ← hsz]; simpa using it0
  · rcases List.mem_cons.mp hb with rfl | hb
    · exact ⟨off_of (h := s₁.heap) I₁.fresh, _, gi⟩
    · rw [List.mem_singleton.mp hb]
      obtain ⟨o, e⟩ := PlainList_get pl'
      exact ⟨off_of (h := s₁.heap) nb, o, e⟩
  · obtain ⟨o, e, _⟩ := st.2.1; exact ⟨o, e⟩
  · rw [List.length_reverse] at hj e
    obtain ⟨t, e'⟩ := ints_at i (k := xs.length - 1 - j) (by omega) e
    refine ⟨t, e'.trans ?_⟩
    congr 1
    simp [List.getD, List.getElem?_reverse hj]

/-- a range, by ones, up or down -/
def rngInts (a c : Int) (n : Nat) : List Int := (List.range n).map fun (i : Nat) => a + (i : Int) * c
theorem it_range {it : Expr} (h : EV G S σ μ it fun x => ∃ a b c n, x = .rng a b c ∧ Builtin.Range.small a b c = true ∧ Builtin.Range.rangeSize a b c = (n : Nat) ∧ P (rngInts a c n)) : IT G S σ μ it P := by
  refine ⟨fun F μa A nm fa cd s Q B I q => ?_⟩
  refine h.run F μa A nm fa cd s _ B I fun v x s₁ hx E₁ I₁ r => ?_
  obtain ⟨a, b, c, n, rfl, hsm, hn, p⟩ := hx
  obtain ⟨r, t, u, w, rfl, nb, hr⟩ := r
  refine wpAny_pyIter_range hr hsm ?_
  have W := Walks.range (prog := G.prog) (w := G.w) B.handled s₁.heap.objs.size a c n
  have hl : n = (rngInts a c n).length := by simp [rngInts]
  rw [hn]
  have gi := Heap.get?_push_size s₁.heap (o := { cls := .type "range_iterator", data := .fields #[rawInt a, rawInt (n : Nat), rawInt c] }) rfl
  have W' : Walks G.prog G.w A s₁.heap.objs.size [s₁.heap.objs.size] [s₁.heap.objs.size] (rngInts a c n).length (fun i v => ∃ t, v = Value.int (a + (i : Int) * c) t) (fun i h => IsRangeIter h s₁.heap.objs.size (a + (i : Int) * c) ((n : Int) - (i : Int)) c) := hl ▸ W
  refine q (rngInts a c n) _ _ _ _ _ p (E₁.trans .push) (I₁.push _) W' ?_ (fun b hb => ?_) (none_before I₁ E₁) (fun i h _ st => ⟨_, st⟩) fun j v hj e => ?_
  · simpa using gi
  · rw [List.mem_singleton.mp hb]
    exact ⟨off_of (h := s₁.heap) I₁.fresh, _, gi⟩
  · obtain ⟨t, e⟩ := e
    rw [← hl] at hj
    refine ⟨t, e.trans ?_⟩
    congr 1
    simp [rngInts, List.getD, hj]

/-- a written tuple of ints -/
theorem it_tuple {es : List Expr} {k : Nat} {pos : Pos} (h : AV G S σ μ es fun ms => ∃ xs, AreInts ms xs ∧ xs.length ≤ 1000000 ∧ P xs) : IT G S σ μ (.Tuple es k pos) P := by
  refine ⟨fun F μa A nm fa cd s Q B I q => ?_⟩
  refine Tuple_ (h.run F μa A nm fa cd pos s _ B I fun vs ms s₁ hx E₁ I₁ r => ?_)
  obtain ⟨xs, ai, hb, p⟩ := hx
  have i := r.ints ai
  have hsz : vs.length = xs.length := i.length
  refine wpAny_newObj_type ?_ (by show vs.toArray.size ≤ sizeLine; rw [List.size_toArray, sizeLine_eq]; omega)
  have gt := Heap.get?_push_size s₁.heap (o := { cls := .type "tuple", data := .seq vs.toArray }) rfl
  have tp : (s₁.heap.push { cls := .type "tuple", data := .seq vs.toArray }).IsTuple s₁.heap.objs.size vs.toArray := ⟨_, gt, rfl, _, rfl⟩
  refine wpAny_pyIter_tuple (s := { s₁ with heap := _ }) tp ?_
  dsimp only
  generalize hH : s₁.heap.push { cls := .type "tuple", data := .seq vs.toArray } = H at tp gt ⊢
  have I₂ : Inv G S F σ μ μa H := hH ▸ I₁.push _
  have hsize : H.objs.size = s₁.heap.objs.size + 1 := by rw [← hH, Heap.size_push]
  have hne : s₁.heap.objs.size ≠ H.objs.size := by omega
  have W := Walks.tuple (prog := G.prog) (w := G.w) B.handled H.objs.size s₁.heap.objs.size hne vs.toArray
  rw [show vs.toArray.size = xs.length from hsz] at W
  have E₂ : Evo (S.δ F) s { s₁ with heap := H } := E₁.trans (hH ▸ .push)
  have gi := Heap.get?_push_size H (o := { cls := .type "tuple_iterator", data := .fields #[.ref s₁.heap.objs.size, .int 0 0] }) rfl
  have tp' := IsTuple_at (h' := H.push { cls := .type "tuple_iterator", data := .fields #[.ref s₁.heap.objs.size, .int 0 0] }) tp fun o e => Heap.get?_push_of_some _ e
  refine q xs _ _ _ _ _ p (E₂.trans .push) (I₂.push _) W ⟨⟨_, gi, rfl, rfl⟩, tp'⟩ (fun b hb => ?_) (none_before (s' := { s₁ with heap := H }) I₂ E₂) (fun i h _ st => ?_) fun j v hj e => ints_at (is := vs.toArray) (by simpa using i) hj e
  · rcases List.mem_cons.mp hb with rfl | hb
    · exact ⟨off_of (h := H) I₂.fresh, _, gi⟩
    · rw [List.mem_singleton.mp hb]
      obtain ⟨o, e⟩ := IsTuple_get tp'
      exact ⟨off_of (h := H) I₁.fresh, o, e⟩
  · obtain ⟨o, e, _⟩ := st.1; exact ⟨o, e⟩
end

/-- the contract of a def, by its body -/
theorem lookup_zip {G : TC} {h : Heap} {bad : Addr → Prop} {β : BoxA} {x : Str} {mv : MV} : ∀ {ps : List Str} {vs : List Value} {ms : List MV}, RepL G h bad β vs ms → (ps.zip ms).lookup x = some mv → ∃ v, (ps.zip vs).lookup x = some v ∧ Rep G h bad β v mv
  | [], _, _, _, e => by simp at e
  | p :: ps, _, _, .nil, e => by simp at e
  | p :: ps, _, _, .cons r rs, e => by
    simp only [List.zip_cons_cons, List.lookup_cons] at e ⊢
    split at e
    · rename_i hx
      cases e
      exact ⟨_, rfl, r⟩
    · exact lookup_zip rs e

def args0 (ps : List Str) (ms : List MV) : SE := fun x => (ps.zip ms).lookup x

theorem lookup_rev {α : Type} {x : Str} : ∀ {l : List (Str × α)}, (l.map (·.1)).Nodup → l.reverse.lookup x = l.lookup x
  | [], _ => rfl
  | p :: l, h => by
    obtain ⟨a, b⟩ := p
    simp only [List.map_cons, List.nodup_cons] at h
    have ih := lookup_rev (x := x) h.2
    rw [List.reverse_cons, List.lookup_append, ih, List.lookup_cons, List.lookup_cons, List.lookup_nil]
    by_cases hx : x = a
    · subst hx
      have : l.lookup x = none := by
        rw [List.lookup_eq_none_iff]
        intro p hp
        simp only [beq_eq_false_iff_ne, ne_eq, bne_iff_ne]
        rintro rfl
        exact h.1 (List.mem_map.mpr ⟨p, hp, rfl⟩)
      simp [this]
    · have hb : (x == a) = false := beq_eq_false_iff_ne.mpr hx
      simp [hb]
theorem zip_fst : ∀ {ps : List Str} {vs : List Value}, ps.length = vs.length → (ps.zip vs).map (·.1) = ps
  | [], [], _ => rfl
  | p :: ps, v :: vs, h => by simp only [List.zip_cons_cons, List.map_cons]; rw [zip_fst (by simpa using h)]
theorem RepL.length {G : TC} {h : Heap} {bad : Addr → Prop} {β : BoxA} {vs : List Value} {ms : List MV} (r : RepL G h bad β vs ms) : vs.length = ms.length := by
  induction r with
  | nil => rfl
  | cons _ _ ih => simp [ih]

def mk : List Str → List MV → SE
  | p :: ps, m :: ms => upd (mk ps ms) p m
  | _, _ => fun _ => none
theorem mk_args : ∀ (ps : List Str) (ms : List MV), mk ps ms = args0 ps ms
  | [], _ => by funext x; simp [mk, args0]
  | _ :: _, [] => by funext x; simp [mk, args0]
  | p :: ps, m :: ms => by
    funext x
    have ih := congrFun (mk_args ps ms) x
    simp only [mk, upd, args0, List.zip_cons_cons, List.lookup_cons]
    by_cases hx : x = p
    · subst hx; simp
    · have hb : (x == p) = false := beq_eq_false_iff_ne.mpr hx
      simp only [hx, if_false, hb]
      exact ih

theorem con_def {G : TC} {bx : Bool} {n : Nat} {d : DefRec} {ps : List Str} {ms : List MV} {P : MV → Prop} (hd : d ∈ REC)
    (hps : ps.length = ms.length) (hnd : ps.Nodup) (hloc : ∀ x ∈ ps, d.scope.names.lookup x = some .local)
    (hbind : ∀ pm code doc vs, vs.length = ps.length → bindArgs (docDef d.name d.params d.body d.scope pm code doc) ⟨vs, []⟩ = pure (ps.zip vs))
    (hco : d.scope.isCoroutine = false) (hgen : d.scope.isGenerator = false) (hk : d.scope.kind = .function) (hcell : ∀ x ∈ d.scope.names, x.2 ≠ .cell)
    (h : SX G ⟨d.scope, bx, n⟩ (mk ps ms) none d.body (fun _ _ => False) P) : Con G bx (n + 1) d.name ms P := by
  rw [mk_args] at h
  refine ⟨fun a A s bad β vs Q e B ht hb hdb hbo r q => ?_⟩
  obtain ⟨a', o, pm, code, doc, e1, e2, e3, e4⟩ := G.fnAt d hd
  rw [e] at e1
  obtain rfl : a = a' := by simpa using e1
  have hlen : ps.length = vs.length := by rw [hps, r.length]
  have hB : ps.zip vs = ps.zip vs := rfl
  refine wpAny_call (call_plain_ret (by have := B.depth; omega) (ht _ _ e2) e3 (G.nolimit.keeps ht) (e4.keeps ht) (hbind pm code doc vs hlen.symm) (fun x hx => hloc _ ?_) (fun h₁ F => ?_) hco hgen hk hcell)
  · have : x.1 ∈ (ps.zip vs).map (·.1) := List.mem_map.mpr ⟨x, hx, rfl⟩
    rwa [zip_fst hlen] at this
  let Fd : FD := ⟨s.heap, bad, s.heap.objs.size, β⟩
  let S : FS := ⟨d.scope, bx, n⟩
  have hδ : S.δ Fd = if bx then β else none := rfl
  have nL : ∀ b, (∃ o, s.heap.get? b = some o) → b ≠ s.heap.objs.size := fun b ⟨o, e⟩ => Nat.ne_of_lt (Heap.lt_size e)
  have I : Inv G S Fd (args0 ps ms) none none h₁ := by
    refine ⟨fun b o e => F.keep b o (ht b o e), fun b o e _ => F.keep b o e, fun b k => ?_, Nat.le_refl _, fun k => ?_, ?_, ?_, _, F.ns, fun x mv e => ?_, rfl⟩
    · obtain ⟨o, e⟩ := hb b k
      exact ⟨o, F.keep b o e⟩
    · exact nL _ (hb _ (hdb _ k)) rfl
    · cases e : G.hT.get? s.heap.objs.size with
      | none => rfl
      | some o => exact absurd rfl (nL _ ⟨o, ht _ _ e⟩)
    · rw [hδ]; exact hbo.keeps F.keep
    · have hx : x ∈ ps := by
        have e' : (ps.zip ms).lookup x = some mv := e
        obtain ⟨l1, l2, hm, -⟩ := List.lookup_eq_some_iff.mp e'
        have : (x, mv) ∈ ps.zip ms := by rw [hm]; simp
        exact (List.of_mem_zip this).1
      obtain ⟨v, hv, rv⟩ := lookup_zip r e
      refine ⟨hloc x hx, v, ?_, (rv.bad fun b k => ?_).ext (fun b o e _ => F.keep b o e)⟩
      · show (ps.zip vs).reverse.lookup x = some v
        rw [lookup_rev (by rw [zip_fst hlen]; exact hnd)]; exact hv
      · rcases k with k | k | k | k
        · exact .inl k
        · refine .inr ?_
          cases e : s.heap.get? b with
          | none => rfl
          | some o => exact absurd k (nL b ⟨o, e⟩)
        · exact .inl (hdb b k)
        · cases k
  have Bn : Bud n (A.deeper (envOf d.name d.scope s.heap.objs.size a code)) := ⟨B.handled, by have := B.depth; simp only [Around.deeper]; omega, by have := B.units; simp only [Around.deeper]; omega⟩
  refine wpAny_mono (h.run Fd none _ d.name a code { s with heap := h₁, toks := s.toks + (ps.zip vs).length } (fun f s' => match f with | .ret v => Q v s' | _ => False) Bn I (fun _ _ _ _ k => k.elim) fun v mv σ' μ' μa' s' hp E I' r' => ?_) (fun f s' hf => ?_) noE_imp
  · refine q v mv s' hp ⟨?_, fun b o e n => I'.keep b o e ?_⟩ I'.top (by have := I'.box; rwa [hδ] at this) r'
    · obtain ⟨h', t', e⟩ := E.eq; exact ⟨h', t', by rw [e]⟩
    · rw [hδ]; exact n
  · cases f <;> first | exact hf | exact hf.elim
end

section
open PySem
/-! plain numbers -/
def bl (n : Nat) : Nat := if n = 0 then 0 else n.log2 + 1
theorem bl_le {n m : Nat} : bl n ≤ m ↔ n < 2 ^ m := by
  unfold bl
  by_cases h : n = 0
  · subst h; simp [Nat.pow_pos (n := m) (a := 2) (by decide)]
  · rw [if_neg h, Nat.succ_le_iff, Nat.log2_lt h]
theorem lt_bl (n : Nat) : n < 2 ^ bl n := bl_le.mp (Nat.le_refl _)
theorem bl_lt {n m : Nat} : m < bl n ↔ 2 ^ m ≤ n := by
  have := @bl_le n m
  omega
theorem bl_zero : bl 0 = 0 := rfl
theorem bl_pos {n : Nat} (h : 0 < n) : 0 < bl n := bl_lt.mpr (by rw [Nat.pow_zero]; omega)
theorem bl_eq {n m : Nat} (h1 : 2 ^ m ≤ n) (h2 : n < 2 ^ (m + 1)) : bl n = m + 1 := by
  have := bl_le.mpr h2
  have := bl_lt.mpr h1
  omega
theorem intBits_nat (n : Nat) : Builtin.Int.intBits (n : Int) = bl n := by
  unfold Builtin.Int.intBits bl
  by_cases h : n = 0
  · subst h; rfl
  · rw [if_neg h, if_neg (by simpa using h)]; rfl

def nd (w n : Nat) : Nat := (bl n + w - 1) / w
theorem nd_le {w n k : Nat} (hw : 1 ≤ w) : nd w n ≤ k ↔ n < 2 ^ (w * k) := by
  unfold nd
  rw [← bl_le, ← Nat.lt_succ_iff, Nat.div_lt_iff_lt_mul (by omega), Nat.succ_mul, Nat.mul_comm k w]
  omega
theorem nd_lt {w n k : Nat} (hw : 1 ≤ w) : k < nd w n ↔ 2 ^ (w * k) ≤ n := by
  have := @nd_le w n k hw
  omega
theorem lt_nd {w : Nat} (hw : 1 ≤ w) (n : Nat) : n < 2 ^ (w * nd w n) := (nd_le hw).mp (Nat.le_refl _)
theorem nd_zero {w : Nat} (hw : 1 ≤ w) : nd w 0 = 0 := Nat.le_zero.mp ((nd_le hw).mpr (Nat.pow_pos (by decide)))
theorem nd_pos {w n : Nat} (hw : 1 ≤ w) (h : 0 < n) : 0 < nd w n := (nd_lt hw).mpr (by rw [Nat.mul_zero, Nat.pow_zero]; omega)
theorem nd_eq_zero {w n : Nat} (hw : 1 ≤ w) : nd w n = 0 ↔ n = 0 := ⟨fun h => by
  rcases Nat.eq_zero_or_pos n with h0 | h0
  · exact h0
  · have := nd_pos hw h0; omega, fun h => h ▸ nd_zero hw⟩
theorem nd_eq {w n k : Nat} (hw : 1 ≤ w) (h1 : n < 2 ^ (w * (k + 1))) (h2 : 2 ^ (w * k) ≤ n) : nd w n = k + 1 := by
  have := (nd_le hw).mpr h1
  have := (nd_lt hw).mpr h2
  omega
theorem nd_mono {w a b : Nat} (hw : 1 ≤ w) (h : a ≤ b) : nd w a ≤ nd w b := (nd_le hw).mpr (Nat.lt_of_le_of_lt h (lt_nd hw b))
theorem nd_bl {w n : Nat} (hw : 1 ≤ w) : nd w n ≤ bl n := by
  rw [nd_le hw]
  refine Nat.lt_of_lt_of_le (lt_bl n) (Nat.pow_le_pow_right (by decide) ?_)
  exact Nat.le_mul_of_pos_left _ (by omega)

/-- digit i -/
def dg (w n i : Nat) : Nat := n / 2 ^ (w * i) % 2 ^ w
/-- the first k digits -/
def Dk (w k n : Nat) : List Int := (List.range k).map fun i => ((dg w n i : Nat) : Int)
def L (w n : Nat) : List Int := Dk w (nd w n) n
theorem Dk_length {w k n : Nat} : (Dk w k n).length = k := by simp [Dk]
theorem L_length {w n : Nat} : (L w n).length = nd w n := Dk_length
theorem Dk_succ {w k n : Nat} : Dk w (k + 1) n = Dk w k n ++ [((dg w n k : Nat) : Int)] := by simp [Dk, List.range_succ]
theorem Dk_zero {w n : Nat} : Dk w 0 n = [] := rfl
theorem Dk_getD {w k n i : Nat} (h : i < k) : (Dk w k n).getD i 0 = ((dg w n i : Nat) : Int) := by simp [Dk, List.getD, h]
theorem dg_big {w n i : Nat} (hw : 1 ≤ w) (h : nd w n ≤ i) : dg w n i = 0 := by
  unfold dg
  rw [Nat.div_eq_of_lt ((nd_le hw).mp h), Nat.zero_mod]
theorem L_getD {w n i : Nat} (hw : 1 ≤ w) : (L w n).getD i 0 = ((dg w n i : Nat) : Int) := by
  by_cases h : i < nd w n
  · exact Dk_getD h
  · rw [dg_big hw (by omega), List.getD_eq_getElem?_getD, List.getElem?_eq_none (by rw [L_length]; omega)]; rfl
theorem L_zero {w : Nat} (hw : 1 ≤ w) : L w 0 = [] := by unfold L; rw [nd_zero hw]; rfl
theorem dg_lt {w n i : Nat} : dg w n i < 2 ^ w := Nat.mod_lt _ (Nat.pow_pos (by decide))
theorem L_eq_Dk {w n k : Nat} (hw : 1 ≤ w) (h1 : n < 2 ^ (w * k)) (h2 : k = 0 ∨ 2 ^ (w * (k - 1)) ≤ n) : Dk w k n = L w n := by
  unfold L
  rcases h2 with rfl | h2
  · have : n = 0 := by simpa using h1
    subst this; rw [nd_zero hw]
  · by_cases hk : k = 0
    · subst hk
      have : n = 0 := by simpa using h1
      subst this; rw [nd_zero hw]
    · have := nd_eq (k := k - 1) hw (by rwa [Nat.sub_add_cancel (by omega)]) h2
      rw [this, Nat.sub_add_cancel (by omega)]
theorem L_inj {w a b : Nat} (hw : 1 ≤ w) (h : L w a = L w b) : a = b := by
  have key : ∀ k a b : Nat, Dk w k a = Dk w k b → a % 2 ^ (w * k) = b % 2 ^ (w * k) := by
    intro k
    induction k with
    | zero => intro a b _; simp [Nat.mod_one]
    | succ k ih =>
      intro a b e
      rw [Dk_succ, Dk_succ] at e
      have e1 := List.append_inj e (by rw [Dk_length, Dk_length])
      have i1 := ih a b e1.1
      have e2 : dg w a k = dg w b k := by have := e1.2; simp only [List.cons.injEq, and_true] at this; exact Int.ofNat_inj.mp this
      unfold dg at e2
      rw [Nat.mul_succ, Nat.pow_add, Nat.mod_mul, Nat.mod_mul, i1, e2]
  have hl : nd w a = nd w b := by have := congrArg List.length h; rwa [L_length, L_length] at this
  unfold L at h
  rw [← hl] at h
  have := key _ _ _ h
  rwa [Nat.mod_eq_of_lt (lt_nd hw a), Nat.mod_eq_of_lt (hl ▸ lt_nd hw b)] at this

theorem dg_div {w n k i : Nat} : dg w (n / 2 ^ (w * k)) i = dg w n (k + i) := by
  unfold dg
  rw [Nat.div_div_eq_div_mul, ← Nat.pow_add, Nat.mul_add]
theorem nd_div {w n k : Nat} (hw : 1 ≤ w) : nd w (n / 2 ^ (w * k)) = nd w n - k := by
  have key : ∀ m, nd w (n / 2 ^ (w * k)) ≤ m ↔ nd w n - k ≤ m := by
    intro m
    rw [nd_le hw, Nat.sub_le_iff_le_add, nd_le hw, Nat.div_lt_iff_lt_mul (Nat.pow_pos (by decide)), ← Nat.pow_add, ← Nat.mul_add]
  exact Nat.le_antisymm ((key _).mpr (Nat.le_refl _)) ((key _).mp (Nat.le_refl _))
theorem Dk_drop {w n k m : Nat} : (Dk w m n).drop k = Dk w (m - k) (n / 2 ^ (w * k)) := by
  apply List.ext_getElem
  · simp [Dk]
  · intro i h1 h2
    simp [Dk, dg_div]
theorem L_drop {w n k : Nat} (hw : 1 ≤ w) : (L w n).drop k = L w (n / 2 ^ (w * k)) := by
  unfold L
  rw [Dk_drop, nd_div hw]
theorem dg_mod {w n k i : Nat} (h : i < k) : dg w (n % 2 ^ (w * k)) i = dg w n i := by
  unfold dg
  have e : w * k = w * i + (w * (k - i - 1) + w) := by
    have : k = i + (k - i - 1) + 1 := by omega
    conv => lhs; rw [this]
    rw [Nat.mul_add, Nat.mul_add]; omega
  rw [e, Nat.pow_add, Nat.mod_mul, Nat.add_mul_div_left _ _ (Nat.pow_pos (by decide)), Nat.div_eq_of_lt (Nat.mod_lt _ (Nat.pow_pos (by decide))), Nat.zero_add, Nat.pow_add, Nat.mod_mul_left_mod]
theorem Dk_mod {w n k : Nat} : Dk w k (n % 2 ^ (w * k)) = Dk w k n := by
  unfold Dk
  apply List.map_congr_left
  intro i hi
  rw [dg_mod (List.mem_range.mp hi)]
theorem Dk_take {w n k m : Nat} : (Dk w m n).take k = Dk w (min k m) n := by
  unfold Dk
  rw [← List.map_take, List.take_range]
theorem L_take {w n k : Nat} : (L w n).take k = Dk w (min k (nd w n)) (n % 2 ^ (w * min k (nd w n))) := by
  unfold L
  rw [Dk_take, Dk_mod]

/-- the noughts at the end struck -/
theorem Dk_strike {w n k e : Nat} (hw : 1 ≤ w) (hn : n < 2 ^ (w * k)) (he : e ≤ k) (hz : ∀ i, e ≤ i → i < k → dg w n i = 0) (hl : e = 0 ∨ dg w n (e - 1) ≠ 0) : (Dk w k n).take e = L w n := by
  have h0 : n < 2 ^ (w * e) := by
    have key : ∀ j, j ≤ k - e → n < 2 ^ (w * (k - j)) := by
      intro j
      induction j with
      | zero => intro _; simpa using hn
      | succ j ih =>
        intro hj
        have i1 := ih (by omega)
        have z := hz (k - (j + 1)) (by omega) (by omega)
        unfold dg at z
        have e1 : w * (k - j) = w * (k - (j + 1)) + w := by
          have : k - j = (k - (j + 1)) + 1 := by omega
          rw [this, Nat.mul_succ]
        rw [e1, Nat.pow_add] at i1
        have q : n / 2 ^ (w * (k - (j + 1))) < 2 ^ w := by rw [Nat.div_lt_iff_lt_mul (Nat.pow_pos (by decide)), Nat.mul_comm]; exact i1
        rw [Nat.mod_eq_of_lt q] at z
        have := Nat.div_eq_zero_iff.mp z
        rcases this with h | h
        · exact absurd h (Nat.ne_of_gt (Nat.pow_pos (by decide)))
        · exact h
    have := key (k - e) (Nat.le_refl _)
    rwa [show k - (k - e) = e from by omega] at this
  rw [Dk_take, Nat.min_eq_left he]
  refine L_eq_Dk hw h0 ?_
  rcases hl with h | h
  · exact .inl h
  · right
    apply Nat.le_of_not_lt
    intro hlt
    exact h (by unfold dg; rw [Nat.div_eq_of_lt hlt, Nat.zero_mod])
end

section
open PySem PySem.W PyProof.Rows PySem.Calls
def fdef (i : Nat) : DefRec := match PySem.Challenge.pw_nn0022_01.main.body[i]? with
  | some (.FunctionDef name args body _ _ _ scope _ _ pos) => ⟨name, args, body, scope, pos⟩
  | _ => ⟨"", ⟨[], [], none, [], [], none, []⟩, [], ⟨.function, [], false, false, []⟩, ⟨0, 0, 0, 0⟩⟩

theorem upd_hit {σ : SE} {x : Str} {v : MV} : upd σ x v x = some v := if_pos rfl
theorem upd_miss {σ : SE} {x y : Str} {v : MV} {r : Option MV} (h : y ≠ x) (e : σ y = r) : upd σ x v y = r := (if_neg h).trans e
theorem fmem {i k : Nat} (h : REC[k]? = some (fdef i)) : fdef i ∈ REC := List.mem_of_getElem? h

/-- less is known -/
def Sub (σ₀ σ : SE) : Prop := ∀ x v, σ₀ x = some v → σ x = some v
theorem Sub.refl (σ : SE) : Sub σ σ := fun _ _ e => e
theorem sub_nil {σ : SE} : Sub (fun _ => none) σ := fun _ _ e => nomatch e
theorem sub_upd {σ₀ σ : SE} {x : Str} {v : MV} (e : σ x = some v) (h : Sub σ₀ σ) : Sub (upd σ₀ x v) σ := fun y u q => by
  unfold upd at q
  split at q
  · rename_i hy; subst hy; cases q; exact e
  · exact h y u q
theorem Sub.upd {σ₀ σ : SE} {x : Str} {v : MV} (h : Sub σ₀ σ) : Sub (upd σ₀ x v) (upd σ x v) := fun y u q => by
  unfold Mine.upd at q ⊢
  split at q
  · rename_i hy; rw [if_pos hy]; exact q
  · rename_i hy; rw [if_neg hy]; exact h y u q

section
variable {G : TC} {S : FS} {σ : SE} {μ : MU} {K : SE → MU → Prop} {R : MV → Prop} {ss : List Stmt}
/-- behind, less may be known -/
theorem sx_post (h : SX G S σ μ ss (fun σ' μ' => ∃ σ₀, Sub σ₀ σ' ∧ K σ₀ μ') R) : SX G S σ μ ss K R :=
  ⟨fun F μa A nm fa cd s Q B I qn qr => h.run F μa A nm fa cd s Q B I (fun σ' μ' μa' s' ⟨σ₀, k, hk⟩ E I' => qn σ₀ μ' μa' s' hk E (I'.weak k)) qr⟩
/-- a while, its turns by a state of one's own -/
theorem sx_while {test : Expr} {body : List Stmt} {pos : Pos} {α : Type} (Jσ : α → SE) (Jμ : α → MU) (m : α → Nat) (pre : α → Prop) (i₀ : α) (h0 : pre i₀) (hσ : Sub (Jσ i₀) σ) (hμ : Jμ i₀ = μ)
    (turn : ∀ i, pre i → TR G S (Jσ i) (Jμ i) test fun b => if b = true then SX G S (Jσ i) (Jμ i) body (fun σ' μ' => ∃ i', pre i' ∧ m i' < m i ∧ Sub (Jσ i') σ' ∧ Jμ i' = μ') R else SX G S (Jσ i) (Jμ i) ss K R) :
    SX G S σ μ (.While test body [] pos :: ss) K R := by
  refine sx_weak hσ ?_
  subst hμ
  refine sx_cons (s1_while (fun n σ' μ' => ∃ i, n = m i ∧ pre i ∧ Jσ i = σ' ∧ Jμ i = μ') (n₀ := m i₀) ⟨i₀, rfl, h0, rfl, rfl⟩ ?_)
  rintro n σ' μ' ⟨i, rfl, hp, rfl, rfl⟩
  refine (turn i hp).mono fun b hb => ?_
  cases b with
  | false => exact hb
  | true =>
    refine sx_post (SX.mono hb (fun σ' μ' ⟨i', hp, hm, hs, he⟩ => ⟨_, hs, _, hm, i', rfl, hp, rfl, he⟩) fun _ r => r)
/-- a for, its turns by their number -/
theorem sx_for {x : Str} {p₁ pos : Pos} {it : Expr} {body : List Stmt} (h : IT G S σ μ it fun xs => ∃ (Jσ : Nat → SE) (Jμ : Nat → MU), Sub (Jσ 0) σ ∧ Jμ 0 = μ ∧
      (∀ i, i < xs.length → offμ (Jμ i) x ∧ SX G S (upd (Jσ i) x (.int (xs.getD i 0))) (Jμ i) body (fun σ' μ' => Sub (Jσ (i + 1)) σ' ∧ Jμ (i + 1) = μ') R) ∧ SX G S (Jσ xs.length) (Jμ xs.length) ss K R)
    (hl : S.sc.names.lookup x = some .local := by first | decide +kernel | (dsimp only; decide +kernel)) (hk : S.sc.kind = .function := by rfl)
    (hs : ∀ env y, foldedSetIterable it env y = pure y := by intro _ _; rfl) (ht : ∀ it v, letOwnedTupleGo (.Name x p₁) it v = pure () := by intro _ _; rfl) :
    SX G S σ μ (.For (.Name x p₁) it body [] pos :: ss) K R := by
  refine sx_cons (s1_for ⟨fun F μa A nm fa cd s Q B I q => h.run F μa A nm fa cd s Q B I fun xs It fp Pw St s₂ hp => ?_⟩ hl hk hs ht)
  obtain ⟨Jσ, Jμ, h0, hμ, turn, rest⟩ := hp
  refine q xs It fp Pw St s₂ ⟨fun i σ' μ' => Sub (Jσ i) σ' ∧ Jμ i = μ', ⟨h0, hμ⟩, fun i σ' μ' hi ⟨k, e⟩ => ?_, fun σ' μ' ⟨k, e⟩ => ?_⟩
  · subst e
    exact ⟨(turn i hi).1, sx_weak k.upd (turn i hi).2⟩
  · subst e
    exact sx_weak k rest
/-- a for over a state that is not one by its number -/
theorem sx_forE {x : Str} {p₁ pos : Pos} {it : Expr} {body : List Stmt} {α : Type} (h : IT G S σ μ it fun xs => ∃ (Jσ : α → SE) (pre : Nat → α → Prop), (∃ a, pre 0 a ∧ Sub (Jσ a) σ) ∧
      (∀ i a, i < xs.length → pre i a → offμ μ x ∧ SX G S (upd (Jσ a) x (.int (xs.getD i 0))) μ body (fun σ' μ' => ∃ a', pre (i + 1) a' ∧ Sub (Jσ a') σ' ∧ μ = μ') R) ∧ ∀ a, pre xs.length a → SX G S (Jσ a) μ ss K R)
    (hl : S.sc.names.lookup x = some .local := by first | decide +kernel | (dsimp only; decide +kernel)) (hk : S.sc.kind = .function := by rfl)
    (hs : ∀ env y, foldedSetIterable it env y = pure y := by intro _ _; rfl) (ht : ∀ it v, letOwnedTupleGo (.Name x p₁) it v = pure () := by intro _ _; rfl) :
    SX G S σ μ (.For (.Name x p₁) it body [] pos :: ss) K R := by
  refine sx_cons (s1_for ⟨fun F μa A nm fa cd s Q B I q => h.run F μa A nm fa cd s Q B I fun xs It fp Pw St s₂ hp => ?_⟩ hl hk hs ht)
  obtain ⟨Jσ, pre, h0, turn, rest⟩ := hp
  refine q xs It fp Pw St s₂ ⟨fun i σ' μ' => ∃ a, pre i a ∧ Sub (Jσ a) σ' ∧ μ = μ', let ⟨a, p, k⟩ := h0; ⟨a, p, k, rfl⟩, fun i σ' μ' hi ⟨a, p, k, e⟩ => ?_, fun σ' μ' ⟨a, p, k, e⟩ => ?_⟩
  · subst e
    exact ⟨(turn i a hi p).1, sx_weak k.upd (turn i a hi p).2⟩
  · subst e
    exact sx_weak k (rest a p)
end

/-! operations, the result said anew -/
section
variable {G : TC} {P : MV → Prop} {a b c : Int}
theorem bn_add' (h : a + b = c) (p : P (.int c)) : BN G .Add (.int a) (.int b) P := bn_add (h ▸ p)
theorem bn_sub' (h : a - b = c) (p : P (.int c)) : BN G .Sub (.int a) (.int b) P := bn_sub (h ▸ p)
theorem bn_mul' (ha : Sm a) (hb : Sm b) (h : a * b = c) (p : P (.int c)) : BN G .Mult (.int a) (.int b) P := bn_mul ha hb (h ▸ p)
theorem in_add' (h : a + b = c) (p : P (.int c)) : IN G .Add (.int a) (.int b) P := in_add (h ▸ p)
theorem in_sub' (h : a - b = c) (p : P (.int c)) : IN G .Sub (.int a) (.int b) P := in_sub (h ▸ p)
variable {x y : Nat}
theorem bn_fdiv' (ha : a = (x : Nat)) (hb : b = (y : Nat)) (h0 : 0 < y) (hs : Sm (y : Nat)) (p : P (.int ((x / y : Nat) : Int))) : BN G .FloorDiv (.int a) (.int b) P := by
  subst ha hb
  refine bn_fdiv (by omega) hs ?_
  rw [Int.fdiv_eq_ediv_of_nonneg _ (by omega)]; exact p
theorem bn_mod' (ha : a = (x : Nat)) (hb : b = (y : Nat)) (h0 : 0 < y) (p : P (.int ((x % y : Nat) : Int))) : BN G .Mod (.int a) (.int b) P := by
  subst ha hb
  refine bn_mod (by omega) ?_
  rw [Int.fmod_eq_emod_of_nonneg _ (by omega)]; exact p
theorem bn_shl' (ha : a = (x : Nat)) (hb : b = (y : Nat)) (h1 : y ≤ 1000000) (hs : Sm (x : Nat)) (p : P (.int ((x * 2 ^ y : Nat) : Int))) : BN G .LShift (.int a) (.int b) P := by
  subst ha hb
  refine bn_shl (by omega) (by omega) hs ?_
  have e : ((x * 2 ^ y : Nat) : Int) = (x : Int) * 2 ^ ((y : Int)).toNat := by simp
  exact e ▸ p
theorem bn_shr' (ha : a = (x : Nat)) (hb : b = (y : Nat)) (p : P (.int ((x / 2 ^ y : Nat) : Int))) : BN G .RShift (.int a) (.int b) P := by
  subst ha hb
  refine bn_shr (by omega) ?_
  have e : ((x / 2 ^ y : Nat) : Int) = (x : Int).fdiv (2 ^ ((y : Int)).toNat) := by
    rw [Int.fdiv_eq_ediv_of_nonneg _ (Int.pow_nonneg (by decide))]; simp
  exact e ▸ p
theorem in_shr' (ha : a = (x : Nat)) (hb : b = (y : Nat)) (p : P (.int ((x / 2 ^ y : Nat) : Int))) : IN G .RShift (.int a) (.int b) P := by
  subst ha hb
  refine in_shr (by omega) ?_
  have e : ((x / 2 ^ y : Nat) : Int) = (x : Int).fdiv (2 ^ ((y : Int)).toNat) := by
    rw [Int.fdiv_eq_ediv_of_nonneg _ (Int.pow_nonneg (by decide))]; simp
  exact e ▸ p
/-- x & (2 ** y - 1) -/
theorem bn_mask (ha : a = (x : Nat)) (hb : b = 2 ^ y - 1) (p : P (.int ((x % 2 ^ y : Nat) : Int))) : BN G .BitAnd (.int a) (.int b) P := by
  subst ha hb
  refine bn_and ?_
  rw [kbt_mask]
  have e : ((x % 2 ^ y : Nat) : Int) = (x : Int) % 2 ^ y := by simp
  exact e ▸ p
theorem and_apart {x y k : Nat} (hx : x < 2 ^ k) : x &&& (y * 2 ^ k) = 0 := by
  apply Nat.eq_of_testBit_eq
  intro i
  rw [Nat.testBit_and, ← Nat.shiftLeft_eq, Nat.testBit_shiftLeft, Nat.zero_testBit]
  by_cases h : k ≤ i
  · rw [Nat.testBit_lt_two_pow (Nat.lt_of_lt_of_le hx (Nat.pow_le_pow_right (by decide) h))]; rfl
  · simp [h]
theorem or_add {x y k : Nat} (hx : x < 2 ^ k) : Builtin.bitOr (x : Int) ((y * 2 ^ k : Nat) : Int) = ((x + y * 2 ^ k : Nat) : Int) := by
  have h1 := bitXor_and (x : Int) ((y * 2 ^ k : Nat) : Int)
  have h2 : Builtin.bitAnd (x : Int) ((y * 2 ^ k : Nat) : Int) = 0 := by
    generalize hz : y * 2 ^ k = z
    have := hz ▸ and_apart (y := y) hx
    unfold Builtin.bitAnd
    simp [this]
  unfold Builtin.bitXor at h1
  rw [h2] at h1
  omega
theorem bn_or' {k : Nat} (ha : a = (x : Nat)) (hb : b = ((y * 2 ^ k : Nat) : Int)) (hx : x < 2 ^ k) (p : P (.int ((x + y * 2 ^ k : Nat) : Int))) : BN G .BitOr (.int a) (.int b) P := by
  subst ha hb
  exact bn_or (or_add hx ▸ p)
theorem in_or' {k : Nat} (ha : a = (x : Nat)) (hb : b = ((y * 2 ^ k : Nat) : Int)) (hx : x < 2 ^ k) (p : P (.int ((x + y * 2 ^ k : Nat) : Int))) : IN G .BitOr (.int a) (.int b) P := by
  subst ha hb
  exact in_or (or_add hx ▸ p)
end
end

section
open PySem PySem.W PyProof.Rows PySem.Calls
theorem len0 {P : List Value → Prop} (h : P []) : ∀ vs : List Value, vs.length = 0 → P vs := fun _ e => (List.eq_nil_of_length_eq_zero e).symm ▸ h
theorem lenS {P : List Value → Prop} {n : Nat} (h : ∀ a, ∀ vs : List Value, vs.length = n → P (a :: vs)) : ∀ vs : List Value, vs.length = n + 1 → P vs := fun vs e => by
  cases vs with
  | nil => cases e
  | cons a vs => exact h a vs (Nat.succ.inj e)
section
variable {G : TC} {S : FS} {σ : SE} {μ : MU} {K : SE → MU → Prop} {R : MV → Prop} {ss : List Stmt} {P : MV → Prop}
theorem con_use {bx : Bool} {n n' : Nat} {f : Str} {args : List MV} {r : MV} (h : Con G bx n f args (· = r)) (p : P r) (k : n ≤ n' := by first | exact Nat.le_add_left _ _ | decide | omega | (dsimp only; omega)) : Con G bx n' f args P := (h.mono fun _ e => e ▸ p).le k
theorem con_useE {bx : Bool} {n n' : Nat} {f : Str} {args : List MV} {Q : MV → Prop} (h : Con G bx n f args Q) (p : ∀ r, Q r → P r) (k : n ≤ n' := by first | exact Nat.le_add_left _ _ | decide | omega | (dsimp only; omega)) : Con G bx n' f args P := (h.mono p).le k

theorem ev_calln {x : Str} {args : List Expr} {p₁ pos : Pos} (hx : x ∈ NM) (h : AV G S σ μ args fun mvs => Con G false S.n x mvs P)
    (hl : S.sc.names.lookup x = some .globalImplicit := by first | decide +kernel | (dsimp only; decide +kernel)) (hk : S.sc.kind = .function := by rfl) (hdb : (x == ("__debug__" : Str)) = false := by first | decide +kernel | (dsimp only; decide +kernel))
    (hc : ∀ env, eval (.Call (.Name x p₁) args [] pos) env = (do callWith pos (← eval (.Name x p₁) env) [] (backTo pos (starEach args env)) (backToKw pos (keywordEach [] env))) := by intro _; rfl)
    (ha : ∃ e rest, args = e :: rest ∧ (∀ env, starEach (e :: rest) env = (false, eval e env) :: starEach rest env) ∧ ∀ env, (backTo pos (starEach rest env)).any (·.1) = false := by exact ⟨_, _, rfl, fun _ => rfl, fun _ => rfl⟩) :
    EV G S σ μ (.Call (.Name x p₁) args [] pos) P :=
  ev_call false (by intro h; cases h) (ev_gfn hx ⟨x, rfl, hx, h⟩ hl hk hdb) hc ha
theorem ev_callb {x : Str} {args : List Expr} {p₁ pos : Pos} (hb : S.bx = true) (hx : x ∈ NM) (h : AV G S σ μ args fun mvs => Con G true S.n x mvs P)
    (hl : S.sc.names.lookup x = some .globalImplicit := by first | decide +kernel | (dsimp only; decide +kernel)) (hk : S.sc.kind = .function := by rfl) (hdb : (x == ("__debug__" : Str)) = false := by first | decide +kernel | (dsimp only; decide +kernel))
    (hc : ∀ env, eval (.Call (.Name x p₁) args [] pos) env = (do callWith pos (← eval (.Name x p₁) env) [] (backTo pos (starEach args env)) (backToKw pos (keywordEach [] env))) := by intro _; rfl)
    (ha : ∃ e rest, args = e :: rest ∧ (∀ env, starEach (e :: rest) env = (false, eval e env) :: starEach rest env) ∧ ∀ env, (backTo pos (starEach rest env)).any (·.1) = false := by exact ⟨_, _, rfl, fun _ => rfl, fun _ => rfl⟩) :
    EV G S σ μ (.Call (.Name x p₁) args [] pos) P :=
  ev_call true (fun _ => hb) (ev_gfn hx ⟨x, rfl, hx, h⟩ hl hk hdb) hc ha
theorem ev_callv {x n : Str} {args : List Expr} {p₁ pos : Pos} (e : σ x = some (.fn n)) (hx : n ∈ NM) (h : AV G S σ μ args fun mvs => Con G false S.n n mvs P)
    (hk : S.sc.kind = .function := by rfl) (hdb : (x == ("__debug__" : Str)) = false := by first | decide +kernel | (dsimp only; decide +kernel))
    (hc : ∀ env, eval (.Call (.Name x p₁) args [] pos) env = (do callWith pos (← eval (.Name x p₁) env) [] (backTo pos (starEach args env)) (backToKw pos (keywordEach [] env))) := by intro _; rfl)
    (ha : ∃ e rest, args = e :: rest ∧ (∀ env, starEach (e :: rest) env = (false, eval e env) :: starEach rest env) ∧ ∀ env, (backTo pos (starEach rest env)).any (·.1) = false := by exact ⟨_, _, rfl, fun _ => rfl, fun _ => rfl⟩) :
    EV G S σ μ (.Call (.Name x p₁) args [] pos) P :=
  ev_call false (by intro h; cases h) (ev_name e ⟨n, rfl, hx, h⟩ hk hdb) hc ha

theorem rngInts_length {a c : Int} {n : Nat} : (rngInts a c n).length = n := by simp [rngInts]
theorem rngInts_getD {a c : Int} {n i : Nat} (h : i < n) : (rngInts a c n).getD i 0 = a + (i : Int) * c := by simp [rngInts, List.getD, h]

/-- for x in range(a, b) -/
theorem sx_for_up {x : Str} {p₁ pos : Pos} {it : Expr} {body : List Stmt} (h : EV G S σ μ it fun v => ∃ (a' b' : Int) (a b : Nat), v = .rng a' b' 1 ∧ a' = a ∧ b' = b ∧ a < 2 ^ 62 ∧ b < 2 ^ 62 ∧ ∃ (Jσ : Nat → SE) (Jμ : Nat → MU), Sub (Jσ 0) σ ∧ Jμ 0 = μ ∧
      (∀ i, a + i < b → offμ (Jμ i) x ∧ SX G S (upd (Jσ i) x (.int ((a + i : Nat) : Int))) (Jμ i) body (fun σ' μ' => Sub (Jσ (i + 1)) σ' ∧ Jμ (i + 1) = μ') R) ∧ SX G S (Jσ (b - a)) (Jμ (b - a)) ss K R)
    (hl : S.sc.names.lookup x = some .local := by first | decide +kernel | (dsimp only; decide +kernel)) (hk : S.sc.kind = .function := by rfl)
    (hs : ∀ env y, foldedSetIterable it env y = pure y := by intro _ _; rfl) (ht : ∀ it v, letOwnedTupleGo (.Name x p₁) it v = pure () := by intro _ _; rfl) :
    SX G S σ μ (.For (.Name x p₁) it body [] pos :: ss) K R := by
  refine sx_for (it_range (h.mono ?_)) hl hk hs ht
  rintro _ ⟨_, _, a, b, rfl, rfl, rfl, ha, hb, Jσ, Jμ, h1, h2, h3, h4⟩
  refine ⟨a, b, 1, b - a, rfl, small_one (by omega) (by omega) (by omega) (by omega), ?_, Jσ, Jμ, h1, h2, fun i hi => ?_, ?_⟩
  · rw [rangeSize_nat]; omega
  · rw [rngInts_length] at hi
    rw [rngInts_getD hi]
    have e : ((a : Nat) : Int) + (i : Int) * 1 = ((a + i : Nat) : Int) := by omega
    rw [e]
    exact h3 i (by omega)
  · rw [rngInts_length]; exact h4
/-- for x in range(m - 1, -1, -1), by what is left -/
theorem sx_for_dn {x : Str} {p₁ pos : Pos} {it : Expr} {body : List Stmt} (h : EV G S σ μ it fun v => ∃ (a b : Int) (m : Nat), v = .rng a b (-1) ∧ a = (m : Int) - 1 ∧ b = -1 ∧ m < 2 ^ 60 ∧ ∃ (Jσ : Nat → SE) (Jμ : Nat → MU), Sub (Jσ m) σ ∧ Jμ m = μ ∧
      (∀ r, r < m → offμ (Jμ (r + 1)) x ∧ SX G S (upd (Jσ (r + 1)) x (.int ((r : Nat) : Int))) (Jμ (r + 1)) body (fun σ' μ' => Sub (Jσ r) σ' ∧ Jμ r = μ') R) ∧ SX G S (Jσ 0) (Jμ 0) ss K R)
    (hl : S.sc.names.lookup x = some .local := by first | decide +kernel | (dsimp only; decide +kernel)) (hk : S.sc.kind = .function := by rfl)
    (hs : ∀ env y, foldedSetIterable it env y = pure y := by intro _ _; rfl) (ht : ∀ it v, letOwnedTupleGo (.Name x p₁) it v = pure () := by intro _ _; rfl) :
    SX G S σ μ (.For (.Name x p₁) it body [] pos :: ss) K R := by
  refine sx_for (it_range (h.mono ?_)) hl hk hs ht
  rintro _ ⟨a, b, m, rfl, ha, hb, hm, Jσ, Jμ, h1, h2, h3, h4⟩
  refine ⟨a, b, -1, m, rfl, small_down (by omega) (by omega) (by omega) (by omega), ?_, fun i => Jσ (m - i), fun i => Jμ (m - i), h1, h2, fun i hi => ?_, ?_⟩
  · rw [rangeSize_downNat]; omega
  · rw [rngInts_length] at hi
    rw [rngInts_getD hi]
    have e : a + (i : Int) * (-1) = ((m - 1 - i : Nat) : Int) := by omega
    have e1 : m - i = m - 1 - i + 1 := by omega
    have e2 : m - (i + 1) = m - 1 - i := by omega
    rw [e]
    simp only [e2, e1]
    exact h3 (m - 1 - i) (by omega)
  · rw [rngInts_length]; show SX G S (Jσ (m - m)) (Jμ (m - m)) ss K R; rw [Nat.sub_self]; exact h4
/-- for x in a list -/
theorem sx_for_l {x : Str} {p₁ pos : Pos} {it : Expr} {body : List Stmt} (h : IT G S σ μ it fun xs => ∃ (Jσ : Nat → SE) (Jμ : Nat → MU), Sub (Jσ 0) σ ∧ Jμ 0 = μ ∧
      (∀ i, i < xs.length → offμ (Jμ i) x ∧ SX G S (upd (Jσ i) x (.int (xs.getD i 0))) (Jμ i) body (fun σ' μ' => Sub (Jσ (i + 1)) σ' ∧ Jμ (i + 1) = μ') R) ∧ SX G S (Jσ xs.length) (Jμ xs.length) ss K R)
    (hl : S.sc.names.lookup x = some .local := by first | decide +kernel | (dsimp only; decide +kernel)) (hk : S.sc.kind = .function := by rfl)
    (hs : ∀ env y, foldedSetIterable it env y = pure y := by intro _ _; rfl) (ht : ∀ it v, letOwnedTupleGo (.Name x p₁) it v = pure () := by intro _ _; rfl) :
    SX G S σ μ (.For (.Name x p₁) it body [] pos :: ss) K R := sx_for h hl hk hs ht

/-- a for with a word on its turns -/
theorem sx_forP {x : Str} {p₁ pos : Pos} {it : Expr} {body : List Stmt} (h : IT G S σ μ it fun xs => ∃ (Jσ : Nat → SE) (Jμ : Nat → MU) (pre : Nat → Prop), Sub (Jσ 0) σ ∧ Jμ 0 = μ ∧ pre 0 ∧
      (∀ i, i < xs.length → pre i → offμ (Jμ i) x ∧ SX G S (upd (Jσ i) x (.int (xs.getD i 0))) (Jμ i) body (fun σ' μ' => Sub (Jσ (i + 1)) σ' ∧ Jμ (i + 1) = μ' ∧ pre (i + 1)) R) ∧ (pre xs.length → SX G S (Jσ xs.length) (Jμ xs.length) ss K R))
    (hl : S.sc.names.lookup x = some .local := by first | decide +kernel | (dsimp only; decide +kernel)) (hk : S.sc.kind = .function := by rfl)
    (hs : ∀ env y, foldedSetIterable it env y = pure y := by intro _ _; rfl) (ht : ∀ it v, letOwnedTupleGo (.Name x p₁) it v = pure () := by intro _ _; rfl) :
    SX G S σ μ (.For (.Name x p₁) it body [] pos :: ss) K R := by
  refine sx_cons (s1_for ⟨fun F μa A nm fa cd s Q B I q => h.run F μa A nm fa cd s Q B I fun xs It fp Pw St s₂ hp => ?_⟩ hl hk hs ht)
  obtain ⟨Jσ, Jμ, pre, h0, hμ, hpre, turn, rest⟩ := hp
  refine q xs It fp Pw St s₂ ⟨fun i σ' μ' => Sub (Jσ i) σ' ∧ Jμ i = μ' ∧ pre i, ⟨h0, hμ, hpre⟩, fun i σ' μ' hi ⟨k, e, p⟩ => ?_, fun σ' μ' ⟨k, e, p⟩ => ?_⟩
  · subst e
    exact ⟨(turn i hi p).1, sx_weak k.upd (turn i hi p).2⟩
  · subst e
    exact sx_weak k (rest p)
theorem sx_for_dnp {x : Str} {p₁ pos : Pos} {it : Expr} {body : List Stmt} (h : EV G S σ μ it fun v => ∃ (a b : Int) (m : Nat), v = .rng a b (-1) ∧ a = (m : Int) - 1 ∧ b = -1 ∧ m < 2 ^ 60 ∧ ∃ (Jσ : Nat → SE) (Jμ : Nat → MU) (pre : Nat → Prop), Sub (Jσ m) σ ∧ Jμ m = μ ∧ pre m ∧
      (∀ r, r < m → pre (r + 1) → offμ (Jμ (r + 1)) x ∧ SX G S (upd (Jσ (r + 1)) x (.int ((r : Nat) : Int))) (Jμ (r + 1)) body (fun σ' μ' => Sub (Jσ r) σ' ∧ Jμ r = μ' ∧ pre r) R) ∧ (pre 0 → SX G S (Jσ 0) (Jμ 0) ss K R))
    (hl : S.sc.names.lookup x = some .local := by first | decide +kernel | (dsimp only; decide +kernel)) (hk : S.sc.kind = .function := by rfl)
    (hs : ∀ env y, foldedSetIterable it env y = pure y := by intro _ _; rfl) (ht : ∀ it v, letOwnedTupleGo (.Name x p₁) it v = pure () := by intro _ _; rfl) :
    SX G S σ μ (.For (.Name x p₁) it body [] pos :: ss) K R := by
  refine sx_forP (it_range (h.mono ?_)) hl hk hs ht
  rintro _ ⟨a, b, m, rfl, ha, hb, hm, Jσ, Jμ, pre, h1, h2, hp, h3, h4⟩
  refine ⟨a, b, -1, m, rfl, small_down (by omega) (by omega) (by omega) (by omega), ?_, fun i => Jσ (m - i), fun i => Jμ (m - i), fun i => pre (m - i), h1, h2, hp, fun i hi hp => ?_, ?_⟩
  · rw [rangeSize_downNat]; omega
  · rw [rngInts_length] at hi
    rw [rngInts_getD hi]
    have e : a + (i : Int) * (-1) = ((m - 1 - i : Nat) : Int) := by omega
    have e1 : m - i = m - 1 - i + 1 := by omega
    have e2 : m - (i + 1) = m - 1 - i := by omega
    rw [e]
    simp only [e2, e1] at hp ⊢
    exact h3 (m - 1 - i) (by omega) hp
  · rw [rngInts_length]; show pre (m - m) → SX G S (Jσ (m - m)) (Jμ (m - m)) ss K R; rw [Nat.sub_self]; exact h4

theorem upd_no {σ : SE} {x y : Str} {v : MV} (h : y ≠ x) (e : σ y = none) : upd σ x v y = none := upd_miss h e
theorem sub_set {σ₀ σ : SE} {x : Str} {v v' : MV} (e : σ x = some v') (hv : v = v') (h : Sub σ₀ σ) : Sub (upd σ₀ x v) σ := by subst hv; exact sub_upd e h
theorem dtrue {p : Prop} [Decidable p] (h : p) : decide p = true := decide_eq_true h
theorem dfalse {p : Prop} [Decidable p] (h : ¬ p) : decide p = false := decide_eq_false h
end
end

section
open PySem
/-! sizes -/
theorem bl_mono {a b : Nat} (h : a ≤ b) : bl a ≤ bl b := bl_le.mpr (Nat.lt_of_le_of_lt h (lt_bl b))
theorem bl_mul {a b : Nat} : bl (a * b) ≤ bl a + bl b := by
  rw [bl_le, Nat.pow_add]
  by_cases h : b = 0
  · subst h; rw [Nat.mul_zero]; exact Nat.mul_pos (Nat.pow_pos (by decide)) (Nat.pow_pos (by decide))
  · exact Nat.mul_lt_mul'' (lt_bl a) (lt_bl b)
theorem bl_add {a b m : Nat} (ha : bl a ≤ m) (hb : bl b ≤ m) : bl (a + b) ≤ m + 1 := by
  rw [bl_le] at *; rw [Nat.pow_succ]; omega
theorem bl_shl {a n : Nat} : bl (a * 2 ^ n) ≤ bl a + n := by
  rw [bl_le, Nat.pow_add]; exact Nat.mul_lt_mul_of_pos_right (lt_bl a) (Nat.pow_pos (by decide))
theorem bl_div {a b : Nat} : bl (a / b) ≤ bl a := bl_mono (Nat.div_le_self _ _)
theorem bl_mod {a b : Nat} : bl (a % b) ≤ bl a := bl_mono (Nat.mod_le _ _)
theorem bl_sub {a b : Nat} : bl (a - b) ≤ bl a := bl_mono (Nat.sub_le _ _)
theorem bl_pow2 {n : Nat} : bl (2 ^ n) = n + 1 := bl_eq (Nat.le_refl _) (Nat.pow_lt_pow_right (by decide) (by omega))
theorem nd_small {w x m : Nat} (hw : 1 ≤ w) (h : bl x ≤ m) : nd w x ≤ m := Nat.le_trans (nd_bl hw) h

theorem pp (n : Nat) : 0 < 2 ^ n := Nat.pow_pos (by decide)
theorem div_pos_iff {w x i : Nat} (hw : 1 ≤ w) : 0 < x / 2 ^ (w * i) ↔ i < nd w x := by
  rw [nd_lt hw]
  constructor
  · intro h
    exact Nat.le_of_not_lt fun k => by rw [Nat.div_eq_of_lt k] at h; omega
  · intro h; exact Nat.div_pos h (pp _)
theorem div_step {w x i : Nat} : x / 2 ^ (w * i) / 2 ^ w = x / 2 ^ (w * (i + 1)) := by
  rw [Nat.div_div_eq_div_mul, ← Nat.pow_add, Nat.mul_succ]
theorem div_split {w x i : Nat} : x / 2 ^ (w * i) = x / 2 ^ (w * (i + 1)) * 2 ^ w + dg w x i := by
  rw [← div_step]; unfold dg
  have := Nat.div_add_mod (x / 2 ^ (w * i)) (2 ^ w)
  rw [Nat.mul_comm] at this; exact this.symm
theorem L_end {w x i : Nat} (hw : 1 ≤ w) (h : i ≤ nd w x) (h0 : ¬ 0 < x / 2 ^ (w * i)) : Dk w i x = L w x := by
  have : i = nd w x := by have := @div_pos_iff w x i hw; omega
  subst this; rfl
theorem div_nd {w x : Nat} (hw : 1 ≤ w) : x / 2 ^ (w * nd w x) = 0 := Nat.div_eq_of_lt (lt_nd hw x)
theorem L_one {w : Nat} (hw : 1 ≤ w) : L w 1 = [1] := by
  have h : nd w 1 = 1 := nd_eq (k := 0) hw (by rw [Nat.zero_add, Nat.mul_one]; exact Nat.one_lt_two_pow (by omega)) (by simp)
  have hlt : 1 < 2 ^ w := Nat.one_lt_two_pow (by omega)
  unfold L; rw [h, Dk_succ, Dk_zero]; unfold dg
  simp [Nat.mod_eq_of_lt hlt]

/-- adding, digit by digit -/
def cy (w x y i : Nat) : Nat := (x % 2 ^ (w * i) + y % 2 ^ (w * i)) / 2 ^ (w * i)
theorem mod_step {w x i : Nat} : x % 2 ^ (w * (i + 1)) = x % 2 ^ (w * i) + 2 ^ (w * i) * dg w x i := by
  unfold dg; rw [Nat.mul_succ, Nat.pow_add, Nat.mod_mul]
theorem cy_le {w x y i : Nat} : cy w x y i ≤ 1 := by
  unfold cy
  have h1 := Nat.mod_lt x (pp (w * i))
  have h2 := Nat.mod_lt y (pp (w * i))
  have : (x % 2 ^ (w * i) + y % 2 ^ (w * i)) / 2 ^ (w * i) < 2 := by rw [Nat.div_lt_iff_lt_mul (pp _)]; omega
  omega
theorem cy_zero {w x y : Nat} : cy w x y 0 = 0 := by unfold cy; simp [Nat.mod_one]
theorem cy_dg {w x y i : Nat} : (cy w x y i + (dg w x i + dg w y i)) % 2 ^ w = dg w (x + y) i := by
  have hp := pp (w * i)
  have e : (x + y) / 2 ^ (w * i) = cy w x y i + (x / 2 ^ (w * i) + y / 2 ^ (w * i)) := by
    unfold cy
    have h1 := Nat.div_add_mod x (2 ^ (w * i))
    have h2 := Nat.div_add_mod y (2 ^ (w * i))
    have e1 : x + y = (x % 2 ^ (w * i) + y % 2 ^ (w * i)) + 2 ^ (w * i) * (x / 2 ^ (w * i) + y / 2 ^ (w * i)) := by rw [Nat.mul_add]; omega
    conv => lhs; rw [e1]
    rw [Nat.add_mul_div_left _ _ hp]
  unfold dg
  rw [e, Nat.add_mod (cy w x y i), Nat.add_mod (cy w x y i) (x / 2 ^ (w * i) + y / 2 ^ (w * i)), ← Nat.add_mod]
  simp [Nat.add_mod]
theorem cy_next {w x y i : Nat} : (cy w x y i + (dg w x i + dg w y i)) / 2 ^ w = cy w x y (i + 1) := by
  have hp := pp (w * i)
  unfold cy
  rw [mod_step, mod_step]
  have e : x % 2 ^ (w * i) + 2 ^ (w * i) * dg w x i + (y % 2 ^ (w * i) + 2 ^ (w * i) * dg w y i) = (x % 2 ^ (w * i) + y % 2 ^ (w * i)) + 2 ^ (w * i) * (dg w x i + dg w y i) := by rw [Nat.mul_add]; omega
  rw [e, Nat.mul_succ w i, Nat.pow_add, ← Nat.div_div_eq_div_mul, Nat.add_mul_div_left _ _ hp]
theorem cy_end {w x y : Nat} (hw : 1 ≤ w) (h : nd w y ≤ nd w x) : cy w x y (nd w x) = (x + y) / 2 ^ (w * nd w x) := by
  unfold cy
  rw [Nat.mod_eq_of_lt (lt_nd hw x), Nat.mod_eq_of_lt ((nd_le hw).mp h)]
theorem cy_done {w x y : Nat} (hw : 1 ≤ w) (h : nd w y ≤ nd w x) : (if 0 < cy w x y (nd w x) then Dk w (nd w x) (x + y) ++ [((cy w x y (nd w x) : Nat) : Int)] else Dk w (nd w x) (x + y)) = L w (x + y) := by
  have hle := @cy_le w x y (nd w x)
  have e := cy_end hw h
  by_cases h0 : 0 < cy w x y (nd w x)
  · rw [if_pos h0]
    have h1 : (x + y) / 2 ^ (w * nd w x) = 1 := by omega
    have hlt : 1 < 2 ^ w := Nat.one_lt_two_pow (by omega)
    have hd : dg w (x + y) (nd w x) = 1 := by unfold dg; rw [h1, Nat.mod_eq_of_lt hlt]
    rw [show cy w x y (nd w x) = dg w (x + y) (nd w x) from by omega, ← Dk_succ]
    refine L_eq_Dk hw ?_ (.inr ?_)
    · have h2 : (x + y) / 2 ^ (w * nd w x) < 2 ^ w := by omega
      rw [Nat.div_lt_iff_lt_mul (pp _), ← Nat.pow_add] at h2
      rw [Nat.mul_succ, Nat.add_comm (w * _) w]; exact h2
    · rw [Nat.add_sub_cancel]
      exact Nat.le_of_not_lt fun k => by rw [Nat.div_eq_of_lt k] at h1; omega
  · rw [if_neg h0]
    refine L_eq_Dk hw ?_ ?_
    · have h2 : (x + y) / 2 ^ (w * nd w x) < 1 := by omega
      rw [Nat.div_lt_iff_lt_mul (pp _)] at h2; omega
    · by_cases hx : nd w x = 0
      · exact .inl hx
      · right
        have := (nd_lt (n := x) (k := nd w x - 1) hw).mp (by omega)
        omega
end

section
open PySem
theorem bl_shr {x m : Nat} : bl (x / 2 ^ m) = bl x - m := by
  have key : ∀ k, bl (x / 2 ^ m) ≤ k ↔ bl x - m ≤ k := by
    intro k
    rw [bl_le, Nat.sub_le_iff_le_add, bl_le, Nat.div_lt_iff_lt_mul (pp _), ← Nat.pow_add]
  exact Nat.le_antisymm ((key _).mpr (Nat.le_refl _)) ((key _).mp (Nat.le_refl _))
theorem dg_top {w x k : Nat} (hx : x < 2 ^ (w * (k + 1))) : dg w x k = x / 2 ^ (w * k) := by
  unfold dg
  apply Nat.mod_eq_of_lt
  rw [Nat.div_lt_iff_lt_mul (pp _), ← Nat.pow_add, Nat.add_comm]
  rwa [Nat.mul_succ] at hx
theorem bits_eq {w x : Nat} (hw : 1 ≤ w) (h : 0 < nd w x) : (nd w x - 1) * w + bl (dg w x (nd w x - 1)) = bl x := by
  have h1 := (nd_lt (n := x) (k := nd w x - 1) hw).mp (by omega)
  have h2 : x < 2 ^ (w * (nd w x - 1 + 1)) := by rw [Nat.sub_add_cancel h]; exact lt_nd hw x
  rw [dg_top h2, bl_shr]
  have := bl_lt.mpr h1
  rw [Nat.mul_comm w] at this ⊢
  omega
theorem bit_eq {w x n : Nat} (hw : 1 ≤ w) : dg w x (n / w) / 2 ^ (n % w) % 2 = x / 2 ^ n % 2 := by
  have hr : n % w < w := Nat.mod_lt _ (by omega)
  have e : n = w * (n / w) + n % w := (Nat.div_add_mod n w).symm
  have ew : w = n % w + (w - n % w - 1 + 1) := by omega
  unfold dg
  have e1 : 2 ^ w = 2 ^ (n % w) * 2 ^ (w - n % w - 1 + 1) := by rw [← Nat.pow_add, ← ew]
  rw [e1, Nat.mod_mul_right_div_self, Nat.div_div_eq_div_mul, ← Nat.pow_add, ← e, Nat.pow_succ, Nat.mul_comm (2 ^ _) 2, Nat.mod_mul_right_mod]
theorem bit_big {w x n : Nat} (hw : 1 ≤ w) (h : ¬ n / w < nd w x) : x / 2 ^ n % 2 = 0 := by
  rw [← bit_eq (w := w) hw, dg_big hw (by omega)]; simp
def cmpI (x y : Nat) : Int := if x < y then -1 else if y < x then 1 else 0
theorem cmp_top {w x y r : Nat} (h : x / 2 ^ (w * (r + 1)) = y / 2 ^ (w * (r + 1))) (hd : dg w x r ≠ dg w y r) : cmpI x y = if dg w x r < dg w y r then -1 else 1 := by
  have e1 := @div_split w x r
  have e2 := @div_split w y r
  rw [h] at e1
  unfold cmpI
  by_cases hl : dg w x r < dg w y r
  · rw [if_pos hl, if_pos]
    refine Nat.lt_of_not_le fun k => ?_
    have := Nat.div_le_div_right (c := 2 ^ (w * r)) k
    omega
  · rw [if_neg hl]
    have k : y < x := by
      refine Nat.lt_of_not_le fun k => ?_
      have := Nat.div_le_div_right (c := 2 ^ (w * r)) k
      omega
    rw [if_neg (by omega), if_pos k]
theorem cmp_len {w x y : Nat} (hw : 1 ≤ w) (h : nd w x ≠ nd w y) : cmpI x y = if nd w x < nd w y then -1 else 1 := by
  unfold cmpI
  by_cases hl : nd w x < nd w y
  · rw [if_pos hl, if_pos (Nat.lt_of_not_le fun k => by have := nd_mono hw k; omega)]
  · have k : y < x := Nat.lt_of_not_le fun k => by have := nd_mono hw k; omega
    rw [if_neg hl, if_neg (by omega), if_pos k]
theorem eq_len {w x y : Nat} (hw : 1 ≤ w) (h : nd w x = nd w y) : x / 2 ^ (w * nd w x) = y / 2 ^ (w * nd w x) := by rw [div_nd hw, h, div_nd hw]
theorem cmp_eq {x y : Nat} (h : x = y) : cmpI x y = 0 := by subst h; simp [cmpI]
theorem cmp_same {w x y r : Nat} (h : x / 2 ^ (w * (r + 1)) = y / 2 ^ (w * (r + 1))) (hd : dg w x r = dg w y r) : x / 2 ^ (w * r) = y / 2 ^ (w * r) := by
  rw [@div_split w x r, @div_split w y r, h, hd]
theorem cmp_lt {x y : Nat} : cmpI x y < 0 ↔ x < y := by unfold cmpI; (repeat' split) <;> omega
theorem cmp_ge {x y : Nat} : 0 ≤ cmpI x y ↔ y ≤ x := by unfold cmpI; (repeat' split) <;> omega
theorem rev_getD {w x i : Nat} (h : i < nd w x) : (L w x).reverse.getD i 0 = ((dg w x (nd w x - 1 - i) : Nat) : Int) := by
  have hl : i < (L w x).length := by rw [L_length]; exact h
  rw [List.getD_eq_getElem?_getD, List.getElem?_reverse hl, ← List.getD_eq_getElem?_getD, L_length]
  exact Dk_getD (by omega)
theorem rev_step {w x i : Nat} (h : i < nd w x) : x / 2 ^ (w * (nd w x - i)) * 2 ^ w + dg w x (nd w x - 1 - i) = x / 2 ^ (w * (nd w x - (i + 1))) := by
  have e : nd w x - i = nd w x - (i + 1) + 1 := by omega
  have e2 : nd w x - 1 - i = nd w x - (i + 1) := by omega
  rw [e, e2, ← div_split]
theorem shl_mod {w x m f i : Nat} (hm : m = w * i) : (x % 2 ^ (w * i)) * 2 ^ f / 2 ^ (w * i) < 2 ^ f := by
  rw [Nat.div_lt_iff_lt_mul (pp _), Nat.mul_comm]
  exact Nat.mul_lt_mul_of_pos_left (Nat.mod_lt _ (pp _)) (pp _)
/-- the carry of a shift -/
def sc (w f x i : Nat) : Nat := (x % 2 ^ (w * i)) * 2 ^ f / 2 ^ (w * i)
theorem sc_lt {w f x i : Nat} : sc w f x i < 2 ^ f := shl_mod rfl
theorem sc_zero {w f x : Nat} : sc w f x 0 = 0 := by unfold sc; simp [Nat.mod_one]
theorem sc_add {w f x i : Nat} : sc w f x i + dg w x i * 2 ^ f = (x % 2 ^ (w * (i + 1))) * 2 ^ f / 2 ^ (w * i) := by
  unfold sc
  rw [mod_step, Nat.add_mul, Nat.mul_assoc, Nat.add_mul_div_left _ _ (pp _)]
theorem sc_next {w f x i : Nat} : (sc w f x i + dg w x i * 2 ^ f) / 2 ^ w = sc w f x (i + 1) := by
  rw [sc_add]; unfold sc
  rw [Nat.div_div_eq_div_mul, ← Nat.pow_add, Nat.mul_succ]
theorem sc_dg {w f x i s n : Nat} (hn : n = w * s + f) : (sc w f x i + dg w x i * 2 ^ f) % 2 ^ w = dg w (x * 2 ^ n) (s + i) := by
  rw [sc_add]; unfold dg
  have e1 : x * 2 ^ n / 2 ^ (w * (s + i)) = x * 2 ^ f / 2 ^ (w * i) := by
    rw [hn, Nat.mul_add, Nat.pow_add, Nat.pow_add, Nat.mul_comm (2 ^ (w * s)) (2 ^ f), ← Nat.mul_assoc, Nat.mul_comm (2 ^ (w * s)), Nat.mul_div_mul_right _ _ (pp _)]
  rw [e1]
  have e2 : x * 2 ^ f = x % 2 ^ (w * (i + 1)) * 2 ^ f + 2 ^ (w * i) * (2 ^ w * (x / 2 ^ (w * (i + 1)) * 2 ^ f)) := by
    have h1 := Nat.div_add_mod x (2 ^ (w * (i + 1)))
    conv => lhs; rw [← h1]
    rw [Nat.add_mul, Nat.add_comm]
    congr 1
    rw [Nat.mul_succ, Nat.pow_add]
    simp only [Nat.mul_assoc]
  conv => rhs; rw [e2, Nat.add_mul_div_left _ _ (pp _), Nat.add_mul_mod_self_left]
theorem sc_end {w f x : Nat} (hw : 1 ≤ w) : sc w f x (nd w x) = x * 2 ^ f / 2 ^ (w * nd w x) := by
  unfold sc; rw [Nat.mod_eq_of_lt (lt_nd hw x)]
theorem sc_done {w f x s n : Nat} (hw : 1 ≤ w) (hf : f < w) (hn : n = w * s + f) (hx : 0 < x) :
    (if 0 < sc w f x (nd w x) then Dk w (s + nd w x) (x * 2 ^ n) ++ [((sc w f x (nd w x) : Nat) : Int)] else Dk w (s + nd w x) (x * 2 ^ n)) = L w (x * 2 ^ n) := by
  have e := @sc_end w f x hw
  have hb := (nd_lt (n := x) (k := nd w x - 1) hw).mp (by have := nd_pos hw hx; omega)
  have hq : x * 2 ^ n / 2 ^ (w * (s + nd w x)) = sc w f x (nd w x) := by
    rw [e, hn, Nat.mul_add, Nat.pow_add, Nat.pow_add, Nat.mul_comm (2 ^ (w * s)) (2 ^ f), ← Nat.mul_assoc, Nat.mul_comm (2 ^ (w * s)), Nat.mul_div_mul_right _ _ (pp _)]
  have hlt : sc w f x (nd w x) < 2 ^ w := Nat.lt_of_lt_of_le sc_lt (Nat.pow_le_pow_right (by decide) (by omega))
  by_cases h0 : 0 < sc w f x (nd w x)
  · rw [if_pos h0]
    have hd : dg w (x * 2 ^ n) (s + nd w x) = sc w f x (nd w x) := by unfold dg; rw [hq, Nat.mod_eq_of_lt hlt]
    rw [← hd, ← Dk_succ]
    refine L_eq_Dk hw ?_ (.inr ?_)
    · rw [← hq, Nat.div_lt_iff_lt_mul (pp _), ← Nat.pow_add] at hlt
      rw [Nat.mul_succ, Nat.add_comm (w * _) w]; exact hlt
    · rw [Nat.add_sub_cancel]
      exact Nat.le_of_not_lt fun k => by rw [Nat.div_eq_of_lt k] at hq; omega
  · rw [if_neg h0]
    refine L_eq_Dk hw ?_ (.inr ?_)
    · have h2 : x * 2 ^ n / 2 ^ (w * (s + nd w x)) < 1 := by omega
      rw [Nat.div_lt_iff_lt_mul (pp _)] at h2; omega
    · have : s + nd w x - 1 = s + (nd w x - 1) := by have := nd_pos hw hx; omega
      rw [this, Nat.mul_add, Nat.pow_add, Nat.mul_comm, hn, Nat.pow_add, Nat.mul_comm (2 ^ (w * s)) (2 ^ f), ← Nat.mul_assoc]
      refine Nat.mul_le_mul_right _ (Nat.le_trans hb (Nat.le_mul_of_pos_right _ (pp _)))
/-- a digit of a right shift -/
theorem shr_dg {w x n s f j : Nat} (hf : f < w) (hn : n = w * s + f) : (dg w x (s + j) / 2 ^ f + dg w x (s + j + 1) * 2 ^ (w - f)) % 2 ^ w = dg w (x / 2 ^ n) j := by
  have e0 : x / 2 ^ n / 2 ^ (w * j) = x / 2 ^ (w * (s + j)) / 2 ^ f := by
    rw [Nat.div_div_eq_div_mul, Nat.div_div_eq_div_mul, ← Nat.pow_add, ← Nat.pow_add, hn, Nat.mul_add]; congr 2; omega
  have e1 : dg w x (s + j + 1) = x / 2 ^ (w * (s + j)) / 2 ^ w % 2 ^ w := by unfold dg; rw [div_step]
  unfold dg at *
  rw [e0, e1]
  generalize x / 2 ^ (w * (s + j)) = y
  have ew : 2 ^ w = 2 ^ f * 2 ^ (w - f) := by rw [← Nat.pow_add]; congr 1; omega
  have e2 : y / 2 ^ f = y % 2 ^ w / 2 ^ f + 2 ^ (w - f) * (y / 2 ^ w) := by
    have h1 := Nat.div_add_mod y (2 ^ w)
    conv => lhs; rw [← h1]
    rw [Nat.add_comm, ew, Nat.mul_assoc, Nat.add_mul_div_left _ _ (pp _), ← ew]
  rw [e2]
  generalize y % 2 ^ w / 2 ^ f = A
  generalize y / 2 ^ w = Bq
  have h3 := Nat.div_add_mod Bq (2 ^ w)
  conv => rhs; rw [← h3]
  rw [Nat.mul_add, ← Nat.add_assoc, Nat.add_right_comm, Nat.mul_comm (Bq % 2 ^ w)]
  have : 2 ^ (w - f) * (2 ^ w * (Bq / 2 ^ w)) = 2 ^ w * (2 ^ (w - f) * (Bq / 2 ^ w)) := by rw [← Nat.mul_assoc, ← Nat.mul_assoc, Nat.mul_comm (2 ^ (w - f))]
  rw [this, Nat.add_mul_mod_self_left]
theorem shr_lt {w x n s f : Nat} (hw : 1 ≤ w) (hn : n = w * s + f) : x / 2 ^ n < 2 ^ (w * (nd w x - s)) := by
  have h := lt_nd hw (x / 2 ^ (w * s))
  rw [nd_div hw] at h
  refine Nat.lt_of_le_of_lt ?_ h
  rw [hn, Nat.pow_add, ← Nat.div_div_eq_div_mul]
  exact Nat.div_le_self _ _
end

section
open PySem
theorem dg_low {w s a b i : Nat} (h : i < s) : dg w (a % 2 ^ (w * s) + b * 2 ^ (w * s)) i = dg w a i := by
  rw [← dg_mod (w := w) (n := a % 2 ^ (w * s) + b * 2 ^ (w * s)) h, Nat.add_mul_mod_self_right, Nat.mod_mod, dg_mod h]
theorem dg_high {w s a b i : Nat} : dg w (a % 2 ^ (w * s) + b * 2 ^ (w * s)) (s + i) = dg w b i := by
  rw [← dg_div, Nat.add_mul_div_right _ _ (pp _), Nat.div_eq_of_lt (Nat.mod_lt _ (pp _)), Nat.zero_add]
theorem Dk_cat {w s k a b : Nat} : Dk w s a ++ Dk w k b = Dk w (s + k) (a % 2 ^ (w * s) + b * 2 ^ (w * s)) := by
  unfold Dk
  rw [List.range_add, List.map_append, List.map_map]
  congr 1
  · exact List.map_congr_left fun i hi => by rw [dg_low (List.mem_range.mp hi)]
  · exact List.map_congr_left fun i hi => by simp only [Function.comp]; rw [dg_high]
theorem L_cat {w s a b : Nat} (hw : 1 ≤ w) (hb : 0 < b) : Dk w s a ++ L w b = L w (a % 2 ^ (w * s) + b * 2 ^ (w * s)) := by
  have hp := nd_pos hw hb
  unfold L
  rw [Dk_cat]
  refine L_eq_Dk hw ?_ (.inr ?_)
  · have h1 := lt_nd hw b
    have h2 := Nat.mod_lt a (pp (w * s))
    have h3 : (b + 1) * 2 ^ (w * s) ≤ 2 ^ (w * nd w b) * 2 ^ (w * s) := Nat.mul_le_mul_right _ h1
    rw [← Nat.pow_add, Nat.add_mul, Nat.one_mul] at h3
    rw [Nat.mul_add, Nat.add_comm (w * s)]
    omega
  · have h1 := (nd_lt (n := b) (k := nd w b - 1) hw).mp (by omega)
    have e : w * (s + nd w b - 1) = w * (nd w b - 1) + w * s := by rw [← Nat.mul_add]; congr 1; omega
    rw [e, Nat.pow_add]
    exact Nat.le_trans (Nat.mul_le_mul_right _ h1) (Nat.le_add_left _ _)
theorem L_pad {w s x : Nat} (hw : 1 ≤ w) (h : nd w x ≤ s) : L w x ++ List.replicate (s - nd w x) 0 = Dk w s x := by
  unfold L Dk
  conv => rhs; rw [show s = nd w x + (s - nd w x) from by omega, List.range_add, List.map_append, List.map_map]
  congr 1
  refine (List.eq_replicate_iff.mpr ⟨by simp, fun b hb => ?_⟩).symm
  obtain ⟨i, _, rfl⟩ := List.mem_map.mp hb
  simp only [Function.comp]
  rw [dg_big hw (by omega)]; rfl
theorem add_at_pad {w s x y : Nat} (hw : 1 ≤ w) (h : nd w x ≤ s) (hy : 0 < y) : L w x ++ List.replicate (s - nd w x) 0 ++ L w y = L w (x + y * 2 ^ (w * s)) := by
  rw [L_pad hw h, L_cat hw hy, Nat.mod_eq_of_lt ((nd_le hw).mp h)]
theorem add_at_in {w s x y : Nat} (hw : 1 ≤ w) (h : s < nd w x) : (L w x).take s ++ L w (x / 2 ^ (w * s) + y) = L w (x + y * 2 ^ (w * s)) := by
  have hp : 0 < x / 2 ^ (w * s) := (div_pos_iff hw).mpr h
  rw [L_take, Nat.min_eq_left (by omega), Dk_mod, L_cat hw (by omega), Nat.add_mul, ← Nat.add_assoc]
  congr 2
  have := Nat.div_add_mod x (2 ^ (w * s))
  rw [Nat.mul_comm] at this
  omega
/-- one digit of a difference -/
theorem sub_digit {w x y q i : Nat} (hx : x = y + q) : (cy w y q (i + 1) = 1 ∧ ((dg w x i : Nat) : Int) - (cy w y q i : Nat) - (dg w y i : Nat) < 0 ∧ ((dg w x i : Nat) : Int) - (cy w y q i : Nat) - (dg w y i : Nat) + ((2 ^ w : Nat) : Int) = (dg w q i : Nat)) ∨
    (cy w y q (i + 1) = 0 ∧ ¬ ((dg w x i : Nat) : Int) - (cy w y q i : Nat) - (dg w y i : Nat) < 0 ∧ ((dg w x i : Nat) : Int) - (cy w y q i : Nat) - (dg w y i : Nat) = (dg w q i : Nat)) := by
  subst hx
  have h1 := @cy_dg w y q i
  have h2 := @cy_next w y q i
  have h3 := @cy_le w y q (i + 1)
  have h4 := Nat.div_add_mod (cy w y q i + (dg w y i + dg w q i)) (2 ^ w)
  rw [h1, h2] at h4
  have h5 : dg w q i < 2 ^ w := dg_lt
  rcases (by omega : cy w y q (i + 1) = 0 ∨ cy w y q (i + 1) = 1) with h | h
  · right
    rw [h, Nat.mul_zero] at h4
    omega
  · left
    rw [h, Nat.mul_one] at h4
    generalize (2 ^ w : Nat) = B at *
    omega
end

section
open PySem
/-! roots -/
def rt (k : Nat) : Nat → Nat
  | 0 => 0
  | n + 1 => if (rt k n + 1) ^ k ≤ n + 1 then rt k n + 1 else rt k n
theorem pow_mono {a b k : Nat} (h : a ≤ b) : a ^ k ≤ b ^ k := Nat.pow_le_pow_left h k
theorem pow_strict {a b k : Nat} (hk : 1 ≤ k) (h : a < b) : a ^ k < b ^ k := Nat.pow_lt_pow_left h (by omega)
theorem rt_spec {k n : Nat} (hk : 1 ≤ k) : rt k n ^ k ≤ n ∧ n < (rt k n + 1) ^ k := by
  induction n with
  | zero => exact ⟨by show 0 ^ k ≤ 0; rw [Nat.zero_pow (by omega)]; exact Nat.le_refl 0, by show 0 < (0 + 1) ^ k; rw [Nat.zero_add, Nat.one_pow]; decide⟩
  | succ n ih =>
    unfold rt
    split
    · rename_i h
      refine ⟨h, ?_⟩
      have := pow_strict (k := k) hk (show rt k n + 1 < rt k n + 1 + 1 by omega)
      omega
    · rename_i h
      exact ⟨by omega, by omega⟩
theorem rt_uniq {k n r : Nat} (hk : 1 ≤ k) (h1 : r ^ k ≤ n) (h2 : n < (r + 1) ^ k) : rt k n = r := by
  obtain ⟨s1, s2⟩ := rt_spec (n := n) hk
  rcases Nat.lt_trichotomy (rt k n) r with h | h | h
  · have := pow_mono (k := k) (show rt k n + 1 ≤ r from h); omega
  · exact h
  · have := pow_mono (k := k) (show r + 1 ≤ rt k n from h); omega
theorem le_rt {k n r : Nat} (hk : 1 ≤ k) : r ≤ rt k n ↔ r ^ k ≤ n := by
  obtain ⟨s1, s2⟩ := rt_spec (n := n) hk
  constructor
  · intro h; exact Nat.le_trans (pow_mono h) s1
  · intro h
    refine Nat.le_of_not_lt fun q => ?_
    have := pow_mono (k := k) (show rt k n + 1 ≤ r from q); omega
theorem rt_le {k n : Nat} (hk : 1 ≤ k) : rt k n ≤ n := by
  obtain ⟨s1, _⟩ := rt_spec (n := n) hk
  have : rt k n ≤ rt k n ^ k := Nat.le_self_pow (by omega) _
  omega
theorem rt_bl {k n : Nat} (hk : 1 ≤ k) : bl (rt k n) ≤ bl n := bl_mono (rt_le hk)
theorem rt_pow_bl {k n : Nat} (hk : 1 ≤ k) : bl (rt k n ^ k) ≤ bl n := bl_mono (rt_spec hk).1
theorem rt_zero {k : Nat} : rt k 0 = 0 := rfl
theorem rt_one {k n : Nat} (hk : 1 ≤ k) (h1 : 1 ≤ n) (h2 : n < 2 ^ k) : rt k n = 1 := rt_uniq hk (by rw [Nat.one_pow]; exact h1) h2
theorem rt_id {n : Nat} : rt 1 n = n := rt_uniq (Nat.le_refl 1) (by rw [Nat.pow_one]; exact Nat.le_refl n) (by rw [Nat.pow_one]; omega)
theorem bl_pow {b i : Nat} : bl (b ^ i) ≤ bl b * i + 1 := by
  induction i with
  | zero => rw [Nat.pow_zero]; show bl 1 ≤ bl b * 0 + 1; rw [show bl 1 = 1 from rfl]; omega
  | succ i ih =>
    by_cases hb : b = 0
    · subst hb; rw [Nat.zero_pow (by omega)]; simp [bl_zero]
    · rw [Nat.pow_succ, Nat.mul_succ]
      have := @bl_mul (b ^ i) b
      omega

/-- square roots digit by digit -/
theorem four_pow (m : Nat) : 4 ^ m = 2 ^ m * 2 ^ m := by rw [← Nat.mul_pow]
def dgt (m : Nat) : Nat := 4 ^ m / 4
theorem dgt_succ {m : Nat} : dgt (m + 1) = 4 ^ m := by unfold dgt; rw [Nat.pow_succ, Nat.mul_div_cancel _ (by decide)]
theorem dgt_zero : dgt 0 = 0 := rfl
theorem small_sq {m q : Nat} : (2 ^ m * (2 * q + 1)) ^ 2 = (2 ^ (m + 1) * q) ^ 2 + (4 ^ (m + 1) * q + 4 ^ m) := by
  have := four_pow m
  grind
theorem small_sq2 {m q : Nat} : 2 ^ m * (2 * q) = 2 ^ (m + 1) * q := by grind
theorem small_half {m q : Nat} : 4 ^ (m + 1) * q / 2 ^ 1 = 4 ^ m * (2 * q) := by
  have : 4 ^ (m + 1) * q = 4 ^ m * (2 * q) * 2 := by grind
  rw [this]; omega
theorem small_next {N m q : Nat} (h1 : (2 ^ (m + 1) * q) ^ 2 ≤ N) (h2 : N < (2 ^ (m + 1) * (q + 1)) ^ 2) :
    (4 ^ (m + 1) * q + 4 ^ m ≤ N - (2 ^ (m + 1) * q) ^ 2 → (2 ^ m * (2 * q + 1)) ^ 2 ≤ N ∧ N < (2 ^ m * (2 * q + 1 + 1)) ^ 2 ∧ N - (2 ^ (m + 1) * q) ^ 2 - 4 ^ (m + 1) * q - 4 ^ m = N - (2 ^ m * (2 * q + 1)) ^ 2) ∧
    (¬ 4 ^ (m + 1) * q + 4 ^ m ≤ N - (2 ^ (m + 1) * q) ^ 2 → (2 ^ m * (2 * q)) ^ 2 ≤ N ∧ N < (2 ^ m * (2 * q + 1)) ^ 2 ∧ N - (2 ^ (m + 1) * q) ^ 2 = N - (2 ^ m * (2 * q)) ^ 2) := by
  have e := @small_sq m q
  have e2 : 2 ^ m * (2 * q + 1 + 1) = 2 ^ (m + 1) * (q + 1) := by grind
  rw [e2, small_sq2]
  constructor
  · intro h; refine ⟨by omega, h2, by omega⟩
  · intro h; exact ⟨h1, by omega, rfl⟩

/-- the greedy root, bit by bit -/
theorem greedy {u r R : Nat} (hu : u = R / 2 ^ r) : (R / 2 ^ (r + 1) * 2 ^ (r + 1) + 2 ^ r ≤ R → R / 2 ^ (r + 1) * 2 ^ (r + 1) + 2 ^ r = R / 2 ^ r * 2 ^ r) ∧ (¬ R / 2 ^ (r + 1) * 2 ^ (r + 1) + 2 ^ r ≤ R → R / 2 ^ (r + 1) * 2 ^ (r + 1) = R / 2 ^ r * 2 ^ r) := by
  have e : R / 2 ^ (r + 1) = u / 2 := by rw [hu, Nat.div_div_eq_div_mul, ← Nat.pow_succ]
  rw [e, ← hu]
  have e2 : u / 2 * 2 ^ (r + 1) + 2 ^ r = (2 * (u / 2) + 1) * 2 ^ r := by grind
  have e3 : u / 2 * 2 ^ (r + 1) = 2 * (u / 2) * 2 ^ r := by grind
  rw [e2, e3]
  constructor
  · intro h
    rw [← Nat.le_div_iff_mul_le (pp r), ← hu] at h
    have : 2 * (u / 2) + 1 = u := by omega
    rw [this]
  · intro h
    rw [← Nat.le_div_iff_mul_le (pp r), ← hu] at h
    have : 2 * (u / 2) = u := by omega
    rw [this]
theorem rt_lt_top {k n m : Nat} (hk : 1 ≤ k) (hm : bl n ≤ m * k) : rt k n < 2 ^ m := by
  refine Nat.lt_of_not_le fun h => ?_
  rw [le_rt hk, ← Nat.pow_mul] at h
  have := bl_le.mp hm
  omega
theorem greedy_bl {k n r : Nat} (hk : 1 ≤ k) : bl (rt k n / 2 ^ (r + 1) * 2 ^ (r + 1) + 2 ^ r) ≤ max (bl n) (r + 1) + 1 := by
  refine bl_add ?_ ?_
  · have : rt k n / 2 ^ (r + 1) * 2 ^ (r + 1) ≤ rt k n := Nat.div_mul_le_self _ _
    have := bl_mono this
    have := @rt_bl k n hk
    omega
  · rw [bl_pow2]; omega

/-- pairs of bits -/
theorem sq_step {z d : Nat} (hd : d < 4) : (4 * rt 2 z + 1 ≤ 4 * (z - rt 2 z ^ 2) + d → rt 2 (4 * z + d) = 2 * rt 2 z + 1 ∧ 4 * z + d - (2 * rt 2 z + 1) ^ 2 = 4 * (z - rt 2 z ^ 2) + d - (4 * rt 2 z + 1)) ∧
    (¬ 4 * rt 2 z + 1 ≤ 4 * (z - rt 2 z ^ 2) + d → rt 2 (4 * z + d) = 2 * rt 2 z ∧ 4 * z + d - (2 * rt 2 z) ^ 2 = 4 * (z - rt 2 z ^ 2) + d) := by
  obtain ⟨h1, h2⟩ := rt_spec (k := 2) (n := z) (by decide)
  generalize rt 2 z = s at *
  have e0 : (s + 1) ^ 2 = s ^ 2 + 2 * s + 1 := by grind
  have e1 : (2 * s + 1) ^ 2 = 4 * s ^ 2 + 4 * s + 1 := by grind
  have e2 : (2 * s) ^ 2 = 4 * s ^ 2 := by grind
  have e3 : (2 * s + 1 + 1) ^ 2 = 4 * (s ^ 2 + 2 * s + 1) := by grind
  constructor
  · intro h
    refine ⟨rt_uniq (by decide) (by omega) (by omega), by omega⟩
  · intro h
    refine ⟨rt_uniq (by decide) (by omega) (by omega), by omega⟩
theorem pair_eq {x r : Nat} : x / 4 ^ r = 4 * (x / 4 ^ (r + 1)) + (2 * (x / 2 ^ (2 * r + 1) % 2) + x / 2 ^ (2 * r) % 2) := by
  have e1 : (4 : Nat) ^ r = 2 ^ (2 * r) := by rw [Nat.pow_mul]
  have e2 : (4 : Nat) ^ (r + 1) = 2 ^ (2 * r) * 4 := by rw [Nat.pow_succ, e1]
  rw [e1, e2, Nat.pow_succ, ← Nat.div_div_eq_div_mul, ← Nat.div_div_eq_div_mul]
  omega
theorem pair_top {x : Nat} : x / 4 ^ ((bl x + 1) / 2) = 0 := by
  apply Nat.div_eq_of_lt
  rw [show (4 : Nat) = 2 ^ 2 from rfl, ← Nat.pow_mul]
  exact Nat.lt_of_lt_of_le (lt_bl x) (Nat.pow_le_pow_right (by decide) (by omega))
theorem rest_bl {k x : Nat} : bl (x - rt k x ^ k) ≤ bl x := bl_sub

/-- powers by squares -/
theorem pow_step {x k r : Nat} : (k / 2 ^ r % 2 = 1 → x ^ (k / 2 ^ (r + 1)) * x ^ (k / 2 ^ (r + 1)) * x = x ^ (k / 2 ^ r)) ∧ (¬ k / 2 ^ r % 2 = 1 → x ^ (k / 2 ^ (r + 1)) * x ^ (k / 2 ^ (r + 1)) = x ^ (k / 2 ^ r)) := by
  rw [Nat.pow_succ, ← Nat.div_div_eq_div_mul, ← Nat.pow_add]
  constructor
  · intro h
    rw [← Nat.pow_succ]; congr 1; omega
  · intro h
    congr 1; omega
theorem pow_le_bl {x a b B : Nat} (h : a ≤ b) (hB : bl (x ^ b) ≤ B) (hB1 : 1 ≤ B) : bl (x ^ a) ≤ B := by
  by_cases hx : x = 0
  · subst hx
    by_cases ha : a = 0
    · subst ha; exact hB1
    · rw [Nat.zero_pow (by omega)]; simp [bl_zero]
  · exact Nat.le_trans (bl_mono (Nat.pow_le_pow_right (by omega) h)) hB
end

section
open PySem
/-- the square root by halves -/
theorem zim {U M T B x q u : Nat} (hM : M < B) (hT : T < B) (hS : B ≤ 2 * rt 2 U) (hx : x = U * (B * B) + M * B + T)
    (hq : q = (M + (U - rt 2 U ^ 2) * B) / (rt 2 U * 2)) (hu : u = (M + (U - rt 2 U ^ 2) * B) % (rt 2 U * 2)) :
    (q * q ≤ T + u * B → rt 2 x = q + rt 2 U * B ∧ x - rt 2 x ^ 2 = T + u * B - q * q) ∧
    (¬ q * q ≤ T + u * B → rt 2 x = q + rt 2 U * B - 1 ∧ 1 ≤ q + rt 2 U * B ∧ q * q + 1 ≤ T + u * B + (q + rt 2 U * B) * 2 ∧ x - rt 2 x ^ 2 = T + u * B + (q + rt 2 U * B) * 2 - (q * q + 1)) := by
  obtain ⟨s1, s2⟩ := rt_spec (k := 2) (n := U) (by decide)
  generalize rt 2 U = S at *
  obtain ⟨R, hR⟩ : ∃ R, U = S ^ 2 + R := ⟨U - S ^ 2, by omega⟩
  have hR2 : R ≤ 2 * S := by
    have : (S + 1) ^ 2 = S ^ 2 + 2 * S + 1 := by grind
    omega
  rw [show U - S ^ 2 = R from by omega] at hq hu
  have hS0 : 0 < S * 2 := by omega
  have h := Nat.div_add_mod (M + R * B) (S * 2)
  rw [← hq, ← hu] at h
  have hu2 : u < S * 2 := hu ▸ Nat.mod_lt _ hS0
  have key : x + q * q = (q + S * B) * (q + S * B) + (T + u * B) := by
    subst hR
    grind
  have hub : T + u * B + 1 ≤ 2 * (S * B) := by
    have h1 : (u + 1) * B ≤ S * 2 * B := Nat.mul_le_mul_right _ hu2
    have h2 : (u + 1) * B = u * B + B := by grind
    have h3 : S * 2 * B = 2 * (S * B) := by grind
    omega
  have hsq : (q + S * B + 1) ^ 2 = (q + S * B) * (q + S * B) + 2 * (q + S * B) + 1 := by grind
  have hsq0 : (q + S * B) ^ 2 = (q + S * B) * (q + S * B) := by grind
  constructor
  · intro hc
    have e : rt 2 x = q + S * B := rt_uniq (by decide) (by omega) (by omega)
    rw [e]
    exact ⟨rfl, by omega⟩
  · intro hc
    have hq1 : 1 ≤ q := by
      refine Nat.one_le_iff_ne_zero.mpr ?_
      rintro rfl
      simp at hc
    have hqB : q ≤ B := by
      refine Nat.le_of_not_lt fun k => ?_
      have h1 : S * 2 * (B + 1) ≤ S * 2 * q := Nat.mul_le_mul_left _ k
      have h2 : R * B ≤ 2 * S * B := Nat.mul_le_mul_right _ hR2
      have h3 : S * 2 * (B + 1) = 2 * S * B + 2 * S := by grind
      omega
    obtain ⟨p, rfl⟩ : ∃ p, q = p + 1 := ⟨q - 1, by omega⟩
    have hp : p * p ≤ 2 * (S * B) := by
      have h1 : p * p ≤ B * B := Nat.mul_le_mul (by omega) (by omega)
      have h2 : B * B ≤ 2 * S * B := Nat.mul_le_mul_right _ hS
      have h3 : 2 * S * B = 2 * (S * B) := by grind
      omega
    have hpp : (p + 1) * (p + 1) = p * p + 2 * p + 1 := by grind
    have e0 : p + 1 + S * B - 1 = p + S * B := by omega
    have e1 : (p + S * B) ^ 2 + (2 * (p + S * B) + 1) = (p + 1 + S * B) * (p + 1 + S * B) := by grind
    have e2 : (p + S * B + 1) ^ 2 = (p + 1 + S * B) * (p + 1 + S * B) := by grind
    rw [e0]
    have e : rt 2 x = p + S * B := rt_uniq (by decide) (by omega) (by omega)
    rw [e]
    exact ⟨rfl, by omega, by omega, by omega⟩
theorem split_eq {x w p : Nat} : x = x / 2 ^ (w * (2 * p)) * (2 ^ (w * p) * 2 ^ (w * p)) + x % 2 ^ (w * (2 * p)) / 2 ^ (w * p) * 2 ^ (w * p) + x % 2 ^ (w * (2 * p)) % 2 ^ (w * p) := by
  have e : 2 ^ (w * p) * 2 ^ (w * p) = 2 ^ (w * (2 * p)) := by rw [← Nat.pow_add]; congr 1; grind
  rw [e]
  have h1 := Nat.div_add_mod x (2 ^ (w * (2 * p)))
  have h2 := Nat.div_add_mod (x % 2 ^ (w * (2 * p))) (2 ^ (w * p))
  rw [Nat.mul_comm] at h1 h2
  omega
theorem mid_lt {x w p : Nat} : x % 2 ^ (w * (2 * p)) / 2 ^ (w * p) < 2 ^ (w * p) := by
  rw [Nat.div_lt_iff_lt_mul (pp _), ← Nat.pow_add, show w * p + w * p = w * (2 * p) from by grind]
  exact Nat.mod_lt _ (pp _)
theorem upper_lt {x w p s : Nat} (hp : 2 * p ≤ s) (h : x < 2 ^ (w * s)) : x / 2 ^ (w * (2 * p)) < 2 ^ (w * (s - 2 * p)) := by
  rw [Nat.div_lt_iff_lt_mul (pp _), ← Nat.pow_add, ← Nat.mul_add, Nat.sub_add_cancel hp]; exact h
theorem upper_ge {x w p s : Nat} (hw : 1 ≤ w) (hp : 2 * p + 2 ≤ s) (h : 2 ^ (w * s) ≤ 4 * x) : 2 ^ (w * (s - 2 * p)) ≤ 4 * (x / 2 ^ (w * (2 * p))) := by
  have h2 : 2 ≤ w * (s - 2 * p) := by
    have : 1 * 2 ≤ w * (s - 2 * p) := Nat.mul_le_mul hw (by omega)
    omega
  obtain ⟨e, he⟩ : ∃ e, w * (s - 2 * p) = e + 2 := ⟨w * (s - 2 * p) - 2, by omega⟩
  have hs : w * s = e + w * (2 * p) + 2 := by
    have : w * s = w * (s - 2 * p) + w * (2 * p) := by rw [← Nat.mul_add, Nat.sub_add_cancel (by omega)]
    omega
  rw [he, Nat.pow_succ, Nat.pow_succ]
  rw [hs, Nat.pow_succ, Nat.pow_succ, Nat.pow_add] at h
  have h3 : 2 ^ e ≤ x / 2 ^ (w * (2 * p)) := by
    rw [Nat.le_div_iff_mul_le (pp _)]; omega
  omega
theorem root_big {U w p s : Nat} (hw : 1 ≤ w) (hp1 : 1 ≤ p) (hp : 2 * p ≤ s) (h : 2 ^ (w * s) ≤ 4 * U) : 2 ^ (w * p) ≤ 2 * rt 2 U := by
  have h1 : 1 ≤ w * p := Nat.mul_pos hw hp1
  obtain ⟨e, he⟩ : ∃ e, w * p = e + 1 := ⟨w * p - 1, by omega⟩
  rw [he, Nat.pow_succ, Nat.mul_comm]
  refine Nat.mul_le_mul_left _ ?_
  rw [le_rt (by decide)]
  have h2 : 2 ^ (w * (2 * p)) ≤ 2 ^ (w * s) := Nat.pow_le_pow_right (by decide) (Nat.mul_le_mul_left _ hp)
  have h3 : w * (2 * p) = 2 * (w * p) := by grind
  rw [h3, he] at h2
  have h4 : 2 ^ (2 * (e + 1)) = 4 * (2 ^ e) ^ 2 := by
    rw [← Nat.pow_mul, show 2 * (e + 1) = e * 2 + 2 from by omega, Nat.pow_add]; omega
  omega
/-- a shifted root -/
theorem rt_shift {x h : Nat} : rt 2 (x * 2 ^ (2 * h)) / 2 ^ h = rt 2 x := by
  have hp := pp h
  have e2 : 2 ^ (2 * h) = (2 ^ h) ^ 2 := by rw [← Nat.pow_mul, Nat.mul_comm]
  obtain ⟨X, hX⟩ : ∃ X, x * 2 ^ (2 * h) = X := ⟨_, rfl⟩
  rw [hX]
  refine (rt_uniq (by decide) ?_ ?_).symm
  · refine Nat.le_of_mul_le_mul_right (c := 2 ^ (2 * h)) ?_ (pp _)
    rw [hX]
    have h1 := (rt_spec (k := 2) (n := X) (by decide)).1
    refine Nat.le_trans ?_ h1
    have h3 := pow_mono (k := 2) (Nat.div_mul_le_self (rt 2 X) (2 ^ h))
    rw [Nat.mul_pow, ← e2] at h3
    exact h3
  · refine Nat.lt_of_not_le fun k => ?_
    have h1 : (rt 2 X / 2 ^ h + 1) ^ 2 * 2 ^ (2 * h) ≤ x * 2 ^ (2 * h) := Nat.mul_le_mul_right _ k
    rw [hX, e2, ← Nat.mul_pow, ← le_rt (by decide)] at h1
    have h2 := Nat.lt_div_mul_add (a := rt 2 X) hp
    have h3 : (rt 2 X / 2 ^ h + 1) * 2 ^ h = rt 2 X / 2 ^ h * 2 ^ h + 2 ^ h := by rw [Nat.add_mul, Nat.one_mul]
    omega
theorem rem_size {x w s sh : Nat} (hw : 1 ≤ w) (hx : 0 < x) (hs : nd w x ≤ s) (hd : sh = (s * w - bl x) - (s * w - bl x) % 2) : x * 2 ^ sh < 2 ^ (w * s) ∧ 2 ^ (w * s) ≤ 4 * (x * 2 ^ sh) ∧ bl x ≤ s * w := by
  have h0 : bl x ≤ s * w := by rw [Nat.mul_comm]; exact bl_le.mpr ((nd_le hw).mp hs)
  have hb := bl_pos hx
  obtain ⟨b, hb⟩ : ∃ b, bl x = b + 1 := ⟨bl x - 1, by omega⟩
  have h1 : 2 ^ b ≤ x := bl_lt.mp (by omega)
  have h2 := lt_bl x
  refine ⟨?_, ?_, h0⟩
  · rw [Nat.mul_comm w, show s * w = bl x + (s * w - bl x) from by omega, Nat.pow_add]
    refine Nat.lt_of_lt_of_le (Nat.mul_lt_mul_of_pos_right h2 (pp _)) (Nat.mul_le_mul_left _ (Nat.pow_le_pow_right (by decide) ?_))
    omega
  · have h3 : 2 ^ (w * s) ≤ 2 ^ (b + sh + 2) := Nat.pow_le_pow_right (by decide) (by rw [Nat.mul_comm]; omega)
    have h4 : 2 ^ b * 2 ^ sh ≤ x * 2 ^ sh := Nat.mul_le_mul_right _ h1
    rw [Nat.pow_succ, Nat.pow_succ, Nat.pow_add] at h3
    omega
/-- the mean of k - 1 times r and s -/
theorem am_gm (r s : Nat) : ∀ m : Nat, (m + 1) * s * r ^ m ≤ m * r ^ (m + 1) + s ^ (m + 1)
  | 0 => by simp
  | m + 1 => by
    have ih := am_gm r s m
    have h1 : (m + 1 + 1) * s * r ^ (m + 1) = r * ((m + 1) * s * r ^ m) + s * r ^ (m + 1) := by grind
    have h2 : (m + 1) * r ^ (m + 1 + 1) + s ^ (m + 1 + 1) = r * (m * r ^ (m + 1)) + r * r ^ (m + 1) + s * s ^ (m + 1) := by grind
    have h3 : r * ((m + 1) * s * r ^ m) ≤ r * (m * r ^ (m + 1) + s ^ (m + 1)) := Nat.mul_le_mul_left _ ih
    have h4 : r * (m * r ^ (m + 1) + s ^ (m + 1)) = r * (m * r ^ (m + 1)) + r * s ^ (m + 1) := by grind
    have h5 : s * r ^ (m + 1) + r * s ^ (m + 1) ≤ r * r ^ (m + 1) + s * s ^ (m + 1) := by
      rcases Nat.le_total r s with h | h
      · obtain ⟨d, rfl⟩ := Nat.exists_eq_add_of_le h
        obtain ⟨e, he⟩ := Nat.exists_eq_add_of_le (pow_mono (k := m + 1) h)
        have g1 : (r + d) * r ^ (m + 1) + r * (r ^ (m + 1) + e) + d * e = r * r ^ (m + 1) + (r + d) * (r ^ (m + 1) + e) := by grind
        rw [he]; omega
      · obtain ⟨d, rfl⟩ := Nat.exists_eq_add_of_le h
        obtain ⟨e, he⟩ := Nat.exists_eq_add_of_le (pow_mono (k := m + 1) h)
        have g1 : s * (s ^ (m + 1) + e) + (s + d) * s ^ (m + 1) + d * e = (s + d) * (s ^ (m + 1) + e) + s * s ^ (m + 1) := by grind
        rw [he]; omega
    omega
/-- one turn of Newton's way -/
theorem newton_ge {x m r : Nat} (hr : 0 < r) : rt (m + 1) x ≤ (r * m + x / r ^ m) / (m + 1) := by
  have hs := (rt_spec (k := m + 1) (n := x) (by omega)).1
  generalize rt (m + 1) x = s at *
  have hp : 0 < r ^ m := Nat.pow_pos hr
  rw [Nat.le_div_iff_mul_le (by omega)]
  have h1 := am_gm r s m
  have h2 : (s * (m + 1) - r * m) * r ^ m ≤ x := by
    rw [Nat.sub_mul]
    have g1 : s * (m + 1) * r ^ m = (m + 1) * s * r ^ m := by grind
    have g2 : r * m * r ^ m = m * r ^ (m + 1) := by grind
    omega
  rw [← Nat.le_div_iff_mul_le hp] at h2
  omega
theorem newton_stop {x m r : Nat} (hr : 0 < r) (hge : rt (m + 1) x ≤ r) (h : r ≤ (r * m + x / r ^ m) / (m + 1)) : r = rt (m + 1) x := by
  have hp : 0 < r ^ m := Nat.pow_pos hr
  rw [Nat.le_div_iff_mul_le (by omega)] at h
  have h1 : r ≤ x / r ^ m := by
    have : r * (m + 1) = r * m + r := by grind
    omega
  rw [Nat.le_div_iff_mul_le hp] at h1
  have h2 : r ^ (m + 1) ≤ x := by
    have : r ^ (m + 1) = r * r ^ m := by grind
    omega
  have := (le_rt (k := m + 1) (n := x) (by omega)).mpr h2
  omega
theorem newton_start {x k : Nat} (hk : 1 ≤ k) : rt k x ≤ 2 ^ ((bl x + k - 1) / k) := by
  refine Nat.le_of_not_lt fun h => ?_
  have h0 : 2 ^ ((bl x + k - 1) / k) ≤ rt k x := by omega
  rw [le_rt hk, ← Nat.pow_mul] at h0
  have h1 := lt_bl x
  have h2 : bl x ≤ (bl x + k - 1) / k * k := by
    have := Nat.div_add_mod (bl x + k - 1) k
    have := Nat.mod_lt (bl x + k - 1) (show 0 < k by omega)
    rw [Nat.mul_comm]; omega
  have h3 : 2 ^ bl x ≤ 2 ^ ((bl x + k - 1) / k * k) := Nat.pow_le_pow_right (by decide) h2
  omega
theorem newton_bl {x k r : Nat} (hk : 1 ≤ k) (hr : r ≤ 2 ^ ((bl x + k - 1) / k)) : bl (r ^ k) ≤ bl x + k := by
  have h1 := pow_mono (k := k) hr
  rw [← Nat.pow_mul] at h1
  refine Nat.le_trans (bl_mono h1) ?_
  rw [bl_pow2]
  have := Nat.div_mul_le_self (bl x + k - 1) k
  omega
theorem rt_pos {k x : Nat} (hk : 1 ≤ k) (hx : 0 < x) : 0 < rt k x := (le_rt hk).mpr (by rw [Nat.one_pow]; exact hx)
end

section
open PySem PySem.W PyProof.Rows PySem.Calls
local macro_rules | `(tactic| top_raise0) => `(tactic| repeat' (first | (with_reducible exact upd_hit) | (refine upd_miss (by decide +kernel) ?_)))
local macro_rules | `(tactic| top_name) => `(tactic| first | exact offμ_none | exact offμ_some (by decide +kernel))
local macro_rules | `(tactic| top_raise) => `(tactic| first | exact Sub.refl _ | (repeat' (first | exact sub_nil | (refine sub_upd ?_ ?_; top_raise0))))
local macro_rules | `(tactic| boot_fact) => `(tactic| first
  | ((with_reducible show EV _ _ _ _ _ _); first
    | (refine ev_name (mv := ?mv) ?e ?_; (case e => top_raise0))
    | refine ev_int ?_
    | refine ev_bin ?_
    | refine ev_len ?_
    | refine ev_gfn (by decide +kernel) ?_
    | refine ev_upto ?_
    | refine ev_from ?_
    | refine ev_all ?_
    | refine ev_rev ?_
    | refine ev_item ?_
    | refine ev_bits ?_
    | refine ev_neg ?_
    | refine ev_ifexp ?_
    | refine ev_cmp ?_
    | refine ev_bool ?_
    | refine ev_pair ?_
    | refine ev_range1 ?_
    | refine ev_calln (by decide +kernel) ?_
    | (refine ev_callv (n := ?n) ?e ?hx ?_; (case e => top_raise0); (case hx => decide +kernel))
    | refine ev_range2 ?_
    | refine ev_range3 ?_)
  | ((with_reducible show (_ : MV) = _); with_reducible exact rfl)
  | (refine ⟨_, rfl, ?_⟩)
  | (refine ⟨_, _, rfl, rfl, ?_⟩)
  | (refine ⟨_, _, rfl, ?_⟩)
  | ((with_reducible show TR _ _ _ _ _ _); first
    | refine tr_cmp ?_
    | refine tr_and2 ?_
    | refine tr_or2 ?_
    | refine tr_not ?_
    | refine tr_true ?_)
  | ((with_reducible show SX _ _ _ _ _ _ _); first
    | (refine sx_nil ?_; try (with_reducible show SX _ _ _ _ _ _ _))
    | ((with_reducible show SX _ _ _ (some _) (Stmt.Return _ _ :: _) _ _); refine sx_freeze ?_)
    | ((fail_if_success (with_reducible show SX _ _ _ _ (Stmt.While _ _ _ _ :: _) _ _)); (fail_if_success (with_reducible show SX _ _ _ _ (Stmt.For _ _ _ _ _ :: _) _ _)); refine sx_cons ?_))
  | ((with_reducible show S1 _ _ _ _ _ _ _); first
    | refine s1_fresh (by first | rfl | ((repeat refine upd_miss (by decide +kernel) ?_); rfl)) (ef_nil ?_)
    | refine s1_assign ?_ (by top_name)
    | refine s1_return ?_
    | refine s1_if ?_
    | refine s1_append ?_ ?_
    | (refine s1_aug (old := ?mv) ?e ?_ (by top_name); (case e => top_raise0)))
  | ((with_reducible show AV _ _ _ _ _ _); first
    | (refine av_nil ?_; try (with_reducible show Con _ _ _ _ _ _))
    | refine av_cons ?_)
  | ((with_reducible show CP _ _ _ _ _); first
    | refine cp_eq ?_
    | refine cp_lt ?_
    | refine cp_gt ?_
    | refine cp_ge ?_
    | refine cp_le ?_
    | refine cp_ne ?_
    | refine cp_eql ?_
    | refine cp_nel ?_))
local macro_rules | `(tactic| kc_close) => `(tactic| first
  | assumption
  | exact Nat.le_add_left _ _
  | exact Int.natCast_nonneg _
  | exact Int.ofNat_lt.mpr (by assumption)
  | exact Int.ofNat_le.mpr (by assumption)
  | exact Nat.le_trans (by assumption) (by decide)
  | exact Nat.lt_of_le_of_lt (by assumption) (by decide)
  | exact (Int.natCast_add _ _).symm
  | exact (Int.natCast_mul _ _).symm
  | exact fun h => absurd (Int.ofNat_lt.mp h) (by assumption)
  | exact fun h => absurd (Int.ofNat_le.mp h) (by assumption)
  | exact Int.natCast_pos.mpr (by assumption)
  | decide
  | omega)
section
variable {G : TC}

theorem con_normal {w k n : Nat} (hw : 1 ≤ w) (hk : k ≤ 100000) (hn : n < 2 ^ (w * k)) : Con G false 1 "normal" [.list (Dk w k n)] (· = .list (L w n)) := by
  refine con_def (d := fdef 3) (ps := ["a"]) (n := 0) (fmem (k := 0) rfl) rfl (by decide) (by decide +kernel) (fun _ _ _ => lenS fun _ => len0 rfl) rfl rfl rfl (by decide +kernel) ?_
  simp only [mk]
  repeat boot_fact
  rw [Dk_length]
  refine ⟨by omega, ?_⟩
  refine sx_while (α := Nat) (fun e => upd (upd (fun _ => none) "a" (.list (Dk w k n))) "end" (.int (e : Nat))) (fun _ => none) id (fun e => e ≤ k ∧ ∀ i, e ≤ i → i < k → dg w n i = 0) k ⟨Nat.le_refl _, fun i h1 h2 => by omega⟩ (by top_raise) rfl ?_
  rintro e ⟨he, hz⟩
  have fin : (e = 0 ∨ dg w n (e - 1) ≠ 0) → (Dk w k n).take e = L w n := Dk_strike hw hn he hz
  repeat boot_fact
  by_cases h0 : 0 < e
  · have d0 : decide ((0 : Int) < (e : Int)) = true := by simpa using h0
    rw [d0, if_pos rfl]
    repeat boot_fact
    refine bn_sub' (c := ((e - 1 : Nat) : Int)) (by kc_close) ?_
    repeat boot_fact
    rw [Dk_length]
    refine ⟨by omega, by omega, by omega, ?_⟩
    rw [Int.toNat_natCast, Dk_getD (by kc_close)]
    repeat boot_fact
    by_cases h1 : dg w n (e - 1) = 0
    · rw [h1]
      simp only [Int.natCast_zero, beq_self_eq_true, if_true]
      repeat boot_fact
      refine in_sub' (c := ((e - 1 : Nat) : Int)) (by kc_close) ?_
      repeat boot_fact
      refine ⟨e - 1, ⟨by omega, fun i h2 h3 => ?_⟩, by simp; omega, by top_raise, rfl⟩
      by_cases hi : i = e - 1
      · exact hi ▸ h1
      · exact hz i (by kc_close) h3
    · rw [if_neg (by simpa using h1)]
      repeat boot_fact
      refine ⟨by omega, by rw [Dk_length]; omega, ?_⟩
      rw [Int.toNat_natCast, fin (.inr h1)]
  · have d0 : decide ((0 : Int) < (e : Int)) = false := by simpa using h0
    rw [d0, if_neg (by decide)]
    rw [if_neg (by decide)]
    repeat boot_fact
    refine ⟨by omega, by rw [Dk_length]; omega, ?_⟩
    rw [Int.toNat_natCast, fin (.inl (by kc_close))]
end

section
variable {G : TC}

theorem con_nat_of {w x : Nat} (hw : 1 ≤ w) (hw9 : w ≤ 9) (hx : bl x ≤ 3000) : Con G false 1 "nat_of" [.int (x : Nat), .int (w : Nat)] (· = .list (L w x)) := by
  refine con_def (d := fdef 4) (ps := ["number", "w"]) (n := 0) (fmem (k := 1) rfl) rfl (by decide) (by decide +kernel) (fun _ _ _ => lenS fun _ => lenS fun _ => len0 rfl) rfl rfl rfl (by decide +kernel) ?_
  simp only [mk]
  repeat boot_fact
  rw [dfalse (by kc_close), if_neg (by decide)]
  repeat boot_fact
  refine s1_fresh2 rfl (by decide +kernel) (ef_nil ?_)
  repeat boot_fact
  refine bn_shl' (x := 1) (y := w) rfl rfl (by kc_close) (Sm.nat (k := 1) (by decide) (by decide)) ?_
  repeat boot_fact
  refine bn_sub' (c := 2 ^ w - 1) (by simp) ?_
  refine sx_while (α := Nat) (fun i => upd (upd (upd (fun _ => none) "w" (.int (w : Nat))) "mask" (.int (2 ^ w - 1))) "number" (.int ((x / 2 ^ (w * i) : Nat) : Int))) (fun i => some ("found", Dk w i x)) (fun i => nd w x - i) (fun i => i ≤ nd w x) 0 (Nat.zero_le _) ?_ rfl ?_
  · simp only [Nat.mul_zero, Nat.pow_zero, Nat.div_one]; top_raise
  intro i hi
  repeat boot_fact
  have e : decide (0 < ((x / 2 ^ (w * i) : Nat) : Int)) = decide (i < nd w x) := by
    rw [decide_eq_decide, ← div_pos_iff hw]; omega
  rw [e]
  by_cases h : i < nd w x
  · rw [dtrue h, if_pos rfl]
    have := nd_small hw hx
    repeat boot_fact
    refine bn_mask (y := w) rfl rfl ?_
    repeat boot_fact
    refine in_shr' rfl rfl ?_
    repeat boot_fact
    refine ⟨i + 1, by omega, by omega, ?_, ?_⟩
    · rw [div_step]; top_raise
    · rw [Dk_succ]; rfl
    · rw [Dk_length]; omega
  · rw [dfalse h, if_neg (by decide)]
    refine sx_freeze ?_
    repeat boot_fact
    rw [L_end hw hi (by rw [div_pos_iff hw]; exact h)]
end

section
variable {G : TC}

theorem con_compare {w x y : Nat} (hw : 1 ≤ w) (hx : bl x ≤ 3000) (hy : bl y ≤ 3000) : Con G false 1 "compare" [.list (L w x), .list (L w y)] (· = .int (cmpI x y)) := by
  refine con_def (d := fdef 5) (ps := ["a", "b"]) (n := 0) (fmem (k := 2) rfl) rfl (by decide) (by decide +kernel) (fun _ _ _ => lenS fun _ => lenS fun _ => len0 rfl) rfl rfl rfl (by decide +kernel) ?_
  simp only [mk]
  have h1 := nd_small hw hx
  have h2 := nd_small hw hy
  repeat boot_fact
  rw [L_length]
  refine ⟨by kc_close, ?_⟩
  repeat boot_fact
  rw [L_length]
  refine ⟨by kc_close, ?_⟩
  repeat boot_fact
  by_cases hne : nd w x = nd w y
  · have e : ((((nd w x : Nat) : Int) != ((nd w y : Nat) : Int))) = false := by simp [hne]
    rw [e, if_neg (by decide)]
    repeat boot_fact
    refine sx_for_dnp ?_
    repeat boot_fact
    rw [L_length]
    refine ⟨by kc_close, ?_⟩
    repeat boot_fact
    refine bn_sub' (c := ((nd w x : Nat) : Int) - 1) rfl ?_
    repeat boot_fact
    refine ⟨rfl, _, _, nd w x, rfl, rfl, rfl, by omega, fun _ => upd (upd (fun _ => none) "b" (.list (L w y))) "a" (.list (L w x)), fun _ => none, fun r => x / 2 ^ (w * r) = y / 2 ^ (w * r), by top_raise, rfl, eq_len hw hne, fun r hr hp => ⟨offμ_none, ?_⟩, fun hp => ?_⟩
    · repeat boot_fact
      rw [L_length]
      refine ⟨by kc_close, by kc_close, by kc_close, ?_⟩
      rw [Int.toNat_natCast, L_getD hw]
      repeat boot_fact
      rw [L_length]
      refine ⟨by kc_close, by kc_close, by kc_close, ?_⟩
      rw [Int.toNat_natCast, L_getD hw]
      repeat boot_fact
      by_cases hd : dg w x r = dg w y r
      · have e : ((((dg w x r : Nat) : Int) != ((dg w y r : Nat) : Int))) = false := by simp [hd]
        rw [e, if_neg (by decide)]
        repeat boot_fact
        exact ⟨by top_raise, rfl, cmp_same hp hd⟩
      · have e : ((((dg w x r : Nat) : Int) != ((dg w y r : Nat) : Int))) = true := by simp; omega
        rw [e, if_pos rfl]
        repeat boot_fact
        rw [L_length]
        refine ⟨by kc_close, by kc_close, by kc_close, ?_⟩
        rw [Int.toNat_natCast, L_getD hw]
        repeat boot_fact
        rw [L_length]
        refine ⟨by kc_close, by kc_close, by kc_close, ?_⟩
        rw [Int.toNat_natCast, L_getD hw]
        repeat boot_fact
        rw [cmp_top hp hd]
        by_cases hl : dg w x r < dg w y r
        · rw [dtrue (by kc_close), if_pos rfl, if_pos hl]
          repeat boot_fact
        · rw [dfalse (by kc_close), if_neg (by decide), if_neg hl]
          repeat boot_fact
    · repeat boot_fact
      rw [cmp_eq (by simpa using hp)]
  · have e : ((((nd w x : Nat) : Int) != ((nd w y : Nat) : Int))) = true := by simp; omega
    rw [e, if_pos rfl]
    repeat boot_fact
    rw [L_length]
    refine ⟨by kc_close, ?_⟩
    repeat boot_fact
    rw [L_length]
    refine ⟨by kc_close, ?_⟩
    repeat boot_fact
    rw [cmp_len hw hne]
    by_cases hl : nd w x < nd w y
    · rw [dtrue (by kc_close), if_pos rfl, if_pos hl]
      repeat boot_fact
    · rw [dfalse (by kc_close), if_neg (by decide), if_neg hl]
      repeat boot_fact
end

section
variable {G : TC}

theorem con_bits {w x : Nat} (hw : 1 ≤ w) (hw9 : w ≤ 9) (hx : bl x ≤ 3000) : Con G false 1 "bits" [.list (L w x), .int (w : Nat)] (· = .int (bl x : Nat)) := by
  refine con_def (d := fdef 11) (ps := ["a", "w"]) (n := 0) (fmem (k := 8) rfl) rfl (by decide) (by decide +kernel) (fun _ _ _ => lenS fun _ => lenS fun _ => len0 rfl) rfl rfl rfl (by decide +kernel) ?_
  simp only [mk]
  have h1 := nd_small hw hx
  repeat boot_fact
  rw [L_length]
  refine ⟨by kc_close, ?_⟩
  repeat boot_fact
  by_cases h : 0 < nd w x
  · rw [dtrue (by kc_close), if_pos rfl]
    repeat boot_fact
    rw [L_length]
    refine ⟨by kc_close, ?_⟩
    repeat boot_fact
    refine bn_sub' (c := ((nd w x - 1 : Nat) : Int)) (by kc_close) ?_
    repeat boot_fact
    refine bn_mul' (c := (((nd w x - 1) * w : Nat) : Int)) (Sm.nat (k := 20) (by kc_close) (by decide)) (Sm.nat (k := 20) (by kc_close) (by decide)) (by simp) ?_
    refine ev_bits ?_
    refine ev_last ?_
    repeat boot_fact
    refine ⟨rfl, by rw [L_length]; omega, by rw [L_length]; omega, ?_⟩
    rw [L_length, L_getD hw]
    repeat boot_fact
    rw [intBits_nat]
    refine bn_add' (c := ((bl x : Nat) : Int)) (by rw [← bits_eq hw h]; omega) rfl
  · rw [dfalse (by kc_close), if_neg (by decide)]
    repeat boot_fact
    have : x = 0 := (nd_eq_zero hw).mp (by kc_close)
    subst this
    rfl
theorem con_bit {w x n : Nat} (hw : 1 ≤ w) (hw9 : w ≤ 9) (hx : bl x ≤ 3000) (hn : n ≤ 100000) : Con G false 1 "bit" [.list (L w x), .int (n : Nat), .int (w : Nat)] (· = .int ((x / 2 ^ n % 2 : Nat) : Int)) := by
  refine con_def (d := fdef 12) (ps := ["a", "n", "w"]) (n := 0) (fmem (k := 9) rfl) rfl (by decide) (by decide +kernel) (fun _ _ _ => lenS fun _ => lenS fun _ => lenS fun _ => len0 rfl) rfl rfl rfl (by decide +kernel) ?_
  simp only [mk]
  have h1 := nd_small hw hx
  have hs : Sm (w : Nat) := Sm.nat (k := 20) (by kc_close) (by decide)
  have hq : (0 : Int) ≤ ((n / w : Nat) : Int) := Int.natCast_nonneg _
  repeat boot_fact
  refine bn_fdiv' rfl rfl (by kc_close) hs ?_
  repeat boot_fact
  rw [L_length]
  refine ⟨by kc_close, ?_⟩
  repeat boot_fact
  by_cases h : n / w < nd w x
  · rw [dtrue (by kc_close), if_pos rfl]
    repeat boot_fact
    refine bn_fdiv' rfl rfl (by kc_close) hs ?_
    repeat boot_fact
    rw [L_length]
    refine ⟨by kc_close, by kc_close, by kc_close, ?_⟩
    rw [Int.toNat_natCast, L_getD hw]
    repeat boot_fact
    refine bn_mod' rfl rfl (by kc_close) ?_
    repeat boot_fact
    refine bn_shr' rfl rfl ?_
    repeat boot_fact
    refine bn_mask (y := 1) rfl (by decide) ?_
    rw [Nat.pow_one, bit_eq hw]
  · rw [dfalse (by kc_close), if_neg (by decide)]
    repeat boot_fact
    rw [bit_big hw h]; rfl
theorem con_split {w x s : Nat} (hw : 1 ≤ w) (hx : bl x ≤ 3000) : Con G false 2 "split" [.list (L w x), .int (s : Nat)] (· = .pair (.list (L w (x % 2 ^ (w * s)))) (.list (L w (x / 2 ^ (w * s))))) := by
  refine con_def (d := fdef 13) (ps := ["a", "spot"]) (n := 1) (fmem (k := 10) rfl) rfl (by decide) (by decide +kernel) (fun _ _ _ => lenS fun _ => lenS fun _ => len0 rfl) rfl rfl rfl (by decide +kernel) ?_
  simp only [mk]
  have h1 := nd_small hw hx
  repeat boot_fact
  refine ⟨by omega, by rw [L_length]; omega, ?_⟩
  rw [Int.toNat_natCast, L_take]
  repeat boot_fact
  refine con_use (con_normal hw (by kc_close) (Nat.mod_lt _ (pp _))) ?_
  repeat boot_fact
  refine ⟨by omega, by rw [L_length]; omega, ?_⟩
  rw [Int.toNat_natCast, L_drop hw]
  repeat boot_fact
  have e : x % 2 ^ (w * min s (nd w x)) = x % 2 ^ (w * s) := by
    by_cases hs : s ≤ nd w x
    · rw [Nat.min_eq_left hs]
    · rw [Nat.min_eq_right (by kc_close), Nat.mod_eq_of_lt (lt_nd hw x), Nat.mod_eq_of_lt]
      exact Nat.lt_of_lt_of_le (lt_nd hw x) (Nat.pow_le_pow_right (by decide) (Nat.mul_le_mul_left _ (by kc_close)))
  rw [e]
end

section
variable {G : TC}

theorem con_limbs {w x : Nat} (hw : 1 ≤ w) (hw9 : w ≤ 9) (hx : bl x ≤ 3000) : Con G false 1 "_law_limbs" [.int (x : Nat), .int (w : Nat)] (· = .list (L w x)) := by
  refine con_def (d := fdef 24) (ps := ["number", "w"]) (n := 0) (fmem (k := 19) rfl) rfl (by decide) (by decide +kernel) (fun _ _ _ => lenS fun _ => lenS fun _ => len0 rfl) rfl rfl rfl (by decide +kernel) ?_
  simp only [mk]
  repeat boot_fact
  refine sx_while (α := Nat) (fun i => upd (upd (fun _ => none) "w" (.int (w : Nat))) "number" (.int ((x / 2 ^ (w * i) : Nat) : Int))) (fun i => some ("found", Dk w i x)) (fun i => nd w x - i) (fun i => i ≤ nd w x) 0 (Nat.zero_le _) ?_ rfl ?_
  · simp only [Nat.mul_zero, Nat.pow_zero, Nat.div_one]; top_raise
  intro i hi
  repeat boot_fact
  have e : decide (0 < ((x / 2 ^ (w * i) : Nat) : Int)) = decide (i < nd w x) := by
    rw [decide_eq_decide, ← div_pos_iff hw]; omega
  rw [e]
  by_cases h : i < nd w x
  · rw [dtrue h, if_pos rfl]
    have := nd_small hw hx
    repeat boot_fact
    refine bn_shl' (x := 1) (y := w) rfl rfl (by kc_close) (Sm.nat (k := 1) (by decide) (by decide)) ?_
    rw [Nat.one_mul]
    refine bn_mod' rfl rfl (pp _) ?_
    repeat boot_fact
    refine bn_shr' rfl rfl ?_
    repeat boot_fact
    refine ⟨i + 1, by omega, by omega, ?_, ?_⟩
    · rw [div_step]; top_raise
    · rw [Dk_succ]; rfl
    · rw [Dk_length]; omega
  · rw [dfalse h, if_neg (by decide)]
    refine sx_freeze ?_
    repeat boot_fact
    rw [L_end hw hi (by rw [div_pos_iff hw]; exact h)]
theorem con_number {w x : Nat} (hw : 1 ≤ w) (hw9 : w ≤ 9) (hx : bl x ≤ 3000) : Con G false 1 "_law_number" [.list (L w x), .int (w : Nat)] (· = .int (x : Nat)) := by
  refine con_def (d := fdef 25) (ps := ["limbs", "w"]) (n := 0) (fmem (k := 20) rfl) rfl (by decide) (by decide +kernel) (fun _ _ _ => lenS fun _ => lenS fun _ => len0 rfl) rfl rfl rfl (by decide +kernel) ?_
  simp only [mk]
  have h1 := nd_small hw hx
  repeat boot_fact
  refine sx_for_l (it_list ?_)
  repeat boot_fact
  refine ⟨by rw [L_length]; omega, ?_⟩
  repeat boot_fact
  have hl : (L w x).reverse.length = nd w x := by rw [List.length_reverse, L_length]
  refine ⟨fun i => upd (upd (fun _ => none) "w" (.int (w : Nat))) "found" (.int ((x / 2 ^ (w * (nd w x - i)) : Nat) : Int)), fun _ => none, ?_, rfl, fun i hi => ⟨offμ_none, ?_⟩, ?_⟩
  · simp only [Nat.sub_zero, div_nd hw]; exact sub_set (v' := .int 0) (by top_raise0) rfl (by top_raise)
  · rw [hl] at hi
    rw [rev_getD hi]
    repeat boot_fact
    refine bn_shl' rfl rfl (by kc_close) ⟨?_⟩ ?_
    · rw [intBits_nat]; have := @bl_div x (2 ^ (w * (nd w x - i))); omega
    repeat boot_fact
    refine bn_add' (c := ((x / 2 ^ (w * (nd w x - (i + 1))) : Nat) : Int)) (by rw [← rev_step hi]; omega) ?_
    repeat boot_fact
    exact ⟨by top_raise, rfl⟩
  · rw [hl]
    repeat boot_fact
    simp
theorem con_mul {w x y : Nat} (hw : 1 ≤ w) (hw9 : w ≤ 9) (hx : bl x ≤ 1500) (hy : bl y ≤ 1500) : Con G false 2 "_law_mul" [.list (L w x), .list (L w y), .int (w : Nat)] (· = .list (L w (x * y))) := by
  refine con_def (d := fdef 26) (ps := ["a", "b", "w"]) (n := 1) (fmem (k := 21) rfl) rfl (by decide) (by decide +kernel) (fun _ _ _ => lenS fun _ => lenS fun _ => lenS fun _ => len0 rfl) rfl rfl rfl (by decide +kernel) ?_
  simp only [mk]
  have h2 := @bl_mul x y
  repeat boot_fact
  refine con_use (con_number hw hw9 (by kc_close)) ?_
  repeat boot_fact
  refine con_use (con_number hw hw9 (by kc_close)) ?_
  refine bn_mul' (c := ((x * y : Nat) : Int)) ⟨?_⟩ ⟨?_⟩ (by simp) ?_
  · rw [intBits_nat]; omega
  · rw [intBits_nat]; omega
  repeat boot_fact
  exact con_use (con_limbs hw hw9 (by kc_close)) rfl
theorem con_divrem {w x y : Nat} (hw : 1 ≤ w) (hw9 : w ≤ 9) (hx : bl x ≤ 3000) (hy : bl y ≤ 3000) (h0 : 0 < y) : Con G false 2 "_law_divrem" [.list (L w x), .list (L w y), .int (w : Nat)] (· = .pair (.list (L w (x / y))) (.list (L w (x % y)))) := by
  refine con_def (d := fdef 27) (ps := ["a", "b", "w"]) (n := 1) (fmem (k := 22) rfl) rfl (by decide) (by decide +kernel) (fun _ _ _ => lenS fun _ => lenS fun _ => lenS fun _ => len0 rfl) rfl rfl rfl (by decide +kernel) ?_
  simp only [mk]
  repeat boot_fact
  refine s1_two ?_ offμ_none offμ_none
  repeat boot_fact
  refine con_use (con_number hw hw9 (by kc_close)) ?_
  repeat boot_fact
  refine con_use (con_number hw hw9 (by kc_close)) ?_
  repeat boot_fact
  refine bn_fdiv' rfl rfl h0 ⟨by rw [intBits_nat]; omega⟩ ?_
  repeat boot_fact
  refine con_use (con_limbs hw hw9 (Nat.le_trans bl_div (by kc_close))) ?_
  repeat boot_fact
  refine bn_mod' rfl rfl h0 ?_
  repeat boot_fact
  refine con_use (con_limbs hw hw9 (Nat.le_trans bl_mod (by kc_close))) ?_
  repeat boot_fact
end

section
variable {G : TC}

theorem con_shl {w x n : Nat} (hw : 1 ≤ w) (hw9 : w ≤ 9) (hx : bl x ≤ 3000) (hn : n ≤ 3000) : Con G false 1 "shift_left" [.list (L w x), .int (n : Nat), .int (w : Nat)] (· = .list (L w (x * 2 ^ n))) := by
  refine con_def (d := fdef 9) (ps := ["a", "n", "w"]) (n := 0) (fmem (k := 6) rfl) rfl (by decide) (by decide +kernel) (fun _ _ _ => lenS fun _ => lenS fun _ => lenS fun _ => len0 rfl) rfl rfl rfl (by decide +kernel) ?_
  simp only [mk]
  have h1 := nd_small hw hx
  have hs : Sm (w : Nat) := Sm.nat (k := 20) (by kc_close) (by decide)
  have hq : n / w ≤ 3000 := Nat.le_trans (Nat.div_le_self _ _) hn
  have hr : n % w < w := Nat.mod_lt _ (by kc_close)
  have hnw : n = w * (n / w) + n % w := (Nat.div_add_mod n w).symm
  repeat boot_fact
  rw [L_length]
  refine ⟨by kc_close, ?_⟩
  repeat boot_fact
  by_cases h : x = 0
  · subst h
    have e : ((((nd w 0 : Nat) : Int) == 0)) = true := by simp [nd_zero hw]
    rw [e, if_pos rfl]
    repeat boot_fact
    refine ev_list (av_nil ⟨[], .nil, by simp, ?_⟩)
    rw [Nat.zero_mul, L_zero hw]
  · have hp := nd_pos hw (Nat.pos_of_ne_zero h)
    have e : ((((nd w x : Nat) : Int) == 0)) = false := by simp; omega
    rw [e, if_neg (by decide)]
    repeat boot_fact
    refine s1_two ?_ offμ_none offμ_none
    repeat boot_fact
    refine bn_fdiv' rfl rfl (by kc_close) hs ?_
    repeat boot_fact
    refine bn_mod' rfl rfl (by kc_close) ?_
    repeat boot_fact
    generalize hQ : n / w = q at *
    generalize hR : n % w = f at *
    refine s1_fresh3 (by (repeat refine upd_miss (by decide +kernel) ?_); rfl) (by decide +kernel) (by decide +kernel) (ef_rep ?_)
    repeat boot_fact
    refine ⟨by kc_close, by kc_close, ?_⟩
    repeat boot_fact
    refine bn_shl' (x := 1) (y := w) rfl rfl (by kc_close) (Sm.nat (k := 1) (by decide) (by decide)) ?_
    repeat boot_fact
    refine bn_sub' (c := 2 ^ w - 1) (by simp) ?_
    have erep : List.replicate ((q : Nat) : Int).toNat (0 : Int) = Dk w q (x * 2 ^ n) := by
      rw [Int.toNat_natCast]
      refine (List.eq_replicate_iff.mpr ⟨Dk_length, fun b hb => ?_⟩).symm
      obtain ⟨i, hi, rfl⟩ := List.mem_map.mp hb
      have hi := List.mem_range.mp hi
      have : dg w (x * 2 ^ n) i = 0 := by
        unfold dg
        have e1 : n = w * i + (w + (w * (q - i - 1) + f)) := by
          have : q = i + 1 + (q - i - 1) := by omega
          rw [hnw]; conv => lhs; rw [this]
          rw [Nat.mul_add, Nat.mul_add, Nat.mul_one]; omega
        rw [e1, Nat.pow_add, Nat.pow_add, ← Nat.mul_assoc, Nat.mul_comm x, Nat.mul_assoc, Nat.mul_div_cancel_left _ (pp _), ← Nat.mul_assoc, Nat.mul_comm x, Nat.mul_assoc, Nat.mul_mod_right]
      rw [this]; rfl
    rw [erep]
    refine sx_for_l (it_list ?_)
    repeat boot_fact
    refine ⟨fun i => upd (upd (upd (upd (fun _ => none) "w" (.int (w : Nat))) "few" (.int (f : Nat))) "mask" (.int (2 ^ w - 1))) "carry" (.int ((sc w f x i : Nat) : Int)), fun i => some ("found", Dk w (q + i) (x * 2 ^ n)), ?_, rfl, fun i hi => ⟨offμ_some (by decide +kernel), ?_⟩, ?_⟩
    · dsimp only; rw [sc_zero]; exact sub_set (v' := .int 0) (by top_raise0) rfl (by top_raise)
    · rw [L_length] at hi
      rw [L_getD hw]
      repeat boot_fact
      refine bn_shl' rfl rfl (by kc_close) (Sm.nat (k := 20) (Nat.lt_of_lt_of_le dg_lt (Nat.pow_le_pow_right (by decide) (by kc_close))) (by decide)) ?_
      refine in_or' (y := dg w x i) (k := f) rfl rfl sc_lt ?_
      repeat boot_fact
      refine bn_mask (y := w) rfl rfl ?_
      repeat boot_fact
      refine in_shr' rfl rfl ?_
      repeat boot_fact
      refine ⟨?_, ?_⟩
      · dsimp only; rw [sc_next]; top_raise
      · dsimp only; rw [sc_dg hnw, ← Nat.add_assoc, Dk_succ]
      · rw [Dk_length]; omega
    · rw [L_length]
      have fin := sc_done (w := w) (f := f) (x := x) (s := q) (n := n) hw hr hnw (Nat.pos_of_ne_zero h)
      repeat boot_fact
      by_cases h0 : 0 < sc w f x (nd w x)
      · rw [if_pos h0] at fin
        rw [dtrue (by kc_close), if_pos rfl]
        repeat boot_fact
        · rw [fin]
        · rw [Dk_length]; omega
      · rw [if_neg h0] at fin
        rw [dfalse (by kc_close), if_neg (by decide)]
        repeat boot_fact
        rw [fin]
theorem con_shr {w x n : Nat} (hw : 1 ≤ w) (hw9 : w ≤ 9) (hx : bl x ≤ 3000) (hn : n ≤ 3000) : Con G false 2 "shift_right" [.list (L w x), .int (n : Nat), .int (w : Nat)] (· = .list (L w (x / 2 ^ n))) := by
  refine con_def (d := fdef 10) (ps := ["a", "n", "w"]) (n := 1) (fmem (k := 7) rfl) rfl (by decide) (by decide +kernel) (fun _ _ _ => lenS fun _ => lenS fun _ => lenS fun _ => len0 rfl) rfl rfl rfl (by decide +kernel) ?_
  simp only [mk]
  have h1 := nd_small hw hx
  have hs : Sm (w : Nat) := Sm.nat (k := 20) (by kc_close) (by decide)
  have hq : n / w ≤ 3000 := Nat.le_trans (Nat.div_le_self _ _) hn
  have hr : n % w < w := Nat.mod_lt _ (by kc_close)
  have hnw : n = w * (n / w) + n % w := (Nat.div_add_mod n w).symm
  repeat boot_fact
  refine s1_two ?_ offμ_none offμ_none
  repeat boot_fact
  refine bn_fdiv' rfl rfl (by kc_close) hs ?_
  repeat boot_fact
  refine bn_mod' rfl rfl (by kc_close) ?_
  repeat boot_fact
  generalize hQ : n / w = q at *
  generalize hR : n % w = f at *
  refine s1_fresh2 (by (repeat refine upd_miss (by decide +kernel) ?_); rfl) (by decide +kernel) (ef_nil ?_)
  repeat boot_fact
  refine bn_shl' (x := 1) (y := w) rfl rfl (by kc_close) (Sm.nat (k := 1) (by decide) (by decide)) ?_
  repeat boot_fact
  refine bn_sub' (c := 2 ^ w - 1) (by simp) ?_
  refine sx_for_up ?_
  repeat boot_fact
  rw [L_length]
  refine ⟨by kc_close, ?_⟩
  repeat boot_fact
  refine ⟨_, _, q, nd w x, rfl, rfl, rfl, by omega, by omega, fun _ => upd (upd (upd (upd (fun _ => none) "a" (.list (L w x))) "w" (.int (w : Nat))) "few" (.int (f : Nat))) "mask" (.int (2 ^ w - 1)), fun i => some ("found", Dk w i (x / 2 ^ n)), by top_raise, rfl, fun i hi => ⟨offμ_some (by decide +kernel), ?_⟩, ?_⟩
  · refine sx_cons (s1_assign (EV.mono (P := (· = .int ((dg w x (q + i + 1) : Nat) : Int))) ?_ ?_) (by top_name))
    · repeat boot_fact
      refine bn_add' (c := ((q + i + 1 : Nat) : Int)) (by kc_close) ?_
      repeat boot_fact
      rw [L_length]
      refine ⟨by kc_close, ?_⟩
      repeat boot_fact
      by_cases hb : q + i + 1 < nd w x
      · rw [dtrue (by kc_close), if_pos rfl]
        repeat boot_fact
        refine bn_add' (c := ((q + i + 1 : Nat) : Int)) (by kc_close) ?_
        repeat boot_fact
        rw [L_length]
        refine ⟨by kc_close, by kc_close, by kc_close, ?_⟩
        rw [Int.toNat_natCast, L_getD hw]
      · rw [dfalse (by kc_close), if_neg (by decide)]
        repeat boot_fact
        rw [dg_big hw (by kc_close)]; rfl
    rintro _ rfl
    repeat boot_fact
    rw [L_length]
    refine ⟨by kc_close, by kc_close, by kc_close, ?_⟩
    rw [Int.toNat_natCast, L_getD hw]
    repeat boot_fact
    refine bn_shr' rfl rfl ?_
    repeat boot_fact
    refine bn_sub' (c := ((w - f : Nat) : Int)) (by kc_close) ?_
    refine bn_shl' rfl rfl (by kc_close) (Sm.nat (k := 20) (Nat.lt_of_lt_of_le dg_lt (Nat.pow_le_pow_right (by decide) (by kc_close))) (by decide)) ?_
    refine bn_or' (y := dg w x (q + i + 1)) (k := w - f) rfl rfl ?_ ?_
    · rw [Nat.div_lt_iff_lt_mul (pp _), ← Nat.pow_add, show w - f + f = w from by omega]; exact dg_lt
    repeat boot_fact
    refine bn_mask (y := w) rfl rfl ?_
    repeat boot_fact
    refine ⟨by top_raise, ?_⟩
    · dsimp only; rw [shr_dg hr hnw, Dk_succ]
    · rw [Dk_length]; omega
  · repeat boot_fact
    exact con_use (con_normal hw (by kc_close) (shr_lt hw hnw)) rfl
end

section
variable {G : TC}

theorem con_add {w x y : Nat} (hw : 1 ≤ w) (hw9 : w ≤ 9) (hx : bl x ≤ 3000) (hy : bl y ≤ 3000) : Con G false 1 "add" [.list (L w x), .list (L w y), .int (w : Nat)] (· = .list (L w (x + y))) := by
  have rest : ∀ {x y : Nat}, bl x ≤ 3000 → bl y ≤ 3000 → nd w y ≤ nd w x → SX G ⟨(fdef 6).scope, false, 0⟩ (upd (upd (upd (fun _ => none) "w" (.int (w : Nat))) "b" (.list (L w y))) "a" (.list (L w x))) none ((fdef 6).body.drop 1) (fun _ _ => False) (· = .list (L w (x + y))) := by
    intro x y hx hy hn
    have h1 := nd_small hw hx
    have h2 := nd_small hw hy
    refine sx_cons (s1_fresh3 (by (repeat refine upd_miss (by decide +kernel) ?_); rfl) (by decide +kernel) (by decide +kernel) (ef_nil ?_))
    repeat boot_fact
    refine bn_shl' (x := 1) (y := w) rfl rfl (by kc_close) (Sm.nat (k := 1) (by decide) (by decide)) ?_
    repeat boot_fact
    refine bn_sub' (c := 2 ^ w - 1) (by simp) ?_
    refine sx_for_up ?_
    repeat boot_fact
    rw [L_length]
    refine ⟨by kc_close, ?_⟩
    repeat boot_fact
    refine ⟨_, _, 0, nd w y, rfl, rfl, rfl, by omega, by omega, fun i => upd (upd (upd (upd (upd (fun _ => none) "w" (.int (w : Nat))) "b" (.list (L w y))) "a" (.list (L w x))) "mask" (.int (2 ^ w - 1))) "carry" (.int ((cy w x y i : Nat) : Int)), fun i => some ("found", Dk w i (x + y)), ?_, rfl, fun i hi => ⟨offμ_some (by decide +kernel), ?_⟩, ?_⟩
    · dsimp only; rw [cy_zero]; exact sub_set (v' := .int 0) (by top_raise0) rfl (by top_raise)
    · rw [Nat.zero_add] at hi ⊢
      repeat boot_fact
      rw [L_length]
      refine ⟨by kc_close, by kc_close, by kc_close, ?_⟩
      rw [Int.toNat_natCast, L_getD hw]
      repeat boot_fact
      rw [L_length]
      refine ⟨by kc_close, by kc_close, by kc_close, ?_⟩
      rw [Int.toNat_natCast, L_getD hw]
      refine bn_add' (c := ((dg w x i + dg w y i : Nat) : Int)) (by kc_close) ?_
      refine in_add' (c := ((cy w x y i + (dg w x i + dg w y i) : Nat) : Int)) (by kc_close) ?_
      repeat boot_fact
      refine bn_mask (y := w) rfl rfl ?_
      repeat boot_fact
      refine in_shr' rfl rfl ?_
      repeat boot_fact
      refine ⟨?_, ?_⟩
      · dsimp only; rw [cy_next]; top_raise
      · dsimp only; rw [cy_dg, Dk_succ]
      · rw [Dk_length]; omega
    · rw [Nat.sub_zero]
      refine sx_for_up ?_
      repeat boot_fact
      rw [L_length]
      refine ⟨by kc_close, ?_⟩
      repeat boot_fact
      rw [L_length]
      refine ⟨by kc_close, ?_⟩
      repeat boot_fact
      refine ⟨_, _, nd w y, nd w x, rfl, rfl, rfl, by omega, by omega, fun i => upd (upd (upd (upd (upd (fun _ => none) "w" (.int (w : Nat))) "b" (.list (L w y))) "a" (.list (L w x))) "mask" (.int (2 ^ w - 1))) "carry" (.int ((cy w x y (nd w y + i) : Nat) : Int)), fun i => some ("found", Dk w (nd w y + i) (x + y)), by top_raise, rfl, fun i hi => ⟨offμ_some (by decide +kernel), ?_⟩, ?_⟩
      · have hz : dg w y (nd w y + i) = 0 := dg_big hw (by kc_close)
        repeat boot_fact
        rw [L_length]
        refine ⟨by kc_close, by kc_close, by kc_close, ?_⟩
        rw [Int.toNat_natCast, L_getD hw]
        refine in_add' (c := ((cy w x y (nd w y + i) + (dg w x (nd w y + i) + dg w y (nd w y + i)) : Nat) : Int)) (by kc_close) ?_
        repeat boot_fact
        refine bn_mask (y := w) rfl rfl ?_
        repeat boot_fact
        refine in_shr' rfl rfl ?_
        repeat boot_fact
        refine ⟨?_, ?_⟩
        · dsimp only; rw [cy_next, ← Nat.add_assoc]; top_raise
        · dsimp only; rw [cy_dg, ← Nat.add_assoc, Dk_succ]
        · rw [Dk_length]; omega
      · have e : nd w y + (nd w x - nd w y) = nd w x := by omega
        dsimp only
        rw [e]
        have fin := cy_done (x := x) (y := y) hw hn
        repeat boot_fact
        by_cases h0 : 0 < cy w x y (nd w x)
        · rw [if_pos h0] at fin
          rw [dtrue (by kc_close), if_pos rfl]
          repeat boot_fact
          · rw [fin]
          · rw [Dk_length]; omega
        · rw [if_neg h0] at fin
          rw [dfalse (by kc_close), if_neg (by decide)]
          repeat boot_fact
          rw [fin]
  have h1 := nd_small hw hx
  have h2 := nd_small hw hy
  refine con_def (d := fdef 6) (ps := ["a", "b", "w"]) (n := 0) (fmem (k := 3) rfl) rfl (by decide) (by decide +kernel) (fun _ _ _ => lenS fun _ => lenS fun _ => lenS fun _ => len0 rfl) rfl rfl rfl (by decide +kernel) ?_
  simp only [mk]
  refine sx_cons (s1_if ?_)
  repeat boot_fact
  rw [L_length]
  refine ⟨by kc_close, ?_⟩
  repeat boot_fact
  rw [L_length]
  refine ⟨by kc_close, ?_⟩
  repeat boot_fact
  by_cases h : nd w x < nd w y
  · rw [dtrue (by kc_close), if_pos rfl]
    refine sx_cons (s1_two ?_ offμ_none offμ_none)
    refine av_cons (ev_name (mv := .list (L w y)) (by top_raise0) ?_)
    refine av_cons (ev_name (mv := .list (L w x)) (by top_raise0) ?_)
    refine av_nil ⟨_, _, rfl, sx_nil ?_⟩
    rw [Nat.add_comm]
    exact sx_weak (by top_raise) (rest hy hx (by kc_close))
  · rw [dfalse (by kc_close), if_neg (by decide)]
    refine sx_nil ?_
    exact sx_weak (by top_raise) (rest hx hy (by kc_close))
end

section
variable {G : TC}

theorem con_sub {w x y : Nat} (hw : 1 ≤ w) (hw9 : w ≤ 9) (hx : bl x ≤ 3000) (hyx : y ≤ x) : Con G false 2 "sub" [.list (L w x), .list (L w y), .int (w : Nat)] (· = .list (L w (x - y))) := by
  have hy : bl y ≤ 3000 := Nat.le_trans (bl_mono hyx) hx
  have h1 := nd_small hw hx
  have h2 := nd_small hw hy
  obtain ⟨q, hq⟩ : ∃ q, x = y + q := ⟨x - y, by omega⟩
  rw [show x - y = q from by omega]
  refine con_def (d := fdef 7) (ps := ["a", "b", "w"]) (n := 1) (fmem (k := 4) rfl) rfl (by decide) (by decide +kernel) (fun _ _ _ => lenS fun _ => lenS fun _ => lenS fun _ => len0 rfl) rfl rfl rfl (by decide +kernel) ?_
  simp only [mk]
  repeat boot_fact
  refine con_use (con_compare hw hx hy) ?_
  repeat boot_fact
  rw [dfalse (by rw [cmp_lt]; omega), if_neg (by decide)]
  repeat boot_fact
  refine s1_fresh3 (by (repeat refine upd_miss (by decide +kernel) ?_); rfl) (by decide +kernel) (by decide +kernel) (ef_nil ?_)
  repeat boot_fact
  refine bn_shl' (x := 1) (y := w) rfl rfl (by kc_close) (Sm.nat (k := 1) (by decide) (by decide)) ?_
  rw [Nat.one_mul]
  refine sx_for_up ?_
  repeat boot_fact
  rw [L_length]
  refine ⟨by kc_close, ?_⟩
  repeat boot_fact
  refine ⟨_, _, 0, nd w x, rfl, rfl, rfl, by omega, by omega, fun i => upd (upd (upd (upd (fun _ => none) "b" (.list (L w y))) "a" (.list (L w x))) "base" (.int ((2 ^ w : Nat) : Int))) "borrow" (.int ((cy w y q i : Nat) : Int)), fun i => some ("found", Dk w i q), ?_, rfl, fun i hi => ⟨offμ_some (by decide +kernel), ?_⟩, ?_⟩
  · dsimp only; rw [cy_zero]; exact sub_set (v' := .int 0) (by top_raise0) rfl (by top_raise)
  · rw [Nat.zero_add] at hi ⊢
    have hd := @sub_digit w x y q i hq
    refine sx_cons (s1_assign (ev_bin ?_) (by top_name))
    repeat boot_fact
    rw [L_length]
    refine ⟨by kc_close, by kc_close, by kc_close, ?_⟩
    rw [Int.toNat_natCast, L_getD hw]
    repeat boot_fact
    refine bn_sub' (c := ((dg w x i : Nat) : Int) - (cy w y q i : Nat)) rfl ?_
    refine EV.mono (P := (· = .int ((dg w y i : Nat) : Int))) ?_ ?_
    · repeat boot_fact
      rw [L_length]
      refine ⟨by kc_close, ?_⟩
      repeat boot_fact
      by_cases hb : i < nd w y
      · rw [dtrue (by kc_close), if_pos rfl]
        repeat boot_fact
        rw [L_length]
        refine ⟨by kc_close, by kc_close, by kc_close, ?_⟩
        rw [Int.toNat_natCast, L_getD hw]
      · rw [dfalse (by kc_close), if_neg (by decide)]
        repeat boot_fact
        rw [dg_big hw (by kc_close)]; rfl
    rintro _ rfl
    generalize hl : ((dg w x i : Nat) : Int) - (cy w y q i : Nat) - (dg w y i : Nat) = lim at hd
    refine bn_sub' (c := lim) hl ?_
    refine sx_cons (s1_assign (EV.mono (P := (· = .int ((cy w y q (i + 1) : Nat) : Int))) ?_ ?_) (by top_name))
    · repeat boot_fact
      rcases hd with ⟨e1, e2, e3⟩ | ⟨e1, e2, e3⟩
      · rw [dtrue e2, if_pos rfl]
        repeat boot_fact
        rw [e1]; rfl
      · rw [dfalse e2, if_neg (by decide)]
        repeat boot_fact
        rw [e1]; rfl
    rintro _ rfl
    refine sx_cons (s1_append (EV.mono (P := (· = .int ((dg w q i : Nat) : Int))) ?_ ?_) ?_)
    · repeat boot_fact
      rcases hd with ⟨e1, e2, e3⟩ | ⟨e1, e2, e3⟩
      · rw [dtrue e2, if_pos rfl]
        repeat boot_fact
        exact bn_add' e3 rfl
      · rw [dfalse e2, if_neg (by decide)]
        repeat boot_fact
        rw [e3]
    · rintro _ rfl
      refine ⟨_, rfl, sx_nil ⟨?_, ?_⟩⟩
      · top_raise
      · dsimp only; rw [Dk_succ]
    · rw [Dk_length]; omega
  · rw [Nat.sub_zero]
    repeat boot_fact
    refine con_use (con_normal hw (by kc_close) (Nat.lt_of_le_of_lt ?_ (lt_nd hw x))) rfl
    omega
end

section
variable {G : TC}

theorem con_add_at {w x y s : Nat} (hw : 1 ≤ w) (hw9 : w ≤ 9) (hx : bl x ≤ 2999) (hy : bl y ≤ 2999) (hs : s ≤ 3000) : Con G false 2 "add_at" [.list (L w x), .list (L w y), .int (s : Nat), .int (w : Nat)] (· = .list (L w (x + y * 2 ^ (w * s)))) := by
  refine con_def (d := fdef 8) (ps := ["a", "b", "spot", "w"]) (n := 1) (fmem (k := 5) rfl) rfl (by decide) (by decide +kernel) (fun _ _ _ => lenS fun _ => lenS fun _ => lenS fun _ => lenS fun _ => len0 rfl) rfl rfl rfl (by decide +kernel) ?_
  simp only [mk]
  have h1 := nd_small hw hx
  have h2 := nd_small hw hy
  repeat boot_fact
  rw [L_length]
  refine ⟨by kc_close, ?_⟩
  repeat boot_fact
  by_cases h : y = 0
  · subst h
    have e : ((((nd w 0 : Nat) : Int) == 0)) = true := by simp [nd_zero hw]
    rw [e, if_pos rfl]
    repeat boot_fact
    refine ⟨by rw [L_length]; omega, ?_⟩
    rw [Nat.zero_mul, Nat.add_zero]
  · have hp := nd_pos hw (Nat.pos_of_ne_zero h)
    have e : ((((nd w y : Nat) : Int) == 0)) = false := by simp; omega
    rw [e, if_neg (by decide)]
    repeat boot_fact
    rw [L_length]
    refine ⟨by kc_close, ?_⟩
    repeat boot_fact
    by_cases hb : nd w x ≤ s
    · rw [dtrue (by kc_close), if_pos rfl]
      repeat boot_fact
      refine ev_list (av_cons (ev_int (av_nil ⟨[0], .cons .nil, by simp, ?_⟩)))
      repeat boot_fact
      rw [L_length]
      refine ⟨by kc_close, ?_⟩
      refine bn_sub' (c := ((s - nd w x : Nat) : Int)) (by kc_close) ?_
      refine bn_rep (by kc_close) (by kc_close) ?_
      rw [Int.toNat_natCast]
      refine bn_cat (by rw [L_length, List.length_replicate]; omega) ?_
      repeat boot_fact
      refine bn_cat (by rw [List.length_append, L_length, L_length, List.length_replicate]; omega) ?_
      rw [add_at_pad hw hb (Nat.pos_of_ne_zero h)]
    · rw [dfalse (by kc_close), if_neg (by decide)]
      have h3 : bl (x / 2 ^ (w * s) + y) ≤ 3000 := bl_add (Nat.le_trans bl_div hx) hy
      have h4 := nd_small hw h3
      repeat boot_fact
      refine ⟨by omega, by rw [L_length]; omega, ?_⟩
      repeat boot_fact
      refine ⟨by omega, by rw [L_length]; omega, ?_⟩
      rw [Int.toNat_natCast, L_drop hw]
      repeat boot_fact
      refine con_use (con_add hw hw9 (Nat.le_trans bl_div (by kc_close)) (by kc_close)) ?_
      refine bn_cat (by rw [L_length, List.length_take, L_length]; omega) ?_
      rw [add_at_in hw (by kc_close)]
end

section
variable {G : TC}

theorem con_sqrt_small {x : Nat} (hx : bl x ≤ 100) : Con G false 1 "sqrt_small" [.int (x : Nat)] (· = .int ((rt 2 x : Nat) : Int)) := by
  refine con_def (d := fdef 15) (ps := ["n"]) (n := 0) (fmem (k := 11) rfl) rfl (by decide) (by decide +kernel) (fun _ _ _ => lenS fun _ => len0 rfl) rfl rfl rfl (by decide +kernel) ?_
  simp only [mk]
  have hx2 := bl_le.mp hx
  refine sx_cons (s1_assign (ev_int ?_) (by top_name))
  refine sx_while (α := Nat) (fun j => upd (upd (fun _ => none) "n" (.int (x : Nat))) "digit" (.int ((4 ^ j : Nat) : Int))) (fun _ => none) (fun j => x - 4 ^ j) (fun j => 4 ^ j ≤ x ∨ j = 0) 0 (.inr rfl) (by top_raise) rfl ?_
  intro j hj
  have hp4 : 0 < 4 ^ j := Nat.pow_pos (by decide)
  have hlt : 4 ^ j < 2 ^ 200 := by
    rcases hj with h | rfl
    · exact Nat.lt_of_le_of_lt h (Nat.lt_of_lt_of_le hx2 (Nat.pow_le_pow_right (by decide) (by decide)))
    · decide
  have e4 : 4 ^ (j + 1) = 4 ^ j * 4 := Nat.pow_succ ..
  repeat boot_fact
  refine bn_mul' (c := ((4 ^ (j + 1) : Nat) : Int)) (Sm.nat (k := 200) hlt (by decide)) (Sm.lit (by decide)) (by rw [e4]; omega) ?_
  repeat boot_fact
  by_cases hc : 4 ^ (j + 1) ≤ x
  · rw [dtrue (by omega), if_pos rfl]
    repeat boot_fact
    refine bn_mul' (c := ((4 ^ (j + 1) : Nat) : Int)) (Sm.nat (k := 200) hlt (by decide)) (Sm.lit (by decide)) (by rw [e4]; omega) ?_
    repeat boot_fact
    exact ⟨j + 1, .inl hc, by omega, by top_raise, rfl⟩
  · rw [dfalse (by omega), if_neg (by decide)]
    refine sx_cons (s1_assign (ev_int ?_) (by top_name))
    refine sx_while (α := Nat × Nat) (fun a => upd (upd (upd (fun _ => none) "n" (.int ((x - (2 ^ a.1 * a.2) ^ 2 : Nat) : Int))) "digit" (.int ((dgt a.1 : Nat) : Int))) "found" (.int ((4 ^ a.1 * a.2 : Nat) : Int))) (fun _ => none) (fun a => a.1) (fun a => (2 ^ a.1 * a.2) ^ 2 ≤ x ∧ x < (2 ^ a.1 * (a.2 + 1)) ^ 2) (j + 1, 0) ⟨by simp, ?_⟩ ?_ rfl ?_
    · dsimp only; rw [Nat.zero_add, Nat.mul_one, Nat.pow_two, ← four_pow]; omega
    · dsimp only
      rw [dgt_succ]
      exact sub_set (v' := .int 0) (by top_raise0) (by simp) (sub_upd (by top_raise0) (sub_set (v' := .int (x : Nat)) (by top_raise0) (by simp) (by top_raise)))
    rintro ⟨m, q⟩ ⟨h1, h2⟩
    dsimp only at h1 h2 ⊢
    repeat boot_fact
    rcases m with _ | m
    · rw [dgt_zero, dfalse (by decide), if_neg (by decide)]
      repeat boot_fact
      rw [Nat.pow_zero, Nat.one_mul]
      rw [rt_uniq (k := 2) (n := x) (r := q) (by decide) (by simpa using h1) (by simpa using h2)]
    · rw [dgt_succ]
      have hp : 0 < 4 ^ m := Nat.pow_pos (by decide)
      obtain ⟨n1, n2⟩ := small_next h1 h2
      rw [dtrue (by omega), if_pos rfl]
      repeat boot_fact
      refine bn_add' (c := ((4 ^ (m + 1) * q + 4 ^ m : Nat) : Int)) (by kc_close) ?_
      repeat boot_fact
      by_cases hb : 4 ^ (m + 1) * q + 4 ^ m ≤ x - (2 ^ (m + 1) * q) ^ 2
      · obtain ⟨a1, a2, a3⟩ := n1 hb
        rw [dtrue (by omega), if_pos rfl]
        repeat boot_fact
        refine bn_sub' (c := ((x - (2 ^ (m + 1) * q) ^ 2 - 4 ^ (m + 1) * q : Nat) : Int)) (by kc_close) ?_
        repeat boot_fact
        refine bn_sub' (c := ((x - (2 ^ (m + 1) * q) ^ 2 - 4 ^ (m + 1) * q - 4 ^ m : Nat) : Int)) (by kc_close) ?_
        repeat boot_fact
        refine bn_shr' (y := 1) rfl rfl ?_
        repeat boot_fact
        refine bn_add' (c := ((4 ^ m * (2 * q + 1) : Nat) : Int)) (by rw [small_half, Nat.mul_add]; omega) ?_
        repeat boot_fact
        refine bn_shr' (y := 2) rfl rfl ?_
        repeat boot_fact
        refine ⟨(m, 2 * q + 1), ⟨a1, a2⟩, Nat.lt_succ_self m, ?_, rfl⟩
        dsimp only
        rw [a3, show 4 ^ m / 2 ^ 2 = dgt m from rfl]
        top_raise
      · obtain ⟨a1, a2, a3⟩ := n2 hb
        rw [dfalse (by omega), if_neg (by decide)]
        repeat boot_fact
        refine bn_shr' (y := 1) rfl rfl ?_
        repeat boot_fact
        refine bn_shr' (y := 2) rfl rfl ?_
        repeat boot_fact
        refine ⟨(m, 2 * q), ⟨a1, a2⟩, Nat.lt_succ_self m, ?_, rfl⟩
        dsimp only
        rw [a3, small_half, show 4 ^ m / 2 ^ 2 = dgt m from rfl]
        top_raise
theorem con_pow {b k : Nat} (hb : bl b * k ≤ 3000) (hk : k ≤ 3000) : Con G false 1 "_law_pow" [.int (b : Nat), .int (k : Nat)] (· = .int ((b ^ k : Nat) : Int)) := by
  refine con_def (d := fdef 28) (ps := ["base", "many"]) (n := 0) (fmem (k := 23) rfl) rfl (by decide) (by decide +kernel) (fun _ _ _ => lenS fun _ => lenS fun _ => len0 rfl) rfl rfl rfl (by decide +kernel) ?_
  simp only [mk]
  refine sx_cons (s1_assign (ev_int ?_) (by top_name))
  refine sx_for_up ?_
  repeat boot_fact
  refine ⟨_, _, 0, k, rfl, rfl, rfl, by omega, by omega, fun i => upd (upd (fun _ => none) "base" (.int (b : Nat))) "found" (.int ((b ^ i : Nat) : Int)), fun _ => none, ?_, rfl, fun i hi => ⟨offμ_none, ?_⟩, ?_⟩
  · dsimp only
    exact sub_set (v' := .int 1) (by top_raise0) (by simp) (by top_raise)
  · rw [Nat.zero_add] at hi
    have hbi : bl b * i ≤ 3000 := Nat.le_trans (Nat.mul_le_mul_left _ (by kc_close)) hb
    have hbb : bl b ≤ 3000 := Nat.le_trans (Nat.le_mul_of_pos_right _ (by kc_close)) hb
    have := @bl_pow b i
    repeat boot_fact
    refine bn_mul' (c := ((b ^ (i + 1) : Nat) : Int)) ⟨by rw [intBits_nat]; omega⟩ ⟨by rw [intBits_nat]; omega⟩ (by rw [Nat.pow_succ]; simp) ?_
    repeat boot_fact
    exact ⟨by top_raise, rfl⟩
  · rw [Nat.sub_zero]
    repeat boot_fact
theorem con_root {x k : Nat} (hx : bl x ≤ 200) (hk : 1 ≤ k) (hk10 : k ≤ 10) : Con G false 2 "_law_root" [.int (x : Nat), .int (k : Nat)] (· = .int ((rt k x : Nat) : Int)) := by
  refine con_def (d := fdef 31) (ps := ["number", "k"]) (n := 1) (fmem (k := 26) rfl) rfl (by decide) (by decide +kernel) (fun _ _ _ => lenS fun _ => lenS fun _ => len0 rfl) rfl rfl rfl (by decide +kernel) ?_
  simp only [mk]
  have hq : bl x / k ≤ 200 := Nat.le_trans (Nat.div_le_self _ _) hx
  have htop : bl x ≤ (bl x / k + 2) * k := by
    have := Nat.div_add_mod (bl x) k
    have := Nat.mod_lt (bl x) (show 0 < k by omega)
    rw [Nat.add_mul, Nat.mul_comm (bl x / k)]; omega
  have hdk : bl x / k * k ≤ bl x := Nat.div_mul_le_self _ _
  refine sx_cons (s1_assign (ev_int ?_) (by top_name))
  refine sx_for_dn ?_
  repeat boot_fact
  rw [intBits_nat]
  repeat boot_fact
  refine bn_fdiv' rfl rfl (by kc_close) (Sm.nat (k := 20) (by kc_close) (by decide)) ?_
  repeat boot_fact
  refine bn_add' (c := ((bl x / k + 2 : Nat) : Int) - 1) (by kc_close) ?_
  repeat boot_fact
  generalize hm : bl x / k = m at *
  refine ⟨rfl, _, _, m + 2, rfl, rfl, rfl, by omega, fun r => upd (upd (upd (fun _ => none) "number" (.int (x : Nat))) "k" (.int (k : Nat))) "found" (.int ((rt k x / 2 ^ r * 2 ^ r : Nat) : Int)), fun _ => none, ?_, rfl, fun r hr => ⟨offμ_none, ?_⟩, ?_⟩
  · dsimp only
    rw [Nat.div_eq_of_lt (rt_lt_top hk htop), Nat.zero_mul]
    exact sub_set (v' := .int 0) (by top_raise0) rfl (by top_raise)
  · have hg := @greedy (rt k x / 2 ^ r) r (rt k x) rfl
    have hF := @greedy_bl k x r hk
    have hsp : bl (rt k x / 2 ^ (r + 1) * 2 ^ (r + 1) + 2 ^ r) * k ≤ 3000 := by
      have : bl (rt k x / 2 ^ (r + 1) * 2 ^ (r + 1) + 2 ^ r) ≤ 210 := by omega
      exact Nat.le_trans (Nat.mul_le_mul this hk10) (by decide)
    repeat boot_fact
    refine bn_shl' (x := 1) (y := r) rfl rfl (by kc_close) (Sm.nat (k := 1) (by decide) (by decide)) ?_
    rw [Nat.one_mul]
    refine bn_add' (c := ((rt k x / 2 ^ (r + 1) * 2 ^ (r + 1) + 2 ^ r : Nat) : Int)) (by kc_close) ?_
    repeat boot_fact
    refine con_use (con_pow hsp (by kc_close)) ?_
    repeat boot_fact
    have hle := @le_rt k x (rt k x / 2 ^ (r + 1) * 2 ^ (r + 1) + 2 ^ r) hk
    by_cases hb : (rt k x / 2 ^ (r + 1) * 2 ^ (r + 1) + 2 ^ r) ^ k ≤ x
    · rw [dtrue (by omega), if_pos rfl]
      repeat boot_fact
      refine bn_shl' (x := 1) (y := r) rfl rfl (by kc_close) (Sm.nat (k := 1) (by decide) (by decide)) ?_
      rw [Nat.one_mul]
      refine bn_add' (c := ((rt k x / 2 ^ (r + 1) * 2 ^ (r + 1) + 2 ^ r : Nat) : Int)) (by kc_close) ?_
      rw [hg.1 (hle.mpr hb)]
      repeat boot_fact
      exact ⟨by top_raise, rfl⟩
    · rw [dfalse (by omega), if_neg (by decide)]
      have := hg.2 (fun h => hb (hle.mp h))
      dsimp only
      rw [this]
      repeat boot_fact
      exact ⟨by top_raise, rfl⟩
  · repeat boot_fact
    simp
end

section
variable {G : TC}

theorem con_two_limbs {w x : Nat} (hw : 1 ≤ w) (hw9 : w ≤ 9) (hx : bl x ≤ 100) : Con G false 2 "sqrt_two_limbs" [.list (L w x), .int (w : Nat)] (· = .pair (.list (L w (rt 2 x))) (.list (L w (x - rt 2 x ^ 2)))) := by
  refine con_def (d := fdef 17) (ps := ["a", "w"]) (n := 1) (fmem (k := 13) rfl) rfl (by decide) (by decide +kernel) (fun _ _ _ => lenS fun _ => lenS fun _ => len0 rfl) rfl rfl rfl (by decide +kernel) ?_
  simp only [mk]
  have h1 := nd_small hw hx
  have hr := @rt_bl 2 x (by decide)
  have hs := (@rt_spec 2 x (by decide)).1
  refine sx_cons (s1_assign (ev_int ?_) (by top_name))
  refine sx_for_l (it_reversed ?_)
  repeat boot_fact
  have hl : (L w x).reverse.length = nd w x := by rw [List.length_reverse, L_length]
  refine ⟨fun i => upd (upd (fun _ => none) "w" (.int (w : Nat))) "n" (.int ((x / 2 ^ (w * (nd w x - i)) : Nat) : Int)), fun _ => none, ?_, rfl, fun i hi => ⟨offμ_none, ?_⟩, ?_⟩
  · simp only [Nat.sub_zero, div_nd hw]; exact sub_set (v' := .int 0) (by top_raise0) rfl (by top_raise)
  · rw [hl] at hi
    rw [rev_getD hi]
    repeat boot_fact
    refine bn_shl' rfl rfl (by kc_close) ⟨?_⟩ ?_
    · rw [intBits_nat]; have := @bl_div x (2 ^ (w * (nd w x - i))); omega
    repeat boot_fact
    refine bn_add' (c := ((x / 2 ^ (w * (nd w x - (i + 1))) : Nat) : Int)) (by rw [← rev_step hi]; omega) ?_
    repeat boot_fact
    exact ⟨by top_raise, rfl⟩
  · rw [hl]
    dsimp only
    rw [Nat.sub_self, Nat.mul_zero, Nat.pow_zero, Nat.div_one]
    repeat boot_fact
    refine con_use (con_sqrt_small hx) ?_
    repeat boot_fact
    refine con_use (con_nat_of hw hw9 (by kc_close)) ?_
    repeat boot_fact
    refine bn_mul' (c := ((rt 2 x ^ 2 : Nat) : Int)) ⟨by rw [intBits_nat]; omega⟩ ⟨by rw [intBits_nat]; omega⟩ (by rw [Nat.pow_two]; simp) ?_
    refine bn_sub' (c := ((x - rt 2 x ^ 2 : Nat) : Int)) (by kc_close) ?_
    repeat boot_fact
    refine con_use (con_nat_of hw hw9 (by have := @bl_sub x (rt 2 x ^ 2); omega)) ?_
    repeat boot_fact
theorem con_plain {w x : Nat} (hw : 1 ≤ w) (hw9 : w ≤ 9) (hx : bl x ≤ 2000) : Con G false 3 "sqrt_plain" [.list (L w x), .int (w : Nat)] (· = .pair (.list (L w (rt 2 x))) (.list (L w (x - rt 2 x ^ 2)))) := by
  refine con_def (d := fdef 16) (ps := ["a", "w"]) (n := 2) (fmem (k := 12) rfl) rfl (by decide) (by decide +kernel) (fun _ _ _ => lenS fun _ => lenS fun _ => len0 rfl) rfl rfl rfl (by decide +kernel) ?_
  simp only [mk]
  refine sx_cons (s1_two ?_ offμ_none offμ_none)
  refine av_cons (ev_list (av_nil ⟨[], .nil, by simp, ?_⟩))
  refine av_cons (ev_list (av_nil ⟨[], .nil, by simp, ?_⟩))
  refine av_nil ⟨_, _, rfl, ?_⟩
  refine sx_for_dn ?_
  repeat boot_fact
  refine con_use (con_bits hw hw9 (by kc_close)) ?_
  repeat boot_fact
  refine bn_add' (c := ((bl x + 1 : Nat) : Int)) (by kc_close) ?_
  repeat boot_fact
  refine bn_fdiv' (y := 2) rfl rfl (by decide) (Sm.lit (by decide)) ?_
  repeat boot_fact
  refine bn_sub' (c := (((bl x + 1) / 2 : Nat) : Int) - 1) rfl ?_
  repeat boot_fact
  refine ⟨rfl, _, _, (bl x + 1) / 2, rfl, rfl, rfl, by omega, fun r => upd (upd (upd (upd (fun _ => none) "a" (.list (L w x))) "w" (.int (w : Nat))) "root" (.list (L w (rt 2 (x / 4 ^ r))))) "rest" (.list (L w (x / 4 ^ r - rt 2 (x / 4 ^ r) ^ 2))), fun _ => none, ?_, rfl, fun r hr => ⟨offμ_none, ?_⟩, ?_⟩
  · dsimp only
    rw [pair_top, rt_zero]
    exact sub_set (v' := .list []) (by top_raise0) (by rw [Nat.zero_sub, L_zero hw]) (sub_set (v' := .list []) (by top_raise0) (by rw [L_zero hw]) (by top_raise))
  · dsimp only
    have hp := @pair_eq x r
    generalize hd : 2 * (x / 2 ^ (2 * r + 1) % 2) + x / 2 ^ (2 * r) % 2 = d at hp
    have hd4 : d < 4 := by omega
    have hz : bl (x / 4 ^ (r + 1)) ≤ 2000 := Nat.le_trans bl_div hx
    generalize x / 4 ^ (r + 1) = z at *
    have hrz := @rt_bl 2 z (by decide)
    have hsz := @bl_sub z (rt 2 z ^ 2)
    have st := @sq_step z d hd4
    have bd : bl d ≤ 3 := bl_le.mpr (by kc_close)
    repeat boot_fact
    refine con_use (con_shl (n := 2) hw hw9 (by kc_close) (by kc_close)) ?_
    repeat boot_fact
    refine bn_mul' (c := ((2 * r : Nat) : Int)) (Sm.lit (by decide)) (Sm.nat (k := 20) (by kc_close) (by decide)) (by kc_close) ?_
    repeat boot_fact
    refine bn_add' (c := ((2 * r + 1 : Nat) : Int)) (by kc_close) ?_
    repeat boot_fact
    refine con_use (con_bit hw hw9 (by kc_close) (by kc_close)) ?_
    refine bn_mul' (c := ((2 * (x / 2 ^ (2 * r + 1) % 2) : Nat) : Int)) (Sm.lit (by decide)) (Sm.nat (k := 1) (Nat.mod_lt _ (by decide)) (by decide)) (by kc_close) ?_
    repeat boot_fact
    refine bn_mul' (c := ((2 * r : Nat) : Int)) (Sm.lit (by decide)) (Sm.nat (k := 20) (by kc_close) (by decide)) (by kc_close) ?_
    repeat boot_fact
    refine con_use (con_bit hw hw9 (by kc_close) (by kc_close)) ?_
    refine bn_add' (c := ((d : Nat) : Int)) (by kc_close) ?_
    repeat boot_fact
    refine con_use (con_nat_of hw hw9 (by kc_close)) ?_
    repeat boot_fact
    have b1 : bl ((z - rt 2 z ^ 2) * 2 ^ 2) ≤ 2002 := Nat.le_trans bl_shl (by kc_close)
    refine con_use (con_add hw hw9 (by kc_close) (by kc_close)) ?_
    rw [show (z - rt 2 z ^ 2) * 2 ^ 2 + d = 4 * (z - rt 2 z ^ 2) + d from by omega]
    have b2 : bl (4 * (z - rt 2 z ^ 2) + d) ≤ 2003 := by rw [Nat.mul_comm]; exact bl_add b1 (by kc_close)
    repeat boot_fact
    refine con_use (con_shl (n := 2) hw hw9 (by kc_close) (by kc_close)) ?_
    repeat boot_fact
    refine ev_list (av_cons (ev_int (av_nil ⟨[1], .cons .nil, by simp, ?_⟩)))
    repeat boot_fact
    rw [← L_one hw]
    have b3 : bl (rt 2 z * 2 ^ 2) ≤ 2002 := Nat.le_trans bl_shl (by kc_close)
    refine con_use (con_add hw hw9 (by kc_close) (by decide)) ?_
    rw [show rt 2 z * 2 ^ 2 + 1 = 4 * rt 2 z + 1 from by omega]
    have b4 : bl (4 * rt 2 z + 1) ≤ 2003 := by rw [Nat.mul_comm]; exact bl_add b3 (by decide)
    repeat boot_fact
    refine con_use (con_shl (n := 1) hw hw9 (by kc_close) (by kc_close)) ?_
    rw [show rt 2 z * 2 ^ 1 = 2 * rt 2 z from by omega]
    have b5 : bl (2 * rt 2 z) ≤ 2001 := by rw [Nat.mul_comm]; exact Nat.le_trans (bl_shl (n := 1)) (by kc_close)
    repeat boot_fact
    refine con_use (con_compare hw (by kc_close) (by kc_close)) ?_
    repeat boot_fact
    by_cases hb : 4 * rt 2 z + 1 ≤ 4 * (z - rt 2 z ^ 2) + d
    · obtain ⟨e1, e2⟩ := st.1 hb
      have e3 : 4 * z + d - rt 2 (4 * z + d) ^ 2 = 4 * (z - rt 2 z ^ 2) + d - (4 * rt 2 z + 1) := by rw [e1]; exact e2
      rw [dtrue (cmp_ge.mpr hb), if_pos rfl]
      repeat boot_fact
      refine con_use (con_sub hw hw9 (by kc_close) hb) ?_
      repeat boot_fact
      refine ev_list (av_cons (ev_int (av_nil ⟨[1], .cons .nil, by simp, ?_⟩)))
      repeat boot_fact
      rw [← L_one hw]
      refine con_use (con_add hw hw9 (by kc_close) (by decide)) ?_
      rw [← e1, ← e3]
      repeat boot_fact
      refine ⟨?_, rfl⟩
      rw [hp]
      top_raise
    · obtain ⟨e1, e2⟩ := st.2 hb
      have e3 : 4 * z + d - rt 2 (4 * z + d) ^ 2 = 4 * (z - rt 2 z ^ 2) + d := by rw [e1]; exact e2
      rw [dfalse (fun h => hb (cmp_ge.mp h)), if_neg (by decide)]
      rw [← e1, ← e3]
      repeat boot_fact
      refine ⟨?_, rfl⟩
      rw [hp]
      top_raise
  · dsimp only
    rw [Nat.pow_zero, Nat.div_one]
    repeat boot_fact
end

section
variable {G : TC}

theorem con_power {w x k : Nat} (hw : 1 ≤ w) (hw9 : w ≤ 9) (hk : k ≤ 1000) (hx : bl x ≤ 1000) (hp : bl (x ^ k) ≤ 1000) : Con G false 3 "power_of_nat" [.list (L w x), .int (k : Nat), .int (w : Nat), .fn "_law_mul"] (· = .list (L w (x ^ k))) := by
  refine con_def (d := fdef 21) (ps := ["a", "k", "w", "mul"]) (n := 2) (fmem (k := 17) rfl) rfl (by decide) (by decide +kernel) (fun _ _ _ => lenS fun _ => lenS fun _ => lenS fun _ => lenS fun _ => len0 rfl) rfl rfl rfl (by decide +kernel) ?_
  simp only [mk]
  have hbk : bl k ≤ 1000 := by
    have : k < 2 ^ 10 := by omega
    have := bl_le.mpr this; omega
  refine sx_cons (s1_assign (ev_list (av_cons (ev_int (av_nil ⟨[1], .cons .nil, by simp, ?_⟩)))) (by top_name))
  refine sx_for_dn ?_
  repeat boot_fact
  rw [intBits_nat]
  repeat boot_fact
  refine bn_sub' (c := ((bl k : Nat) : Int) - 1) rfl ?_
  repeat boot_fact
  refine ⟨rfl, _, _, bl k, rfl, rfl, rfl, by omega, fun r => upd (upd (upd (upd (upd (fun _ => none) "a" (.list (L w x))) "k" (.int (k : Nat))) "w" (.int (w : Nat))) "mul" (.fn "_law_mul")) "found" (.list (L w (x ^ (k / 2 ^ r)))), fun _ => none, ?_, rfl, fun r hr => ⟨offμ_none, ?_⟩, ?_⟩
  · dsimp only
    rw [Nat.div_eq_of_lt (lt_bl k), Nat.pow_zero]
    exact sub_set (v' := .list [1]) (by top_raise0) (by rw [L_one hw]) (by top_raise)
  · have st := @pow_step x k r
    have b1 : bl (x ^ (k / 2 ^ (r + 1))) ≤ 1000 := pow_le_bl (Nat.div_le_self _ _) hp (by decide)
    have b2 : bl (x ^ (k / 2 ^ (r + 1)) * x ^ (k / 2 ^ (r + 1))) ≤ 1000 := by
      rw [← Nat.pow_add]
      refine pow_le_bl ?_ hp (by decide)
      rw [Nat.pow_succ, ← Nat.div_div_eq_div_mul]
      have := Nat.div_le_self k (2 ^ r)
      omega
    repeat boot_fact
    refine con_use (con_mul hw hw9 (by kc_close) (by kc_close)) ?_
    repeat boot_fact
    refine bn_shr' rfl rfl ?_
    repeat boot_fact
    refine bn_mask (y := 1) rfl (by decide) ?_
    repeat boot_fact
    rw [Nat.pow_one]
    by_cases hb : k / 2 ^ r % 2 = 1
    · have e : ((((k / 2 ^ r % 2 : Nat) : Int) == 1)) = true := by rw [hb]; rfl
      rw [e, if_pos rfl]
      repeat boot_fact
      refine con_use (con_mul hw hw9 (by kc_close) (by kc_close)) ?_
      rw [st.1 hb]
      repeat boot_fact
      exact ⟨by top_raise, rfl⟩
    · have e : ((((k / 2 ^ r % 2 : Nat) : Int) == 1)) = false := by generalize k / 2 ^ r = u at hb; simp; omega
      rw [e, if_neg (by decide), st.2 hb]
      repeat boot_fact
      exact ⟨by top_raise, rfl⟩
  · dsimp only
    rw [Nat.pow_zero, Nat.div_one]
    repeat boot_fact
end

section
variable {G : TC}

theorem con_halves {w : Nat} (hw : 1 ≤ w) (hw9 : w ≤ 9) {least : Int} : ∀ (size : Nat) {x : Nat}, 2 ≤ size → size % 2 = 0 → size ≤ 60 → 2 ^ (w * size) ≤ 4 * x → x < 2 ^ (w * size) →
    Con G false (size + 4) "sqrt_halves" [.list (L w x), .int (size : Nat), .int (w : Nat), .int least, .fn "_law_mul", .fn "_law_divrem"] (· = .pair (.list (L w (rt 2 x))) (.list (L w (x - rt 2 x ^ 2)))) := by
  intro size
  induction size using Nat.strongRecOn with
  | ind size ih =>
  intro x h2 hev h60 hge hlt
  have hx : bl x ≤ w * size := bl_le.mpr hlt
  have hws : w * size ≤ 540 := Nat.mul_le_mul hw9 h60
  refine con_def (d := fdef 18) (ps := ["a", "size", "w", "least", "mul", "divrem"]) (n := size + 3) (fmem (k := 14) rfl) rfl (by decide) (by decide +kernel) (fun _ _ _ => lenS fun _ => lenS fun _ => lenS fun _ => lenS fun _ => lenS fun _ => lenS fun _ => len0 rfl) rfl rfl rfl (by decide +kernel) ?_
  simp only [mk]
  repeat boot_fact
  by_cases hs : size ≤ 2
  · rw [dtrue (by kc_close), if_pos rfl]
    repeat boot_fact
    refine con_use (con_two_limbs hw hw9 ?_) rfl
    have : size = 2 := by omega
    subst this
    omega
  · rw [dfalse (by kc_close), if_neg (by decide)]
    repeat boot_fact
    by_cases hl : (size : Int) ≤ least
    · rw [dtrue hl, if_pos rfl]
      repeat boot_fact
      exact con_use (con_plain hw hw9 (by kc_close)) rfl
    · rw [dfalse hl, if_neg (by decide)]
      repeat boot_fact
      refine bn_fdiv' (y := 4) rfl rfl (by decide) (Sm.lit (by decide)) ?_
      obtain ⟨part, hp⟩ : ∃ part, size / 4 = part := ⟨_, rfl⟩
      rw [hp]
      have hp1 : 1 ≤ part := by omega
      have hp2 : 4 * part ≤ size := by omega
      have hwp : w * part ≤ 135 := Nat.le_trans (Nat.mul_le_mul hw9 (show part ≤ 15 by omega)) (by decide)
      -- the numbers
      have hUlt := upper_lt (p := part) (by kc_close) hlt
      have hUge := upper_ge (p := part) hw (by kc_close) hge
      have hS := root_big (p := part) hw hp1 (by kc_close) hUge
      have hsplit := @split_eq x w part
      have hmid := @mid_lt x w part
      have hlast : x % 2 ^ (w * (2 * part)) % 2 ^ (w * part) < 2 ^ (w * part) := Nat.mod_lt _ (pp _)
      have bU : bl (x / 2 ^ (w * (2 * part))) ≤ 540 := Nat.le_trans bl_div (by kc_close)
      have bLow : bl (x % 2 ^ (w * (2 * part))) ≤ 540 := Nat.le_trans bl_mod (by kc_close)
      have bM : bl (x % 2 ^ (w * (2 * part)) / 2 ^ (w * part)) ≤ 540 := Nat.le_trans bl_div (by kc_close)
      have bT : bl (x % 2 ^ (w * (2 * part)) % 2 ^ (w * part)) ≤ 540 := Nat.le_trans bl_mod (by kc_close)
      refine sx_cons (s1_unpack ?_ offμ_none offμ_none)
      repeat boot_fact
      refine bn_mul' (c := ((2 * part : Nat) : Int)) (Sm.lit (by decide)) (Sm.nat (k := 20) (by kc_close) (by decide)) (by kc_close) ?_
      repeat boot_fact
      refine con_use (con_split hw (by kc_close)) ?_
      repeat boot_fact
      refine s1_unpack ?_ offμ_none offμ_none
      repeat boot_fact
      refine con_use (con_split hw (by kc_close)) ?_
      generalize hU : x / 2 ^ (w * (2 * part)) = U at *
      generalize hLow : x % 2 ^ (w * (2 * part)) = Low at *
      generalize hM : Low / 2 ^ (w * part) = M at *
      generalize hT : Low % 2 ^ (w * part) = T at *
      have bS := @rt_bl 2 U (by decide)
      have bR := @bl_sub U (rt 2 U ^ 2)
      repeat boot_fact
      refine s1_unpack ?_ offμ_none offμ_none
      repeat boot_fact
      refine bn_mul' (c := ((2 * part : Nat) : Int)) (Sm.lit (by decide)) (Sm.nat (k := 20) (by kc_close) (by decide)) (by kc_close) ?_
      refine bn_sub' (c := ((size - 2 * part : Nat) : Int)) (by kc_close) ?_
      repeat boot_fact
      refine con_use (ih (size - 2 * part) (by kc_close) (x := U) (by kc_close) (by kc_close) (by kc_close) hUge hUlt) ?_
      repeat boot_fact
      refine s1_unpack ?_ offμ_none offμ_none
      repeat boot_fact
      have bRB : bl ((U - rt 2 U ^ 2) * 2 ^ (w * part)) ≤ 675 := Nat.le_trans bl_shl (by kc_close)
      have bMR : bl (M + (U - rt 2 U ^ 2) * 2 ^ (w * part)) ≤ 676 := bl_add (by kc_close) bRB
      refine con_use (con_add_at hw hw9 (by kc_close) (by kc_close) (by kc_close)) ?_
      repeat boot_fact
      refine con_use (con_shl (n := 1) hw hw9 (by kc_close) (by kc_close)) ?_
      repeat boot_fact
      have hS0 : 0 < rt 2 U * 2 := by have := pp (w * part); omega
      have bS2 : bl (rt 2 U * 2 ^ 1) ≤ 541 := Nat.le_trans bl_shl (by kc_close)
      refine con_use (con_divrem hw hw9 (by kc_close) (by kc_close) (by rw [Nat.pow_one]; exact hS0)) ?_
      rw [Nat.pow_one]
      have zz := zim hmid hlast hS hsplit rfl rfl
      have bq := @bl_div (M + (U - rt 2 U ^ 2) * 2 ^ (w * part)) (rt 2 U * 2)
      have bu := @bl_mod (M + (U - rt 2 U ^ 2) * 2 ^ (w * part)) (rt 2 U * 2)
      generalize hq : (M + (U - rt 2 U ^ 2) * 2 ^ (w * part)) / (rt 2 U * 2) = q at *
      generalize hu : (M + (U - rt 2 U ^ 2) * 2 ^ (w * part)) % (rt 2 U * 2) = u at *
      repeat boot_fact
      refine con_use (con_add_at hw hw9 (by kc_close) (by kc_close) (by kc_close)) ?_
      repeat boot_fact
      refine con_use (con_add_at hw hw9 (by kc_close) (by kc_close) (by kc_close)) ?_
      repeat boot_fact
      refine con_use (con_mul hw hw9 (by kc_close) (by kc_close)) ?_
      have bqq : bl (q * q) ≤ 1352 := Nat.le_trans bl_mul (by kc_close)
      have buB : bl (u * 2 ^ (w * part)) ≤ 811 := Nat.le_trans bl_shl (by kc_close)
      have bTu : bl (T + u * 2 ^ (w * part)) ≤ 812 := bl_add (by kc_close) buB
      have bSB : bl (rt 2 U * 2 ^ (w * part)) ≤ 676 := Nat.le_trans bl_shl (by kc_close)
      have bqS : bl (q + rt 2 U * 2 ^ (w * part)) ≤ 677 := bl_add (by kc_close) bSB
      repeat boot_fact
      refine con_use (con_compare hw (by kc_close) (by kc_close)) ?_
      repeat boot_fact
      by_cases hc : q * q ≤ T + u * 2 ^ (w * part)
      · obtain ⟨z1, z2⟩ := zz.1 hc
        rw [dtrue (cmp_ge.mpr hc), if_pos rfl, z2, z1]
        repeat boot_fact
        refine con_use (con_sub hw hw9 (by kc_close) hc) ?_
        repeat boot_fact
      · obtain ⟨z1, z2, z3, z4⟩ := zz.2 hc
        rw [dfalse (fun h => hc (cmp_ge.mp h)), if_neg (by decide), z4, z1]
        have bb1 : bl ((q + rt 2 U * 2 ^ (w * part)) * 2 ^ 1) ≤ 678 := Nat.le_trans bl_shl (by kc_close)
        have bb2 : bl (T + u * 2 ^ (w * part) + (q + rt 2 U * 2 ^ (w * part)) * 2 ^ 1) ≤ 813 := bl_add (by kc_close) (by kc_close)
        repeat boot_fact
        refine con_use (con_shl (n := 1) hw hw9 (by kc_close) (by kc_close)) ?_
        repeat boot_fact
        refine con_use (con_add hw hw9 (by kc_close) (by kc_close)) ?_
        repeat boot_fact
        refine ev_list (av_cons (ev_int (av_nil ⟨[1], .cons .nil, by simp, ?_⟩)))
        repeat boot_fact
        rw [← L_one hw]
        refine con_use (con_add hw hw9 (by kc_close) (by decide)) ?_
        repeat boot_fact
        refine con_use (con_sub hw hw9 (by kc_close) (by rw [Nat.pow_one]; exact z3)) ?_
        rw [Nat.pow_one]
        repeat boot_fact
        refine ev_list (av_cons (ev_int (av_nil ⟨[1], .cons .nil, by simp, ?_⟩)))
        repeat boot_fact
        rw [← L_one hw]
        refine con_use (con_sub hw hw9 (by kc_close) z2) ?_
        repeat boot_fact
end

section
variable {G : TC}

theorem con_rem {w x : Nat} {least : Int} (hw : 2 ≤ w) (hw9 : w ≤ 9) (hx : bl x ≤ 90) : Con G false 66 "sqrt_rem" [.list (L w x), .int (w : Nat), .int least, .fn "_law_mul", .fn "_law_divrem"] (· = .pair (.list (L w (rt 2 x))) (.list (L w (x - rt 2 x ^ 2)))) := by
  have hw1 : 1 ≤ w := by omega
  have h1 : nd w x ≤ 45 := by
    rw [nd_le hw1]
    exact Nat.lt_of_lt_of_le (bl_le.mp hx) (Nat.pow_le_pow_right (by decide) (Nat.mul_le_mul_right 45 hw))
  have br := @rt_bl 2 x (by decide)
  have hs2 := (@rt_spec 2 x (by decide)).1
  refine con_def (d := fdef 19) (ps := ["a", "w", "least", "mul", "divrem"]) (n := 65) (fmem (k := 15) rfl) rfl (by decide) (by decide +kernel) (fun _ _ _ => lenS fun _ => lenS fun _ => lenS fun _ => lenS fun _ => lenS fun _ => len0 rfl) rfl rfl rfl (by decide +kernel) ?_
  simp only [mk]
  repeat boot_fact
  rw [L_length]
  refine ⟨by kc_close, ?_⟩
  repeat boot_fact
  by_cases h : x = 0
  · subst h
    have e : ((((nd w 0 : Nat) : Int) == 0)) = true := by simp [nd_zero hw1]
    rw [e, if_pos rfl]
    repeat boot_fact
    refine ev_list (av_nil ⟨[], .nil, by simp, ?_⟩)
    repeat boot_fact
    refine ev_list (av_nil ⟨[], .nil, by simp, ?_⟩)
    repeat boot_fact
    rw [rt_zero, Nat.zero_sub, L_zero hw1]
  · have hx0 := Nat.pos_of_ne_zero h
    have hp := nd_pos hw1 hx0
    have e : ((((nd w x : Nat) : Int) == 0)) = false := by simp; omega
    rw [e, if_neg (by decide)]
    repeat boot_fact
    rw [L_length]
    refine ⟨by kc_close, ?_⟩
    repeat boot_fact
    rw [L_length]
    refine ⟨by kc_close, ?_⟩
    repeat boot_fact
    refine bn_mod' (y := 2) rfl rfl (by decide) ?_
    obtain ⟨size, hsz⟩ : ∃ size, nd w x + nd w x % 2 = size := ⟨_, rfl⟩
    refine bn_add' (c := ((size : Nat) : Int)) (by kc_close) ?_
    obtain ⟨sh, hsh⟩ : ∃ sh, (size * w - bl x) - (size * w - bl x) % 2 = sh := ⟨_, rfl⟩
    obtain ⟨z1, z2, z3⟩ := rem_size hw1 hx0 (show nd w x ≤ size by omega) hsh.symm
    have hsw : size * w ≤ 414 := Nat.mul_le_mul (show size ≤ 46 by omega) hw9
    repeat boot_fact
    refine bn_mul' (c := ((size * w : Nat) : Int)) (Sm.nat (k := 20) (by kc_close) (by decide)) (Sm.nat (k := 20) (by kc_close) (by decide)) (by simp) ?_
    repeat boot_fact
    refine con_use (con_bits hw1 hw9 (by kc_close)) ?_
    refine bn_sub' (c := ((size * w - bl x : Nat) : Int)) (by kc_close) ?_
    repeat boot_fact
    refine bn_mod' (y := 2) rfl rfl (by decide) ?_
    refine bn_sub' (c := ((sh : Nat) : Int)) (by kc_close) ?_
    repeat boot_fact
    by_cases hs0 : sh = 0
    · have e : ((((sh : Nat) : Int) == 0)) = true := by simp [hs0]
      rw [e, if_pos rfl]
      rw [hs0, Nat.pow_zero, Nat.mul_one] at z1 z2
      repeat boot_fact
      exact con_use (con_halves hw1 hw9 size (by kc_close) (by kc_close) (by kc_close) z2 z1) rfl
    · have e : ((((sh : Nat) : Int) == 0)) = false := by simp [hs0]
      rw [e, if_neg (by decide)]
      have bsh : bl (x * 2 ^ sh) ≤ 504 := Nat.le_trans bl_shl (by kc_close)
      have brs := @rt_bl 2 (x * 2 ^ sh) (by decide)
      repeat boot_fact
      refine s1_unpack ?_ offμ_none offμ_none
      repeat boot_fact
      refine con_use (con_shl hw1 hw9 (by kc_close) (by kc_close)) ?_
      repeat boot_fact
      refine con_use (con_halves hw1 hw9 size (by kc_close) (by kc_close) (by kc_close) z2 z1) ?_
      repeat boot_fact
      refine bn_fdiv' (y := 2) rfl rfl (by decide) (Sm.lit (by decide)) ?_
      repeat boot_fact
      refine con_use (con_shr hw1 hw9 (by kc_close) (by kc_close)) ?_
      have e2 : rt 2 (x * 2 ^ sh) / 2 ^ (sh / 2) = rt 2 x := by
        have : sh = 2 * (sh / 2) := by omega
        conv => lhs; rw [show 2 ^ sh = 2 ^ (2 * (sh / 2)) from by rw [← this]]
        exact rt_shift
      rw [e2]
      repeat boot_fact
      refine con_use (con_mul hw1 hw9 (by kc_close) (by kc_close)) ?_
      rw [← Nat.pow_two]
      repeat boot_fact
      refine con_use (con_sub hw1 hw9 (by kc_close) hs2) ?_
      repeat boot_fact
theorem con_newton {w x : Nat} (hw : 2 ≤ w) (hw9 : w ≤ 9) (hx : bl x ≤ 90) : Con G false 4 "sqrt_newton" [.list (L w x), .int (w : Nat), .fn "_law_mul", .fn "_law_divrem"] (· = .pair (.list (L w (rt 2 x))) (.list (L w (x - rt 2 x ^ 2)))) := by
  have hw1 : 1 ≤ w := by omega
  have h1 := nd_small hw1 hx
  have br := @rt_bl 2 x (by decide)
  have hs2 := (@rt_spec 2 x (by decide)).1
  refine con_def (d := fdef 20) (ps := ["a", "w", "mul", "divrem"]) (n := 3) (fmem (k := 16) rfl) rfl (by decide) (by decide +kernel) (fun _ _ _ => lenS fun _ => lenS fun _ => lenS fun _ => lenS fun _ => len0 rfl) rfl rfl rfl (by decide +kernel) ?_
  simp only [mk]
  repeat boot_fact
  rw [L_length]
  refine ⟨by kc_close, ?_⟩
  repeat boot_fact
  by_cases h : x = 0
  · subst h
    have e : ((((nd w 0 : Nat) : Int) == 0)) = true := by simp [nd_zero hw1]
    rw [e, if_pos rfl]
    repeat boot_fact
    refine ev_list (av_nil ⟨[], .nil, by simp, ?_⟩)
    repeat boot_fact
    refine ev_list (av_nil ⟨[], .nil, by simp, ?_⟩)
    repeat boot_fact
    rw [rt_zero, Nat.zero_sub, L_zero hw1]
  · have hx0 := Nat.pos_of_ne_zero h
    have hp := nd_pos hw1 hx0
    have e : ((((nd w x : Nat) : Int) == 0)) = false := by simp; omega
    rw [e, if_neg (by decide)]
    repeat boot_fact
    refine ev_list (av_cons (ev_int (av_nil ⟨[1], .cons .nil, by simp, ?_⟩)))
    rw [← L_one hw1]
    repeat boot_fact
    refine con_use (con_bits hw1 hw9 (by kc_close)) ?_
    repeat boot_fact
    refine bn_add' (c := ((bl x + 1 : Nat) : Int)) (by kc_close) ?_
    repeat boot_fact
    refine bn_fdiv' (y := 2) rfl rfl (by decide) (Sm.lit (by decide)) ?_
    repeat boot_fact
    refine con_use (con_shl hw1 hw9 (by decide) (by kc_close)) ?_
    rw [Nat.one_mul]
    have hst := @newton_start x 2 (by decide)
    rw [show bl x + 2 - 1 = bl x + 1 from by omega] at hst
    have hb0 : bl (2 ^ ((bl x + 1) / 2)) ≤ 50 := by rw [bl_pow2]; omega
    refine sx_while (α := Nat) (fun r => upd (upd (upd (upd (upd (fun _ => none) "a" (.list (L w x))) "w" (.int (w : Nat))) "mul" (.fn "_law_mul")) "divrem" (.fn "_law_divrem")) "root" (.list (L w r))) (fun _ => none) id (fun r => rt 2 x ≤ r ∧ bl r ≤ 50) (2 ^ ((bl x + 1) / 2)) ⟨hst, hb0⟩ (by top_raise) rfl ?_
    rintro r ⟨hr, hbr⟩
    have hr0 : 0 < r := Nat.lt_of_lt_of_le (rt_pos (by decide) hx0) hr
    have hge := @newton_ge x 1 r hr0
    have hstop := @newton_stop x 1 r hr0 hr
    rw [Nat.pow_one, Nat.mul_one] at hge hstop
    refine tr_true ?_
    rw [if_pos rfl]
    have bxr := @bl_div x r
    have b1 : bl (r + x / r) ≤ 91 := bl_add (by kc_close) (by kc_close)
    repeat boot_fact
    refine ev_fst ?_
    repeat boot_fact
    refine con_use (con_divrem hw1 hw9 (by kc_close) (by kc_close) hr0) ?_
    repeat boot_fact
    refine con_use (con_add hw1 hw9 (by kc_close) (by kc_close)) ?_
    repeat boot_fact
    refine con_use (con_shr (n := 1) hw1 hw9 (by kc_close) (by kc_close)) ?_
    rw [Nat.pow_one]
    have b2 := @bl_div (r + x / r) 2
    repeat boot_fact
    refine con_use (con_compare hw1 (by kc_close) (by kc_close)) ?_
    repeat boot_fact
    by_cases hc : r ≤ (r + x / r) / 2
    · rw [dtrue (cmp_ge.mpr hc), if_pos rfl]
      have er : r = rt 2 x := hstop hc
      rw [← er] at hs2 ⊢
      repeat boot_fact
      refine con_use (con_mul hw1 hw9 (by kc_close) (by kc_close)) ?_
      rw [← Nat.pow_two]
      repeat boot_fact
      refine con_use (con_sub hw1 hw9 (by kc_close) hs2) ?_
      repeat boot_fact
    · rw [dfalse (fun h => hc (cmp_ge.mp h)), if_neg (by decide)]
      repeat boot_fact
      refine ⟨(r + x / r) / 2, ⟨hge, ?_⟩, ?_, by top_raise, rfl⟩
      · exact Nat.le_trans (bl_mono (show (r + x / r) / 2 ≤ r by omega)) hbr
      · show (r + x / r) / 2 < r; omega
end

section
variable {G : TC}

theorem con_kroot {w x k : Nat} (hw : 2 ≤ w) (hw9 : w ≤ 9) (hx : bl x ≤ 90) (hk : 1 ≤ k) (hk9 : k ≤ 9) : Con G false 4 "root_rem" [.list (L w x), .int (k : Nat), .int (w : Nat), .fn "_law_mul", .fn "_law_divrem"] (· = .pair (.list (L w (rt k x))) (.list (L w (x - rt k x ^ k)))) := by
  have hw1 : 1 ≤ w := by omega
  have h1 := nd_small hw1 hx
  have br := @rt_bl k x hk
  have hs2 := (@rt_spec k x hk).1
  refine con_def (d := fdef 22) (ps := ["a", "k", "w", "mul", "divrem"]) (n := 3) (fmem (k := 18) rfl) rfl (by decide) (by decide +kernel) (fun _ _ _ => lenS fun _ => lenS fun _ => lenS fun _ => lenS fun _ => lenS fun _ => len0 rfl) rfl rfl rfl (by decide +kernel) ?_
  simp only [mk]
  repeat boot_fact
  rw [dfalse (by kc_close), if_neg (by decide)]
  have both : (k = 1 ∨ x = 0) → rt k x = x := by
    rintro (h | h)
    · subst h; exact rt_id
    · subst h; exact rt_zero
  repeat boot_fact
  by_cases hk1 : k = 1
  · have e : ((((k : Nat) : Int) == 1)) = true := by simp [hk1]
    rw [e, if_pos rfl, if_pos rfl]
    have e0 : x - rt k x ^ k = 0 := by
      rw [both (.inl hk1)]
      rw [hk1, Nat.pow_one, Nat.sub_self]
    repeat boot_fact
    refine ev_listof (ev_name (mv := .list (L w x)) (by top_raise0) ⟨_, rfl, by rw [L_length]; omega, ?_⟩)
    repeat boot_fact
    refine ev_list (av_nil ⟨[], .nil, by simp, ?_⟩)
    repeat boot_fact
    rw [e0, both (.inl hk1), L_zero hw1]
  have e : ((((k : Nat) : Int) == 1)) = false := by simp; omega
  rw [e, if_neg (by decide)]
  repeat boot_fact
  rw [L_length]
  refine ⟨by kc_close, ?_⟩
  repeat boot_fact
  by_cases h : x = 0
  · have e : ((((nd w x : Nat) : Int) == 0)) = true := by rw [h]; simp [nd_zero hw1]
    rw [e, if_pos rfl]
    have e0 : x - rt k x ^ k = 0 := by
      rw [both (.inr h)]
      rw [h, Nat.zero_sub]
    repeat boot_fact
    refine ev_listof (ev_name (mv := .list (L w x)) (by top_raise0) ⟨_, rfl, by rw [L_length]; omega, ?_⟩)
    repeat boot_fact
    refine ev_list (av_nil ⟨[], .nil, by simp, ?_⟩)
    repeat boot_fact
    rw [e0, both (.inr h), L_zero hw1]
  have hx0 := Nat.pos_of_ne_zero h
  have hp := nd_pos hw1 hx0
  have e : ((((nd w x : Nat) : Int) == 0)) = false := by simp; omega
  rw [e, if_neg (by decide)]
  repeat boot_fact
  refine con_use (con_bits hw1 hw9 (by kc_close)) ?_
  repeat boot_fact
  by_cases hsk : bl x ≤ k
  · rw [dtrue (by kc_close), if_pos rfl]
    have e1 : rt k x = 1 := rt_one hk hx0 (bl_le.mp hsk)
    repeat boot_fact
    refine ev_list (av_cons (ev_int (av_nil ⟨[1], .cons .nil, by simp, ?_⟩)))
    rw [← L_one hw1]
    repeat boot_fact
    refine ev_list (av_cons (ev_int (av_nil ⟨[1], .cons .nil, by simp, ?_⟩)))
    rw [← L_one hw1]
    repeat boot_fact
    refine con_use (con_sub hw1 hw9 (by kc_close) hx0) ?_
    repeat boot_fact
    rw [e1, Nat.one_pow]
  · rw [dfalse (by kc_close), if_neg (by decide)]
    repeat boot_fact
    refine ev_list (av_cons (ev_int (av_nil ⟨[1], .cons .nil, by simp, ?_⟩)))
    rw [← L_one hw1]
    repeat boot_fact
    refine bn_add' (c := ((bl x + k : Nat) : Int)) (by kc_close) ?_
    repeat boot_fact
    refine bn_sub' (c := ((bl x + k - 1 : Nat) : Int)) (by kc_close) ?_
    repeat boot_fact
    refine bn_fdiv' rfl rfl (by kc_close) (Sm.nat (k := 20) (by kc_close) (by decide)) ?_
    have hq : (bl x + k - 1) / k ≤ 100 := Nat.le_trans (Nat.div_le_self _ _) (by kc_close)
    repeat boot_fact
    refine con_use (con_shl hw1 hw9 (by decide) (by kc_close)) ?_
    rw [Nat.one_mul]
    have hst := @newton_start x k hk
    have hnb := @newton_bl x k
    obtain ⟨R0, hR0⟩ : ∃ R0, 2 ^ ((bl x + k - 1) / k) = R0 := ⟨_, rfl⟩
    rw [hR0] at hst hnb ⊢
    have bk : bl k ≤ 4 := bl_le.mpr (by kc_close)
    obtain ⟨m, rfl⟩ : ∃ m, k = m + 1 := ⟨k - 1, by omega⟩
    have bm : bl m ≤ 4 := bl_le.mpr (by kc_close)
    refine sx_cons (s1_two ?_ offμ_none offμ_none)
    repeat boot_fact
    refine con_use (con_nat_of hw1 hw9 (by kc_close)) ?_
    repeat boot_fact
    refine bn_sub' (c := ((m : Nat) : Int)) (by kc_close) ?_
    repeat boot_fact
    refine con_use (con_nat_of hw1 hw9 (by kc_close)) ?_
    repeat boot_fact
    refine sx_while (α := Nat) (fun r => upd (upd (upd (upd (upd (upd (upd (upd (fun _ => none) "a" (.list (L w x))) "k" (.int ((m + 1 : Nat) : Int))) "w" (.int (w : Nat))) "mul" (.fn "_law_mul")) "divrem" (.fn "_law_divrem")) "many" (.list (L w (m + 1)))) "less" (.list (L w m))) "root" (.list (L w r))) (fun _ => none) id (fun r => rt (m + 1) x ≤ r ∧ r ≤ R0) R0 ⟨hst, Nat.le_refl _⟩ (by top_raise) rfl ?_
    rintro r ⟨hr, hrR⟩
    have hr0 : 0 < r := Nat.lt_of_lt_of_le (rt_pos hk hx0) hr
    have hge := @newton_ge x m r hr0
    have hstop := @newton_stop x m r hr0 hr
    have bp := hnb (r := r) hk hrR
    have bp1 : bl (r ^ m) ≤ 100 := pow_le_bl (show m ≤ m + 1 by omega) (by kc_close) (by decide)
    have brr : bl r ≤ 100 := by
      have := pow_le_bl (x := r) (show 1 ≤ m + 1 by omega) (B := 100) (by kc_close) (by decide)
      rwa [Nat.pow_one] at this
    have hrm : 0 < r ^ m := Nat.pow_pos hr0
    refine tr_true ?_
    rw [if_pos rfl]
    repeat boot_fact
    refine ev_fst ?_
    repeat boot_fact
    refine bn_sub' (c := ((m : Nat) : Int)) (by kc_close) ?_
    repeat boot_fact
    refine con_use (con_power hw1 hw9 (by kc_close) (by kc_close) (by kc_close)) ?_
    repeat boot_fact
    refine con_use (con_divrem hw1 hw9 (by kc_close) (by kc_close) hrm) ?_
    repeat boot_fact
    refine ev_fst ?_
    repeat boot_fact
    refine con_use (con_mul hw1 hw9 (by kc_close) (by kc_close)) ?_
    have b3 : bl (r * m) ≤ 104 := Nat.le_trans bl_mul (by kc_close)
    have b4 := @bl_div x (r ^ m)
    have b5 : bl (r * m + x / r ^ m) ≤ 105 := bl_add b3 (by kc_close)
    repeat boot_fact
    refine con_use (con_add hw1 hw9 (by kc_close) (by kc_close)) ?_
    repeat boot_fact
    refine con_use (con_divrem hw1 hw9 (by kc_close) (by kc_close) (by kc_close)) ?_
    have b6 := @bl_div (r * m + x / r ^ m) (m + 1)
    repeat boot_fact
    refine con_use (con_compare hw1 (by kc_close) (by kc_close)) ?_
    repeat boot_fact
    by_cases hc : r ≤ (r * m + x / r ^ m) / (m + 1)
    · rw [dtrue (cmp_ge.mpr hc), if_pos rfl]
      have er : r = rt (m + 1) x := hstop hc
      rw [← er] at hs2 ⊢
      repeat boot_fact
      refine con_use (con_power hw1 hw9 (by kc_close) (by kc_close) (by kc_close)) ?_
      repeat boot_fact
      refine con_use (con_sub hw1 hw9 (by kc_close) hs2) ?_
      repeat boot_fact
    · rw [dfalse (fun h => hc (cmp_ge.mp h)), if_neg (by decide)]
      repeat boot_fact
      refine ⟨(r * m + x / r ^ m) / (m + 1), ⟨hge, by omega⟩, ?_, by top_raise, rfl⟩
      show (r * m + x / r ^ m) / (m + 1) < r; omega
end

section
section
variable {G : TC} {S : FS} {σ : SE} {μ : MU} {K : SE → MU → Prop} {R P : MV → Prop}

/-- the box in hand -/
theorem box_at {F : FD} {μa : Option Addr} {h : Heap} {x : Str} (I : Inv G S F σ μ μa h) (hx : σ x = some .box) (hb : S.bx = true) :
    ∃ p l z m, S.δ F = some p ∧ h.Ns F.L m ∧ S.sc.names.lookup x = some .local ∧ m x = some (.ref p.1) ∧ G.hT.get? p.1 = none ∧ G.hT.get? p.2 = none ∧ BoxIs h p l z ∧ (∀ v ∈ l, 0 ≤ v) ∧ l.length ≤ 30 ∧ 0 ≤ z ∧ z < 1000003 := by
  obtain ⟨m, hn, vs, u⟩ := I.vars
  obtain ⟨hl, v, e2, p, hp, rfl, t1, t2⟩ := vs x _ hx
  have hd : S.δ F = some p := by unfold FS.δ; rw [hb]; exact hp
  obtain ⟨l, z, r⟩ := I.box p hd
  exact ⟨p, l, z, m, hd, hn, hl, e2, t1, t2, r⟩
theorem wp_sub_lit {F : FD} {A : Around} {nm : Str} {fa : Addr} {cd : Value} {s : Shared} {m : Str → Option Value} {x : Str} {b : Addr} {its : Array Value} {j : Int} {v : Value} {k : Nat} {q1 q2 q3 : Pos} {Q : Value → Shared → Prop}
    (hn : s.heap.Ns F.L m) (hl : S.sc.names.lookup x = some .local) (hk : S.sc.kind = .function) (hd : (x == ("__debug__" : Str)) = false) (e2 : m x = some (.ref b)) (h : s.heap.IsList b its) (h0 : 0 ≤ j) (h1 : j < 2 ^ 63) (hv : its[j.toNat]? = some v)
    (hs : ∀ l k' u, subscripted (.Constant (.int j) k q2) false (.ref l) (.int k' u) = operate [.ref l, .int k' u] (getItem (.ref l) (.int k' u)))
    (q : ∀ tk, Q v { s with toks := tk }) : wpAny (model G.prog G.w) A (eval (.Subscript (.Name x q1) (.Constant (.int j) k q2) q3) (envOf nm S.sc F.L fa cd)) Q NoE s := by
  refine Subscript_ (wpAny_Name (wpAny_loadName_local (env := envOf nm S.sc F.L fa cd) hk hl hn e2 (wpAny_Constant_int ?_)) hd)
  exact tail_any (s := { s with toks := s.toks + 1 }) h.typeIs slot_list_getitem.lookup (wpAny_getItem_list h h0 h1 hv (q _)) (hs ..)

theorem ev_box1 {x : Str} {k : Nat} {q1 q2 q3 : Pos} (hx : σ x = some .box) (hb : S.bx = true) (h : ∀ y : Nat, y < 1000003 → P (.int (y : Nat))) (hk : S.sc.kind = .function := by rfl) (hd : (x == ("__debug__" : Str)) = false := by decide +kernel)
    (hs : ∀ l k' u, subscripted (.Constant (.int 1) k q2) false (.ref l) (.int k' u) = operate [.ref l, .int k' u] (getItem (.ref l) (.int k' u)) := by intro _ _ _; with_unfolding_all rfl) :
    EV G S σ μ (.Subscript (.Name x q1) (.Constant (.int 1) k q2) q3) P := by
  refine ⟨fun F μa A nm fa cd s Q B I q => ?_⟩
  obtain ⟨p, l, z, m, hd', hn, hl, e2, t1, t2, ⟨⟨t, p1⟩, _⟩, _, _, h0, h1⟩ := box_at I hx hb
  obtain ⟨y, rfl⟩ := Int.eq_ofNat_of_zero_le h0
  exact wp_sub_lit hn hl hk hd e2 p1 (by decide) (by decide) rfl hs fun tk => q _ (.int (y : Nat)) _ (h y (by kc_close)) .toks I ⟨_, rfl⟩

theorem box_evo {F : FD} {μa : Option Addr} {h h' : Heap} {p : Addr × Addr} {b : Addr} (I : Inv G S F σ μ μa h) (hd : S.δ F = some p) (hb : b = p.1 ∨ b = p.2) (ht : G.hT.get? b = none) (sb : Heap.SameBut b h h') (bx : BoxOK (S.δ F) h') :
    Ext (dirty (S.δ F)) h h' ∧ Inv G S F σ μ μa h' := by
  have X : Ext (dirty (S.δ F)) h h' := fun c o e n => sb.extBut c o (fun q => n ⟨p, hd, q ▸ hb⟩) e
  refine ⟨X, I.ext X (fun c o e => ?_) bx⟩
  refine sb.extBut c o ?_ (I.top c o e)
  rintro rfl
  rw [ht] at e; cases e

/-- box[1] = e -/
theorem s1_setbox {x : Str} {k : Nat} {q1 q2 q3 pos : Pos} {e : Expr} (hx : σ x = some .box) (hb : S.bx = true) (h : EV G S σ μ e fun v => ∃ y : Nat, v = .int (y : Nat) ∧ y < 1000003 ∧ K σ μ) (hk : S.sc.kind = .function := by rfl) (hd : (x == ("__debug__" : Str)) = false := by decide +kernel)
    (hs : ∀ env, swapsWith e (some (.Subscript (.Name x q1) (.Constant (.int 1) k q2) q3)) pos.line env = pure false := by intro _; rfl) : S1 G S σ μ (.Assign [.Subscript (.Name x q1) (.Constant (.int 1) k q2) q3] e pos) K R := by
  refine ⟨fun F μa A nm fa cd s Q B I qn qr => ?_⟩
  refine wpAny_Assign_Subscript (h.run F μa A nm fa cd s _ B I fun v mv s₁ hK E₁ I₁ r => ?_) (hs _)
  obtain ⟨y, rfl, hy, hK⟩ := hK
  obtain ⟨t', rfl⟩ := r
  obtain ⟨p, l, z, m, hd', hn, hl, e2, t1, t2, ⟨⟨t, p1⟩, ⟨items, p2, i⟩, hne⟩, hl0, hl30, h0, h1⟩ := box_at I₁ hx hb
  refine wpAny_Name (wpAny_loadName_local (env := envOf nm S.sc F.L fa cd) hk hl hn e2 (wpAny_Constant_int ?_)) hd
  refine wpAny_setItem_list (s := { s₁ with toks := s₁.toks + 1 }) p1 (by decide) (by decide) (by show (1 : Int) < ((2 : Nat) : Int); decide) fun h' p1' sb => ?_
  have bx' : BoxOK (S.δ F) h' := fun p' e => by
    rw [hd'] at e; cases e
    exact ⟨l, (y : Nat), ⟨⟨t', p1'⟩, ⟨items, p2.at fun o e => sb.extBut _ o (fun q => hne q.symm) e, i⟩, hne⟩, hl0, hl30, by omega, by omega⟩
  obtain ⟨X, I'⟩ := box_evo I₁ hd' (.inl rfl) t1 sb bx'
  exact qn _ _ μa _ hK (E₁.toS.trans (Evo.toS ⟨⟨h', _, rfl⟩, X⟩)) I'

theorem erase_zero (items : Array Value) : (items.eraseIdxIfInBounds 0).toList = items.toList.tail := by
  obtain ⟨l⟩ := items
  cases l with
  | nil => rfl
  | cons a l => simp [Array.eraseIdxIfInBounds]
theorem ints_tail {vs : List Value} {xs : List Int} (i : IntsAre vs xs) : IntsAre vs.tail xs.tail := by
  cases i with
  | nil => exact .nil
  | cons _ _ r => exact r
/-- if len(box[0]) > 0: return box[0].pop(0) % y -/
theorem s1_takeif {x y : Str} {mI : Int} {k1 k2 k3 k4 : Nat} {p1 p2 p3 p4 p5 p6 p7 q1 q2 q3 q4 q5 q6 q7 q8 q9 pos : Pos} (hx : σ x = some .box) (hb : S.bx = true) (hy : σ y = some (.int mI)) (hm : mI ≠ 0) (hK : K σ μ) (hR : ∀ v : Int, R (.int (v.fmod mI)))
    (hlen : S.sc.names.lookup ("len" : Str) = some .globalImplicit := by first | decide +kernel | (dsimp only; decide +kernel)) (hk : S.sc.kind = .function := by rfl) (hd : (x == ("__debug__" : Str)) = false := by decide +kernel) (hdy : (y == ("__debug__" : Str)) = false := by decide +kernel)
    (hmk : behindInMarks .Gt (.Constant (.int 0) k2 p6) = false := by with_unfolding_all rfl)
    (hc : ∀ env, eval (.Call (.Name "len" p1) [.Subscript (.Name x p2) (.Constant (.int 0) k1 p3) p4] [] p5) env = (do callWith p5 (← eval (.Name "len" p1) env) [] (backTo p5 (starEach [.Subscript (.Name x p2) (.Constant (.int 0) k1 p3) p4] env)) (backToKw p5 (keywordEach [] env))) := by intro _; rfl)
    (hst : ∀ env, starEach [.Subscript (.Name x p2) (.Constant (.int 0) k1 p3) p4] env = [(false, eval (.Subscript (.Name x p2) (.Constant (.int 0) k1 p3) p4) env)] := by intro _; rfl)
    (hst2 : ∀ env, starEach [.Constant (.int 0) k4 q5] env = [(false, eval (.Constant (.int 0) k4 q5) env)] := by intro _; rfl)
    (hs0 : ∀ l k' u, subscripted (.Constant (.int 0) k1 p3) false (.ref l) (.int k' u) = operate [.ref l, .int k' u] (getItem (.ref l) (.int k' u)) := by intro _ _ _; with_unfolding_all rfl)
    (hs1 : ∀ l k' u, subscripted (.Constant (.int 0) k3 q2) false (.ref l) (.int k' u) = operate [.ref l, .int k' u] (getItem (.ref l) (.int k' u)) := by intro _ _ _; with_unfolding_all rfl)
    (hev : ∃ pl : Env → Sem Bool, ∀ env, eval (.Call (.Attribute (.Subscript (.Name x q1) (.Constant (.int 0) k3 q2) q3) "pop" q4) [.Constant (.int 0) k4 q5] [] q6) env = (do
      let ov ← eval (.Subscript (.Name x q1) (.Constant (.int 0) k3 q2) q3) env
      standAt q4.atName
      let (f, first) ← holding [ov] (getMethod ov "pop" (pl env))
      callWith q6 f first (backTo q6 (starEach [.Constant (.int 0) k4 q5] env)) []) := by exact ⟨_, fun _ => rfl⟩) :
    S1 G S σ μ (.If (.Compare (.Call (.Name "len" p1) [.Subscript (.Name x p2) (.Constant (.int 0) k1 p3) p4] [] p5) [.Gt] [.Constant (.int 0) k2 p6] p7)
      [.Return (some (.BinOp (.Call (.Attribute (.Subscript (.Name x q1) (.Constant (.int 0) k3 q2) q3) "pop" q4) [.Constant (.int 0) k4 q5] [] q6) .Mod (.Name y q7) q8)) q9] [] pos) K R := by
  refine ⟨fun F μa A nm fa cd s Q B I qn qr => ?_⟩
  obtain ⟨plc, hev⟩ := hev
  obtain ⟨p, l, z, m, hd', hn, hl, e2, t1, t2, ⟨⟨t, pl1⟩, ⟨items, pl2, i⟩, hne⟩, hl0, hl30, h0, h1⟩ := box_at I hx hb
  have hsz := ints_size i
  refine wpAny_If (wpAny_isTrue_Compare1 (Call_ (wp_boot I hk hlen (by decide +kernel) boot_len (by decide +kernel) (by decide +kernel) ?_) (hc _)) hmk)
  refine PyProof.Rows.callWith_builtin1 (args_cons (wp_sub_lit hn hl hk hd e2 pl1 (by decide) (by decide) rfl hs0 fun tk => args_nil ?_) (hst _)) (hst _)
  refine len_list (s := { s with toks := tk }) pl2.isList (by omega) ?_
  refine wpAny_Constant_int (gt_int ?_)
  refine wpAny_truthy_bool ?_
  by_cases hpos : 0 < l.length
  · rw [dtrue (by kc_close)]
    refine wpAny_execs_cons (wpAny_Return_some (wpAny_BinOp ?_))
    refine MethodCall_ ?_ (hev _)
    refine wp_sub_lit (F := F) (m := m) (its := #[.ref p.2, .int z t]) (v := .ref p.2) hn hl hk hd e2 pl1 (by decide) (by decide) rfl hs1 fun tk2 => ?_
    obtain ⟨n, ho⟩ := id pl2
    refine getMethod_list_of (s := { s with toks := tk2 }) PySem.F.slot_list_pop PySem.F.type_list_pop pl2.isList ⟨_, ho, rfl⟩ ?_
    refine callWith_method1 (args_cons (wpAny_Constant_int (args_nil ?_)) (hst2 _)) (hst2 _)
    obtain ⟨v0, hv0⟩ : ∃ v0, items[0]? = some v0 := ⟨items[0]'(by kc_close), Array.getElem?_eq_getElem (by kc_close)⟩
    obtain ⟨tv, rfl⟩ := ints_at i hpos hv0
    refine call_meets PySem.F.slot_list_pop ⟨_, ho, rfl⟩ PySem.F.entry_list_pop (PySem.F.args_list_pop_2 _ _) (PySem.MeetsSeq.list_pop_at p.2 items n 0 _ 0 _ (by decide) (seqIndex?_zero (by kc_close)) hv0 (by rw [sizeLine_eq]; omega)) ⟨ho, ?_⟩
    have sb : Heap.SameBut p.2 s.heap (s.heap.update p.2 (Obj.mapSeq fun xs => xs.eraseIdxIfInBounds 0)) := Heap.SameBut.update ..
    have pl2' : (s.heap.update p.2 (Obj.mapSeq fun xs => xs.eraseIdxIfInBounds 0)).PlainList p.2 (items.eraseIdxIfInBounds 0) := ⟨_, Heap.get?_update_self _ ho rfl⟩
    generalize s.heap.update p.2 (Obj.mapSeq fun xs => xs.eraseIdxIfInBounds 0) = h' at sb pl2' ⊢
    have bx' : BoxOK (S.δ F) h' := fun p' e => by
      rw [hd'] at e; cases e
      refine ⟨l.tail, z, ⟨⟨t, pl1.at fun o e => sb.extBut _ o hne e⟩, ⟨_, pl2', ?_⟩, hne⟩, fun v hv => hl0 v (List.mem_of_mem_tail hv), by rw [List.length_tail]; omega, h0, h1⟩
      rw [erase_zero]; exact ints_tail i
    obtain ⟨X, I'⟩ := box_evo I hd' (.inr rfl) t2 sb bx'
    refine (ev_name (P := (· = .int mI)) hy rfl hk hdy).run F μa A nm fa cd { s with heap := h', toks := _ } _ B I' fun v mv s₃ hv E₃ I₃ r₃ => ?_
    subst hv
    obtain ⟨tm, rfl⟩ := r₃
    refine mod_int' hm ?_
    refine qr _ (.int ((l.getD 0 0).fmod mI)) σ μ μa _ (hR _) ?_ I₃ ⟨_, rfl⟩
    have E0 : Evo (S.δ F) s { s with heap := h', toks := tk2 + 1 } := ⟨⟨h', _, rfl⟩, X⟩
    exact ((E0.trans E₃).trans .toks).toS
  · rw [dfalse (by kc_close)]
    refine wpAny_execs_nil (qn _ _ μa _ hK ?_ I)
    exact (Evo.toks (δ := S.δ F)).toS
end

section
variable {G : TC} {S : FS} {σ : SE} {μ : MU} {P : MV → Prop}
/-- max(e, f) -/
theorem ev_max {e f : Expr} {p₁ pos : Pos} (h : EV G S σ μ e fun x => EV G S σ μ f fun y => ∃ a b : Int, x = .int a ∧ y = .int b ∧ P (.int (max a b)))
    (hl : S.sc.names.lookup ("max" : Str) = some .globalImplicit := by first | decide +kernel | (dsimp only; decide +kernel)) (hk : S.sc.kind = .function := by rfl)
    (hc : ∀ env, eval (.Call (.Name "max" p₁) [e, f] [] pos) env = (do callWith pos (← eval (.Name "max" p₁) env) [] (backTo pos (starEach [e, f] env)) (backToKw pos (keywordEach [] env))) := by intro _; rfl)
    (hs : ∀ env, starEach [e, f] env = [(false, eval e env), (false, eval f env)] := by intro _; rfl) (hs2 : ∀ env, starEach [f] env = [(false, eval f env)] := by intro _; rfl) : EV G S σ μ (.Call (.Name "max" p₁) [e, f] [] pos) P := by
  refine ⟨fun F μa A nm fa cd s Q B I q => ?_⟩
  refine Call_ (wp_boot I hk hl (by decide +kernel) (v := .builtin "max") (by decide +kernel) (by decide +kernel) (by decide +kernel) ?_) (hc _)
  refine PyProof.Rows.callWith_builtin1 (args_cons (h.run F μa A nm fa cd s _ B I fun vx x s₁ hx E₁ I₁ r₁ => args_cons (hx.run F μa A nm fa cd s₁ _ B I₁ fun vy y s₂ hy E₂ I₂ r₂ => args_nil ?_) (hs2 _)) ((hs _).trans (by rw [hs2]))) ((hs _).trans (by rw [hs2])) (by rw [hs2]; rfl)
  obtain ⟨a, b, rfl, rfl, p⟩ := hy
  obtain ⟨t, rfl⟩ := r₁
  obtain ⟨u, rfl⟩ := r₂
  refine PySem.Flt.max_two_num B.handled (.int a t) (.int b u) fun h' tk k => ?_
  have E : Evo (S.δ F) s { s₂ with heap := h', toks := tk } := (E₁.trans E₂).trans (.full k)
  show Q (if decide (a < b) = true then .int b u else .int a t) _
  by_cases hab : a < b
  · rw [dtrue hab, if_pos rfl]
    refine q _ _ _ p E (I₂.keeps k) ⟨u, ?_⟩
    rw [Int.max_eq_right (by kc_close)]
  · rw [dfalse hab, if_neg (by decide)]
    refine q _ _ _ p E (I₂.keeps k) ⟨t, ?_⟩
    rw [Int.max_eq_left (by kc_close)]

/-- pairs of lists compared -/
theorem cp_eqlp {xs ys xs' ys' : List Int} {P : Bool → Prop} (p : P (decide (xs = xs') && decide (ys = ys'))) : CP G .Eq (.lpair xs ys) (.lpair xs' ys') P := by
  refine ⟨?_⟩
  rintro bad β A s vx vy Q hh hu ⟨a, b, c, is, js, rfl, _, _, _, ⟨n, hp1⟩, p2, p3, i, j⟩ ⟨a', b', c', is', js', rfl, _, _, _, ⟨n', hp1'⟩, p2', p3', i', j'⟩ q
  have r1 : Reads s.heap (.ref a) (.list [.list (xs.map PyData.int), .list (ys.map PyData.int)]) _ := .list hp1 rfl rfl (.cons (reads_of_ints (by simpa using p2.isList) i) (.cons (reads_of_ints (by simpa using p3.isList) j) .nil))
  have r2 : Reads s.heap (.ref a') (.list [.list (xs'.map PyData.int), .list (ys'.map PyData.int)]) _ := .list hp1' rfl rfl (.cons (reads_of_ints (by simpa using p2'.isList) i') (.cons (reads_of_ints (by simpa using p3'.isList) j') .nil))
  have sh : ∀ xs ys : List Int, SeqAt.shaped (.list [.list (xs.map PyData.int), .list (ys.map PyData.int)]) = true := fun xs ys => by
    have h1 := shaped_ints xs
    have h2 := shaped_ints ys
    have c1 := SeqAt.canLay_of_shaped h1
    have c2 := SeqAt.canLay_of_shaped h2
    have d1 := PySem.W.depthAll_ints xs
    have d2 := PySem.W.depthAll_ints ys
    show (PyData.canLay0 _ && decide (PyData.depth _ ≤ 64)) = true
    rw [Bool.and_eq_true]
    refine ⟨?_, ?_⟩
    · simp only [PyData.canLay0, PyData.canLayAll0] at c1 c2 ⊢
      simp [c1, c2]
    · simp only [PyData.depth, PyData.depthAll]
      refine decide_eq_true ?_
      omega
  refine eq_dataH r1 r2 (sh _ _) (sh _ _) (by kc_close) ?_
  have e : PyData.eqv (.list [.list (xs.map PyData.int), .list (ys.map PyData.int)]) (.list [.list (xs'.map PyData.int), .list (ys'.map PyData.int)]) = (decide (xs = xs') && decide (ys = ys')) := by
    simp only [PyData.eqv, PyData.eqvAll, ked_eqvAll, Bool.and_true]
  rw [e]
  exact q _ _ _ p fun _ _ e => e
end

variable {G : TC}
theorem con_take {m : Nat} (hm : 0 < m) (hm2 : m < 2 ^ 60) : Con G true 1 "_law_take" [.box, .int (m : Nat)] (fun r => ∃ y : Nat, r = .int (y : Nat) ∧ y < m) := by
  refine con_def (d := fdef 29) (ps := ["box", "many"]) (n := 0) (fmem (k := 24) rfl) rfl (by decide) (by decide +kernel) (fun _ _ _ => lenS fun _ => lenS fun _ => len0 rfl) rfl rfl rfl (by decide +kernel) ?_
  simp only [mk]
  refine sx_cons (s1_takeif (mI := (m : Nat)) (by top_raise0) rfl (by top_raise0) (by kc_close) ?_ fun v => ?_)
  · refine sx_cons (s1_setbox (by top_raise0) rfl ?_)
    refine ev_bin (ev_bin (ev_bin (ev_box1 (by top_raise0) rfl fun y hy => ?_)))
    repeat boot_fact
    refine bn_mul' (c := ((y * 4099 : Nat) : Int)) (Sm.nat (k := 20) (by kc_close) (by decide)) (Sm.lit (by decide)) (by kc_close) ?_
    repeat boot_fact
    refine bn_add' (c := ((y * 4099 + 12301 : Nat) : Int)) (by kc_close) ?_
    repeat boot_fact
    refine bn_mod' (y := 1000003) rfl rfl (by decide) ?_
    refine ⟨_, rfl, Nat.mod_lt _ (by decide), ?_⟩
    refine sx_cons (s1_return (ev_bin (ev_bin (ev_box1 (by top_raise0) rfl fun y hy => ?_))))
    repeat boot_fact
    refine bn_fdiv' (y := 16) rfl rfl (by decide) (Sm.lit (by decide)) ?_
    repeat boot_fact
    refine bn_mod' rfl rfl hm ?_
    exact ⟨_, rfl, Nat.mod_lt _ hm⟩
  · have h1 : 0 ≤ v.fmod (m : Nat) := Int.fmod_nonneg_of_pos _ (by kc_close)
    have h2 : v.fmod (m : Nat) < (m : Nat) := Int.fmod_lt_of_pos _ (by kc_close)
    obtain ⟨y, hy⟩ := Int.eq_ofNat_of_zero_le h1
    rw [hy] at h2 ⊢
    exact ⟨y, rfl, by omega⟩
end

section
variable {G : TC}
theorem con_told {w x k : Nat} (hw : 1 ≤ w) (hw9 : w ≤ 9) (hx : bl x ≤ 90) (hk : 1 ≤ k) (hk9 : k ≤ 9) :
    Con G false 3 "_law_told_right" [.pair (.list (L w (rt k x))) (.list (L w (x - rt k x ^ k))), .int (x : Nat), .int (k : Nat), .int (w : Nat)] (· = .bool true) := by
  have br := @rt_bl k x hk
  have hs2 := (@rt_spec k x hk).1
  have hsub := @bl_sub x (rt k x ^ k)
  have hbk : bl (rt k x) * k ≤ 3000 := Nat.le_trans (Nat.mul_le_mul (show bl (rt k x) ≤ 90 by omega) hk9) (by decide)
  refine con_def (d := fdef 33) (ps := ["told", "number", "k", "w"]) (n := 2) (fmem (k := 28) rfl) rfl (by decide) (by decide +kernel) (fun _ _ _ => lenS fun _ => lenS fun _ => lenS fun _ => lenS fun _ => len0 rfl) rfl rfl rfl (by decide +kernel) ?_
  simp only [mk]
  repeat boot_fact
  refine con_use (con_root (by kc_close) hk (by kc_close)) ?_
  refine sx_cons (s1_return (ev_cmp (ev_listof2 ?_)))
  repeat boot_fact
  refine ev_list2 ?_
  repeat boot_fact
  refine con_use (con_limbs hw hw9 (by kc_close)) ?_
  repeat boot_fact
  refine con_use (con_pow hbk (by kc_close)) ?_
  refine bn_sub' (c := ((x - rt k x ^ k : Nat) : Int)) (by kc_close) ?_
  repeat boot_fact
  refine con_use (con_limbs hw hw9 (by kc_close)) ?_
  refine av_nil ⟨_, _, rfl, ?_⟩
  refine cp_eqlp ?_
  simp
theorem con_drawn {w : Nat} (hw : 2 ≤ w) (hw9 : w ≤ 9) : Con G true 2 "_law_drawn" [.box, .int (w : Nat)] (fun r => ∃ x : Nat, r = .int (x : Nat) ∧ bl x ≤ 90) := by
  refine con_def (d := fdef 32) (ps := ["box", "w"]) (n := 1) (fmem (k := 27) rfl) rfl (by decide) (by decide +kernel) (fun _ _ _ => lenS fun _ => lenS fun _ => len0 rfl) rfl rfl rfl (by decide +kernel) ?_
  simp only [mk]
  have hs1 : Sm ((1 : Nat) : Int) := Sm.nat (k := 1) (by decide) (by decide)
  have hp2w : 2 ^ w ≤ 2 ^ 9 := Nat.pow_le_pow_right (by decide) hw9
  refine sx_cons (s1_two ?_ offμ_none offμ_none)
  refine av_cons (ev_callb rfl (by decide +kernel) ?_)
  repeat boot_fact
  refine con_useE (con_take (m := 6) (by decide) (by decide)) ?_
  rintro _ ⟨form, rfl, hform⟩
  refine av_cons (ev_bin (ev_int (ev_callb rfl (by decide +kernel) ?_)))
  repeat boot_fact
  refine con_useE (con_take (m := 8) (by decide) (by decide)) ?_
  rintro _ ⟨many', rfl, hmany⟩
  obtain ⟨many, hmn⟩ : ∃ many, 1 + many' = many := ⟨_, rfl⟩
  refine bn_add' (c := ((many : Nat) : Int)) (by kc_close) ?_
  refine av_nil ⟨_, _, rfl, ?_⟩
  have hwm : w * many ≤ 72 := Nat.mul_le_mul hw9 (show many ≤ 8 by omega)
  have hwm1 : w * (many - 1) ≤ 63 := Nat.mul_le_mul hw9 (show many - 1 ≤ 7 by omega)
  have hsw : Sm (w : Nat) := Sm.nat (k := 20) (by kc_close) (by decide)
  have hsm : Sm (many : Nat) := Sm.nat (k := 20) (by kc_close) (by decide)
  repeat boot_fact
  by_cases h1 : form = 1
  · have e : (((form : Nat) : Int) == 1) = true := by rw [h1]; rfl
    rw [e, if_pos rfl]
    repeat boot_fact
    refine bn_mul' (c := ((w * many : Nat) : Int)) hsw hsm (by simp) ?_
    refine bn_shl' (x := 1) rfl rfl (by kc_close) hs1 ?_
    repeat boot_fact
    have hp := pp (w * many)
    refine bn_sub' (c := ((2 ^ (w * many) - 1 : Nat) : Int)) (by kc_close) ?_
    exact ⟨_, rfl, Nat.le_trans bl_sub (by rw [bl_pow2]; omega)⟩
  have e : (((form : Nat) : Int) == 1) = false := by simp; omega
  rw [e, if_neg (by decide)]
  repeat boot_fact
  by_cases h2 : form = 2
  · have e : (((form : Nat) : Int) == 2) = true := by rw [h2]; rfl
    rw [e, if_pos rfl]
    refine sx_cons (s1_return (ev_bin (ev_int (ev_bin (ev_callb rfl (by decide +kernel) ?_)))))
    repeat boot_fact
    refine con_useE (con_take (m := w) (by kc_close) (by kc_close)) ?_
    rintro _ ⟨t, rfl, ht⟩
    repeat boot_fact
    refine bn_sub' (c := ((many - 1 : Nat) : Int)) (by kc_close) ?_
    refine bn_mul' (c := ((w * (many - 1) : Nat) : Int)) hsw (Sm.nat (k := 20) (by kc_close) (by decide)) (by simp) ?_
    refine bn_add' (c := ((t + w * (many - 1) : Nat) : Int)) (by simp) ?_
    refine bn_shl' (x := 1) rfl rfl (by kc_close) hs1 ?_
    rw [Nat.one_mul]
    exact ⟨_, rfl, by rw [bl_pow2]; omega⟩
  have e : (((form : Nat) : Int) == 2) = false := by simp; omega
  rw [e, if_neg (by decide)]
  refine sx_nil ?_
  refine sx_cons (s1_assign (ev_int ?_) (by top_name))
  refine sx_forE (α := Nat) (it_range ?_)
  repeat boot_fact
  refine ⟨_, _, _, many, rfl, small_one (by decide) (by decide) (by omega) (by omega), by rw [rangeSize_nat]; omega, ?_⟩
  refine ⟨fun a => upd (upd (upd (upd (upd (fun _ => none) "box" .box) "w" (.int (w : Nat))) "form" (.int (form : Nat))) "many" (.int (many : Nat))) "found" (.int (a : Nat)), fun i a => a < 2 ^ (w * i), ⟨0, pp _, sub_set (v' := .int 0) (by top_raise0) rfl (by top_raise)⟩, fun i a hi ha => ⟨offμ_none, ?_⟩, fun a ha => ?_⟩
  · rw [rngInts_length] at hi
    have hwi : w * i ≤ 72 := Nat.le_trans (Nat.mul_le_mul_left _ (by kc_close)) hwm
    have ba : bl a ≤ 72 := Nat.le_trans (bl_le.mpr ha) hwi
    refine sx_cons (s1_assign (ev_bin ?_) (by top_name))
    repeat boot_fact
    refine bn_shl' rfl rfl (by kc_close) ⟨by rw [intBits_nat]; omega⟩ ?_
    refine ev_callb rfl (by decide +kernel) ?_
    repeat boot_fact
    refine bn_shl' (x := 1) rfl rfl (by kc_close) hs1 ?_
    rw [Nat.one_mul]
    repeat boot_fact
    refine con_useE (con_take (m := 2 ^ w) (pp w) (by omega)) ?_
    rintro _ ⟨t, rfl, ht⟩
    refine bn_add' (c := ((a * 2 ^ w + t : Nat) : Int)) (by kc_close) ?_
    repeat boot_fact
    refine ⟨a * 2 ^ w + t, ?_, by top_raise, rfl⟩
    show a * 2 ^ w + t < 2 ^ (w * (i + 1))
    rw [Nat.mul_succ, Nat.pow_add]
    have h3 : (a + 1) * 2 ^ w ≤ 2 ^ (w * i) * 2 ^ w := Nat.mul_le_mul_right _ ha
    rw [Nat.add_mul, Nat.one_mul] at h3
    omega
  · rw [rngInts_length] at ha
    have ba : bl a ≤ 72 := Nat.le_trans (bl_le.mpr ha) hwm
    repeat boot_fact
    by_cases h4 : form < 4
    · rw [dtrue (by kc_close), if_pos rfl]
      repeat boot_fact
      omega
    rw [dfalse (by kc_close), if_neg (by decide)]
    repeat boot_fact
    refine bn_mul' (c := ((w * many : Nat) : Int)) hsw hsm (by simp) ?_
    repeat boot_fact
    refine bn_fdiv' (y := 2) rfl rfl (by decide) (Sm.lit (by decide)) ?_
    repeat boot_fact
    refine bn_add' (c := ((w * many / 2 + 1 : Nat) : Int)) (by kc_close) ?_
    refine bn_shl' (x := 1) rfl rfl (by kc_close) hs1 ?_
    rw [Nat.one_mul]
    refine bn_mod' rfl rfl (pp _) ?_
    have hh : bl (a % 2 ^ (w * many / 2 + 1)) ≤ 37 := bl_le.mpr (Nat.lt_of_lt_of_le (Nat.mod_lt _ (pp _)) (Nat.pow_le_pow_right (by decide) (by kc_close)))
    generalize a % 2 ^ (w * many / 2 + 1) = half at hh
    have hsh : Sm (half : Nat) := ⟨by rw [intBits_nat]; omega⟩
    have bhh : bl (half * half) ≤ 74 := Nat.le_trans bl_mul (by kc_close)
    repeat boot_fact
    by_cases h5 : form = 4
    · have e : (((form : Nat) : Int) == 4) = true := by rw [h5]; rfl
      rw [e, if_pos rfl]
      have bh2 : bl (2 * half) ≤ 38 := by rw [Nat.mul_comm]; exact Nat.le_trans (bl_shl (n := 1)) (by kc_close)
      repeat boot_fact
      refine bn_mul' (c := ((half * half : Nat) : Int)) hsh hsh (by simp) ?_
      repeat boot_fact
      refine bn_mul' (c := ((2 * half : Nat) : Int)) (Sm.lit (by decide)) hsh (by simp) ?_
      refine bn_add' (c := ((half * half + 2 * half : Nat) : Int)) (by kc_close) ?_
      exact ⟨_, rfl, Nat.le_trans (bl_add bhh (by kc_close)) (by decide)⟩
    have e : (((form : Nat) : Int) == 4) = false := by simp; omega
    rw [e, if_neg (by decide)]
    refine sx_nil ?_
    refine sx_cons (s1_return (ev_max (ev_int ?_)))
    refine ev_bin ?_
    repeat boot_fact
    refine bn_mul' (c := ((half * half : Nat) : Int)) hsh hsh (by simp) ?_
    repeat boot_fact
    refine bn_sub' (c := ((half * half : Nat) : Int) - 1) rfl ?_
    refine ev_callb rfl (by decide +kernel) ?_
    repeat boot_fact
    refine con_useE (con_take (m := 3) (by decide) (by decide)) ?_
    rintro _ ⟨t, rfl, ht⟩
    refine bn_add' (c := ((half * half : Nat) : Int) - 1 + (t : Nat)) rfl ?_
    refine ⟨_, _, rfl, rfl, half * half + t - 1, ?_, ?_⟩
    · congr 1; omega
    · have h6 : bl (half * half + t) ≤ 75 := bl_add bhh (Nat.le_trans (bl_le.mpr (show t < 2 ^ 2 by omega)) (by decide))
      exact Nat.le_trans bl_sub (by kc_close)
end

section
section
variable {G : TC} {S : FS} {σ : SE} {μ : MU} {K : SE → MU → Prop} {R P : MV → Prop}

def noBox : MV → Prop
  | .box => False
  | .pair p q => noBox p ∧ noBox q
  | _ => True
theorem Rep.beta {h : Heap} {bad : Addr → Prop} {β β' : BoxA} : ∀ {mv : MV} {v : Value}, noBox mv → Rep G h bad β v mv → Rep G h bad β' v mv
  | .int _, _, _, r => r
  | .bool _, _, _, r => r
  | .list _, _, _, r => r
  | .raw _, _, _, r => r
  | .pair _ _, _, n, ⟨a, vp, vq, e, nb, p, r1, r2⟩ => ⟨a, vp, vq, e, nb, p, r1.beta n.1, r2.beta n.2⟩
  | .lpair _ _, _, _, r => r
  | .fn _, _, _, r => r
  | .box, _, n, _ => n.elim
  | .rng _ _ _, _, _, r => r

/-- a box is there from here on -/
theorem Inv.rebox {F : FD} {h h' : Heap} {p : Addr × Addr} (hb : S.bx = true) (hβ : F.β = none) (I : Inv G S F σ none none h) (k : ∀ b o, h.get? b = some o → h'.get? b = some o) (bx : BoxOK (some p) h') (n1 : h.get? p.1 = none) (n2 : h.get? p.2 = none) (nb : ∀ x v, σ x = some v → noBox v) :
    Inv G S { F with β := some p } σ none none h' := by
  have hδ : S.δ { F with β := some p } = some p := by unfold FS.δ; rw [hb]; rfl
  have hδ0 : S.δ F = none := by unfold FS.δ; rw [hβ]; cases S.bx <;> rfl
  have hd : ∀ b, dirty (S.δ { F with β := some p }) b → h.get? b = none := fun b q => by
    rw [hδ] at q
    obtain ⟨p', e, q⟩ := q
    cases e
    rcases q with rfl | rfl
    · exact n1
    · exact n2
  refine ⟨fun b o e => k b o (I.top b o e), fun b o e _ => k b o (I.keep b o e (by rw [hδ0]; exact no_dirty)), fun b q => ?_, I.Lge, fun q => ?_, I.Lt, by rw [hδ]; exact bx, ?_⟩
  · obtain ⟨o, e⟩ := I.alloc0 b q
    exact ⟨o, k b o e⟩
  · obtain ⟨o, e⟩ := I.alloc (b := F.L) (.inr (.inl rfl))
    rw [hd _ q] at e; cases e
  · obtain ⟨m, hn, v, u⟩ := I.vars
    refine ⟨m, hn.at fun o e => k _ o e, fun x mv e => ?_, u⟩
    obtain ⟨hl, w, e2, r⟩ := v x mv e
    refine ⟨hl, w, e2, ?_⟩
    have r1 : Rep G h (badOf S { F with β := some p } none) (some p) w mv := (r.beta (β' := some p) (nb x mv e)).bad fun b q => by
      rcases q with q | q | q | q
      · exact .inl (.inl q)
      · exact .inl (.inr (.inl q))
      · exact .inr (hd b q)
      · cases q
    exact r1.ext fun b o e _ => k b o e

theorem ev_upto_raw {v u : Expr} {p₁ pos : Pos} (h : EV G S σ μ v fun x => EV G S σ μ u fun y => ∃ xs n, x = .raw xs ∧ y = .int n ∧ 0 ≤ n ∧ xs.length ≤ 1000000 ∧ P (.list (xs.take n.toNat)))
    (ht : ∀ o r, letTemporaryGo v o r = pure () := by intro _ _; rfl) : EV G S σ μ (.Subscript v (.Slice none (some u) none p₁) pos) P := by
  refine ⟨fun F μa A nm fa cd s Q B I q => ?_⟩
  refine wpAny_Subscript_list_slice (h.run F μa A nm fa cd s _ B I fun vx x s₁ hx E₁ I₁ r₁ => ?_) ht
  rw [evalPart_none]
  refine wpAny_pure ?_
  rw [evalPart_some]
  refine hx.run F μa A nm fa cd s₁ _ B I₁ fun vy y s₂ hy E₂ I₂ r₂ => ?_
  obtain ⟨xs, n, rfl, rfl, h0, hb, p⟩ := hy
  obtain ⟨a, is, rfl, nb, pl, i⟩ := r₁.up E₂
  obtain ⟨t, rfl⟩ := r₂
  have hsz := ints_size i
  refine ⟨a, is, none, some n, rfl, pl, by rw [sizeLine_eq]; omega, .none, .int n t, q _ (.list _) _ p ((E₁.trans E₂).trans .push2) ((I₂.push _).push _) (rep_slice I₂ ?_)⟩
  have := kmk_upto i h0
  simpa using this
/-- abs(e) -/
theorem ev_abs {e : Expr} {p₁ pos : Pos} (h : EV G S σ μ e fun x => ∃ i : Int, x = .int i ∧ P (.int (i.natAbs : Nat)))
    (hl : S.sc.names.lookup ("abs" : Str) = some .globalImplicit := by first | decide +kernel | (dsimp only; decide +kernel)) (hk : S.sc.kind = .function := by rfl)
    (hc : ∀ env, eval (.Call (.Name "abs" p₁) [e] [] pos) env = (do callWith pos (← eval (.Name "abs" p₁) env) [] (backTo pos (starEach [e] env)) (backToKw pos (keywordEach [] env))) := by intro _; rfl)
    (hs : ∀ env, starEach [e] env = [(false, eval e env)] := by intro _; rfl) : EV G S σ μ (.Call (.Name "abs" p₁) [e] [] pos) P := by
  refine ⟨fun F μa A nm fa cd s Q B I q => ?_⟩
  refine Call_ (wp_boot I hk hl (by decide +kernel) (v := .builtin "abs") (by decide +kernel) (by decide +kernel) (by decide +kernel) ?_) (hc _)
  refine PyProof.Rows.callWith_builtin1 (args_cons (h.run F μa A nm fa cd s _ B I fun vx x s₁ hx E₁ I₁ r₁ => args_nil ?_) (hs _)) (hs _)
  obtain ⟨i, rfl, p⟩ := hx
  obtain ⟨t, rfl⟩ := r₁
  refine call_abs_int fun u tk => q _ _ _ p (E₁.trans .toks) I₁ ⟨u, ?_⟩
  congr 1
  split <;> omega

/-- a def is entered -/
theorem enter_def {bx : Bool} {n : Nat} {d : DefRec} {ps : List Str} {ms : List MV} (hd : d ∈ REC)
    (hps : ps.length = ms.length) (hnd : ps.Nodup) (hloc : ∀ x ∈ ps, d.scope.names.lookup x = some .local)
    (hbind : ∀ pm code doc vs, vs.length = ps.length → bindArgs (docDef d.name d.params d.body d.scope pm code doc) ⟨vs, []⟩ = pure (ps.zip vs))
    (hco : d.scope.isCoroutine = false) (hgen : d.scope.isGenerator = false) (hk : d.scope.kind = .function) (hcell : ∀ x ∈ d.scope.names, x.2 ≠ .cell)
    {a : Addr} {A : Around} {s : Shared} {bad : Addr → Prop} {β : BoxA} {vs : List Value} {Q : Value → Shared → Prop}
    (e : G.mg d.name = some (.ref a)) (B : Bud (n + 1) A) (ht : ∀ b o, G.hT.get? b = some o → s.heap.get? b = some o) (hb : ∀ b, bad b → ∃ o, s.heap.get? b = some o)
    (hdb : ∀ b, dirty (if bx then β else none) b → bad b) (hbo : BoxOK (if bx then β else none) s.heap) (r : RepL G s.heap bad β vs ms)
    (h : ∀ (A' : Around) (h₁ : Heap) (tk : Nat) (code : Value), (∀ b o, s.heap.get? b = some o → h₁.get? b = some o) → Bud n A' → Inv G ⟨d.scope, bx, n⟩ ⟨s.heap, bad, s.heap.objs.size, β⟩ (mk ps ms) none none h₁ →
      wpAny (model G.prog G.w) A' (execs d.body (envOf d.name d.scope s.heap.objs.size a code)) (fun f s' => match f with | .ret v => Q v s' | _ => False) NoE { s with heap := h₁, toks := tk }) :
    wpAny (model G.prog G.w) A (call (.ref a) vs) Q NoE s := by
  obtain ⟨a', o, pm, code, doc, e1, e2, e3, e4⟩ := G.fnAt d hd
  rw [e] at e1
  obtain rfl : a = a' := by simpa using e1
  have hlen : ps.length = vs.length := by rw [hps, r.length]
  refine wpAny_call (call_plain_ret (by have := B.depth; omega) (ht _ _ e2) e3 (G.nolimit.keeps ht) (e4.keeps ht) (hbind pm code doc vs hlen.symm) (fun x hx => hloc _ ?_) (fun h₁ F => ?_) hco hgen hk hcell)
  · have : x.1 ∈ (ps.zip vs).map (·.1) := List.mem_map.mpr ⟨x, hx, rfl⟩
    rwa [zip_fst hlen] at this
  let Fd : FD := ⟨s.heap, bad, s.heap.objs.size, β⟩
  let S : FS := ⟨d.scope, bx, n⟩
  have hδ : S.δ Fd = if bx then β else none := rfl
  have nL : ∀ b, (∃ o, s.heap.get? b = some o) → b ≠ s.heap.objs.size := fun b ⟨o, e⟩ => Nat.ne_of_lt (Heap.lt_size e)
  have I : Inv G S Fd (args0 ps ms) none none h₁ := by
    refine ⟨fun b o e => F.keep b o (ht b o e), fun b o e _ => F.keep b o e, fun b k => ?_, Nat.le_refl _, fun k => ?_, ?_, ?_, _, F.ns, fun x mv e => ?_, rfl⟩
    · obtain ⟨o, e⟩ := hb b k
      exact ⟨o, F.keep b o e⟩
    · exact nL _ (hb _ (hdb _ k)) rfl
    · cases e : G.hT.get? s.heap.objs.size with
      | none => rfl
      | some o => exact absurd rfl (nL _ ⟨o, ht _ _ e⟩)
    · rw [hδ]; exact hbo.keeps F.keep
    · have hx : x ∈ ps := by
        have e' : (ps.zip ms).lookup x = some mv := e
        obtain ⟨l1, l2, hm, -⟩ := List.lookup_eq_some_iff.mp e'
        have : (x, mv) ∈ ps.zip ms := by rw [hm]; simp
        exact (List.of_mem_zip this).1
      obtain ⟨v, hv, rv⟩ := lookup_zip r e
      refine ⟨hloc x hx, v, ?_, (rv.bad fun b k => ?_).ext (fun b o e _ => F.keep b o e)⟩
      · show (ps.zip vs).reverse.lookup x = some v
        rw [lookup_rev (by rw [zip_fst hlen]; exact hnd)]; exact hv
      · rcases k with k | k | k | k
        · exact .inl k
        · refine .inr ?_
          cases e : s.heap.get? b with
          | none => rfl
          | some o => exact absurd k (nL b ⟨o, e⟩)
        · exact .inl (hdb b k)
        · cases k
  have Bn : Bud n (A.deeper (envOf d.name d.scope s.heap.objs.size a code)) := ⟨B.handled, by have := B.depth; simp only [Around.deeper]; omega, by have := B.units; simp only [Around.deeper]; omega⟩
  rw [← mk_args] at I
  refine wpAny_mono (h _ h₁ _ code F.keep Bn I) (fun f s' hf => ?_) noE_imp
  cases f <;> first | exact hf | exact hf.elim

theorem paired_ints {l₁ l₂ : List Value} (h : Paired (fun (v y : Value) => ∃ (i : Int) (t u : Tok), v = .int i t ∧ y = .int (if i < 0 then -i else i) u) l₁ l₂) : ∃ xs, IntsAre l₂ xs ∧ (∀ v ∈ xs, 0 ≤ v) ∧ xs.length = l₁.length := by
  induction h with
  | nil => exact ⟨[], .nil, (fun v hv => by cases hv), rfl⟩
  | cons hf _ ih =>
    obtain ⟨i, t, u, rfl, rfl⟩ := hf
    obtain ⟨xs, h1, h2, h3⟩ := ih
    refine ⟨_ :: xs, .cons _ u h1, fun v hv => ?_, by simp [h3]⟩
    rcases List.mem_cons.mp hv with rfl | hv
    · split <;> omega
    · exact h2 v hv

theorem call_box {a : Addr} {A : Around} {s : Shared} {scr : Addr} {its : Array Value} {ns : List Int} {Q : Value → Shared → Prop} (e : G.mg "_law_box" = some (.ref a)) (B : Bud 1 A) (ht : ∀ b o, G.hT.get? b = some o → s.heap.get? b = some o)
    (hl : s.heap.IsList scr its) (i : IntsAre its.toList ns) (hn : ns.length ≤ 63)
    (q : ∀ p s', (∃ h' tk, s' = { s with heap := h', toks := tk }) → (∀ b o, s.heap.get? b = some o → s'.heap.get? b = some o) → BoxOK (some p) s'.heap → s.heap.get? p.1 = none → s.heap.get? p.2 = none → Q (.ref p.1) s') :
    wpAny (model G.prog G.w) A (call (.ref a) [.ref scr]) Q NoE s := by
  refine enter_def (bx := true) (n := 0) (d := fdef 30) (ps := ["script"]) (ms := [.raw ns]) (bad := fun _ => False) (β := none) (fmem (k := 25) rfl) rfl (by decide) (by decide +kernel) (fun _ _ _ => lenS fun _ => len0 rfl) rfl rfl rfl (by decide +kernel) e B ht (fun _ h => h.elim) (fun b d => (no_dirty d).elim) (fun p e => nomatch e)
    (.cons ⟨_, its, rfl, fun h => h, hl, i⟩ .nil) fun A' h₁ tk code k B' I => ?_
  simp only [mk] at I
  have up : ∀ {h : Heap} {b : Addr}, (∀ b o, s.heap.get? b = some o → h.get? b = some o) → h.get? b = none → s.heap.get? b = none := fun {h b} k n => by
    cases e : s.heap.get? b with
    | none => rfl
    | some o => rw [k b o e] at n; cases n
  refine wpAny_execs_cons (wpAny_Assign_Name (List_ (args_cons (wpAny_ListComp_walk (fun _ => true) (fun (v y : Value) => ∃ (i : Int) (t u : Tok), v = .int i t ∧ y = .int (if i < 0 then -i else i) u) (by decide +kernel) (by decide +kernel) rfl (by decide +kernel) (by decide +kernel) ?_) rfl)) rfl)
  refine (ev_upto_raw (S := ⟨(fdef 30).scope, true, 0⟩) (P := fun v => v = .list (ns.take 30)) (ev_name (mv := .raw ns) (by top_raise0) (ev_int ⟨_, _, rfl, rfl, by decide, by omega, rfl⟩))).run ⟨s.heap, fun _ => False, s.heap.objs.size, none⟩ none A' _ a code { s with heap := h₁, toks := tk } _ B' I fun v mv s₁ hv E₁ I₁ r₁ => ?_
  subst hv
  obtain ⟨b, is, rfl, nb, pl, ii⟩ := r₁
  have hsz := ints_size ii
  have hl30 : (ns.take 30).length ≤ 30 := by rw [List.length_take]; omega
  have hne : b ≠ s₁.heap.objs.size := by obtain ⟨o, e⟩ := PlainList_get pl; exact Nat.ne_of_lt (Heap.lt_size e)
  refine wpAny_pyIter_list pl.isList ?_
  have pl' := pl.at (h' := s₁.heap.push { cls := .type "list_iterator", data := .fields #[.ref b, .int 0 0] }) fun o e => Heap.get?_push_of_some _ e
  have gi := Heap.get?_push_size s₁.heap (o := { cls := .type "list_iterator", data := .fields #[.ref b, .int 0 0] }) rfl
  have lt1 : ∀ {c o}, s₁.heap.get? c = some o → c ≠ s₁.heap.objs.size := fun e => Nat.ne_of_lt (Heap.lt_size e)
  refine ⟨_, _, _, _, _, _, rfl, Walks.list (prog := G.prog) (w := G.w) B'.handled s₁.heap.objs.size b hne is, by rw [sizeLine_eq, hsz]; omega, ⟨⟨_, gi, rfl, rfl⟩, pl'.isList⟩, fun c hc => ?_,
    ⟨fun C j v s₃ m₃ E' hP hn' hm hk _ => wpAny_tests_nil ⟨rfl, s₃.heap, s₃.toks, rfl, fun _ _ e => e⟩, fun C j v s₃ m₃ E' hP _ hn' hm hk _ => ?_⟩, fun D h' tk' ys vs hD _ plD hlen hP hF hk => ?_⟩
  · rcases List.mem_cons.mp hc with rfl | hc
    · exact Heap.lt_size gi
    · rw [List.mem_singleton.mp hc]
      obtain ⟨o, e⟩ := PlainList_get pl'
      exact Heap.lt_size e
  · have top3 : ∀ b o, G.hT.get? b = some o → s₃.heap.get? b = some o := fun c o e => by
      have e1 := I₁.top c o e
      exact hk c o (by simpa using lt1 e1) (Heap.get?_push_of_some _ e1)
    obtain ⟨t, rfl⟩ : ∃ t, v = .int ((ns.take 30).getD j 0) t := by
      have hj : j < (ns.take 30).length := by
        rw [← hsz]
        by_cases h : j < is.size
        · exact h
        · rw [Array.getElem?_eq_none (by kc_close)] at hP; cases hP
      exact ints_at ii hj hP
    refine Call_ (Name_function_global rfl (by rfl) (loadGlobal_builtin (v := .builtin "abs") (G.hg.keeps top3) (G.free "abs" (by decide)) (G.hb.keeps top3) ((G.mbs "abs" (by decide)).trans (by decide +kernel)) ?_) (by decide +kernel)) rfl
    refine PyProof.Rows.callWith_builtin1 (args_cons (wpAny_Name (wpAny_loadName_local rfl (by rfl) hn' hm (args_nil ?_)) (by decide +kernel)) rfl) rfl
    refine call_abs_int fun u tk3 => ⟨⟨_, t, u, rfl, rfl⟩, s₃.heap, tk3, rfl, fun _ _ e => e⟩
  · have hk1 : ∀ b o, s₁.heap.get? b = some o → h'.get? b = some o := fun c o e => hk c o (by simpa using lt1 e) (Heap.get?_push_of_some _ e)
    obtain ⟨xs, xi, x0, xl⟩ := paired_ints hF
    have xl30 : xs.length ≤ 30 := by
      rw [xl, List.filter_eq_self.mpr (fun _ _ => rfl), hlen, hsz]; omega
    refine args_cons (wpAny_Constant_int (args_nil ?_)) rfl
    refine wpAny_newObj_type ?_ (by show 2 ≤ sizeLine; rw [sizeLine_eq]; decide)
    obtain ⟨oD, eD⟩ := PlainList_get plD
    have n2 : s₁.heap.get? D = none := by
      cases e : s₁.heap.get? D with
      | none => rfl
      | some o => have hD' : (s₁.heap.push _).get? D = none := hD; rw [Heap.get?_push_of_some _ e] at hD'; cases hD'
    have n1 : s₁.heap.get? h'.objs.size = none := by
      cases e : s₁.heap.get? h'.objs.size with
      | none => rfl
      | some o => exact absurd (Heap.lt_size (hk1 _ _ e)) (Nat.lt_irrefl _)
    have nT : ∀ {c}, s₁.heap.get? c = none → G.hT.get? c = none := fun {c} n => by
      cases e : G.hT.get? c with
      | none => rfl
      | some o => rw [I₁.top c o e] at n; cases n
    have k0 : ∀ b o, s.heap.get? b = some o → s₁.heap.get? b = some o := fun c o e => I₁.keep c o e no_dirty
    dsimp only
    generalize hH : h'.push { cls := .type "list", data := .seq [Value.ref D, Value.int 17 tk'].toArray } = H
    have g1 : H.get? h'.objs.size = some { cls := .type "list", data := .seq [Value.ref D, Value.int 17 tk'].toArray } := hH ▸ Heap.get?_push_size _ rfl
    have hk2 : ∀ b o, h'.get? b = some o → H.get? b = some o := fun c o e => hH ▸ Heap.get?_push_of_some _ e
    have bx : BoxOK (some (h'.objs.size, D)) H := fun p e => by
      cases e
      exact ⟨xs, 17, ⟨⟨tk', _, g1, rfl, _, rfl⟩, ⟨ys, plD.at fun o e => hk2 _ o e, xi⟩, (Nat.ne_of_lt (Heap.lt_size eD)).symm⟩, x0, xl30, by decide, by decide⟩
    have I₃ := Inv.rebox (p := (h'.objs.size, D)) rfl rfl I₁ (fun c o e => hk2 c o (hk1 c o e)) bx n1 n2 (fun x v e => by
      unfold upd at e
      split at e
      · cases e; exact trivial
      · cases e)
    have body : SX G ⟨(fdef 30).scope, true, 0⟩ (upd (upd (fun _ => none) "script" (.raw ns)) "box" .box) none ((fdef 30).body.drop 1) (fun _ _ => False) (· = .box) := by
      refine sx_for_l (it_list (ev_upto_raw (ev_name (mv := .raw ns) (by top_raise0) (ev_int ⟨_, _, rfl, rfl, by decide, by omega, ?_⟩))))
      refine ⟨_, rfl, fun _ => upd (upd (fun _ => none) "script" (.raw ns)) "box" .box, fun _ => none, by top_raise, rfl, fun j hj => ⟨offμ_none, ?_⟩, ?_⟩
      · refine sx_cons (s1_setbox (by top_raise0) rfl ?_)
        refine ev_bin (ev_bin (ev_bin (ev_box1 (by top_raise0) rfl fun y hy => ?_)))
        repeat boot_fact
        refine bn_mul' (c := ((y * 37 : Nat) : Int)) (Sm.nat (k := 20) (by kc_close) (by decide)) (Sm.lit (by decide)) (by kc_close) ?_
        refine ev_abs ?_
        repeat boot_fact
        refine bn_add' (c := ((y * 37 + ((List.take (30 : Int).toNat ns).getD j 0).natAbs : Nat) : Int)) (by kc_close) ?_
        repeat boot_fact
        refine bn_mod' (y := 1000003) rfl rfl (by decide) ?_
        exact ⟨_, rfl, Nat.mod_lt _ (by decide), sx_nil ⟨by top_raise, rfl⟩⟩
      · refine sx_cons (s1_return (ev_name (mv := .box) (by top_raise0) rfl))
    refine wp_store (S := ⟨(fdef 30).scope, true, 0⟩) (F := ⟨s.heap, fun _ => False, s.heap.objs.size, some (h'.objs.size, D)⟩) (s := { s₁ with heap := H, toks := tk' + 1 }) (mv := .box) I₃ (by decide +kernel) rfl offμ_none ⟨_, rfl, rfl, nT n1, nT n2⟩ fun s₅ E₅ X₅ I₅ => ?_
    refine wpAny_mono (Q := fun f s' => ∃ v, f = .ret v ∧ Q v s') (body.run ⟨s.heap, fun _ => False, s.heap.objs.size, some (h'.objs.size, D)⟩ none A' (fdef 30).name a code s₅ _ B' I₅ (fun _ _ _ _ h => h.elim) fun v mv σ' μ' μa' s₆ hr E₆ I₆ r₆ => ⟨v, rfl, ?_⟩) (fun f s' ⟨v, e, hq⟩ => by subst e; exact hq) noE_imp
    subst hr
    obtain ⟨p, hp, rfl, _, _⟩ := r₆
    cases hp
    refine q (h'.objs.size, D) s₆ ?_ (fun c o e => I₆.keep c o e fun d => ?_) I₆.box (up k0 n1) (up k0 n2)
    · obtain ⟨h1, t1, e1⟩ := E₁.eq
      obtain ⟨h2, t2, e2⟩ := E₅.eq
      obtain ⟨h3, t3, e3⟩ := E₆.eq
      exact ⟨h3, t3, by rw [e3, e2, e1]⟩
    · obtain ⟨p', hp', d⟩ := d
      cases hp'
      have e' : s.heap.get? c = some o := e
      rcases d with rfl | rfl
      · rw [up k0 n1] at e'; cases e'
      · rw [up k0 n2] at e'; cases e'
end
end

section
section
variable {G : TC} {S : FS} {σ : SE} {μ : MU} {K : SE → MU → Prop} {R : MV → Prop}
theorem s1_forE {x : Str} {p₁ pos : Pos} {it : Expr} {body : List Stmt} {α : Type} (h : IT G S σ μ it fun xs => ∃ (Jσ : α → SE) (pre : Nat → α → Prop), (∃ a, pre 0 a ∧ Sub (Jσ a) σ) ∧
      (∀ i a, i < xs.length → pre i a → offμ μ x ∧ SX G S (upd (Jσ a) x (.int (xs.getD i 0))) μ body (fun σ' μ' => ∃ a', pre (i + 1) a' ∧ Sub (Jσ a') σ' ∧ μ = μ') R) ∧ ∀ a σ', pre xs.length a → Sub (Jσ a) σ' → K σ' μ)
    (hl : S.sc.names.lookup x = some .local := by first | decide +kernel | (dsimp only; decide +kernel)) (hk : S.sc.kind = .function := by rfl)
    (hs : ∀ env y, foldedSetIterable it env y = pure y := by intro _ _; rfl) (ht : ∀ it v, letOwnedTupleGo (.Name x p₁) it v = pure () := by intro _ _; rfl) :
    S1 G S σ μ (.For (.Name x p₁) it body [] pos) K R := by
  refine s1_for ⟨fun F μa A nm fa cd s Q B I q => h.run F μa A nm fa cd s Q B I fun xs It fp Pw St s₂ hp => ?_⟩ hl hk hs ht
  obtain ⟨Jσ, pre, h0, turn, rest⟩ := hp
  refine q xs It fp Pw St s₂ ⟨fun i σ' μ' => ∃ a, pre i a ∧ Sub (Jσ a) σ' ∧ μ = μ', let ⟨a, p, k⟩ := h0; ⟨a, p, k, rfl⟩, fun i σ' μ' hi ⟨a, p, k, e⟩ => ?_, fun σ' μ' ⟨a, p, k, e⟩ => ?_⟩
  · subst e
    exact ⟨(turn i a hi p).1, sx_weak k.upd (turn i a hi p).2⟩
  · subst e
    exact rest a σ' p k
end
def lawFor : Stmt := match (fdef 35).body with
  | [_, st, _] => st
  | _ => Stmt.Pass ⟨0, 0, 0, 0⟩
def base (ns : List Int) : SE := upd (upd (fun _ => none) "script" (.raw ns)) "box" .box
def drawnσ (ns : List Int) : Option (Nat × Nat) → SE
  | none => base ns
  | some (w, x) => upd (upd (upd (upd (base ns) "w" (.int (w : Nat))) "number" (.int (x : Nat))) "a" (.list (L w x))) "kept" (.list (L w x))

variable {G : TC}
theorem law_loop {ns : List Int} : S1 G ⟨(fdef 35).scope, true, 70⟩ (base ns) none lawFor (fun σ' μ' => μ' = none ∧ ∃ w x : Nat, σ' "a" = some (.list (L w x)) ∧ σ' "w" = some (.int (w : Nat))) (fun _ => False) := by
  refine s1_forE (α := Option (Nat × Nat)) (it_range ?_)
  refine ev_range1 (ev_int ⟨1, rfl, ?_⟩)
  refine ⟨_, _, _, 1, rfl, small_one (by decide) (by decide) (by decide) (by decide), by decide +kernel, drawnσ ns, fun i o => (i = 0 → o = none) ∧ (i ≠ 0 → o ≠ none), ⟨none, ⟨fun _ => rfl, fun h => (h rfl).elim⟩, Sub.refl _⟩, fun i o hi ho => ⟨offμ_none, ?_⟩, fun o σ' ho hs => ?_⟩
  · rw [rngInts_length] at hi
    obtain rfl := ho.1 (by kc_close)
    show SX G _ (upd (base ns) "turn" _) _ _ _ _
    unfold base
    refine sx_cons (s1_assign (ev_bin (ev_int (ev_callb rfl (by decide +kernel) ?_))) (by top_name))
    repeat boot_fact
    refine con_useE (con_take (m := 8) (by decide) (by decide)) ?_
    rintro _ ⟨t, rfl, ht⟩
    obtain ⟨w, hw⟩ : ∃ w, 2 + t = w := ⟨_, rfl⟩
    have hw2 : 2 ≤ w := by omega
    have hw1 : 1 ≤ w := by omega
    have hw9 : w ≤ 9 := by omega
    refine bn_add' (c := ((w : Nat) : Int)) (by kc_close) ?_
    clear hw ht
    refine sx_cons (s1_assign (ev_callb rfl (by decide +kernel) ?_) (by top_name))
    repeat boot_fact
    refine con_useE (con_drawn hw2 hw9) ?_
    rintro _ ⟨x, rfl, hx⟩
    have h1 := nd_small hw1 hx
    repeat boot_fact
    refine con_use (con_limbs hw1 hw9 (by kc_close)) ?_
    refine sx_cons (s1_assign (ev_listof ?_) (by top_name))
    repeat boot_fact
    refine ⟨by rw [L_length]; omega, ?_⟩
    refine sx_weak (σ' := drawnσ ns (some (w, x))) (by unfold drawnσ base; top_raise) ?_
    have done : ∀ {y : Str} {v : MV}, y ≠ "script" → y ≠ "box" → y ≠ "w" → y ≠ "number" → y ≠ "a" → y ≠ "kept" → Sub (drawnσ ns (some (w, x))) (upd (drawnσ ns (some (w, x))) y v) := by
      intro y v n1 n2 n3 n4 n5 n6 z u e
      unfold upd
      split
      · rename_i hz
        subst hz
        simp only [drawnσ, base, upd, n1, n2, n3, n4, n5, n6, if_false] at e
        cases e
      · exact e
    unfold drawnσ base
    refine sx_for_l (it_tuple ?_)
    refine av_cons (ev_int (av_cons (ev_bin (ev_int (ev_bin (ev_int (ev_callb rfl (by decide +kernel) ?_)))))))
    repeat boot_fact
    refine con_useE (con_take (m := 4) (by decide) (by decide)) ?_
    rintro _ ⟨t, rfl, ht⟩
    refine bn_mul' (c := ((2 * t : Nat) : Int)) (Sm.lit (by decide)) (Sm.nat (k := 20) (by kc_close) (by decide)) (by kc_close) ?_
    refine bn_add' (c := ((4 + 2 * t : Nat) : Int)) (by kc_close) ?_
    refine av_nil ⟨[2, ((4 + 2 * t : Nat) : Int)], .cons (.cons .nil), by simp, ?_⟩
    refine ⟨fun _ => drawnσ ns (some (w, x)), fun _ => none, Sub.refl _, rfl, fun i hi => ⟨offμ_none, ?_⟩, ?_⟩
    · generalize List.getD [2, ((4 + 2 * t : Nat) : Int)] i 0 = least
      have dn := done (y := "least") (v := .int least) (by decide +kernel) (by decide +kernel) (by decide +kernel) (by decide +kernel) (by decide +kernel) (by decide +kernel)
      dsimp only
      unfold drawnσ base at dn ⊢
      refine sx_cons (s1_if (tr_not (tr_plain ?_)))
      repeat boot_fact
      refine con_use (con_rem hw2 hw9 hx) ?_
      repeat boot_fact
      refine con_use (con_told (k := 2) hw1 hw9 hx (by decide) (by decide)) ?_
      refine ⟨true, rfl, ?_⟩
      rw [if_neg (by decide)]
      exact sx_nil (sx_nil ⟨dn, rfl⟩)
    · unfold drawnσ base
      refine sx_cons (s1_if (tr_not (tr_plain ?_)))
      repeat boot_fact
      refine con_use (con_newton hw2 hw9 hx) ?_
      repeat boot_fact
      refine con_use (con_told (k := 2) hw1 hw9 hx (by decide) (by decide)) ?_
      refine ⟨true, rfl, ?_⟩
      rw [if_neg (by decide)]
      refine sx_nil ?_
      refine sx_cons (s1_if (tr_or2 (tr_not (tr_plain ?_))))
      repeat boot_fact
      refine con_use (con_plain hw1 hw9 (by kc_close)) ?_
      repeat boot_fact
      refine con_use (con_told (k := 2) hw1 hw9 hx (by decide) (by decide)) ?_
      refine ⟨true, rfl, ?_⟩
      rw [if_neg (by decide)]
      have hm := @bl_mod x 4096
      repeat boot_fact
      refine bn_mod' (y := 4096) rfl rfl (by decide) ?_
      repeat boot_fact
      refine con_use (con_sqrt_small (by kc_close)) ?_
      repeat boot_fact
      refine bn_mod' (y := 4096) rfl rfl (by decide) ?_
      repeat boot_fact
      refine con_use (con_root (k := 2) (by kc_close) (by decide) (by decide)) ?_
      repeat boot_fact
      rw [bne_self_eq_false, if_neg (by decide)]
      refine sx_nil ?_
      refine sx_for_l (it_tuple ?_)
      refine av_cons (ev_bin (ev_int (ev_callb rfl (by decide +kernel) ?_)))
      repeat boot_fact
      refine con_useE (con_take (m := 9) (by decide) (by decide)) ?_
      rintro _ ⟨u, rfl, hu⟩
      refine bn_add' (c := ((1 + u : Nat) : Int)) (by kc_close) ?_
      refine av_cons (ev_int (av_nil ⟨[((1 + u : Nat) : Int), 3], .cons (.cons .nil), by simp, ?_⟩))
      refine ⟨fun _ => drawnσ ns (some (w, x)), fun _ => none, Sub.refl _, rfl, fun i hi => ⟨offμ_none, ?_⟩, ?_⟩
      · obtain ⟨k, hk, hk1, hk9⟩ : ∃ k : Nat, List.getD [((1 + u : Nat) : Int), 3] i 0 = (k : Nat) ∧ 1 ≤ k ∧ k ≤ 9 := by
          have hi2 : i < 2 := hi
          rcases (by omega : i = 0 ∨ i = 1) with rfl | rfl
          · exact ⟨1 + u, rfl, by omega, by omega⟩
          · exact ⟨3, rfl, by decide, by decide⟩
        rw [hk]
        have dn := done (y := "k") (v := .int (k : Nat)) (by decide +kernel) (by decide +kernel) (by decide +kernel) (by decide +kernel) (by decide +kernel) (by decide +kernel)
        dsimp only
        unfold drawnσ base at dn ⊢
        refine sx_cons (s1_if (tr_not (tr_plain ?_)))
        repeat boot_fact
        refine con_use (con_kroot hw2 hw9 hx hk1 hk9) ?_
        repeat boot_fact
        refine con_use (con_told hw1 hw9 hx hk1 hk9) ?_
        refine ⟨true, rfl, ?_⟩
        rw [if_neg (by decide)]
        exact sx_nil (sx_nil ⟨dn, rfl⟩)
      · dsimp only
        unfold drawnσ base
        refine sx_cons (s1_if ?_)
        repeat boot_fact
        rw [dtrue rfl, if_neg (by decide)]
        refine sx_nil (sx_nil ⟨some (w, x), ⟨fun h => ?_, fun _ h => nomatch h⟩, Sub.refl _, rfl⟩)
        omega
  · obtain ⟨w, x, rfl⟩ : ∃ w x, o = some (w, x) := by
      rw [rngInts_length] at ho
      cases o with
      | none => exact absurd rfl (ho.2 (by decide))
      | some p => exact ⟨p.1, p.2, rfl⟩
    exact ⟨rfl, w, x, hs _ _ (by unfold drawnσ; top_raise0), hs _ _ (by unfold drawnσ; top_raise0)⟩
end

section
theorem law_run {G : TC} {A : Around} (B : Bud 70 A) {nm : Str} {fa : Addr} {cd : Value} {s : Shared} {L : Addr} {scr : Addr} {its : Array Value} {ns : List Int}
    (F0 : Fr G.hT L s.heap (fun x => List.lookup x [(("script" : Str), Value.ref scr)].reverse))
    (hl : G.hT.IsList scr its) (i : IntsAre its.toList ns) (hn : ns.length ≤ 63) {Q : Flow → Shared → Prop}
    (fin : ∀ (h' : Heap) (tk : Nat) (m : Str → Option Value) (a : Addr) (vs : List Value) (xs : List Int) (wv : Int) (t : Tok),
      Fr G.hT L h' (fun y => if y = ("w" : Str) then some (.int wv t) else (fun y => if y = ("a" : Str) then some (.ref a) else m y) y) → h'.IsList a vs.toArray → IntsAre vs xs →
      wpAny (model G.prog G.w) A (eval (.Call (.Name "_law_is_refused" ⟨253, 11, 253, 26⟩) [.Name "a" ⟨253, 27, 253, 28⟩, .Name "w" ⟨253, 30, 253, 31⟩] [] ⟨253, 11, 253, 32⟩) (envOf nm (fdef 35).scope L fa cd)) (fun v s' => Q (.ret v) s') NoE { s with heap := h', toks := tk }) :
    wpAny (model G.prog G.w) A (execs (fdef 35).body (envOf nm (fdef 35).scope L fa cd)) Q NoE s := by
  have I : Inv G ⟨(fdef 35).scope, true, 70⟩ ⟨G.hT, fun _ => False, L, none⟩ (upd (fun _ => none) "script" (.raw ns)) none none s.heap := by
    refine ⟨F0.keep, fun b o e _ => F0.keep b o e, fun b h => h.elim, F0.above, no_dirty, ?_, fun p e => (nomatch e), _, F0.ns, fun x mv e => ?_, rfl⟩
    · cases e : G.hT.get? L with
      | none => rfl
      | some o => exact absurd (Nat.lt_of_lt_of_le (Heap.lt_size e) F0.above) (Nat.lt_irrefl _)
    · unfold upd at e
      split at e
      · rename_i hx
        subst hx
        cases e
        refine ⟨by decide +kernel, .ref scr, by simp, scr, its, rfl, ?_, hl.at fun o e => F0.keep _ o e, i⟩
        obtain ⟨o, ho, _⟩ := hl
        rintro (k | k | k | k)
        · exact k
        · exact absurd (k ▸ Nat.lt_of_lt_of_le (Heap.lt_size ho) F0.above) (Nat.lt_irrefl _)
        · exact no_dirty k
        · cases k
      · cases e
  obtain ⟨d, hd, hx⟩ := rec_of (x := "_law_box") (by decide +kernel)
  obtain ⟨a, o, pm, code, doc, e1, e2, e3, _⟩ := G.fnAt d hd
  rw [hx] at e1
  obtain ⟨m₀, hn₀, v₀, _⟩ := I.vars
  obtain ⟨hls, w₀, es, rs⟩ := v₀ "script" (.raw ns) (if_pos rfl)
  obtain ⟨scr', its', rfl, _, hl', i'⟩ := rs
  refine wpAny_execs_cons (wpAny_Assign_Name (Call_ (Name_function_global (env := envOf nm (fdef 35).scope L fa cd) rfl (by rfl) (loadGlobal_global (env := envOf nm (fdef 35).scope L fa cd) (G.hg.keeps I.top) e1 ?_) (by decide +kernel)) rfl) rfl)
  refine callWith_def_at (h' := G.hT) e2 e3 (args_cons (wpAny_Name (wpAny_loadName_local (env := envOf nm (fdef 35).scope L fa cd) rfl (by rfl) hn₀ es (args_nil ⟨I.top _ _ e2, ?_⟩)) (by decide +kernel)) rfl) rfl
  refine call_box e1 ⟨B.handled, by have := B.depth; omega, by have := B.units; omega⟩ I.top hl' i' hn fun p s' eq k bx n1 n2 => ?_
  have nT : ∀ {c}, s.heap.get? c = none → G.hT.get? c = none := fun {c} n => by
    cases e : G.hT.get? c with
    | none => rfl
    | some o => rw [I.top c o e] at n; cases n
  have I₃ := Inv.rebox rfl rfl I k bx n1 n2 (fun x v e => by
    unfold upd at e
    split at e
    · cases e; exact trivial
    · cases e)
  refine wp_store (S := ⟨(fdef 35).scope, true, 70⟩) (F := ⟨G.hT, fun _ => False, L, some p⟩) (mv := .box) I₃ (by decide +kernel) rfl offμ_none ⟨_, rfl, rfl, nT n1, nT n2⟩ fun s₅ E₅ X₅ I₅ => ?_
  refine wpAny_execs_cons (wpAny_mono (law_loop.run ⟨G.hT, fun _ => False, L, some p⟩ none A nm fa cd s₅ (fun f s₆ => ∃ σ' μa', f = .next ∧ (∃ w x : Nat, σ' "a" = some (.list (Mine.L w x)) ∧ σ' "w" = some (.int (w : Nat))) ∧ (∃ h' tk, s₆ = { s₅ with heap := h', toks := tk }) ∧ Inv G ⟨(fdef 35).scope, true, 70⟩ ⟨G.hT, fun _ => False, L, some p⟩ σ' none μa' s₆.heap) B I₅
    (fun σ' μ' μa' s₆ hK E₆ I₆ => ⟨σ', μa', rfl, hK.2, E₆.eq, hK.1 ▸ I₆⟩) (fun _ _ _ _ _ _ h => h.elim)) (fun f s₆ hf => ?_) noE_imp)
  obtain ⟨σ', μa', rfl, ⟨w, x, ha, hw⟩, ⟨h6, t6, rfl⟩, I₆⟩ := hf
  obtain ⟨h5, t5, rfl⟩ := E₅.eq
  obtain ⟨h4, t4, rfl⟩ := eq
  obtain ⟨m, hn', vs, u⟩ := I₆.vars
  obtain ⟨_, va, ea, ra⟩ := vs _ _ ha
  obtain ⟨aa, items, rfl, _, pla, ia⟩ := ra
  obtain ⟨_, vw, ew, ⟨t, rfl⟩⟩ := vs _ _ hw
  have em : (fun y => if y = ("w" : Str) then some (Value.int (w : Nat) t) else (fun y => if y = ("a" : Str) then some (Value.ref aa) else m y) y) = m := by
    funext y
    dsimp only
    split
    · rename_i h; subst h; exact ew.symm
    · split
      · rename_i h; subst h; exact ea.symm
      · rfl
  refine wpAny_execs_cons (wpAny_Return_some (wpAny_mono (fin h6 t6 m aa items.toList (Mine.L w x) (w : Nat) t ⟨(by rw [em]; exact hn'), fun b o e => I₆.keep b o e fun d => ?_, F0.above⟩ (by simpa using pla.isList) ia) (fun v s' h => h) noE_imp))
  have d' : dirty (some p) b := d
  obtain ⟨p', hp', d'⟩ := d'
  cases hp'
  have e' : G.hT.get? b = some o := e
  rcases d' with rfl | rfl
  · rw [nT n1] at e'; cases e'
  · rw [nT n2] at e'; cases e'
end

end
end Mine
open PySem PySem.W PyProof.Rows PySem.Calls
theorem Mine.tc_free {p : Program} {loose : List Str} {mean : ExcName → Option Value} {mg mb : Str → Option Value} {h : Heap} (T : Top p loose mean mg mb h)
    (ok : (["len", "range", "list", "abs", "max", "reversed"] : List Str).all (fun x => !startupNames.contains x && !loose.contains x && !((recsOf p).map (·.name)).contains x && !((litsOf p).map (·.1)).contains x && !((clssOf p loose).map (·.name)).contains x) = true) :
    ∀ x : Str, x ∈ (["len", "range", "list", "abs", "max", "reversed"] : List Str) → mg x = none := by
  intro x hx
  have h := List.all_eq_true.mp ok x hx
  simp only [Bool.and_eq_true, Bool.not_eq_true', List.contains_eq_mem, decide_eq_false_iff_not] at h
  obtain ⟨⟨⟨⟨h1, h2⟩, h3⟩, h4⟩, h5⟩ := h
  exact T.free x h1 h2 h3 h4 h5
theorem Mine.tc_fn {p : Program} {loose : List Str} {mean : ExcName → Option Value} {mg mb : Str → Option Value} {h : Heap} (T : Top p loose mean mg mb h) (e : recsOf p = REC) :
    ∀ d ∈ REC, ∃ a o pm code doc, mg d.name = some (.ref a) ∧ h.get? a = some o ∧ o.data = .func (docDef d.name d.params d.body d.scope pm code doc) ∧ h.CodeRec code d.name := fun d hd => T.fn d (e ▸ hd)
theorem Mine.bud_law (env : Env) : Mine.Bud 70 (callerA.deeper env) := ⟨rfl, by simp only [Around.deeper]; decide +kernel, by simp only [Around.deeper]; decide +kernel⟩
open Mine
set_option maxRecDepth 100000 in
set_option maxHeartbeats 8000000 in
theorem PySem.Challenge.cw_nn0022_01_holds : PySem.Challenge.rw_nn0022_01.Holds := by
  refine Mine.hd ?_
  dsimp only [Mine.osHook]
  k_go0
  rename World => w
  rename Shared => s1
  rename Fr _ _ _ _ => F0
  rename News _ _ _ _ => N0
  rename Top _ _ _ _ _ _ => T
  have href : ∀ (h : Heap) (tk : Nat) (fa : Addr) (cd : Value) (m : Str → Option Value) (a : Addr) (vs : List Value) (xs : List Int) (wv : Int) (t : Tok) (Q : Value → Shared → Prop),
      Fr s1.heap s1.heap.objs.size h (fun y => if y = ("w" : Str) then some (.int wv t) else (fun y => if y = ("a" : Str) then some (.ref a) else m y) y) → h.IsList a vs.toArray → IntsAre vs xs →
      (∀ (h' : Heap) tk' m', Fr s1.heap s1.heap.objs.size h' m' → Q (.bool true) { s1 with heap := h', toks := tk' }) →
      wpAny (model PySem.Challenge.rw_nn0022_01.row.prog w) (callerA.deeper (envOf "law" (fdef 35).scope s1.heap.objs.size fa cd))
        (eval (.Call (.Name "_law_is_refused" ⟨253, 11, 253, 26⟩) [.Name "a" ⟨253, 27, 253, 28⟩, .Name "w" ⟨253, 30, 253, 31⟩] [] ⟨253, 11, 253, 32⟩) (envOf "law" (fdef 35).scope s1.heap.objs.size fa cd)) Q NoE { s1 with heap := h, toks := tk } := by
    clear F0 N0
    intro h tk fa cd m a vs xs wv t Q F' hl hi q
    have N' : News s1.heap s1.heap.objs.size h [] := .nil
    k_steps
    rename Fr s1.heap s1.heap.objs.size _ _ => kF
    exact q _ _ _ kF
  have free := tc_free T (by decide +kernel)
  have fn := tc_fn T (by kernel_rfl)
  rename IntsAre _ _ => hI
  rename (s1.heap.IsList _ _) => hL
  rename (¬ (_ : Int) < _) => hlen
  rename (s1.gens = #[]) => hg
  refine wpAny_mono (law_run (G := ⟨_, w, _, _, s1.heap, T.g, T.b, T.nolimit, T.builtins, free, fn⟩) (Q := fun f s => f = .ret (.bool true) ∧ ∃ h' tk' m', Fr s1.heap s1.heap.objs.size h' m' ∧ s = { s1 with heap := h', toks := tk' }) (bud_law _) F0 hL (by simpa using hI) (by omega) (fun h' tk m a vs xs wv t F hl hi => href h' tk _ _ m a vs xs wv t _ F hl hi fun h'' tk'' m'' F'' => ⟨rfl, h'', tk'', m'', F'', rfl⟩)) (fun f s hf => ?_) noE_imp
  obtain ⟨rfl, h', tk', m', F', rfl⟩ := hf
  first | exact goodW_bool F' hg (raisesW_false (by wrow_none_raised)) (by rfl) | exact goodW_bool F' hg (raisesW_false (by wrow_none_raised)) (by with_unfolding_all rfl) | wrow_close
