import PyProof.Rows.All
import Wide.All
import OpenK.AllK
import Wide.FinOn
import PyProof.EqLayable
import PyProof.AttrMissHeap
import KE.KDictSum
import KE.KDictOf
import PyProof.SliceMore
import PyProof.AutoIntOps
import Lean
import PySem.Challenge.RW_nz0280_01
open PySem PySem.W PyProof.Rows PyProof.V PySem.Spec PySem.Calls
set_option Elab.async false
set_option linter.all false
set_option autoImplicit false
namespace Mine

abbrev PW : Program := PySem.Challenge.pw_nz0280_01
abbrev DD := PyData

/-- what stands at the module's top -/
structure Bs (w : World) (mg : Str → Option Value) (h : Heap) : Prop where
  g : h.Ns mainGlobals mg
  b : ∃ mb, h.Ns builtinsNs mb ∧ ∀ x : Str, x ≠ "__name__" → mb x = bootBuiltins x
  nl : h.NoLimit
  fn : ∀ d ∈ recsOf PW, ∃ a o pm code doc, mg d.name = some (.ref a) ∧ h.get? a = some o ∧ o.data = .func (docDef d.name d.params d.body d.scope pm code doc) ∧ h.CodeRec code d.name
  const : ∀ x ∈ (["DELIMITER", "INBOX", "WILD_SIGNS"] : List Str), ∀ d, valOf PW x = some d → ∃ v, mg x = some v ∧ ∀ h' : Heap, Reads h' v d []
  free : ∀ x ∈ (["len", "range", "sorted", "list", "dict", "ord", "chr"] : List Str), mg x = none

theorem Bs.keeps {w mg} {h h' : Heap} (B : Bs w mg h) (hk : ∀ b o, h.get? b = some o → h'.get? b = some o) : Bs w mg h' where
  g := B.g.keeps hk
  b := let ⟨mb, h1, h2⟩ := B.b; ⟨mb, h1.keeps hk, h2⟩
  nl := B.nl.keeps hk
  fn := fun d hd => let ⟨a, o, pm, code, doc, h1, h2, h3, h4⟩ := B.fn d hd; ⟨a, o, pm, code, doc, h1, hk _ _ h2, h3, h4.keeps hk⟩
  const := B.const
  free := B.free

def AllStr (D : List (PyData × PyData)) : Prop := ∀ p ∈ D, ∃ x, p.1 = PyData.str x
def AllInt (D : List (PyData × PyData)) : Prop := ∀ p ∈ D, ∃ x, p.1 = PyData.int x
/-- a value bears a datum; a list's elements are immutable -/
def Rep (w : World) (h : Heap) (v : Value) : DD → Prop
  | .list ds => ∃ a vs, v = .ref a ∧ h.IsList a vs ∧ ReadsAll h vs.toList ds []
  | .dict D => ∃ a, v = .ref a ∧ (∃ o, h.get? a = some o ∧ o.cls = .type "dict" ∧ o.dict = none ∧ o.slots = #[]) ∧ (AllStr D → StrTab PW w h a D) ∧ (AllInt D → IntTab PW w h a D)
  | d => Reads h v d []

theorem isList_keeps {h h' : Heap} {a vs} (hk : ∀ b o, h.get? b = some o → h'.get? b = some o) (x : h.IsList a vs) : h'.IsList a vs :=
  let ⟨o, ho, r⟩ := x; ⟨o, hk _ _ ho, r⟩

theorem Rep.keeps {w} {h h' : Heap} {v d} (hk : ∀ b o, h.get? b = some o → h'.get? b = some o) (x : Rep w h v d) : Rep w h' v d := by
  cases d with
  | list ds => obtain ⟨a, vs, e, hl, hr⟩ := x; exact ⟨a, vs, e, isList_keeps hk hl, ReadsAll.keeps hk hr⟩
  | dict D => obtain ⟨a, e, ⟨o, ho, hc⟩, hd⟩ := x; exact ⟨a, e, ⟨o, hk _ _ ho, hc⟩, fun q => (hd.1 q).keep hk, fun q => (hd.2 q).keep hk⟩
  | _ => exact Reads.keeps hk x

/-- no tuple stands at P -/
def NoTup (h : Heap) (P : Addr) : Prop := ∀ o vs n, h.get? P = some o → o.cls = .type "tuple" → o.data ≠ .seq vs n

mutual
theorem reads_but {h h' : Heap} {P : Addr} (hP : NoTup h P) (hk : ∀ b o, b ≠ P → h.get? b = some o → h'.get? b = some o) : ∀ {v : Value} {d : PyData} {as : List Addr}, as = [] → Reads h v d as → Reads h' v d as
  | _, _, _, _, .none => .none
  | _, _, _, _, .bool b => .bool b
  | _, _, _, _, .int i t => .int i t
  | _, _, _, _, .str x t => .str x t
  | _, _, _, e, .list _ _ _ _ => by cases e
  | _, _, _, e, .dict _ _ _ _ _ => by cases e
  | _, _, _, e, .tuple h1 h2 h3 h4 => .tuple (hk _ _ (fun q => hP _ _ _ (q ▸ h1) h2 h3) h1) h2 h3 (readsAll_but hP hk e h4)
theorem readsAll_but {h h' : Heap} {P : Addr} (hP : NoTup h P) (hk : ∀ b o, b ≠ P → h.get? b = some o → h'.get? b = some o) : ∀ {vs : List Value} {ds : List PyData} {as : List Addr}, as = [] → ReadsAll h vs ds as → ReadsAll h' vs ds as
  | _, _, _, _, .nil => .nil
  | _, _, _, e, .cons h1 h2 => .cons (reads_but hP hk (List.append_eq_nil_iff.mp e).1 h1) (readsAll_but hP hk (List.append_eq_nil_iff.mp e).2 h2)
end

theorem dictOf_at {K : Type} [DecidableEq K] {w} {knd : KeyKind PW w K} {h h' : Heap} {a kvs} (x : h.DictOf knd a kvs) (hk : ∀ o, h.get? a = some o → h'.get? a = some o) : h'.DictOf knd a kvs :=
  let ⟨o, es, ep, ho, r⟩ := x; ⟨o, es, ep, hk _ ho, r⟩
theorem tabAt_at {K : Type} [DecidableEq K] {w} {knd : KeyKind PW w K} {enc : K → PyData} {h h' : Heap} {a D} (x : TabAt knd enc h a D) (hk : ∀ o, h.get? a = some o → h'.get? a = some o) : TabAt knd enc h' a D :=
  let ⟨lo, kvs, hd, hf⟩ := x; ⟨lo, kvs, dictOf_at hd hk, hf⟩

theorem Rep.but {w} {h h' : Heap} {P : Addr} {v d} (hP : NoTup h P) (hk : ∀ b o, b ≠ P → h.get? b = some o → h'.get? b = some o) (hv : v ≠ .ref P) (x : Rep w h v d) : Rep w h' v d := by
  cases d with
  | list ds =>
    obtain ⟨a, vs, e, ⟨o, ho, r⟩, hr⟩ := x
    exact ⟨a, vs, e, ⟨o, hk _ _ (fun q => hv (by rw [e, q])) ho, r⟩, readsAll_but hP hk rfl hr⟩
  | dict D =>
    obtain ⟨a, e, ⟨o, ho, hc⟩, hd⟩ := x
    have hne : a ≠ P := fun q => hv (by rw [e, q])
    exact ⟨a, e, ⟨o, hk _ _ hne ho, hc⟩, fun q => tabAt_at (hd.1 q) fun o => hk _ o hne, fun q => tabAt_at (hd.2 q) fun o => hk _ o hne⟩
  | _ => exact reads_but hP hk rfl x

/-- the value of a name in a frame -/
def VarIs (env : Env) (h : Heap) (x : Str) (v : Value) : Prop :=
  (env.kindOf x = some .local ∧ ∃ mm, h.Ns env.locals mm ∧ mm x = some v) ∨ (env.kindOf x = some .cell ∧ ∃ c, env.cells.lookup x = some c ∧ h.IsCell c (some v))

theorem VarIs.keeps {env} {h h' : Heap} {x v} (hk : ∀ b o, h.get? b = some o → h'.get? b = some o) (V : VarIs env h x v) : VarIs env h' x v :=
  V.imp (fun ⟨a, mm, b, c⟩ => ⟨a, mm, b.keeps hk, c⟩) (fun ⟨a, c, b, e⟩ => ⟨a, c, b, e.keeps hk⟩)

def Rd (w : World) (env : Env) (m : List (Str × DD)) (h : Heap) : Prop := ∀ x d, m.lookup x = some d → ∃ v, VarIs env h x v ∧ Rep w h v d

theorem Rd.keeps {w env m} {h h' : Heap} (hk : ∀ b o, h.get? b = some o → h'.get? b = some o) (R : Rd w env m h) : Rd w env m h' :=
  fun x d e => let ⟨v, V, r⟩ := R x d e; ⟨v, V.keeps hk, r.keeps hk⟩

/-- room for k more calls -/
def Room (A : Around) (k : Nat) : Prop := A.handled = none ∧ A.depth + k < recursionLimit ∧ A.units + 100 + 10 * k < cLine

structure EnvOk (env : Env) : Prop where
  k : env.scope.kind = .function
  g : env.globals = mainGlobals
  b : env.builtins = builtinsNs

structure Ks (s s' : Shared) : Prop where
  same : ∃ h t, s' = { s with heap := h, toks := t }
  heap : ∀ b o, s.heap.get? b = some o → s'.heap.get? b = some o
theorem Ks.rfl' (s : Shared) : Ks s s := ⟨⟨s.heap, s.toks, rfl⟩, fun _ _ e => e⟩
theorem Ks.trans' {s s' s'' : Shared} (a : Ks s s') (b : Ks s' s'') : Ks s s'' := by
  obtain ⟨⟨h, t, rfl⟩, k⟩ := a
  obtain ⟨⟨h', t', rfl⟩, k'⟩ := b
  exact ⟨⟨h', t', rfl⟩, fun b o e => k' b o (k b o e)⟩
theorem Ks.tok (s : Shared) (t : Nat) : Ks s { s with toks := t } := ⟨⟨s.heap, t, rfl⟩, fun _ _ e => e⟩
theorem Ks.push (s : Shared) (o : Obj) (t : Nat) : Ks s { s with heap := s.heap.push o, toks := t } := ⟨⟨_, t, rfl⟩, fun _ _ e => Heap.get?_push_of_some _ e⟩
theorem Ks.of (s : Shared) (h : Heap) (t : Nat) (k : ∀ b o, s.heap.get? b = some o → h.get? b = some o) : Ks s { s with heap := h, toks := t } := ⟨⟨_, t, rfl⟩, k⟩
theorem Ks.ofKeeps {s s' : Shared} (x : Keeps s s') : Ks s s' := by obtain ⟨h, t, rfl, k⟩ := x; exact ⟨⟨h, t, rfl⟩, k⟩
theorem Ks.toKeeps {s s' : Shared} (x : Ks s s') : Keeps s s' := by obtain ⟨⟨h, t, rfl⟩, k⟩ := x; exact ⟨h, t, rfl, k⟩

/-- v is new, and without a dict -/
def New (h h' : Heap) (v : Value) : Prop := ∀ a, v = .ref a → h.get? a = none ∧ ∃ o, h'.get? a = some o ∧ o.dict = none ∧ o.slots = #[]
theorem New.back {s s' : Shared} {h : Heap} {v : Value} (f : New s'.heap h v) (k : Ks s s') : New s.heap h v := fun a e => by
  obtain ⟨f1, f2⟩ := f a e
  refine ⟨?_, f2⟩
  rcases q : s.heap.get? a with _ | o
  · rfl
  · rw [k.heap _ _ q] at f1; cases f1
theorem New.fwd {s s' : Shared} {h : Heap} {v : Value} (f : New h s.heap v) (k : Ks s s') : New h s'.heap v := fun a e =>
  let ⟨f1, o, f2, f3⟩ := f a e; ⟨f1, o, k.heap _ _ f2, f3⟩
theorem fresh_size (h : Heap) : h.get? h.objs.size = none := by
  rcases e : h.get? h.objs.size with _ | o
  · rfl
  · exact absurd (Heap.lt_size e) (Nat.lt_irrefl _)
theorem New.size (h : Heap) (o : Obj) (hf : o.isFreed = false) (hd : o.dict = none) (hs : o.slots = #[]) : New h (h.push o) (.ref h.objs.size) := fun a e => by
  cases e; exact ⟨fresh_size h, o, Heap.get?_push_size _ hf, hd, hs⟩

/-- evaluation: e gives d; fr: what it gives is new -/
structure Ev (w : World) (mg : Str → Option Value) (A : Around) (env : Env) (m : List (Str × DD)) (e : PySem.Expr) (fr : Bool) (d : DD) : Prop where
  mk ::
  go : ∀ (s : Shared) (E : Value → Shared → Prop) (Q : Value → Shared → Prop), Bs w mg s.heap → Rd w env m s.heap →
    (∀ v s', Ks s s' → Rep w s'.heap v d → (fr = true → New s.heap s'.heap v) → Q v s') → wpAny (model PW w) A (eval e env) Q E s

/-- a test -/
structure Tr (w : World) (mg : Str → Option Value) (A : Around) (env : Env) (m : List (Str × DD)) (e : PySem.Expr) (b : Bool) : Prop where
  mk ::
  go : ∀ (s : Shared) (E : Value → Shared → Prop) (Q : Bool → Shared → Prop), Bs w mg s.heap → Rd w env m s.heap →
    (∀ s', Ks s s' → Q b s') → wpAny (model PW w) A (isTrue e env (eval e env)) Q E s

section
variable {w : World} {mg : Str → Option Value} {A : Around} {env : Env} {m : List (Str × DD)}

theorem ev_name {x : Str} {pos : Pos} {d : DD} (ok : EnvOk env) (hm : m.lookup x = some d) (hd : (x == ("__debug__" : Str)) = false := by decide) : Ev w mg A env m (.Name x pos) false d := by
  refine .mk fun s E Q B R hQ => ?_
  obtain ⟨v, V, r⟩ := R x d hm
  refine wpAny_Name ?_ hd
  rcases V with ⟨hl, mm, hn, e⟩ | ⟨hl, c, hc, e⟩
  · exact wpAny_loadName_local ok.k hl hn e (hQ v s (Ks.rfl' s) r (fun f => by cases f))
  · exact wpAny_loadName_cell ok.k hl hc e (hQ v s (Ks.rfl' s) r (fun f => by cases f))

theorem ev_str {x : Str} {k pos} : Ev w mg A env m (.Constant (.str x) k pos) true (.str x) := .mk fun s E Q B R hQ =>
  Constant_str (hQ _ _ (Ks.tok s _) (.str x _) (fun _ a e => by cases e))
theorem ev_int {i : Int} {k pos} : Ev w mg A env m (.Constant (.int i) k pos) true (.int i) := .mk fun s E Q B R hQ =>
  wpAny_Constant_int (hQ _ _ (Ks.tok s _) (.int i _) (fun _ a e => by cases e))
theorem ev_bool {b : Bool} {k pos} : Ev w mg A env m (.Constant (.bool b) k pos) true (.bool b) := .mk fun s E Q B R hQ =>
  Constant_bool (hQ _ _ (Ks.rfl' s) (.bool b) (fun _ a e => by cases e))
end
end Mine

namespace Mine
section
variable {w : World} {mg : Str → Option Value} {A : Around} {env : Env} {m : List (Str × DD)}

theorem Ev.scalar {e : PySem.Expr} {fr : Bool} {d : DD} (h : Ev w mg A env m e fr d) : Ev w mg A env m e false d :=
  .mk fun s E Q B R hQ => h.go s E Q B R fun v s' k r _ => hQ v s' k r (fun f => by cases f)

/-- a comparison of two data -/
structure Cmp (w : World) (A : Around) (op : CmpOp) (d₁ d₂ : DD) (b : Bool) : Prop where
  mk ::
  go : ∀ (s : Shared) (v₁ v₂ : Value) (E Q : Value → Shared → Prop), Rep w s.heap v₁ d₁ → Rep w s.heap v₂ d₂ → (∀ s', Ks s s' → Q (.bool b) s') → wpAny (model PW w) A (compareOp op v₁ v₂) Q E s

theorem cmp_lt {a b : Int} : Cmp w A .Lt (.int a) (.int b) (decide (a < b)) := .mk fun s v₁ v₂ E Q h₁ h₂ hQ => by
  cases h₁; cases h₂; exact PyProof.Rows.lt_int (hQ _ (Ks.rfl' s))
theorem cmp_gt {a b : Int} : Cmp w A .Gt (.int a) (.int b) (decide (b < a)) := .mk fun s v₁ v₂ E Q h₁ h₂ hQ => by
  cases h₁; cases h₂; exact PyProof.Rows.gt_int (hQ _ (Ks.rfl' s))
theorem cmp_ge {a b : Int} : Cmp w A .GtE (.int a) (.int b) (decide (b ≤ a)) := .mk fun s v₁ v₂ E Q h₁ h₂ hQ => by
  cases h₁; cases h₂; exact PyProof.Rows.ge_int (hQ _ (Ks.rfl' s))
theorem cmp_eqI {a b : Int} : Cmp w A .Eq (.int a) (.int b) (a == b) := .mk fun s v₁ v₂ E Q h₁ h₂ hQ => by
  cases h₁; cases h₂; exact PyProof.Rows.eq_int (hQ _ (Ks.rfl' s))
theorem cmp_eqS {a b : Str} : Cmp w A .Eq (.str a) (.str b) (a == b) := .mk fun s v₁ v₂ E Q h₁ h₂ hQ => by
  cases h₁; cases h₂; exact PyProof.Rows.eq_str (hQ _ (Ks.rfl' s))
theorem cmp_neS {a b : Str} : Cmp w A .NotEq (.str a) (.str b) (a != b) := .mk fun s v₁ v₂ E Q h₁ h₂ hQ => by
  cases h₁; cases h₂; exact PyProof.Rows.ne_str (hQ _ (Ks.rfl' s))
theorem cmp_leS {a b : Str} : Cmp w A .LtE (.str a) (.str b) (!(b.cps.toList < a.cps.toList)) := .mk fun s v₁ v₂ E Q h₁ h₂ hQ => by
  cases h₁; cases h₂; exact PySem.P.le_str (hQ _ (Ks.rfl' s))
theorem cmp_inS {a b : Str} : Cmp w A .In (.str a) (.str b) (!(Builtin.Str.occurrences b a 0 b.length 1).isEmpty) := .mk fun s v₁ v₂ E Q h₁ h₂ hQ => by
  cases h₁; cases h₂; exact PyProof.Rows.in_str (hQ _ (Ks.rfl' s))

theorem rep_reads {h : Heap} {v : Value} {d : DD} (hd : ∀ D, d ≠ .dict D) (r : Rep w h v d) : ∃ as, Reads h v d as := by
  cases d with
  | list ds => obtain ⟨a, vs, rfl, ⟨o, ho, hc, n, hdt⟩, hr⟩ := r; exact ⟨_, .list ho hc hdt hr⟩
  | dict D => exact absurd rfl (hd D)
  | _ => exact ⟨_, r⟩

theorem cmp_neD {d₁ d₂ : DD} (h1 : ∀ D, d₁ ≠ .dict D) (h2 : ∀ D, d₂ ≠ .dict D) (s1 : SeqAt.shaped d₁ = true) (s2 : SeqAt.shaped d₂ = true) (hu : A.units + 64 < cLine) : Cmp w A .NotEq d₁ d₂ (!PyData.eqv d₁ d₂) := .mk fun s v₁ v₂ E Q r₁ r₂ hQ => by
  obtain ⟨as, ra⟩ := rep_reads h1 r₁
  obtain ⟨bs, rb⟩ := rep_reads h2 r₂
  exact SeqAt.compareNe_shaped ra rb s1 s2 hu (hQ _ (Ks.rfl' s))
theorem cmp_eqD {d₁ d₂ : DD} (h1 : ∀ D, d₁ ≠ .dict D) (h2 : ∀ D, d₂ ≠ .dict D) (s1 : SeqAt.shaped d₁ = true) (s2 : SeqAt.shaped d₂ = true) (hu : A.units + 64 < cLine) : Cmp w A .Eq d₁ d₂ (PyData.eqv d₁ d₂) := .mk fun s v₁ v₂ E Q r₁ r₂ hQ => by
  obtain ⟨as, ra⟩ := rep_reads h1 r₁
  obtain ⟨bs, rb⟩ := rep_reads h2 r₂
  exact SeqAt.compareEq_shaped ra rb s1 s2 hu (hQ _ (Ks.rfl' s))

theorem readsAll_strs {h : Heap} : ∀ {vs : List Value} {xs : List Str} {as : List Addr}, ReadsAll h vs (xs.map .str) as → StrsAre vs xs
  | _, [], _, h => by cases h; exact .nil
  | _, x :: r, _, h => by
    rw [List.map_cons] at h
    cases h with
    | cons h1 h2 => cases h1; exact .cons _ _ (readsAll_strs h2)
theorem readsAll_ints {h : Heap} : ∀ {vs : List Value} {xs : List Int} {as : List Addr}, ReadsAll h vs (xs.map .int) as → IntsAre vs xs
  | _, [], _, h => by cases h; exact .nil
  | _, x :: r, _, h => by
    rw [List.map_cons] at h
    cases h with
    | cons h1 h2 => cases h1; exact .cons _ _ (readsAll_ints h2)
theorem strsAre_reads {h : Heap} : ∀ {vs : List Value} {xs : List Str}, StrsAre vs xs → ReadsAll h vs (xs.map .str) []
  | _, _, .nil => .nil
  | _, _, .cons y t r => .cons (as := []) (.str y t) (strsAre_reads r)
theorem intsAre_reads {h : Heap} : ∀ {vs : List Value} {xs : List Int}, IntsAre vs xs → ReadsAll h vs (xs.map .int) []
  | _, _, .nil => .nil
  | _, _, .cons y t r => .cons (as := []) (.int y t) (intsAre_reads r)

theorem cmp_inL {a : Str} {xs : List Str} : Cmp w A .In (.str a) (.list (xs.map .str)) (xs.any (· == a)) := .mk fun s v₁ v₂ E Q r₁ r₂ hQ => by
  cases r₁
  obtain ⟨l, vs, rfl, hl, hr⟩ := r₂
  exact in_list_strs hl (readsAll_strs hr) (hQ _ (Ks.rfl' s))
theorem cmp_inT {a : Str} {xs : List Str} : Cmp w A .In (.str a) (.tuple (xs.map .str)) (xs.any (· == a)) := .mk fun s v₁ v₂ E Q r₁ r₂ hQ => by
  cases r₁
  cases r₂ with
  | tuple h1 h2 h3 h4 => exact in_tuple_strs ⟨_, h1, h2, _, h3⟩ (readsAll_strs h4) (hQ _ (Ks.rfl' s))

theorem ev_cmp {l r : PySem.Expr} {op : CmpOp} {pos : Pos} {f₁ f₂ : Bool} {d₁ d₂ : DD} {b : Bool} (h₁ : Ev w mg A env m l f₁ d₁) (h₂ : Ev w mg A env m r f₂ d₂) (hc : Cmp w A op d₁ d₂ b)
    (hm : behindInMarks op r = false := by with_unfolding_all rfl) : Ev w mg A env m (.Compare l [op] [r] pos) true (.bool b) := .mk fun s E Q B R hQ =>
  wpAny_Compare1 (h₁.go s E _ B R fun v₁ s₁ k₁ r₁ _ => h₂.go s₁ E _ (B.keeps k₁.heap) (R.keeps k₁.heap) fun v₂ s₂ k₂ r₂ _ =>
    hc.go s₂ v₁ v₂ E _ (r₁.keeps k₂.heap) r₂ fun s₃ k₃ => hQ _ s₃ (k₁.trans' (k₂.trans' k₃)) (.bool b) fun _ a e => by cases e) hm
theorem tr_cmp {l r : PySem.Expr} {op : CmpOp} {pos : Pos} {f₁ f₂ : Bool} {d₁ d₂ : DD} {b : Bool} (h₁ : Ev w mg A env m l f₁ d₁) (h₂ : Ev w mg A env m r f₂ d₂) (hc : Cmp w A op d₁ d₂ b)
    (hm : behindInMarks op r = false := by with_unfolding_all rfl) : Tr w mg A env m (.Compare l [op] [r] pos) b := .mk fun s E Q B R hQ =>
  wpAny_isTrue_Compare1 (h₁.go s E _ B R fun v₁ s₁ k₁ r₁ _ => h₂.go s₁ E _ (B.keeps k₁.heap) (R.keeps k₁.heap) fun v₂ s₂ k₂ r₂ _ =>
    hc.go s₂ v₁ v₂ E _ (r₁.keeps k₂.heap) r₂ fun s₃ k₃ => wpAny_truthy_bool (hQ s₃ (k₁.trans' (k₂.trans' k₃)))) hm

theorem ev_chain2 {l r₁ r₂ : PySem.Expr} {op₁ op₂ : CmpOp} {pos : Pos} {f₁ f₂ f₃ : Bool} {d₁ d₂ d₃ : DD} {b₁ b₂ : Bool} (h₁ : Ev w mg A env m l f₁ d₁) (h₂ : Ev w mg A env m r₁ f₂ d₂) (h₃ : Ev w mg A env m r₂ f₃ d₃)
    (c₁ : Cmp w A op₁ d₁ d₂ b₁) (c₂ : Cmp w A op₂ d₂ d₃ b₂) (hm : lastMarks [op₁, op₂] [r₁, r₂] = false := by with_unfolding_all rfl) : Ev w mg A env m (.Compare l [op₁, op₂] [r₁, r₂] pos) true (.bool (b₁ && b₂)) := .mk fun s E Q B R hQ =>
  Compare_chain (h₁.go s E _ B R fun v₁ s₁ k₁ r₁ _ => chain_link (h₂.go s₁ E _ (B.keeps k₁.heap) (R.keeps k₁.heap) fun v₂ s₂ k₂ r₂ _ =>
    c₁.go s₂ v₁ v₂ E _ (r₁.keeps k₂.heap) r₂ fun s₃ k₃ => wpAny_truthy_bool (by
      cases b₁ with
      | false => exact hQ _ s₃ (k₁.trans' (k₂.trans' k₃)) (.bool _) fun _ a e => by cases e
      | true =>
        have k := k₁.trans' (k₂.trans' k₃)
        exact chain_last (h₃.go s₃ E _ (B.keeps k.heap) (R.keeps k.heap) fun v₃ s₄ k₄ r₃ _ => c₂.go s₄ v₂ v₃ E _ (r₂.keeps (k₃.trans' k₄).heap) r₃ fun s₅ k₅ =>
          hQ _ s₅ (k.trans' (k₄.trans' k₅)) (.bool _) fun _ a e => by cases e)))) hm

/-- a test that is the truth of a value -/
def Plain (e : PySem.Expr) : Prop := ∀ (env : Env) (whole : Sem Value), isTrue e env whole = (do let v ← whole; standAt e.pos; holding [v] (truthy v))
theorem tr_of {e : PySem.Expr} {f : Bool} {b : Bool} (he : Plain e) (h : Ev w mg A env m e f (.bool b)) : Tr w mg A env m e b := .mk fun s E Q B R hQ =>
  isTrue_plain (h.go s E _ B R fun v s₁ k r _ => by cases r; exact wpAny_truthy_bool (hQ s₁ k)) (he _ _)

theorem tr_or2 {a b : PySem.Expr} {pos : Pos} {x y : Bool} (h₁ : Tr w mg A env m a x) (h₂ : x = false → Tr w mg A env m b y) : Tr w mg A env m (.BoolOp .Or [a, b] pos) (x || y) := .mk fun s E Q B R hQ =>
  isTrue_or (h₁.go s E _ B R fun s₁ k₁ => by
    cases x with
    | true => exact hQ s₁ k₁
    | false => exact isTrue_or ((h₂ rfl).go s₁ E _ (B.keeps k₁.heap) (R.keeps k₁.heap) fun s₂ k₂ => by
        cases y with
        | true => exact hQ s₂ (k₁.trans' k₂)
        | false => exact isTrue_or_nil (hQ s₂ (k₁.trans' k₂))))
theorem tr_and2 {a b : PySem.Expr} {pos : Pos} {x y : Bool} (h₁ : Tr w mg A env m a x) (h₂ : x = true → Tr w mg A env m b y) : Tr w mg A env m (.BoolOp .And [a, b] pos) (x && y) := .mk fun s E Q B R hQ =>
  isTrue_and (h₁.go s E _ B R fun s₁ k₁ => by
    cases x with
    | false => exact hQ s₁ k₁
    | true => exact isTrue_and ((h₂ rfl).go s₁ E _ (B.keeps k₁.heap) (R.keeps k₁.heap) fun s₂ k₂ => by
        cases y with
        | false => exact hQ s₂ (k₁.trans' k₂)
        | true => exact isTrue_and_nil (hQ s₂ (k₁.trans' k₂))))

theorem ev_one {op : BoolOp} {a : PySem.Expr} {pos : Pos} {f : Bool} {d : DD} (h : Ev w mg A env m a f d) : Ev w mg A env m (.BoolOp op [a] pos) f d := .mk fun s E Q B R hQ => BoolOp_one (h.go s E Q B R hQ)
theorem ev_and {a b : PySem.Expr} {rest : List PySem.Expr} {pos : Pos} {f g : Bool} {x y : Bool} (h₁ : Ev w mg A env m a f (.bool x)) (h₂ : x = true → Ev w mg A env m (.BoolOp .And (b :: rest) pos) g (.bool y)) :
    Ev w mg A env m (.BoolOp .And (a :: b :: rest) pos) true (.bool (x && y)) := .mk fun s E Q B R hQ =>
  BoolOp_and (h₁.go s E _ B R fun v₁ s₁ k₁ r₁ _ => by
    cases r₁
    refine wpAny_truthy_bool ?_
    cases x with
    | false => exact hQ _ s₁ k₁ (.bool _) fun _ a e => by cases e
    | true => exact (h₂ rfl).go s₁ E _ (B.keeps k₁.heap) (R.keeps k₁.heap) fun v₂ s₂ k₂ r₂ _ => hQ v₂ s₂ (k₁.trans' k₂) r₂ fun _ a e => by cases r₂; cases e)

theorem ev_if {t b o : PySem.Expr} {pos : Pos} {c : Bool} {f : Bool} {d : DD} (ht : Tr w mg A env m t c) (hb : c = true → Ev w mg A env m b f d) (ho : c = false → Ev w mg A env m o f d) : Ev w mg A env m (.IfExp t b o pos) f d := .mk fun s E Q B R hQ =>
  IfExp_ (ht.go s E _ B R fun s₁ k₁ => by
    cases c with
    | true => exact (hb rfl).go s₁ E _ (B.keeps k₁.heap) (R.keeps k₁.heap) fun v s₂ k₂ r fr => hQ v s₂ (k₁.trans' k₂) r fun hf => (fr hf).back k₁
    | false => exact (ho rfl).go s₁ E _ (B.keeps k₁.heap) (R.keeps k₁.heap) fun v s₂ k₂ r fr => hQ v s₂ (k₁.trans' k₂) r fun hf => (fr hf).back k₁)

/-- arithmetic -/
theorem ev_bin {l r : PySem.Expr} {op : Operator} {pos : Pos} {f₁ f₂ : Bool} {d₁ d₂ d : DD} (h₁ : Ev w mg A env m l f₁ d₁) (h₂ : Ev w mg A env m r f₂ d₂)
    (ho : ∀ (s : Shared) (v₁ v₂ : Value) (E Q : Value → Shared → Prop), Bs w mg s.heap → Rep w s.heap v₁ d₁ → Rep w s.heap v₂ d₂ → (∀ v s', Ks s s' → Rep w s'.heap v d → New s.heap s'.heap v → Q v s') → wpAny (model PW w) A (binaryOp op v₁ v₂) Q E s) :
    Ev w mg A env m (.BinOp l op r pos) true d := .mk fun s E Q B R hQ =>
  wpAny_BinOp (h₁.go s E _ B R fun v₁ s₁ k₁ r₁ _ => h₂.go s₁ E _ (B.keeps k₁.heap) (R.keeps k₁.heap) fun v₂ s₂ k₂ r₂ _ =>
    ho s₂ v₁ v₂ E _ (B.keeps (k₁.trans' k₂).heap) (r₁.keeps k₂.heap) r₂ fun v s₃ k₃ r₃ fr => hQ v s₃ (k₁.trans' (k₂.trans' k₃)) r₃ fun _ => fr.back (k₁.trans' k₂))
theorem ev_addI {l r : PySem.Expr} {pos : Pos} {f₁ f₂ : Bool} {a b : Int} (h₁ : Ev w mg A env m l f₁ (.int a)) (h₂ : Ev w mg A env m r f₂ (.int b)) : Ev w mg A env m (.BinOp l .Add r pos) true (.int (a + b)) :=
  ev_bin h₁ h₂ fun s v₁ v₂ E Q _ r₁ r₂ hQ => by cases r₁; cases r₂; exact PyProof.Rows.add_int (hQ _ _ (Ks.tok s _) (.int _ _) fun a e => by cases e)
theorem ev_subI {l r : PySem.Expr} {pos : Pos} {f₁ f₂ : Bool} {a b : Int} (h₁ : Ev w mg A env m l f₁ (.int a)) (h₂ : Ev w mg A env m r f₂ (.int b)) : Ev w mg A env m (.BinOp l .Sub r pos) true (.int (a - b)) :=
  ev_bin h₁ h₂ fun s v₁ v₂ E Q _ r₁ r₂ hQ => by cases r₁; cases r₂; exact PyProof.Rows.sub_int (hQ _ _ (Ks.tok s _) (.int _ _) fun a e => by cases e)
theorem ev_addS {l r : PySem.Expr} {pos : Pos} {f₁ f₂ : Bool} {a b : Str} (h₁ : Ev w mg A env m l f₁ (.str a)) (h₂ : Ev w mg A env m r f₂ (.str b)) (hs : a.length + b.length ≤ sizeLine) : Ev w mg A env m (.BinOp l .Add r pos) true (.str (a ++ b)) :=
  ev_bin h₁ h₂ fun s v₁ v₂ E Q _ r₁ r₂ hQ => by cases r₁; cases r₂; exact PyProof.Rows.add_str (fun t' tk => hQ _ _ (Ks.tok s tk) (.str _ _) fun a e => by cases e) hs
theorem ev_mod {l r : PySem.Expr} {pos : Pos} {f₁ f₂ : Bool} {a b : Int} (h₁ : Ev w mg A env m l f₁ (.int a)) (h₂ : Ev w mg A env m r f₂ (.int b)) (hb : b ≠ 0) : Ev w mg A env m (.BinOp l .Mod r pos) true (.int (a.fmod b)) :=
  ev_bin h₁ h₂ fun s v₁ v₂ E Q _ r₁ r₂ hQ => by cases r₁; cases r₂; exact PyProof.Rows.mod_int' hb (hQ _ _ (Ks.tok s _) (.int _ _) fun a e => by cases e)
theorem ev_div {l r : PySem.Expr} {pos : Pos} {f₁ f₂ : Bool} {a b : Int} (h₁ : Ev w mg A env m l f₁ (.int a)) (h₂ : Ev w mg A env m r f₂ (.int b)) (hb : 0 < b) (hb2 : b < 100000) : Ev w mg A env m (.BinOp l .FloorDiv r pos) true (.int (a.fdiv b)) :=
  ev_bin h₁ h₂ fun s v₁ v₂ E Q _ r₁ r₂ hQ => by cases r₁; cases r₂; exact PyProof.Rows.floordiv_int (by omega) (hQ _ _ (Ks.tok s _) (.int _ _) fun a e => by cases e) (Or.inl (PyProof.noPylong_small (by omega)))
end
end Mine

namespace Mine

/-- not a starred argument -/
def nS : PySem.Expr → Bool
  | .Starred _ _ => false
  | _ => true
def nSs (es : List PySem.Expr) : Bool := es.all nS
theorem starEach_ns {e : PySem.Expr} {es : List PySem.Expr} {env : Env} (h : nS e = true) : starEach (e :: es) env = (false, eval e env) :: starEach es env := by
  cases e <;> first | rfl | cases h
theorem starEach_all : ∀ {es : List PySem.Expr} {env : Env}, nSs es = true → starEach es env = es.map fun e => (false, eval e env)
  | [], _, _ => rfl
  | e :: es, env, h => by
    obtain ⟨h1, h2⟩ := Bool.and_eq_true_iff.mp (show (nS e && nSs es) = true from h)
    rw [starEach_ns h1, starEach_all h2]; rfl
theorem backTo_ns {es : List PySem.Expr} {env : Env} {pos : Pos} (h : nSs es = true) : backTo pos (starEach es env) = es.map fun e => (false, eval e env) := by
  rw [starEach_all h]
  unfold backTo
  rw [List.map_map]
  rfl
theorem backTo_any {es : List PySem.Expr} {env : Env} {pos : Pos} (h : nSs es = true) : (backTo pos (starEach es env)).any (·.1) = false := by
  rw [backTo_ns h, List.any_map]
  induction es with
  | nil => rfl
  | cons e es ih => simp
theorem backTo_few {es : List PySem.Expr} {env : Env} {pos : Pos} (h : nSs es = true) (hl : es.length < 20) : ((backTo pos (starEach es env)).all (fun x => !x.1) && (backToKw pos (keywordEach [] env)).all (fun x => x.1.isSome)
      && decide (es.length + ([] : List Keyword).length + (if ([] : List Keyword).isEmpty then 0 else 1) < 30)) = true := by
  rw [backTo_ns h, List.all_map]
  have : decide (es.length + ([] : List Keyword).length + (if ([] : List Keyword).isEmpty then 0 else 1) < 30) = true := by simp; omega
  rw [this]
  have h2 : ∀ l : List PySem.Expr, (l.all ((fun x : Bool × Sem Value => !x.1) ∘ fun e => (false, eval e env))) = true := fun l => by induction l with | nil => rfl | cons e l ih => simp
  rw [h2]; rfl
def nC0 : PySem.Expr → Bool
  | .Call _ _ _ _ => false
  | _ => true
theorem base_ns {o : PySem.Expr} {name : Str} {env : Env} {wh : Sem Value} (h : nC0 o = true) : attributeBase o name env wh = wh := by
  cases o <;> first | rfl | cases h

inductive RepL (w : World) (h : Heap) : List Value → List DD → Prop
  | nil : RepL w h [] []
  | cons {v vs d ds} : Rep w h v d → RepL w h vs ds → RepL w h (v :: vs) (d :: ds)
theorem RepL.keeps {w} {h h' : Heap} (hk : ∀ b o, h.get? b = some o → h'.get? b = some o) : ∀ {vs ds}, RepL w h vs ds → RepL w h' vs ds
  | _, _, .nil => .nil
  | _, _, .cons a b => .cons (a.keeps hk) (b.keeps hk)

/-- a def of the text: it gives d for the data ds -/
structure Fn (w : World) (mg : Str → Option Value) (k : Nat) (n : Str) (ds : List DD) (d : DD) : Prop where
  mk ::
  go : ∀ (A : Around) (s : Shared) (E Q : Value → Shared → Prop) (vs : List Value) (f : Addr), Room A k → Bs w mg s.heap → mg n = some (.ref f) → RepL w s.heap vs ds →
    (∀ v s', Ks s s' → Rep w s'.heap v d → New s.heap s'.heap v → Q v s') → wpAny (model PW w) A (call (.ref f) vs) Q E s
/-- a built-in function, or a type called -/
structure BFn (w : World) (mg : Str → Option Value) (A : Around) (f : Value) (ds : List DD) (d : DD) : Prop where
  mk ::
  go : ∀ (s : Shared) (E Q : Value → Shared → Prop) (vs : List Value), Bs w mg s.heap → RepL w s.heap vs ds →
    (∀ v s', Ks s s' → Rep w s'.heap v d → New s.heap s'.heap v → Q v s') → wpAny (model PW w) A (call f vs) Q E s

structure Args (w : World) (mg : Str → Option Value) (A : Around) (env : Env) (m : List (Str × DD)) (es : List PySem.Expr) (ds : List DD) : Prop where
  mk ::
  go : ∀ (s : Shared) (E : Value → Shared → Prop) (Q : List Value → Shared → Prop) (pos : Pos), Bs w mg s.heap → Rd w env m s.heap →
    (∀ vs s', Ks s s' → RepL w s'.heap vs ds → Q vs s') → wpAny (model PW w) A (spliced (backTo pos (starEach es env))) Q E s

section
variable {w : World} {mg : Str → Option Value} {A : Around} {env : Env} {m : List (Str × DD)}

theorem args_z : Args w mg A env m [] [] := .mk fun s E Q pos B R hQ => args_nil (hQ [] s (Ks.rfl' s) .nil)
theorem args_s {e : PySem.Expr} {es : List PySem.Expr} {f : Bool} {d : DD} {ds : List DD} (h : Ev w mg A env m e f d) (hs : Args w mg A env m es ds)
    (he : nS e = true := by rfl) : Args w mg A env m (e :: es) (d :: ds) := .mk fun s E Q pos B R hQ =>
  args_cons (h.go s E _ B R fun v s₁ k₁ r₁ _ => hs.go s₁ E _ pos (B.keeps k₁.heap) (R.keeps k₁.heap) fun vs s₂ k₂ r₂ => hQ _ s₂ (k₁.trans' k₂) (.cons (r₁.keeps k₂.heap) r₂)) (starEach_ns he)

theorem Room.le {k j : Nat} (h : Room A k) (hj : j ≤ k) : Room A j := ⟨h.1, by have := h.2.1; omega, by have := h.2.2; omega⟩

/-- a call of a def of the text -/
theorem ev_call {n : Str} {np pos : Pos} {e : PySem.Expr} {es : List PySem.Expr} {ds : List DD} {d : DD} {k : Nat} (ok : EnvOk env) (hk : Room A k) (hn : env.kindOf n = some .globalImplicit)
    (hin : ((recsOf PW).any fun e => e.name == n) = true) (ha : Args w mg A env m (e :: es) ds) (hf : Fn w mg k n ds d) (hd : (n == ("__debug__" : Str)) = false := by decide)
    (he : nS e = true := by rfl) : Ev w mg A env m (.Call (.Name n np) (e :: es) [] pos) true d := .mk fun s E Q B R hQ => by
  obtain ⟨r, hr, e1⟩ := List.any_eq_true.mp hin
  obtain ⟨a, o, pm, code, doc, h1, h2, h3, h4⟩ := B.fn r hr
  rw [beq_iff_eq.mp e1] at h1
  refine Call_ (Name_function_global ok.k hn (loadGlobal_global (mg := mg) (by rw [ok.g]; exact B.g) h1 ?_) hd) (arm_eval_Call_Name' ..)
  refine callWith_def h3 (ha.go s E _ pos B R fun vs s₁ k₁ r₁ => ⟨k₁.heap _ _ h2, ?_⟩) (starEach_ns he)
  exact hf.go A s₁ E _ vs a hk (B.keeps k₁.heap) h1 r₁ fun v s₂ k₂ r₂ fr => hQ v s₂ (k₁.trans' k₂) r₂ fun _ => fr.back k₁

theorem ev_bcall {n : Str} {id : String} {np pos : Pos} {e : PySem.Expr} {es : List PySem.Expr} {ds : List DD} {d : DD} (ok : EnvOk env) (hn : env.kindOf n = some .globalImplicit)
    (hin : n ∈ (["len", "range", "sorted", "list", "dict", "ord", "chr"] : List Str)) (hb : bootBuiltins n = some (.builtin id)) (ha : Args w mg A env m (e :: es) ds) (hf : BFn w mg A (.builtin id) ds d) (hx : n ≠ "__name__" := by decide) (hd : (n == ("__debug__" : Str)) = false := by decide)
    (he : nSs (e :: es) = true := by rfl) : Ev w mg A env m (.Call (.Name n np) (e :: es) [] pos) true d := .mk fun s E Q B R hQ => by
  obtain ⟨mb, b1, b2⟩ := B.b
  refine Call_ (Name_function_global ok.k hn (loadGlobal_builtin (mg := mg) (mb := mb) (by rw [ok.g]; exact B.g) (B.free n hin) (by rw [ok.b]; exact b1) ((b2 n hx).trans hb) ?_) hd) (arm_eval_Call_Name' ..)
  obtain ⟨he1, he2⟩ := Bool.and_eq_true_iff.mp (show (nS e && nSs es) = true from he)
  refine callWith_builtin1 (ha.go s E _ pos B R fun vs s₁ k₁ r₁ => ?_) (starEach_ns he1) (backTo_any he2)
  exact hf.go s₁ E _ vs (B.keeps k₁.heap) r₁ fun v s₂ k₂ r₂ fr => hQ v s₂ (k₁.trans' k₂) r₂ fun _ => fr.back k₁
theorem ev_tcall {n : Str} {T : String} {np pos : Pos} {e : PySem.Expr} {es : List PySem.Expr} {ds : List DD} {d : DD} (ok : EnvOk env) (hn : env.kindOf n = some .globalImplicit)
    (hin : n ∈ (["len", "range", "sorted", "list", "dict", "ord", "chr"] : List Str)) (hb : bootBuiltins n = some (.type T)) (ha : Args w mg A env m (e :: es) ds) (hf : BFn w mg A (.type T) ds d) (hx : n ≠ "__name__" := by decide) (hd : (n == ("__debug__" : Str)) = false := by decide)
    (he : nSs (e :: es) = true := by rfl) : Ev w mg A env m (.Call (.Name n np) (e :: es) [] pos) true d := .mk fun s E Q B R hQ => by
  obtain ⟨mb, b1, b2⟩ := B.b
  refine Call_ (Name_function_global ok.k hn (loadGlobal_builtin (mg := mg) (mb := mb) (by rw [ok.g]; exact B.g) (B.free n hin) (by rw [ok.b]; exact b1) ((b2 n hx).trans hb) ?_) hd) (arm_eval_Call_Name' ..)
  obtain ⟨he1, he2⟩ := Bool.and_eq_true_iff.mp (show (nS e && nSs es) = true from he)
  refine PyProof.Rows.callWith_type1 (ha.go s E _ pos B R fun vs s₁ k₁ r₁ => ?_) (starEach_ns he1) (backTo_any he2)
  exact hf.go s₁ E _ vs (B.keeps k₁.heap) r₁ fun v s₂ k₂ r₂ fr => hQ v s₂ (k₁.trans' k₂) r₂ fun _ => fr.back k₁

/-- a constant of the top -/
theorem ev_top {x : Str} {pos : Pos} {d : DD} (ok : EnvOk env) (hn : env.kindOf x = some .globalImplicit) (hv : valOf PW x = some d) (hd' : (∃ y, d = .str y) ∨ ∃ i, d = .int i) (hd : (x == ("__debug__" : Str)) = false := by decide) (hx : x ∈ (["DELIMITER", "INBOX", "WILD_SIGNS"] : List Str) := by decide) : Ev w mg A env m (.Name x pos) true d := .mk fun s E Q B R hQ => by
  obtain ⟨v, h1, h2⟩ := B.const x hx d hv
  refine Name_function_global ok.k hn (loadGlobal_global (mg := mg) (by rw [ok.g]; exact B.g) h1 (hQ v s (Ks.rfl' s) ?_ fun _ a e => ?_)) hd
  · rcases hd' with ⟨y, rfl⟩ | ⟨y, rfl⟩ <;> exact h2 _
  · rcases hd' with ⟨y, rfl⟩ | ⟨y, rfl⟩ <;> (have := h2 s.heap; cases this; cases e)

theorem ev_neg {e : PySem.Expr} {pos : Pos} {f : Bool} {i : Int} (h : Ev w mg A env m e f (.int i)) : Ev w mg A env m (.UnaryOp .USub e pos) true (.int (-i)) := .mk fun s E Q B R hQ =>
  UnaryOp_ (h.go s E _ B R fun v s₁ k₁ r₁ _ => by cases r₁; exact PyProof.Rows.neg_int (hQ _ _ (k₁.trans' (Ks.tok s₁ _)) (.int _ _) fun _ a e => by cases e))

theorem bf_lenS {x : Str} (h : x.length ≤ 1000000) : BFn w mg A (.builtin "len") [.str x] (.int x.length) := .mk fun s E Q vs B r hQ => by
  cases r with
  | cons r1 r2 => cases r2; cases r1; exact PyProof.Rows.len_str (by omega) (hQ _ _ (Ks.tok s _) (.int _ _) fun a e => by cases e)
theorem readsAll_length {h : Heap} : ∀ {vs : List Value} {ds : List DD} {as : List Addr}, ReadsAll h vs ds as → vs.length = ds.length
  | _, _, _, .nil => rfl
  | _, _, _, .cons _ r => by rw [List.length_cons, List.length_cons, readsAll_length r]
theorem bf_lenL {ds : List DD} (h : ds.length ≤ 1000000) : BFn w mg A (.builtin "len") [.list ds] (.int ds.length) := .mk fun s E Q vs B r hQ => by
  cases r with
  | cons r1 r2 =>
    cases r2
    obtain ⟨a, vs, rfl, hl, hr⟩ := r1
    have e := readsAll_length hr
    have e' : vs.size = ds.length := by rw [← e]; simp
    exact PyProof.Rows.len_list hl (by rw [e']; omega) (by rw [e']; exact hQ _ _ (Ks.tok s _) (.int _ _) fun a e => by cases e)
theorem bf_ord {x : Str} (h : x.length = 1) : BFn w mg A (.builtin "ord") [.str x] (.int (x.cps.getD 0 0 : Nat)) := .mk fun s E Q vs B r hQ => by
  cases r with
  | cons r1 r2 => cases r2; cases r1; exact ord_of_one h (hQ _ _ (Ks.tok s _) (.int _ _) fun a e => by cases e)
theorem bf_chr {i : Int} (h0 : 0 ≤ i) (h1 : i ≤ 1114111) : BFn w mg A (.builtin "chr") [.int i] (.str ⟨#[i.toNat]⟩) := .mk fun s E Q vs B r hQ => by
  cases r with
  | cons r1 r2 => cases r2; cases r1; exact chr_of_range h0 h1 (hQ _ _ (Ks.tok s _) (.str _ _) fun a e => by cases e)
theorem bf_find {x y : Str} : BFn w mg A (.builtin "str.find") [.str x, .str y] (.int (Txt.find x y)) := .mk fun s E Q vs B r hQ => by
  cases r with
  | cons r1 r2 => cases r2 with | cons r2 r3 => cases r3; cases r1; cases r2; exact SC.find (hQ _ _ (Ks.tok s _) (.int _ _) fun a e => by cases e)
theorem bf_find3 {x y : Str} {i : Int} : BFn w mg A (.builtin "str.find") [.str x, .str y, .int i] (.int (Txt.find3 x y i)) := .mk fun s E Q vs B r hQ => by
  cases r with
  | cons r1 r2 => cases r2 with | cons r2 r3 => cases r3 with | cons r3 r4 => cases r4; cases r1; cases r2; cases r3; exact SC.find3 (hQ _ _ (Ks.tok s _) (.int _ _) fun a e => by cases e)
theorem bf_startswith {x y : Str} : BFn w mg A (.builtin "str.startswith") [.str x, .str y] (.bool (Txt.startswith x y)) := .mk fun s E Q vs B r hQ => by
  cases r with
  | cons r1 r2 => cases r2 with | cons r2 r3 => cases r3; cases r1; cases r2; exact SC.startswith (hQ _ _ (Ks.rfl' s) (.bool _) fun a e => by cases e)
theorem bf_endswith {x y : Str} : BFn w mg A (.builtin "str.endswith") [.str x, .str y] (.bool (Txt.endswith x y)) := .mk fun s E Q vs B r hQ => by
  cases r with
  | cons r1 r2 => cases r2 with | cons r2 r3 => cases r3; cases r1; cases r2; exact SC.endswith (hQ _ _ (Ks.rfl' s) (.bool _) fun a e => by cases e)
theorem bf_upper {x : Str} (hfit : Builtin.Str.tooLong (Txt.upper x).length = false) : BFn w mg A (.builtin "str.upper") [.str x] (.str (Txt.upper x)) := .mk fun s E Q vs B r hQ => by
  cases r with
  | cons r1 r2 => cases r2; cases r1; exact SC.upper hfit (hQ _ _ (Ks.tok s _) (.str _ _) fun a e => by cases e)
theorem bf_lower {x : Str} (hfit : Builtin.Str.tooLong (Txt.lower x).length = false) : BFn w mg A (.builtin "str.lower") [.str x] (.str (Txt.lower x)) := .mk fun s E Q vs B r hQ => by
  cases r with
  | cons r1 r2 => cases r2; cases r1; exact SC.lower hfit (hQ _ _ (Ks.tok s _) (.str _ _) fun a e => by cases e)
theorem bf_join {x : Str} {ys : List Str} (hok : (ys.map (·.length)).sum + ys.length * x.length ≤ 16777216) : BFn w mg A (.builtin "str.join") [.str x, .list (ys.map .str)] (.str (Txt.join x ys)) := .mk fun s E Q vs B r hQ => by
  cases r with
  | cons r1 r2 => cases r2 with | cons r2 r3 =>
    cases r3; cases r1
    obtain ⟨a, vs, rfl, hl, hr⟩ := r2
    exact PyProof.Rows.join_list hl (readsAll_strs hr) hok fun t' k => hQ _ _ (Ks.tok s _) (.str _ _) fun a e => by cases e
theorem strValues_reads {h : Heap} : ∀ (l : List (Str × Tok)), ReadsAll h (strValues l) ((l.map (·.1)).map .str) []
  | [] => .nil
  | (x, t) :: r => .cons (as := []) (.str x t) (strValues_reads r)
theorem bf_split {x y : Str} (hy : (y.length == 0) = false) (hsz : x.length ≤ sizeLine) (hsz2 : (Builtin.Str.partsBetween x (Builtin.Str.occurrences x y 0 x.length (x.length + 1)) y.length).length ≤ sizeLine) : BFn w mg A (.builtin "str.split") [.str x, .str y] (.list ((Txt.split x y).map .str)) := .mk fun s E Q vs B r hQ => by
  cases r with
  | cons r1 r2 => cases r2 with | cons r2 r3 =>
    cases r3; cases r1; cases r2
    rename_i t u
    have fin : ∀ (l : List (Str × Tok)) (k : Nat), l.map (·.1) = Txt.split x y → Q (.ref s.heap.objs.size) { s with toks := k, heap := s.heap.push { cls := .type "list", data := .seq (strValues l).toArray } } := fun l k e =>
      hQ _ _ (Ks.push s _ k) ⟨_, _, rfl, ⟨_, Heap.get?_push_size _ rfl, rfl, _, rfl⟩, by rw [← e]; exact strValues_reads l⟩ (New.size _ _ rfl rfl rfl)
    cases h1 : (decide (x.length < y.length) || decide (Builtin.Str.strKind x < Builtin.Str.strKind y))
    · cases hf : (Builtin.Str.occurrences x y 0 x.length (x.length + 1)).isEmpty
      · refine call_meets F.slot_str_split (typeIs_str _ _ _) F.entry_str_split (F.args_str_split_2 _ _) (meets_str_split_sep x y t u h1 hy hf hsz hsz2) ?_
        show wants Q E _ { s with toks := _, heap := s.heap.push { cls := .type "list", data := .seq (strsFrom s.toks (Builtin.Str.partsBetween x (Builtin.Str.occurrences x y 0 x.length (x.length + 1)) y.length)).toArray } }
        rw [strsFrom_eq]
        exact fin _ _ ((numbered_texts _ _).trans ((if_neg (ne_true_of_eq_false h1)).trans (if_neg (ne_true_of_eq_false hf))).symm)
      · exact call_meets F.slot_str_split (typeIs_str _ _ _) F.entry_str_split (F.args_str_split_2 _ _) (meets_str_split_not_found x y t u h1 hy hf)
          (fin [(x, t)] _ ((if_neg (ne_true_of_eq_false h1)).trans (if_pos hf)).symm)
    · exact call_meets F.slot_str_split (typeIs_str _ _ _) F.entry_str_split (F.args_str_split_2 _ _) (meets_str_split_cannot_occur x y t u h1)
        (fin [(x, t)] _ (if_pos h1).symm)

/-- a method of a text -/
theorem ev_meth0 {o : PySem.Expr} {name : Str} {id : String} {apos pos : Pos} {x : Str} {d : DD} {f : Bool} (slot : Slot "str" name id) (ty : typeOf (.builtin id) = pure (.type "method_descriptor"))
    (ho : Ev w mg A env m o f (.str x)) (hf : BFn w mg A (.builtin id) [.str x] d)
    (hbase : nC0 o = true := by rfl)
    (hline : (apos.endLine == pos.line) = true := by decide) :
    Ev w mg A env m (.Call (.Attribute o name apos) [] [] pos) true d := .mk fun s E Q B R hQ => by
  refine wpAny_Call_method_lateS (base_ns hbase) rfl hline (ho.go s E _ B R fun ov s₁ k₁ r₁ _ => ?_)
  refine ⟨"str", id, F.plainAttrs_str, slot, ty, ?_, ?_, ?_⟩
  · cases r₁; exact typeIs_str _ _ _
  · cases r₁; exact fun _ e => nomatch e
  · exact callWith_builtin rfl (evalArgs_nil3 (hf.go s₁ E _ _ (B.keeps k₁.heap) (.cons r₁ .nil) fun v s₃ k₃ r₃ fr => hQ v s₃ (k₁.trans' k₃) r₃ fun _ => fr.back k₁))
theorem ev_meth {o : PySem.Expr} {name : Str} {id : String} {apos pos : Pos} {e : PySem.Expr} {es : List PySem.Expr} {x : Str} {ds : List DD} {d : DD} {f : Bool} (slot : Slot "str" name id) (ty : typeOf (.builtin id) = pure (.type "method_descriptor"))
    (ho : Ev w mg A env m o f (.str x)) (ha : Args w mg A env m (e :: es) ds) (hf : BFn w mg A (.builtin id) (.str x :: ds) d)
    (hbase : nC0 o = true := by rfl)
    (he : nSs (e :: es) = true := by rfl) (hl : (e :: es).length < 20 := by simp)
    (hline : (apos.endLine == pos.line) = true := by decide) :
    Ev w mg A env m (.Call (.Attribute o name apos) (e :: es) [] pos) true d := .mk fun s E Q B R hQ => by
  refine wpAny_Call_method_lateS (base_ns hbase) (backTo_few he hl) hline (ho.go s E _ B R fun ov s₁ k₁ r₁ _ => ?_)
  refine ⟨"str", id, F.plainAttrs_str, slot, ty, ?_, ?_, ?_⟩
  · cases r₁; exact typeIs_str _ _ _
  · cases r₁; exact fun _ e => nomatch e
  · refine callWith_builtin (backTo_any he) ?_
    have key : wpAny (model PW w) A (spliced (backTo pos (starEach (e :: es) env))) (fun vs s₂ => wpAny (model PW w) A (call (.builtin id) ([ov] ++ vs)) Q E s₂) E s₁ :=
      ha.go s₁ E _ pos (B.keeps k₁.heap) (R.keeps k₁.heap) fun vs s₂ k₂ r₂ =>
        hf.go s₂ E _ _ (B.keeps (k₁.trans' k₂).heap) (.cons (r₁.keeps k₂.heap) r₂) fun v s₃ k₃ r₃ fr => hQ v s₃ (k₁.trans' (k₂.trans' k₃)) r₃ fun _ => fr.back (k₁.trans' k₂)
    have he1 : nS e = true := (Bool.and_eq_true_iff.mp (show (nS e && nSs es) = true from he)).1
    rw [starEach_ns he1] at key ⊢
    exact evalArgs_plain key
end
end Mine

namespace Mine

theorem readsAll_get {h : Heap} : ∀ {vs : List Value} {ds : List DD} {as : List Addr} {i : Nat} {d : DD}, as = [] → ReadsAll h vs ds as → ds[i]? = some d → ∃ v, vs[i]? = some v ∧ Reads h v d []
  | _, _, _, i, d, _, .nil, e => by simp at e
  | _, _, _, 0, d, ha, .cons (v := v) h1 h2, e => by
    have := (List.append_eq_nil_iff.mp ha).1; subst this
    simp at e; subst e; exact ⟨v, by simp, h1⟩
  | _, _, _, i + 1, d, ha, .cons h1 h2, e => by
    have := (List.append_eq_nil_iff.mp ha).2
    obtain ⟨v, e1, e2⟩ := readsAll_get this h2 (by simpa using e)
    exact ⟨v, by simpa using e1, e2⟩
theorem readsAll_get' {h : Heap} {vs : List Value} {ds : List DD} {i : Nat} {v : Value} (r : ReadsAll h vs ds []) (e : vs[i]? = some v) : ∃ d, ds[i]? = some d ∧ Reads h v d [] := by
  have hl := readsAll_length r
  have hi : i < vs.length := (List.getElem?_eq_some_iff.mp e).1
  obtain ⟨u, e1, e2⟩ := readsAll_get rfl r (List.getElem?_eq_getElem (by omega : i < ds.length))
  rw [e] at e1; cases e1
  exact ⟨_, List.getElem?_eq_getElem _, e2⟩
theorem readsAll_append {h : Heap} : ∀ {vs us : List Value} {ds es : List DD}, ReadsAll h vs ds [] → ReadsAll h us es [] → ReadsAll h (vs ++ us) (ds ++ es) [] := by
  intro vs us ds es h1 h2
  generalize ha : ([] : List Addr) = as at h1
  induction vs generalizing ds as with
  | nil => cases h1; exact h2
  | cons v vs ih =>
    cases h1 with
    | cons a b =>
      obtain ⟨e1, e2⟩ := List.append_eq_nil_iff.mp ha.symm
      subst e1; subst e2
      exact .cons (as := []) a (ih _ rfl b)
theorem readsAll_take {h : Heap} : ∀ (n : Nat) {vs : List Value} {ds : List DD}, ReadsAll h vs ds [] → ReadsAll h (vs.take n) (ds.take n) [] := by
  intro n vs ds h1
  generalize ha : ([] : List Addr) = as at h1
  induction vs generalizing ds as n with
  | nil => cases h1; simp; exact .nil
  | cons v vs ih =>
    cases h1 with
    | cons a b =>
      obtain ⟨e1, e2⟩ := List.append_eq_nil_iff.mp ha.symm
      subst e1; subst e2
      cases n with
      | zero => simp; exact .nil
      | succ n => simp only [List.take_succ_cons]; exact .cons (as := []) a (ih n _ rfl b)
theorem readsAll_drop {h : Heap} : ∀ (n : Nat) {vs : List Value} {ds : List DD}, ReadsAll h vs ds [] → ReadsAll h (vs.drop n) (ds.drop n) [] := by
  intro n vs ds h1
  generalize ha : ([] : List Addr) = as at h1
  induction vs generalizing ds as n with
  | nil => cases h1; simp; exact .nil
  | cons v vs ih =>
    cases h1 with
    | cons a b =>
      obtain ⟨e1, e2⟩ := List.append_eq_nil_iff.mp ha.symm
      subst e1; subst e2
      cases n with
      | zero => exact .cons (as := []) a b
      | succ n => simp only [List.drop_succ_cons]; exact ih n _ rfl b

section
variable {w : World} {mg : Str → Option Value} {A : Around} {env : Env} {m : List (Str × DD)}

theorem reads_rep {h : Heap} {v : Value} {d : DD} (r : Reads h v d []) : Rep w h v d := by
  cases d with
  | list ds => cases r
  | dict D => cases r
  | _ => exact r

/-- a subscript -/
theorem ev_sub {o i : PySem.Expr} {pos : Pos} {f g : Bool} {d₁ d₂ d : DD} (h₁ : Ev w mg A env m o f d₁) (h₂ : Ev w mg A env m i g d₂)
    (ho : ∀ (s : Shared) (v₁ v₂ : Value) (E Q : Value → Shared → Prop), Bs w mg s.heap → Rep w s.heap v₁ d₁ → Rep w s.heap v₂ d₂ → (∀ v s', Ks s s' → Rep w s'.heap v d → Q v s') → wpAny (model PW w) A (subscriptTail o i v₁ v₂) Q E s) :
    Ev w mg A env m (.Subscript o i pos) false d := .mk fun s E Q B R hQ =>
  Subscript_ (h₁.go s E _ B R fun v₁ s₁ k₁ r₁ _ => h₂.go s₁ E _ (B.keeps k₁.heap) (R.keeps k₁.heap) fun v₂ s₂ k₂ r₂ _ =>
    ho s₂ v₁ v₂ E _ (B.keeps (k₁.trans' k₂).heap) (r₁.keeps k₂.heap) r₂ fun v s₃ k₃ r₃ => hQ v s₃ (k₁.trans' (k₂.trans' k₃)) r₃ fun e => by cases e)

def PlainSub (i : PySem.Expr) : Prop := ∀ o v, subscripted i false o v = operate [o, v] (getItem o v)

theorem ev_itemS {o i : PySem.Expr} {pos : Pos} {f g : Bool} {x : Str} {k : Int} (h₁ : Ev w mg A env m o f (.str x)) (h₂ : Ev w mg A env m i g (.int k)) (h0 : -(x.length : Int) ≤ k) (h1 : k < x.length) (hx : x.length ≤ 1000000)
    (hs : PlainSub i := by intro _ _; rfl) : Ev w mg A env m (.Subscript o i pos) false (.str (Txt.item x k)) :=
  ev_sub h₁ h₂ fun s v₁ v₂ E Q B r₁ r₂ hQ => by
    cases r₁; cases r₂
    refine tail_any (typeIs_str _ _ _) F.slot_str_getitem.lookup ?_ (hs _ _)
    obtain ⟨T, id, _, _, hg⟩ := SB.item (prog := PW) (w := w) (A := A) (E := E) (s := s) (x := x) (i := k) (Q := Q) (t := _) (u := _) (by unfold fitsSsize; simp only [Bool.not_eq_true', Bool.or_eq_false_iff, decide_eq_false_iff_not]; omega) (charAt_isSome h0 h1) (hQ _ _ (Ks.tok s _) (.str _ _))
    exact hg
theorem ev_itemL {o i : PySem.Expr} {pos : Pos} {f g : Bool} {ds : List DD} {k : Int} {d : DD} (h₁ : Ev w mg A env m o f (.list ds)) (h₂ : Ev w mg A env m i g (.int k)) (h0 : 0 ≤ k) (hd : ds[k.toNat]? = some d) (hx : ds.length ≤ 1000000)
    (hs : PlainSub i := by intro _ _; rfl) : Ev w mg A env m (.Subscript o i pos) false d :=
  ev_sub h₁ h₂ fun s v₁ v₂ E Q B r₁ r₂ hQ => by
    cases r₂
    obtain ⟨a, vs, rfl, hl, hr⟩ := r₁
    obtain ⟨v, e1, e2⟩ := readsAll_get rfl hr hd
    have := (List.getElem?_eq_some_iff.mp hd).1
    exact tail_any hl.typeIs F.slot_list_getitem.lookup (wpAny_getItem_list hl h0 (by omega) (by simpa using e1) (hQ v s (Ks.rfl' s) (reads_rep e2))) (hs _ _)
theorem ev_itemLast {o i : PySem.Expr} {pos : Pos} {f g : Bool} {ds : List DD} {d : DD} (h₁ : Ev w mg A env m o f (.list ds)) (h₂ : Ev w mg A env m i g (.int (-1))) (hd : ds.getLast? = some d) (hx : ds.length ≤ 1000000)
    (hs : PlainSub i := by intro _ _; rfl) : Ev w mg A env m (.Subscript o i pos) false d :=
  ev_sub h₁ h₂ fun s v₁ v₂ E Q B r₁ r₂ hQ => by
    cases r₂
    obtain ⟨a, vs, rfl, hl, hr⟩ := r₁
    rw [List.getLast?_eq_getElem?] at hd
    obtain ⟨v, e1, e2⟩ := readsAll_get rfl hr hd
    have hi := (List.getElem?_eq_some_iff.mp hd).1
    have e := readsAll_length hr
    have e' : vs.size = ds.length := by rw [← e]; simp
    exact tail_any hl.typeIs F.slot_list_getitem.lookup (wpAny_getItem_list_neg hl (by omega) (by rw [e']; omega) (by omega) (by
      rw [e', show ((-1 : Int) + (ds.length : Int)).toNat = ds.length - 1 by omega]; simpa using e1) (hQ v s (Ks.rfl' s) (reads_rep e2))) (hs _ _)
theorem ev_itemT {o i : PySem.Expr} {pos : Pos} {f g : Bool} {ds : List DD} {k : Int} {d : DD} (h₁ : Ev w mg A env m o f (.tuple ds)) (h₂ : Ev w mg A env m i g (.int k)) (h0 : 0 ≤ k) (hd : ds[k.toNat]? = some d) (hx : ds.length ≤ 1000000)
    (hs : PlainSub i := by intro _ _; rfl) : Ev w mg A env m (.Subscript o i pos) false d :=
  ev_sub h₁ h₂ fun s v₁ v₂ E Q B r₁ r₂ hQ => by
    cases r₂
    cases r₁ with
    | tuple h1 h2 h3 h4 =>
      rename_i a ob vs n
      obtain ⟨v, e1, e2⟩ := readsAll_get rfl h4 hd
      have hi := (List.getElem?_eq_some_iff.mp hd).1
      have e := readsAll_length h4
      have e' : vs.size = ds.length := by rw [← e]; simp
      have ht : IsTup s.heap a vs := ⟨_, h1, h2, _, h3⟩
      refine tail_any ht.typeIs PySem.F.slot_tuple_getitem.lookup (PyProof.Rows.getItem_tuple (j := k.toNat) ht (by omega) (by omega) ?_ (by simpa using e1) (hQ v s (Ks.rfl' s) (reads_rep e2))) (hs _ _)
      unfold seqIndex?
      rw [e']
      simp only [show ¬ k < 0 by omega, if_false]
      simp; omega
theorem ev_itemD {o i : PySem.Expr} {pos : Pos} {f g : Bool} {D : List (PyData × PyData)} {x : Str} {b : Bool} (h₁ : Ev w mg A env m o f (.dict D)) (h₂ : Ev w mg A env m i g (.str x)) (hD : AllStr D) (hl : PySem.Spec.lookup (.str x) D = some (.bool b))
    (hs : PlainSub i := by intro _ _; rfl) : Ev w mg A env m (.Subscript o i pos) false (.bool b) :=
  ev_sub h₁ h₂ fun s v₁ v₂ E Q B r₁ r₂ hQ => by
    cases r₂
    obtain ⟨a, rfl, _, t1, _⟩ := r₁
    have T := t1 hD
    have hT : s.TypeIs (.ref a) "dict" := by
      obtain ⟨_, kvs, hd, _⟩ := T
      exact hd.typeIs
    refine tail_any hT F.slot_dict_getitem.lookup (getItem_tab same_str (strKind_is PW w x _) T hl fun v hv => ?_) (hs _ _)
    refine hQ v _ (Ks.tok s _) ?_
    have := hv s.heap
    cases this
    exact .bool b

/-- a slice -/
structure EvP (w : World) (mg : Str → Option Value) (A : Around) (env : Env) (m : List (Str × DD)) (e : Option PySem.Expr) (i : Option Int) : Prop where
  mk ::
  go : ∀ (s : Shared) (E : Value → Shared → Prop) (Q : Value → Shared → Prop), Bs w mg s.heap → Rd w env m s.heap →
    (∀ v s', Ks s s' → IsPart v i → Q v s') → wpAny (model PW w) A (evalPart e env) Q E s
theorem evp_none : EvP w mg A env m none none := .mk fun s E Q B R hQ => evalPart_none_step (hQ _ s (Ks.rfl' s) .none)
theorem evp_some {e : PySem.Expr} {f : Bool} {i : Int} (h : Ev w mg A env m e f (.int i)) : EvP w mg A env m (some e) (some i) := .mk fun s E Q B R hQ =>
  evalPart_some_step (h.go s E _ B R fun v s₁ k r _ => by cases r; exact hQ _ s₁ k (.int _ _))

theorem ev_sliceS {o : PySem.Expr} {l u : Option PySem.Expr} {p pos : Pos} {f : Bool} {x : Str} {lo hi : Option Int} (h₁ : Ev w mg A env m o f (.str x)) (hl : EvP w mg A env m l lo) (hu : EvP w mg A env m u hi) (hx : x.length ≤ sizeLine) :
    Ev w mg A env m (.Subscript o (.Slice l u none p) pos) true (.str (Txt.slice x lo hi)) := .mk fun s E Q B R hQ =>
  Subscript_ (h₁.go s E _ B R fun v₁ s₁ k₁ r₁ _ => wpAny_Slice (hl.go s₁ E _ (B.keeps k₁.heap) (R.keeps k₁.heap) fun vl s₂ k₂ pl =>
    have k12 := k₁.trans' k₂
    hu.go s₂ E _ (B.keeps k12.heap) (R.keeps k12.heap) fun vu s₃ k₃ pu => evalPart_none_step (by
      have k13 := k12.trans' k₃
      cases r₁
      rename_i t
      refine tail_any (typeIs_str _ _ _) F.slot_str_getitem.lookup ?_ rfl
      have fin : ∀ t' k, Q (.str (Txt.slice x lo hi) t') { s₃ with heap := s₃.heap.push { cls := .type "slice", data := .fields #[vl, vu, .none] }, toks := k } := fun t' k =>
        hQ _ _ (k13.trans' (Ks.push s₃ _ k)) (.str _ _) fun _ a e => by cases e
      cases pl <;> cases pu
      · exact wpAny_getItem_str_slice (l := none) (u := none) (st := none) ⟨_, Heap.get?_push_size _ rfl, rfl, rfl⟩ rfl (post_val_or_str ⟨Nat.le_trans (Txt.slice_le x _ _) hx, fin⟩)
      · exact wpAny_getItem_str_slice (l := none) (u := some (_, _)) (st := none) ⟨_, Heap.get?_push_size _ rfl, rfl, rfl⟩ rfl (post_val_or_str ⟨Nat.le_trans (Txt.slice_le x _ _) hx, fin⟩)
      · exact wpAny_getItem_str_slice (l := some (_, _)) (u := none) (st := none) ⟨_, Heap.get?_push_size _ rfl, rfl, rfl⟩ rfl (post_val_or_str ⟨Nat.le_trans (Txt.slice_le x _ _) hx, fin⟩)
      · exact wpAny_getItem_str_slice (l := some (_, _)) (u := some (_, _)) (st := none) ⟨_, Heap.get?_push_size _ rfl, rfl, rfl⟩ rfl (post_val_or_str ⟨Nat.le_trans (Txt.slice_le x _ _) hx, fin⟩))))

/-- what a slice of a list takes -/
def pickD (ds : List DD) (lo hi : Option Int) : List DD := (sliceRange (sliceBounds lo hi none ds.length).1 (sliceBounds lo hi none ds.length).2.1 (sliceBounds lo hi none ds.length).2.2).filterMap (ds[·]?)
theorem readsAll_filterMap {h : Heap} {vs : Array Value} {ds : List DD} (r : ReadsAll h vs.toList ds []) : ∀ js : List Nat, ReadsAll h (js.filterMap (vs[·]?)) (js.filterMap (ds[·]?)) []
  | [] => .nil
  | j :: js => by
    have ih := readsAll_filterMap r js
    have hl := readsAll_length r
    have hl' : vs.size = ds.length := by rw [← hl]; simp
    by_cases hj : j < ds.length
    · obtain ⟨v, e1, e2⟩ := readsAll_get rfl r (List.getElem?_eq_getElem hj)
      have e1' : vs[j]? = some v := by simpa using e1
      rw [List.filterMap_cons_some e1', List.filterMap_cons_some (List.getElem?_eq_getElem hj)]
      exact .cons (as := []) e2 ih
    · have e1 : vs[j]? = none := by simp; omega
      have e2 : ds[j]? = none := by simp; omega
      rw [List.filterMap_cons_none e1, List.filterMap_cons_none e2]
      exact ih

theorem ev_sliceL {o : PySem.Expr} {l u : Option PySem.Expr} {p pos : Pos} {f : Bool} {ds : List DD} {lo hi : Option Int} (h₁ : Ev w mg A env m o f (.list ds)) (hl : EvP w mg A env m l lo) (hu : EvP w mg A env m u hi) (hx : ds.length ≤ sizeLine) :
    Ev w mg A env m (.Subscript o (.Slice l u none p) pos) true (.list (pickD ds lo hi)) := .mk fun s E Q B R hQ =>
  Subscript_ (h₁.go s E _ B R fun v₁ s₁ k₁ r₁ _ => wpAny_Slice (hl.go s₁ E _ (B.keeps k₁.heap) (R.keeps k₁.heap) fun vl s₂ k₂ pl =>
    have k12 := k₁.trans' k₂
    hu.go s₂ E _ (B.keeps k12.heap) (R.keeps k12.heap) fun vu s₃ k₃ pu => evalPart_none_step (by
      have k13 := k12.trans' k₃
      obtain ⟨a, vs, rfl, hL, hr⟩ := r₁.keeps (k₂.trans' k₃).heap
      have e := readsAll_length hr
      have e' : vs.size = ds.length := by rw [← e]; simp
      refine tail_any (Heap.IsList.typeIs (s := { s₃ with heap := s₃.heap.push { cls := .type "slice", data := .fields #[vl, vu, .none] } }) (hL.push _)) list_getitem_lookup
        (wpAny_getItem_list_slice (hL.push _) (Heap.IsSliceOf.new ..) pl pu .none (by simp) ?_ (by rw [e']; exact hx)) rfl
      have hk : Ks s₃ { s₃ with heap := (s₃.heap.push { cls := .type "slice", data := .fields #[vl, vu, .none] }).push { cls := .type "list", data := .seq (slicePick vs lo hi none) } } :=
        Ks.of s₃ _ s₃.toks fun b o e => Heap.get?_push_of_some _ (Heap.get?_push_of_some _ e)
      refine hQ _ _ (k13.trans' hk) ⟨_, _, rfl, ⟨_, Heap.get?_push_size _ rfl, rfl, _, rfl⟩, ?_⟩ fun _ => ?_
      · unfold slicePick pickD
        rw [e']
        exact ReadsAll.keeps (fun b o e => Heap.get?_push_of_some _ (Heap.get?_push_of_some _ e)) (readsAll_filterMap hr _)
      · refine New.back ?_ (k13.trans' (Ks.push s₃ { cls := .type "slice", data := .fields #[vl, vu, .none] } s₃.toks))
        exact New.size _ _ rfl rfl rfl)))

/-- displays -/
theorem repL_readsAll {h : Heap} {vs : List Value} {ds : List DD} (hd : ∀ d ∈ ds, (∀ l, d ≠ .list l) ∧ ∀ D, d ≠ .dict D) (r : RepL w h vs ds) : ReadsAll h vs ds [] := by
  induction r with
  | nil => exact .nil
  | @cons v vs d ds h1 h2 ih =>
    refine .cons (as := []) ?_ (ih fun d hm => hd d (List.mem_cons_of_mem _ hm))
    have := hd _ List.mem_cons_self
    cases d with
    | list l => exact absurd rfl (this.1 l)
    | dict D => exact absurd rfl (this.2 D)
    | _ => exact h1
theorem repL_length {h : Heap} {vs : List Value} {ds : List DD} (r : RepL w h vs ds) : vs.length = ds.length := by
  induction r with
  | nil => rfl
  | cons _ _ ih => rw [List.length_cons, List.length_cons, ih]
def Flats (ds : List DD) : Prop := ∀ d ∈ ds, (∀ l, d ≠ .list l) ∧ ∀ D, d ≠ .dict D
theorem ev_list {es : List PySem.Expr} {pos : Pos} {ds : List DD} (h : Args w mg A env m es ds) (hf : Flats ds) (hl : ds.length ≤ sizeLine) : Ev w mg A env m (.List es pos) true (.list ds) := .mk fun s E Q B R hQ =>
  List_ (h.go s E _ pos B R fun vs s₁ k₁ r₁ => wpAny_newList (hQ _ _ (k₁.trans' (Ks.push s₁ _ s₁.toks)) ⟨_, _, rfl, ⟨_, Heap.get?_push_size _ rfl, rfl, _, rfl⟩,
    ReadsAll.keeps (fun b o e => Heap.get?_push_of_some _ e) (by simpa using repL_readsAll hf r₁)⟩ fun _ => (New.size _ _ rfl rfl rfl).back k₁) (by rw [repL_length r₁]; exact hl))
theorem ev_tuple {es : List PySem.Expr} {n : Nat} {pos : Pos} {ds : List DD} (h : Args w mg A env m es ds) (hf : Flats ds) (hl : ds.length ≤ sizeLine) : Ev w mg A env m (.Tuple es n pos) true (.tuple ds) := .mk fun s E Q B R hQ =>
  Tuple_ (h.go s E _ pos B R fun vs s₁ k₁ r₁ => wpAny_newTuple (hQ _ _ (k₁.trans' (Ks.push s₁ _ s₁.toks)) (by
    refine Reads.tuple (as := []) (Heap.get?_push_size _ rfl) rfl rfl ?_
    exact ReadsAll.keeps (fun b o e => Heap.get?_push_of_some _ e) (by simpa using repL_readsAll hf r₁)) fun _ => (New.size _ _ rfl rfl rfl).back k₁) (by rw [repL_length r₁]; exact hl))
theorem ev_addL {l r : PySem.Expr} {pos : Pos} {f₁ f₂ : Bool} {a b : List DD} (h₁ : Ev w mg A env m l f₁ (.list a)) (h₂ : Ev w mg A env m r f₂ (.list b)) (hs : a.length + b.length ≤ sizeLine) : Ev w mg A env m (.BinOp l .Add r pos) true (.list (a ++ b)) :=
  ev_bin h₁ h₂ fun s v₁ v₂ E Q _ r₁ r₂ hQ => by
    obtain ⟨x, vs, rfl, ⟨o, ho, hc, n, hd⟩, hr⟩ := r₁
    obtain ⟨y, us, rfl, ⟨o2, ho2, hc2, n2, hd2⟩, hr2⟩ := r₂
    obtain ⟨cls, dd, data, sl⟩ := o
    obtain ⟨cls2, dd2, data2, sl2⟩ := o2
    simp only at hc hd hc2 hd2
    subst hc hd hc2 hd2
    have e1 : vs.size = a.length := by rw [← readsAll_length hr]; simp
    have e2 : us.size = b.length := by rw [← readsAll_length hr2]; simp
    refine concat_meets ⟨_, ho, rfl⟩ ⟨_, ho2, rfl⟩ noFill_list_add seq_list_add PySem.F.slot_list_add PySem.F.entry_list_add (PySem.F.args_list_add_2 _ _) (list_addW x y vs us n n2 dd dd2 sl sl2 (by rw [e1, e2]; exact hs)) ⟨ho, ho2, ?_⟩
    exact hQ _ _ (Ks.push s _ s.toks) ⟨_, _, rfl, ⟨_, Heap.get?_push_size _ rfl, rfl, _, rfl⟩, ReadsAll.keeps (fun b o e => Heap.get?_push_of_some _ e) (by simpa using readsAll_append hr hr2)⟩ (New.size _ _ rfl rfl rfl)
end
end Mine

namespace Mine

def vr (env : Env) (mm cm : Str → Option Value) (x : Str) : Option Value :=
  if env.kindOf x = some .local then mm x else if env.kindOf x = some .cell ∧ (env.cells.lookup x).isSome = true then cm x else none
def NotFrame (env : Env) (a : Addr) : Prop := a ≠ env.locals ∧ ∀ n c, env.cells.lookup n = some c → a ≠ c

structure Fv (w : World) (s₀ : Shared) (env : Env) (m : List (Str × DD)) (own : List Str) (R : List (Addr × Obj)) (mm cm : Str → Option Value) (s : Shared) : Prop where
  ic : InCallC s₀ env.locals mm env.cells cm s
  vars : ∀ x d, m.lookup x = some d → ∃ v, vr env mm cm x = some v ∧ Rep w s.heap v d ∧ ∀ a, v = .ref a → NotFrame env a
  own : ∀ x ∈ own, ∃ a, vr env mm cm x = some (.ref a) ∧ s₀.heap.get? a = none ∧ NotFrame env a ∧ (∃ o, s.heap.get? a = some o ∧ (o.cls = .type "list" ∨ o.cls = .type "dict") ∧ o.dict = none ∧ o.slots = #[]) ∧ (∀ p ∈ R, p.1 ≠ a) ∧
    ∀ y d, y ≠ x → m.lookup y = some d → ∀ v, vr env mm cm y = some v → v ≠ .ref a
  prot : ∀ p ∈ R, s.heap.get? p.1 = some p.2 ∧ NotFrame env p.1

/-- a frame: what its names hold; own: names of made objects; R: objects that must stay -/
def Fx (w : World) (s₀ : Shared) (env : Env) (m : List (Str × DD)) (own : List Str) (R : List (Addr × Obj)) (s : Shared) : Prop := ∃ mm cm, Fv w s₀ env m own R mm cm s

def Sb (m' m : List (Str × DD)) : Prop := ∀ x d, m'.lookup x = some d → m.lookup x = some d

section
variable {w : World} {s₀ : Shared} {env : Env} {m m' : List (Str × DD)} {own own' : List Str} {R R' : List (Addr × Obj)} {s s' : Shared}

theorem Fx.weaken (F : Fx w s₀ env m own R s) (hm : Sb m' m) (ho : ∀ x ∈ own', x ∈ own) (hR : ∀ p ∈ R', p ∈ R) : Fx w s₀ env m' own' R' s := by
  obtain ⟨mm, cm, F⟩ := F
  refine ⟨mm, cm, F.ic, fun x d e => F.vars x d (hm x d e), fun x hx => ?_, fun p hp => F.prot p (hR p hp)⟩
  obtain ⟨a, h1, h2, h3, h4, h5, h6⟩ := F.own x (ho x hx)
  exact ⟨a, h1, h2, h3, h4, fun p hp => h5 p (hR p hp), fun y d hy e => h6 y d hy (hm y d e)⟩

theorem InCallC.keeps' {L : Addr} {mm cm : Str → Option Value} {cs : List (Str × Addr)} (x : InCallC s₀ L mm cs cm s) (k : Ks s s') : InCallC s₀ L mm cs cm s' := by
  obtain ⟨⟨h, t, rfl⟩, kh⟩ := k
  obtain ⟨⟨h0, t0, e0⟩, a2, a3, a4⟩ := x.toInCall
  exact ⟨⟨⟨h, t, by rw [e0]⟩, a2.keeps kh, fun b o e => kh _ _ (a3 b o e), a4⟩, fun n c hc => (x.cell n c hc).keeps kh, x.apart, x.above⟩

theorem Fx.keeps (F : Fx w s₀ env m own R s) (k : Ks s s') : Fx w s₀ env m own R s' := by
  obtain ⟨mm, cm, F⟩ := F
  refine ⟨mm, cm, InCallC.keeps' F.ic k, fun x d e => ?_, fun x hx => ?_, fun p hp => ⟨k.heap _ _ (F.prot p hp).1, (F.prot p hp).2⟩⟩
  · obtain ⟨v, h1, h2, h3⟩ := F.vars x d e
    exact ⟨v, h1, h2.keeps k.heap, h3⟩
  · obtain ⟨a, h1, h2, h3, ⟨o, ho, h4⟩, h5, h6⟩ := F.own x hx
    exact ⟨a, h1, h2, h3, ⟨o, k.heap _ _ ho, h4⟩, h5, h6⟩

theorem Fv.var {mm cm : Str → Option Value} (F : Fv w s₀ env m own R mm cm s) {x : Str} {v : Value} (e : vr env mm cm x = some v) : VarIs env s.heap x v := by
  unfold vr at e
  by_cases h1 : env.kindOf x = some .local
  · rw [if_pos h1] at e; exact .inl ⟨h1, mm, F.ic.toInCall.ns, e⟩
  · rw [if_neg h1] at e
    by_cases h2 : env.kindOf x = some .cell ∧ (env.cells.lookup x).isSome = true
    · rw [if_pos h2] at e
      obtain ⟨c, hc⟩ := Option.isSome_iff_exists.mp h2.2
      exact .inr ⟨h2.1, c, hc, e ▸ F.ic.cell x c hc⟩
    · rw [if_neg h2] at e; cases e

theorem Fx.rd (F : Fx w s₀ env m own R s) : Rd w env m s.heap := fun x d e => by
  obtain ⟨mm, cm, F⟩ := F
  obtain ⟨v, h1, h2, _⟩ := F.vars x d e
  exact ⟨v, F.var h1, h2⟩
theorem Fx.same (F : Fx w s₀ env m own R s) : Ks s₀ s := by
  obtain ⟨mm, cm, F⟩ := F
  obtain ⟨h, t, e⟩ := F.ic.toInCall.same
  exact ⟨⟨h, t, e⟩, F.ic.toInCall.keep⟩
theorem Fx.bs {mg} (F : Fx w s₀ env m own R s) (B : Bs w mg s₀.heap) : Bs w mg s.heap := B.keeps F.same.heap

theorem noTup_ns {h : Heap} {L : Addr} {mm : Str → Option Value} (hn : h.Ns L mm) : NoTup h L := fun o vs n e _ hd => by
  obtain ⟨o', es, ep, e', d', _⟩ := hn
  rw [e] at e'; cases e'; rw [hd] at d'; cases d'
theorem noTup_cell {h : Heap} {c : Addr} {v : Option Value} (hn : h.IsCell c v) : NoTup h c := fun o vs n e _ hd => by
  obtain ⟨o', e', d'⟩ := hn
  rw [e] at e'; cases e'; rw [hd] at d'; cases d'

theorem Fv.tupNF {mm cm : Str → Option Value} (F : Fv w s₀ env m own R mm cm s) {a : Addr} (h : ¬ NoTup s.heap a) : NotFrame env a :=
  ⟨fun q => h (q ▸ noTup_ns F.ic.toInCall.ns), fun k c hc q => h (q ▸ noTup_cell (F.ic.cell k c hc))⟩

/-- a value may be stored without making a second way to an own object -/
def Apart (env : Env) (mm cm : Str → Option Value) (own : List Str) (v : Value) : Prop :=
  (∀ a, v = .ref a → NotFrame env a) ∧ ∀ x ∈ own, vr env mm cm x ≠ some v

theorem not_noTup_of_reads {h : Heap} {a : Addr} {d : DD} (r : Reads h (.ref a) d []) : ¬ NoTup h a := by
  generalize hv : Value.ref a = v at r
  generalize ha : ([] : List Addr) = as at r
  cases r with
  | tuple h1 h2 h3 h4 => cases hv; exact fun q => q _ _ _ h1 h2 h3
  | list h1 h2 h3 h4 => cases ha
  | dict h1 h2 h3 h4 h5 => cases ha
  | _ => cases hv

/-- an immutable value is apart -/
theorem Fv.apart {mm cm : Str → Option Value} (F : Fv w s₀ env m own R mm cm s) {v : Value} {d : DD} (r : Reads s.heap v d []) : Apart env mm cm own v := by
  refine ⟨fun a e => ?_, fun x hx e => ?_⟩
  · subst e; exact F.tupNF (not_noTup_of_reads r)
  · obtain ⟨a, h1, _, _, ⟨o, ho, hc, _⟩, _⟩ := F.own x hx
    rw [h1] at e
    cases e
    exact not_noTup_of_reads r fun o' vs n e' hc' => by rw [ho] at e'; cases e'; rw [hc'] at hc; rcases hc with q | q <;> simp at q
theorem Fv.lt {mm cm : Str → Option Value} (F : Fv w s₀ env m own R mm cm s) : env.locals < s.heap.objs.size := F.ic.toInCall.ns.lt
/-- what is new at s' against s is apart -/
theorem Fv.newApart {mm cm : Str → Option Value} (F : Fv w s₀ env m own R mm cm s) {v : Value} (n : ∀ a, v = .ref a → s.heap.get? a = none) : Apart env mm cm own v := by
  refine ⟨fun a e => ⟨fun q => ?_, fun k c hc q => ?_⟩, fun x hx e => ?_⟩
  · obtain ⟨o, _, _, ho, _⟩ := F.ic.toInCall.ns
    have := n a e; rw [q, ho] at this; cases this
  · obtain ⟨o, ho, _⟩ := F.ic.cell k c hc
    have := n a e; rw [q, ho] at this; cases this
  · obtain ⟨a, h1, _, _, ⟨o, ho, _⟩, _⟩ := F.own x hx
    rw [h1] at e; cases e
    have := n a rfl; rw [ho] at this; cases this

def KindOk (env : Env) (x : Str) : Prop := env.kindOf x = some .local ∨ (env.kindOf x = some .cell ∧ (env.cells.lookup x).isSome = true)

def drop1 (x : Str) (own : List Str) : List Str := own.filter (· != x)
theorem mem_drop1 {x y : Str} {own : List Str} (h : y ∈ drop1 x own) : y ∈ own ∧ y ≠ x := by
  unfold drop1 at h
  obtain ⟨a, b⟩ := List.mem_filter.mp h
  exact ⟨a, by simpa using b⟩

theorem Ks.ofSame {s₁ : Shared} {P : Addr} {h : Heap} {t : Nat} (hs : Heap.SameBut P s₁.heap h) : ∀ b o, b ≠ P → s₁.heap.get? b = some o → h.get? b = some o := fun b o hb e => hs.extBut b o hb e

/-- the frame's map after a store -/
def setm (env : Env) (x : Str) (v : Value) (k : NameKind) (m : Str → Option Value) : Str → Option Value := if env.kindOf x = some k then fun y => if y = x then some v else m y else m
theorem vr_store {mm cm : Str → Option Value} {x : Str} {v : Value} (hk : KindOk env x) (y : Str) :
    vr env (setm env x v .local mm) (setm env x v .cell cm) y = if y = x then some v else vr env mm cm y := by
  unfold vr setm
  rcases hk with h | ⟨h, hc⟩
  · have h' : ¬ (some NameKind.local = some NameKind.cell) := by decide
    rw [h]
    simp only [if_true, if_neg h']
    by_cases hy : y = x
    · subst hy; simp [h]
    · simp [hy]
  · have h' : ¬ (some NameKind.cell = some NameKind.local) := by decide
    rw [h]
    simp only [if_true, if_neg h']
    by_cases hy : y = x
    · subst hy; simp [h, hc]
    · simp [hy]

theorem Fv.stored {mm cm : Str → Option Value} (F : Fv w s₀ env m own R mm cm s) {x : Str} {v : Value} {d : DD} {P : Addr} (hk : KindOk env x) (hks : s'.heap.objs.size = s'.heap.objs.size)
    (hP : NoTup s.heap P) (hPF : P = env.locals ∨ ∃ c, env.cells.lookup x = some c ∧ P = c)
    (ic : InCallC s₀ env.locals (setm env x v .local mm) env.cells (setm env x v .cell cm) s') (hh : ∀ b o, b ≠ P → s.heap.get? b = some o → s'.heap.get? b = some o)
    (r : Rep w s.heap v d) (ap : Apart env mm cm (drop1 x own) v) : Fv w s₀ env ((x, d) :: m) (drop1 x own) R (setm env x v .local mm) (setm env x v .cell cm) s' := by
  have nP : ∀ a, NotFrame env a → a ≠ P := fun a ha => by
    rcases hPF with rfl | ⟨c, hc, rfl⟩
    · exact ha.1
    · exact ha.2 _ _ hc
  refine ⟨ic, fun y d' e => ?_, fun y hy => ?_, fun p hp => ⟨hh _ _ (nP _ (F.prot p hp).2) (F.prot p hp).1, (F.prot p hp).2⟩⟩
  · rw [vr_store hk]
    by_cases hyx : y = x
    · subst hyx
      simp only [List.lookup_cons, beq_self_eq_true, Option.some.injEq] at e
      subst e
      exact ⟨v, by simp, r.but hP hh (fun q => nP P (ap.1 P q) rfl), ap.1⟩
    · have hb : (y == x) = false := by simpa using hyx
      simp only [List.lookup_cons, hb] at e
      obtain ⟨u, h1, h2, h3⟩ := F.vars y d' e
      exact ⟨u, by rw [if_neg hyx]; exact h1, h2.but hP hh (fun q => nP P (h3 P q) rfl), h3⟩
  · obtain ⟨hyo, hyx⟩ := mem_drop1 hy
    obtain ⟨a, h1, h2, h3, ⟨o, ho, h4⟩, h5, h6⟩ := F.own y hyo
    refine ⟨a, by rw [vr_store hk, if_neg hyx]; exact h1, h2, h3, ⟨o, hh _ _ (nP a h3) ho, h4⟩, h5, fun z d' hz e u hu => ?_⟩
    rw [vr_store hk] at hu
    by_cases hzx : z = x
    · rw [if_pos hzx] at hu
      cases hu
      exact fun q => ap.2 y hy (by rw [h1, q])
    · rw [if_neg hzx] at hu
      have hb : (z == x) = false := by simpa using hzx
      simp only [List.lookup_cons, hb] at e
      exact h6 z d' hz e u hu

theorem fx_store {M : Model} {A : Around} {E : Value → Shared → Prop} {Q : Unit → Shared → Prop} {x : Str} {v : Value} {d : DD} (ok : EnvOk env) (hk : KindOk env x) {mm cm : Str → Option Value} (F : Fv w s₀ env m own R mm cm s) (r : Rep w s.heap v d)
    (ap : Apart env mm cm (drop1 x own) v) (hQ : ∀ s' mm' cm', Fv w s₀ env ((x, d) :: m) (drop1 x own) R mm' cm' s' → (∀ y, vr env mm' cm' y = if y = x then some v else vr env mm cm y) → (∀ b o, s.heap.get? b = some o → b ≠ env.locals → (∀ c, env.cells.lookup x = some c → b ≠ c) → s'.heap.get? b = some o) → Q () s') : wpAny M A (storeName env x v) Q E s := by
  have hk' := hk
  rcases hk with h | ⟨h, hc⟩
  · have h' : ¬ (some NameKind.local = some NameKind.cell) := by decide
    refine wpAny_storeName_local h F.ic.toInCall.ns (fun h₁ hn hs => ?_) (by rw [ok.k]; rfl)
    have e1 : setm env x v .local mm = fun y => if y = x then some v else mm y := by unfold setm; rw [if_pos h]
    have e2 : setm env x v .cell cm = cm := by unfold setm; rw [h, if_neg h']
    have ic : InCallC s₀ env.locals (setm env x v .local mm) env.cells (setm env x v .cell cm) { s with heap := h₁, toks := s.toks + 1 } := by
      rw [e1, e2]
      refine ⟨⟨?_, hn, fun b o e => ?_, F.ic.toInCall.fresh⟩, fun k c hc => ?_, F.ic.apart, F.ic.above⟩
      · obtain ⟨h₂, tk, e⟩ := F.ic.toInCall.same
        exact ⟨h₁, _, by rw [e]⟩
      · exact hs.extBut b o (Nat.ne_of_lt (Nat.lt_of_lt_of_le (Heap.lt_size e) F.ic.toInCall.fresh)) (F.ic.toInCall.keep b o e)
      · exact (F.ic.cell k c hc).sameBut hs (Nat.ne_of_gt (F.ic.above k c (mem_of_lookup hc)))
    refine hQ _ _ _ (F.stored (P := env.locals) hk' rfl (noTup_ns F.ic.toInCall.ns) (.inl rfl) ic (fun b o hb e => hs.extBut b o hb e) r ap) (vr_store hk') fun b o e hb _ => hs.extBut b o hb e
  · obtain ⟨c, hc⟩ := Option.isSome_iff_exists.mp hc
    have h' : ¬ (some NameKind.cell = some NameKind.local) := by decide
    refine wpAny_storeName_cell ok.k h hc (F.ic.cell x c hc) fun h₁ hv hs => ?_
    have e1 : setm env x v .local mm = mm := by unfold setm; rw [h, if_neg h']
    have e2 : setm env x v .cell cm = fun y => if y = x then some v else cm y := by unfold setm; rw [if_pos h]
    have hLc := F.ic.above x c (mem_of_lookup hc)
    have ic : InCallC s₀ env.locals (setm env x v .local mm) env.cells (setm env x v .cell cm) { s with heap := h₁ } := by
      rw [e1, e2]
      refine ⟨⟨?_, F.ic.toInCall.ns.sameBut hs (Nat.ne_of_lt hLc), fun b o e => ?_, F.ic.toInCall.fresh⟩, fun k c' hk1 => ?_, F.ic.apart, F.ic.above⟩
      · obtain ⟨h₂, tk, e⟩ := F.ic.toInCall.same
        exact ⟨h₁, tk, by rw [e]⟩
      · exact hs.extBut b o (Nat.ne_of_lt (Nat.lt_trans (Nat.lt_of_lt_of_le (Heap.lt_size e) F.ic.toInCall.fresh) hLc)) (F.ic.toInCall.keep b o e)
      · by_cases hkn : k = x
        · subst hkn
          rw [hc] at hk1; cases hk1
          simpa using hv
        · rw [if_neg hkn]
          exact (F.ic.cell k c' hk1).sameBut hs fun e => hkn (name_of_addr F.ic.apart (mem_of_lookup hk1) (e ▸ mem_of_lookup hc))
    refine hQ _ _ _ (F.stored (P := c) hk' rfl (noTup_cell (F.ic.cell x c hc)) (.inr ⟨c, hc, rfl⟩) ic (fun b o hb e => hs.extBut b o hb e) r ap) (vr_store hk') fun b o e _ hb => hs.extBut b o (hb c hc) e
end
end Mine

namespace Mine

def IsTupObj (o : Obj) : Prop := ∃ vs n, o.cls = .type "tuple" ∧ o.data = .seq vs n
mutual
theorem reads_tups {h : Heap} : ∀ {v : Value} {d : PyData} {as : List Addr}, as = [] → Reads h v d as → ∃ T : List (Addr × Obj), (∀ p ∈ T, h.get? p.1 = some p.2 ∧ IsTupObj p.2) ∧ ∀ h' : Heap, (∀ p ∈ T, h'.get? p.1 = some p.2) → Reads h' v d []
  | _, _, _, _, .none => ⟨[], by simp, fun _ _ => .none⟩
  | _, _, _, _, .bool b => ⟨[], by simp, fun _ _ => .bool b⟩
  | _, _, _, _, .int i t => ⟨[], by simp, fun _ _ => .int i t⟩
  | _, _, _, _, .str x t => ⟨[], by simp, fun _ _ => .str x t⟩
  | _, _, _, e, .list _ _ _ _ => by cases e
  | _, _, _, e, .dict _ _ _ _ _ => by cases e
  | _, _, _, e, .tuple (a := a) (o := o) (vs := vs) (n := n) h1 h2 h3 h4 => by
    obtain ⟨T, hT, hR⟩ := readsAll_tups e h4
    exact ⟨(a, o) :: T, List.forall_mem_cons.mpr ⟨⟨h1, vs, n, h2, h3⟩, hT⟩, fun h' hh => .tuple (hh _ List.mem_cons_self) h2 h3 (hR h' fun p hp => hh p (List.mem_cons_of_mem _ hp))⟩
theorem readsAll_tups {h : Heap} : ∀ {vs : List Value} {ds : List PyData} {as : List Addr}, as = [] → ReadsAll h vs ds as → ∃ T : List (Addr × Obj), (∀ p ∈ T, h.get? p.1 = some p.2 ∧ IsTupObj p.2) ∧ ∀ h' : Heap, (∀ p ∈ T, h'.get? p.1 = some p.2) → ReadsAll h' vs ds []
  | _, _, _, _, .nil => ⟨[], by simp, fun _ _ => .nil⟩
  | _, _, _, e, .cons h1 h2 => by
    obtain ⟨T1, a1, b1⟩ := reads_tups (List.append_eq_nil_iff.mp e).1 h1
    obtain ⟨T2, a2, b2⟩ := readsAll_tups (List.append_eq_nil_iff.mp e).2 h2
    exact ⟨T1 ++ T2, fun p hp => (List.mem_append.mp hp).elim (a1 p) (a2 p), fun h' hh => .cons (as := []) (b1 h' fun p hp => hh p (List.mem_append_left _ hp)) (b2 h' fun p hp => hh p (List.mem_append_right _ hp))⟩
end

/-- an iterator over ds -/
structure IterOn (w : World) (I : Addr) (fp wr : List Addr) (P : Nat → Value → Prop) (St : Nat → Heap → Prop) (T : List (Addr × Obj)) (ds : List DD) : Prop where
  walks : ∀ A : Around, A.handled = none → Walks PW w A I fp wr ds.length P St
  has : ∀ i (h : Heap), St i h → ∀ b ∈ fp, ∃ o, h.get? b = some o ∧ o.cls ≠ .type "tuple" ∧ (∀ es ep, o.data ≠ .dict es ep) ∧ ∀ v, o.data ≠ .cell v
  kind : ∀ i (h : Heap), St i h → ∀ b ∈ wr, ∃ o n, h.get? b = some o ∧ o.cls = .type n ∧ n ≠ "dict" ∧ n ≠ "list" ∧ n ≠ "tuple"
  go : ∀ i (s : Shared) (A : Around) (target : PySem.Expr) (v : Value) (Q : Unit → Shared → Prop) (E : Value → Shared → Prop), St i s.heap → Q () s → wpAny (model PW w) A (letOwnedTupleGo target (.ref I) v) Q E s
  tup : ∀ p ∈ T, IsTupObj p.2
  item : ∀ i v (h : Heap), P i v → (∀ p ∈ T, h.get? p.1 = some p.2) → ∃ d, ds[i]? = some d ∧ Reads h v d []

theorem go_of {w : World} {A : Around} {s : Shared} {I : Addr} {o : Obj} {n : String} {target : PySem.Expr} {v : Value} {Q : Unit → Shared → Prop} {E : Value → Shared → Prop} (ho : s.heap.get? I = some o) (hc : o.cls = .type n)
    (hn : ["enumerate", "zip", "dict_itemiterator", "dict_reverseitemiterator", "odict_iterator", "itertools.zip_longest", "itertools.pairwise"].contains n = false) (hQ : Q () s) : wpAny (model PW w) A (letOwnedTupleGo target (.ref I) v) Q E s := by
  unfold letOwnedTupleGo
  cases target <;> first
    | exact wpAny_pure hQ
    | (cases v <;> first
        | exact wpAny_pure hQ
        | (refine wpAny_bind (wpAny_load ho ?_)
           split
           · rename_i h1 h2
             rw [hc] at h1; cases h1
             rw [hn, Bool.false_and, if_neg (by decide)]
             exact wpAny_pure hQ
           · exact wpAny_pure hQ))

/-- an expression gives what can be gone over; src: the name whose list it is -/
structure EvI (w : World) (mg : Str → Option Value) (A : Around) (env : Env) (m : List (Str × DD)) (e : PySem.Expr) (src : Option Str) (ds : List DD) : Prop where
  mk ::
  go : ∀ (s : Shared) (E Q : Value → Shared → Prop), Bs w mg s.heap → Rd w env m s.heap →
    (∀ I fp wr P St T s', Ks s s' → IterOn w I fp wr P St T ds → St 0 s'.heap → (∀ p ∈ T, s'.heap.get? p.1 = some p.2) → (∀ b ∈ wr, s.heap.get? b = none) →
      (∀ b ∈ fp, s.heap.get? b = none ∨ ∃ x, src = some x ∧ VarIs env s.heap x (.ref b)) → Q (.ref I) s') →
    wpAny (model PW w) A (eval e env) (fun xv s₁ => wpAny (model PW w) A (pyIter xv) Q E s₁) E s

section
variable {w : World} {mg : Str → Option Value} {A : Around} {env : Env} {m : List (Str × DD)}

theorem iterOn_list {h : Heap} {I a : Addr} {vs : Array Value} {ds : List DD} (hne : a ≠ I) (hr : ReadsAll h vs.toList ds []) :
    ∃ T, (∀ p ∈ T, h.get? p.1 = some p.2) ∧ IterOn w I [I, a] [I] (fun i v => vs[i]? = some v) (fun i h => h.IsListIter I a i ∧ h.IsList a vs) T ds := by
  obtain ⟨T, hT, hR⟩ := readsAll_tups rfl hr
  have e := readsAll_length hr
  have e' : vs.size = ds.length := by rw [← e]; simp
  refine ⟨T, fun p hp => (hT p hp).1, ?_, ?_, ?_, ?_, fun p hp => (hT p hp).2, ?_⟩
  · intro A hA
    rw [← e']
    exact Walks.list hA I a hne vs
  · intro i h' st b hb
    rcases List.mem_cons.mp hb with rfl | hb
    · obtain ⟨o, ho, hc, hd⟩ := st.1
      exact ⟨o, ho, (by rw [hc]; decide), (by rw [hd]; intro _ _ q; cases q), by rw [hd]; intro _ q; cases q⟩
    · obtain rfl := List.mem_singleton.mp hb
      obtain ⟨o, ho, hc, n, hd⟩ := st.2
      exact ⟨o, ho, (by rw [hc]; decide), (by rw [hd]; intro _ _ q; cases q), by rw [hd]; intro _ q; cases q⟩
  · intro i h' st b hb
    obtain rfl := List.mem_singleton.mp hb
    obtain ⟨o, ho, hc, hd⟩ := st.1
    exact ⟨o, _, ho, hc, by decide, by decide, by decide⟩
  · intro i s A target v Q E st hQ
    obtain ⟨o, ho, hc, hd⟩ := st.1
    exact go_of ho hc (by decide) hQ
  · intro i v h' hP hh
    exact readsAll_get' (hR h' hh) (by simpa using hP)

theorem evi_list {e : PySem.Expr} {ds : List DD} (h : Ev w mg A env m e true (.list ds)) : EvI w mg A env m e none ds := .mk fun s E Q B R hQ =>
  h.go s E _ B R fun v s₁ k r fr => by
    obtain ⟨a, vs, rfl, hl, hr⟩ := r
    obtain ⟨n1, o, ho, _⟩ := fr rfl a rfl
    refine wpAny_pyIter_list hl ?_
    have hne : a ≠ s₁.heap.objs.size := Nat.ne_of_lt (Heap.lt_size ho)
    obtain ⟨T, hT, it⟩ := iterOn_list (w := w) hne hr
    have kp := Ks.push s₁ { cls := .type "list_iterator", data := .fields #[.ref a, .int 0 0] } s₁.toks
    have ns : s.heap.get? s₁.heap.objs.size = none := by
      rcases q : s.heap.get? s₁.heap.objs.size with _ | o'
      · rfl
      · exact absurd (Heap.lt_size (k.heap _ _ q)) (Nat.lt_irrefl _)
    refine hQ _ _ _ _ _ T _ (k.trans' kp) it ⟨⟨_, Heap.get?_push_size _ rfl, rfl, rfl⟩, hl.push _⟩ (fun p hp => kp.heap _ _ (hT p hp)) (fun b hb => ?_) fun b hb => .inl ?_
    · obtain rfl := List.mem_singleton.mp hb; exact ns
    · rcases List.mem_cons.mp hb with rfl | hb
      · exact ns
      · obtain rfl := List.mem_singleton.mp hb; exact n1

theorem evi_listName {x : Str} {pos : Pos} {ds : List DD} (ok : EnvOk env) (hm : m.lookup x = some (.list ds)) (hd : (x == ("__debug__" : Str)) = false := by decide) : EvI w mg A env m (.Name x pos) (some x) ds := .mk fun s E Q B R hQ => by
  obtain ⟨v, V, r⟩ := R x _ hm
  have fin : wpAny (model PW w) A (pyIter v) Q E s := by
    obtain ⟨a, vs, rfl, hl, hr⟩ := r
    refine wpAny_pyIter_list hl ?_
    have hne : a ≠ s.heap.objs.size := by obtain ⟨o, ho, _⟩ := hl; exact Nat.ne_of_lt (Heap.lt_size ho)
    obtain ⟨T, hT, it⟩ := iterOn_list (w := w) hne hr
    have kp := Ks.push s { cls := .type "list_iterator", data := .fields #[.ref a, .int 0 0] } s.toks
    refine hQ _ _ _ _ _ T _ kp it ⟨⟨_, Heap.get?_push_size _ rfl, rfl, rfl⟩, hl.push _⟩ (fun p hp => kp.heap _ _ (hT p hp)) (fun b hb => ?_) fun b hb => ?_
    · obtain rfl := List.mem_singleton.mp hb; exact fresh_size _
    · rcases List.mem_cons.mp hb with rfl | hb
      · exact .inl (fresh_size _)
      · obtain rfl := List.mem_singleton.mp hb; exact .inr ⟨x, rfl, V⟩
  refine wpAny_Name ?_ hd
  rcases V with ⟨hl, mm, hn, e⟩ | ⟨hl, c, hc, e⟩
  · exact wpAny_loadName_local ok.k hl hn e fin
  · exact wpAny_loadName_cell ok.k hl hc e fin

def signs (x : Str) : List DD := x.cps.toList.map fun c => PyData.str ⟨#[c]⟩

theorem iterOn_str {I : Addr} {x : Str} {t : Tok} {ty : String} (hty : ty = "str_ascii_iterator" ∨ ty = "str_iterator") :
    IterOn w I [I] [I] (SignAt x) (fun i h => h.IsStrIter I ty x t i) [] (signs x) := by
  refine ⟨fun A hA => ?_, fun i h st b hb => ?_, fun i h st b hb => ?_, fun i s A target v Q E st hQ => ?_, by simp, fun i v h hP _ => ?_⟩
  · have e : (signs x).length = x.cps.size := by simp [signs]
    rw [e]
    rcases hty with rfl | rfl
    · exact Walks.strAscii hA I x t
    · exact Walks.strWide hA I x t
  · obtain rfl := List.mem_singleton.mp hb
    obtain ⟨o, ho, hc, hd⟩ := st
    refine ⟨o, ho, ?_, ?_, ?_⟩
    · rw [hc]; rcases hty with rfl | rfl <;> decide
    · rw [hd]; intro _ _ q; cases q
    · rw [hd]; intro _ q; cases q
  · obtain rfl := List.mem_singleton.mp hb
    obtain ⟨o, ho, hc, hd⟩ := st
    refine ⟨o, _, ho, hc, ?_⟩
    rcases hty with rfl | rfl <;> decide
  · obtain ⟨o, ho, hc, hd⟩ := st
    exact go_of ho hc (by rcases hty with rfl | rfl <;> decide) hQ
  · obtain ⟨c, u, h1, rfl⟩ := hP
    exact ⟨_, by simp only [signs, List.getElem?_map]; rw [show x.cps.toList[i]? = some c by simpa using h1]; rfl, .str _ _⟩

theorem evi_str {e : PySem.Expr} {f : Bool} {x : Str} (h : Ev w mg A env m e f (.str x)) : EvI w mg A env m e none (signs x) := .mk fun s E Q B R hQ =>
  h.go s E _ B R fun v s₁ k r fr => by
    cases r
    rename_i t
    have ns : s.heap.get? s₁.heap.objs.size = none := by
      rcases q : s.heap.get? s₁.heap.objs.size with _ | o'
      · rfl
      · exact absurd (Heap.lt_size (k.heap _ _ q)) (Nat.lt_irrefl _)
    have fin : ∀ (ty : String) (o : Obj), (ty = "str_ascii_iterator" ∨ ty = "str_iterator") → (s₁.heap.push o).IsStrIter s₁.heap.objs.size ty x t 0 → Q (.ref s₁.heap.objs.size) { s₁ with heap := s₁.heap.push o } := fun ty o hty st =>
      hQ _ [s₁.heap.objs.size] [s₁.heap.objs.size] _ _ [] _ (k.trans' (Ks.push s₁ o s₁.toks)) (iterOn_str hty) st (fun _ hp => by cases hp) (fun b hb => by obtain rfl := List.mem_singleton.mp hb; exact ns) fun b hb => .inl (by obtain rfl := List.mem_singleton.mp hb; exact ns)
    cases ha : x.cps.all (· < 128)
    · exact wpAny_pyIter_wide ha (fin "str_iterator" _ (.inr rfl) ⟨_, Heap.get?_push_size _ rfl, rfl, rfl⟩)
    · exact wpAny_pyIter_ascii ha (fin "str_ascii_iterator" _ (.inl rfl) ⟨_, Heap.get?_push_size _ rfl, rfl, rfl⟩)

def rangeD (a b : Int) : List DD := (List.range (b - a).toNat).map fun i : Nat => PyData.int (a + i)
theorem iterOn_range {I : Addr} {a b : Int} : IterOn w I [I] [I] (fun i v => i < (b - a).toNat ∧ ∃ t, v = .int (a + i * 1) t) (fun i h => IsRangeIter h I (a + (i : Nat) * 1) (((b - a).toNat : Int) - (i : Nat)) 1) [] (rangeD a b) := by
  refine ⟨fun A hA => ?_, fun i h st b hb => ?_, fun i h st b hb => ?_, fun i s A target v Q E st hQ => ?_, by simp, fun i v h hP _ => ?_⟩
  · have e : (rangeD a b).length = (b - a).toNat := by simp [rangeD]
    rw [e]
    exact (Walks.range hA I a 1 _).bound
  · obtain rfl := List.mem_singleton.mp hb
    exact ⟨_, st, (by simp), (by simp), by simp⟩
  · obtain rfl := List.mem_singleton.mp hb
    exact ⟨_, _, st, rfl, by decide, by decide, by decide⟩
  · exact go_of st rfl (by decide) hQ
  · obtain ⟨h1, t, rfl⟩ := hP
    exact ⟨_, by simp only [rangeD, List.getElem?_map, List.getElem?_range h1]; rfl, by rw [Int.mul_one]; exact .int _ _⟩

theorem pyIter_range {s₀ s : Shared} {E Q : Value → Shared → Prop} {r : Addr} {a b : Int} {t u v : Tok} (k : Ks s₀ s) (hr : IsRange s.heap r a b 1 t u v) (ha : -(2 ^ 62) ≤ a) (ha' : a < 2 ^ 62) (hb : -(2 ^ 62) ≤ b) (hb' : b < 2 ^ 62)
    (hQ : ∀ I fp wr P St T s', Ks s₀ s' → IterOn w I fp wr P St T (rangeD a b) → St 0 s'.heap → (∀ p ∈ T, s'.heap.get? p.1 = some p.2) → (∀ b ∈ wr, s₀.heap.get? b = none) →
      (∀ b ∈ fp, s₀.heap.get? b = none) → Q (.ref I) s') : wpAny (model PW w) A (pyIter (.ref r)) Q E s := by
  have ns : s₀.heap.get? s.heap.objs.size = none := by
    rcases q : s₀.heap.get? s.heap.objs.size with _ | o'
    · rfl
    · exact absurd (Heap.lt_size (k.heap _ _ q)) (Nat.lt_irrefl _)
  refine wpAny_pyIter_range hr (small_one ha ha' hb hb') (hQ _ [s.heap.objs.size] [s.heap.objs.size] _ _ [] _ (k.trans' (Ks.push s _ s.toks)) (iterOn_range (a := a) (b := b)) ?_ (fun _ hp => by cases hp) (fun b hb => by obtain rfl := List.mem_singleton.mp hb; exact ns) fun b hb => by obtain rfl := List.mem_singleton.mp hb; exact ns)
  rw [rangeSize_nat]
  have e := Heap.get?_push_size (o := { cls := .type "range_iterator", dict := none, data := .fields #[rawInt a, rawInt ((b - a).toNat : Int), rawInt 1], slots := #[] }) s.heap rfl
  simpa [IsRangeIter] using e

theorem evi_range1 {np pos : Pos} {e : PySem.Expr} {f : Bool} {n : Int} (ok : EnvOk env) (hn : env.kindOf "range" = some .globalImplicit) (h : Ev w mg A env m e f (.int n)) (h0 : -1000000 ≤ n) (h1 : n ≤ 1000000)
    (he : nS e = true := by rfl) : EvI w mg A env m (.Call (.Name "range" np) [e] [] pos) none (rangeD 0 n) := .mk fun s E Q B R hQ => by
  obtain ⟨mb, b1, b2⟩ := B.b
  refine Call_ (Name_function_global ok.k hn (loadGlobal_builtin (mg := mg) (mb := mb) (by rw [ok.g]; exact B.g) (B.free "range" (by decide)) (by rw [ok.b]; exact b1) ((b2 "range" (by decide)).trans (by decide +kernel : _ = some (Value.type "range"))) ?_) (by decide)) (arm_eval_Call_Name' ..)
  refine PyProof.Rows.callWith_type1 ((args_s h args_z he).go s E _ pos B R fun vs s₁ k₁ r₁ => ?_) (starEach_ns he) (by rfl)
  cases r₁ with
  | cons r1 r2 =>
    cases r2; cases r1
    refine call_range_1 ?_
    exact pyIter_range (s₀ := s) (k₁.trans' (Ks.push s₁ _ _)) (IsRange.new ..) (by omega) (by omega) (by omega) (by omega) fun I fp wr P St T s' k it st hT hw hf => hQ I fp wr P St T s' k it st hT hw fun b hb => .inl (hf b hb)
theorem evi_range2 {np pos : Pos} {e e2 : PySem.Expr} {f g : Bool} {a n : Int} (ok : EnvOk env) (hn : env.kindOf "range" = some .globalImplicit) (h : Ev w mg A env m e f (.int a)) (h' : Ev w mg A env m e2 g (.int n)) (h2 : -1000000 ≤ a) (h3 : a ≤ 1000000) (h0 : -1000000 ≤ n) (h1 : n ≤ 1000000)
    (he : nS e = true := by rfl) (he2 : nS e2 = true := by rfl) : EvI w mg A env m (.Call (.Name "range" np) [e, e2] [] pos) none (rangeD a n) := .mk fun s E Q B R hQ => by
  obtain ⟨mb, b1, b2⟩ := B.b
  refine Call_ (Name_function_global ok.k hn (loadGlobal_builtin (mg := mg) (mb := mb) (by rw [ok.g]; exact B.g) (B.free "range" (by decide)) (by rw [ok.b]; exact b1) ((b2 "range" (by decide)).trans (by decide +kernel : _ = some (Value.type "range"))) ?_) (by decide)) (arm_eval_Call_Name' ..)
  refine PyProof.Rows.callWith_type1 ((args_s h (args_s h' args_z he2) he).go s E _ pos B R fun vs s₁ k₁ r₁ => ?_) (starEach_ns he) (backTo_any (es := [e2]) (by show (nS e2 && true) = true; rw [he2]; rfl))
  cases r₁ with
  | cons r1 r2 =>
    cases r2 with
    | cons r2 r3 =>
    cases r3; cases r1; cases r2
    refine call_range_2 ?_
    exact pyIter_range (s₀ := s) (k₁.trans' (Ks.push s₁ _ _)) (IsRange.new ..) (by omega) (by omega) (by omega) (by omega) fun I fp wr P St T s' k it st hT hw hf => hQ I fp wr P St T s' k it st hT hw fun b hb => .inl (hf b hb)
end
end Mine

namespace Mine

/-- the state inside a comprehension -/
structure Cs (w : World) (s₀ : Shared) (cenv : Env) (D : Addr) (R : List (Addr × Obj)) (m : List (Str × DD)) (outs : List DD) (s : Shared) : Prop where
  same : ∃ h t, s = { s₀ with heap := h, toks := t }
  keep : ∀ b o, s₀.heap.get? b = some o → s.heap.get? b = some o
  ns : ∃ mm, s.heap.Ns cenv.locals mm ∧ ∀ x d, m.lookup x = some d → (cenv.kindOf x = some .local ∧ ∃ v, mm x = some v ∧ Reads s.heap v d []) ∨
    (cenv.kindOf x = some .cell ∧ ∃ c v, cenv.cells.lookup x = some c ∧ s₀.heap.IsCell c (some v) ∧ Rep w s₀.heap v d)
  acc : ∃ ys, s.heap.PlainList D ys ∧ ReadsAll s.heap ys.toList outs []
  nD : s₀.heap.get? D = none
  nL : s₀.heap.get? cenv.locals = none
  ne : D ≠ cenv.locals
  prot : ∀ p ∈ R, s.heap.get? p.1 = some p.2 ∧ p.1 ≠ D ∧ p.1 ≠ cenv.locals

section
variable {w : World} {s₀ : Shared} {cenv : Env} {D : Addr} {R R' : List (Addr × Obj)} {m m' : List (Str × DD)} {outs : List DD} {s s' : Shared}

theorem Cs.rd (c : Cs w s₀ cenv D R m outs s) : Rd w cenv m s.heap := fun x d e => by
  obtain ⟨mm, hn, hm⟩ := c.ns
  rcases hm x d e with ⟨h1, v, h2, h3⟩ | ⟨h1, k, v, h2, h3, h4⟩
  · exact ⟨v, .inl ⟨h1, mm, hn, h2⟩, reads_rep h3⟩
  · exact ⟨v, .inr ⟨h1, k, h2, h3.keeps c.keep⟩, h4.keeps c.keep⟩
theorem Cs.keeps (c : Cs w s₀ cenv D R m outs s) (k : Ks s s') : Cs w s₀ cenv D R m outs s' := by
  obtain ⟨⟨h, t, rfl⟩, kh⟩ := k
  obtain ⟨mm, hn, hm⟩ := c.ns
  obtain ⟨ys, hl, hr⟩ := c.acc
  obtain ⟨h1, t1, e1⟩ := c.same
  exact ⟨⟨h, t, by rw [e1]⟩, fun b o e => kh _ _ (c.keep b o e), ⟨mm, hn.keeps kh, fun x d e => (hm x d e).imp (fun ⟨a, v, b, r⟩ => ⟨a, v, b, Reads.keeps kh r⟩) id⟩, ⟨ys, hl.at (kh D), ReadsAll.keeps kh hr⟩, c.nD, c.nL, c.ne,
    fun p hp => ⟨kh _ _ (c.prot p hp).1, (c.prot p hp).2⟩⟩
theorem Cs.sub (c : Cs w s₀ cenv D R m outs s) (hm : Sb m' m) (hR : ∀ p ∈ R', p ∈ R) : Cs w s₀ cenv D R' m' outs s := by
  obtain ⟨mm, hn, hx⟩ := c.ns
  exact ⟨c.same, c.keep, ⟨mm, hn, fun x d e => hx x d (hm x d e)⟩, c.acc, c.nD, c.nL, c.ne, fun p hp => c.prot p (hR p hp)⟩
theorem Cs.add (c : Cs w s₀ cenv D R m outs s) (hR : ∀ p ∈ R', s.heap.get? p.1 = some p.2 ∧ p.1 ≠ D ∧ p.1 ≠ cenv.locals) : Cs w s₀ cenv D (R' ++ R) m outs s :=
  ⟨c.same, c.keep, c.ns, c.acc, c.nD, c.nL, c.ne, fun p hp => (List.mem_append.mp hp).elim (hR p) (c.prot p)⟩

theorem reads_at {h h' : Heap} {v : Value} {d : DD} (r : Reads h v d []) (hk : ∀ b o, h.get? b = some o → IsTupObj o → h'.get? b = some o) : Reads h' v d [] := by
  obtain ⟨T, hT, hR⟩ := reads_tups rfl r
  exact hR h' fun p hp => hk _ _ (hT p hp).1 (hT p hp).2
theorem readsAll_at {h h' : Heap} {vs : List Value} {ds : List DD} (r : ReadsAll h vs ds []) (hk : ∀ b o, h.get? b = some o → IsTupObj o → h'.get? b = some o) : ReadsAll h' vs ds [] := by
  obtain ⟨T, hT, hR⟩ := readsAll_tups rfl r
  exact hR h' fun p hp => hk _ _ (hT p hp).1 (hT p hp).2

/-- the heap changes at wr alone -/
theorem Cs.but (c : Cs w s₀ cenv D R m outs s) {h' : Heap} {tk : Nat} {wr : List Addr} (hk : ∀ b o, b ∉ wr → s.heap.get? b = some o → h'.get? b = some o) (h0 : ∀ b ∈ wr, s₀.heap.get? b = none)
    (ht : ∀ b ∈ wr, ∀ o, s.heap.get? b = some o → ¬ IsTupObj o) (hD : D ∉ wr) (hL : cenv.locals ∉ wr) (hR : ∀ p ∈ R, p.1 ∉ wr) : Cs w s₀ cenv D R m outs { s with heap := h', toks := tk } := by
  obtain ⟨mm, hn, hm⟩ := c.ns
  obtain ⟨ys, hl, hr⟩ := c.acc
  obtain ⟨h1, t1, e1⟩ := c.same
  have tup : ∀ b o, s.heap.get? b = some o → IsTupObj o → h'.get? b = some o := fun b o e ho => hk b o (fun hb => ht b hb o e ho) e
  refine ⟨⟨h', tk, by rw [e1]⟩, fun b o e => hk _ _ (fun hb => by rw [h0 b hb] at e; cases e) (c.keep b o e), ⟨mm, hn.at' fun o e => hk _ o hL e, fun x d e => (hm x d e).imp (fun ⟨a, v, b, r⟩ => ⟨a, v, b, reads_at r tup⟩) id⟩,
    ⟨ys, hl.at fun o e => hk _ o hD e, readsAll_at hr tup⟩, c.nD, c.nL, c.ne, fun p hp => ⟨hk _ _ (hR p hp) (c.prot p hp).1, (c.prot p hp).2⟩⟩

theorem ns_notTup {h : Heap} {L : Addr} {mm : Str → Option Value} (hn : h.Ns L mm) {o : Obj} (e : h.get? L = some o) : ¬ IsTupObj o := fun ⟨vs, n, _, hd⟩ => by
  obtain ⟨o', es, ep, e', d', _⟩ := hn
  rw [e] at e'; cases e'; rw [hd] at d'; cases d'

theorem cs_store {M : Model} {A : Around} {E : Value → Shared → Prop} {Q : Unit → Shared → Prop} {x : Str} {v : Value} {d : DD} (ok : EnvOk cenv) (hx : cenv.kindOf x = some .local) (c : Cs w s₀ cenv D R m outs s) (r : Reads s.heap v d [])
    (hQ : ∀ s', Cs w s₀ cenv D R ((x, d) :: m) outs s' → (∀ b o, b ≠ cenv.locals → s.heap.get? b = some o → s'.heap.get? b = some o) → Q () s') : wpAny M A (storeName cenv x v) Q E s := by
  obtain ⟨mm, hn, hm⟩ := id c.ns
  refine wpAny_storeName_local hx hn (fun h₁ hn₁ hs => ?_) (by rw [ok.k]; rfl)
  have tup : ∀ b o, s.heap.get? b = some o → IsTupObj o → h₁.get? b = some o := fun b o e ho => hs.extBut b o (fun q => ns_notTup hn (q ▸ e) ho) e
  have c' : Cs w s₀ cenv D R m outs s := c
  obtain ⟨ys, hl, hr⟩ := c.acc
  obtain ⟨h1, t1, e1⟩ := c.same
  refine hQ _ ⟨⟨h₁, s.toks + 1, by rw [e1]⟩, fun b o e => hs.extBut b o (fun q => by rw [q, c'.nL] at e; cases e) (c'.keep b o e), ⟨_, hn₁, fun y d' e => ?_⟩,
    ⟨ys, hl.at fun o e => hs.extBut _ o c'.ne e, readsAll_at hr tup⟩, c'.nD, c'.nL, c'.ne, fun p hp => ⟨hs.extBut _ _ (c'.prot p hp).2.2 (c'.prot p hp).1, (c'.prot p hp).2⟩⟩ fun b o hb e => hs.extBut b o hb e
  by_cases hyx : y = x
  · subst hyx
    simp only [List.lookup_cons, beq_self_eq_true, Option.some.injEq] at e
    subst e
    exact .inl ⟨hx, v, by simp, reads_at r tup⟩
  · have hb : (y == x) = false := by simpa using hyx
    simp only [List.lookup_cons, hb] at e
    exact (hm y d' e).imp (fun ⟨a, u, b, q⟩ => ⟨a, u, by rw [if_neg hyx]; exact b, reads_at q tup⟩) id

theorem cs_append {A : Around} {E Q : Value → Shared → Prop} {v : Value} {d : DD} (c : Cs w s₀ cenv D R m outs s) (r : Reads s.heap v d []) (hsz : outs.length ≤ sizeLine)
    (hQ : ∀ s', Cs w s₀ cenv D R m (outs ++ [d]) s' → (∀ b o, b ≠ D → s.heap.get? b = some o → s'.heap.get? b = some o) → Q .none s') : wpAny (model PW w) A (call (.builtin "list.append") [.ref D, v]) Q E s := by
  obtain ⟨ys, hl, hr⟩ := id c.acc
  have hlen : ys.size = outs.length := by rw [← readsAll_length hr]; simp
  refine wpAny_list_append_plain hl (fun h₁ hl₁ hs => ?_) (by rw [hlen]; exact hsz)
  have tup : ∀ b o, s.heap.get? b = some o → IsTupObj o → h₁.get? b = some o := fun b o e ho => hs.extBut b o (fun q => by
    obtain ⟨vs, n, hc, _⟩ := ho
    obtain ⟨n', e'⟩ := hl
    rw [q, e'] at e; cases e; simp at hc) e
  obtain ⟨mm, hn, hm⟩ := id c.ns
  obtain ⟨h1, t1, e1⟩ := c.same
  refine hQ _ ⟨⟨h₁, s.toks, by rw [e1]⟩, fun b o e => hs.extBut b o (fun q => by rw [q, c.nD] at e; cases e) (c.keep b o e), ⟨mm, hn.at' fun o e => hs.extBut _ o (Ne.symm c.ne) e, fun x d e => (hm x d e).imp (fun ⟨a, v, b, r⟩ => ⟨a, v, b, reads_at r tup⟩) id⟩,
    ⟨_, hl₁, ?_⟩, c.nD, c.nL, c.ne, fun p hp => ⟨hs.extBut _ _ (c.prot p hp).2.1 (c.prot p hp).1, (c.prot p hp).2⟩⟩ fun b o hb e => hs.extBut b o hb e
  rw [Array.toList_push]
  exact readsAll_append (readsAll_at hr tup) (.cons (as := []) (reads_at r tup) .nil)

/-- the tests of a clause -/
structure Trs (w : World) (mg : Str → Option Value) (A : Around) (env : Env) (m : List (Str × DD)) (ifs : List PySem.Expr) (b : Bool) : Prop where
  mk ::
  go : ∀ (s : Shared) (E : Value → Shared → Prop) (Q : Bool → Shared → Prop), Bs w mg s.heap → Rd w env m s.heap → (∀ s', Ks s s' → Q b s') →
    wpAny (model PW w) A (forIn ifs true fun c r => if r = true then do let ok ← isTrue c env (eval c env); pure (ForInStep.yield ok) else pure (ForInStep.yield r)) Q E s
theorem trs_nil {mg : Str → Option Value} {A : Around} {env : Env} : Trs w mg A env m [] true := .mk fun s E Q B R hQ => wpAny_pure (hQ s (Ks.rfl' s))
theorem trs_one {mg : Str → Option Value} {A : Around} {env : Env} {c : PySem.Expr} {b : Bool} (h : Tr w mg A env m c b) : Trs w mg A env m [c] b := .mk fun s E Q B R hQ => by
  rw [List.forIn_cons]
  simp only [if_true, List.forIn_nil]
  exact wpAny_bind (wpAny_bind (h.go s E _ B R fun s' k => wpAny_pure (wpAny_pure (hQ s' k))))

def ExistsObjs (h : Heap) (fp : List Addr) : Prop := ∀ b ∈ fp, ∃ o, h.get? b = some o
theorem objsOf {h : Heap} : ∀ {fp : List Addr}, (∀ b ∈ fp, ∃ o, h.get? b = some o) → ∃ R : List (Addr × Obj), (∀ p ∈ R, h.get? p.1 = some p.2 ∧ p.1 ∈ fp) ∧ ∀ b ∈ fp, ∃ p ∈ R, p.1 = b
  | [], _ => ⟨[], by simp, fun b hb => by cases hb⟩
  | b :: r, hh => by
    obtain ⟨R, h1, h2⟩ := objsOf (h := h) (fp := r) fun c hc => hh c (List.mem_cons_of_mem _ hc)
    obtain ⟨o, ho⟩ := hh b List.mem_cons_self
    refine ⟨(b, o) :: R, fun p hp => ?_, fun c hc => ?_⟩
    · rcases List.mem_cons.mp hp with rfl | hp
      · exact ⟨ho, List.mem_cons_self⟩
      · exact ⟨(h1 p hp).1, List.mem_cons_of_mem _ (h1 p hp).2⟩
    · rcases List.mem_cons.mp hc with rfl | hc
      · exact ⟨_, List.mem_cons_self, rfl⟩
      · obtain ⟨p, hp, e⟩ := h2 c hc
        exact ⟨p, List.mem_cons_of_mem _ hp, e⟩
theorem objsKeep {h h' : Heap} {fp : List Addr} {R : List (Addr × Obj)} (h1 : ∀ p ∈ R, h.get? p.1 = some p.2) (h2 : ∀ b ∈ fp, ∃ p ∈ R, p.1 = b) (h3 : ∀ p ∈ R, h'.get? p.1 = some p.2) : ∀ b ∈ fp, ∀ o, h.get? b = some o → h'.get? b = some o := fun b hb o e => by
  obtain ⟨p, hp, rfl⟩ := h2 b hb
  rw [h1 p hp] at e; cases e; exact h3 p hp

/-- what a clause adds, over all its items -/
def outsOf (tst : DD → Bool) (o : DD → List DD) (ds : List DD) : List DD := ds.flatMap fun d => if tst d then o d else []

theorem comp_loop {mg : Str → Option Value} {A : Around} {RR : Result → Shared → Prop} {elt : PySem.Expr} {gens : List Comprehension} {scope : Scope} {pos : Pos} {k : Nat} {x : Str} {px p : Pos} {ifs : List PySem.Expr} {body : Sem PySem.Fin → Sem PySem.Fin} {I : Addr} {fp wr : List Addr} {P : Nat → Value → Prop} {St : Nat → Heap → Prop} {T : List (Addr × Obj)} {ds : List DD}
    {tst : DD → Bool} {o : DD → List DD}
    (turn : compTurn (.ListComp elt gens scope pos) k (.ref I) (.ref D) cenv = (standAt p >>= fun _ => pyNext (.ref I) >>= fun r => match r with
      | none => pure (.done .next)
      | some v => letOwnedTupleGo (.Name x px) (.ref I) v >>= fun _ => assign (.Name x px) cenv v >>= fun _ =>
        (forIn ifs true fun c r => if r = true then do let ok ← isTrue c cenv (eval c cenv); pure (ForInStep.yield ok) else pure (ForInStep.yield r)) >>= fun ok =>
          if ok = true then body (again (.compLoop (.ListComp elt gens scope pos) k (.ref I) (.ref D) cenv)) else again (.compLoop (.ListComp elt gens scope pos) k (.ref I) (.ref D) cenv)))
    (hh : A.handled = none) (ok : EnvOk cenv) (hx : cenv.kindOf x = some .local) (hmx : m.lookup x = none) (B : Bs w mg s₀.heap) (it : IterOn w I fp wr P St T ds) (hw : ∀ b ∈ wr, s₀.heap.get? b = none)
    (hDf : D ∉ fp) (hLf : cenv.locals ∉ fp) (hst : St 0 s.heap) (hT : ∀ p ∈ T, p ∈ R) (hRw : ∀ p ∈ R, p.1 ∉ wr) (c : Cs w s₀ cenv D R m outs s)
    (htst : ∀ d ∈ ds, Trs w mg A cenv ((x, d) :: m) ifs (tst d))
    (hbody : ∀ d ∈ ds, tst d = true → ∀ (R' : List (Addr × Obj)) outs' s' E' (Q' : PySem.Fin → Shared → Prop) (kk : Sem PySem.Fin), (outs' ++ o d).length ≤ sizeLine → Cs w s₀ cenv D R' ((x, d) :: m) outs' s' →
      (∀ s'', Cs w s₀ cenv D R' ((x, d) :: m) (outs' ++ o d) s'' → wpAny (model PW w) A kk Q' E' s'') → wpAny (model PW w) A (body kk) Q' E' s')
    (hsz : (outs ++ outsOf tst o ds).length ≤ sizeLine)
    (hRR : ∀ s', Cs w s₀ cenv D R m (outs ++ outsOf tst o ds) s' → RR (.ok .next) s') : codeAny (model PW w) A (.compLoop (.ListComp elt gens scope pos) k (.ref I) (.ref D) cenv) RR s := by
  refine codeAny_loop rfl (fun n s' => ∃ i, i ≤ ds.length ∧ n = ds.length - i ∧ St i s'.heap ∧ Cs w s₀ cenv D R m (outs ++ outsOf tst o (ds.take i)) s') (fun n s' => ?_) ds.length
    ⟨0, Nat.zero_le _, rfl, hst, by simpa [outsOf] using c⟩
  rintro ⟨i, hi, rfl, st, cs⟩
  show wpAny _ A ((compTurn (.ListComp elt gens scope pos) k (.ref I) (.ref D) cenv).onRaise (fun x => do noteFrame x cenv; theTreesLotGoes x)) _ _ s'
  refine wpAny_noted ?_
  rw [turn]
  have W := it.walks A hh
  have tupw : ∀ b ∈ wr, ∀ o', s'.heap.get? b = some o' → ¬ IsTupObj o' := fun b hb o' e ⟨vs, n, h1, _⟩ => by
    obtain ⟨o2, e2, h2, _⟩ := it.has i _ st b (W.sub b hb)
    rw [e] at e2; cases e2; exact h2 h1
  have hDw : D ∉ wr := fun h => hDf (W.sub _ h)
  have hLw : cenv.locals ∉ wr := fun h => hLf (W.sub _ h)
  refine wpAny_bind (wpAny_standAt (wpAny_bind ?_))
  by_cases hlt : i < ds.length
  · refine W.item i s' _ _ hlt st fun v h₁ tk₁ hPv st₁ hk₁ => ?_
    have cs₁ := cs.but (tk := tk₁) hk₁ hw tupw hDw hLw hRw
    obtain ⟨d, hd, hr⟩ := it.item i v h₁ hPv fun p hp => (cs₁.prot p (hT p hp)).1
    have hmem : d ∈ ds := List.mem_of_getElem? hd
    have houts : outsOf tst o (ds.take (i + 1)) = outsOf tst o (ds.take i) ++ if tst d then o d else [] := by
      unfold outsOf; rw [List.take_add_one, hd, List.flatMap_append]; simp
    have hpre : (outsOf tst o (ds.take (i + 1))).length ≤ (outsOf tst o ds).length := by
      have : outsOf tst o ds = outsOf tst o (ds.take (i + 1)) ++ outsOf tst o (ds.drop (i + 1)) := by
        unfold outsOf; rw [← List.flatMap_append, List.take_append_drop]
      rw [this, List.length_append]; omega
    refine wpAny_bind (it.go (i + 1) _ A _ v _ _ st₁ (wpAny_bind ?_))
    refine wpAny_assign_Name (cs_store ok hx cs₁ hr fun s₂ cs₂ hk₂ => ?_)
    have st₂ : St (i + 1) s₂.heap := W.frame _ _ _ st₁ fun b hb o' e => hk₂ b o' (fun q => hLf (q ▸ hb)) e
    have back : ∀ s₃, Cs w s₀ cenv D R ((x, d) :: m) (outs ++ outsOf tst o (ds.take (i + 1))) s₃ → St (i + 1) s₃.heap →
        wpAny (model PW w) A (again (.compLoop (.ListComp elt gens scope pos) k (.ref I) (.ref D) cenv)) (fun fin s' => match fin with | .done f => RR (.ok f) s' | .again c' => c' = .compLoop (.ListComp elt gens scope pos) k (.ref I) (.ref D) cenv ∧ ∃ m_1, m_1 < ds.length - i ∧ ∃ i, i ≤ ds.length ∧ m_1 = ds.length - i ∧ St i s'.heap ∧ Cs w s₀ cenv D R m (outs ++ outsOf tst o (ds.take i)) s')
          (notedBy (model PW w) A cenv fun e s' => RR (.error e) s') s₃ := fun s₃ c₃ st₃ => wpAny_pure ⟨rfl, ds.length - (i + 1), by omega, i + 1, hlt, rfl, st₃, c₃.sub (fun y d' e => by
        by_cases hy : y = x
        · subst hy; rw [hmx] at e; cases e
        · have hb : (y == x) = false := by simpa using hy
          simp only [List.lookup_cons, hb]; exact e) fun p hp => hp⟩
    refine wpAny_bind ((htst d hmem).go s₂ _ _ (B.keeps cs₂.keep) cs₂.rd fun s₃ k₃ => ?_)
    have cs₃ := cs₂.keeps k₃
    have st₃ : St (i + 1) s₃.heap := W.frame _ _ _ st₂ fun b _ o' e => k₃.heap b o' e
    cases ht : tst d with
    | false =>
      rw [if_neg (by decide)]
      exact back s₃ (by rw [houts, ht]; simpa using cs₃) st₃
    | true =>
      rw [if_pos rfl]
      obtain ⟨RF, hRF, hF⟩ := objsOf (fun b hb => let ⟨o', e, _⟩ := it.has (i + 1) _ st₃ b hb; ⟨o', e⟩)
      have cs₄ := cs₃.add (R' := RF) fun p hp => ⟨(hRF p hp).1, fun q => hDf (q ▸ (hRF p hp).2), fun q => hLf (q ▸ (hRF p hp).2)⟩
      refine hbody d hmem ht _ _ s₃ _ _ _ ?_ cs₄ fun s₅ cs₅ => ?_
      · rw [List.append_assoc]
        rw [houts, ht, if_pos rfl] at hpre
        rw [List.length_append] at hsz ⊢
        omega
      · refine back s₅ ?_ ?_
        · rw [houts, ht, if_pos rfl, ← List.append_assoc]
          exact cs₅.sub (fun _ _ e => e) fun p hp => List.mem_append_right _ hp
        · exact W.frame _ _ _ st₃ (objsKeep (fun p hp => (hRF p hp).1) hF fun p hp => (cs₅.prot p (List.mem_append_left _ hp)).1)
  · have hin : i = ds.length := by omega
    subst hin
    refine W.done s' _ _ st fun h₁ tk₁ hk₁ => wpAny_pure (hRR _ ?_)
    have := cs.but (tk := tk₁) hk₁ hw tupw hDw hLw hRw
    rwa [List.take_length] at this
end
end Mine

namespace Mine

/-- the names that a comprehension takes from around -/
def Cap (env : Env) (scope : Scope) (cl : List (Str × Addr)) (m mc : List (Str × DD)) : Prop :=
  ∀ y d, mc.lookup y = some d → m.lookup y = some d ∧ env.kindOf y = some .cell ∧ (relabel scope env).names.lookup y = some .cell ∧ cl.lookup y = env.cells.lookup y
theorem cap_nil {env : Env} {scope : Scope} {cl : List (Str × Addr)} {m : List (Str × DD)} : Cap env scope cl m [] := fun y d e => by cases e
theorem cap_cons {env : Env} {scope : Scope} {cl : List (Str × Addr)} {m mc : List (Str × DD)} {y : Str} {d : DD} (h1 : m.lookup y = some d) (h2 : env.kindOf y = some .cell) (h3 : (relabel scope env).names.lookup y = some .cell) (h4 : cl.lookup y = env.cells.lookup y)
    (h : Cap env scope cl m mc) : Cap env scope cl m ((y, d) :: mc) := fun z d' e => by
  by_cases hz : z = y
  · subst hz
    simp only [List.lookup_cons, beq_self_eq_true, Option.some.injEq] at e
    subst e
    exact ⟨h1, h2, h3, h4⟩
  · have hb : (z == y) = false := by simpa using hz
    simp only [List.lookup_cons, hb] at e
    exact h z d' e

structure CompOk (env : Env) (scope : Scope) (cl : List (Str × Addr)) : Prop where
  clos : closureFor scope env = pure cl
  cell : ∀ y ∈ scope.names, y.2 ≠ .cell
  kind : scope.kind = .function
  names : ∀ y ∈ scope.names, y.2 = .local → scope.names.lookup y.1 = some .local

theorem envOk_comp {env : Env} {scope : Scope} {cl : List (Str × Addr)} {C : Addr} (ok : EnvOk env) (co : CompOk env scope cl) : EnvOk (compEnvC scope cl C env) := ⟨co.kind, ok.g, ok.b⟩

section
variable {w : World} {mg : Str → Option Value} {A : Around} {env : Env} {m mc : List (Str × DD)}

/-- two objects laid one after the other -/
theorem two_new {h g : Heap} {o : Obj} (hf : o.isFreed = false) {q : Obj} (x : Heap.SameBut (h.push o).objs.size ((h.push o).push q) g) :
    (∀ b p, h.get? b = some p → g.get? b = some p) ∧ g.get? h.objs.size = some o ∧ h.objs.size ≠ (h.push o).objs.size ∧ (h.push o).objs.size = h.objs.size + 1 := by
  have e := Heap.size_push h o
  have l : h.objs.size < (h.push o).objs.size := by rw [e]; exact Nat.lt_succ_self _
  exact ⟨fun b p hb => x.extBut b p (Nat.ne_of_lt (Nat.lt_trans (Heap.lt_size hb) l)) (Heap.get?_push_of_some q (Heap.get?_push_of_some o hb)),
    x.extBut _ o (Nat.ne_of_lt l) (Heap.get?_push_of_some q (Heap.get?_push_size h hf)), Nat.ne_of_lt l, e⟩
theorem comp_block {s s₂ : Shared} {E : Value → Shared → Prop} {e : PySem.Expr} {it0 : PySem.Expr} {elt target : PySem.Expr} {ifs : List PySem.Expr} {rest : List Comprehension} {scope : Scope} {pos : Pos} {cl : List (Str × Addr)} {I : Addr} {fp wr : List Addr} {P : Nat → Value → Prop} {St : Nat → Heap → Prop} {T : List (Addr × Obj)} {ds outs : List DD} {RR : Value → Addr → Result → Shared → Prop}
    (he : e = .ListComp elt (⟨target, it0, ifs, 0⟩ :: rest) scope pos)
    (hh : A.handled = none) (co : CompOk env scope cl) (cap : Cap env scope cl m mc) (R : Rd w env m s.heap) (k₂ : Ks s s₂) (itn : IterOn w I fp wr P St T ds) (hst : St 0 s₂.heap) (hT : ∀ p ∈ T, s₂.heap.get? p.1 = some p.2)
    (hloop : ∀ D C s₄ (RL : Result → Shared → Prop), Cs w s (compEnvC scope cl C env) D T mc [] s₄ → St 0 s₄.heap → D ∉ fp → C ∉ fp → (∀ s', Cs w s (compEnvC scope cl C env) D T mc outs s' → RL (.ok .next) s') →
      codeAny (model PW w) A (.compLoop e 0 (.ref I) (.ref D) (compEnvC scope cl C env)) RL s₄)
    (hRR : ∀ D C s', Cs w s (compEnvC scope cl C env) D T mc outs s' → RR (.ref D) C (.ok .next) s') :
    wpAny (model PW w) A (newList []) (fun acc s₃ => wpAny (model PW w) A (newFunctionEnv scope env.globals cl [] env.qual none .none (some env)) (fun cenv s₄ =>
      codeAny (model PW w) A (.compStart e 0 (.ref I) acc { cenv with scope := relabel scope env }) (RR acc cenv.locals) s₄) E s₃) E s₂ := by
  subst he
  refine wpAny_newObj_type (wpAny_newFunctionEnv co.cell (fun _ hy => nomatch hy) (fun g hns hext => ?_) co.kind)
  dsimp only at hns hext ⊢
  obtain ⟨up, hlist, hne, hsz⟩ := two_new (h := s₂.heap) (o := { cls := .type "list", dict := none, data := .seq ([] : List Value).toArray }) rfl hext
  clear hext
  generalize hCe : (s₂.heap.push { cls := .type "list", dict := none, data := .seq ([] : List Value).toArray }).objs.size = C at *
  have out : ∀ b o, s₂.heap.get? b = some o → b ≠ s₂.heap.objs.size ∧ b ≠ C := fun b o e => ⟨Nat.ne_of_lt (Heap.lt_size e), Nat.ne_of_lt (by rw [hsz]; exact Nat.lt_succ_of_lt (Heap.lt_size e))⟩
  have new : ∀ b, s₂.heap.objs.size ≤ b → s.heap.get? b = none := fun b hb => Option.eq_none_iff_forall_ne_some.mpr fun o e => Nat.not_le_of_lt (Heap.lt_size (k₂.heap _ _ e)) hb
  have inFp : ∀ b ∈ fp, b ≠ s₂.heap.objs.size ∧ b ≠ C := fun b hb => by obtain ⟨o, ho, _⟩ := itn.has 0 _ hst b hb; exact out b o ho
  have st₁ : St 0 g := (itn.walks A hh).frame _ _ _ hst fun b _ o e => up b o e
  have begun : ∀ t, Cs w s (compEnvC scope cl C env) s₂.heap.objs.size T mc [] { s₂ with heap := g, toks := t } := fun t => by
    obtain ⟨h0, t0, e0⟩ := k₂.same
    refine ⟨⟨g, t, by rw [e0]⟩, fun b o e => up b o (k₂.heap b o e), ⟨_, hns, fun y d e => .inr ?_⟩, ⟨#[], ⟨_, hlist⟩, .nil⟩, new _ (Nat.le_refl _), new C (by rw [hsz]; exact Nat.le_succ _), hne, fun p hp => ⟨up _ _ (hT p hp), (out _ _ (hT p hp)).1, (out _ _ (hT p hp)).2⟩⟩
    obtain ⟨c1, c2, c3, c4⟩ := cap y d e
    obtain ⟨v, V, r⟩ := R y d c1
    rcases V with ⟨q, _⟩ | ⟨_, c, hc, ic⟩
    · rw [c2] at q; cases q
    · exact ⟨c3, c, v, c4.trans hc, ic, r⟩
  have turns : ∀ t, codeAny (model PW w) A (.compLoop (.ListComp elt (⟨target, it0, ifs, 0⟩ :: rest) scope pos) 0 (.ref I) (.ref s₂.heap.objs.size) (compEnvC scope cl C env)) (RR (.ref s₂.heap.objs.size) C) { s₂ with heap := g, toks := t } := fun t =>
    hloop _ C _ _ (begun t) st₁ (fun q => (inFp _ q).1 rfl) (fun q => (inFp _ q).2 rfl) fun s' c => hRR _ _ s' c
  exact codeAny_compStart_list (turns _) ((itn.walks A hh).self 0 _ _ _ st₁ (turns _))

theorem Cs.res {s s' : Shared} {cenv : Env} {D : Addr} {R : List (Addr × Obj)} {outs : List DD} (c : Cs w s cenv D R mc outs s') : Rep w s'.heap (.ref D) (.list outs) := by
  obtain ⟨ys, hl, hr⟩ := c.acc
  exact ⟨D, ys, rfl, hl.isList, hr⟩

/-- a comprehension's value, given its loop -/
theorem ev_comp {elt target iter : PySem.Expr} {ifs : List PySem.Expr} {rest : List Comprehension} {scope : Scope} {pos : Pos} {cl : List (Str × Addr)} {src : Option Str} {ds outs : List DD}
    (hh : A.handled = none) (co : CompOk env scope cl) (cap : Cap env scope cl m mc) (hi : EvI w mg A env m iter src ds)
    (hloop : ∀ (s : Shared) I fp wr P St T D C s₄ (RL : Result → Shared → Prop), Bs w mg s.heap → IterOn w I fp wr P St T ds → (∀ b ∈ wr, s.heap.get? b = none) → Cs w s (compEnvC scope cl C env) D T mc [] s₄ → St 0 s₄.heap → D ∉ fp → C ∉ fp →
      (∀ s', Cs w s (compEnvC scope cl C env) D T mc outs s' → RL (.ok .next) s') →
      codeAny (model PW w) A (.compLoop (.ListComp elt (⟨target, iter, ifs, 0⟩ :: rest) scope pos) 0 (.ref I) (.ref D) (compEnvC scope cl C env)) RL s₄)
    (hs : ∀ x, foldedSetIterable iter env x = pure x := by intro _; rfl) : Ev w mg A env m (.ListComp elt (⟨target, iter, ifs, 0⟩ :: rest) scope pos) true (.list outs) := .mk fun s E Q B R hQ => by
  rw [eval_ListComp]
  refine wpAny_comprehension_free (use := none) rfl hs co.clos co.kind co.names (hi.go s E _ B R fun I fp wr P St T s₂ k₂ itn st hT hw hf => ?_)
  refine comp_block (RR := fun acc C => compPost (model PW w) A E none Q acc C) rfl hh co cap R k₂ itn st hT (fun D C s₄ RL c st₄ hD hC hRL => hloop s I fp wr P St T D C s₄ RL B itn hw c st₄ hD hC hRL) fun D C s' c => ?_
  obtain ⟨mm, hn, _⟩ := id c.ns
  refine ⟨mm, hn, fun h' hs' => ?_⟩
  obtain ⟨h0, t0, e0⟩ := c.same
  obtain ⟨ys, hl, hr⟩ := id c.acc
  have hl' := hl.extBut hs'.extBut c.ne
  refine hQ _ _ ⟨⟨h', t0, by rw [e0]⟩, fun b o e => hs'.extBut b o (fun q => by have := c.nL; rw [show (compEnvC scope cl C env).locals = C from rfl, ← q, e] at this; cases this) (c.keep b o e)⟩ ⟨D, ys, rfl, hl'.isList, ?_⟩ fun _ a ea => ?_
  · exact readsAll_at hr fun b o e ho => hs'.extBut b o (fun q => ns_notTup hn (q ▸ e) ho) e
  · cases ea
    obtain ⟨n, e'⟩ := hl'
    exact ⟨c.nD, _, e', rfl, rfl⟩

theorem rep_flat {h : Heap} {v : Value} {d : DD} (hf : (∀ l, d ≠ .list l) ∧ ∀ D, d ≠ .dict D) (r : Rep w h v d) : Reads h v d [] := by
  cases d with
  | list l => exact absurd rfl (hf.1 l)
  | dict D => exact absurd rfl (hf.2 D)
  | _ => exact r
theorem outsOf_one (tst : DD → Bool) (f : DD → DD) (ds : List DD) : outsOf tst (fun d => [f d]) ds = (ds.filter tst).map f := by
  induction ds with
  | nil => rfl
  | cons d r ih =>
    unfold outsOf at ih ⊢
    rw [List.flatMap_cons, ih]
    cases h : tst d <;> simp [h]

/-- one clause -/
theorem loop1 {elt iter : PySem.Expr} {x : Str} {px : Pos} {ifs : List PySem.Expr} {scope : Scope} {pos : Pos} {cl : List (Str × Addr)} {ds : List DD} {tst : DD → Bool} {f : DD → DD} {fr : Bool}
    (ok : EnvOk env) (hh : A.handled = none) (co : CompOk env scope cl) (hx : scope.names.lookup x = some .local) (hmx : mc.lookup x = none)
    (htst : ∀ C, ∀ d ∈ ds, Trs w mg A (compEnvC scope cl C env) ((x, d) :: mc) ifs (tst d))
    (helt : ∀ C, ∀ d ∈ ds, tst d = true → Ev w mg A (compEnvC scope cl C env) ((x, d) :: mc) elt fr (f d)) (hfl : ∀ d ∈ ds, tst d = true → (∀ l, f d ≠ .list l) ∧ ∀ D, f d ≠ .dict D) (hsz : ds.length ≤ sizeLine)
    (s : Shared) (I : Addr) (fp wr : List Addr) (P : Nat → Value → Prop) (St : Nat → Heap → Prop) (T : List (Addr × Obj)) (D C : Addr) (s₄ : Shared) (RL : Result → Shared → Prop) (B : Bs w mg s.heap) (itn : IterOn w I fp wr P St T ds) (hw : ∀ b ∈ wr, s.heap.get? b = none)
    (c : Cs w s (compEnvC scope cl C env) D T mc [] s₄) (st : St 0 s₄.heap) (hD : D ∉ fp) (hC : C ∉ fp) (hRL : ∀ s', Cs w s (compEnvC scope cl C env) D T mc ((ds.filter tst).map f) s' → RL (.ok .next) s') :
    codeAny (model PW w) A (.compLoop (.ListComp elt [⟨.Name x px, iter, ifs, 0⟩] scope pos) 0 (.ref I) (.ref D) (compEnvC scope cl C env)) RL s₄ := by
  have key := outsOf_one tst f ds
  have tupT : ∀ p ∈ T, p.1 ∉ wr := fun p hp hw' => by
    obtain ⟨vs, n, h1, h2⟩ := itn.tup p hp
    obtain ⟨o, ho, hc, _⟩ := itn.has 0 _ st p.1 ((itn.walks A hh).sub _ hw')
    rw [(c.prot p hp).1] at ho; cases ho; exact hc h1
  refine comp_loop (turn := ?_) (body := fun kk => (do let _ ← call (.builtin "list.append") [.ref D, ← eval elt (compEnvC scope cl C env)]) >>= fun _ => kk) (o := fun d => [f d]) (p := iter.pos) (px := px) (ifs := ifs) hh (envOk_comp ok co) (lookup_relabel_local hx) hmx B itn hw hD hC st (fun p hp => hp) tupT c (htst C) ?_ ?_ fun s' c' => hRL s' ?_
  · rw [compTurn_list]; rfl
  · intro d hd ht R' outs' s' E' Q' kk hs' c' hQ'
    refine wpAny_bind (wpAny_bind ((helt C d hd ht).go s' _ _ (B.keeps c'.keep) c'.rd fun v s₅ k₅ r₅ _ => wpAny_bind (cs_append (c'.keeps k₅) ?_ ?_ fun s₆ c₆ _ => wpAny_pure (hQ' s₆ c₆))))
    · exact rep_flat (hfl d hd ht) r₅
    · rw [List.length_append] at hs'; omega
  · rw [key, List.nil_append, List.length_map]
    exact Nat.le_trans (List.length_filter_le _ _) hsz
  · rw [key] at c'; exact c'

theorem ev_comp1 {elt iter : PySem.Expr} {x : Str} {px : Pos} {ifs : List PySem.Expr} {scope : Scope} {pos : Pos} {cl : List (Str × Addr)} {src : Option Str} {ds : List DD} {tst : DD → Bool} {f : DD → DD} {fr : Bool}
    (ok : EnvOk env) (hh : A.handled = none) (co : CompOk env scope cl) (cap : Cap env scope cl m mc) (hx : scope.names.lookup x = some .local) (hmx : mc.lookup x = none) (hi : EvI w mg A env m iter src ds)
    (htst : ∀ C, ∀ d ∈ ds, Trs w mg A (compEnvC scope cl C env) ((x, d) :: mc) ifs (tst d))
    (helt : ∀ C, ∀ d ∈ ds, tst d = true → Ev w mg A (compEnvC scope cl C env) ((x, d) :: mc) elt fr (f d)) (hfl : ∀ d ∈ ds, tst d = true → (∀ l, f d ≠ .list l) ∧ ∀ D, f d ≠ .dict D) (hsz : ds.length ≤ sizeLine)
    (hs : ∀ x, foldedSetIterable iter env x = pure x := by intro _; rfl) : Ev w mg A env m (.ListComp elt [⟨.Name x px, iter, ifs, 0⟩] scope pos) true (.list ((ds.filter tst).map f)) :=
  ev_comp hh co cap hi (loop1 ok hh co hx hmx htst helt hfl hsz) hs

theorem codeAny_compStart1 {RR : Result → Shared → Prop} {elt target iter : PySem.Expr} {ifs : List PySem.Expr} {g0 : Comprehension} {scope : Scope} {pos : Pos} {it acc : Value} {cenv : Env} {s : Shared} {E : Value → Shared → Prop}
    (h0 : codeAny (model PW w) A (.compLoop (.ListComp elt [g0, ⟨target, iter, ifs, 0⟩] scope pos) 1 it acc cenv) RR s)
    (h : wpAny (model PW w) A (pyIter it) (fun it' s' => codeAny (model PW w) A (.compLoop (.ListComp elt [g0, ⟨target, iter, ifs, 0⟩] scope pos) 1 it' acc cenv) RR s')
      (notedBy (model PW w) A cenv fun x s' => RR (.error x) s') s) :
    codeAny (model PW w) A (.compStart (.ListComp elt [g0, ⟨target, iter, ifs, 0⟩] scope pos) 1 it acc cenv) RR s := by
  -- either way the run goes on with the inner loop: over the iterator, or over what iter makes of it once more
  have key : wpAny (model PW w) A (compStart (.ListComp elt [g0, ⟨target, iter, ifs, 0⟩] scope pos) 1 it acc cenv)
      (fun fin s' => match fin with | .done f => RR (.ok f) s' | .again c' => c'.quiet = true ∧ codeAny (model PW w) A c' RR s') (notedBy (model PW w) A cenv fun x s' => RR (.error x) s') s := by
    unfold compStart
    refine wpAny_bind (m := ask) (wpAny_askSetting (wpAny_ite_split (fun _ => ?first) fun _ => ?more))
    case first => exact wpAny_bind (wpAny_pure (wpAny_pure ⟨rfl, h0⟩))
    case more =>
      refine wpAny_bind (wpAny_rule (wpAny_bind (wpAny_standAt ?_)))
      exact wpAny_bind (wpAny_mono h (fun _ _ q => wpAny_pure ⟨rfl, q⟩) fun _ _ x => x)
  exact codeAny_of_tree (wpAny_notedAt key)

/-- two clauses without tests -/
theorem ev_comp2 {elt i0 i1 : PySem.Expr} {x y : Str} {px py : Pos} {scope : Scope} {pos : Pos} {cl : List (Str × Addr)} {src : Option Str} {ds : List DD} {es : DD → List DD} {f : DD → DD → DD} {fr : Bool}
    (ok : EnvOk env) (hh : A.handled = none) (co : CompOk env scope cl) (cap : Cap env scope cl m mc) (hx : scope.names.lookup x = some .local) (hy : scope.names.lookup y = some .local) (hmx : mc.lookup x = none) (hmy : mc.lookup y = none) (hyx : y ≠ x) (hi : EvI w mg A env m i0 src ds)
    (hi1 : ∀ C, ∀ d ∈ ds, EvI w mg A (compEnvC scope cl C env) ((x, d) :: mc) i1 none (es d))
    (helt : ∀ C, ∀ d ∈ ds, ∀ d' ∈ es d, Ev w mg A (compEnvC scope cl C env) ((y, d') :: (x, d) :: mc) elt fr (f d d')) (hfl : ∀ d ∈ ds, ∀ d' ∈ es d, (∀ l, f d d' ≠ .list l) ∧ ∀ D, f d d' ≠ .dict D) (hsz : (ds.flatMap es).length ≤ sizeLine)
    (hs : ∀ x, foldedSetIterable i0 env x = pure x := by intro _; rfl) (hs1 : ∀ env' x, foldedSetIterable i1 env' x = pure x := by intro _ _; rfl) :
    Ev w mg A env m (.ListComp elt [⟨.Name x px, i0, [], 0⟩, ⟨.Name y py, i1, [], 0⟩] scope pos) true (.list (ds.flatMap fun d => (es d).map (f d))) := by
  have key : ∀ (g : DD → List DD), outsOf (fun _ => true) g ds = ds.flatMap g := fun g => by unfold outsOf; simp
  refine ev_comp hh co cap hi (fun s I fp wr P St T D C s₄ RL B itn hw c st hD hC hRL => ?_) hs
  have tupT : ∀ p ∈ T, p.1 ∉ wr := fun p hp hw' => by
    obtain ⟨vs, n, h1, h2⟩ := itn.tup p hp
    obtain ⟨o, ho, hc, _⟩ := itn.has 0 _ st p.1 ((itn.walks A hh).sub _ hw')
    rw [(c.prot p hp).1] at ho; cases ho; exact hc h1
  have okc := envOk_comp (C := C) ok co
  refine comp_loop (turn := by rfl) (p := i0.pos) (px := px) (ifs := []) (body := fun kk => do
      let u ← eval i1 (compEnvC scope cl C env)
      standAt i1.pos
      let u ← foldedSetIterable i1 (compEnvC scope cl C env) u
      let _ ← runOwn (.compStart (.ListComp elt [⟨.Name x px, i0, [], 0⟩, ⟨.Name y py, i1, [], 0⟩] scope pos) 1 (← holding [u] (pyIter u)) (.ref D) (compEnvC scope cl C env)) (compEnvC scope cl C env)
      kk) (tst := fun _ => true) (o := fun d => (es d).map (f d)) hh okc (lookup_relabel_local hx) hmx B itn hw hD hC st (fun p hp => hp) tupT c (fun _ _ => trs_nil) ?_ ?_ fun s' c' => hRL s' (by rwa [key, List.nil_append] at c')
  · intro d hd _ R' outs' s' E' Q' kk hs' c' hQ'
    refine wpAny_bind (wpAny_mono (Q := fun x₀ s₁ => wpAny (model PW w) A (pyIter x₀) (fun it s₂ => wpAny (model PW w) A (runOwn (.compStart (.ListComp elt [⟨.Name x px, i0, [], 0⟩, ⟨.Name y py, i1, [], 0⟩] scope pos) 1 it (.ref D) (compEnvC scope cl C env)) (compEnvC scope cl C env)) (fun _ s₃ => wpAny (model PW w) A kk Q' E' s₃) E' s₂) E' s₁)
      ((hi1 C d hd).go s' _ _ (B.keeps c'.keep) c'.rd fun I₂ fp₂ wr₂ P₂ St₂ T₂ s₅ k₅ it₂ st₂ hT₂ hw₂ hf₂ => ?_) (fun x₀ s₁ h₁ => ?_) fun _ _ e => e)
    · have c₅ := c'.keeps k₅
      have mem : ∀ b ∈ fp₂, b ≠ D ∧ b ≠ C := fun b hb => by
        rcases hf₂ b hb with h | ⟨_, h, _⟩
        · refine ⟨fun q => ?_, fun q => ?_⟩
          · obtain ⟨ys, ⟨n, e⟩, _⟩ := c'.acc
            rw [q, e] at h; cases h
          · obtain ⟨mm, ⟨o, _, _, e, _⟩, _⟩ := c'.ns
            rw [q, show s'.heap.get? C = some o from e] at h; cases h
        · cases h
      have prT : ∀ p ∈ T₂, s₅.heap.get? p.1 = some p.2 ∧ p.1 ≠ D ∧ p.1 ≠ C := fun p hp => ⟨hT₂ p hp, fun q => by
          obtain ⟨ys, ⟨n, e⟩, _⟩ := c₅.acc
          obtain ⟨_, _, h1, _⟩ := it₂.tup p hp
          have h := hT₂ p hp
          rw [q, e] at h; rw [← Option.some.inj h] at h1; simp at h1, fun q => by
          obtain ⟨mm, hn, _⟩ := c₅.ns
          exact ns_notTup hn (q ▸ hT₂ p hp) (it₂.tup p hp)⟩
      have c₆ := c₅.add (R' := T₂) prT
      have s₀none : ∀ b ∈ wr₂, s.heap.get? b = none := fun b hb => by
        rcases q : s.heap.get? b with _ | o
        · rfl
        · have := c'.keep _ _ q; rw [hw₂ b hb] at this; cases this
      have tup₂ : ∀ p ∈ T₂ ++ R', p.1 ∉ wr₂ := fun p hp hw' => by
        rcases List.mem_append.mp hp with hp | hp
        · obtain ⟨vs, n, h1, h2⟩ := it₂.tup p hp
          obtain ⟨o, ho, hc, _⟩ := it₂.has 0 _ st₂ p.1 ((it₂.walks A hh).sub _ hw')
          rw [hT₂ p hp] at ho; cases ho; exact hc h1
        · have := hw₂ _ hw'; rw [(c'.prot p hp).1] at this; cases this
      have tail : ∀ (RL₂ : Result → Shared → Prop), (∀ s'', Cs w s (compEnvC scope cl C env) D (T₂ ++ R') ((x, d) :: mc) (outs' ++ (es d).map (f d)) s'' → RL₂ (.ok .next) s'') →
          codeAny (model PW w) A (.compLoop (.ListComp elt [⟨.Name x px, i0, [], 0⟩, ⟨.Name y py, i1, [], 0⟩] scope pos) 1 (.ref I₂) (.ref D) (compEnvC scope cl C env)) RL₂ s₅ := fun RL₂ hRL₂ => by
        refine comp_loop (turn := by rfl) (p := i1.pos) (px := py) (ifs := []) (tst := fun _ => true) (o := fun d' => [f d d']) (body := fun kk => (do let _ ← call (.builtin "list.append") [.ref D, ← eval elt (compEnvC scope cl C env)]) >>= fun _ => kk) hh okc (lookup_relabel_local hy) ?_ B it₂ s₀none (fun h => (mem _ h).1 rfl) (fun h => (mem _ h).2 rfl) st₂ (fun p hp => List.mem_append_left _ hp) tup₂ c₆ (fun _ _ => trs_nil) ?_ ?_ fun s'' c'' => hRL₂ s'' ?_
        · have : (y == x) = false := by simpa using hyx
          simp only [List.lookup_cons, this]; exact hmy
        · intro d' hd' _ R₃ o₃ s₇ E₇ Q₇ kk₇ hs₇ c₇ hQ₇
          refine wpAny_bind (wpAny_bind ((helt C d hd d' hd').go s₇ _ _ (B.keeps c₇.keep) c₇.rd fun v s₈ k₈ r₈ _ => wpAny_bind (cs_append (c₇.keeps k₈) ?_ ?_ fun s₉ c₉ _ => wpAny_pure (hQ₇ s₉ c₉))))
          · exact rep_flat (hfl d hd d' hd') r₈
          · rw [List.length_append] at hs₇; omega
        · rw [outsOf_one, List.filter_eq_self.mpr (fun _ _ => rfl)]; simpa using hs'
        · rw [outsOf_one, List.filter_eq_self.mpr (fun _ _ => rfl)] at c''; simpa using c''
      refine wpAny_runOwn (codeAny_compStart1 (E := E') (tail _ fun s'' c'' => hQ' s'' (c''.sub (fun _ _ e => e) fun p hp => List.mem_append_right _ hp)) ((it₂.walks A hh).self 0 s₅ _ _ st₂ (tail _ fun s'' c'' => hQ' s'' (c''.sub (fun _ _ e => e) fun p hp => List.mem_append_right _ hp))))
    · refine wpAny_bind (wpAny_standAt ?_)
      rw [hs1]
      exact wpAny_bind (wpAny_pure (wpAny_bind (wpAny_holding (wpAny_mono h₁ (fun it s₂ h₂ => wpAny_bind h₂) fun _ _ e => e))))
  · rw [key, List.nil_append]
    have : ∀ l : List DD, (l.flatMap fun d => (es d).map (f d)).length = (l.flatMap es).length := fun l => by induction l <;> simp_all
    rw [this]; exact hsz
end
end Mine

namespace Mine

/-- how statements end -/
inductive Res
  | next (m : List (Str × DD)) (own : List Str)
  | cont (m : List (Str × DD)) (own : List Str)
  | ret (d : DD)

def Post (w : World) (s₀ : Shared) (env : Env) (R : List (Addr × Obj)) : Res → Flow → Shared → Prop
  | .next m own, f, s => f = .next ∧ Fx w s₀ env m own R s
  | .cont m own, f, s => f = .cont ∧ Fx w s₀ env m own R s
  | .ret d, f, s => ∃ v, f = .ret v ∧ Ks s₀ s ∧ Rep w s.heap v d ∧ New s₀.heap s.heap v

structure Sx (w : World) (mg : Str → Option Value) (A : Around) (env : Env) (st : List Stmt) (m : List (Str × DD)) (own : List Str) (res : Res) : Prop where
  mk ::
  go : ∀ (s₀ : Shared) (R : List (Addr × Obj)) (s : Shared) (E : Value → Shared → Prop) (Q : Flow → Shared → Prop), Bs w mg s₀.heap → Fx w s₀ env m own R s →
    (∀ f s', Post w s₀ env R res f s' → Q f s') → wpAny (model PW w) A (execs st env) Q E s
structure X1 (w : World) (mg : Str → Option Value) (A : Around) (env : Env) (st : Stmt) (m : List (Str × DD)) (own : List Str) (res : Res) : Prop where
  mk ::
  go : ∀ (s₀ : Shared) (R : List (Addr × Obj)) (s : Shared) (E : Value → Shared → Prop) (Q : Flow → Shared → Prop), Bs w mg s₀.heap → Fx w s₀ env m own R s →
    (∀ f s', Post w s₀ env R res f s' → Q f s') → wpAny (model PW w) A (exec st env) Q E s

section
variable {w : World} {mg : Str → Option Value} {A : Around} {env : Env} {m m1 : List (Str × DD)} {own own1 : List Str} {res : Res}

theorem sx_nil : Sx w mg A env [] m own (.next m own) := .mk fun s₀ R s E Q B F hQ => wpAny_execs_nil (hQ _ _ ⟨rfl, F⟩)
theorem sx_cons {st : Stmt} {rest : List Stmt} (h : X1 w mg A env st m own (.next m1 own1)) (hr : Sx w mg A env rest m1 own1 res) : Sx w mg A env (st :: rest) m own res := .mk fun s₀ R s E Q B F hQ =>
  wpAny_execs_cons (h.go s₀ R s E _ B F fun f s' p => by obtain ⟨rfl, F'⟩ := p; exact hr.go s₀ R s' E Q B F' hQ)
theorem sx_ret {st : Stmt} {rest : List Stmt} {d : DD} (h : X1 w mg A env st m own (.ret d)) : Sx w mg A env (st :: rest) m own (.ret d) := .mk fun s₀ R s E Q B F hQ =>
  wpAny_execs_cons (h.go s₀ R s E _ B F fun f s' p => by obtain ⟨v, rfl, h1⟩ := id p; exact hQ _ _ p)
theorem sx_cont {st : Stmt} {rest : List Stmt} (h : X1 w mg A env st m own (.cont m1 own1)) : Sx w mg A env (st :: rest) m own (.cont m1 own1) := .mk fun s₀ R s E Q B F hQ =>
  wpAny_execs_cons (h.go s₀ R s E _ B F fun f s' p => by obtain ⟨rfl, h1⟩ := id p; exact hQ _ _ p)

theorem sx_weak {st : List Stmt} {m2 : List (Str × DD)} {own2 : List Str} (h : Sx w mg A env st m own (.next m1 own1)) (hm : Sb m2 m1) (ho : ∀ x ∈ own2, x ∈ own1) : Sx w mg A env st m own (.next m2 own2) := .mk fun s₀ R s E Q B F hQ =>
  h.go s₀ R s E Q B F fun f s' p => hQ f s' ⟨p.1, p.2.weaken hm ho fun _ h => h⟩
theorem x1_weak {st : Stmt} {m2 : List (Str × DD)} {own2 : List Str} (h : X1 w mg A env st m own (.next m1 own1)) (hm : Sb m2 m1) (ho : ∀ x ∈ own2, x ∈ own1) : X1 w mg A env st m own (.next m2 own2) := .mk fun s₀ R s E Q B F hQ =>
  h.go s₀ R s E Q B F fun f s' p => hQ f s' ⟨p.1, p.2.weaken hm ho fun _ h => h⟩
theorem sx_weakC {st : List Stmt} {m2 : List (Str × DD)} {own2 : List Str} (h : Sx w mg A env st m own (.cont m1 own1)) (hm : Sb m2 m1) (ho : ∀ x ∈ own2, x ∈ own1) : Sx w mg A env st m own (.cont m2 own2) := .mk fun s₀ R s E Q B F hQ =>
  h.go s₀ R s E Q B F fun f s' p => hQ f s' ⟨p.1, p.2.weaken hm ho fun _ h => h⟩
theorem sx_pre {st : List Stmt} {m0 : List (Str × DD)} {own0 : List Str} (h : Sx w mg A env st m own res) (hm : Sb m m0) (ho : ∀ x ∈ own, x ∈ own0) : Sx w mg A env st m0 own0 res := .mk fun s₀ R s E Q B F hQ =>
  h.go s₀ R s E Q B (F.weaken hm ho fun _ h => h) hQ

def FlatD (d : DD) : Prop := (∀ l, d ≠ .list l) ∧ ∀ D, d ≠ .dict D
theorem Fv.keeps {s₀ s s' : Shared} {R : List (Addr × Obj)} {mm cm : Str → Option Value} (F : Fv w s₀ env m own R mm cm s) (k : Ks s s') : Fv w s₀ env m own R mm cm s' := by
  refine ⟨InCallC.keeps' F.ic k, fun x d e => ?_, fun x hx => ?_, fun p hp => ⟨k.heap _ _ (F.prot p hp).1, (F.prot p hp).2⟩⟩
  · obtain ⟨v, h1, h2, h3⟩ := F.vars x d e
    exact ⟨v, h1, h2.keeps k.heap, h3⟩
  · obtain ⟨a, h1, h2, h3, ⟨o, ho, h4⟩, h5, h6⟩ := F.own x hx
    exact ⟨a, h1, h2, h3, ⟨o, k.heap _ _ ho, h4⟩, h5, h6⟩
theorem Apart.sub {mm cm : Str → Option Value} {v : Value} {own' : List Str} (h : Apart env mm cm own v) (ho : ∀ x ∈ own', x ∈ own) : Apart env mm cm own' v := ⟨h.1, fun x hx => h.2 x (ho x hx)⟩
theorem drop1_sub {x : Str} : ∀ y ∈ drop1 x own, y ∈ own := fun y h => (mem_drop1 h).1
theorem New.none {h h' : Heap} {v : Value} (n : New h h' v) : ∀ a, v = .ref a → h.get? a = none := fun a e => (n a e).1

/-- a name is given a value that is flat, or new -/
theorem x1_assign {x : Str} {xp pos : Pos} {e : PySem.Expr} {f : Bool} {d : DD} (ok : EnvOk env) (hk : KindOk env x) (h : Ev w mg A env m e f d) (hf : f = true ∨ FlatD d)
    (hs : swapsWith e (some (.Name x xp)) pos.line env = pure false := by rfl) : X1 w mg A env (.Assign [.Name x xp] e pos) m own (.next ((x, d) :: m) (drop1 x own)) := .mk fun s₀ R s E Q B F hQ => by
  refine wpAny_Assign_Name (h.go s E _ (F.bs B) F.rd fun v s₁ k₁ r₁ n₁ => ?_) hs
  obtain ⟨mm, cm, Fm⟩ := F
  have ap : Apart env mm cm (drop1 x own) v := by
    rcases hf with rfl | hf
    · exact (Fm.newApart (n₁ rfl).none).sub drop1_sub
    · exact ((Fm.keeps k₁).apart (rep_flat hf r₁)).sub drop1_sub
  exact fx_store ok hk (Fm.keeps k₁) r₁ ap fun s' mm' cm' F' _ _ => hQ _ _ ⟨rfl, mm', cm', F'⟩

def MutD (d : DD) : Prop := (∃ l, d = .list l) ∨ ∃ D, d = .dict D
/-- a name is given a new list or dict of its own -/
theorem x1_assignOwn {x : Str} {xp pos : Pos} {e : PySem.Expr} {d : DD} (ok : EnvOk env) (hk : KindOk env x) (h : Ev w mg A env m e true d) (hd : MutD d)
    (hs : swapsWith e (some (.Name x xp)) pos.line env = pure false := by rfl) : X1 w mg A env (.Assign [.Name x xp] e pos) m own (.next ((x, d) :: m) (x :: drop1 x own)) := .mk fun s₀ R s E Q B F hQ => by
  refine wpAny_Assign_Name (h.go s E _ (F.bs B) F.rd fun v s₁ k₁ r₁ n₁ => ?_) hs
  have K0 := F.same
  obtain ⟨mm, cm, Fm⟩ := F
  have Fk := Fm.keeps k₁
  have ap0 := Fm.newApart (n₁ rfl).none
  refine fx_store ok hk Fk r₁ (ap0.sub drop1_sub) fun s' mm' cm' F' hv hh => hQ _ _ ⟨rfl, mm', cm', F'.ic, F'.vars, fun y hy => ?_, F'.prot⟩
  rcases List.mem_cons.mp hy with rfl | hy
  · obtain ⟨a, hva, hcls⟩ : ∃ a, v = .ref a ∧ ∃ o, s₁.heap.get? a = some o ∧ (o.cls = .type "list" ∨ o.cls = .type "dict") ∧ o.dict = none ∧ o.slots = #[] := by
      rcases hd with ⟨l, rfl⟩ | ⟨D, rfl⟩
      · obtain ⟨a, vs, rfl, ⟨o, ho, hc, _⟩, _⟩ := r₁
        obtain ⟨_, o', ho', h1, h2⟩ := n₁ rfl a rfl
        rw [ho] at ho'; cases ho'
        exact ⟨a, rfl, o, ho, .inl hc, h1, h2⟩
      · obtain ⟨a, rfl, ⟨o, ho, hc, h1, h2⟩, _⟩ := r₁
        exact ⟨a, rfl, o, ho, .inr hc, h1, h2⟩
    subst hva
    have hnew := (n₁ rfl).none a rfl
    have nf := ap0.1 a rfl
    refine ⟨a, by rw [hv, if_pos rfl], ?_, nf, ?_, fun p hp q => ?_, fun z d' hz e u hu q => ?_⟩
    · rcases q : s₀.heap.get? a with _ | o
      · rfl
      · have := K0.heap _ _ q; rw [hnew] at this; cases this
    · obtain ⟨o, ho, h1⟩ := hcls
      exact ⟨o, hh _ _ ho nf.1 (fun c hc => nf.2 _ _ hc), h1⟩
    · have := (Fm.prot p hp).1; rw [q, hnew] at this; cases this
    · have hb : (z == y) = false := by simpa using hz
      simp only [List.lookup_cons, hb] at e
      obtain ⟨u', h1, h2, h3⟩ := Fm.vars z d' e
      rw [hv, if_neg hz, h1] at hu
      cases hu
      subst q
      have ex : ∃ o, s.heap.get? a = some o := by
        cases d' with
        | list ds => obtain ⟨b, vs, e', ⟨o, ho, _⟩, _⟩ := h2; cases e'; exact ⟨o, ho⟩
        | dict D => obtain ⟨b, e', ⟨o, ho, _⟩, _⟩ := h2; cases e'; exact ⟨o, ho⟩
        | tuple ds =>
          have h2' : Reads s.heap (.ref a) (.tuple ds) [] := h2
          cases h2' with | tuple t1 _ _ _ => exact ⟨_, t1⟩
        | _ => cases h2
      obtain ⟨o, ho⟩ := ex
      rw [hnew] at ho; cases ho
  · exact F'.own y hy

/-- return of a value that is flat or new -/
theorem x1_ret {pos : Pos} {e : PySem.Expr} {f : Bool} {d : DD} (h : Ev w mg A env m e f d) (hf : f = true ∨ ∀ (h : Heap) a, ¬ Rep w h (.ref a) d) : X1 w mg A env (.Return (some e) pos) m own (.ret d) := .mk fun s₀ R s E Q B F hQ =>
  wpAny_Return_some (h.go s E _ (F.bs B) F.rd fun v s₁ k₁ r₁ n₁ => hQ _ _ ⟨v, rfl, F.same.trans' k₁, r₁, by
    rcases hf with rfl | hf
    · exact (n₁ rfl).back F.same
    · intro a e; subst e; exact absurd r₁ (hf _ _)⟩)
theorem notRef_str {x : Str} : ∀ (h : Heap) a, ¬ Rep w h (.ref a) (.str x) := fun h a r => by cases r
theorem notRef_int {x : Int} : ∀ (h : Heap) a, ¬ Rep w h (.ref a) (.int x) := fun h a r => by cases r
theorem notRef_bool {x : Bool} : ∀ (h : Heap) a, ¬ Rep w h (.ref a) (.bool x) := fun h a r => by cases r
theorem Fx.ownNew {s₀ s : Shared} {R : List (Addr × Obj)} (F : Fx w s₀ env m own R s) {x : Str} (hx : x ∈ own) : ∀ v, VarIs env s.heap x v → New s₀.heap s.heap v := fun v V a e => by
  obtain ⟨mm, cm, Fm⟩ := F
  obtain ⟨a', h1, h2, h3, ⟨o, ho, _, h4, h5⟩, _⟩ := Fm.own x hx
  have V' := Fm.var h1
  have : v = .ref a' := by
    rcases V with ⟨k1, m1, n1, e1⟩ | ⟨k1, c, c1, i1⟩
    · rcases V' with ⟨_, m2, n2, e2⟩ | ⟨k2, _⟩
      · obtain ⟨o1, es1, ep1, q1, d1, _, f1⟩ := n1
        obtain ⟨o2, es2, ep2, q2, d2, _, f2⟩ := n2
        rw [q1] at q2; cases q2
        rw [d1] at d2; cases d2
        have := f1 x; rw [f2 x, e2, e1] at this; exact (Option.some.inj this).symm
      · rw [k1] at k2; cases k2
    · rcases V' with ⟨k2, _⟩ | ⟨_, c', c2, i2⟩
      · rw [k1] at k2; cases k2
      · rw [c1] at c2; cases c2
        obtain ⟨o1, q1, d1⟩ := i1
        obtain ⟨o2, q2, d2⟩ := i2
        rw [q1] at q2; cases q2
        rw [d1] at d2; cases d2; rfl
  subst this
  cases e
  exact ⟨h2, o, ho, h4, h5⟩
theorem x1_retOwn {pos xp : Pos} {x : Str} {d : DD} (ok : EnvOk env) (hm : m.lookup x = some d) (hx : x ∈ own) (hd : (x == ("__debug__" : Str)) = false := by decide) : X1 w mg A env (.Return (some (.Name x xp)) pos) m own (.ret d) := .mk fun s₀ R s E Q B F hQ => by
  obtain ⟨v, V, r⟩ := F.rd x d hm
  have fin : Q (.ret v) s := hQ _ _ ⟨v, rfl, F.same, r, F.ownNew hx v V⟩
  refine wpAny_Return_some (wpAny_Name ?_ hd)
  rcases V with ⟨hl, mm, hn, e⟩ | ⟨hl, c, hc, e⟩
  · exact wpAny_loadName_local ok.k hl hn e fin
  · exact wpAny_loadName_cell ok.k hl hc e fin

theorem x1_if {t : PySem.Expr} {body orelse : List Stmt} {pos : Pos} {b : Bool} (ht : Tr w mg A env m t b) (hb : b = true → Sx w mg A env body m own res) (ho : b = false → Sx w mg A env orelse m own res) :
    X1 w mg A env (.If t body orelse pos) m own res := .mk fun s₀ R s E Q B F hQ =>
  wpAny_If (ht.go s E _ (F.bs B) F.rd fun s₁ k₁ => by
    cases b with
    | true => exact (hb rfl).go s₀ R s₁ E Q B (F.keeps k₁) hQ
    | false => exact (ho rfl).go s₀ R s₁ E Q B (F.keeps k₁) hQ)
theorem x1_continue {pos : Pos} : X1 w mg A env (.Continue pos) m own (.cont m own) := .mk fun s₀ R s E Q B F hQ => wpAny_Continue (hQ _ _ ⟨rfl, F⟩)

theorem x1_augAdd {x : Str} {xp pos : Pos} {e : PySem.Expr} {f : Bool} {a b : Int} (ok : EnvOk env) (hk : KindOk env x) (hm : m.lookup x = some (.int a)) (h : Ev w mg A env m e f (.int b)) :
    X1 w mg A env (.AugAssign (.Name x xp) .Add e pos) m own (.next ((x, .int (a + b)) :: m) (drop1 x own)) := .mk fun s₀ R s E Q B F hQ => by
  obtain ⟨v, V, r⟩ := F.rd x _ hm
  cases r
  rename_i t
  have fin : wpAny (model PW w) A (eval e env) (fun v s₂ => wpAny (model PW w) A (inplaceOp .Add (.int a t) v) (fun r s₃ => wpAny (model PW w) A (storeName env x r) (fun _ => Q .next) E s₃) E s₂) E s :=
    h.go s E _ (F.bs B) F.rd fun v s₁ k₁ r₁ n₁ => by
      cases r₁
      refine PySem.wpAny_iadd_int ?_
      obtain ⟨mm, cm, Fm⟩ := (F.keeps k₁).keeps (Ks.tok s₁ _)
      exact fx_store ok hk Fm (d := .int (a + b)) (.int _ _) ((Fm.apart (.int _ _)).sub drop1_sub) fun s' mm' cm' F' _ _ => hQ _ _ ⟨rfl, mm', cm', F'⟩
  refine wpAny_AugAssign_Name ?_
  rcases V with ⟨hl, mm, hn, e⟩ | ⟨hl, c, hc, e⟩
  · exact wpAny_loadName_local ok.k hl hn e fin
  · exact wpAny_loadName_cell ok.k hl hc e fin

/-- an own object changes -/
theorem Fv.mutate {s₀ s : Shared} {R : List (Addr × Obj)} {mm cm : Str → Option Value} {x : Str} {a : Addr} {d : DD} {h' : Heap} {tk : Nat} (F : Fv w s₀ env m own R mm cm s) (hx : x ∈ own) (ha : vr env mm cm x = some (.ref a)) (hown : ∀ y ∈ own, (m.lookup y).isSome = true)
    (hs : ∀ b o, b ≠ a → s.heap.get? b = some o → h'.get? b = some o) (hr : Rep w h' (.ref a) d) (ho : ∃ o, h'.get? a = some o ∧ (o.cls = .type "list" ∨ o.cls = .type "dict") ∧ o.dict = none ∧ o.slots = #[]) :
    Fv w s₀ env ((x, d) :: m) own R mm cm { s with heap := h', toks := tk } := by
  obtain ⟨a', h1, h2, h3, ⟨o, oh, hc, _⟩, h5, h6⟩ := F.own x hx
  rw [ha] at h1; cases h1
  have nt : NoTup s.heap a := fun o' vs n e hc' => by rw [oh] at e; cases e; rw [hc'] at hc; rcases hc with q | q <;> simp at q
  refine ⟨⟨⟨?_, ?_, fun b o' e => ?_, F.ic.toInCall.fresh⟩, fun n c hc => ?_, F.ic.apart, F.ic.above⟩, fun y d' e => ?_, fun y hy => ?_, fun p hp => ⟨hs _ _ (h5 p hp) (F.prot p hp).1, (F.prot p hp).2⟩⟩
  · obtain ⟨hh, t, e⟩ := F.ic.toInCall.same
    exact ⟨h', tk, by rw [e]⟩
  · exact F.ic.toInCall.ns.at' fun o' e => hs _ _ (Ne.symm h3.1) e
  · exact hs b o' (fun q => by rw [q, h2] at e; cases e) (F.ic.toInCall.keep b o' e)
  · obtain ⟨o', e, hd⟩ := F.ic.cell n c hc
    exact ⟨o', hs _ _ (Ne.symm (h3.2 _ _ hc)) e, hd⟩
  · by_cases hyx : y = x
    · subst hyx
      simp only [List.lookup_cons, beq_self_eq_true, Option.some.injEq] at e
      subst e
      exact ⟨_, ha, hr, fun b q => by cases q; exact h3⟩
    · have hb : (y == x) = false := by simpa using hyx
      simp only [List.lookup_cons, hb] at e
      obtain ⟨v, v1, v2, v3⟩ := F.vars y d' e
      exact ⟨v, v1, v2.but nt hs (h6 y d' hyx e v v1), v3⟩
  · by_cases hyx : y = x
    · subst hyx
      exact ⟨a, ha, h2, h3, ho, h5, fun z d' hz e => h6 z d' hz (by
        have hb : (z == y) = false := by simpa using hz
        simpa only [List.lookup_cons, hb] using e)⟩
    · obtain ⟨b, b1, b2, b3, ⟨ob, b4, b5⟩, b6, b7⟩ := F.own y hy
      obtain ⟨d', hd'⟩ := Option.isSome_iff_exists.mp (hown y hy)
      have hba : b ≠ a := fun q => h6 y d' hyx hd' _ b1 (by rw [q])
      refine ⟨b, b1, b2, b3, ⟨ob, hs _ _ hba b4, b5⟩, b6, fun z d'' hz e u hu => ?_⟩
      by_cases hzx : z = x
      · subst hzx
        rw [ha] at hu; cases hu
        exact fun q => hba (by cases q; rfl)
      · have hb : (z == x) = false := by simpa using hzx
        simp only [List.lookup_cons, hb] at e
        exact b7 z d'' hz e u hu

theorem Fx.ownAt {s₀ s : Shared} {R : List (Addr × Obj)} {mm cm : Str → Option Value} {x : Str} {d : DD} (F : Fv w s₀ env m own R mm cm s) (hx : x ∈ own) (hm : m.lookup x = some d) :
    ∃ a, vr env mm cm x = some (.ref a) ∧ VarIs env s.heap x (.ref a) ∧ Rep w s.heap (.ref a) d ∧ ∃ o, s.heap.get? a = some o ∧ (o.cls = .type "list" ∨ o.cls = .type "dict") ∧ o.dict = none ∧ o.slots = #[] := by
  obtain ⟨a, h1, _, _, h4, _⟩ := F.own x hx
  obtain ⟨v, v1, v2, _⟩ := F.vars x d hm
  rw [h1] at v1; cases v1
  exact ⟨a, h1, F.var h1, v2, h4⟩

theorem own_list {h : Heap} {a : Addr} {ds : List DD} (r : Rep w h (.ref a) (.list ds)) (ho : ∃ o, h.get? a = some o ∧ (o.cls = .type "list" ∨ o.cls = .type "dict") ∧ o.dict = none ∧ o.slots = #[]) :
    ∃ vs n, h.get? a = some { cls := .type "list", dict := none, data := .seq vs n, slots := #[] } ∧ ReadsAll h vs.toList ds [] := by
  obtain ⟨b, vs, e, ⟨o, h1, h2, n, h3⟩, h4⟩ := r
  cases e
  obtain ⟨o', g1, _, g3, g4⟩ := ho
  rw [h1] at g1; cases g1
  obtain ⟨c, di, da, sl⟩ := o
  simp only at h2 h3 g3 g4
  subst h2 h3 g3 g4
  exact ⟨vs, n, h1, h4⟩

theorem eval_nameVar {M : Model} {x : Str} {pos : Pos} {v : Value} {s : Shared} {E Q : Value → Shared → Prop} (ok : EnvOk env) (V : VarIs env s.heap x v) (hd : (x == ("__debug__" : Str)) = false) (h : Q v s) : wpAny M A (eval (.Name x pos) env) Q E s := by
  refine wpAny_Name ?_ hd
  rcases V with ⟨hl, mm, hn, e⟩ | ⟨hl, c, hc, e⟩
  · exact wpAny_loadName_local ok.k hl hn e h
  · exact wpAny_loadName_cell ok.k hl hc e h

theorem x1_append {x : Str} {xp ap cp pos : Pos} {e : PySem.Expr} {f : Bool} {ds : List DD} {d : DD} (ok : EnvOk env) (hx : x ∈ own) (hm : m.lookup x = some (.list ds)) (hown : ∀ y ∈ own, (m.lookup y).isSome = true) (h : Ev w mg A env m e f d) (hf : FlatD d) (hl : ds.length ≤ 1000000)
    (hd : (x == ("__debug__" : Str)) = false := by decide) (he : nS e = true := by rfl)
    (hline : (ap.endLine == cp.line) = true := by decide)
    (hi : interactive env = false := by rfl) (hs : swapsWith (.Call (.Attribute (.Name x xp) "append" ap) [e] [] cp) none pos.line env = pure false := by rfl) :
    X1 w mg A env (.Expr (.Call (.Attribute (.Name x xp) "append" ap) [e] [] cp) pos) m own (.next ((x, .list (ds ++ [d])) :: m) own) := .mk fun s₀ R s E Q B F hQ => by
  obtain ⟨mm, cm, Fm⟩ := id F
  obtain ⟨a, h1, V, r, ho⟩ := Fx.ownAt Fm hx hm
  refine wpAny_Expr ?_ hi hs
  refine wpAny_Call_method_lateS (base_ns rfl) (backTo_few (es := [e]) (by show (nS e && true) = true; rw [he]; rfl) (by simp)) hline (eval_nameVar ok V hd ?_)
  obtain ⟨vs₀, n₀, q₀, _⟩ := own_list r ho
  refine ⟨"list", "list.append", PySem.F.plainAttrs_list, slot_list_append, PySem.F.type_list_append, ⟨_, q₀, rfl⟩, fun b e => by cases e; exact ⟨_, q₀, rfl⟩, ?_⟩
  rw [backTo_ns (es := [e]) (by show (nS e && true) = true; rw [he]; rfl)]
  refine PySem.P.append_list (h.go s E _ (F.bs B) F.rd fun v s₁ k₁ r₁ _ => ?_)
  have F₁ := Fm.keeps k₁
  obtain ⟨_, h1', _, r', ho'⟩ := Fx.ownAt F₁ hx hm
  rw [h1] at h1'; cases h1'
  obtain ⟨vs, n, q, hr⟩ := own_list r' ho'
  have hlen : vs.size = ds.length := by rw [← readsAll_length hr]; simp
  refine ⟨vs, n, by rw [hlen, sizeLine_eq]; omega, q, ?_⟩
  have hup := Heap.get?_update_self (Obj.mapSeq (fun xs => xs.push v)) q (by simp [Obj.mapSeq, Obj.isFreed])
  have hoth : ∀ b o, b ≠ a → s₁.heap.get? b = some o → (s₁.heap.update a (Obj.mapSeq fun xs => xs.push v)).get? b = some o := fun b o hb e => (Heap.get?_update_other _ _ (Ne.symm hb)).trans e
  have tup : ∀ b o, s₁.heap.get? b = some o → IsTupObj o → (s₁.heap.update a (Obj.mapSeq fun xs => xs.push v)).get? b = some o := fun b o e ⟨_, _, hc, _⟩ => hoth b o (fun qq => by rw [qq, q] at e; cases e; simp at hc) e
  refine hQ _ _ ⟨rfl, mm, cm, F₁.mutate hx h1 hown hoth ⟨a, vs.push v, rfl, ⟨_, hup, by simp [Obj.mapSeq], by simp [Obj.mapSeq]⟩, ?_⟩ ⟨_, hup, by simp [Obj.mapSeq], by simp [Obj.mapSeq], by simp [Obj.mapSeq]⟩⟩
  rw [Array.toList_push]
  exact readsAll_append (readsAll_at hr tup) (.cons (as := []) (reads_at (rep_flat hf r₁) tup) .nil)
end
end Mine

namespace Mine
section
variable {w : World} {mg : Str → Option Value} {A : Around} {env : Env} {m m1 : List (Str × DD)} {own own1 : List Str} {res : Res}

theorem x1_extend {x : Str} {xp ap cp pos : Pos} {e : PySem.Expr} {ds es : List DD} (ok : EnvOk env) (hx : x ∈ own) (hm : m.lookup x = some (.list ds)) (hown : ∀ y ∈ own, (m.lookup y).isSome = true) (h : Ev w mg A env m e true (.list es)) (hl : ds.length + es.length ≤ 1000000)
    (hd : (x == ("__debug__" : Str)) = false := by decide) (he : nS e = true := by rfl)
    (hline : (ap.endLine == cp.line) = true := by decide)
    (hi : interactive env = false := by rfl) (hs : swapsWith (.Call (.Attribute (.Name x xp) "extend" ap) [e] [] cp) none pos.line env = pure false := by rfl) :
    X1 w mg A env (.Expr (.Call (.Attribute (.Name x xp) "extend" ap) [e] [] cp) pos) m own (.next ((x, .list (ds ++ es)) :: m) own) := .mk fun s₀ R s E Q B F hQ => by
  obtain ⟨mm, cm, Fm⟩ := id F
  obtain ⟨a, h1, V, r, ho⟩ := Fx.ownAt Fm hx hm
  refine wpAny_Expr ?_ hi hs
  refine wpAny_Call_method_lateS (base_ns rfl) (backTo_few (es := [e]) (by show (nS e && true) = true; rw [he]; rfl) (by simp)) hline (eval_nameVar ok V hd ?_)
  obtain ⟨vs₀, n₀, q₀, _⟩ := own_list r ho
  refine ⟨"list", "list.extend", PySem.F.plainAttrs_list, PySem.F.slot_list_extend, PySem.F.type_list_extend, ⟨_, q₀, rfl⟩, fun b e => by cases e; exact ⟨_, q₀, rfl⟩, ?_⟩
  rw [backTo_ns (es := [e]) (by show (nS e && true) = true; rw [he]; rfl)]
  refine PySem.P.extend_list (h.go s E _ (F.bs B) F.rd fun v s₁ k₁ r₁ n₁ => ?_)
  have F₁ := Fm.keeps k₁
  obtain ⟨_, h1', _, r', ho'⟩ := Fx.ownAt F₁ hx hm
  rw [h1] at h1'; cases h1'
  obtain ⟨vs, n, q, hr⟩ := own_list r' ho'
  obtain ⟨b, us, rfl, hb⟩ : ∃ b us, v = .ref b ∧ Rep w s₁.heap (.ref b) (.list es) := by
    obtain ⟨b, us, rfl, hb⟩ := id r₁
    exact ⟨b, us, rfl, r₁⟩
  obtain ⟨us, k, qb, hrb⟩ := own_list hb (by
    obtain ⟨b', us', e', ⟨o, g1, g2, _⟩, _⟩ := id hb
    cases e'
    obtain ⟨_, o', e1, e2, e3⟩ := n₁ rfl b rfl
    rw [g1] at e1; cases e1
    exact ⟨o, g1, .inl g2, e2, e3⟩)
  have hlen : vs.size = ds.length := by rw [← readsAll_length hr]; simp
  have hlen2 : us.size = es.length := by rw [← readsAll_length hrb]; simp
  refine ⟨b, vs, us, n, k, by rw [hlen, sizeLine_eq]; omega, by rw [hlen, hlen2, sizeLine_eq]; omega, ?_, rfl, q, qb, ?_⟩
  · intro hh
    have := (Bool.and_eq_true_iff.mp hh).2
    unfold Builtin.List.listTooLong at this
    simp only [hlen, hlen2] at this
    revert this
    rw [sizeLine_eq]
    simp
    omega
  have hup := Heap.get?_update_self (Obj.mapSeq (fun xs => xs ++ us)) q (by simp [Obj.mapSeq, Obj.isFreed])
  have hoth : ∀ c o, c ≠ a → s₁.heap.get? c = some o → (s₁.heap.update a (Obj.mapSeq fun xs => xs ++ us)).get? c = some o := fun c o hb e => (Heap.get?_update_other _ _ (Ne.symm hb)).trans e
  have tup : ∀ c o, s₁.heap.get? c = some o → IsTupObj o → (s₁.heap.update a (Obj.mapSeq fun xs => xs ++ us)).get? c = some o := fun c o e ⟨_, _, hc, _⟩ => hoth c o (fun qq => by rw [qq, q] at e; cases e; simp at hc) e
  refine hQ _ _ ⟨rfl, mm, cm, F₁.mutate hx h1 hown hoth ⟨a, vs ++ us, rfl, ⟨_, hup, by simp [Obj.mapSeq], by simp [Obj.mapSeq]⟩, ?_⟩ ⟨_, hup, by simp [Obj.mapSeq], by simp [Obj.mapSeq], by simp [Obj.mapSeq]⟩⟩
  rw [Array.toList_append]
  exact readsAll_append (readsAll_at hr tup) (readsAll_at hrb tup)

theorem flat_of {h : Heap} {v : Value} {d : DD} (r : Reads h v d []) (hn : ∀ l, d ≠ .tuple l) : Flat v d := by
  generalize ha : ([] : List Addr) = as at r
  cases r with
  | none => exact .none
  | bool b => exact .bool b
  | int i t => exact .int i t
  | str x t => exact .str x t
  | tuple _ _ _ _ => exact absurd rfl (hn _)
  | list _ _ _ _ => cases ha
  | dict _ _ _ _ _ => cases ha

/-- known[name] = True; after[at] = True -/
theorem setTab {K : Type} [DecidableEq K] {knd : KeyKind PW w K} {enc : K → PyData} (henc : ∀ a b, same (enc a) (enc b) = decide (a = b)) {s : Shared} {E : Value → Shared → Prop} {Q : Unit → Shared → Prop} {a : Addr} {D : List (PyData × PyData)} {k : K} {key v : Value} {dv : PyData}
    (hkey : knd.is k key = true) (T : TabAt knd enc s.heap a D) (hv : Flat v dv) (hl : D.length ≤ 1000000) (hD : ∀ p ∈ D, ∃ k, p.1 = enc k)
    (hQ : ∀ h', TabAt knd enc h' a (putD (enc k) dv D) → (∀ b o, b ≠ a → s.heap.get? b = some o → h'.get? b = some o) → Q () { s with heap := h', toks := s.toks + 1 }) : wpAny (model PW w) A (setItem (.ref a) key v) Q E s := by
  obtain ⟨lo, kvs, hd, hf⟩ := T
  refine wpAny_setItem_pairs (hsz := by rw [← hf.length, sizeLine_eq]; omega) hkey hd fun h' hm hs => hQ h' ⟨lo, _, hm, hf.stored henc k hv⟩ fun b o hb e => hs.extBut b o hb e

theorem allStr_put {D : List (PyData × PyData)} {x : Str} {dv : PyData} (h : AllStr D) : AllStr (putD (.str x) dv D) := by
  unfold putD
  split
  · intro p hp
    obtain ⟨q, hq, rfl⟩ := List.mem_map.mp hp
    obtain ⟨y, hy⟩ := h q hq
    refine ⟨y, ?_⟩
    split <;> simp [hy]
  · intro p hp
    rcases List.mem_append.mp hp with hp | hp
    · exact h p hp
    · obtain rfl := List.mem_singleton.mp hp; exact ⟨x, rfl⟩
theorem allInt_put {D : List (PyData × PyData)} {x : Int} {dv : PyData} (h : AllInt D) : AllInt (putD (.int x) dv D) := by
  unfold putD
  split
  · intro p hp
    obtain ⟨q, hq, rfl⟩ := List.mem_map.mp hp
    obtain ⟨y, hy⟩ := h q hq
    refine ⟨y, ?_⟩
    split <;> simp [hy]
  · intro p hp
    rcases List.mem_append.mp hp with hp | hp
    · exact h p hp
    · obtain rfl := List.mem_singleton.mp hp; exact ⟨x, rfl⟩
theorem putD_ne_nil {k v : PyData} {D : List (PyData × PyData)} : ∃ p r, putD k v D = p :: r := by
  unfold putD
  split
  · cases D with
    | nil => simp at *
    | cons a r => exact ⟨_, _, rfl⟩
  · cases D with
    | nil => exact ⟨_, _, rfl⟩
    | cons a r => exact ⟨_, _, rfl⟩
theorem notInt_of_str {D : List (PyData × PyData)} {p} (h : AllStr D) (hp : p ∈ D) : ¬ AllInt D := fun q => by
  obtain ⟨x, hx⟩ := h p hp
  obtain ⟨y, hy⟩ := q p hp
  rw [hx] at hy; cases hy
theorem tab_obj {K : Type} [DecidableEq K] {knd : KeyKind PW w K} {enc : K → PyData} {h : Heap} {a : Addr} {D : List (PyData × PyData)} (T : TabAt knd enc h a D) : ∃ o, h.get? a = some o ∧ o.cls = .type "dict" ∧ o.dict = none ∧ o.slots = #[] := by
  obtain ⟨_, kvs, ⟨o, es, ep, ho, ⟨e1, e2, e3⟩, _⟩, _⟩ := T
  exact ⟨o, ho, e1, e2, e3⟩
theorem rep_strTab {h : Heap} {a : Addr} {D : List (PyData × PyData)} (hD : AllStr D) (hn : D ≠ []) (T : StrTab PW w h a D) : Rep w h (.ref a) (.dict D) := ⟨a, rfl, tab_obj T, fun _ => T, fun q => by
  cases D with
  | nil => exact absurd rfl hn
  | cons p r => exact absurd q (notInt_of_str hD List.mem_cons_self)⟩
theorem rep_intTab {h : Heap} {a : Addr} {D : List (PyData × PyData)} (hD : AllInt D) (hn : D ≠ []) (T : IntTab PW w h a D) : Rep w h (.ref a) (.dict D) := ⟨a, rfl, tab_obj T, fun q => by
  cases D with
  | nil => exact absurd rfl hn
  | cons p r => exact absurd hD (notInt_of_str q List.mem_cons_self), fun _ => T⟩

theorem x1_setS {x : Str} {xp sp pos : Pos} {e i : PySem.Expr} {f g : Bool} {D : List (PyData × PyData)} {k : Str} {d : DD} (ok : EnvOk env) (hx : x ∈ own) (hm : m.lookup x = some (.dict D)) (hown : ∀ y ∈ own, (m.lookup y).isSome = true) (h : Ev w mg A env m e f d) (hi : Ev w mg A env m i g (.str k))
    (hf : FlatD d) (ht : ∀ l, d ≠ .tuple l) (hD : AllStr D) (hl : D.length ≤ 1000000) (hd : (x == ("__debug__" : Str)) = false := by decide)
    (hs : swapsWith e (some (.Subscript (.Name x xp) i sp)) pos.line env = pure false := by rfl) :
    X1 w mg A env (.Assign [.Subscript (.Name x xp) i sp] e pos) m own (.next ((x, .dict (putD (.str k) d D)) :: m) own) := .mk fun s₀ R s E Q B F hQ => by
  refine wpAny_Assign_Subscript (h.go s E _ (F.bs B) F.rd fun v s₁ k₁ r₁ _ => ?_) hs
  have F₁ := F.keeps k₁
  obtain ⟨mm, cm, Fm⟩ := id F₁
  obtain ⟨a, h1, V, _, _⟩ := Fx.ownAt Fm hx hm
  refine eval_nameVar ok V hd ?_
  refine hi.go s₁ E _ (F₁.bs B) F₁.rd fun kv s₂ k₂ r₂ _ => ?_
  have F₂ := Fm.keeps k₂
  obtain ⟨_, h1', _, r', ho'⟩ := Fx.ownAt F₂ hx hm
  rw [h1] at h1'; cases h1'
  obtain ⟨b, e', _, T, _⟩ := r'
  cases e'
  cases r₂
  refine setTab same_str (strKind_is PW w k _) (T hD) (flat_of (rep_flat hf (r₁.keeps k₂.heap)) ht) hl hD fun h' T' hh => ?_
  have hn : putD (.str k) d D ≠ [] := by obtain ⟨p, r, e⟩ := putD_ne_nil (k := .str k) (v := d) (D := D); rw [e]; simp
  have rr := rep_strTab (allStr_put hD) hn T'
  obtain ⟨o, ho, hc, h2, h3⟩ := tab_obj T'
  exact hQ _ _ ⟨rfl, mm, cm, F₂.mutate hx h1 hown hh rr ⟨o, ho, .inr hc, h2, h3⟩⟩
theorem x1_setI {x : Str} {xp sp pos : Pos} {e i : PySem.Expr} {f g : Bool} {D : List (PyData × PyData)} {k : Int} {d : DD} (ok : EnvOk env) (hx : x ∈ own) (hm : m.lookup x = some (.dict D)) (hown : ∀ y ∈ own, (m.lookup y).isSome = true) (h : Ev w mg A env m e f d) (hi : Ev w mg A env m i g (.int k))
    (hf : FlatD d) (ht : ∀ l, d ≠ .tuple l) (hD : AllInt D) (hl : D.length ≤ 1000000) (hd : (x == ("__debug__" : Str)) = false := by decide)
    (hs : swapsWith e (some (.Subscript (.Name x xp) i sp)) pos.line env = pure false := by rfl) :
    X1 w mg A env (.Assign [.Subscript (.Name x xp) i sp] e pos) m own (.next ((x, .dict (putD (.int k) d D)) :: m) own) := .mk fun s₀ R s E Q B F hQ => by
  refine wpAny_Assign_Subscript (h.go s E _ (F.bs B) F.rd fun v s₁ k₁ r₁ _ => ?_) hs
  have F₁ := F.keeps k₁
  obtain ⟨mm, cm, Fm⟩ := id F₁
  obtain ⟨a, h1, V, _, _⟩ := Fx.ownAt Fm hx hm
  refine eval_nameVar ok V hd ?_
  refine hi.go s₁ E _ (F₁.bs B) F₁.rd fun kv s₂ k₂ r₂ _ => ?_
  have F₂ := Fm.keeps k₂
  obtain ⟨_, h1', _, r', ho'⟩ := Fx.ownAt F₂ hx hm
  rw [h1] at h1'; cases h1'
  obtain ⟨b, e', _, _, T⟩ := r'
  cases e'
  cases r₂
  refine setTab same_int (intKind_is PW w k _) (T hD) (flat_of (rep_flat hf (r₁.keeps k₂.heap)) ht) hl hD fun h' T' hh => ?_
  have hn : putD (.int k) d D ≠ [] := by obtain ⟨p, r, e⟩ := putD_ne_nil (k := .int k) (v := d) (D := D); rw [e]; simp
  have rr := rep_intTab (allInt_put hD) hn T'
  obtain ⟨o, ho, hc, h2, h3⟩ := tab_obj T'
  exact hQ _ _ ⟨rfl, mm, cm, F₂.mutate hx h1 hown hh rr ⟨o, ho, .inr hc, h2, h3⟩⟩

/-- the empty dict -/
theorem ev_dict0 {pos : Pos} : Ev w mg A env m (.Dict [] [] pos) true (.dict []) := .mk fun s E Q B R hQ => by
  refine wpAny_Dict_empty ?_
  have hn : (s.heap.objs.size == sysModules) = false := beq_eq_false_iff_ne.mpr (Nat.ne_of_gt (Nat.lt_trans (show sysModules < mainGlobals by decide) B.g.lt))
  obtain ⟨o1, ho1, hd1⟩ := Heap.dictOf_iff.mp (Heap.DictOf.new (knd := strKind PW w) s.heap)
  obtain ⟨o2, ho2, hd2⟩ := Heap.dictOf_iff.mp (Heap.DictOf.new (knd := intKind PW w) s.heap)
  refine hQ _ _ (Ks.push s _ s.toks) ⟨_, rfl, ⟨_, Heap.get?_push_size _ rfl, rfl, rfl, rfl⟩, fun _ => ⟨hn, [], Heap.dictOf_iff.mpr ⟨o1, ho1, hd1⟩, .nil⟩, fun _ => ⟨hn, [], Heap.dictOf_iff.mpr ⟨o2, ho2, hd2⟩, .nil⟩⟩ fun _ => New.size _ _ rfl rfl rfl
end
end Mine

namespace Mine
section
variable {w : World} {mg : Str → Option Value} {A : Around} {env : Env} {m m1 : List (Str × DD)} {own own1 : List Str} {res : Res}

theorem ks_ext {s : Shared} {h' : Heap} (he : Heap.ExtBut s.heap.objs.size s.heap h') : Ks s { s with heap := h' } :=
  Ks.of s h' s.toks fun b o e => he b o (Nat.ne_of_lt (Heap.lt_size e)) e

/-- two names are given a tuple's places -/
theorem assign_pair {x y : Str} {xp yp tp : Pos} {k : Nat} {d₁ d₂ : DD} {v : Value} {s₀ s : Shared} {R : List (Addr × Obj)} {E : Value → Shared → Prop} {Q : Unit → Shared → Prop} (ok : EnvOk env) (hh : A.handled = none) (hx : KindOk env x) (hy : KindOk env y)
    (F : Fx w s₀ env m own R s) (r : Reads s.heap v (.tuple [d₁, d₂]) []) (f1 : FlatD d₁) (f2 : FlatD d₂) (hQ : ∀ s', Fx w s₀ env ((y, d₂) :: (x, d₁) :: m) (drop1 y (drop1 x own)) R s' → Q () s') :
    wpAny (model PW w) A (assign (.Tuple [.Name x xp, .Name y yp] k tp) env v) Q E s := by
  generalize hd : PyData.tuple [d₁, d₂] = d at r
  generalize ha : ([] : List Addr) = as at r
  cases r with
  | none => cases hd
  | bool => cases hd
  | int => cases hd
  | str => cases hd
  | list => cases hd
  | dict => cases hd
  | @tuple a o vs n xs as h1 h2 h3 h4 =>
    cases hd
    subst ha
    obtain ⟨v1, v2, e, q1, q2⟩ : ∃ v1 v2, vs.toList = [v1, v2] ∧ Reads s.heap v1 d₁ [] ∧ Reads s.heap v2 d₂ [] := by
      generalize hv : vs.toList = l at h4
      generalize hz : ([] : List Addr) = zs at h4
      cases h4 with
      | cons a1 b1 =>
        obtain ⟨z1, z2⟩ := List.append_eq_nil_iff.mp hz.symm
        subst z1 z2
        generalize hz : ([] : List Addr) = zs at b1
        cases b1 with
        | cons a2 b2 =>
          obtain ⟨z1, z2⟩ := List.append_eq_nil_iff.mp hz.symm
          subst z1 z2
          cases b2
          exact ⟨_, _, rfl, a1, a2⟩
    have hsz : vs.size = 2 := by rw [← Array.length_toList, e]; rfl
    have ht : IsTup s.heap a vs := ⟨o, h1, h2, n, h3⟩
    have h12 : assignEach [PySem.Expr.Name x xp, PySem.Expr.Name y yp] env = [(false, assign (.Name x xp) env), (false, assign (.Name y yp) env)] := rfl
    refine assign_Tuple_tuple hh ht (by rw [h12, hsz]; rfl) (by rw [h12]; rfl) fun h' he => ?_
    rw [h12, e]
    have k := ks_ext he
    obtain ⟨mm, cm, Fm⟩ := F.keeps k
    have r1 : Reads h' v1 d₁ [] := Reads.keeps k.heap q1
    have r2 : Reads h' v2 d₂ [] := Reads.keeps k.heap q2
    refine assignInOrder_cons (wpAny_assign_Name ?_)
    refine fx_store ok hx Fm (reads_rep r1) ((Fm.apart r1).sub drop1_sub) fun s₂ mm₂ cm₂ F₂ _ hh₂ => ?_
    have r2' : Reads s₂.heap v2 d₂ [] := reads_at r2 fun b o e ht => hh₂ b o e (fun q => ns_notTup Fm.ic.toInCall.ns (q ▸ e) ht) (fun c hc q => by
      obtain ⟨o', e', hd'⟩ := Fm.ic.cell x c hc
      obtain ⟨_, _, _, hd⟩ := ht
      rw [q, e'] at e; cases e; rw [hd] at hd'; cases hd')
    refine assignInOrder_cons (wpAny_assign_Name ?_)
    refine fx_store ok hy F₂ (reads_rep r2') ((F₂.apart r2').sub drop1_sub) fun s₃ mm₃ cm₃ F₃ _ _ => assignInOrder_nil (hQ _ ⟨mm₃, cm₃, F₃⟩)

theorem x1_pair {x y : Str} {xp yp tp pos : Pos} {k : Nat} {e : PySem.Expr} {f : Bool} {d₁ d₂ : DD} (ok : EnvOk env) (hh : A.handled = none) (hx : KindOk env x) (hy : KindOk env y) (h : Ev w mg A env m e f (.tuple [d₁, d₂])) (f1 : FlatD d₁) (f2 : FlatD d₂)
    (hs : swapsWithSole [.Tuple [.Name x xp, .Name y yp] k tp] e pos.line env = pure false := by rfl) (hw : swappedStores [.Tuple [.Name x xp, .Name y yp] k tp] e env = pure none := by rfl) :
    X1 w mg A env (.Assign [.Tuple [.Name x xp, .Name y yp] k tp] e pos) m own (.next ((y, d₂) :: (x, d₁) :: m) (drop1 y (drop1 x own))) := .mk fun s₀ R s E Q B F hQ => by
  refine PyProof.Rows.Assign_Tuple (h.go s E _ (F.bs B) F.rd fun v s₁ k₁ r₁ _ => ?_) hs hw
  exact assign_pair ok hh hx hy (F.keeps k₁) r₁ f1 f2 fun s' F' => hQ _ _ ⟨rfl, F'⟩

/-- a name is given a comprehension's list -/
theorem x1_assignComp {y : Str} {yp spos : Pos} {mc : List (Str × DD)} {elt iter : PySem.Expr} {x : Str} {px : Pos} {ifs : List PySem.Expr} {scope : Scope} {pos : Pos} {cl : List (Str × Addr)} {src : Option Str} {ds : List DD} {tst : DD → Bool} {f : DD → DD} {fr : Bool}
    (ok : EnvOk env) (hh : A.handled = none) (hk : KindOk env y) (co : CompOk env scope cl) (cap : Cap env scope cl m mc) (hx : scope.names.lookup x = some .local) (hmx : mc.lookup x = none) (hi : EvI w mg A env m iter src ds)
    (htst : ∀ C, ∀ d ∈ ds, Trs w mg A (compEnvC scope cl C env) ((x, d) :: mc) ifs (tst d))
    (helt : ∀ C, ∀ d ∈ ds, tst d = true → Ev w mg A (compEnvC scope cl C env) ((x, d) :: mc) elt fr (f d)) (hfl : ∀ d ∈ ds, tst d = true → (∀ l, f d ≠ .list l) ∧ ∀ D, f d ≠ .dict D) (hsz : ds.length ≤ sizeLine)
    (hsw : swapsWith (.ListComp elt [⟨.Name x px, iter, ifs, 0⟩] scope pos) (some (.Name y yp)) spos.line env = pure true := by rfl)
    (hs : ∀ x, foldedSetIterable iter env x = pure x := by intro _; rfl) :
    X1 w mg A env (.Assign [.Name y yp] (.ListComp elt [⟨.Name x px, iter, ifs, 0⟩] scope pos) spos) m own (.next ((y, .list ((ds.filter tst).map f)) :: m) (drop1 y own)) := .mk fun s₀ R s E Q B F hQ => by
  rw [exec_Assign_Name_used _ _ _ _ hsw]
  refine wpAny_bind (wpAny_standAt (wpAny_bind ?_))
  show wpAny _ A (do let _ ← comprehension (.ListComp elt [⟨.Name x px, iter, ifs, 0⟩] scope pos) scope env _ (newList []) false (eval iter env) (some (assign (.Name y yp) env))) _ _ s
  obtain ⟨mm, cm, Fm⟩ := id F
  refine wpAny_bind (wpAny_mono (wpAny_comprehension_free (use := some (assign (.Name y yp) env)) (Q := fun _ s' => Q .next s') rfl hs co.clos co.kind co.names
    (hi.go s E _ (F.bs B) F.rd fun I fp wr P St T s₂ k₂ itn st hT hw hf => ?_)) (fun _ s' hq => wpAny_pure (wpAny_pure hq)) fun _ _ e => e)
  refine comp_block (RR := fun acc C => compPost (model PW w) A E (some (assign (.Name y yp) env)) (fun _ s' => Q .next s') acc C) rfl hh co cap F.rd k₂ itn st hT (fun D C s₄ RL c st₄ hD hC hRL => loop1 ok hh co hx hmx htst helt hfl hsz s I fp wr P St T D C s₄ RL (F.bs B) itn hw c st₄ hD hC hRL) fun D C s' c => ?_
  have kk : Ks s s' := ⟨c.same, c.keep⟩
  have Fk := Fm.keeps kk
  have ap : Apart env mm cm own (.ref D) := Fm.newApart fun a e => by cases e; exact c.nD
  obtain ⟨mmC, hnC, _⟩ := id c.ns
  have hC0 : s.heap.get? C = none := c.nL
  have hDC : D ≠ C := c.ne
  have hLC : env.locals ≠ C := fun q => by obtain ⟨o, _, _, e, _⟩ := Fm.ic.toInCall.ns; rw [q, hC0] at e; cases e
  have hcC : ∀ n k, env.cells.lookup n = some k → k ≠ C := fun n k hk q => by obtain ⟨o, e, _⟩ := Fm.ic.cell n k hk; rw [q, hC0] at e; cases e
  show wpAny _ A (assign (.Name y yp) env (.ref D)) _ _ _
  refine wpAny_assign_Name (fx_store ok hk Fk c.res (ap.sub drop1_sub) fun s₃ mm₃ cm₃ F₃ hv₃ hh₃ => ⟨mmC, ?_, fun h' hs' => ?_⟩)
  · obtain ⟨o, es, ep, e, r⟩ := hnC
    exact ⟨o, es, ep, hh₃ _ _ e (Ne.symm hLC) (fun k hk => Ne.symm (hcC _ _ hk)), r⟩
  · refine hQ _ _ ⟨rfl, mm₃, cm₃, ?_⟩
    have hb : ∀ b o, b ≠ C → s₃.heap.get? b = some o → h'.get? b = some o := fun b o hb e => hs'.extBut b o hb e
    have ntC : NoTup s₃.heap C := by
      obtain ⟨o, es, ep, e, d, _⟩ := hnC
      have e' := hh₃ _ _ e (Ne.symm hLC) (fun k hk => Ne.symm (hcC _ _ hk))
      exact fun o' vs n q _ hd => by rw [show s₃.heap.get? C = some o from e'] at q; cases q; rw [hd] at d; cases d
    have old : ∀ z d v, m.lookup z = some d → vr env mm cm z = some v → v ≠ .ref C := fun z d v e hv q => by
      obtain ⟨u, u1, u2, _⟩ := Fm.vars z d e
      rw [hv] at u1; cases u1; subst q
      cases d with
      | list ds => obtain ⟨b, vs, e', ⟨o, ho, _⟩, _⟩ := u2; cases e'; rw [hC0] at ho; cases ho
      | dict D => obtain ⟨b, e', ⟨o, ho, _⟩, _⟩ := u2; cases e'; rw [hC0] at ho; cases ho
      | tuple ds =>
        have u2' : Reads s.heap (.ref C) (.tuple ds) [] := u2
        cases u2' with | tuple t1 _ _ _ => rw [hC0] at t1; cases t1
      | _ => cases u2
    have ownOld : ∀ z a, z ∈ own → vr env mm cm z = some (.ref a) → a ≠ C := fun z a hz hv q => by
      obtain ⟨a', u1, _, _, ⟨o, ho, _⟩, _⟩ := Fm.own z hz
      rw [hv] at u1; cases u1; rw [q, hC0] at ho; cases ho
    refine ⟨⟨⟨?_, F₃.ic.toInCall.ns.at' fun o e => hb _ _ hLC e, fun b o e => hb b o (fun q => ?_) (F₃.ic.toInCall.keep b o e), F₃.ic.toInCall.fresh⟩, fun n k hk => ?_, F₃.ic.apart, F₃.ic.above⟩, fun z d e => ?_, fun z hz => ?_, fun p hp => ⟨hb _ _ (fun q => ?_) (F₃.prot p hp).1, (F₃.prot p hp).2⟩⟩
    · obtain ⟨h0, t0, e0⟩ := F₃.ic.toInCall.same
      exact ⟨h', t0, by rw [e0]⟩
    · have := F.same.heap b o e; rw [q, hC0] at this; cases this
    · obtain ⟨o, e, hd⟩ := F₃.ic.cell n k hk
      exact ⟨o, hb _ _ (hcC n k hk) e, hd⟩
    · obtain ⟨v, v1, v2, v3⟩ := F₃.vars z d e
      refine ⟨v, v1, v2.but ntC hb ?_, v3⟩
      by_cases hz : z = y
      · subst hz
        rw [hv₃, if_pos rfl] at v1
        cases v1
        intro q; exact hDC (by cases q; rfl)
      · rw [hv₃, if_neg hz] at v1
        have hb' : (z == y) = false := by simpa using hz
        simp only [List.lookup_cons, hb'] at e
        exact old z d v e v1
    · obtain ⟨a, a1, a2, a3, ⟨o, a4, a5⟩, a6, a7⟩ := F₃.own z hz
      obtain ⟨hz1, hz2⟩ := mem_drop1 hz
      have a1' := a1
      rw [hv₃, if_neg hz2] at a1'
      exact ⟨a, a1, a2, a3, ⟨o, hb _ _ (ownOld z a hz1 a1') a4, a5⟩, a6, a7⟩
    · have := (Fm.prot p hp).1; rw [q, hC0] at this; cases this

/-- an iterator moves on -/
theorem Fv.itr {s₀ s : Shared} {R RF RF' : List (Addr × Obj)} {mm cm : Str → Option Value} {h' : Heap} {tk : Nat} {wr : List Addr} (F : Fv w s₀ env m own (RF ++ R) mm cm s) (hk : ∀ b o, b ∉ wr → s.heap.get? b = some o → h'.get? b = some o)
    (h0 : ∀ b ∈ wr, s₀.heap.get? b = none) (hkind : ∀ b ∈ wr, ∃ o n, s.heap.get? b = some o ∧ o.cls = .type n ∧ n ≠ "dict" ∧ n ≠ "list" ∧ n ≠ "tuple") (hnf : ∀ b ∈ wr, NotFrame env b) (hR : ∀ p ∈ R, p.1 ∉ wr)
    (hRF : ∀ p ∈ RF', h'.get? p.1 = some p.2 ∧ ∃ q ∈ RF, q.1 = p.1) : Fv w s₀ env m own (RF' ++ R) mm cm { s with heap := h', toks := tk } := by
  have tup : ∀ b o, s.heap.get? b = some o → IsTupObj o → h'.get? b = some o := fun b o e ⟨vs, n, hc, _⟩ => hk b o (fun hb => by
    obtain ⟨o', n', e', hc', _, _, ht⟩ := hkind b hb
    rw [e] at e'; cases e'; rw [hc] at hc'; cases hc'; exact ht rfl) e
  have rep : ∀ v d, Rep w s.heap v d → Rep w h' v d := fun v d r => by
    cases d with
    | list ds =>
      obtain ⟨a, vs, e, ⟨o, ho, hc, hd⟩, hr⟩ := r
      refine ⟨a, vs, e, ⟨o, hk a o (fun hb => ?_) ho, hc, hd⟩, readsAll_at hr tup⟩
      obtain ⟨o', n', e', hc', _, ht, _⟩ := hkind a hb
      rw [ho] at e'; cases e'; rw [hc] at hc'; cases hc'; exact ht rfl
    | dict D =>
      obtain ⟨a, e, ⟨o, ho, hc⟩, hd⟩ := r
      have ka : ∀ o, s.heap.get? a = some o → h'.get? a = some o := fun o' e1 => hk a o' (fun hb => by
        obtain ⟨o2, n', e', hc', ht, _⟩ := hkind a hb
        rw [ho] at e'; cases e'; rw [hc.1] at hc'; cases hc'; exact ht rfl) e1
      exact ⟨a, e, ⟨o, ka o ho, hc⟩, fun q => tabAt_at (hd.1 q) ka, fun q => tabAt_at (hd.2 q) ka⟩
    | _ => exact reads_at r tup
  refine ⟨⟨⟨?_, F.ic.toInCall.ns.at' fun o e => hk _ _ (fun hb => (hnf _ hb).1 rfl) e, fun b o e => hk b o (fun hb => by rw [h0 b hb] at e; cases e) (F.ic.toInCall.keep b o e), F.ic.toInCall.fresh⟩, fun n c hc => ?_, F.ic.apart, F.ic.above⟩, fun x d e => ?_, fun x hx => ?_, fun p hp => ?_⟩
  · obtain ⟨h1, t1, e1⟩ := F.ic.toInCall.same
    exact ⟨h', tk, by rw [e1]⟩
  · obtain ⟨o, e, hd⟩ := F.ic.cell n c hc
    exact ⟨o, hk _ _ (fun hb => (hnf _ hb).2 _ _ hc rfl) e, hd⟩
  · obtain ⟨v, h1, h2, h3⟩ := F.vars x d e
    exact ⟨v, h1, rep v d h2, h3⟩
  · obtain ⟨a, h1, h2, h3, ⟨o, ho, hc, h4⟩, h5, h6⟩ := F.own x hx
    refine ⟨a, h1, h2, h3, ⟨o, hk a o (fun hb => ?_) ho, hc, h4⟩, fun p hp => ?_, h6⟩
    · obtain ⟨o', n', e', hc', t1, t2, _⟩ := hkind a hb
      rw [ho] at e'; cases e'
      rcases hc with q | q <;> rw [q] at hc' <;> cases hc'
      · exact t2 rfl
      · exact t1 rfl
    · rcases List.mem_append.mp hp with hp | hp
      · obtain ⟨_, q, hq, e⟩ := hRF p hp
        rw [← e]; exact h5 q (List.mem_append_left _ hq)
      · exact h5 p (List.mem_append_right _ hp)
  · rcases List.mem_append.mp hp with hp | hp
    · obtain ⟨e1, q, hq, e⟩ := hRF p hp
      exact ⟨e1, e ▸ (F.prot q (List.mem_append_left _ hq)).2⟩
    · exact ⟨hk _ _ (hR p hp) (F.prot p (List.mem_append_right _ hp)).1, (F.prot p (List.mem_append_right _ hp)).2⟩

/-- one turn of a for: the target is given v, then the body -/
structure Bd (w : World) (mg : Str → Option Value) (A : Around) (env : Env) (target : PySem.Expr) (body : List Stmt) (own : List Str) (d : DD) (m : List (Str × DD)) (res : Res) : Prop where
  mk ::
  go : ∀ (s₀ : Shared) (R : List (Addr × Obj)) (s : Shared) (E : Value → Shared → Prop) (Q : Flow → Shared → Prop) (v : Value), Bs w mg s₀.heap → Fx w s₀ env m own R s → Reads s.heap v d [] →
    (∀ f s', Post w s₀ env R res f s' → Q f s') → wpAny (model PW w) A (assign target env v) (fun _ s₂ => wpAny (model PW w) A (execs body env) Q E s₂) E s

theorem bd_name {x : Str} {xp : Pos} {body : List Stmt} {d : DD} (ok : EnvOk env) (hk : KindOk env x) (h : Sx w mg A env body ((x, d) :: m) (drop1 x own) res) : Bd w mg A env (.Name x xp) body own d m res := .mk fun s₀ R s E Q v B F r hQ => by
  obtain ⟨mm, cm, Fm⟩ := F
  exact wpAny_assign_Name (fx_store ok hk Fm (reads_rep r) ((Fm.apart r).sub drop1_sub) fun s' mm' cm' F' _ _ => h.go s₀ R s' E Q B ⟨mm', cm', F'⟩ hQ)
theorem bd_pair {x y : Str} {xp yp tp : Pos} {k : Nat} {body : List Stmt} {d₁ d₂ : DD} (ok : EnvOk env) (hh : A.handled = none) (hx : KindOk env x) (hy : KindOk env y) (f1 : FlatD d₁) (f2 : FlatD d₂) (h : Sx w mg A env body ((y, d₂) :: (x, d₁) :: m) (drop1 y (drop1 x own)) res) :
    Bd w mg A env (.Tuple [.Name x xp, .Name y yp] k tp) body own (.tuple [d₁, d₂]) m res := .mk fun s₀ R s E Q v B F r hQ =>
  assign_pair ok hh hx hy F r f1 f2 fun s' F' => h.go s₀ R s' E Q B F' hQ

/-- a for over the items that are left -/
inductive ForL (w : World) (mg : Str → Option Value) (A : Around) (env : Env) (target : PySem.Expr) (body : List Stmt) (own : List Str) : List DD → List (Str × DD) → Res → Prop
  | nil {μ : List (Str × DD)} : ForL w mg A env target body own [] μ (.next μ own)
  | next {d : DD} {ds : List DD} {μ μ1 : List (Str × DD)} {r : Res} : Bd w mg A env target body own d μ (.next μ1 own) → ForL w mg A env target body own ds μ1 r → ForL w mg A env target body own (d :: ds) μ r
  | cont {d : DD} {ds : List DD} {μ μ1 : List (Str × DD)} {r : Res} : Bd w mg A env target body own d μ (.cont μ1 own) → ForL w mg A env target body own ds μ1 r → ForL w mg A env target body own (d :: ds) μ r
  | ret {d : DD} {ds : List DD} {μ : List (Str × DD)} {v : DD} : Bd w mg A env target body own d μ (.ret v) → ForL w mg A env target body own (d :: ds) μ (.ret v)

theorem notFrame_of {s₀ s : Shared} {R : List (Addr × Obj)} {mm cm : Str → Option Value} (F : Fv w s₀ env m own R mm cm s) {b : Addr} {o : Obj} (e : s.heap.get? b = some o) (h1 : ∀ es ep, o.data ≠ .dict es ep) (h2 : ∀ v, o.data ≠ .cell v) : NotFrame env b :=
  ⟨fun q => by
    obtain ⟨o', es, ep, e', d, _⟩ := F.ic.toInCall.ns
    rw [q, e'] at e; cases e; exact h1 _ _ d, fun n c hc q => by
    obtain ⟨o', e', d⟩ := F.ic.cell n c hc
    rw [q, e'] at e; cases e; exact h2 _ d⟩

theorem varIs_vr {s₀ s : Shared} {R : List (Addr × Obj)} {mm cm : Str → Option Value} (F : Fv w s₀ env m own R mm cm s) {x : Str} {v : Value} (V : VarIs env s.heap x v) : vr env mm cm x = some v := by
  unfold vr
  rcases V with ⟨k1, m1, n1, e1⟩ | ⟨k1, c, c1, i1⟩
  · rw [if_pos k1]
    obtain ⟨o1, es1, ep1, q1, d1, _, f1⟩ := n1
    obtain ⟨o2, es2, ep2, q2, d2, _, f2⟩ := F.ic.toInCall.ns
    rw [q1] at q2; cases q2
    rw [d1] at d2; cases d2
    rw [← f2 x, f1 x, e1]
  · rw [if_neg (by rw [k1]; decide), if_pos ⟨k1, by rw [c1]; rfl⟩]
    obtain ⟨o2, q2, d2⟩ := F.ic.cell x c c1
    obtain ⟨o1, q1, d1⟩ := i1
    rw [q1] at q2; cases q2
    rw [d1] at d2
    exact (PySem.Data.cell.inj d2).symm

theorem x1_for {target iter : PySem.Expr} {body : List Stmt} {pos : Pos} {src : Option Str} {ds : List DD} (ok : EnvOk env) (hh : A.handled = none) (hi : EvI w mg A env m iter src ds) (hsrc : ∀ x, src = some x → x ∉ own ∧ (m.lookup x).isSome = true)
    (hL : ForL w mg A env target body own ds m res) (hs : ∀ x, foldedSetIterable iter env x = pure x := by intro _; rfl) : X1 w mg A env (.For target iter body [] pos) m own res := .mk fun s₀ R s E Q B F hQ => by
  refine wpAny_For (hi.go s E _ (F.bs B) F.rd fun I fp wr P St T s₁ k₁ itn st hT hw hf => ?_) hs
  have W := itn.walks A hh
  have F₁ := F.keeps k₁
  obtain ⟨mm, cm, Fm⟩ := id F
  have hw0 : ∀ b ∈ wr, s₀.heap.get? b = none := fun b hb => by
    rcases q : s₀.heap.get? b with _ | o
    · rfl
    · have := F.same.heap _ _ q; rw [hw b hb] at this; cases this
  have hRw : ∀ p ∈ R, p.1 ∉ wr := fun p hp hb => by
    have := (Fm.prot p hp).1; rw [hw _ hb] at this; cases this
  have tw : ∀ i (h : Heap), St i h → (∀ p ∈ T, h.get? p.1 = some p.2) → ∀ p ∈ T, p.1 ∉ wr := fun i h st hT p hp hb => by
    obtain ⟨vs, n, h1, h2⟩ := itn.tup p hp
    obtain ⟨o, ho, hc, _⟩ := itn.has i _ st p.1 (W.sub _ hb)
    rw [hT p hp] at ho; cases ho; exact hc h1
  obtain ⟨RF, hRF, hF⟩ := objsOf (fun b hb => let ⟨o', e, _⟩ := itn.has 0 _ st b hb; ⟨o', e⟩)
  have start : Fx w s₀ env m own (RF ++ (T ++ R)) s₁ := by
    have Fk := Fm.keeps k₁
    refine ⟨mm, cm, Fk.ic, Fk.vars, fun x hx => ?_, fun p hp => ?_⟩
    · obtain ⟨a, a1, a2, a3, ⟨o, a4, a4', a5⟩, a6, a7⟩ := Fk.own x hx
      obtain ⟨_, b1, _, _, ⟨ob, b4, _⟩, _, b7⟩ := Fm.own x hx
      rw [a1] at b1; cases b1
      refine ⟨a, a1, a2, a3, ⟨o, a4, a4', a5⟩, fun p hp => ?_, a7⟩
      rcases List.mem_append.mp hp with hp | hp
      · rcases hf _ (hRF p hp).2 with h | ⟨x', hx', V⟩
        · exact fun q => by rw [q, b4] at h; cases h
        · obtain ⟨n1, n2⟩ := hsrc x' hx'
          obtain ⟨d', hd'⟩ := Option.isSome_iff_exists.mp n2
          exact fun q => b7 x' d' (fun q' => n1 (q' ▸ hx)) hd' _ (varIs_vr Fm V) (by rw [q])
      · rcases List.mem_append.mp hp with hp | hp
        · obtain ⟨vs, n, h1, _⟩ := itn.tup p hp
          exact fun q => by
            have := hT p hp
            rw [q, a4] at this; cases this
            rw [h1] at a4'; rcases a4' with q | q <;> simp at q
        · exact a6 p hp
    · rcases List.mem_append.mp hp with hp | hp
      · obtain ⟨o, ho, _, h1, h2⟩ := itn.has 0 _ st p.1 (hRF p hp).2
        exact ⟨(hRF p hp).1, notFrame_of Fk ho h1 h2⟩
      · rcases List.mem_append.mp hp with hp | hp
        · obtain ⟨vs, n, _, h2⟩ := itn.tup p hp
          exact ⟨hT p hp, notFrame_of Fk (hT p hp) (by rw [h2]; intro _ _ q; cases q) (by rw [h2]; intro _ q; cases q)⟩
        · exact Fk.prot p hp
  refine codeAny_forLoop_any (fun n s' => ∃ i μ RF', i ≤ ds.length ∧ n = ds.length - i ∧ St i s'.heap ∧ (∀ p ∈ RF', p.1 ∈ fp) ∧ (∀ b ∈ fp, ∃ p ∈ RF', p.1 = b) ∧
      Fx w s₀ env μ own (RF' ++ (T ++ R)) s' ∧ ForL w mg A env target body own (ds.drop i) μ res) (fun n s' => ?_) ds.length ⟨0, m, RF, Nat.zero_le _, rfl, st, fun p hp => (hRF p hp).2, hF, start, by simpa using hL⟩
  rintro ⟨i, μ, RF', hi', rfl, st', hRF', hF', F', L⟩
  obtain ⟨mm', cm', Fm'⟩ := id F'
  have hT' : ∀ p ∈ T, s'.heap.get? p.1 = some p.2 := fun p hp => (Fm'.prot p (List.mem_append_right _ (List.mem_append_left _ hp))).1
  have tw' := tw i _ st' hT'
  have nfp : ∀ b ∈ fp, NotFrame env b := fun b hb => by
    obtain ⟨o, ho, _, h1, h2⟩ := itn.has i _ st' b hb
    exact notFrame_of Fm' ho h1 h2
  have hTR : ∀ p ∈ T ++ R, p.1 ∉ wr := fun p hp => (List.mem_append.mp hp).elim (tw' p) (hRw p)
  by_cases hlt : i < ds.length
  · refine W.item i s' _ _ hlt st' fun v h₁ tk₁ hPv st₁ hk₁ => ?_
    obtain ⟨d, hd, hr⟩ := itn.item i v h₁ hPv fun p hp => hk₁ _ _ (tw' p hp) (hT' p hp)
    obtain ⟨RF₁, hRF₁, hF₁⟩ := objsOf (fun b hb => let ⟨o', e, _⟩ := itn.has (i + 1) _ st₁ b hb; ⟨o', e⟩)
    have F₁' : Fx w s₀ env μ own (RF₁ ++ (T ++ R)) { s' with heap := h₁, toks := tk₁ } := ⟨mm', cm', Fm'.itr hk₁ hw0 (itn.kind i _ st') (fun b hb => nfp b (W.sub _ hb)) hTR fun p hp => ⟨(hRF₁ p hp).1, hF' _ (hRF₁ p hp).2⟩⟩
    refine itn.go (i + 1) _ A target v _ _ st₁ ?_
    have hdrop : ds.drop i = d :: ds.drop (i + 1) := by
      rw [List.drop_eq_getElem_cons hlt]
      rw [List.getElem?_eq_getElem hlt] at hd
      rw [Option.some.inj hd]
    rw [hdrop] at L
    have back : ∀ s₃ μ1, Fx w s₀ env μ1 own (RF₁ ++ (T ++ R)) s₃ → ForL w mg A env target body own (ds.drop (i + 1)) μ1 res → ∃ n, n < ds.length - i ∧ ∃ i μ RF', i ≤ ds.length ∧ n = ds.length - i ∧ St i s₃.heap ∧ (∀ p ∈ RF', p.1 ∈ fp) ∧ (∀ b ∈ fp, ∃ p ∈ RF', p.1 = b) ∧
        Fx w s₀ env μ own (RF' ++ (T ++ R)) s₃ ∧ ForL w mg A env target body own (ds.drop i) μ res := fun s₃ μ1 F₃ L₃ => by
      refine ⟨ds.length - (i + 1), by omega, i + 1, μ1, RF₁, hlt, rfl, ?_, fun p hp => (hRF₁ p hp).2, hF₁, F₃, L₃⟩
      obtain ⟨_, _, Fm₃⟩ := F₃
      exact W.frame _ _ _ st₁ (objsKeep (fun p hp => (hRF₁ p hp).1) hF₁ fun p hp => (Fm₃.prot p (List.mem_append_left _ hp)).1)
    cases L with
    | @next _ _ _ μ1 _ hb L₁ =>
      refine hb.go s₀ _ _ _ _ v B F₁' hr fun f s₃ p => ?_
      obtain ⟨rfl, F₃⟩ := p
      exact back s₃ μ1 F₃ L₁
    | @cont _ _ _ μ1 _ hb L₁ =>
      refine hb.go s₀ _ _ _ _ v B F₁' hr fun f s₃ p => ?_
      obtain ⟨rfl, F₃⟩ := p
      exact back s₃ μ1 F₃ L₁
    | ret hb =>
      refine hb.go s₀ _ _ _ _ v B F₁' hr fun f s₃ p => ?_
      obtain ⟨u, rfl, h1⟩ := p
      exact hQ _ _ ⟨u, rfl, h1⟩
  · have hin : i = ds.length := by omega
    subst hin
    refine W.done s' _ _ st' fun h₁ tk₁ hk₁ => wpAny_execs_nil ?_
    rw [List.drop_length] at L
    cases L
    refine hQ _ _ ⟨rfl, mm', cm', ?_⟩
    have := (Fm'.itr (RF' := []) (tk := tk₁) hk₁ hw0 (itn.kind _ _ st') (fun b hb => nfp b (W.sub _ hb)) hTR (by simp))
    exact ⟨this.ic, this.vars, fun x hx => let ⟨a, a1, a2, a3, a4, a5, a6⟩ := this.own x hx; ⟨a, a1, a2, a3, a4, fun p hp => a5 p (List.mem_append_right _ (List.mem_append_right _ hp)), a6⟩, fun p hp => this.prot p (List.mem_append_right _ (List.mem_append_right _ hp))⟩

/-- a while -/
inductive WhL (w : World) (mg : Str → Option Value) (A : Around) (env : Env) (test : PySem.Expr) (body : List Stmt) (own : List Str) : Nat → List (Str × DD) → Res → Prop
  | done {n : Nat} {μ : List (Str × DD)} : Tr w mg A env μ test false → WhL w mg A env test body own n μ (.next μ own)
  | step {n : Nat} {μ μ1 : List (Str × DD)} {r : Res} : Tr w mg A env μ test true → Sx w mg A env body μ own (.next μ1 own) → WhL w mg A env test body own n μ1 r → WhL w mg A env test body own (n + 1) μ r

theorem x1_while {test : PySem.Expr} {body : List Stmt} {pos : Pos} {n : Nat} (hL : WhL w mg A env test body own n m res) : X1 w mg A env (.While test body [] pos) m own res := .mk fun s₀ R s E Q B F hQ => by
  refine wpAny_While (codeAny_whileLoop (fun n s' => ∃ μ, Fx w s₀ env μ own R s' ∧ WhL w mg A env test body own n μ res) (fun n s' => ?_) n ⟨m, F, hL⟩)
  rintro ⟨μ, F', L⟩
  cases L with
  | done ht => exact ht.go s' _ _ (F'.bs B) F'.rd fun s₁ k₁ => wpAny_execs_nil (hQ _ _ ⟨rfl, F'.keeps k₁⟩)
  | @step n _ μ1 _ ht hb L₁ =>
    refine ht.go s' _ _ (F'.bs B) F'.rd fun s₁ k₁ => ?_
    rw [if_pos rfl]
    refine hb.go s₀ R s₁ _ _ B (F'.keeps k₁) fun f s₂ p => ?_
    obtain ⟨rfl, F₂⟩ := p
    exact ⟨n, Nat.lt_succ_self _, μ1, F₂, L₁⟩
end
end Mine

namespace Mine
section
variable {w : World} {mg : Str → Option Value}

theorem room_deeper {A : Around} {env : Env} {k : Nat} (h : Room A (k + 1)) : Room (A.deeper env) k :=
  ⟨h.1, by show A.depth + 1 + k < _; have := h.2.1; omega, by show A.units + 3 + 100 + 10 * k < _; have := h.2.2; omega⟩

theorem vr_binds {env : Env} : ∀ (binds : List (Str × Value)) (mm cm : Str → Option Value), (∀ p ∈ binds, KindOk env p.1) → ∀ y,
    vr env (bindL env.kindOf binds mm) (bindC env.kindOf binds cm) y = (binds.reverse.lookup y).or (vr env mm cm y)
  | [], mm, cm, _, y => by simp [bindL, bindC]
  | (n, v) :: r, mm, cm, hk, y => by
    have e1 : bindL env.kindOf ((n, v) :: r) mm = bindL env.kindOf r (setm env n v .local mm) := rfl
    have e2 : bindC env.kindOf ((n, v) :: r) cm = bindC env.kindOf r (setm env n v .cell cm) := by
      have hn := hk (n, v) List.mem_cons_self
      show bindC env.kindOf r (if env.kindOf n = some .local then cm else fun y => if y = n then some v else cm y) = _
      congr 1
      unfold setm
      rcases hn with h | ⟨h, _⟩
      · have h' : ¬ (some NameKind.local = some NameKind.cell) := by decide
        rw [if_pos h, h, if_neg h']
      · have h' : ¬ (some NameKind.cell = some NameKind.local) := by decide
        rw [h, if_neg h', if_pos rfl]
    rw [e1, e2, vr_binds r _ _ (fun p hp => hk p (List.mem_cons_of_mem _ hp)) y, vr_store (hk (n, v) List.mem_cons_self), List.reverse_cons, List.lookup_append]
    cases h : r.reverse.lookup y with
    | some u => simp
    | none =>
      by_cases hy : y = n
      · subst hy; simp
      · have hb : (y == n) = false := by simpa using hy
        simp [hy, List.lookup_cons, hb]

theorem rep_there {h : Heap} {a : Addr} {d : DD} (r : Rep w h (.ref a) d) : ∃ o, h.get? a = some o := by
  cases d with
  | list ds => obtain ⟨b, vs, e', ⟨o, ho, _⟩, _⟩ := r; cases e'; exact ⟨o, ho⟩
  | dict D => obtain ⟨b, e', ⟨o, ho, _⟩, _⟩ := r; cases e'; exact ⟨o, ho⟩
  | tuple ds =>
    have r' : Reads h (.ref a) (.tuple ds) [] := r
    cases r' with | tuple t1 _ _ _ => exact ⟨_, t1⟩
  | _ => cases r

theorem binds_rep {h : Heap} : ∀ {ps : List Str} {vs : List Value} {ds : List DD}, RepL w h vs ds → ps.length = ds.length → ps.Nodup → ∀ x d, (ps.zip ds).lookup x = some d → ∃ v, (ps.zip vs).reverse.lookup x = some v ∧ Rep w h v d
  | [], _, _, _, _, _, x, d, e => by simp at e
  | p :: ps, _, _, .nil, hl, _, x, d, e => by simp at hl
  | p :: ps, v :: vs, d' :: ds, .cons h1 h2, hl, hn, x, d, e => by
    obtain ⟨n1, n2⟩ := List.nodup_cons.mp hn
    have key : ∀ y, y ∉ ps → (ps.zip vs).reverse.lookup y = none := fun y hy => by
      rw [List.lookup_eq_none_iff]
      intro q hq
      have := (List.of_mem_zip (List.mem_reverse.mp hq)).1
      simp; rintro rfl; exact hy this
    by_cases hx : x = p
    · subst hx
      simp only [List.zip_cons_cons, List.lookup_cons, beq_self_eq_true, Option.some.injEq] at e
      subst e
      refine ⟨v, ?_, h1⟩
      rw [List.zip_cons_cons, List.reverse_cons, List.lookup_append, key x n1]
      simp
    · have hb : (x == p) = false := by simpa using hx
      simp only [List.zip_cons_cons, List.lookup_cons, hb] at e
      obtain ⟨u, u1, u2⟩ := binds_rep h2 (by simpa using hl) n2 x d e
      refine ⟨u, ?_, u2⟩
      rw [List.zip_cons_cons, List.reverse_cons, List.lookup_append, u1]
      rfl

/-- the frame of a call of a def of the text -/
abbrev envF (d : DefRec) (L a : Addr) (cd : Value) : Env := envOfC d.name d.scope L a cd

theorem fn_of {d : DefRec} (hd : d ∈ recsOf PW) {ps : List Str} {k : Nat} {ds : List DD} {r : DD} (hlen : ps.length = ds.length) (hnd : ps.Nodup)
    (hbind : ∀ (pm cd doc : Value) (vs : List Value), vs.length = ds.length → bindArgs (docDef d.name d.params d.body d.scope pm cd doc) ⟨vs, []⟩ = pure (ps.zip vs))
    (hkind : ∀ L, ∀ x ∈ ps, d.scope.names.lookup x = some .local ∨ (d.scope.names.lookup x = some .cell ∧ ((cellsFrom (L + 1) d.scope.names []).lookup x).isSome = true))
    (hbody : ∀ (A : Around) L a cd, Room A k → EnvOk (envF d L a cd) → Sx w mg A (envF d L a cd) d.body (ps.zip ds) [] (.ret r))
    (hco : d.scope.isCoroutine = false := by rfl) (hgen : d.scope.isGenerator = false := by rfl) (hk : d.scope.kind = .function := by rfl) : Fn w mg (k + 1) d.name ds r := .mk fun A s E Q vs f hA B hf hr hQ => by
  obtain ⟨a, o, pm, code, doc, h1, h2, h3, h4⟩ := B.fn d hd
  rw [hf] at h1; cases h1
  have hvl : vs.length = ds.length := repL_length hr
  have hbk : ∀ L, ∀ x ∈ ps.zip vs, d.scope.names.lookup x.1 = some .local ∨ (d.scope.names.lookup x.1 = some .cell ∧ ((cellsFrom (L + 1) d.scope.names []).lookup x.1).isSome = true) := fun L x hx => hkind L x.1 (List.of_mem_zip hx).1
  refine wpAny_call (call_cells_ret (by have := hA.2.1; omega) h2 h3 B.nl h4 (hbind pm code doc vs hvl) (hbk _) (fun h₁ tk F X => ?_) hco hgen hk)
  have ok : EnvOk (envF d s.heap.objs.size f code) := ⟨hk, rfl, rfl⟩
  have hKO : ∀ p ∈ ps.zip vs, KindOk (envF d s.heap.objs.size f code) p.1 := fun p hp => hbk _ p hp
  refine (hbody (A.deeper (envF d s.heap.objs.size f code)) s.heap.objs.size f code (room_deeper hA) ok).go s [] { s with heap := h₁, toks := tk } _ _ B ?_ fun fl s' p => ?_
  · refine ⟨_, _, ⟨⟨⟨⟨_, _, rfl⟩, F.ns, F.keep, F.above⟩, X.cell, X.apart, X.above⟩, fun x dd e => ?_, by simp, by simp⟩⟩
    obtain ⟨v, e1, e2⟩ := binds_rep hr hlen hnd x dd e
    refine ⟨v, ?_, e2.keeps F.keep, fun b q => ?_⟩
    · exact (vr_binds (ps.zip vs) _ _ hKO x).trans (by rw [e1]; rfl)
    · subst q
      obtain ⟨ob, hob⟩ := rep_there e2
      have hlt := Heap.lt_size hob
      refine ⟨Nat.ne_of_lt hlt, fun n c hc => Nat.ne_of_lt (Nat.lt_trans hlt (X.above n c (mem_of_lookup hc)))⟩
  · obtain ⟨v, rfl, k1, k2, k3⟩ := p
    exact hQ v s' k1 k2 k3

theorem cmp_notinD {A : Around} {a : Str} {D : List (PyData × PyData)} (hD : AllStr D) : Cmp w A .NotIn (.str a) (.dict D) (!(PySem.Spec.lookup (.str a) D).isSome) := .mk fun s v₁ v₂ E Q r₁ r₂ hQ => by
  cases r₁
  obtain ⟨b, rfl, _, T, _⟩ := r₂
  exact notin_strTab (T hD) (hQ _ (Ks.tok s _))
theorem cmp_notinL {A : Around} {a : Str} {xs : List Str} : Cmp w A .NotIn (.str a) (.list (xs.map .str)) (!(xs.any (· == a))) := .mk fun s v₁ v₂ E Q r₁ r₂ hQ => by
  cases r₁
  obtain ⟨l, vs, rfl, hl, hr⟩ := r₂
  exact notin_list_strs hl (readsAll_strs hr) (hQ _ (Ks.rfl' s))

theorem bf_list {A : Around} {ds : List DD} (hl : ds.length ≤ 1000000) : BFn w mg A (.type "list") [.list ds] (.list ds) := .mk fun s E Q vs B r hQ => by
  cases r with
  | cons r1 r2 =>
    cases r2
    obtain ⟨a, vs, rfl, ⟨o, ho, hc, n, hd⟩, hr⟩ := r1
    have hlen : vs.size = ds.length := by rw [← readsAll_length hr]; simp
    refine call_list_seq a (.inl rfl) ho hc hd (fun h' c' hk e => hQ _ _ (Ks.of s h' s.toks hk) ⟨_, vs, rfl, ⟨_, e, rfl, _, rfl⟩, ReadsAll.keeps hk hr⟩ fun b q => ?_) (by rw [hlen, sizeLine_eq]; omega)
    cases q
    exact ⟨fresh_size _, _, e, rfl, rfl⟩

theorem bf_sortedS {A : Around} {xs : List Str} {ys : List Str} (h64 : xs.length < 64) (hp : ∀ zs : List Str, zs.Perm xs → sortedS zs = true → zs = ys) : BFn w mg A (.builtin "sorted") [.list (xs.map .str)] (.list (ys.map .str)) := .mk fun s E Q vs B r hQ => by
  cases r with
  | cons r1 r2 =>
    cases r2
    obtain ⟨a, vs, rfl, hl, hr⟩ := r1
    have hS := readsAll_strs hr
    have hlen : vs.toList.length = xs.length := by have := readsAll_length hr; simpa using this
    refine sorted_strs (vs := vs.toList) (by simpa using hl) hS (by rw [hlen]; exact h64) fun out ss h1 h2 h3 => ?_
    obtain rfl := hp ss h2 h3
    obtain ⟨e, he⟩ := sortedAll_at s.heap vs.toList out
    have hk : ∀ b o, s.heap.get? b = some o → (sortedAll s.heap vs.toList out).get? b = some o := fun b o => sortedAll_old
    refine hQ _ _ (Ks.of s _ s.toks hk) ⟨_, out, rfl, ⟨_, he, rfl, _, rfl⟩, strsAre_reads h1⟩ fun b q => ?_
    cases q
    refine ⟨?_, _, he, rfl, rfl⟩
    rcases q : s.heap.get? (s.heap.objs.size + 1) with _ | o
    · rfl
    · exact absurd (Heap.lt_size q) (Nat.not_lt.mpr (Nat.le_succ _))
end
end Mine

namespace Mine
section
variable {w : World} {mg : Str → Option Value} {A : Around} {E : Value → Shared → Prop}

theorem getAttr?_keys_list {s : Shared} {a : Addr} {xs : Array Value} {k : Nat} {sl : Array (Option Value)} {Q : Option Value → Shared → Prop}
    (hx : s.heap.get? a = some { cls := .type "list", dict := none, data := .seq xs k, slots := sl }) (hA : A.handled = none)
    (h : ∀ s', Ks s s' → Q none s') : wpAny (model PW w) A (getAttr? (.ref a) "keys") Q E s := by
  have hmiss : typeLookup (.type "list") "keys" = pure none := am_miss_of_fast (by kernel_rfl)
  obtain ⟨hp, g, d, tk, os⟩ := s
  have hT : ∀ tk', (⟨hp, g, d, tk', os⟩ : Shared).TypeIs (.ref a) "list" := fun _ => ⟨_, hx, rfl⟩
  have f1 := sub_AttributeError
  have f3 := F.slot_list_getattribute.lookup
  have f4 := F.slot_list_getattribute.bind (.ref a)
  have f5 := am_list_getattr_none
  unfold getAttr? getAttrBy? getAttrBy
  repeat (any_goals (first | assumption | exact hT _ | ((with_reducible show wpAny _ _ (call (Value.builtin "list.__getattribute__") _ _) _ _ _); refine call_meets F.slot_list_getattribute (hT _) am_entry_list_getattribute (F.args_list_getattribute_2 _ _) (meets_getattribute_miss_list a xs k sl "keys" _ hmiss (by decide) (by decide)) ⟨hx, hA, fun h' tk' e hx' => ?_⟩) | wp_step))
  obtain ⟨t', u', he⟩ := hx'.there
  show wpAny _ _ (getattributeRaised _ _ _ _ _ _ _) _ _ _
  unfold getattributeRaised
  repeat (any_goals (first | assumption | wp_step))
  exact h _ ⟨⟨h', tk', rfl⟩, hx'.keeps⟩

def pairD (x : Str) : DD := .tuple [.str x, .bool true]
def dictD (D : List (PyData × PyData)) (xs : List Str) : List (PyData × PyData) := xs.foldl (fun D x => putD (.str x) (.bool true) D) D

theorem plain_dict_loop : plainId "dict.update.loop" = true := by decide +kernel
theorem entry_dict_loop : entryFor table "dict.update.loop" = some Builtin.«dict.update.loop» := entryFor_of_fast (by kernel_rfl)

theorem pairItems_tup {s : Shared} {v : Value} {x : Str} {Q : List Value → Shared → Prop} (r : Reads s.heap v (pairD x) []) (h : ∀ t, Q [.str x t, .bool true] s) : wpAny (model PW w) A (Builtin.Dict.pairItems v) Q E s := by
  generalize hd : pairD x = d at r
  generalize ha : ([] : List Addr) = as at r
  unfold pairD at hd
  cases r with
  | none => cases hd
  | bool => cases hd
  | int => cases hd
  | str => cases hd
  | list => cases hd
  | dict => cases hd
  | @tuple a o vs n xs as h1 h2 h3 h4 =>
    cases hd
    subst ha
    obtain ⟨t, e⟩ : ∃ t, vs.toList = [.str x t, .bool true] := by
      generalize hv : vs.toList = l at h4
      generalize hz : ([] : List Addr) = zs at h4
      cases h4 with
      | cons a1 b1 =>
        obtain ⟨z1, z2⟩ := List.append_eq_nil_iff.mp hz.symm
        subst z1 z2
        generalize hz : ([] : List Addr) = zs at b1
        cases b1 with
        | cons a2 b2 =>
          cases b2
          cases a1; cases a2
          exact ⟨_, rfl⟩
    unfold Builtin.Dict.pairItems
    refine wpAny_bind (wpAny_typeOf (T := "tuple") ⟨_, h1, h2⟩ ?_)
    rw [if_pos (by decide)]
    refine wpAny_bind ?_
    show wpAny _ _ (seqItems? (.ref a)) _ _ s
    unfold seqItems?
    refine wpAny_bind (wpAny_load h1 ?_)
    rw [h3]
    refine wpAny_pure ?_
    show wpAny _ _ (pure _) _ _ s
    refine wpAny_pure ?_
    rw [show ((some vs).getD #[]).toList = vs.toList from rfl, e]
    exact h t

theorem dict_loop {I a d : Addr} {T : List (Addr × Obj)} {xs : List Str} {P : Nat → Value → Prop} {St : Nat → Heap → Prop} {RR : Result → Shared → Prop} (hh : A.handled = none) (itn : IterOn w I [I, a] [I] P St T (xs.map pairD)) (hdI : d ≠ I) (hda : d ≠ a) :
    ∀ (k i : Nat) (s : Shared) (D : List (PyData × PyData)) (kvs : List (Str × Value)) (j : Int) (t : Tok), xs.length - i = k → i ≤ xs.length → St i s.heap → (∀ p ∈ T, s.heap.get? p.1 = some p.2) → s.heap.DictOf (PySem.strKind PW w) d kvs → FlatPairs PyData.str kvs D → D.length + k ≤ 1000000 →
      (∀ s' kvs', (∃ h t, s' = { s with heap := h, toks := t }) → (∀ b o, b ≠ d → b ≠ I → s.heap.get? b = some o → s'.heap.get? b = some o) → s'.heap.DictOf (PySem.strKind PW w) d kvs' → FlatPairs PyData.str kvs' (dictD D (xs.drop i)) → RR (.ok (.ret .none)) s') →
      codeAny (model PW w) A (.builtin "dict.update.loop" ⟨[.ref d, .ref I, .int j t, .none], []⟩) RR s := by
  have W := itn.walks A.in1 hh
  intro k
  induction k with
  | zero =>
    intro i s D kvs j t hk hi hst hT hm hf hsz hR
    have hin : i = xs.length := by omega
    subst hin
    refine codeAny_builtin entry_dict_loop ?_
    rw [Around.under_plainId plain_dict_loop _]
    show wpAny _ A.in1 (pyNext (.ref I) >>= _) _ _ s
    refine wpAny_bind (W.done s _ _ (by simpa using hst) fun h' tk hk => ?_)
    refine wpAny_bind (wpAny_pure (wpAny_pure (hR _ kvs ⟨h', tk, rfl⟩ (fun b o _ hb e => hk b o (by simpa using hb) e) (hm.extBut (b := I) (fun b o hb e => hk b o (by simpa using hb) e) hdI) ?_)))
    rw [List.drop_length]; exact hf
  | succ k ih =>
    intro i s D kvs j t hk hi hst hT hm hf hsz hR
    have hlt : i < xs.length := by omega
    refine codeAny_builtin entry_dict_loop ?_
    rw [Around.under_plainId plain_dict_loop _]
    show wpAny _ A.in1 (pyNext (.ref I) >>= _) _ _ s
    have tT : ∀ p ∈ T, p.1 ≠ I := fun p hp q => by
      obtain ⟨vs, n, h1, h2⟩ := itn.tup p hp
      obtain ⟨o, ho, hc, _⟩ := itn.has i _ hst I (by simp)
      rw [← q, hT p hp] at ho; cases ho; exact hc h1
    have tTd : ∀ p ∈ T, p.1 ≠ d := fun p hp q => by
      obtain ⟨vs, n, h1, h2⟩ := itn.tup p hp
      obtain ⟨o, ho, _, _, ⟨hc, _⟩, _⟩ := Heap.dictOf_iff.mp hm
      rw [← q, hT p hp] at ho; cases ho; rw [h1] at hc; simp at hc
    refine wpAny_bind (W.item i s _ _ (by simpa using hlt) hst fun v h₁ tk₁ hP hst₁ hk₁ => ?_)
    have hk₁' : ∀ b o, b ≠ I → s.heap.get? b = some o → h₁.get? b = some o := fun b o hb e => hk₁ b o (by simpa using hb) e
    have hT₁ : ∀ p ∈ T, h₁.get? p.1 = some p.2 := fun p hp => hk₁' _ _ (tT p hp) (hT p hp)
    obtain ⟨d', hd', hr⟩ := itn.item i v h₁ hP hT₁
    obtain ⟨x, hx, rfl⟩ : ∃ x, xs[i]? = some x ∧ pairD x = d' := by
      rw [List.getElem?_map] at hd'
      obtain ⟨x, h1, h2⟩ := Option.map_eq_some_iff.mp hd'
      exact ⟨x, h1, h2⟩
    have hm₁ : h₁.DictOf (PySem.strKind PW w) d kvs := hm.extBut (b := I) (fun b o hb e => hk₁' b o hb e) hdI
    refine wpAny_bind (wpAny_holding (wpAny_bind (wpAny_tryCatch (pairItems_tup hr fun t' => ?_))))
    refine wpAny_holding (wpAny_dictSet_pairs (strKind_is PW w x t') hm₁ (fun h₂ hm₂ hs₂ => ?_) (by rw [← hf.length, sizeLine_eq]; omega))
    refine wpAny_pure ⟨plainId_quiet plain_dict_loop _, ih (i + 1) _ (putD (.str x) (.bool true) D) (stored kvs x (.bool true)) _ _ (by omega) hlt ?_ (fun p hp => hs₂.extBut _ _ (tTd p hp) (hT₁ p hp)) hm₂ (hf.stored same_str x (.bool true)) ?_ fun s' kvs' hs' hk' hm' hf' => ?_⟩
    · exact W.frame _ _ _ hst₁ fun b hb o e => hs₂.extBut _ _ (fun q => by
        rcases List.mem_cons.mp hb with h | h
        · exact hdI (q ▸ h)
        · exact hda (q ▸ List.mem_singleton.mp h)) e
    · have := putD_length_le (.str x) (.bool true) D; omega
    · obtain ⟨hh, tt, rfl⟩ := hs'
      refine hR _ kvs' ⟨hh, tt, rfl⟩ (fun b o hb1 hb2 e => hk' b o hb1 hb2 (hs₂.extBut _ _ hb1 (hk₁' b o hb2 e))) hm' ?_
      rw [List.drop_eq_getElem_cons hlt]
      rw [List.getElem?_eq_getElem hlt] at hx
      rw [Option.some.inj hx]
      exact hf'

theorem allStr_dictD {D : List (PyData × PyData)} (h : AllStr D) : ∀ xs : List Str, AllStr (dictD D xs)
  | [] => h
  | x :: r => allStr_dictD (allStr_put h) r
theorem dictD_ne_nil {D : List (PyData × PyData)} (h : D ≠ []) : ∀ xs : List Str, dictD D xs ≠ []
  | [] => h
  | x :: r => dictD_ne_nil (D := putD (.str x) (.bool true) D) (by obtain ⟨p, q, e⟩ := putD_ne_nil (k := .str x) (v := .bool true) (D := D); rw [e]; simp) r

/-- dict of a new list of pairs -/
theorem call_dict_pairs {xs : List Str} (hh : A.handled = none) (hx : xs ≠ []) (hlx : xs.length ≤ 1000000) {s : Shared} {l : Addr} {vs : Array Value} {n : Nat} {Q : Value → Shared → Prop} (B : Bs w mg s.heap)
    (ho : s.heap.get? l = some { cls := .type "list", dict := none, data := .seq vs n, slots := #[] }) (hr : ReadsAll s.heap vs.toList (xs.map pairD) [])
    (hQ : ∀ v s', Ks s s' → Rep w s'.heap v (.dict (dictD [] xs)) → New s.heap s'.heap v → Q v s') : wpAny (model PW w) A (call (.type "dict") [.ref l]) Q E s := by
  have hll : s.heap.IsList l vs := ⟨_, ho, rfl, n, rfl⟩
  have hbig : (s.heap.objs.size == sysModules) = false := beq_eq_false_iff_ne.mpr (Nat.ne_of_gt (Nat.lt_trans (show sysModules < mainGlobals by decide) B.g.lt))
  refine callType_codes (Q₁ := fun obj s₁ => obj = .ref s.heap.objs.size ∧ s₁ = { s with heap := s.heap.push { cls := .type "dict", data := .dict #[] } }) F.kt_called_dict (F.kt_typeCall_dict_1 _) F.entry_dict_init (kt_code_dict_new _ ⟨rfl, rfl⟩) ?_
  rintro obj s₁ ⟨rfl, rfl⟩
  have kp : Ks s { s with heap := s.heap.push { cls := .type "dict", data := .dict #[] } } := Ks.push s _ s.toks
  have hnew : (s.heap.push { cls := .type "dict", data := .dict #[] }).DictOf (PySem.strKind PW w) s.heap.objs.size [] := Heap.DictOf.new s.heap
  have hdo : s.heap.objs.size ≠ l := fun e => absurd (Heap.lt_size ho) (by rw [← e]; exact Nat.lt_irrefl _)
  have hl1 : (s.heap.push { cls := .type "dict", data := .dict #[] }).IsList l vs := hll.push _
  refine ⟨hnew.typeIs, F.args_dict_init_2 _ _, ?_⟩
  unfold Builtin.«dict.__init__»
  refine wpAny_bind ?_
  unfold Builtin.Dict.selfAndRest
  refine wpAny_bind (wpAny_notOrdered_dict hnew.typeIs ?_)
  show wpAny _ _ (pure (s.heap.objs.size, [Value.ref l])) _ _ _
  refine wpAny_pure ?_
  show wpAny _ _ (Builtin.Dict.updateFrom "dict.__init__" s.heap.objs.size (.ref l) [] .none) _ _ _
  unfold Builtin.Dict.updateFrom
  refine wpAny_bind (wpAny_typeOf hl1.typeIs ?_)
  rw [if_pos (by decide)]
  have hx0 := Heap.get?_push_of_some { cls := .type "dict", data := .dict #[] } ho
  refine wpAny_bind (getAttr?_keys_list hx0 hh fun s₂ k₂ => ?_)
  rw [if_pos (by rfl)]
  refine wpAny_bind (wpAny_rule (wpAny_bind ?_))
  have hl2 : s₂.heap.IsList l vs := isList_keeps k₂.heap hl1
  refine wpAny_pyIter_list hl2 ?_
  have k3 : Ks s₂ { s₂ with heap := s₂.heap.push { cls := .type "list_iterator", data := .fields #[.ref l, .int 0 0] } } := Ks.push s₂ _ s₂.toks
  have k13 := kp.trans' (k₂.trans' k3)
  have hne : l ≠ s₂.heap.objs.size := by obtain ⟨o', ho', _⟩ := hl2; exact Nat.ne_of_lt (Heap.lt_size ho')
  obtain ⟨T, hT, it⟩ := iterOn_list (w := w) hne (ReadsAll.keeps (kp.trans' k₂).heap hr)
  have hd2 : s₂.heap.DictOf (PySem.strKind PW w) s.heap.objs.size [] := hnew.keep k₂.heap
  have hdI : s.heap.objs.size ≠ s₂.heap.objs.size := by obtain ⟨o', ho', _⟩ := Heap.dictOf_iff.mp hd2; exact Nat.ne_of_lt (Heap.lt_size ho')
  refine wpAny_pure ⟨plainId_quiet plain_dict_loop _, dict_loop (A := A.in1) (a := l) hh it hdI hdo xs.length 0 _ [] [] 0 0 (by omega) (Nat.zero_le _) ⟨⟨_, Heap.get?_push_size _ rfl, rfl, rfl⟩, hl2.push _⟩ (fun p hp => k3.heap _ _ (hT p hp)) (hd2.push _) .nil (by simpa using hlx) fun s' kvs' hs' hk' hm' hf' => ?_⟩
  obtain ⟨h, t, rfl⟩ := hs'
  refine ⟨rfl, ?_⟩
  have kk : Ks s { s₂ with heap := h, toks := t } := by
    obtain ⟨⟨ha, ta, ea⟩, hb⟩ := k₂
    refine ⟨⟨h, t, by rw [ea]⟩, fun b o e => hk' b o (Nat.ne_of_lt (Heap.lt_size e)) (Nat.ne_of_lt (Heap.lt_size (hb _ _ (kp.heap _ _ e)))) (k13.heap _ _ e)⟩
  have T' : StrTab PW w h s.heap.objs.size (dictD [] xs) := ⟨hbig, kvs', hm', hf'⟩
  have hne' : dictD [] xs ≠ [] := by
    cases xs with
    | nil => exact absurd rfl hx
    | cons x r => exact dictD_ne_nil (D := putD (.str x) (.bool true) []) (by obtain ⟨p, q, e⟩ := putD_ne_nil (k := .str x) (v := .bool true) (D := []); rw [e]; simp) r
  refine hQ _ _ kk (rep_strTab (allStr_dictD (fun p hp => by cases hp) xs) hne' T') fun b e => ?_
  cases e
  obtain ⟨o, e1, _, e2, e3⟩ := tab_obj T'
  exact ⟨fresh_size _, o, e1, e2, e3⟩

theorem ev_dictOf {env : Env} {m : List (Str × DD)} {np pos : Pos} {e : PySem.Expr} {xs : List Str} (ok : EnvOk env) (hh : A.handled = none) (hn : env.kindOf "dict" = some .globalImplicit) (h : Ev w mg A env m e true (.list (xs.map pairD))) (hx : xs ≠ []) (hlx : xs.length ≤ 1000000)
    (he : nS e = true := by rfl) : Ev w mg A env m (.Call (.Name "dict" np) [e] [] pos) true (.dict (dictD [] xs)) := .mk fun s E Q B R hQ => by
  obtain ⟨mb, b1, b2⟩ := B.b
  refine Call_ (Name_function_global ok.k hn (loadGlobal_builtin (mg := mg) (mb := mb) (by rw [ok.g]; exact B.g) (B.free "dict" (by decide)) (by rw [ok.b]; exact b1) ((b2 "dict" (by decide)).trans (by decide +kernel : _ = some (Value.type "dict"))) ?_) (by decide)) (arm_eval_Call_Name' ..)
  refine PyProof.Rows.callWith_type1 (args_cons (h.go s E _ B R fun v s₁ k₁ r₁ n₁ => args_nil ?_) (starEach_ns he)) (starEach_ns he) (by rfl)
  obtain ⟨l, vs, rfl, ⟨o, ho, hc, n, hd⟩, hr⟩ := r₁
  obtain ⟨_, o', ho', e1, e2⟩ := n₁ rfl l rfl
  rw [ho] at ho'; cases ho'
  obtain ⟨cls, di, dat, sl⟩ := o
  simp only at hc hd e1 e2
  subst hc hd e1 e2
  exact call_dict_pairs hh hx hlx (B.keeps k₁.heap) ho hr fun v s₂ k₂ r₂ n₂ => hQ v s₂ (k₁.trans' k₂) r₂ fun _ => n₂.back k₁

theorem readsAll_of_get {h : Heap} : ∀ {vs : List Value} {ds : List DD}, vs.length = ds.length → (∀ (i : Nat) (v : Value) (d : DD), vs[i]? = some v → ds[i]? = some d → Reads h v d []) → ReadsAll h vs ds []
  | [], [], _, _ => .nil
  | [], d :: ds, hl, _ => by simp at hl
  | v :: vs, [], hl, _ => by simp at hl
  | v :: vs, d :: ds, hl, hr => .cons (as := []) (hr 0 v d (by simp) (by simp)) (readsAll_of_get (by simpa using hl) fun i u e h1 h2 => hr (i + 1) u e (by simpa using h1) (by simpa using h2))

/-- sorted of a dict -/
theorem sorted_dict {K : Type} [DecidableEq K] {knd : PySem.KeyKind PW w K} {enc : K → PyData} (hh : A.handled = none) {s : Shared} {d : Addr} {D : List (PyData × PyData)} {Q : Value → Shared → Prop} (T : TabAt knd enc s.heap d D) (hl : D.length ≤ 1000000)
    (henc : ∀ k v, knd.is k v = true → Flat v (enc k))
    (hsort : ∀ (A' : Around) (h : Heap) (tk : Nat) (vs : List Value), (∀ b o, s.heap.get? b = some o → h.get? b = some o) → ReadsAll h vs (D.map (·.1)) [] → wpAny (model PW w) A' (Builtin.«list.sort» ⟨[.ref h.objs.size], []⟩)
      (fun fin s' => ∃ v, fin = .done (.ret v) ∧ Q (.ref h.objs.size) s') E { s with heap := h.push (seqObj "list" vs.toArray 0), toks := tk }) :
    wpAny (model PW w) A (call (.builtin "sorted") [.ref d]) Q E s := by
  obtain ⟨lo, kvs, hD, hf⟩ := T
  obtain ⟨ep, hat⟩ := hD.dictAt
  refine Calls.call_function_entry kind_sorted plain_sorted entry_sorted (args_sorted1 _) ?_
  unfold Builtin.«sorted»
  refine wpAny_bind (m := checkCount "sorted" 1 1 _) (wpAny_pure ?_)
  have hn : kvs.length ≤ sizeLine := by rw [← hf.length, sizeLine_eq]; omega
  refine wpAny_bind (kdu_collect (A := A.in1) (kdl_dict (knd := knd) (kvs := kvs) (ep := ep) lo) hh hat hn fun h' tk acc hk hacc => ?_)
  have hlen : acc.toList.length = kvs.length := by rw [Array.length_toList]; exact hacc.1
  refine wpAny_bind (wpAny_newList ?_ (by rw [hlen]; exact hn))
  have hr : ReadsAll h' acc.toList (D.map (·.1)) [] := by
    refine readsAll_of_get (by rw [hlen, List.length_map, hf.length]) fun i v dd h1 h2 => ?_
    obtain ⟨k, x, h3, h4⟩ := hacc.2 i v (by simpa using h1)
    obtain ⟨dv, h5, _⟩ := hf.at h3
    rw [List.getElem?_map, h5] at h2
    cases h2
    exact henc k v h4 h'
  have hgot : (h'.push (seqObj "list" acc.toList.toArray 0)).get? h'.objs.size = some (seqObj "list" acc.toList.toArray 0) := Heap.get?_push_size _ rfl
  refine wpAny_bind (wpAny_holding (wpAny_call_entry slot_list_sort ⟨_, hgot, rfl⟩ entry_list_sort (wpAny_mono (hsort _ h' tk acc.toList hk hr) (fun fin s' hx => ?_) fun _ _ e => e) (args_list_sort _)))
  obtain ⟨v, rfl, hq⟩ := hx
  exact ⟨v, rfl, wpAny_pure ⟨_, rfl, hq⟩⟩

theorem sortedHeap_keep {h : Heap} {vs : List Value} {out : Array Value} {b : Addr} {o : Obj} (e : h.get? b = some o) : (sortedHeap (h.push (seqObj "list" vs.toArray 0)) h.objs.size vs out).get? b = some o := by
  rw [sortedHeap_old (Nat.ne_of_lt (Heap.lt_size e)) (by rw [size_push']; exact Nat.lt_succ_of_lt (Heap.lt_size e))]
  exact Heap.get?_push_of_some _ e

theorem bf_sortedDS {D : List (PyData × PyData)} {xs ys : List Str} (hh : A.handled = none) (hD : AllStr D) (hk : D.map (·.1) = xs.map .str) (h64 : xs.length < 64) (hp : ∀ zs : List Str, zs.Perm xs → sortedS zs = true → zs = ys) : BFn w mg A (.builtin "sorted") [.dict D] (.list (ys.map .str)) := .mk fun s E Q vs B r hQ => by
  cases r with
  | cons r1 r2 =>
    cases r2
    obtain ⟨a, rfl, _, T, _⟩ := r1
    have hlD : D.length = xs.length := by have := congrArg List.length hk; simpa using this
    refine sorted_dict hh (T hD) (by omega) (fun k v hv => by
      unfold PySem.strKind at hv
      cases v <;> simp [Value.isStrOf] at hv
      subst hv; exact Flat.str _ _) fun A' h tk vs hkeep hr => ?_
    rw [hk] at hr
    have hS := readsAll_strs hr
    have hlen : vs.length = xs.length := by have := readsAll_length hr; simpa using this
    refine list_sort_treeK strKind_oneLt (Heap.get?_push_size _ rfl) hS.keysOf (fun v₁ v₂ rest e => keyKind_strs (by rw [← e]; exact hS)) (by rw [hlen]; exact h64) fun st' a1 a2 => ?_
    obtain ⟨ss, b1, b2, b3⟩ := sorted_out_str hS a1 a2
    obtain rfl := hp ss b2 b3
    obtain ⟨e, he⟩ := sortedHeap_at (vs := vs) (out := (arrOf st').map (·.2)) (Heap.get?_push_size (o := seqObj "list" vs.toArray 0) h rfl)
    refine ⟨_, rfl, hQ _ _ (Ks.of s _ tk fun b o q => sortedHeap_keep (hkeep b o q)) ⟨_, _, rfl, ⟨_, he, rfl, _, rfl⟩, strsAre_reads b1⟩ fun b q => ?_⟩
    cases q
    refine ⟨?_, _, he, rfl, rfl⟩
    rcases q : s.heap.get? h.objs.size with _ | o
    · rfl
    · exact absurd (Heap.lt_size (hkeep _ _ q)) (Nat.lt_irrefl _)
theorem bf_sortedDI {D : List (PyData × PyData)} {xs ys : List Int} (hh : A.handled = none) (hD : AllInt D) (hk : D.map (·.1) = xs.map .int) (h64 : xs.length < 64) (hp : ∀ zs : List Int, zs.Perm xs → zs.Pairwise (· ≤ ·) → zs = ys) : BFn w mg A (.builtin "sorted") [.dict D] (.list (ys.map .int)) := .mk fun s E Q vs B r hQ => by
  cases r with
  | cons r1 r2 =>
    cases r2
    obtain ⟨a, rfl, _, _, T⟩ := r1
    have hlD : D.length = xs.length := by have := congrArg List.length hk; simpa using this
    refine sorted_dict hh (T hD) (by omega) (fun k v hv => by
      unfold PySem.intKind at hv
      cases v <;> simp [Value.isInt] at hv
      subst hv; exact Flat.int _ _) fun A' h tk vs hkeep hr => ?_
    rw [hk] at hr
    have hS := readsAll_ints hr
    have hlen : vs.length = xs.length := by have := readsAll_length hr; simpa using this
    refine list_sort_tree (Heap.get?_push_size _ rfl) hS (by rw [hlen]; exact h64) fun out ss b1 b2 b3 => ?_
    obtain rfl := hp ss b2 b3
    obtain ⟨e, he⟩ := sortedHeap_at (vs := vs) (out := out) (Heap.get?_push_size (o := seqObj "list" vs.toArray 0) h rfl)
    refine ⟨_, rfl, hQ _ _ (Ks.of s _ tk fun b o q => sortedHeap_keep (hkeep b o q)) ⟨_, _, rfl, ⟨_, he, rfl, _, rfl⟩, intsAre_reads b1⟩ fun b q => ?_⟩
    cases q
    refine ⟨?_, _, he, rfl, rfl⟩
    rcases q : s.heap.get? h.objs.size with _ | o
    · rfl
    · exact absurd (Heap.lt_size (hkeep _ _ q)) (Nat.lt_irrefl _)
end
end Mine

namespace Mine

def dF (i : Nat) : DefRec := match PW.main.body[i]? with
  | some (.FunctionDef name args body _ _ _ sc _ _ pos) => ⟨name, args, body, sc, pos⟩
  | _ => ⟨"", ⟨[], [], none, [], [], none, []⟩, [], ⟨.function, [], false, false, []⟩, ⟨0, 0, 0, 0⟩⟩
theorem recs_eq : recsOf PW = [dF 1, dF 6, dF 7, dF 8, dF 9, dF 10, dF 11, dF 12, dF 13, dF 14, dF 15, dF 16, dF 17, dF 19, dF 20, dF 21, dF 22, dF 23, dF 24] := by kernel_rfl

end Mine

namespace Mine

/-- a text, by its signs -/
def T (l : List Nat) : Str := ⟨l.toArray⟩
theorem T_list (l : List Nat) : (T l).cps.toList = l := rfl
theorem T_cps (l : List Nat) : (T l).cps = l.toArray := rfl
theorem T_len (l : List Nat) : (T l).length = l.length := by simp [T, Str.length]
theorem str_ext {x y : Str} (h : x.cps.toList = y.cps.toList) : x = y := by
  obtain ⟨⟨l⟩⟩ := x; obtain ⟨⟨k⟩⟩ := y
  have : l = k := h
  rw [this]
theorem T_app (a b : List Nat) : T a ++ T b = T (a ++ b) := str_ext (by
  show ((T a).cps ++ (T b).cps).toList = _
  simp [T])
theorem T_inj {a b : List Nat} (h : T a = T b) : a = b := by have := congrArg (fun x => x.cps.toList) h; simpa [T] using this
theorem T_of (x : Str) : x = T x.cps.toList := str_ext rfl
theorem T_beq (a b : List Nat) : (T a == T b) = (a == b) := by
  by_cases h : a = b
  · subst h; simp
  · have h1 : (T a == T b) = false := beq_eq_false_iff_ne.mpr fun q => h (T_inj q)
    have h2 : (a == b) = false := beq_eq_false_iff_ne.mpr h
    rw [h1, h2]
theorem T_bne (a b : List Nat) : (T a != T b) = (a != b) := by unfold bne; rw [T_beq]
theorem beq_sym {a b : List Nat} : (a == b) = (b == a) := by
  by_cases h : a = b
  · subst h; rfl
  · rw [beq_eq_false_iff_ne.mpr h, beq_eq_false_iff_ne.mpr (Ne.symm h)]
theorem T_any (xs : List (List Nat)) (a : List Nat) : (xs.map T).any (· == T a) = xs.contains a := by
  induction xs with
  | nil => rfl
  | cons x r ih => rw [List.map_cons, List.any_cons, ih, T_beq, List.contains_cons, beq_sym]

theorem lit_slash : Str.ofString "/" = T [47] := by decide +kernel
theorem lit_inbox : Str.ofString "INBOX" = T [73, 78, 66, 79, 88] := by decide +kernel
theorem lit_empty : Str.ofString "" = T [] := by decide +kernel
theorem lit_wild : Str.ofString "%*" = T [37, 42] := by decide +kernel
theorem lit_pct : Str.ofString "%" = T [37] := by decide +kernel
theorem lit_star : Str.ofString "*" = T [42] := by decide +kernel
theorem lit_a : Str.ofString "a" = T [97] := by decide +kernel
theorem lit_z : Str.ofString "z" = T [122] := by decide +kernel

theorem at_one (l : List Nat) (c i : Nat) : StrLaws.At (T l) (T [c]) (T l).length i ↔ l[i]? = some c := by
  have := StrLaws.subAt_one (T l) c i
  rw [T_list] at this
  exact this

theorem idxOf_spec {l : List Nat} {c i : Nat} (h1 : l[i]? = some c) (h2 : ∀ k, k < i → l[k]? ≠ some c) : l.idxOf c = i := by
  have hm : c ∈ l := List.mem_of_getElem? h1
  have hx := List.idxOf_lt_length_of_mem hm
  have h4 : l[l.idxOf c]? = some c := by rw [List.getElem?_eq_getElem hx]; simp
  have a1 : ¬ l.idxOf c < i := fun q => h2 _ q h4
  have a2 : ¬ i < l.idxOf c := fun q => by
    have hlt := (List.getElem?_eq_some_iff.mp h1).1
    have hne := List.not_of_lt_findIdx (p := (· == c)) (xs := l) q
    rw [List.getElem?_eq_getElem hlt] at h1
    simp at hne
    exact hne (Option.some.inj h1)
  omega

theorem find_T (l : List Nat) (c : Nat) : Txt.find (T l) (T [c]) = if c ∈ l then (l.idxOf c : Int) else -1 := by
  unfold Txt.find
  rcases StrLaws.occ_head (T l) (T [c]) 1 (Nat.le_refl _) with ⟨h1, h2⟩ | ⟨i, r, h1, h2, h3⟩
  · rw [h1, if_neg]
    intro hm
    obtain ⟨i, hi⟩ := List.getElem?_of_mem hm
    exact h2 i ((at_one l c i).mpr hi)
  · rw [h1]
    have e := (at_one l c i).mp h2
    rw [if_pos (List.mem_of_getElem? e), idxOf_spec e fun k hk q => h3 k hk ((at_one l c k).mpr q)]
theorem find3_T (l : List Nat) (c i : Nat) (hi : i ≤ l.length) : Txt.find3 (T l) (T [c]) i = if c ∈ l.drop i then ((i + (l.drop i).idxOf c : Nat) : Int) else -1 := by
  unfold Txt.find3
  have hf : fromIndex (T l).length (i : Int) = i := by unfold fromIndex; rw [if_neg (by omega)]; omega
  rw [hf]
  rcases StrLaws.occ_head_from (T l) (T [c]) i 1 (Nat.le_refl _) with ⟨h1, h2⟩ | ⟨j, r, h1, h2, h3, h4⟩
  · rw [h1, if_neg]
    intro hm
    obtain ⟨k, hk⟩ := List.getElem?_of_mem hm
    rw [List.getElem?_drop] at hk
    exact h2 (i + k) (by omega) ((at_one l c _).mpr hk)
  · rw [h1]
    have e := (at_one l c j).mp h3
    have e' : (l.drop i)[j - i]? = some c := by rw [List.getElem?_drop, show i + (j - i) = j by omega]; exact e
    have key : (l.drop i).idxOf c = j - i := idxOf_spec e' fun k hk q => by
      rw [List.getElem?_drop] at q
      exact h4 (i + k) (by omega) (by omega) ((at_one l c _).mpr q)
    rw [if_pos (List.mem_of_getElem? e'), key]
    show (j : Int) = _
    omega

theorem in_wild (c : Nat) : (!(Builtin.Str.occurrences (T [37, 42]) (T [c]) 0 (T [37, 42]).length 1).isEmpty) = (c == 37 || c == 42) := by
  have := StrLaws.found_one (T [37, 42]) c
  show (!(Builtin.Str.occurrences (T [37, 42]) ⟨#[c]⟩ 0 (T [37, 42]).length 1).isEmpty) = _
  rw [this, T_list]
  by_cases h1 : c = 37 <;> by_cases h2 : c = 42 <;> simp [h1, h2]

theorem startswith_T (l p : List Nat) : Txt.startswith (T l) (T p) = p.isPrefixOf l := by
  unfold Txt.startswith
  rw [StrLaws.subAt_eq, T_list, T_list, T_len, T_len, List.drop_zero, Nat.zero_add]
  by_cases h : p <+: l
  · have h1 := h.length_le
    have h2 : l.take p.length = p := List.prefix_iff_eq_take.mp h |>.symm
    rw [h2, List.isPrefixOf_iff_prefix.mpr h]
    simp [h1]
  · have : p.isPrefixOf l = false := by
      rw [Bool.eq_false_iff]; intro q; exact h (List.isPrefixOf_iff_prefix.mp q)
    rw [this]
    by_cases hl : p.length ≤ l.length
    · have : (l.take p.length == p) = false := beq_eq_false_iff_ne.mpr fun q => h (List.prefix_iff_eq_take.mpr q.symm)
      simp [this]
    · simp [hl]
theorem endswith_T (l : List Nat) (c : Nat) : Txt.endswith (T l) (T [c]) = (l.getLast? == some c) := by
  unfold Txt.endswith
  rw [StrLaws.subAt_eq, T_list, T_list, T_len, T_len]
  show (decide (0 + 1 ≤ l.length) && ((l.drop (l.length - 1)).take 1 == [c])) = _
  rcases List.eq_nil_or_concat l with rfl | ⟨r, x, rfl⟩
  · simp
  · rw [List.concat_eq_append]
    have : (r ++ [x]).length - 1 = r.length := by simp
    rw [this, List.drop_left]
    by_cases h : x = c
    · subst h; simp
    · simp [h]

theorem item_T (l : List Nat) (i : Nat) (h : i < l.length) : Txt.item (T l) (i : Int) = T [l[i]] := by
  unfold Txt.item Txt.charAt
  have h1 : seqIndex? (i : Int) (T l).length = some i := by
    unfold seqIndex?
    rw [T_len]
    simp only [show ¬ (i : Int) < 0 by omega, if_false]
    simp; omega
  rw [h1]
  show (⟨#[((T l).cps[i]?).getD 0]⟩ : Str) = _
  have : (T l).cps[i]? = some l[i] := by rw [T_cps]; simp [h]
  rw [this]; rfl

theorem ltc_one (a b : Nat) : (!(decide ((T [b]).cps.toList < (T [a]).cps.toList))) = decide (a ≤ b) := by
  rw [T_list, T_list]
  by_cases h : a ≤ b
  · have : ¬ ([b] < [a]) := by
      intro q
      rw [List.cons_lt_cons_iff] at q
      rcases q with q | ⟨_, q⟩
      · omega
      · simp at q
    simp [h, this]
  · have : [b] < [a] := List.cons_lt_cons_iff.mpr (.inl (by omega))
    simp [h, this]

/-- the parts between the signs c -/
def splitC (c : Nat) : List Nat → List (List Nat)
  | [] => [[]]
  | x :: l => if x = c then [] :: splitC c l else match splitC c l with
    | [] => [[x]]
    | h :: t => (x :: h) :: t
theorem splitC_ne (c : Nat) (l : List Nat) : splitC c l ≠ [] := by
  cases l with
  | nil => simp [splitC]
  | cons x l =>
    unfold splitC
    split
    · simp
    · split <;> simp
def joinC (c : Nat) (ls : List (List Nat)) : List Nat := List.intercalate [c] ls
theorem joinC_cons2 (c : Nat) (a b : List Nat) (r : List (List Nat)) : joinC c (a :: b :: r) = a ++ c :: joinC c (b :: r) := by
  unfold joinC; simp [List.intercalate, List.intersperse]
theorem joinC_one (c : Nat) (a : List Nat) : joinC c [a] = a := by unfold joinC; simp [List.intercalate]
theorem splitC_append {c : Nat} : ∀ {a l : List Nat}, c ∉ a → splitC c (a ++ c :: l) = a :: splitC c l
  | [], l, _ => by simp [splitC]
  | x :: a, l, h => by
    have hx : x ≠ c := fun q => h (by simp [q])
    have ih := splitC_append (a := a) (l := l) fun q => h (List.mem_cons_of_mem _ q)
    show splitC c (x :: (a ++ c :: l)) = _
    rw [splitC, if_neg hx, ih]
theorem splitC_free {c : Nat} : ∀ {a : List Nat}, c ∉ a → splitC c a = [a]
  | [], _ => rfl
  | x :: a, h => by
    have hx : x ≠ c := fun q => h (by simp [q])
    have ih := splitC_free (a := a) fun q => h (List.mem_cons_of_mem _ q)
    unfold splitC
    rw [if_neg hx, ih]
theorem splitC_join {c : Nat} : ∀ {ls : List (List Nat)}, ls ≠ [] → (∀ p ∈ ls, c ∉ p) → splitC c (joinC c ls) = ls
  | [], h, _ => absurd rfl h
  | [a], _, h => by rw [joinC_one]; exact splitC_free (h a (by simp))
  | a :: b :: r, _, h => by
    rw [joinC_cons2, splitC_append (h a (by simp)), splitC_join (by simp) fun p hp => h p (List.mem_cons_of_mem _ hp)]
theorem join_T (c : Nat) : ∀ ls : List (List Nat), Str.join (T [c]) (ls.map T) = T (joinC c ls)
  | [] => rfl
  | [a] => by rw [joinC_one]; rfl
  | a :: b :: r => by
    have ih := join_T c (b :: r)
    rw [joinC_cons2]
    show T a ++ T [c] ++ Str.join (T [c]) ((b :: r).map T) = _
    rw [ih, T_app, T_app]
    simp
theorem tjoin_T (c : Nat) (ls : List (List Nat)) : Txt.join (T [c]) (ls.map T) = T (joinC c ls) := by
  show Builtin.Str.glued _ _ = _
  rw [StrLaws.glued_eq_join, join_T]
theorem tjoin_nil : ∀ (ls : List (List Nat)), Str.join (T []) (ls.map T) = T ls.flatten
  | [] => rfl
  | [a] => by simp; rfl
  | a :: b :: r => by
    have ih := tjoin_nil (b :: r)
    show T a ++ T [] ++ Str.join (T []) ((b :: r).map T) = _
    rw [ih, T_app, T_app]
    simp
theorem tjoin_T0 (ls : List (List Nat)) : Txt.join (T []) (ls.map T) = T ls.flatten := by
  show Builtin.Str.glued _ _ = _
  rw [StrLaws.glued_eq_join, tjoin_nil]
theorem split_T (l : List Nat) (c : Nat) : Txt.split (T l) (T [c]) = (splitC c l).map T := by
  have h1 := StrLaws.join_split (T l) (T [c])
  have h2 := StrLaws.split_free (T l) c
  have e : ∃ ls : List (List Nat), Txt.split (T l) (T [c]) = ls.map T := ⟨(Txt.split (T l) (T [c])).map (·.cps.toList), by
    rw [List.map_map]
    exact (List.map_id'' (fun x => (T_of x).symm) _).symm⟩
  obtain ⟨ls, e⟩ := e
  have hne : ls ≠ [] := by
    intro q
    subst q
    have : Txt.split (T l) (T [c]) ≠ [] := by
      unfold Txt.split
      split
      · simp
      · split
        · simp
        · intro q
          have := PySem.length_partsBetween (T l) (Builtin.Str.occurrences (T l) (T [c]) 0 (T l).length ((T l).length + 1)) (T [c]).length
          rw [q] at this; simp at this
    exact this (by rw [e]; rfl)
  rw [e, join_T] at h1
  have h3 : ∀ p ∈ ls, c ∉ p := fun p hp => by
    have := h2 (T p) (by show T p ∈ Txt.split (T l) (T [c]); rw [e]; exact List.mem_map_of_mem hp)
    rwa [T_list] at this
  rw [e, ← T_inj h1, splitC_join hne h3]
end Mine

namespace Mine

abbrev clipN (n : Nat) (i : Int) : Nat := clipAt n i
theorem clipN_le (n : Nat) (i : Int) : clipN n i ≤ n := by unfold clipN clipAt; omega
theorem clipN_nat (n k : Nat) : clipN n (k : Int) = min k n := clipAt_nat n k
theorem range_one (a b : Nat) : sliceRange (a : Int) (b : Int) 1 = (List.range (b - a)).map (a + ·) := by
  unfold sliceRange
  simp only [show (1 : Int) > 0 by decide, if_true]
  by_cases h : (a : Int) < b
  · rw [if_pos h]
    have : (((b : Int) - a + 1 - 1) / 1).toNat = b - a := by rw [Int.ediv_one]; omega
    rw [this]
    exact List.map_congr_left fun k _ => by omega
  · rw [if_neg h]
    have : b - a = 0 := by omega
    rw [this]; rfl
def lowN (n : Nat) (lo : Option Int) : Nat := lo.elim 0 (clipN n)
def hiN (n : Nat) (hi : Option Int) : Nat := hi.elim n (clipN n)
theorem hiN_le (n : Nat) (hi : Option Int) : hiN n hi ≤ n := by cases hi <;> simp [hiN, clipN_le]
theorem pickD_eq (ds : List DD) (lo hi : Option Int) : pickD ds lo hi = (ds.drop (lowN ds.length lo)).take (hiN ds.length hi - lowN ds.length lo) := by
  unfold pickD
  have h1 : (sliceBounds lo hi none ds.length) = ((lowN ds.length lo : Int), (hiN ds.length hi : Int), 1) := sliceBounds_plain lo hi ds.length
  rw [h1]
  simp only
  rw [range_one]
  by_cases h : lowN ds.length lo ≤ hiN ds.length hi
  · have := StrLaws.picks ds (hiN ds.length hi - lowN ds.length lo) (lowN ds.length lo) (by have := hiN_le ds.length hi; omega)
    exact this
  · have : hiN ds.length hi - lowN ds.length lo = 0 := by omega
    rw [this]; simp
theorem slice_T (l : List Nat) (lo hi : Option Int) : Txt.slice (T l) lo hi = T ((l.drop (lowN l.length lo)).take (hiN l.length hi - lowN l.length lo)) := by
  have h1 : Builtin.Str.strSliceIndices lo hi 1 (T l).length = (List.range (hiN l.length hi - lowN l.length lo)).map (lowN l.length lo + ·) := by
    rw [T_len, ← range_one]
    have h2 := sliceBounds_plain lo hi l.length
    have h3 : Builtin.Str.strSliceIndices lo hi 1 l.length = sliceRange (sliceBounds lo hi none l.length).1 (sliceBounds lo hi none l.length).2.1 (sliceBounds lo hi none l.length).2.2 := rfl
    rw [h3, h2]; rfl
  have hb := hiN_le l.length hi
  unfold Txt.slice
  rw [h1]
  simp only [List.length_map, List.length_range, T_len]
  by_cases h : hiN l.length hi - lowN l.length lo = l.length
  · rw [if_pos (by simp [h]), h]
    by_cases h0 : l.length = 0
    · have : l = [] := List.length_eq_zero_iff.mp h0
      subst this; simp
    · have : lowN l.length lo = 0 := by omega
      rw [this]; simp
  · rw [if_neg (by simp [h])]
    refine str_ext ?_
    show List.filterMap _ _ = _
    rw [T_list]
    by_cases h2 : lowN l.length lo ≤ hiN l.length hi
    · have := StrLaws.picks l (hiN l.length hi - lowN l.length lo) (lowN l.length lo) (by omega)
      rw [← this]
      exact congrArg (fun f => List.filterMap f _) (funext fun k => by rw [T_cps]; simp)
    · have : hiN l.length hi - lowN l.length lo = 0 := by omega
      rw [this]; simp
theorem slice_take (l : List Nat) (n : Nat) : Txt.slice (T l) none (some (n : Int)) = T (l.take n) := by
  rw [slice_T]; congr 1
  simp only [lowN, hiN, Option.elim, List.drop_zero, Nat.sub_zero, clipN_nat]
  rcases Nat.le_total n l.length with h | h
  · rw [Nat.min_eq_left h]
  · rw [Nat.min_eq_right h, List.take_of_length_le h, List.take_of_length_le (Nat.le_refl _)]
theorem slice_drop (l : List Nat) (n : Nat) : Txt.slice (T l) (some (n : Int)) none = T (l.drop n) := by
  rw [slice_T]; congr 1
  simp only [lowN, hiN, Option.elim, clipN_nat]
  rcases Nat.le_total n l.length with h | h
  · rw [Nat.min_eq_left h, List.take_of_length_le (by simp)]
  · rw [Nat.min_eq_right h, List.drop_of_length_le h]; simp
theorem slice_last (l : List Nat) : Txt.slice (T l) (some (-1)) none = T (l.drop (l.length - 1)) := by
  rw [slice_T]; congr 1
  have : clipN l.length (-1) = l.length - 1 := clipAt_neg l.length 1 (Nat.le_refl _)
  simp only [lowN, hiN, Option.elim, this]
  rw [List.take_of_length_le (by simp)]
theorem pick_take (ds : List DD) (n : Nat) : pickD ds none (some (n : Int)) = ds.take n := by
  rw [pickD_eq]
  simp only [lowN, hiN, Option.elim, List.drop_zero, Nat.sub_zero, clipN_nat]
  rcases Nat.le_total n ds.length with h | h
  · rw [Nat.min_eq_left h]
  · rw [Nat.min_eq_right h, List.take_of_length_le h, List.take_of_length_le (Nat.le_refl _)]
theorem pick_drop (ds : List DD) (n : Nat) : pickD ds (some (n : Int)) none = ds.drop n := by
  rw [pickD_eq]
  simp only [lowN, hiN, Option.elim, clipN_nat]
  rcases Nat.le_total n ds.length with h | h
  · rw [Nat.min_eq_left h, List.take_of_length_le (by simp)]
  · rw [Nat.min_eq_right h, List.drop_of_length_le h]; simp
theorem pick_mid (ds : List DD) (a b : Nat) (h : a ≤ ds.length) : pickD ds (some (a : Int)) (some (b : Int)) = (ds.drop a).take (b - a) := by
  rw [pickD_eq]
  simp only [lowN, hiN, Option.elim, clipN_nat]
  rw [Nat.min_eq_left h]
  rcases Nat.le_total b ds.length with h2 | h2
  · rw [Nat.min_eq_left h2]
  · rw [Nat.min_eq_right h2, List.take_of_length_le (by simp), List.take_of_length_le (by simp; omega)]
end Mine

set_option maxRecDepth 100000
namespace Mine
section
variable {w : World} {mg : Str → Option Value} {A : Around} {env : Env} {m : List (Str × DD)}

theorem tr_chain2 {l r₁ r₂ : PySem.Expr} {op₁ op₂ : CmpOp} {pos : Pos} {f₁ f₂ f₃ : Bool} {d₁ d₂ d₃ : DD} {b₁ b₂ : Bool} (h₁ : Ev w mg A env m l f₁ d₁) (h₂ : Ev w mg A env m r₁ f₂ d₂) (h₃ : Ev w mg A env m r₂ f₃ d₃)
    (c₁ : Cmp w A op₁ d₁ d₂ b₁) (c₂ : Cmp w A op₂ d₂ d₃ b₂) (hm : lastMarks [op₁, op₂] [r₁, r₂] = false := by with_unfolding_all rfl) : Tr w mg A env m (.Compare l [op₁, op₂] [r₁, r₂] pos) (b₁ && b₂) := .mk fun s E Q B R hQ =>
  isTrue_chain (h₁.go s E _ B R fun v₁ s₁ k₁ r₁ _ => test_link (h₂.go s₁ E _ (B.keeps k₁.heap) (R.keeps k₁.heap) fun v₂ s₂ k₂ r₂ _ =>
    c₁.go s₂ v₁ v₂ E _ (r₁.keeps k₂.heap) r₂ fun s₃ k₃ => wpAny_truthy_bool (by
      cases b₁ with
      | false => exact hQ s₃ (k₁.trans' (k₂.trans' k₃))
      | true =>
        have k := k₁.trans' (k₂.trans' k₃)
        exact test_last (h₃.go s₃ E _ (B.keeps k.heap) (R.keeps k.heap) fun v₃ s₄ k₄ r₃ _ => c₂.go s₄ v₂ v₃ E _ (r₂.keeps (k₃.trans' k₄).heap) r₃ fun s₅ k₅ => wpAny_truthy_bool (hQ s₅ (k.trans' (k₄.trans' k₅))))))) hm
theorem tr_not {e : PySem.Expr} {pos : Pos} {b : Bool} (h : Tr w mg A env m e b) : Tr w mg A env m (.UnaryOp .Not e pos) (!b) := .mk fun s E Q B R hQ =>
  PyProof.Rows.isTrue_not (h.go s E _ B R fun s' k => hQ s' k)
theorem ev_mulI {l r : PySem.Expr} {pos : Pos} {f₁ f₂ : Bool} {a b : Int} (h₁ : Ev w mg A env m l f₁ (.int a)) (h₂ : Ev w mg A env m r f₂ (.int b)) (hm : IntMulOk a b) : Ev w mg A env m (.BinOp l .Mult r pos) true (.int (a * b)) :=
  ev_bin h₁ h₂ fun s v₁ v₂ E Q _ r₁ r₂ hQ => by cases r₁; cases r₂; exact PyProof.Rows.mul_int (hQ _ _ (Ks.tok s _) (.int _ _) fun a e => by cases e) hm
theorem ev_pow {l r : PySem.Expr} {pos : Pos} {f₁ f₂ : Bool} {a : Int} {k : Nat} (h₁ : Ev w mg A env m l f₁ (.int a)) (h₂ : Ev w mg A env m r f₂ (.int k)) (ha : a = 4 ∨ a = 10) (hk : k ≤ 3) : Ev w mg A env m (.BinOp l .Pow r pos) true (.int (a ^ k)) :=
  ev_bin h₁ h₂ fun s v₁ v₂ E Q _ r₁ r₂ hQ => by
    cases r₁; cases r₂
    have fin : ∀ i : Int, i = a ^ k → (Made.int i).post Q s := fun i e => e ▸ hQ _ _ (Ks.tok s _) (.int _ _) fun a e => by cases e
    rcases Nat.eq_zero_or_pos k with rfl | hp
    · exact PySem.AutoIntOps.pow_0 (by decide) (by decide) (fin 1 (by simp))
    · refine PySem.AutoIntOps.pow_4 (by omega) (by simp; omega) (by rcases ha with rfl | rfl <;> decide) (by rcases ha with rfl | rfl <;> decide) ?_ (fin _ (by simp))
      have : k = 1 ∨ k = 2 ∨ k = 3 := by omega
      rcases ha with rfl | rfl <;> rcases this with rfl | rfl | rfl <;> decide +kernel

theorem Ev.eq {e : PySem.Expr} {f : Bool} {d d' : DD} (h : Ev w mg A env m e f d) (q : d = d') : Ev w mg A env m e f d' := q ▸ h
theorem Tr.eq {e : PySem.Expr} {b b' : Bool} (h : Tr w mg A env m e b) (q : b = b') : Tr w mg A env m e b' := q ▸ h
theorem EvI.eq {e : PySem.Expr} {s : Option Str} {d d' : List DD} (h : EvI w mg A env m e s d) (q : d = d') : EvI w mg A env m e s d' := q ▸ h
theorem Cmp.eq {op : CmpOp} {a a' b b' : DD} {x x' : Bool} (h : Cmp w A op a b x) (q : a = a') (q' : b = b') (r : x = x') : Cmp w A op a' b' x' := by subst q q' r; exact h
end

abbrev dS (l : List Nat) : DD := .str (T l)
abbrev dN (n : Nat) : DD := .int (n : Int)

def up (c : Nat) : Nat := if 97 ≤ c ∧ c ≤ 122 then c - 32 else c

theorem signs_T (l : List Nat) : signs (T l) = l.map fun c => dS [c] := by
  unfold signs; rw [T_list]; rfl
theorem flatS {x : Str} : FlatD (.str x) := ⟨fun _ q => (by cases q), fun _ q => (by cases q)⟩
theorem flatI {x : Int} : FlatD (.int x) := ⟨fun _ q => (by cases q), fun _ q => (by cases q)⟩
theorem flatB {x : Bool} : FlatD (.bool x) := ⟨fun _ q => (by cases q), fun _ q => (by cases q)⟩
theorem flatT {x : List DD} : FlatD (.tuple x) := ⟨fun _ q => (by cases q), fun _ q => (by cases q)⟩

def elS : DD → List Nat
  | .str x => x.cps.toList
  | _ => []
theorem elS_dS (l : List Nat) : elS (dS l) = l := rfl

section
variable {w : World} {mg : Str → Option Value}

theorem sum_ones {α : Type} (g : α → Str) (h : ∀ x, (g x).length = 1) : ∀ l : List α, ((l.map g).map (·.length)).sum = l.length
  | [] => rfl
  | x :: r => by rw [List.map_cons, List.map_cons, List.sum_cons, sum_ones g h r, h, List.length_cons]; omega
theorem flat_ones (f : Nat → Nat) : ∀ l : List Nat, (l.map fun c => [f c]).flatten = l.map f
  | [] => rfl
  | c :: r => by rw [List.map_cons, List.flatten_cons, flat_ones f r]; rfl

theorem fn_upper {l : List Nat} (hl : l.length ≤ 1000) : Fn w mg 1 "upper_text" [dS l] (dS (l.map up)) :=
  fn_of (d := dF 1) (ps := ["text"]) (by rw [recs_eq]; simp) rfl (by decide) (fun pm cd doc vs h => match vs, h with | [v1], _ => rfl) (fun L x hx => by
      simp at hx
      rcases hx with rfl
      exact .inl rfl) fun A L a cd hA ok => by
    have hin : ∀ d ∈ l.map (fun c => dS [c]), ∃ c, d = dS [c] := fun d hd => by
      obtain ⟨c, _, rfl⟩ := List.mem_map.mp hd; exact ⟨c, rfl⟩
    refine sx_ret (x1_ret (f := true) (Ev.eq (d := .str (Txt.join (Str.ofString "") (l.map fun c => T [up c]))) (ev_meth (ds := [.list ((l.map fun c => T [up c]).map .str)]) F.slot_str_join F.type_str_join ev_str (args_s (Ev.eq (ev_comp1 (cl := []) (mc := []) (tst := fun _ => true) (f := fun d => dS ((elS d).map up)) (fr := false)
      ok hA.1 ⟨rfl, by decide, rfl, by decide⟩ cap_nil rfl rfl ((evi_str (ev_name ok rfl)).eq (signs_T l)) (fun C d hd => trs_nil) (fun C d hd _ => ?_) (fun d hd _ => flatS) (by rw [List.length_map, sizeLine_eq]; omega)) ?_) args_z) (bf_join ?_)) ?_) (.inl rfl))
    · obtain ⟨c, rfl⟩ := hin d hd
      refine ev_if (c := decide (97 ≤ c) && decide (c ≤ 122)) (Tr.eq (tr_chain2 ev_str (ev_name ⟨rfl, ok.g, ok.b⟩ rfl) ev_str cmp_leS cmp_leS) ?_) (fun h => ?_) fun h => ?_
      · rw [lit_a, lit_z, ltc_one, ltc_one]
      · have h' : 97 ≤ c ∧ c ≤ 122 := by simpa using h
        refine Ev.eq (Ev.scalar (ev_bcall ⟨rfl, ok.g, ok.b⟩ rfl (by decide) boot_chr (args_s (ev_subI (ev_bcall ⟨rfl, ok.g, ok.b⟩ rfl (by decide) boot_ord (args_s (ev_name ⟨rfl, ok.g, ok.b⟩ rfl) args_z) (bf_ord rfl)) ev_int) args_z) (bf_chr ?_ ?_))) ?_
        · show (0 : Int) ≤ (c : Int) - 32; omega
        · show (c : Int) - 32 ≤ 1114111; omega
        · show PyData.str (T [((c : Int) - 32).toNat]) = dS [up c]
          have e : ((c : Int) - 32).toNat = c - 32 := by omega
          rw [e]; unfold up; rw [if_pos h']
      · refine Ev.eq (ev_name ⟨rfl, ok.g, ok.b⟩ rfl) ?_
        have h' : ¬ (97 ≤ c ∧ c ≤ 122) := by simpa using h
        show dS [c] = dS [up c]
        unfold up; rw [if_neg h']
    · rw [List.filter_eq_self.mpr (fun _ _ => rfl), List.map_map, List.map_map]; rfl
    · rw [sum_ones (fun c => T [up c]) (fun _ => rfl)]
      simp
      have : (Str.ofString "").length = 0 := by decide +kernel
      rw [this]; omega
    · rw [lit_empty, show (l.map fun c => T [up c]) = (l.map fun c => [up c]).map T by rw [List.map_map]; rfl, tjoin_T0, flat_ones]
end
end Mine

namespace Mine

def hd (l : List Nat) : List Nat := l.take (l.idxOf 47)
def tl (l : List Nat) : List Nat := l.drop (l.idxOf 47)
theorem hd_none {l : List Nat} (h : 47 ∉ l) : hd l = l := by unfold hd; rw [List.idxOf_eq_length h, List.take_length]
theorem tl_none {l : List Nat} (h : 47 ∉ l) : tl l = [] := by unfold tl; rw [List.idxOf_eq_length h, List.drop_length]

theorem len_slash : (Str.ofString "/").length = 1 := by decide +kernel
theorem len_inbox : (Str.ofString "INBOX").length = 5 := by decide +kernel
theorem find_lit (l : List Nat) : Txt.find (T l) (Str.ofString "/") = if 47 ∈ l then (l.idxOf 47 : Int) else -1 := by rw [lit_slash, find_T]

theorem args1 {vs : List Value} (h : vs.length = 1) : ∃ v, vs = [v] := by
  match vs, h with | [v], _ => exact ⟨v, rfl⟩
theorem args2 {vs : List Value} (h : vs.length = 2) : ∃ v u, vs = [v, u] := by
  match vs, h with | [v, u], _ => exact ⟨v, u, rfl⟩
theorem args3 {vs : List Value} (h : vs.length = 3) : ∃ v u z, vs = [v, u, z] := by
  match vs, h with | [v, u, z], _ => exact ⟨v, u, z, rfl⟩

theorem in_upper : ((recsOf PW).any fun e => e.name == "upper_text") = true := by decide +kernel
theorem in_first : ((recsOf PW).any fun e => e.name == "first_part") = true := by decide +kernel
theorem in_below : ((recsOf PW).any fun e => e.name == "is_below") = true := by decide +kernel
theorem in_hasbelow : ((recsOf PW).any fun e => e.name == "has_below") = true := by decide +kernel

theorem sb_refl {m : List (Str × DD)} : Sb m m := fun _ _ e => e
theorem sb_drop {m m' : List (Str × DD)} {x : Str} {d : DD} (h : m'.lookup x = none) (hs : Sb m' m) : Sb m' ((x, d) :: m) := fun y d' e => by
  by_cases hy : y = x
  · subst hy; rw [h] at e; cases e
  · have hb : (y == x) = false := by simpa using hy
    simp only [List.lookup_cons, hb]; exact hs y d' e
theorem sb_nil {m : List (Str × DD)} : Sb [] m := fun _ _ e => by cases e
theorem sb_cons {m m' : List (Str × DD)} {x : Str} {d : DD} (h : m.lookup x = some d) (hs : Sb m' m) : Sb ((x, d) :: m') m := fun y d' e => by
  by_cases hy : y = x
  · subst hy
    simp only [List.lookup_cons, beq_self_eq_true, Option.some.injEq] at e
    subst e; exact h
  · have hb : (y == x) = false := by simpa using hy
    simp only [List.lookup_cons, hb] at e; exact hs y d' e

def INB : List Nat := [73, 78, 66, 79, 88]

section
variable {w : World} {mg : Str → Option Value}

theorem fn_first {l : List Nat} (hl : l.length ≤ 1000) : Fn w mg 1 "first_part" [dS l] (.tuple [dS (hd l), dS (tl l)]) :=
  fn_of (d := dF 6) (ps := ["text"]) (by rw [recs_eq]; simp) rfl (by decide) (fun pm cd doc vs h => by obtain ⟨v, rfl⟩ := args1 h; rfl) (fun L x hx => by
      simp at hx; rcases hx with rfl; exact .inl rfl) fun A L a cd hA ok => by
    refine sx_cons (x1_assign ok (.inl rfl) (Ev.eq (ev_meth F.slot_str_find F.type_str_find (ev_name ok rfl) (args_s (ev_top ok rfl rfl (.inl ⟨_, rfl⟩)) args_z) bf_find) (congrArg PyData.int (find_lit l))) (.inl rfl)) ?_
    by_cases h : 47 ∈ l
    · rw [if_pos h]
      refine sx_cons (x1_if (b := false) (Tr.eq (tr_cmp (ev_name ok rfl) ev_int cmp_lt) ?_) (fun q => by cases q) (fun _ => sx_nil)) ?_
      · simp
      · refine sx_ret (x1_ret (f := true) (Ev.eq (ev_tuple (args_s (ev_sliceS (ev_name ok rfl) evp_none (evp_some (ev_name ok rfl)) ?_) (args_s (ev_sliceS (ev_name ok rfl) (evp_some (ev_name ok rfl)) evp_none ?_) args_z)) ?_ ?_) ?_) (.inl rfl))
        · rw [T_len, sizeLine_eq]; omega
        · rw [T_len, sizeLine_eq]; omega
        · intro d hd; simp at hd; rcases hd with rfl | rfl <;> exact flatS
        · rw [sizeLine_eq]; simp
        · rw [slice_take, slice_drop]; rfl
    · rw [if_neg h]
      refine sx_ret (x1_if (b := true) (Tr.eq (tr_cmp (ev_name ok rfl) ev_int cmp_lt) (by simp)) (fun _ => sx_ret (x1_ret (f := true) (Ev.eq (ev_tuple (args_s (ev_name ok rfl) (args_s ev_str args_z)) ?_ ?_) ?_) (.inl rfl))) (fun q => by cases q))
      · intro d hd; simp at hd; rcases hd with rfl | rfl <;> exact flatS
      · rw [sizeLine_eq]; simp
      · rw [hd_none h, tl_none h, lit_empty]

theorem fn_normal {l : List Nat} (hl : l.length ≤ 1000) : Fn w mg 2 "normal_name" [dS l] (dS (if (hd l).map up = INB then INB ++ tl l else l)) :=
  fn_of (d := dF 7) (ps := ["text"]) (by rw [recs_eq]; simp) rfl (by decide) (fun pm cd doc vs h => by obtain ⟨v, rfl⟩ := args1 h; rfl) (fun L x hx => by
      simp at hx; rcases hx with rfl; exact .inl rfl) fun A L a cd hA ok => by
    have hh : (hd l).length ≤ 1000 := by unfold hd; rw [List.length_take]; omega
    have ht : (tl l).length ≤ 1000 := by unfold tl; rw [List.length_drop]; omega
    refine sx_cons (x1_pair ok hA.1 (.inl rfl) (.inl rfl) (ev_call ok hA rfl in_first (args_s (ev_name ok rfl) args_z) (fn_first hl)) flatS flatS) ?_
    by_cases h : (hd l).map up = INB
    · rw [if_pos h]
      refine sx_ret (x1_if (b := true) (Tr.eq (tr_cmp (ev_call ok hA rfl in_upper (args_s (ev_name ok rfl) args_z) (fn_upper hh)) (ev_top ok rfl rfl (.inl ⟨_, rfl⟩)) cmp_eqS) ?_) (fun _ => sx_ret (x1_ret (f := true) (Ev.eq (ev_addS (ev_top ok rfl rfl (.inl ⟨_, rfl⟩)) (ev_name ok rfl) ?_) ?_) (.inl rfl))) (fun q => by cases q))
      · rw [lit_inbox, T_beq]; simpa [INB] using h
      · rw [len_inbox, T_len, sizeLine_eq]; omega
      · rw [lit_inbox, T_app]; rfl
    · rw [if_neg h]
      refine sx_cons (x1_if (b := false) (Tr.eq (tr_cmp (ev_call ok hA rfl in_upper (args_s (ev_name ok rfl) args_z) (fn_upper hh)) (ev_top ok rfl rfl (.inl ⟨_, rfl⟩)) cmp_eqS) ?_) (fun q => by cases q) (fun _ => sx_nil)) ?_
      · rw [lit_inbox, T_beq]; simpa [INB] using h
      · exact sx_ret (x1_ret (ev_name ok rfl) (.inr notRef_str))

theorem fn_is_below {n p : List Nat} (hp : p.length ≤ 1000) : Fn w mg 1 "is_below" [dS n, dS p] (.bool ((p ++ [47]).isPrefixOf n)) :=
  fn_of (d := dF 9) (ps := ["name", "parent"]) (by rw [recs_eq]; simp) rfl (by decide) (fun pm cd doc vs h => by obtain ⟨v, u, rfl⟩ := args2 h; rfl) (fun L x hx => by
      simp at hx; rcases hx with rfl | rfl <;> exact .inl rfl) fun A L a cd hA ok => by
    refine sx_ret (x1_ret (f := true) (Ev.eq (ev_meth F.slot_str_startswith F.type_str_startswith (ev_name ok rfl) (args_s (ev_addS (ev_name ok rfl) (ev_top ok rfl rfl (.inl ⟨_, rfl⟩)) ?_) args_z) bf_startswith) ?_) (.inl rfl))
    · rw [len_slash, T_len, sizeLine_eq]; omega
    · rw [lit_slash, T_app, startswith_T]

theorem fn_has_below {ns : List (List Nat)} {p : List Nat} (hp : p.length ≤ 1000) : Fn w mg 2 "has_below" [.list (ns.map dS), dS p] (.bool (ns.any fun n => (p ++ [47]).isPrefixOf n)) :=
  fn_of (d := dF 10) (ps := ["names", "parent"]) (by rw [recs_eq]; simp) rfl (by decide) (fun pm cd doc vs h => by obtain ⟨v, u, rfl⟩ := args2 h; rfl) (fun L x hx => by
      simp at hx; rcases hx with rfl | rfl <;> exact .inl rfl) fun A L a cd hA ok => by
    cases hany : ns.any fun n => (p ++ [47]).isPrefixOf n with
    | true =>
      refine sx_ret (x1_for (src := some "names") (ds := ns.map dS) ok hA.1 (evi_listName ok rfl) (fun x hx => ⟨by simp, by cases hx; rfl⟩) ?_)
      refine (?_ : ∀ ks : List (List Nat), (ks.any fun n => (p ++ [47]).isPrefixOf n) = true → ForL w mg A (envF (dF 10) L a cd) _ _ [] (ks.map dS) _ (.ret (.bool true))) ns hany
      intro ks
      induction ks with
      | nil => intro q; cases q
      | cons k ks ih =>
        intro q
        cases hb : (p ++ [47]).isPrefixOf k with
        | true => exact ForL.ret (bd_name ok (.inl rfl) (sx_ret (x1_if (b := true) (tr_of (fun _ _ => rfl) (Ev.eq (ev_call ok hA rfl in_below (args_s (ev_name ok rfl) (args_s (ev_name ok rfl) args_z)) (fn_is_below (n := k) hp)) (by rw [hb]))) (fun _ => sx_ret (x1_ret ev_bool (.inl rfl))) (fun q => by cases q))))
        | false =>
          rw [List.any_cons, hb, Bool.false_or] at q
          exact ForL.next (bd_name ok (.inl rfl) (sx_weak (sx_cons (x1_if (b := false) (tr_of (fun _ _ => rfl) (Ev.eq (ev_call ok hA rfl in_below (args_s (ev_name ok rfl) (args_s (ev_name ok rfl) args_z)) (fn_is_below (n := k) hp)) (by rw [hb]))) (fun q => by cases q) (fun _ => sx_nil)) sx_nil) (sb_drop rfl sb_refl) (by simp))) (ih q)
    | false =>
      refine sx_cons (m1 := [("names", .list (ns.map dS)), ("parent", dS p)]) (own1 := []) (x1_for (src := some "names") (ds := ns.map dS) ok hA.1 (evi_listName ok rfl) (fun x hx => ⟨by simp, by cases hx; rfl⟩) ?_) ?_
      · refine (?_ : ∀ ks : List (List Nat), (ks.any fun n => (p ++ [47]).isPrefixOf n) = false → ForL w mg A (envF (dF 10) L a cd) _ _ [] (ks.map dS) _ (.next _ [])) ns hany
        intro ks
        induction ks with
        | nil => intro _; exact ForL.nil
        | cons k ks ih =>
          intro q
          rw [List.any_cons, Bool.or_eq_false_iff] at q
          exact ForL.next (bd_name ok (.inl rfl) (sx_weak (sx_cons (x1_if (b := false) (tr_of (fun _ _ => rfl) (Ev.eq (ev_call ok hA rfl in_below (args_s (ev_name ok rfl) (args_s (ev_name ok rfl) args_z)) (fn_is_below (n := k) hp)) (by rw [q.1]))) (fun q => by cases q) (fun _ => sx_nil)) sx_nil) (sb_drop rfl sb_refl) (by simp))) (ih q.2)
      · exact sx_ret (x1_ret ev_bool (.inl rfl))
end
end Mine

namespace Mine

theorem in_met : ((recsOf PW).any fun e => e.name == "is_met") = true := by decide +kernel
theorem in_opened : ((recsOf PW).any fun e => e.name == "opened") = true := by decide +kernel
theorem in_anycase : ((recsOf PW).any fun e => e.name == "any_case_length") = true := by decide +kernel
theorem in_listed : ((recsOf PW).any fun e => e.name == "is_listed") = true := by decide +kernel
theorem in_whole : ((recsOf PW).any fun e => e.name == "whole_pattern") = true := by decide +kernel
theorem in_list : ((recsOf PW).any fun e => e.name == "list_names") = true := by decide +kernel
theorem in_attr : ((recsOf PW).any fun e => e.name == "list_attributes") = true := by decide +kernel
theorem in_parents : ((recsOf PW).any fun e => e.name == "parents") = true := by decide +kernel
theorem in_normal : ((recsOf PW).any fun e => e.name == "normal_name") = true := by decide +kernel
theorem in_lname : ((recsOf PW).any fun e => e.name == "_law_name") = true := by decide +kernel
theorem in_lmeets : ((recsOf PW).any fun e => e.name == "_law_meets") = true := by decide +kernel
theorem in_ltable : ((recsOf PW).any fun e => e.name == "_law_table") = true := by decide +kernel
theorem in_labove : ((recsOf PW).any fun e => e.name == "_law_above") = true := by decide +kernel
theorem in_ltree : ((recsOf PW).any fun e => e.name == "_law_tree_right") = true := by decide +kernel

section
variable {w : World} {mg : Str → Option Value}

def metB (a c : Nat) (b : Bool) : Bool := if b then up a == c else a == c
theorem one_beq (a c : Nat) : ([a] == [c]) = (a == c) := by
  by_cases h : a = c
  · subst h; simp
  · simp [h]

theorem fn_is_met {a c : Nat} {b : Bool} : Fn w mg 2 "is_met" [dS [a], dS [c], .bool b] (.bool (metB a c b)) :=
  fn_of (d := dF 11) (ps := ["wanted", "sign", "is_any_case"]) (by rw [recs_eq]; simp) rfl (by decide) (fun pm cd doc vs h => by obtain ⟨v, u, z, rfl⟩ := args3 h; rfl) (fun L x hx => by
      simp at hx; rcases hx with rfl | rfl | rfl <;> exact .inl rfl) fun A L a' cd hA ok => by
    cases b with
    | true =>
      refine sx_ret (x1_if (b := true) (tr_of (fun _ _ => rfl) (ev_name ok rfl)) (fun _ => sx_ret (x1_ret (f := true) (Ev.eq (ev_cmp (ev_call ok hA rfl in_upper (args_s (ev_name ok rfl) args_z) (fn_upper (by simp))) (ev_name ok rfl) cmp_eqS) ?_) (.inl rfl))) (fun q => by cases q))
      rw [T_beq, List.map_cons, List.map_nil, one_beq]; rfl
    | false =>
      refine sx_cons (x1_if (b := false) (tr_of (fun _ _ => rfl) (ev_name ok rfl)) (fun q => by cases q) (fun _ => sx_nil)) (sx_ret (x1_ret (f := true) (Ev.eq (ev_cmp (ev_name ok rfl) (ev_name ok rfl) cmp_eqS) ?_) (.inl rfl)))
      rw [T_beq, one_beq]; rfl

def wholeP (r p : List Nat) : List Nat := if [47].isPrefixOf p then p.drop 1 else r ++ p
theorem fn_whole {r p : List Nat} (hr : r.length ≤ 1000) (hp : p.length ≤ 1000) : Fn w mg 1 "whole_pattern" [dS r, dS p] (dS (wholeP r p)) :=
  fn_of (d := dF 15) (ps := ["reference", "pattern"]) (by rw [recs_eq]; simp) rfl (by decide) (fun pm cd doc vs h => by obtain ⟨v, u, rfl⟩ := args2 h; rfl) (fun L x hx => by
      simp at hx; rcases hx with rfl | rfl <;> exact .inl rfl) fun A L a cd hA ok => by
    unfold wholeP
    cases h : [47].isPrefixOf p with
    | true =>
      rw [if_pos rfl]
      refine sx_ret (x1_if (b := true) (tr_of (fun _ _ => rfl) (Ev.eq (ev_meth F.slot_str_startswith F.type_str_startswith (ev_name ok rfl) (args_s (ev_top ok rfl rfl (.inl ⟨_, rfl⟩)) args_z) bf_startswith) ?_)) (fun _ => sx_ret (x1_ret (f := true) (Ev.eq (ev_sliceS (ev_name ok rfl) (evp_some ev_int) evp_none ?_) ?_) (.inl rfl))) (fun q => by cases q))
      · rw [lit_slash, startswith_T, h]
      · rw [T_len, sizeLine_eq]; omega
      · exact congrArg PyData.str (slice_drop p 1)
    | false =>
      rw [if_neg (by decide)]
      refine sx_cons (x1_if (b := false) (tr_of (fun _ _ => rfl) (Ev.eq (ev_meth F.slot_str_startswith F.type_str_startswith (ev_name ok rfl) (args_s (ev_top ok rfl rfl (.inl ⟨_, rfl⟩)) args_z) bf_startswith) ?_)) (fun q => by cases q) (fun _ => sx_nil)) (sx_ret (x1_ret (f := true) (Ev.eq (ev_addS (ev_name ok rfl) (ev_name ok rfl) ?_) ?_) (.inl rfl)))
      · rw [lit_slash, startswith_T, h]
      · rw [T_len, T_len, sizeLine_eq]; omega
      · rw [T_app]

def mostN (l : List Nat) : Nat := if hd l = INB then 5 else 0
theorem fn_anycase {l : List Nat} (hl : l.length ≤ 1000) : Fn w mg 2 "any_case_length" [dS l] (dN (mostN l)) :=
  fn_of (d := dF 13) (ps := ["name"]) (by rw [recs_eq]; simp) rfl (by decide) (fun pm cd doc vs h => by obtain ⟨v, rfl⟩ := args1 h; rfl) (fun L x hx => by
      simp at hx; rcases hx with rfl; exact .inl rfl) fun A L a cd hA ok => by
    unfold mostN
    by_cases h : hd l = INB
    · rw [if_pos h]
      refine sx_ret (x1_if (b := true) (Tr.eq (tr_cmp (ev_itemT (ev_call ok hA rfl in_first (args_s (ev_name ok rfl) args_z) (fn_first hl)) ev_int (by decide) rfl (by simp)) (ev_top ok rfl rfl (.inl ⟨_, rfl⟩)) cmp_eqS) ?_) (fun _ => sx_ret (x1_ret (f := true) (Ev.eq (ev_bcall ok rfl (by decide) boot_len (args_s (ev_top ok rfl rfl (.inl ⟨_, rfl⟩)) args_z) (bf_lenS ?_)) ?_) (.inl rfl))) (fun q => by cases q))
      · rw [lit_inbox, T_beq]; simpa [INB] using h
      · rw [len_inbox]; decide
      · rw [len_inbox]
    · rw [if_neg h]
      refine sx_cons (x1_if (b := false) (Tr.eq (tr_cmp (ev_itemT (ev_call ok hA rfl in_first (args_s (ev_name ok rfl) args_z) (fn_first hl)) ev_int (by decide) rfl (by simp)) (ev_top ok rfl rfl (.inl ⟨_, rfl⟩)) cmp_eqS) ?_) (fun q => by cases q) (fun _ => sx_nil)) (sx_ret (x1_ret ev_int (.inl rfl)))
      rw [lit_inbox, T_beq]; simpa [INB] using h

def attrsOf (ns : List (List Nat)) (n : List Nat) : List DD := (if ns.contains n then [] else [PyData.str "\\Noselect"]) ++ [PyData.str (if (ns.any fun k => (n ++ [47]).isPrefixOf k) then "\\HasChildren" else "\\HasNoChildren")]
theorem list_dS (ns : List (List Nat)) : ns.map dS = (ns.map T).map .str := by rw [List.map_map]; rfl
theorem fn_attr {ns : List (List Nat)} {n : List Nat} (hn : n.length ≤ 1000) : Fn w mg 3 "list_attributes" [.list (ns.map dS), dS n] (.list (attrsOf ns n)) :=
  fn_of (d := dF 17) (ps := ["names", "name"]) (by rw [recs_eq]; simp) rfl (by decide) (fun pm cd doc vs h => by obtain ⟨v, u, rfl⟩ := args2 h; rfl) (fun L x hx => by
      simp at hx; rcases hx with rfl | rfl <;> exact .inl rfl) fun A L a cd hA ok => by
    refine sx_cons (x1_assignOwn ok (.inl rfl) (ev_list args_z (fun d hd => by cases hd) (by simp)) (.inl ⟨_, rfl⟩)) ?_
    have key : ∀ (pre : List DD), pre.length ≤ 10 → Sx w mg A (envF (dF 17) L a cd) ((dF 17).body.drop 2) [("some", .list pre), ("names", .list (ns.map dS)), ("name", dS n)] ["some"] (.ret (.list (pre ++ [PyData.str (if (ns.any fun k => (n ++ [47]).isPrefixOf k) then "\\HasChildren" else "\\HasNoChildren")]))) := fun pre hpre => by
      cases hb : ns.any fun k => (n ++ [47]).isPrefixOf k with
      | true =>
        refine sx_cons (x1_if (b := true) (tr_of (fun _ _ => rfl) (Ev.eq (ev_call ok hA rfl in_hasbelow (args_s (ev_name ok rfl) (args_s (ev_name ok rfl) args_z)) (fn_has_below hn)) (by rw [hb]))) (fun _ => sx_cons (x1_append ok (by simp) rfl (by simp) ev_str flatS (by omega)) sx_nil) (fun q => by cases q)) ?_
        exact sx_ret (x1_retOwn ok rfl (by simp))
      | false =>
        refine sx_cons (x1_if (b := false) (tr_of (fun _ _ => rfl) (Ev.eq (ev_call ok hA rfl in_hasbelow (args_s (ev_name ok rfl) (args_s (ev_name ok rfl) args_z)) (fn_has_below hn)) (by rw [hb]))) (fun q => by cases q) (fun _ => sx_cons (x1_append ok (by simp) rfl (by simp) ev_str flatS (by omega)) sx_nil)) ?_
        exact sx_ret (x1_retOwn ok rfl (by simp))
    unfold attrsOf
    cases hc : ns.contains n with
    | true =>
      refine sx_cons (m1 := [("some", .list []), ("names", .list (ns.map dS)), ("name", dS n)]) (own1 := ["some"]) (x1_weak (x1_if (b := false) (Tr.eq (tr_cmp (ev_name ok rfl) (Ev.eq (ev_name ok rfl) (congrArg PyData.list (list_dS ns))) cmp_notinL) (by rw [T_any, hc]; rfl)) (fun q => by cases q) (fun _ => sx_nil)) (sb_cons rfl (sb_cons rfl (sb_cons rfl sb_nil))) (by simp)) (key [] (by simp))
    | false =>
      refine sx_cons (m1 := [("some", .list [PyData.str "\\Noselect"]), ("names", .list (ns.map dS)), ("name", dS n)]) (own1 := ["some"]) (x1_weak (x1_if (b := true) (Tr.eq (tr_cmp (ev_name ok rfl) (Ev.eq (ev_name ok rfl) (congrArg PyData.list (list_dS ns))) cmp_notinL) (by rw [T_any, hc]; rfl)) (fun _ => sx_cons (x1_append ok (by simp) rfl (by simp [drop1]) ev_str flatS (by simp)) sx_nil) (fun q => by cases q)) (sb_cons rfl (sb_cons rfl (sb_cons rfl sb_nil))) (by simp [drop1])) (key [PyData.str "\\Noselect"] (by simp))

def aboveL (l : List Nat) : List (List Nat) := (List.range ((splitC 47 l).length - 1)).map fun i => joinC 47 ((splitC 47 l).take (i + 1))
theorem splitC_len (l : List Nat) : (splitC 47 l).length ≤ l.length + 1 := by
  induction l with
  | nil => simp [splitC]
  | cons x l ih =>
    rw [splitC]
    split
    · simp; omega
    · split
      · simp
      · rename_i h t e; rw [e] at ih; simp at ih ⊢; omega
theorem splitC_sum (l : List Nat) : ((splitC 47 l).map List.length).sum ≤ l.length := by
  induction l with
  | nil => simp [splitC]
  | cons x l ih =>
    rw [splitC]
    split
    · simp; omega
    · split
      · simp
      · rename_i h t e; rw [e] at ih; simp at ih ⊢; omega
theorem sum_take_le : ∀ (xs : List Nat) (k : Nat), (xs.take k).sum ≤ xs.sum
  | [], k => by simp
  | x :: xs, 0 => by simp
  | x :: xs, k + 1 => by have := sum_take_le xs k; simp; omega
def elI : DD → Int
  | .int i => i
  | _ => 0
theorem rangeD_map (a b : Int) {α : Type} (f : DD → α) : (rangeD a b).map f = (List.range (b - a).toNat).map fun i : Nat => f (.int (a + i)) := by
  unfold rangeD; rw [List.map_map]; rfl

theorem partsB_len {x : Str} {n : Nat} {k : Nat} (h : x.length ≤ 1000) : (Builtin.Str.partsBetween x (Builtin.Str.occurrences x (T [47]) 0 x.length (x.length + 1)) k).length ≤ sizeLine := by
  rw [PySem.length_partsBetween, sizeLine_eq]
  have := StrLaws.occ_length_le x (T [47]) 0 x.length (x.length + 1)
  omega

theorem fn_above {l : List Nat} (hl : l.length ≤ 1000) : Fn w mg 1 "_law_above" [dS l] (.list ((aboveL l).map dS)) :=
  fn_of (d := dF 22) (ps := ["name"]) (by rw [recs_eq]; simp) rfl (by decide) (fun pm cd doc vs h => by obtain ⟨v, rfl⟩ := args1 h; rfl) (fun L x hx => by
      simp at hx; rcases hx with rfl; exact .inl rfl) fun A L a cd hA ok => by
    have hps : (splitC 47 l).length ≤ 1001 := Nat.le_trans (splitC_len l) (by omega)
    refine sx_cons (m1 := [("parts", .list ((splitC 47 l).map dS)), ("name", dS l)]) (own1 := []) (x1_assign ok (.inr ⟨rfl, rfl⟩) (Ev.eq (ev_meth F.slot_str_split F.type_str_split (ev_name ok rfl) (args_s ev_str args_z) (bf_split ?_ ?_ ?_)) ?_) (.inl rfl)) ?_
    · rw [len_slash]; rfl
    · rw [T_len, sizeLine_eq]; omega
    · rw [lit_slash]; exact partsB_len (n := 0) (by rw [T_len]; exact hl)
    · rw [lit_slash, split_T, list_dS]
    · refine sx_ret (x1_ret (f := true) (Ev.eq (ev_comp1 (cl := [("parts", L + 1)]) (mc := [("parts", .list ((splitC 47 l).map dS))]) (tst := fun _ => true) (f := fun d => dS (joinC 47 ((splitC 47 l).take (elI d).toNat))) (fr := true) (ds := rangeD 1 ((splitC 47 l).length : Int))
        ok hA.1 ⟨rfl, by decide, rfl, by decide⟩ (cap_cons rfl rfl rfl rfl cap_nil) rfl rfl (evi_range2 ok rfl ev_int (Ev.eq (ev_bcall ok rfl (by decide) boot_len (args_s (ev_name ok rfl) args_z) (bf_lenL (ds := (splitC 47 l).map dS) ?_)) ?_) ?_ ?_ ?_ ?_) (fun C d hd => trs_nil) (fun C d hd _ => ?_) (fun d hd _ => flatS) ?_) ?_) (.inl rfl))
      · rw [List.length_map]; omega
      · rw [List.length_map]
      · decide
      · decide
      · omega
      · omega
      · obtain ⟨i, hi, rfl⟩ : ∃ i : Nat, i < (((splitC 47 l).length : Int) - 1).toNat ∧ d = .int (1 + i) := by
          unfold rangeD at hd
          obtain ⟨i, hi, rfl⟩ := List.mem_map.mp hd
          exact ⟨i, List.mem_range.mp hi, rfl⟩
        have e1 : (elI (.int (1 + (i : Int)))).toNat = 1 + i := by show (1 + (i : Int)).toNat = _; omega
        have e2 : pickD ((splitC 47 l).map dS) none (some (1 + (i : Int))) = (((splitC 47 l).take (1 + i)).map T).map .str := by
          have := pick_take ((splitC 47 l).map dS) (1 + i)
          rw [show ((1 + i : Nat) : Int) = 1 + (i : Int) by push_cast; rfl] at this
          rw [this, ← List.map_take, list_dS]
        refine Ev.eq (ev_meth F.slot_str_join F.type_str_join ev_str (args_s (Ev.eq (ev_sliceL (ev_name ⟨rfl, ok.g, ok.b⟩ rfl) evp_none (evp_some (ev_name ⟨rfl, ok.g, ok.b⟩ rfl)) ?_) (congrArg PyData.list e2)) args_z) (bf_join ?_)) ?_
        · rw [List.length_map, sizeLine_eq]; omega
        · rw [len_slash, List.map_map]
          have h1 : (((splitC 47 l).take (1 + i)).map ((fun x : Str => x.length) ∘ T)).sum ≤ 1000 := by
            have : ((splitC 47 l).take (1 + i)).map ((fun x : Str => x.length) ∘ T) = ((splitC 47 l).map List.length).take (1 + i) := by
              rw [← List.map_take]; exact List.map_congr_left fun x _ => T_len x
            rw [this]
            exact Nat.le_trans (sum_take_le _ _) (Nat.le_trans (splitC_sum l) hl)
          have h2 : (((splitC 47 l).take (1 + i)).map T).length ≤ 1001 := by rw [List.length_map, List.length_take]; omega
          omega
        · rw [lit_slash, tjoin_T, e1]
      · unfold rangeD; rw [List.length_map, List.length_range, sizeLine_eq]; omega
      · rw [List.filter_eq_self.mpr (fun _ _ => rfl), rangeD_map]
        unfold aboveL
        rw [List.map_map]
        congr 1
        have : (((splitC 47 l).length : Int) - 1).toNat = (splitC 47 l).length - 1 := by omega
        rw [this]
        refine List.map_congr_left fun i _ => ?_
        show dS (joinC 47 ((splitC 47 l).take (1 + (i : Int)).toNat)) = dS (joinC 47 ((splitC 47 l).take (i + 1)))
        have : (1 + (i : Int)).toNat = i + 1 := by omega
        rw [this]
end
end Mine

namespace Mine

def parF (pre : List Nat) : List Nat → List (List Nat)
  | [] => []
  | c :: r => if c = 47 then pre :: parF (pre ++ [c]) r else parF (pre ++ [c]) r
theorem parF_none : ∀ {r pre : List Nat}, 47 ∉ r → parF pre r = []
  | [], _, _ => rfl
  | c :: r, pre, h => by
    have hc : c ≠ 47 := fun q => h (by simp [q])
    rw [parF, if_neg hc, parF_none fun q => h (List.mem_cons_of_mem _ q)]
theorem parF_step : ∀ {r pre : List Nat}, 47 ∈ r → parF pre r = (pre ++ r.take (r.idxOf 47)) :: parF (pre ++ r.take (r.idxOf 47 + 1)) (r.drop (r.idxOf 47 + 1))
  | [], _, h => by cases h
  | c :: r, pre, h => by
    by_cases hc : c = 47
    · subst hc
      rw [parF, if_pos rfl, List.idxOf_cons_self]
      simp
    · have hr : 47 ∈ r := by rcases List.mem_cons.mp h with q | q; exact absurd q.symm hc; exact q
      rw [parF, if_neg hc, parF_step hr]
      have e : (c :: r).idxOf 47 = r.idxOf 47 + 1 := by rw [List.idxOf_cons, show (c == 47) = false from beq_eq_false_iff_ne.mpr hc]; rfl
      rw [e]
      simp
def posAt (l : List Nat) (k : Nat) : Int := if 47 ∈ l.drop k then ((k + (l.drop k).idxOf 47 : Nat) : Int) else -1
theorem find3_lit (l : List Nat) (k : Nat) (h : k ≤ l.length) : Txt.find3 (T l) (Str.ofString "/") (k : Int) = posAt l k := by rw [lit_slash, find3_T l 47 k h]; rfl
theorem parF_len : ∀ (r pre : List Nat), (parF pre r).length ≤ r.length
  | [], _ => Nat.le_refl _
  | c :: r, pre => by
    have := parF_len r (pre ++ [c])
    rw [parF]
    split
    · simp only [List.length_cons]; omega
    · simp only [List.length_cons]; omega

section
variable {w : World} {mg : Str → Option Value}

theorem fn_parents {l : List Nat} (hl : l.length ≤ 1000) : Fn w mg 1 "parents" [dS l] (.list ((parF [] l).map dS)) :=
  fn_of (d := dF 8) (ps := ["name"]) (by rw [recs_eq]; simp) rfl (by decide) (fun pm cd doc vs h => by obtain ⟨v, rfl⟩ := args1 h; rfl) (fun L x hx => by
      simp at hx; rcases hx with rfl; exact .inl rfl) fun A L a cd hA ok => by
    refine sx_cons (x1_assignOwn ok (.inl rfl) (ev_list args_z (fun d hd => by cases hd) (by simp)) (.inl ⟨_, rfl⟩)) ?_
    refine sx_cons (m1 := [("at", .int (posAt l 0)), ("some", .list []), ("name", dS l)]) (own1 := ["some"]) (x1_assign ok (.inl rfl) (Ev.eq (ev_meth F.slot_str_find F.type_str_find (ev_name ok rfl) (args_s (ev_top ok rfl rfl (.inl ⟨_, rfl⟩)) args_z) bf_find) ?_) (.inl rfl)) ?_
    · rw [find_lit]; unfold posAt; rw [List.drop_zero]; simp
    refine sx_cons (m1 := [("at", .int (-1)), ("some", .list ((parF [] l).map dS)), ("name", dS l)]) (own1 := ["some"]) (x1_while (n := l.length + 1) ?_) (sx_ret (x1_retOwn ok rfl (by simp)))
    refine (?_ : ∀ (n k : Nat) (acc : List (List Nat)), l.length - k < n → k ≤ l.length → acc.length ≤ k → acc ++ parF (l.take k) (l.drop k) = parF [] l → WhL w mg A (envF (dF 8) L a cd) _ _ ["some"] n [("at", .int (posAt l k)), ("some", .list (acc.map dS)), ("name", dS l)] (.next [("at", .int (-1)), ("some", .list ((parF [] l).map dS)), ("name", dS l)] ["some"])) (l.length + 1) 0 [] (by omega) (Nat.zero_le _) (Nat.le_refl _) (by simp)
    intro n
    induction n with
    | zero => intro k acc hn; omega
    | succ n ih =>
      intro k acc hn hk ha he
      by_cases h : 47 ∈ l.drop k
      · have hi := List.idxOf_lt_length_of_mem h
        rw [List.length_drop] at hi
        have hpos : posAt l k = ((k + (l.drop k).idxOf 47 : Nat) : Int) := if_pos h
        have hstep := parF_step (pre := l.take k) h
        rw [← List.take_add, ← List.take_add, List.drop_drop, ← Nat.add_assoc] at hstep
        rw [hpos]
        obtain ⟨j, hj⟩ : ∃ j, j = k + (l.drop k).idxOf 47 := ⟨_, rfl⟩
        have hj1 : k ≤ j := by omega
        have hj2 : j < l.length := by omega
        rw [← hj] at hstep ⊢
        have hr := ih (j + 1) (acc ++ [l.take j]) (by omega) (by omega) (by simp; omega) (by rw [← he, hstep]; simp)
        refine WhL.step (Tr.eq (tr_cmp (ev_name ok rfl) ev_int cmp_ge) (by simp)) (sx_weak (sx_cons (x1_append ok (by simp) rfl (by simp) (ev_sliceS (ev_name ok rfl) evp_none (evp_some (ev_name ok rfl)) ?_) flatS ?_) (sx_cons (x1_assign ok (.inl rfl) (Ev.eq (ev_meth F.slot_str_find F.type_str_find (ev_name ok rfl) (args_s (ev_top ok rfl rfl (.inl ⟨_, rfl⟩)) (args_s (ev_addI (ev_name ok rfl) ev_int) args_z)) bf_find3) (congrArg PyData.int (find3_lit l (j + 1) (by omega)))) (.inl rfl)) sx_nil)) ?_ (by decide)) hr
        · rw [T_len, sizeLine_eq]; omega
        · rw [List.length_map]; omega
        · refine sb_cons rfl (sb_cons ?_ (sb_cons rfl sb_nil))
          rw [slice_take, List.map_append]; rfl
      · have hpos : posAt l k = -1 := if_neg h
        rw [parF_none h, List.append_nil] at he
        rw [hpos, he]
        exact WhL.done (Tr.eq (tr_cmp (ev_name ok rfl) ev_int cmp_ge) (by simp))

theorem up_one {a : Nat} (h1 : 97 ≤ a) (h2 : a ≤ 122) : Txt.upper (T [a]) = T [a - 32] := by
  have : ∀ k : Fin 26, Txt.upper (T [97 + k.1]) = T [97 + k.1 - 32] := by decide +kernel
  have := this ⟨a - 97, by omega⟩
  simpa [show 97 + (a - 97) = a by omega] using this

def meetsB (a c : Nat) (b : Bool) : Bool := a == c || (b && (decide (97 ≤ a) && decide (a ≤ 122) && (a - 32 == c)))
theorem fn_meets {a c : Nat} {b : Bool} : Fn w mg 1 "_law_meets" [dS [a], dS [c], .bool b] (.bool (meetsB a c b)) :=
  fn_of (d := dF 20) (ps := ["wanted", "sign", "is_any_case"]) (by rw [recs_eq]; simp) rfl (by decide) (fun pm cd doc vs h => by obtain ⟨v, u, z, rfl⟩ := args3 h; rfl) (fun L x hx => by
      simp at hx; rcases hx with rfl | rfl | rfl <;> exact .inl rfl) fun A L a' cd hA ok => by
    unfold meetsB
    cases h : a == c with
    | true =>
      exact sx_ret (x1_if (b := true) (Tr.eq (tr_cmp (ev_name ok rfl) (ev_name ok rfl) cmp_eqS) (by rw [T_beq, one_beq, h])) (fun _ => sx_ret (x1_ret ev_bool (.inl rfl))) (fun q => by cases q))
    | false =>
      refine sx_cons (x1_if (b := false) (Tr.eq (tr_cmp (ev_name ok rfl) (ev_name ok rfl) cmp_eqS) (by rw [T_beq, one_beq, h])) (fun q => by cases q) (fun _ => sx_nil)) (sx_ret (x1_ret (f := true) (Ev.eq (ev_and (ev_name ok rfl) fun _ => ev_and (ev_chain2 ev_str (ev_name ok rfl) ev_str cmp_leS cmp_leS) fun hr => ev_one (Ev.eq (d' := .bool (a - 32 == c)) (ev_cmp (ev_meth0 F.slot_str_upper F.type_str_upper (ev_name ok rfl) (bf_upper ?_)) (ev_name ok rfl) cmp_eqS) ?_)) ?_) (.inl rfl)))
      · rw [lit_a, lit_z, ltc_one, ltc_one] at hr
        have hr' : 97 ≤ a ∧ a ≤ 122 := by simpa using hr
        rw [up_one hr'.1 hr'.2]; rfl
      · rw [lit_a, lit_z, ltc_one, ltc_one] at hr
        have hr' : 97 ≤ a ∧ a ≤ 122 := by simpa using hr
        rw [up_one hr'.1 hr'.2, T_beq, one_beq]
      · rw [lit_a, lit_z, ltc_one, ltc_one]; simp
end
end Mine

namespace Mine

def wild (c : Nat) : Bool := c == 37 || c == 42
def run : List Nat → Nat → List Nat
  | [], p => [p]
  | c :: r, p => if wild c then p :: run r (p + 1) else [p]
def runEnd : List Nat → Nat → Nat
  | [], p => p
  | c :: r, p => if wild c then runEnd r (p + 1) else p
def openS (pat : List Nat) (ps : List Nat) (h : Nat) : List Nat := if ps.getLast?.all (· < h) then ps ++ run (pat.drop h) h else ps
def openL (pat hs : List Nat) : List Nat := hs.foldl (openS pat) []
theorem run_len : ∀ (r : List Nat) (p : Nat), (run r p).length ≤ r.length + 1
  | [], _ => by simp [run]
  | c :: r, p => by
    have := run_len r (p + 1)
    rw [run]; split
    · simp only [List.length_cons]; omega
    · simp
theorem openS_len (pat ps : List Nat) (h : Nat) : (openS pat ps h).length ≤ ps.length + pat.length + 1 := by
  unfold openS
  split
  · have := run_len (pat.drop h) h
    rw [List.length_append]; rw [List.length_drop] at this; omega
  · omega

theorem last_snoc (ps : List Nat) (p q : Nat) : (ps ++ [p]).getLast?.all (· < q) = decide (p < q) := by simp
theorem openS_end {pat ps : List Nat} {p : Nat} (hc : ps.getLast?.all (· < p) = true) (h : pat.drop p = [] ∨ ∃ c r, pat.drop p = c :: r ∧ wild c = false) : openS pat (ps ++ [p]) p = openS pat ps p ∧ runEnd (pat.drop p) p = p := by
  unfold openS
  rw [last_snoc, hc, if_pos rfl, if_neg (by simp)]
  rcases h with h | ⟨c, r, h, hw⟩
  · rw [h]; exact ⟨rfl, rfl⟩
  · rw [h, run, runEnd, hw]; exact ⟨rfl, rfl⟩
theorem openS_go {pat ps : List Nat} {p c : Nat} {r : List Nat} (hc : ps.getLast?.all (· < p) = true) (h : pat.drop p = c :: r) (hw : wild c = true) : openS pat (ps ++ [p]) (p + 1) = openS pat ps p ∧ runEnd (pat.drop p) p = runEnd (pat.drop (p + 1)) (p + 1) := by
  have h2 : pat.drop (p + 1) = r := by rw [← List.drop_drop, h]; rfl
  unfold openS
  rw [last_snoc, hc, if_pos rfl, if_pos (by simp), h, h2, run, runEnd, hw]
  simp

section
variable {w : World} {mg : Str → Option Value}

theorem whl_case {A : Around} {env : Env} {test : PySem.Expr} {body : List Stmt} {own : List Str} {n : Nat} {μ : List (Str × DD)} {r : Res} (b : Bool) (ht : Tr w mg A env μ test b) (hd : b = false → r = .next μ own)
    (hs : b = true → ∃ μ1, Sx w mg A env body μ own (.next μ1 own) ∧ WhL w mg A env test body own n μ1 r) : WhL w mg A env test body own (n + 1) μ r := by
  cases b with
  | false => rw [hd rfl]; exact WhL.done ht
  | true => obtain ⟨μ1, h1, h2⟩ := hs rfl; exact WhL.step ht h1 h2
theorem wild_in (c : Nat) : (!(Builtin.Str.occurrences (Str.ofString "%*") (T [c]) 0 (Str.ofString "%*").length 1).isEmpty) = wild c := by rw [lit_wild]; exact in_wild c

theorem fn_opened {pat hs : List Nat} (hp : pat.length ≤ 100) (hh : hs.length ≤ 200) : Fn w mg 1 "opened" [dS pat, .list (hs.map dN)] (.list ((openL pat hs).map dN)) :=
  fn_of (d := dF 12) (ps := ["pattern", "heads"]) (by rw [recs_eq]; simp) rfl (by decide) (fun pm cd doc vs h => by obtain ⟨v, u, rfl⟩ := args2 h; rfl) (fun L x hx => by
      simp at hx; rcases hx with rfl | rfl <;> exact .inl rfl) fun A L a cd hA ok => by
    refine sx_cons (x1_assignOwn ok (.inl rfl) (ev_list args_z (fun d hd => by cases hd) (by simp)) (.inl ⟨_, rfl⟩)) ?_
    refine sx_cons (m1 := [("places", .list ((openL pat hs).map dN)), ("pattern", dS pat), ("heads", .list (hs.map dN))]) (own1 := ["places"]) (x1_for (src := some "heads") (ds := hs.map dN) ok hA.1 (evi_listName ok rfl) (fun x hx => by cases hx; exact ⟨by decide, rfl⟩) ?_) (sx_ret (x1_retOwn ok rfl (by simp)))
    refine (?_ : ∀ (ks ps : List Nat), ps.length + ks.length * 101 ≤ 20200 → ForL w mg A (envF (dF 12) L a cd) _ _ ["places"] (ks.map dN) [("places", .list (ps.map dN)), ("pattern", dS pat), ("heads", .list (hs.map dN))] (.next [("places", .list ((ks.foldl (openS pat) ps).map dN)), ("pattern", dS pat), ("heads", .list (hs.map dN))] ["places"])) hs [] (by simp; omega)
    intro ks
    induction ks with
    | nil => intro ps _; exact ForL.nil
    | cons k ks ih =>
      intro ps hps
      rw [List.length_cons] at hps
      have hl := openS_len pat ps k
      refine ForL.next (μ1 := [("places", .list ((openS pat ps k).map dN)), ("pattern", dS pat), ("heads", .list (hs.map dN))]) (bd_name ok (.inl rfl) (sx_weak (m1 := [("place", dN (if ps.getLast?.all (· < k) then runEnd (pat.drop k) k else k)), ("places", .list ((openS pat ps k).map dN)), ("pattern", dS pat), ("heads", .list (hs.map dN))]) (own1 := ["places"]) (sx_cons (x1_weak (m2 := [("place", dN k), ("places", .list (ps.map dN)), ("pattern", dS pat), ("heads", .list (hs.map dN))]) (own2 := ["places"]) (x1_assign ok (.inl rfl) (ev_name ok rfl) (.inr flatI)) (sb_cons rfl (sb_cons rfl (sb_cons rfl (sb_cons rfl sb_nil)))) (by decide)) (sx_cons (x1_while (n := (pat.drop k).length + 2) ?_) sx_nil)) (sb_cons rfl (sb_cons rfl (sb_cons rfl sb_nil))) (by decide))) (ih _ (by omega))
      refine (?_ : ∀ (n p : Nat) (ps : List Nat), ps.length + n ≤ 30000 → (if ps.getLast?.all (· < p) then (pat.drop p).length + 2 else 1) ≤ n → WhL w mg A (envF (dF 12) L a cd) _ _ ["places"] n [("place", dN p), ("places", .list (ps.map dN)), ("pattern", dS pat), ("heads", .list (hs.map dN))]
        (.next [("place", dN (if ps.getLast?.all (· < p) then runEnd (pat.drop p) p else p)), ("places", .list ((openS pat ps p).map dN)), ("pattern", dS pat), ("heads", .list (hs.map dN))] ["places"])) ((pat.drop k).length + 2) k ps (by rw [List.length_drop]; omega) (by split <;> omega)
      clear ih hps hl
      intro n
      induction n with
      | zero => intro p ps _ hn; split at hn <;> omega
      | succ n ih =>
        intro p ps hsz hn
        refine whl_case (ps.getLast?.all (· < p)) (Tr.eq (tr_or2 (y := ps.getLast?.all (· < p)) (tr_cmp (ev_bcall ok rfl (by decide) boot_len (args_s (ev_name ok rfl) args_z) (bf_lenL (ds := ps.map dN) ?_)) ev_int cmp_eqI) fun hx => ?_) ?_) (fun h => ?_) fun h => ?_
        · rw [List.length_map]; omega
        · rcases List.eq_nil_or_concat ps with rfl | ⟨init, q, rfl⟩
          · simp at hx
          · refine Tr.eq (tr_cmp (ev_itemLast (ds := (init.concat q).map dN) (d := dN q) (ev_name ok rfl) (ev_neg ev_int) ?_ ?_) (ev_name ok rfl) cmp_lt) ?_
            · simp
            · rw [List.length_map]; omega
            · simp
        · rcases List.eq_nil_or_concat ps with rfl | ⟨init, q, rfl⟩
          · simp
          · have : (((init.concat q).map dN).length : Int) ≠ 0 := by simp; omega
            rw [beq_eq_false_iff_ne.mpr this, Bool.false_or]
        · rw [h]; unfold openS; rw [h]; rfl
        · rw [h, if_pos rfl] at hn
          have e1 : ps.map dN ++ [dN p] = (ps ++ [p]).map dN := by rw [List.map_append]; rfl
          cases hd : pat.drop p with
          | nil =>
            have hle : pat.length ≤ p := List.drop_eq_nil_iff.mp hd
            obtain ⟨q1, q2⟩ := openS_end (pat := pat) h (.inl hd)
            refine ⟨[("place", dN p), ("places", .list ((ps ++ [p]).map dN)), ("pattern", dS pat), ("heads", .list (hs.map dN))], sx_weak (sx_cons (x1_append ok (by simp) rfl (by simp) (ev_name ok rfl) flatI ?_) (sx_cons (x1_if (b := false) (tr_and2 (x := false) (y := false) (Tr.eq (tr_cmp (ev_name ok rfl) (ev_bcall ok rfl (by decide) boot_len (args_s (ev_name ok rfl) args_z) (bf_lenS ?_)) cmp_lt) ?_) (fun hx => by cases hx)) (fun q => by cases q) (fun _ => sx_nil)) sx_nil)) ?_ (by decide), ?_⟩
            · rw [List.length_map]; omega
            · rw [T_len]; omega
            · rw [T_len]; simp; omega
            · exact sb_cons rfl (sb_cons (by rw [e1]; rfl) (sb_cons rfl (sb_cons rfl sb_nil)))
            · have := ih p (ps ++ [p]) (by simp; omega) (by rw [last_snoc, if_neg (by simp)]; omega)
              rw [last_snoc, if_neg (by simp), q1] at this
              rw [h, if_pos rfl]
              exact this
          | cons c r =>
            have hlt : p < pat.length := by
              have := congrArg List.length hd
              rw [List.length_drop] at this; simp at this; omega
            have hc : pat[p] = c := by
              have := List.drop_eq_getElem_cons hlt
              rw [hd] at this; exact (List.cons.inj this).1.symm
            rw [hd, List.length_cons] at hn
            cases hw : wild c with
            | false =>
              obtain ⟨q1, q2⟩ := openS_end (pat := pat) h (.inr ⟨c, r, hd, hw⟩)
              refine ⟨[("place", dN p), ("places", .list ((ps ++ [p]).map dN)), ("pattern", dS pat), ("heads", .list (hs.map dN))], sx_weak (sx_cons (x1_append ok (by simp) rfl (by simp) (ev_name ok rfl) flatI ?_) (sx_cons (x1_if (b := false) (Tr.eq (tr_and2 (tr_cmp (ev_name ok rfl) (ev_bcall ok rfl (by decide) boot_len (args_s (ev_name ok rfl) args_z) (bf_lenS ?_)) cmp_lt) (fun hx => tr_cmp (Ev.eq (ev_itemS (ev_name ok rfl) (ev_name ok rfl) ?_ ?_ ?_) (congrArg PyData.str (item_T pat p hlt))) (ev_top ok rfl rfl (.inl ⟨_, rfl⟩)) cmp_inS)) ?_) (fun q => by cases q) (fun _ => sx_nil)) sx_nil)) ?_ (by decide), ?_⟩
              · rw [List.length_map]; omega
              · rw [T_len]; omega
              · rw [T_len]; omega
              · rw [T_len]; omega
              · rw [T_len]; omega
              · rw [hc, wild_in, hw, Bool.and_false]
              · exact sb_cons rfl (sb_cons (by rw [e1]; rfl) (sb_cons rfl (sb_cons rfl sb_nil)))
              · have := ih p (ps ++ [p]) (by simp; omega) (by rw [last_snoc, if_neg (by simp)]; omega)
                rw [last_snoc, if_neg (by simp), q1] at this
                rw [h, if_pos rfl, ← hd, q2]
                exact this
            | true =>
              obtain ⟨q1, q2⟩ := openS_go (pat := pat) h hd hw
              refine ⟨[("place", dN (p + 1)), ("places", .list ((ps ++ [p]).map dN)), ("pattern", dS pat), ("heads", .list (hs.map dN))], sx_weak (sx_cons (x1_append ok (by simp) rfl (by simp) (ev_name ok rfl) flatI ?_) (sx_cons (x1_if (b := true) (Tr.eq (tr_and2 (tr_cmp (ev_name ok rfl) (ev_bcall ok rfl (by decide) boot_len (args_s (ev_name ok rfl) args_z) (bf_lenS ?_)) cmp_lt) (fun hx => tr_cmp (Ev.eq (ev_itemS (ev_name ok rfl) (ev_name ok rfl) ?_ ?_ ?_) (congrArg PyData.str (item_T pat p hlt))) (ev_top ok rfl rfl (.inl ⟨_, rfl⟩)) cmp_inS)) ?_) (fun _ => sx_cons (x1_augAdd ok (.inl rfl) rfl ev_int) sx_nil) (fun q => by cases q)) sx_nil)) ?_ (by decide), ?_⟩
              · rw [List.length_map]; omega
              · rw [T_len]; omega
              · rw [T_len]; omega
              · rw [T_len]; omega
              · rw [T_len]; omega
              · rw [hc, wild_in, hw, Bool.and_true, T_len]; simp; omega
              · exact sb_cons rfl (sb_cons (by rw [e1]; rfl) (sb_cons rfl (sb_cons rfl sb_nil)))
              · have h2 : pat.drop (p + 1) = r := by rw [← List.drop_drop, hd]; rfl
                have := ih (p + 1) (ps ++ [p]) (by simp; omega) (by rw [last_snoc, if_pos (by simp), h2]; omega)
                rw [last_snoc, if_pos (by simp), q1] at this
                rw [h, if_pos rfl, ← hd, q2]
                exact this
end
end Mine

namespace Mine

theorem run_range : ∀ (r : List Nat) (p : Nat), run r p = List.range' p ((r.takeWhile wild).length + 1)
  | [], p => by simp [run]
  | c :: r, p => by
    rw [run]
    cases h : wild c with
    | true => rw [if_pos rfl, run_range r (p + 1), List.takeWhile_cons_of_pos h, List.length_cons]; rfl
    | false => rw [if_neg (by decide), List.takeWhile_cons_of_neg (by simp [h])]; simp
theorem run_le {pat : List Nat} {h j : Nat} (hh : h ≤ pat.length) (hj : j ∈ run (pat.drop h) h) : h ≤ j ∧ j ≤ pat.length := by
  rw [run_range, List.mem_range'_1] at hj
  have := (List.takeWhile_sublist wild (l := pat.drop h)).length_le
  rw [List.length_drop] at this
  omega
def Asc (l : List Nat) (b : Nat) : Prop := l.Pairwise (· < ·) ∧ ∀ j ∈ l, j ≤ b
theorem asc_last {l : List Nat} {b q : Nat} (h : Asc l b) (hq : l.getLast? = some q) : ∀ j ∈ l, j ≤ q := by
  rcases List.eq_nil_or_concat l with rfl | ⟨i, x, rfl⟩
  · simp at hq
  · rw [List.concat_eq_append] at *
    simp at hq; subst hq
    intro j hj
    rcases List.mem_append.mp hj with hj | hj
    · exact Nat.le_of_lt ((List.pairwise_append.mp h.1).2.2 j hj x (by simp))
    · simp at hj; omega
theorem asc_openS {pat ps : List Nat} {h : Nat} (a : Asc ps pat.length) (hh : h ≤ pat.length) : Asc (openS pat ps h) pat.length := by
  unfold openS
  split
  · rename_i hc
    refine ⟨List.pairwise_append.mpr ⟨a.1, ?_, fun x hx y hy => ?_⟩, fun j hj => ?_⟩
    · rw [run_range]; exact List.pairwise_lt_range'
    · have := (run_le hh hy).1
      cases hl : ps.getLast? with
      | none => rw [List.getLast?_eq_none_iff] at hl; subst hl; cases hx
      | some q => rw [hl] at hc; simp at hc; have := asc_last a hl x hx; omega
    · rcases List.mem_append.mp hj with hj | hj
      · exact a.2 j hj
      · exact (run_le hh hj).2
  · exact a
theorem asc_fold {pat : List Nat} : ∀ {hs ps : List Nat}, Asc ps pat.length → (∀ h ∈ hs, h ≤ pat.length) → Asc (hs.foldl (openS pat) ps) pat.length
  | [], _, a, _ => a
  | h :: hs, ps, a, hh => by
    rw [List.foldl_cons]
    exact asc_fold (asc_openS a (hh h (by simp))) fun x hx => hh x (List.mem_cons_of_mem _ hx)
theorem asc_openL {pat hs : List Nat} (hh : ∀ h ∈ hs, h ≤ pat.length) : Asc (openL pat hs) pat.length := asc_fold ⟨.nil, by simp⟩ hh
theorem asc_len : ∀ {l : List Nat} {a b : Nat}, l.Pairwise (· < ·) → (∀ j ∈ l, a ≤ j ∧ j ≤ b) → a + l.length ≤ b + 1 ∨ l = []
  | [], _, _, _, _ => .inr rfl
  | x :: l, a, b, h, hj => by
    obtain ⟨h1, h2⟩ := List.pairwise_cons.mp h
    have hx := hj x (by simp)
    rcases asc_len (a := x + 1) (b := b) h2 fun j hm => ⟨h1 j hm, (hj j (List.mem_cons_of_mem _ hm)).2⟩ with q | q
    · left; simp only [List.length_cons]; omega
    · subst q; left; simp; omega
theorem asc_length {l : List Nat} {b : Nat} (h : Asc l b) : l.length ≤ b + 1 := by
  rcases asc_len (a := 0) h.1 fun j hj => ⟨Nat.zero_le _, h.2 j hj⟩ with q | q
  · omega
  · subst q; simp

/-- where a place goes by the sign c -/
def headOf (pat : List Nat) (c : Nat) (b : Bool) (p : Nat) : List Nat :=
  match pat[p]? with
  | none => []
  | some w => if w == 42 || (w == 37 && c != 47) then [p] else if w != 37 && metB w c b then [p + 1] else []
theorem headOf_len (pat : List Nat) (c : Nat) (b : Bool) (p : Nat) : (headOf pat c b p).length ≤ 1 := by
  unfold headOf; split
  · simp
  · split
    · simp
    · split <;> simp
theorem headOf_le {pat : List Nat} {c : Nat} {b : Bool} {p h : Nat} (hh : h ∈ headOf pat c b p) : h ≤ pat.length := by
  unfold headOf at hh
  split at hh
  · cases hh
  · rename_i w hw
    have hp := (List.getElem?_eq_some_iff.mp hw).1
    split at hh
    · simp at hh; omega
    · split at hh
      · simp at hh; omega
      · cases hh
def stepL (pat n : List Nat) (most : Nat) (ps : List Nat) (i : Nat) : List Nat := openL pat (ps.flatMap (headOf pat (n.getD i 0) (decide (i < most))))
def placesL (pat n : List Nat) (most : Nat) (k : Nat) : List Nat := (List.range k).foldl (stepL pat n most) (openL pat [0])
theorem placesL_succ (pat n : List Nat) (most k : Nat) : placesL pat n most (k + 1) = stepL pat n most (placesL pat n most k) k := by unfold placesL; rw [List.range_succ, List.foldl_append]; rfl
theorem asc_step (pat n : List Nat) (most : Nat) (ps : List Nat) (i : Nat) : Asc (stepL pat n most ps i) pat.length := asc_openL fun h hh => by
  obtain ⟨p, _, hp⟩ := List.mem_flatMap.mp hh
  exact headOf_le hp
theorem asc_places (pat n : List Nat) (most k : Nat) : Asc (placesL pat n most k) pat.length := by
  cases k with
  | zero => exact asc_openL (by simp)
  | succ k => rw [placesL_succ]; exact asc_step ..
def listedB (pat n : List Nat) : Bool := (placesL pat n (mostN n) n.length).getLast? == some pat.length
theorem flatMap_len (pat : List Nat) (c : Nat) (b : Bool) : ∀ ps : List Nat, (ps.flatMap (headOf pat c b)).length ≤ ps.length
  | [] => by simp
  | p :: ps => by have := flatMap_len pat c b ps; have := headOf_len pat c b p; rw [List.flatMap_cons, List.length_append, List.length_cons]; omega

theorem rangeD_nat (n : Nat) : rangeD 0 (n : Int) = (List.range' 0 n).map dN := by
  unfold rangeD
  rw [show ((n : Int) - 0).toNat = n by omega, List.range_eq_range']
  exact List.map_congr_left fun i _ => by simp

section
variable {w : World} {mg : Str → Option Value}

theorem fn_listed {pat n : List Nat} (hp : pat.length ≤ 100) (hn : n.length ≤ 100) : Fn w mg 3 "is_listed" [dS pat, dS n] (.bool (listedB pat n)) :=
  fn_of (d := dF 14) (ps := ["pattern", "name"]) (by rw [recs_eq]; simp) rfl (by decide) (fun pm cd doc vs h => by obtain ⟨v, u, rfl⟩ := args2 h; rfl) (fun L x hx => by
      simp at hx; rcases hx with rfl | rfl <;> exact .inl rfl) fun A L a cd hA ok => by
    refine sx_cons (x1_assign ok (.inl rfl) (ev_call ok hA rfl in_anycase (args_s (ev_name ok rfl) args_z) (fn_anycase (by omega))) (.inl rfl)) ?_
    refine sx_cons (m1 := [("places", .list ((placesL pat n (mostN n) 0).map dN)), ("most", dN (mostN n)), ("pattern", dS pat), ("name", dS n)]) (own1 := []) (x1_assign ok (.inl rfl) (ev_call ok (hA.le (by decide)) rfl in_opened (args_s (ev_name ok rfl) (args_s (Ev.eq (ev_list (args_s ev_int args_z) (fun d hd => by simp at hd; subst hd; exact flatI) (by simp [sizeLine_eq])) (d' := .list ([0].map dN)) rfl) args_z)) (fn_opened hp (by simp))) (.inl rfl)) ?_
    have hlen : ∀ k, (placesL pat n (mostN n) k).length ≤ 101 := fun k => by have := asc_length (asc_places pat n (mostN n) k); omega
    refine sx_cons (m1 := [("places", .list ((placesL pat n (mostN n) n.length).map dN)), ("most", dN (mostN n)), ("pattern", dS pat), ("name", dS n)]) (own1 := []) (x1_for (src := none) (ds := (List.range' 0 n.length).map dN) ok hA.1 (EvI.eq (evi_range1 ok rfl (ev_bcall ok rfl (by decide) boot_len (args_s (ev_name ok rfl) args_z) (bf_lenS ?_)) ?_ ?_) ?_) (fun x hx => by cases hx) ?_) ?_
    · rw [T_len]; omega
    · rw [T_len]; omega
    · rw [T_len]; omega
    · rw [T_len]; exact rangeD_nat n.length
    · refine (?_ : ∀ (k i : Nat), i + k = n.length → ForL w mg A (envF (dF 14) L a cd) _ _ [] ((List.range' i k).map dN) [("places", .list ((placesL pat n (mostN n) i).map dN)), ("most", dN (mostN n)), ("pattern", dS pat), ("name", dS n)] (.next [("places", .list ((placesL pat n (mostN n) n.length).map dN)), ("most", dN (mostN n)), ("pattern", dS pat), ("name", dS n)] [])) n.length 0 (Nat.zero_add _)
      · intro k
        induction k with
        | zero => intro i hi; rw [show i = n.length by omega]; exact ForL.nil
        | succ k ih =>
          intro i hi
          rw [List.range'_succ, List.map_cons]
          refine ForL.next (μ1 := [("places", .list ((placesL pat n (mostN n) (i + 1)).map dN)), ("most", dN (mostN n)), ("pattern", dS pat), ("name", dS n)]) (bd_name ok (.inl rfl) ?_) (ih (i + 1) (by omega))
          have hi' : i < n.length := by omega
          have hPs := asc_places pat n (mostN n) i
          have hPl := hlen i
          rw [placesL_succ]
          unfold stepL
          generalize placesL pat n (mostN n) i = P at *
          have hc : n.getD i 0 = n[i] := by simp [List.getD, List.getElem?_eq_getElem hi']
          generalize hH : P.flatMap (headOf pat (n.getD i 0) (decide (i < mostN n))) = H
          have hHl : H.length ≤ 101 := by rw [← hH]; exact Nat.le_trans (flatMap_len ..) hPl
          refine sx_weak (sx_cons (m1 := [("heads", .list ([] : List DD)), ("at", dN i), ("places", .list (P.map dN)), ("most", dN (mostN n)), ("pattern", dS pat), ("name", dS n)]) (own1 := ["heads"]) (x1_assignOwn ok (.inl rfl) (ev_list args_z (fun d hd => by cases hd) (by simp)) (.inl ⟨_, rfl⟩)) (sx_cons (m1 := [("heads", .list (H.map dN)), ("at", dN i), ("places", .list (P.map dN)), ("most", dN (mostN n)), ("pattern", dS pat), ("name", dS n)]) (own1 := ["heads"]) (x1_for (src := some "places") (ds := P.map dN) ok hA.1 (evi_listName ok rfl) (fun x hx => by cases hx; exact ⟨by decide, rfl⟩) ?_)
            (sx_cons (x1_assign ok (.inl rfl) (ev_call ok (hA.le (by decide)) rfl in_opened (args_s (ev_name ok rfl) (args_s (ev_name ok rfl) args_z)) (fn_opened hp (by omega))) (.inl rfl)) sx_nil))) (sb_cons rfl (sb_cons rfl (sb_cons rfl (sb_cons rfl sb_nil)))) (by simp)
          rw [← hH]
          refine (?_ : ∀ (ks acc : List Nat), (∀ p ∈ ks, p ≤ pat.length) → acc.length + ks.length ≤ 200 → ForL w mg A (envF (dF 14) L a cd) _ _ ["heads"] (ks.map dN) [("heads", .list (acc.map dN)), ("at", dN i), ("places", .list (P.map dN)), ("most", dN (mostN n)), ("pattern", dS pat), ("name", dS n)] (.next [("heads", .list ((acc ++ ks.flatMap (headOf pat (n.getD i 0) (decide (i < mostN n)))).map dN)), ("at", dN i), ("places", .list (P.map dN)), ("most", dN (mostN n)), ("pattern", dS pat), ("name", dS n)] ["heads"])) P [] hPs.2 (by simp; omega)
          intro ks
          induction ks with
          | nil => intro acc _ _; rw [List.flatMap_nil, List.append_nil]; exact ForL.nil
          | cons p ks ihk =>
            intro acc hks hacc
            rw [List.length_cons] at hacc
            have hple := hks p (by simp)
            rw [List.flatMap_cons, ← List.append_assoc]
            have hnext := fun acc' h => ihk acc' (fun q hq => hks q (List.mem_cons_of_mem _ hq)) h
            by_cases hpe : p = pat.length
            · have e0 : headOf pat (n.getD i 0) (decide (i < mostN n)) p = [] := by unfold headOf; rw [List.getElem?_eq_none (by omega)]
              rw [e0, List.append_nil]
              refine ForL.cont (bd_name ok (.inl rfl) (sx_weakC (sx_cont (x1_if (b := true) (Tr.eq (tr_cmp (ev_name ok rfl) (ev_bcall ok rfl (by decide) boot_len (args_s (ev_name ok rfl) args_z) (bf_lenS ?_)) cmp_eqI) ?_) (fun _ => sx_cont x1_continue) (fun q => by cases q))) (sb_cons rfl (sb_cons rfl (sb_cons rfl (sb_cons rfl (sb_cons rfl (sb_cons rfl sb_nil)))))) (by decide))) (hnext acc (by omega))
              · rw [T_len]; omega
              · rw [T_len, hpe]; simp
            · have hlt : p < pat.length := by omega
              have hown : drop1 "wanted" (drop1 "place" ["heads"]) = [("heads" : Str)] := by decide
              obtain ⟨w0, hw0⟩ : ∃ w0, pat[p] = w0 := ⟨_, rfl⟩
              have hg : pat[p]? = some w0 := by rw [List.getElem?_eq_getElem hlt, hw0]
              have hl1 : (acc.map dN).length ≤ 1000000 := by rw [List.length_map]; omega
              refine ForL.next (bd_name ok (.inl rfl) (sx_weak (own1 := ["heads"]) (m1 := [("heads", .list ((acc ++ headOf pat (n.getD i 0) (decide (i < mostN n)) p).map dN)), ("at", dN i), ("places", .list (P.map dN)), ("most", dN (mostN n)), ("pattern", dS pat), ("name", dS n)]) (sx_cons (x1_if (b := false) (Tr.eq (tr_cmp (ev_name ok rfl) (ev_bcall ok rfl (by decide) boot_len (args_s (ev_name ok rfl) args_z) (bf_lenS ?_)) cmp_eqI) ?_) (fun q => by cases q) (fun _ => sx_nil)) (sx_cons (x1_assign ok (.inl rfl) (Ev.eq (ev_itemS (ev_name ok rfl) (ev_name ok rfl) ?_ ?_ ?_) (d' := dS [w0]) ?_) (.inr flatS)) (sx_cons (x1_weak (x1_if (b := w0 == 42 || (w0 == 37 && n[i] != 47)) ?_ (fun hb => ?_) (fun hb => ?_)) sb_refl (fun _ h => h)) sx_nil))) sb_refl (fun _ h => h))) (hnext _ ?_)
              · rw [T_len]; omega
              · rw [T_len]; simp; omega
              · rw [T_len]; omega
              · rw [T_len]; omega
              · rw [T_len]; omega
              · rw [item_T pat p hlt, hw0]
              · refine Tr.eq (tr_or2 (tr_cmp (ev_name ok rfl) ev_str cmp_eqS) fun _ => tr_and2 (tr_cmp (ev_name ok rfl) ev_str cmp_eqS) fun _ => tr_cmp (Ev.eq (ev_itemS (ev_name ok rfl) (ev_name ok rfl) ?_ ?_ ?_) (congrArg PyData.str (item_T n i hi'))) (ev_top ok rfl rfl (.inl ⟨_, rfl⟩)) cmp_neS) ?_
                · rw [T_len]; omega
                · rw [T_len]; omega
                · rw [T_len]; omega
                · rw [lit_star, lit_pct, lit_slash, T_beq, T_beq, T_bne, one_beq, one_beq]
                  congr 2
                  unfold bne
                  rw [one_beq]
              · have e : headOf pat (n.getD i 0) (decide (i < mostN n)) p = [p] := by unfold headOf; rw [hg, hc]; simp only [hb, if_true]
                rw [e, List.map_append]
                exact sx_weak (sx_cons (x1_append ok (by decide) rfl (by rw [hown]; simp) (ev_name ok rfl) flatI hl1) sx_nil) (sb_cons rfl (sb_cons rfl (sb_cons rfl (sb_cons rfl (sb_cons rfl (sb_cons rfl sb_nil)))))) (by decide)
              · have e : headOf pat (n.getD i 0) (decide (i < mostN n)) p = if w0 != 37 && metB w0 n[i] (decide (i < mostN n)) then [p + 1] else [] := by unfold headOf; rw [hg, hc]; simp only [hb]; rfl
                rw [e]
                have hi2 : (decide ((i : Int) < (mostN n : Int))) = decide (i < mostN n) := by simp
                refine sx_cons (x1_if (b := w0 != 37 && metB w0 n[i] (decide (i < mostN n))) (Tr.eq (tr_and2 (tr_cmp (ev_name ok rfl) ev_str cmp_neS) fun _ => tr_of (fun _ _ => rfl) (ev_call ok (hA.le (by decide)) rfl in_met (args_s (ev_name ok rfl) (args_s (Ev.eq (ev_itemS (ev_name ok rfl) (ev_name ok rfl) ?_ ?_ ?_) (congrArg PyData.str (item_T n i hi'))) (args_s (Ev.eq (ev_cmp (ev_name ok rfl) (ev_name ok rfl) cmp_lt) (congrArg PyData.bool hi2)) args_z))) fn_is_met)) ?_) (fun hb2 => ?_) (fun hb2 => ?_)) sx_nil
                · rw [T_len]; omega
                · rw [T_len]; omega
                · rw [T_len]; omega
                · rw [lit_pct, T_bne]
                  unfold bne
                  rw [one_beq]
                · rw [hb2, if_pos rfl, List.map_append]
                  exact sx_weak (sx_cons (x1_append ok (by decide) rfl (by rw [hown]; simp) (ev_addI (ev_name ok rfl) ev_int) flatI hl1) sx_nil) (sb_cons rfl (sb_cons rfl (sb_cons rfl (sb_cons rfl (sb_cons rfl (sb_cons rfl sb_nil)))))) (by decide)
                · rw [hb2, if_neg (by decide), List.append_nil]
                  exact sx_weak sx_nil (sb_cons rfl (sb_cons rfl (sb_cons rfl (sb_cons rfl (sb_cons rfl (sb_cons rfl sb_nil)))))) (by decide)
              · have := headOf_len pat (n.getD i 0) (decide (i < mostN n)) p
                rw [List.length_append]; omega
    · have ha := asc_places pat n (mostN n) n.length
      have hl := hlen n.length
      unfold listedB
      generalize placesL pat n (mostN n) n.length = P at *
      refine sx_ret (x1_ret (f := true) (Ev.eq (ev_and (x := decide (0 < P.length)) (y := P.getLast? == some pat.length) (Ev.eq (ev_cmp (ev_bcall ok rfl (by decide) boot_len (args_s (ev_name ok rfl) args_z) (bf_lenL (ds := P.map dN) ?_)) ev_int cmp_gt) ?_) fun hx => ev_one (Ev.eq (ev_cmp (ev_itemLast (ds := P.map dN) (d := dN (P.getLast?.getD 0)) (ev_name ok rfl) (ev_neg ev_int) ?_ ?_) (ev_bcall ok rfl (by decide) boot_len (args_s (ev_name ok rfl) args_z) (bf_lenS ?_)) cmp_eqI) ?_)) ?_) (.inl rfl))
      · rw [List.length_map]; omega
      · rw [List.length_map]; simp
      · rcases List.eq_nil_or_concat P with rfl | ⟨init, q, rfl⟩
        · simp at hx
        · simp
      · rw [List.length_map]; omega
      · rw [T_len]; omega
      · rw [T_len]
        rcases List.eq_nil_or_concat P with rfl | ⟨init, q, rfl⟩
        · simp at hx
        · simp
          by_cases h : q = pat.length
          · subst h; simp
          · rw [beq_eq_false_iff_ne.mpr h, beq_eq_false_iff_ne.mpr (by omega)]
      · rcases List.eq_nil_or_concat P with rfl | ⟨init, q, rfl⟩
        · simp
        · simp
end
end Mine

namespace Mine

section
variable {α : Type} [BEq α] [LawfulBEq α]
/-- an insertion-ordered table -/
def putK (k : α) (b : Bool) (l : List (α × Bool)) : List (α × Bool) := if l.any (·.1 == k) then l.map (fun p => if p.1 == k then (p.1, b) else p) else l ++ [(k, b)]
def putAll (b : Bool) (l : List (α × Bool)) (ks : List α) : List (α × Bool) := ks.foldl (fun l k => putK k b l) l
theorem putAll_nil (b : Bool) (l : List (α × Bool)) : putAll b l [] = l := rfl
theorem putAll_cons (b : Bool) (l : List (α × Bool)) (k : α) (ks : List α) : putAll b l (k :: ks) = putAll b (putK k b l) ks := rfl
theorem putAll_append (b : Bool) (l : List (α × Bool)) (ks js : List α) : putAll b l (ks ++ js) = putAll b (putAll b l ks) js := List.foldl_append
theorem keys_put (k : α) (b : Bool) (l : List (α × Bool)) : (putK k b l).map (·.1) = if k ∈ l.map (·.1) then l.map (·.1) else l.map (·.1) ++ [k] := by
  unfold putK
  have : (l.any (·.1 == k) = true) ↔ k ∈ l.map (·.1) := by simp
  by_cases h : k ∈ l.map (·.1)
  · rw [if_pos h, if_pos (this.mpr h), List.map_map]
    refine List.map_congr_left fun p _ => ?_
    simp only [Function.comp]
    split <;> rfl
  · rw [if_neg h, if_neg (fun q => h (this.mp q)), List.map_append]; rfl
theorem mem_keys_put {k j : α} {b : Bool} {l : List (α × Bool)} : j ∈ (putK k b l).map (·.1) ↔ j ∈ l.map (·.1) ∨ j = k := by
  rw [keys_put]
  split
  · rename_i h
    exact ⟨.inl, fun q => q.elim id fun q => q ▸ h⟩
  · rw [List.mem_append, List.mem_singleton]
theorem nodup_put {k : α} {b : Bool} {l : List (α × Bool)} (h : (l.map (·.1)).Nodup) : ((putK k b l).map (·.1)).Nodup := by
  rw [keys_put]
  split
  · exact h
  · rename_i hk
    exact List.nodup_append.mpr ⟨h, by simp, fun a ha b hb => by rintro rfl; rw [List.mem_singleton] at hb; exact hk (hb ▸ ha)⟩
theorem mem_keys_all {b : Bool} {j : α} : ∀ {ks : List α} {l : List (α × Bool)}, j ∈ (putAll b l ks).map (·.1) ↔ j ∈ l.map (·.1) ∨ j ∈ ks
  | [], l => by simp [putAll_nil]
  | k :: ks, l => by
    rw [putAll_cons, mem_keys_all, mem_keys_put, List.mem_cons, or_assoc]
theorem nodup_all {b : Bool} : ∀ {ks : List α} {l : List (α × Bool)}, (l.map (·.1)).Nodup → ((putAll b l ks).map (·.1)).Nodup
  | [], l, h => h
  | k :: ks, l, h => by rw [putAll_cons]; exact nodup_all (nodup_put h)
theorem length_put (k : α) (b : Bool) (l : List (α × Bool)) : (putK k b l).length ≤ l.length + 1 := by
  unfold putK
  split
  · rw [List.length_map]; omega
  · simp
theorem length_all (b : Bool) : ∀ (ks : List α) (l : List (α × Bool)), (putAll b l ks).length ≤ l.length + ks.length
  | [], l => by simp [putAll_nil]
  | k :: ks, l => by
    have := length_all b ks (putK k b l); have := length_put k b l
    rw [putAll_cons, List.length_cons]; omega

def encT (enc : α → PyData) (l : List (α × Bool)) : List (PyData × PyData) := l.map fun p => (enc p.1, .bool p.2)
theorem put_enc {enc : α → PyData} (he : ∀ a b, same (enc a) (enc b) = (a == b)) (k : α) (b : Bool) (l : List (α × Bool)) : putD (enc k) (.bool b) (encT enc l) = encT enc (putK k b l) := by
  unfold putD putK encT
  have e1 : ((l.map fun p => (enc p.1, PyData.bool p.2)).any fun p => same p.1 (enc k)) = l.any (·.1 == k) := by
    rw [List.any_map]; congr 1; funext p; exact he _ _
  rw [e1]
  split
  · rw [List.map_map, List.map_map]
    refine List.map_congr_left fun p _ => ?_
    simp only [Function.comp, he]
    split <;> rfl
  · rw [List.map_append]; rfl
theorem keys_enc {enc : α → PyData} (l : List (α × Bool)) : (encT enc l).map (·.1) = (l.map (·.1)).map enc := by
  unfold encT; rw [List.map_map, List.map_map]; rfl
end
theorem same_dN (a b : Nat) : same (dN a) (dN b) = (a == b) := by
  have := same_int (a : Int) (b : Int)
  rw [show dN a = .int a from rfl, show dN b = .int b from rfl, this]
  by_cases h : a = b
  · subst h; simp
  · rw [beq_eq_false_iff_ne.mpr h]; exact decide_eq_false (by omega)
theorem same_dS (a b : List Nat) : same (dS a) (dS b) = (a == b) := by
  rw [show dS a = .str (T a) from rfl, show dS b = .str (T b) from rfl, same_str]
  by_cases h : a = b
  · subst h; simp
  · rw [beq_eq_false_iff_ne.mpr h]; simpa using fun q => h (T_inj q)
theorem allInt_enc (l : List (Nat × Bool)) : AllInt (encT dN l) := fun p hp => by
  obtain ⟨q, _, rfl⟩ := List.mem_map.mp hp; exact ⟨_, rfl⟩
theorem allStr_enc (l : List (List Nat × Bool)) : AllStr (encT dS l) := fun p hp => by
  obtain ⟨q, _, rfl⟩ := List.mem_map.mp hp; exact ⟨_, rfl⟩

theorem sorted_unique : ∀ {xs ys : List Int}, xs.Perm ys → xs.Pairwise (· ≤ ·) → ys.Pairwise (· ≤ ·) → xs = ys := fun p h1 h2 => p.eq_of_pairwise (fun a b _ _ => Int.le_antisymm) h1 h2

/-- where a place goes by a sign of the pattern -/
def goT (w : Nat) (n : List Nat) (most a : Nat) : List Nat :=
  if w == 42 || w == 37 then List.range' a (((n.drop a).takeWhile fun c => w == 42 || c != 47).length + 1)
  else match n[a]? with
    | none => []
    | some c => if meetsB w c (decide (a < most)) then [a + 1] else []
theorem goT_le {w : Nat} {n : List Nat} {most a j : Nat} (ha : a ≤ n.length) (hj : j ∈ goT w n most a) : j ≤ n.length := by
  unfold goT at hj
  split at hj
  · rw [List.mem_range'_1] at hj
    have := (List.takeWhile_sublist (fun c => w == 42 || c != 47) (l := n.drop a)).length_le
    rw [List.length_drop] at this; omega
  · split at hj
    · cases hj
    · rename_i c hc
      have := (List.getElem?_eq_some_iff.mp hc).1
      split at hj
      · simp at hj; omega
      · cases hj
theorem goT_len {w : Nat} {n : List Nat} {most a : Nat} : (goT w n most a).length ≤ n.length + 1 := by
  unfold goT
  split
  · have := (List.takeWhile_sublist (fun c => w == 42 || c != 47) (l := n.drop a)).length_le
    rw [List.length_drop] at this
    simp; omega
  · split
    · simp
    · split <;> simp
def rowT (w : Nat) (n : List Nat) (most : Nat) (ps : List Nat) : List Nat := (List.range (n.length + 1)).filter fun j => (ps.flatMap (goT w n most)).contains j
def rowsT (n : List Nat) (most : Nat) (pat ps : List Nat) : List Nat := pat.foldl (fun ps w => rowT w n most ps) ps
def tableB (pat n : List Nat) : Bool := (rowsT n (mostN n) pat [0]).contains n.length
theorem rowT_len (w : Nat) (n : List Nat) (most : Nat) (ps : List Nat) : (rowT w n most ps).length ≤ n.length + 1 := by
  unfold rowT
  exact Nat.le_trans (List.length_filter_le ..) (by simp)
theorem rowT_le {w : Nat} {n : List Nat} {most : Nat} {ps : List Nat} {j : Nat} (h : j ∈ rowT w n most ps) : j ≤ n.length := by
  unfold rowT at h
  have := (List.mem_filter.mp h).1
  rw [List.mem_range] at this; omega

theorem row_perm {w : Nat} {n : List Nat} {most : Nat} {ps : List Nat} (hps : ∀ p ∈ ps, p ≤ n.length) : ((putAll true [] (ps.flatMap (goT w n most))).map (·.1)).Perm (rowT w n most ps) := by
  refine (List.perm_ext_iff_of_nodup (nodup_all (by simp)) (List.Nodup.sublist List.filter_sublist List.nodup_range)).mpr fun j => ?_
  rw [mem_keys_all]
  rw [List.mem_filter, List.mem_range, List.contains_iff_mem]
  refine ⟨fun h => ?_, fun h => .inr h.2⟩
  rcases h with h | h
  · simp at h
  · obtain ⟨p, hp, hj⟩ := List.mem_flatMap.mp h
    have := goT_le (hps p hp) hj
    exact ⟨by omega, h⟩
theorem row_sorted {w : Nat} {n : List Nat} {most : Nat} {ps : List Nat} (hps : ∀ p ∈ ps, p ≤ n.length) (zs : List Int)
    (hp : zs.Perm (((putAll true [] (ps.flatMap (goT w n most))).map (·.1)).map (fun k : Nat => (k : Int)))) (hz : zs.Pairwise (· ≤ ·)) : zs = (rowT w n most ps).map (fun k : Nat => (k : Int)) := by
  refine sorted_unique (hp.trans (List.Perm.map _ (row_perm hps))) hz ?_
  · refine List.pairwise_map.mpr ?_
    refine List.Pairwise.imp ?_ (List.Pairwise.sublist List.filter_sublist List.pairwise_lt_range)
    intro a b h; omega

theorem splitC_hd : ∀ l : List Nat, (splitC 47 l)[0]? = some (hd l)
  | [] => rfl
  | x :: l => by
    have ih := splitC_hd l
    unfold hd at ih ⊢
    rw [splitC]
    by_cases h : x = 47
    · subst h; simp
    · have e : (x :: l).idxOf 47 = l.idxOf 47 + 1 := by rw [List.idxOf_cons, show (x == 47) = false from beq_eq_false_iff_ne.mpr h]; rfl
      rw [if_neg h, e]
      split
      · rename_i q; rw [q] at ih; simp at ih
      · rename_i a t q; rw [q] at ih; simp at ih; simp [ih]

section
variable {w : World} {A : Around}
theorem cmp_inI {a : Int} {xs : List Int} : Cmp w A .In (.int a) (.list (xs.map .int)) (xs.any (· == a)) := .mk fun s v₁ v₂ E Q r₁ r₂ hQ => by
  cases r₁
  obtain ⟨l, vs, rfl, hl, hr⟩ := r₂
  exact in_list_ints hl (readsAll_ints hr) (hQ _ (Ks.rfl' s))
end
end Mine

namespace Mine
section
variable {w : World} {mg : Str → Option Value}

theorem range'_snoc (a k : Nat) : List.range' a (k + 1) = List.range' a k ++ [a + k] := by
  rw [List.range'_concat]; simp
theorem fn_table {pat n : List Nat} (hp : pat.length ≤ 1000) (hn : n.length ≤ 60) : Fn w mg 2 "_law_table" [dS pat, dS n] (.bool (tableB pat n)) :=
  fn_of (d := dF 21) (ps := ["pattern", "name"]) (by rw [recs_eq]; simp) rfl (by decide) (fun pm cd doc vs h => by obtain ⟨v, u, rfl⟩ := args2 h; rfl) (fun L x hx => by
      simp at hx; rcases hx with rfl | rfl <;> exact .inl rfl) fun A L a cd hA ok => by
    refine sx_cons (m1 := [("most", dN (mostN n)), ("pattern", dS pat), ("name", dS n)]) (own1 := []) (x1_assign (f := false) ok (.inl rfl) (Ev.eq (ev_if (c := hd n == INB) (d := .int (if hd n = INB then 5 else 0)) (Tr.eq (tr_cmp (ev_itemL (ds := (splitC 47 n).map dS) (d := dS (hd n)) (Ev.eq (ev_meth F.slot_str_split F.type_str_split (ev_name ok rfl) (args_s ev_str args_z) (bf_split ?_ ?_ ?_)) ?_) ev_int (by decide) ?_ ?_) ev_str cmp_eqS) ?_) (fun h => ?_) (fun h => ?_)) ?_) (.inr flatI)) ?_
    · rw [len_slash]; rfl
    · rw [T_len, sizeLine_eq]; omega
    · rw [lit_slash]; exact partsB_len (n := 0) (by rw [T_len]; omega)
    · rw [lit_slash, split_T, list_dS]
    · rw [show (0 : Int).toNat = 0 from rfl, List.getElem?_map, splitC_hd]; rfl
    · have := splitC_len n; rw [List.length_map]; omega
    · rw [lit_inbox, T_beq]; rfl
    · rw [if_pos (by simpa using h)]; exact Ev.scalar ev_int
    · rw [if_neg (by simpa using h)]; exact Ev.scalar ev_int
    · unfold mostN; split <;> rfl
    refine sx_cons (m1 := [("places", .list ([0].map dN)), ("most", dN (mostN n)), ("pattern", dS pat), ("name", dS n)]) (own1 := []) (x1_assign ok (.inl rfl) (Ev.eq (ev_list (args_s ev_int args_z) (fun d hd => by simp at hd; subst hd; exact flatI) (by simp [sizeLine_eq])) rfl) (.inl rfl)) ?_
    refine sx_cons (m1 := [("places", .list ((rowsT n (mostN n) pat [0]).map dN)), ("most", dN (mostN n)), ("pattern", dS pat), ("name", dS n)]) (own1 := []) (x1_for (src := none) (ds := pat.map fun c => dS [c]) ok hA.1 (EvI.eq (evi_str (ev_name ok rfl)) ?_) (fun x hx => by cases hx) ?_) (sx_ret (x1_ret (f := true) (Ev.eq (ev_cmp (ev_bcall ok rfl (by decide) boot_len (args_s (ev_name ok rfl) args_z) (bf_lenS ?_)) (Ev.eq (ev_name ok rfl) (d' := .list (((rowsT n (mostN n) pat [0]).map (fun k : Nat => (k : Int))).map .int)) ?_) cmp_inI) ?_) (.inl rfl)))
    · rfl
    · refine (?_ : ∀ (ks ps : List Nat), (∀ p ∈ ps, p ≤ n.length) → ps.length ≤ 61 → ForL w mg A (envF (dF 21) L a cd) _ _ [] (ks.map fun c => dS [c]) [("places", .list (ps.map dN)), ("most", dN (mostN n)), ("pattern", dS pat), ("name", dS n)] (.next [("places", .list ((rowsT n (mostN n) ks ps).map dN)), ("most", dN (mostN n)), ("pattern", dS pat), ("name", dS n)] [])) pat [0] (by simp) (by simp)
      intro ks
      induction ks with
      | nil => intro ps _ _; exact ForL.nil
      | cons w0 ks ih =>
        intro ps hps hpl
        refine ForL.next (μ1 := [("places", .list ((rowT w0 n (mostN n) ps).map dN)), ("most", dN (mostN n)), ("pattern", dS pat), ("name", dS n)]) (bd_name ok (.inl rfl) ?_) (ih _ (fun p hp => rowT_le hp) (Nat.le_trans (rowT_len ..) (by omega)))
        generalize hN : mostN n = most
        refine sx_weak (sx_cons (m1 := [("after", .dict (encT dN [])), ("wanted", dS [w0]), ("places", .list (ps.map dN)), ("most", dN most), ("pattern", dS pat), ("name", dS n)]) (own1 := ["after"]) (x1_assignOwn ok (.inl rfl) ev_dict0 (.inr ⟨_, rfl⟩)) (sx_cons (m1 := [("after", .dict (encT dN (putAll true [] (ps.flatMap (goT w0 n most))))), ("wanted", dS [w0]), ("places", .list (ps.map dN)), ("most", dN most), ("pattern", dS pat), ("name", dS n)]) (own1 := ["after"]) (x1_for (src := some "places") (ds := ps.map dN) ok hA.1 (evi_listName ok rfl) (fun x hx => by cases hx; exact ⟨by decide, rfl⟩) ?_)
            (sx_cons (x1_assign ok (.inl rfl) (Ev.eq (ev_bcall ok rfl (by decide) boot_sorted (args_s (ev_name ok rfl) args_z) (bf_sortedDI (xs := ((putAll true [] (ps.flatMap (goT w0 n most))).map (·.1)).map (fun k : Nat => (k : Int))) hA.1 (allInt_enc _) ?_ ?_ (row_sorted hps))) (d' := .list ((rowT w0 n most ps).map dN)) ?_) (.inl rfl)) sx_nil))) (sb_cons rfl (sb_cons rfl (sb_cons rfl (sb_cons rfl sb_nil)))) (by simp)
        · refine (?_ : ∀ (js acc : List Nat), (∀ p ∈ js, p ≤ n.length) → acc.length + js.length * 61 ≤ 4000 → ForL w mg A (envF (dF 21) L a cd) _ _ ["after"] (js.map dN) [("after", .dict (encT dN (putAll true [] acc))), ("wanted", dS [w0]), ("places", .list (ps.map dN)), ("most", dN most), ("pattern", dS pat), ("name", dS n)] (.next [("after", .dict (encT dN (putAll true [] (acc ++ js.flatMap (goT w0 n most))))), ("wanted", dS [w0]), ("places", .list (ps.map dN)), ("most", dN most), ("pattern", dS pat), ("name", dS n)] ["after"])) ps [] hps (by simp; omega)
          intro js
          induction js with
          | nil => intro acc _ _; rw [List.flatMap_nil, List.append_nil]; exact ForL.nil
          | cons p js ihj =>
            intro acc hjs hacc
            rw [List.length_cons] at hacc
            have hple := hjs p (by simp)
            have hgl := goT_len (w := w0) (n := n) (most := most) (a := p)
            have hD : ∀ l : List Nat, l.length ≤ 5000 → (encT dN (putAll true ([] : List (Nat × Bool)) l)).length ≤ 1000000 := fun l hl => by
              unfold encT; rw [List.length_map]; have := length_all true l ([] : List (Nat × Bool)); simp at this; omega
            rw [List.flatMap_cons, ← List.append_assoc]
            have hown : drop1 "at" ["after"] = [("after" : Str)] := by decide
            have hput : ∀ (l : List Nat) (q : Nat), putD (.int (q : Int)) (.bool true) (encT dN (putAll true [] l)) = encT dN (putAll true [] (l ++ [q])) := fun l q => by
              rw [putAll_append]; exact put_enc same_dN q true _
            refine ForL.next (bd_name ok (.inl rfl) (sx_cons (m1 := [("after", .dict (encT dN (putAll true [] (acc ++ goT w0 n most p)))), ("wanted", dS [w0]), ("places", .list (ps.map dN)), ("most", dN most), ("pattern", dS pat), ("name", dS n)]) (own1 := ["after"]) (x1_if (b := w0 == 42 || w0 == 37) (Tr.eq (tr_or2 (tr_cmp (ev_name ok rfl) ev_str cmp_eqS) fun _ => tr_cmp (ev_name ok rfl) ev_str cmp_eqS) ?_) (fun hb => ?_) (fun hb => ?_)) sx_nil)) (ihj (acc ++ goT w0 n most p) (fun q hq => hjs q (List.mem_cons_of_mem _ hq)) ?_)
            · rw [lit_star, lit_pct, T_beq, T_beq, one_beq, one_beq]
            · generalize hk : ((n.drop p).takeWhile fun c => w0 == 42 || c != 47).length = k
              have e : goT w0 n most p = p :: List.range' (p + 1) k := by unfold goT; rw [if_pos hb, hk, List.range'_succ]
              rw [e] at hgl ⊢
              rw [List.length_cons, List.length_range'] at hgl
              refine sx_weak (sx_cons (m1 := [("at", dN p), ("after", .dict (encT dN (putAll true [] (acc ++ [p])))), ("wanted", dS [w0]), ("places", .list (ps.map dN)), ("most", dN most), ("pattern", dS pat), ("name", dS n)]) (own1 := ["after"]) (x1_weak (x1_setI ok (by decide) rfl (by rw [hown]; simp) ev_bool (ev_name ok rfl) flatB (by intro l q; cases q) (allInt_enc _) (hD _ (by omega))) (sb_cons rfl (sb_cons (by rw [← hput]; rfl) (sb_cons rfl (sb_cons rfl (sb_cons rfl (sb_cons rfl (sb_cons rfl sb_nil))))))) (by decide)) (sx_cons (m1 := [("at", dN (p + k)), ("after", .dict (encT dN (putAll true [] ((acc ++ [p]) ++ List.range' (p + 1) k)))), ("wanted", dS [w0]), ("places", .list (ps.map dN)), ("most", dN most), ("pattern", dS pat), ("name", dS n)]) (own1 := ["after"]) (x1_while (n := 100) ?_) sx_nil)) (sb_cons (by rw [List.append_assoc, List.singleton_append]; rfl) (sb_cons rfl (sb_cons rfl (sb_cons rfl (sb_cons rfl (sb_cons rfl sb_nil)))))) (fun _ h => h)
              rw [← hk]
              refine (?_ : ∀ (N p : Nat) (acc : List Nat), p ≤ n.length → n.length - p < N → acc.length + (n.length - p) ≤ 4900 → WhL w mg A (envF (dF 21) L a cd) _ _ ["after"] N [("at", dN p), ("after", .dict (encT dN (putAll true [] (acc)))), ("wanted", dS [w0]), ("places", .list (ps.map dN)), ("most", dN most), ("pattern", dS pat), ("name", dS n)] (.next [("at", dN (p + ((n.drop p).takeWhile fun c => w0 == 42 || c != 47).length)), ("after", .dict (encT dN (putAll true [] (acc ++ List.range' (p + 1) ((n.drop p).takeWhile fun c => w0 == 42 || c != 47).length)))), ("wanted", dS [w0]), ("places", .list (ps.map dN)), ("most", dN most), ("pattern", dS pat), ("name", dS n)] ["after"])) 100 p (acc ++ [p]) hple (by omega) (by simp; omega)
              intro N
              induction N with
              | zero => intro p acc _ h; omega
              | succ N ihw =>
                intro p acc hpn hN hsz
                refine whl_case (decide (p < n.length) && (w0 == 42 || n.getD p 0 != 47)) (tr_and2 (Tr.eq (tr_cmp (ev_name ok rfl) (ev_bcall ok rfl (by decide) boot_len (args_s (ev_name ok rfl) args_z) (bf_lenS ?_)) cmp_lt) ?_) fun hx => Tr.eq (tr_or2 (tr_cmp (ev_name ok rfl) ev_str cmp_eqS) fun _ => tr_cmp (Ev.eq (ev_itemS (ev_name ok rfl) (ev_name ok rfl) ?_ ?_ ?_) (congrArg PyData.str (item_T n p (of_decide_eq_true hx)))) ev_str cmp_neS) ?_) (fun hf => ?_) fun ht => ?_
                · rw [T_len]; omega
                · rw [T_len]; simp
                · rw [T_len]; omega
                · rw [T_len]; have := of_decide_eq_true hx; omega
                · rw [T_len]; omega
                · have hlt := of_decide_eq_true hx
                  rw [lit_star, lit_slash, T_beq, T_bne, one_beq, show n.getD p 0 = n[p] by simp [List.getD, List.getElem?_eq_getElem hlt]]
                  congr 1
                  unfold bne
                  rw [one_beq]
                · have hz : ((n.drop p).takeWhile fun c => w0 == 42 || c != 47).length = 0 := by
                    by_cases hlt : p < n.length
                    · rw [show n.getD p 0 = n[p] by simp [List.getD, List.getElem?_eq_getElem hlt], decide_eq_true hlt, Bool.true_and] at hf
                      rw [List.drop_eq_getElem_cons hlt, List.takeWhile_cons_of_neg (by rw [hf]; decide)]; rfl
                    · rw [List.drop_eq_nil_of_le (by omega)]; rfl
                  rw [hz, List.range'_zero, List.append_nil]; rfl
                · obtain ⟨h1, h2⟩ := Bool.and_eq_true_iff.mp ht
                  have hlt := of_decide_eq_true h1
                  rw [show n.getD p 0 = n[p] by simp [List.getD, List.getElem?_eq_getElem hlt]] at h2
                  refine ⟨[("at", dN (p + 1)), ("after", .dict (encT dN (putAll true [] (acc ++ [p + 1])))), ("wanted", dS [w0]), ("places", .list (ps.map dN)), ("most", dN most), ("pattern", dS pat), ("name", dS n)], sx_weak (sx_cons (x1_assign ok (.inl rfl) (ev_addI (ev_name ok rfl) ev_int) (.inr flatI)) (sx_cons (x1_setI ok (by rw [hown]; simp) rfl (by rw [hown]; simp) ev_bool (ev_name ok rfl) flatB (by intro l q; cases q) (allInt_enc _) (hD _ (by omega))) sx_nil)) (sb_cons rfl (sb_cons (by rw [← hput]; rfl) (sb_cons rfl (sb_cons rfl (sb_cons rfl (sb_cons rfl (sb_cons rfl sb_nil))))))) (by decide), ?_⟩
                  have := ihw (p + 1) (acc ++ [p + 1]) hlt (by omega) (by simp; omega)
                  rw [List.drop_eq_getElem_cons hlt, List.takeWhile_cons_of_pos (p := fun c => w0 == 42 || c != 47) h2, List.length_cons, List.range'_succ]
                  generalize ((n.drop (p + 1)).takeWhile fun c => w0 == 42 || c != 47).length = K at this ⊢
                  rw [show acc ++ (p + 1) :: List.range' (p + 1 + 1) K = (acc ++ [p + 1]) ++ List.range' (p + 1 + 1) K by simp, show p + (K + 1) = p + 1 + K by omega]
                  exact this
            · have e : goT w0 n most p = if decide (p < n.length) && meetsB w0 (n.getD p 0) (decide (p < most)) then [p + 1] else [] := by
                unfold goT
                rw [hb, if_neg (by decide)]
                by_cases hlt : p < n.length
                · rw [List.getElem?_eq_getElem hlt, show n.getD p 0 = n[p] by simp [List.getD, List.getElem?_eq_getElem hlt], decide_eq_true hlt, Bool.true_and]
                · rw [List.getElem?_eq_none (by omega), decide_eq_false hlt, Bool.false_and]; rfl
              have hi2 : (decide ((p : Int) < (most : Int))) = decide (p < most) := by simp
              rw [e]
              refine sx_weak (sx_cons (m1 := [("at", dN p), ("after", .dict (encT dN (putAll true [] (acc ++ if decide (p < n.length) && meetsB w0 (n.getD p 0) (decide (p < most)) then [p + 1] else [])))), ("wanted", dS [w0]), ("places", .list (ps.map dN)), ("most", dN most), ("pattern", dS pat), ("name", dS n)]) (own1 := ["after"]) (x1_if (b := decide (p < n.length) && meetsB w0 (n.getD p 0) (decide (p < most))) (tr_and2 (Tr.eq (tr_cmp (ev_name ok rfl) (ev_bcall ok rfl (by decide) boot_len (args_s (ev_name ok rfl) args_z) (bf_lenS ?_)) cmp_lt) ?_) fun hx => tr_of (fun _ _ => rfl) (Ev.eq (ev_call ok hA rfl in_lmeets (args_s (ev_name ok rfl) (args_s (Ev.eq (ev_itemS (ev_name ok rfl) (ev_name ok rfl) ?_ ?_ ?_) (congrArg PyData.str (item_T n p (of_decide_eq_true hx)))) (args_s (Ev.eq (ev_cmp (ev_name ok rfl) (ev_name ok rfl) cmp_lt) (congrArg PyData.bool hi2)) args_z))) fn_meets) ?_)) (fun hb2 => ?_) (fun hb2 => ?_)) sx_nil) (sb_cons rfl (sb_cons rfl (sb_cons rfl (sb_cons rfl (sb_cons rfl (sb_cons rfl sb_nil)))))) (fun _ h => h)
              · rw [T_len]; omega
              · rw [T_len]; simp
              · rw [T_len]; omega
              · rw [T_len]; have := of_decide_eq_true hx; omega
              · rw [T_len]; omega
              · rw [show n.getD p 0 = n[p]'(of_decide_eq_true hx) by simp [List.getD, List.getElem?_eq_getElem (of_decide_eq_true hx)]]
              · rw [hb2, if_pos rfl]
                exact sx_weak (sx_cons (x1_setI ok (by rw [hown]; simp) rfl (by rw [hown]; simp) ev_bool (ev_addI (ev_name ok rfl) ev_int) flatB (by intro l q; cases q) (allInt_enc _) (hD _ (by omega))) sx_nil) (sb_cons rfl (sb_cons (by rw [← hput]; rfl) (sb_cons rfl (sb_cons rfl (sb_cons rfl (sb_cons rfl (sb_cons rfl sb_nil))))))) (by decide)
              · rw [hb2, if_neg (by decide), List.append_nil]
                exact sx_weak sx_nil (sb_cons rfl (sb_cons rfl (sb_cons rfl (sb_cons rfl (sb_cons rfl (sb_cons rfl (sb_cons rfl sb_nil))))))) (by decide)
            · rw [List.length_append]; omega
        · rw [keys_enc, List.map_map (f := fun k : Nat => (k : Int))]; rfl
        · rw [List.length_map, (row_perm hps).length_eq]; have := rowT_len w0 n most ps; omega
        · rw [List.map_map]; rfl
    · rw [T_len]; omega
    · rw [List.map_map]; rfl
    · rw [T_len]
      unfold tableB
      refine congrArg PyData.bool (?_ : (_ : Bool) = _)
      rw [Bool.eq_iff_iff]
      simp
      exact ⟨fun ⟨x, h, e⟩ => by rw [← Int.ofNat_inj.mp e]; exact h, fun h => ⟨_, h, rfl⟩⟩
end
end Mine

namespace Mine

def leC (a b : List Nat) : Bool := !ltCps b a
theorem leC_nil (b : List Nat) : leC [] b = true := by unfold leC; cases b <;> rfl
theorem leC_cons {a b : Nat} {r t : List Nat} : leC (a :: r) (b :: t) = (decide (a < b) || (a == b && leC r t)) := by
  unfold leC
  rw [ltCps]
  rcases Nat.lt_trichotomy a b with h | h | h
  · have h1 : (b == a) = false := beq_eq_false_iff_ne.mpr (by omega)
    rw [decide_eq_true h, h1, decide_eq_false (by omega : ¬ b < a)]; rfl
  · subst h; simp
  · have h1 : (a == b) = false := beq_eq_false_iff_ne.mpr (by omega)
    rw [decide_eq_true h, h1, decide_eq_false (by omega : ¬ a < b)]; rfl
theorem leC_total : ∀ (a b : List Nat), (leC a b || leC b a) = true
  | [], b => by rw [leC_nil]; rfl
  | a :: r, [] => by rw [leC_nil, Bool.or_true]
  | a :: r, b :: t => by
    have := leC_total r t
    rw [leC_cons, leC_cons]
    rcases Nat.lt_trichotomy a b with h | h | h
    · rw [decide_eq_true h]; simp
    · subst h; simpa using this
    · rw [decide_eq_true h]; simp
theorem leC_antisymm : ∀ (a b : List Nat), leC a b = true → leC b a = true → a = b
  | [], [], _, _ => rfl
  | [], b :: t, _, h => by simp [leC, ltCps] at h
  | a :: r, [], h, _ => by simp [leC, ltCps] at h
  | a :: r, b :: t, h1, h2 => by
    rw [leC_cons] at h1 h2
    simp only [Bool.or_eq_true, decide_eq_true_eq, Bool.and_eq_true, beq_iff_eq] at h1 h2
    have hab : a = b := by omega
    subst hab
    have := leC_antisymm r t (by rcases h1 with h | h; omega; exact h.2) (by rcases h2 with h | h; omega; exact h.2)
    rw [this]
theorem leC_trans : ∀ (a b c : List Nat), leC a b = true → leC b c = true → leC a c = true
  | [], _, c, _, _ => leC_nil c
  | a :: r, [], _, h, _ => by simp [leC, ltCps] at h
  | a :: r, b :: t, [], _, h => by simp [leC, ltCps] at h
  | a :: r, b :: t, c :: u, h1, h2 => by
    rw [leC_cons] at h1 h2 ⊢
    simp only [Bool.or_eq_true, decide_eq_true_eq, Bool.and_eq_true, beq_iff_eq] at h1 h2 ⊢
    rcases h1 with h1 | ⟨h1, h1'⟩ <;> rcases h2 with h2 | ⟨h2, h2'⟩
    · left; omega
    · left; omega
    · left; omega
    · right; exact ⟨by omega, leC_trans r t u h1' h2'⟩

theorem rising_pairwise : ∀ (l : List Str) (p : Str), risingS p l = true → (p :: l).Pairwise (fun a b => leC a.cps.toList b.cps.toList = true)
  | [], p, _ => by simp
  | x :: r, p, h => by
    rw [risingS, Bool.and_eq_true] at h
    have ih := rising_pairwise r x h.2
    refine List.pairwise_cons.mpr ⟨fun y hy => ?_, ih⟩
    rcases List.mem_cons.mp hy with rfl | hy
    · exact h.1
    · exact leC_trans _ _ _ h.1 ((List.pairwise_cons.mp ih).1 y hy)
theorem sortedS_pairwise : ∀ (l : List Str), sortedS l = true → l.Pairwise (fun a b => leC a.cps.toList b.cps.toList = true)
  | [], _ => .nil
  | x :: r, h => rising_pairwise r x h

/-- in order -/
def srt (xs : List (List Nat)) : List (List Nat) := xs.mergeSort leC
theorem srt_perm (xs : List (List Nat)) : (srt xs).Perm xs := List.mergeSort_perm xs leC
theorem srt_sorted (xs : List (List Nat)) : (srt xs).Pairwise (fun a b => leC a b = true) := List.pairwise_mergeSort leC_trans leC_total xs
theorem mem_srt {xs : List (List Nat)} {x : List Nat} : x ∈ srt xs ↔ x ∈ xs := (srt_perm xs).mem_iff
theorem srt_len (xs : List (List Nat)) : (srt xs).length = xs.length := (srt_perm xs).length_eq
theorem srt_congr {xs ys : List (List Nat)} (hx : xs.Nodup) (hy : ys.Nodup) (h : ∀ z, z ∈ xs ↔ z ∈ ys) : srt xs = srt ys :=
  List.Perm.eq_of_pairwise (le := fun a b => leC a b = true) (fun a b _ _ h1 h2 => leC_antisymm a b h1 h2) (srt_sorted xs) (srt_sorted ys) ((srt_perm xs).trans (((List.perm_ext_iff_of_nodup hx hy).mpr h).trans (srt_perm ys).symm))
theorem srt_unique (xs : List (List Nat)) (zs : List Str) (hp : zs.Perm (xs.map T)) (hs : sortedS zs = true) : zs = (srt xs).map T := by
  refine List.Perm.eq_of_pairwise (le := fun a b => leC a.cps.toList b.cps.toList = true) (fun a b _ _ h1 h2 => ?_) (sortedS_pairwise zs hs) ?_ (hp.trans ((srt_perm xs).symm.map T))
  · exact str_ext (leC_antisymm _ _ h1 h2)
  · refine List.pairwise_map.mpr (List.Pairwise.imp ?_ (srt_sorted xs))
    intro a b h; exact h

/-- a table that keeps what it has -/
def putNew (l : List (List Nat × Bool)) (k : List Nat) : List (List Nat × Bool) := if (l.map (·.1)).contains k then l else putK k false l
def knownT (ns : List (List Nat)) (ps : List (List Nat)) : List (List Nat × Bool) := ps.foldl putNew (putAll true [] ns)
theorem mem_keys_new {l : List (List Nat × Bool)} {k j : List Nat} : j ∈ (putNew l k).map (·.1) ↔ j ∈ l.map (·.1) ∨ j = k := by
  unfold putNew
  split
  · rename_i h
    rw [List.contains_iff_mem] at h
    exact ⟨.inl, fun q => q.elim id fun q => q ▸ h⟩
  · exact mem_keys_put
theorem nodup_new {l : List (List Nat × Bool)} {k : List Nat} (h : (l.map (·.1)).Nodup) : ((putNew l k).map (·.1)).Nodup := by
  unfold putNew; split
  · exact h
  · exact nodup_put h
theorem length_new (l : List (List Nat × Bool)) (k : List Nat) : (putNew l k).length ≤ l.length + 1 := by
  unfold putNew; split
  · omega
  · exact length_put ..
theorem mem_keys_newL {j : List Nat} : ∀ {ps : List (List Nat)} {l : List (List Nat × Bool)}, j ∈ (ps.foldl putNew l).map (·.1) ↔ j ∈ l.map (·.1) ∨ j ∈ ps
  | [], l => by simp
  | k :: ps, l => by rw [List.foldl_cons, mem_keys_newL, mem_keys_new, List.mem_cons, or_assoc]
theorem nodup_newL : ∀ {ps : List (List Nat)} {l : List (List Nat × Bool)}, (l.map (·.1)).Nodup → ((ps.foldl putNew l).map (·.1)).Nodup
  | [], _, h => h
  | k :: ps, l, h => by rw [List.foldl_cons]; exact nodup_newL (nodup_new h)
theorem length_newL : ∀ (ps : List (List Nat)) (l : List (List Nat × Bool)), (ps.foldl putNew l).length ≤ l.length + ps.length
  | [], l => by simp
  | k :: ps, l => by
    have := length_newL ps (putNew l k); have := length_new l k
    rw [List.foldl_cons, List.length_cons]; omega
/-- every entry says whether the key is in ns -/
def Says (ns : List (List Nat)) (l : List (List Nat × Bool)) : Prop := ∀ p ∈ l, p.2 = ns.contains p.1
theorem says_put {ns : List (List Nat)} {l : List (List Nat × Bool)} {k : List Nat} {b : Bool} (h : Says ns l) (hb : b = ns.contains k) : Says ns (putK k b l) := fun p hp => by
  unfold putK at hp
  split at hp
  · obtain ⟨q, hq, rfl⟩ := List.mem_map.mp hp
    split
    · rename_i e; have := eq_of_beq e; subst this; exact hb
    · exact h q hq
  · rcases List.mem_append.mp hp with hp | hp
    · exact h p hp
    · obtain rfl := List.mem_singleton.mp hp; exact hb
theorem says_all {ns : List (List Nat)} : ∀ {ks : List (List Nat)} {l : List (List Nat × Bool)}, Says ns l → (∀ k ∈ ks, k ∈ ns) → Says ns (putAll true l ks)
  | [], l, h, _ => h
  | k :: ks, l, h, hk => by
    rw [putAll_cons]
    exact says_all (says_put h (by rw [eq_comm, List.contains_iff_mem]; exact hk k (by simp))) fun q hq => hk q (List.mem_cons_of_mem _ hq)
theorem says_newL {ns : List (List Nat)} : ∀ {ps : List (List Nat)} {l : List (List Nat × Bool)}, Says ns l → (∀ n ∈ ns, n ∈ l.map (·.1)) → Says ns (ps.foldl putNew l)
  | [], l, h, _ => h
  | k :: ps, l, h, hn => by
    rw [List.foldl_cons]
    refine says_newL ?_ fun n h' => mem_keys_new.mpr (.inl (hn n h'))
    unfold putNew
    split
    · exact h
    · rename_i hc
      rw [List.contains_iff_mem] at hc
      refine says_put h ?_
      rw [eq_comm, ← Bool.not_eq_true, List.contains_iff_mem]
      exact fun q => hc (hn k q)
theorem says_known (ns ps : List (List Nat)) : Says ns (knownT ns ps) := says_newL (says_all (fun p hp => by cases hp) fun _ h => h) fun n hn => mem_keys_all.mpr (.inr hn)
theorem mem_known {ns ps : List (List Nat)} {j : List Nat} : j ∈ (knownT ns ps).map (·.1) ↔ j ∈ ns ∨ j ∈ ps := by
  unfold knownT; rw [mem_keys_newL, mem_keys_all]; simp
theorem nodup_known (ns ps : List (List Nat)) : ((knownT ns ps).map (·.1)).Nodup := nodup_newL (nodup_all (by simp))

theorem lookup_encS {ns : List (List Nat)} : ∀ {l : List (List Nat × Bool)}, Says ns l → ∀ {k : List Nat}, k ∈ l.map (·.1) → PySem.Spec.lookup (dS k) (encT dS l) = some (.bool (ns.contains k))
  | [], _, k, hk => by cases hk
  | (a, b) :: l, h, k, hk => by
    show PySem.Spec.lookup (dS k) ((dS a, .bool b) :: encT dS l) = _
    rw [PySem.Spec.lookup, same_dS]
    by_cases e : a = k
    · subst e; have := h (a, b) (by simp); simp only at this; rw [beq_self_eq_true, if_pos rfl, this]
    · rw [beq_eq_false_iff_ne.mpr e, if_neg (by decide)]
      refine lookup_encS (fun p hp => h p (List.mem_cons_of_mem _ hp)) ?_
      rcases List.mem_cons.mp hk with q | q
      · exact absurd q.symm e
      · exact q
theorem isSome_encS : ∀ (l : List (List Nat × Bool)) (k : List Nat), (PySem.Spec.lookup (dS k) (encT dS l)).isSome = (l.map (·.1)).contains k
  | [], k => rfl
  | (a, b) :: l, k => by
    show (PySem.Spec.lookup (dS k) ((dS a, .bool b) :: encT dS l)).isSome = _
    rw [PySem.Spec.lookup, same_dS, List.map_cons, List.contains_cons]
    by_cases e : a = k
    · subst e; simp
    · rw [beq_eq_false_iff_ne.mpr e, if_neg (by decide), isSome_encS l k, beq_eq_false_iff_ne.mpr (Ne.symm e), Bool.false_or]
end Mine

namespace Mine

theorem parF_mem : ∀ {r pre x : List Nat}, x ∈ parF pre r → x.length ≤ pre.length + r.length
  | [], _, _, h => by cases h
  | c :: r, pre, x, h => by
    rw [parF] at h
    rw [List.length_cons]
    split at h
    · rcases List.mem_cons.mp h with rfl | h
      · omega
      · have := parF_mem h; simp at this; omega
    · have := parF_mem h; simp at this; omega

/-- the parents that a listing adds -/
def addP (ns : List (List Nat)) (whole : List Nat) : List (List Nat) := if whole.getLast? == some 37 then ns.flatMap (parF []) else []
def listR (ns : List (List Nat)) (r p : List Nat) : List (List Nat × Bool) :=
  if p = [] then [] else ((srt ((knownT ns (addP ns (wholeP r p))).map (·.1))).filter (listedB (wholeP r p))).map fun n => (n, ns.contains n)
def dP (p : List Nat × Bool) : DD := .tuple [dS p.1, .bool p.2]
def elL : DD → List Nat
  | .str x => x.cps.toList
  | _ => []
theorem wholeP_len (r p : List Nat) : (wholeP r p).length ≤ r.length + p.length := by
  unfold wholeP; split
  · simp; omega
  · simp

section
variable {w : World} {mg : Str → Option Value}

theorem fn_list {ns : List (List Nat)} {r p : List Nat} (hr : r.length ≤ 20) (hp : p.length ≤ 80) (hn : ∀ n ∈ ns, n.length ≤ 60) (hk : ns.length + (ns.flatMap (parF [])).length < 64) : Fn w mg 4 "list_names" [.list (ns.map dS), dS r, dS p] (.list ((listR ns r p).map dP)) :=
  fn_of (d := dF 16) (ps := ["names", "reference", "pattern"]) (by rw [recs_eq]; simp) rfl (by decide) (fun pm cd doc vs h => by obtain ⟨v, u, z, rfl⟩ := args3 h; rfl) (fun L x hx => by
      simp at hx; rcases hx with rfl | rfl | rfl <;> exact .inl rfl) fun A L a cd hA ok => by
    unfold listR
    by_cases hpe : p = []
    · subst hpe
      rw [if_pos rfl]
      refine sx_ret (x1_if (b := true) (Tr.eq (tr_cmp (ev_name ok rfl) ev_str cmp_eqS) ?_) (fun _ => sx_ret (x1_ret (ev_list args_z (fun d hd => by cases hd) (by simp)) (.inl rfl))) (fun q => by cases q))
      rw [lit_empty, T_beq]; rfl
    · rw [if_neg hpe]
      refine sx_cons (x1_if (b := false) (Tr.eq (tr_cmp (ev_name ok rfl) ev_str cmp_eqS) ?_) (fun q => by cases q) (fun _ => sx_nil)) ?_
      · rw [lit_empty, T_beq, beq_eq_false_iff_ne.mpr hpe]
      have hwl := wholeP_len r p
      refine sx_cons (x1_assign ok (.inr ⟨rfl, rfl⟩) (ev_call ok (hA.le (by decide)) rfl in_whole (args_s (ev_name ok rfl) (args_s (ev_name ok rfl) args_z)) (fn_whole (by omega) (by omega))) (.inl rfl)) ?_
      generalize wholeP r p = wh at *
      refine sx_cons (m1 := [("known", .dict (encT dS [])), ("whole", dS wh), ("names", .list (ns.map dS)), ("reference", dS r), ("pattern", dS p)]) (own1 := ["known"]) (x1_assignOwn ok (.inr ⟨rfl, rfl⟩) ev_dict0 (.inr ⟨_, rfl⟩)) ?_
      have hD : ∀ l : List (List Nat × Bool), l.length ≤ 5000 → (encT dS l).length ≤ 1000000 := fun l hl => by unfold encT; rw [List.length_map]; omega
      refine sx_cons (m1 := [("known", .dict (encT dS (putAll true [] ns))), ("whole", dS wh), ("names", .list (ns.map dS)), ("reference", dS r), ("pattern", dS p)]) (own1 := ["known"]) (x1_for (src := some "names") (ds := ns.map dS) ok hA.1 (evi_listName ok rfl) (fun x hx => by cases hx; exact ⟨by decide, rfl⟩) ?_) ?_
      · refine (?_ : ∀ (ks : List (List Nat)) (l : List (List Nat × Bool)), l.length + ks.length ≤ 100 → ForL w mg A (envF (dF 16) L a cd) _ _ ["known"] (ks.map dS) [("known", .dict (encT dS l)), ("whole", dS wh), ("names", .list (ns.map dS)), ("reference", dS r), ("pattern", dS p)] (.next [("known", .dict (encT dS (putAll true l ks))), ("whole", dS wh), ("names", .list (ns.map dS)), ("reference", dS r), ("pattern", dS p)] ["known"])) ns [] (by simp; omega)
        intro ks
        induction ks with
        | nil => intro l _; exact ForL.nil
        | cons k ks ih =>
          intro l hl
          rw [List.length_cons] at hl
          have := length_put k true l
          refine ForL.next (bd_name ok (.inl rfl) (sx_weak (own1 := ["known"]) (sx_cons (x1_setS ok (by decide) rfl (by simp [drop1]) ev_bool (ev_name ok rfl) flatB (by intro l q; cases q) (allStr_enc _) (hD _ (by omega))) sx_nil) (sb_cons (by rw [← put_enc same_dS]; rfl) (sb_cons rfl (sb_cons rfl (sb_cons rfl (sb_cons rfl sb_nil))))) (by decide))) (ih (putK k true l) (by omega))
      have hfin : ∀ ps : List (List Nat), ns.length + ps.length < 64 → (∀ n ∈ ps, n.length ≤ 60) → Sx w mg A (envF (dF 16) L a cd) ((dF 16).body.drop 5) [("known", .dict (encT dS (knownT ns ps))), ("whole", dS wh), ("names", .list (ns.map dS)), ("reference", dS r), ("pattern", dS p)] ["known"] (.ret (.list ((((srt ((knownT ns ps).map (·.1))).filter (listedB wh)).map fun n => (n, ns.contains n)).map dP))) := fun ps hps hpn => by
        have hkl : ((knownT ns ps).map (·.1)).length < 64 := by
          have h1 := length_newL ps (putAll true [] ns)
          have h2 := length_all true ns ([] : List (List Nat × Bool))
          rw [List.length_map]; unfold knownT; simp at h2; omega
        have hmem : ∀ d ∈ (srt ((knownT ns ps).map (·.1))).map dS, ∃ n, d = dS n ∧ n ∈ (knownT ns ps).map (·.1) ∧ n.length ≤ 60 := fun d hd => by
          obtain ⟨n, h1, rfl⟩ := List.mem_map.mp hd
          have h2 := mem_srt.mp h1
          exact ⟨n, rfl, h2, (mem_known.mp h2).elim (hn n) (hpn n)⟩
        refine sx_ret (x1_ret (f := true) (Ev.eq (ev_comp1 (cl := [("whole", L + 1), ("known", L + 1 + 1)]) (mc := [("known", .dict (encT dS (knownT ns ps))), ("whole", dS wh)]) (tst := fun d => listedB wh (elL d)) (f := fun d => .tuple [d, .bool (ns.contains (elL d))]) (fr := true) (ds := (srt ((knownT ns ps).map (·.1))).map dS)
          ok hA.1 ⟨rfl, by decide, rfl, by decide⟩ (cap_cons rfl rfl rfl rfl (cap_cons rfl rfl rfl rfl cap_nil)) rfl rfl (evi_list (Ev.eq (ev_bcall ok rfl (by decide) boot_sorted (args_s (ev_name ok rfl) args_z) (bf_sortedDS (xs := ((knownT ns ps).map (·.1)).map T) hA.1 (allStr_enc _) ?_ ?_ (srt_unique _))) ?_)) (fun C d hd => ?_) (fun C d hd _ => ?_) (fun d hd _ => flatT) ?_) ?_) (.inl rfl))
        · rw [keys_enc, ← list_dS]
        · rw [List.length_map]; exact hkl
        · rw [← list_dS]
        · obtain ⟨n, rfl, h1, h2⟩ := hmem d hd
          exact trs_one (tr_of (fun _ _ => rfl) (ev_call ⟨rfl, ok.g, ok.b⟩ (hA.le (by decide)) rfl in_listed (args_s (ev_name ⟨rfl, ok.g, ok.b⟩ rfl) (args_s (ev_name ⟨rfl, ok.g, ok.b⟩ rfl) args_z)) (fn_listed (by omega) (by omega))))
        · obtain ⟨n, rfl, h1, h2⟩ := hmem d hd
          refine ev_tuple (args_s (ev_name ⟨rfl, ok.g, ok.b⟩ rfl) (args_s (ev_itemD (ev_name ⟨rfl, ok.g, ok.b⟩ rfl) (ev_name ⟨rfl, ok.g, ok.b⟩ rfl) (allStr_enc _) (lookup_encS (says_known ns ps) h1)) args_z)) ?_ (by simp [sizeLine_eq])
          intro d hd; simp at hd; rcases hd with rfl | rfl; exact flatS; exact flatB
        · rw [List.length_map, srt_len, sizeLine_eq]; omega
        · rw [List.filter_map, List.map_map, List.map_map]; rfl
      unfold addP
      cases he : wh.getLast? == some 37 with
      | true =>
        rw [if_pos rfl]
        refine sx_cons (m1 := [("known", .dict (encT dS (knownT ns (ns.flatMap (parF []))))), ("whole", dS wh), ("names", .list (ns.map dS)), ("reference", dS r), ("pattern", dS p)]) (own1 := ["known"]) (x1_if (b := true) (tr_of (fun _ _ => rfl) (Ev.eq (ev_meth F.slot_str_endswith F.type_str_endswith (ev_name ok rfl) (args_s ev_str args_z) bf_endswith) ?_)) (fun _ => sx_cons (x1_for (src := some "names") (ds := ns.map dS) ok hA.1 (evi_listName ok rfl) (fun x hx => by cases hx; exact ⟨by decide, rfl⟩) ?_) sx_nil) (fun q => by cases q)) (hfin _ (by omega) ?_)
        · rw [lit_pct, endswith_T, he]
        · refine (?_ : ∀ (ks : List (List Nat)) (l : List (List Nat × Bool)), (∀ k ∈ ks, k.length ≤ 60) → l.length + (ks.flatMap (parF [])).length ≤ 100 → ForL w mg A (envF (dF 16) L a cd) _ _ ["known"] (ks.map dS) [("known", .dict (encT dS (l))), ("whole", dS wh), ("names", .list (ns.map dS)), ("reference", dS r), ("pattern", dS p)] (.next [("known", .dict (encT dS ((ks.flatMap (parF [])).foldl putNew l))), ("whole", dS wh), ("names", .list (ns.map dS)), ("reference", dS r), ("pattern", dS p)] ["known"])) ns (putAll true [] ns) hn (by have := length_all true ns ([] : List (List Nat × Bool)); simp at *; omega)
          intro ks
          induction ks with
          | nil => intro l _ _; exact ForL.nil
          | cons k ks ih =>
            intro l hkl hl
            rw [List.flatMap_cons, List.length_append] at hl
            rw [List.flatMap_cons, List.foldl_append]
            have hk60 := hkl k (by simp)
            have hlen := length_newL (parF [] k) l
            refine ForL.next (bd_name ok (.inl rfl) (sx_weak (m1 := [("name", dS k), ("known", .dict (encT dS ((parF [] k).foldl putNew l))), ("whole", dS wh), ("names", .list (ns.map dS)), ("reference", dS r), ("pattern", dS p)]) (own1 := ["known"]) (sx_cons (x1_for (src := none) (ds := (parF [] k).map dS) ok hA.1 (evi_list (ev_call ok (hA.le (by decide)) rfl in_parents (args_s (ev_name ok rfl) args_z) (fn_parents (by omega)))) (fun x hx => by cases hx) ?_) sx_nil) (sb_cons rfl (sb_cons rfl (sb_cons rfl (sb_cons rfl (sb_cons rfl sb_nil))))) (fun _ h => h))) (ih ((parF [] k).foldl putNew l) (fun q hq => hkl q (List.mem_cons_of_mem _ hq)) (by omega))
            refine (?_ : ∀ (qs : List (List Nat)) (l : List (List Nat × Bool)), l.length + qs.length ≤ 200 → ForL w mg A (envF (dF 16) L a cd) _ _ ["known"] (qs.map dS) [("name", dS k), ("known", .dict (encT dS (l))), ("whole", dS wh), ("names", .list (ns.map dS)), ("reference", dS r), ("pattern", dS p)] (.next [("name", dS k), ("known", .dict (encT dS (qs.foldl putNew l))), ("whole", dS wh), ("names", .list (ns.map dS)), ("reference", dS r), ("pattern", dS p)] ["known"])) (parF [] k) l (by omega)
            intro qs
            induction qs with
            | nil => intro l _; exact ForL.nil
            | cons q qs ihq =>
              intro l hl
              rw [List.length_cons] at hl
              have hl1 := length_new l q
              refine ForL.next (bd_name ok (.inl rfl) (sx_cons (m1 := [("name", dS k), ("known", .dict (encT dS (putNew l q))), ("whole", dS wh), ("names", .list (ns.map dS)), ("reference", dS r), ("pattern", dS p)]) (own1 := ["known"]) (x1_if (b := !((l.map (·.1)).contains q)) (Tr.eq (tr_cmp (ev_name ok rfl) (ev_name ok rfl) (cmp_notinD (allStr_enc _))) ?_) (fun hb => ?_) (fun hb => ?_)) sx_nil)) (ihq (putNew l q) (by omega))
              · exact congrArg not (isSome_encS l q)
              · have e : putNew l q = putK q false l := by unfold putNew; rw [if_neg (by rw [Bool.not_eq_true']at hb; rw [hb]; decide)]
                rw [e]
                exact sx_weak (sx_cons (x1_setS ok (by decide) rfl (by simp [drop1]) ev_bool (ev_name ok rfl) flatB (by intro l q; cases q) (allStr_enc _) (hD _ (by omega))) sx_nil) (sb_cons rfl (sb_cons (by rw [← put_enc same_dS]; rfl) (sb_cons rfl (sb_cons rfl (sb_cons rfl (sb_cons rfl sb_nil)))))) (by decide)
              · have e : putNew l q = l := by unfold putNew; rw [if_pos (by rw [Bool.not_eq_false'] at hb; exact hb)]
                rw [e]
                exact sx_weak sx_nil (sb_cons rfl (sb_cons rfl (sb_cons rfl (sb_cons rfl (sb_cons rfl (sb_cons rfl sb_nil)))))) (by decide)
        · intro n hn'
          obtain ⟨m, hm, hm'⟩ := List.mem_flatMap.mp hn'
          have := parF_mem hm'; have := hn m hm; simp at *; omega
      | false =>
        rw [if_neg (by decide)]
        refine sx_cons (m1 := [("known", .dict (encT dS (knownT ns []))), ("whole", dS wh), ("names", .list (ns.map dS)), ("reference", dS r), ("pattern", dS p)]) (own1 := ["known"]) (x1_if (b := false) (tr_of (fun _ _ => rfl) (Ev.eq (ev_meth F.slot_str_endswith F.type_str_endswith (ev_name ok rfl) (args_s ev_str args_z) bf_endswith) ?_)) (fun q => by cases q) (fun _ => sx_nil)) (hfin [] (by simp; omega) (by simp))
        rw [lit_pct, endswith_T, he]
end
end Mine

namespace Mine

def OkL (l : List Nat) : Prop := ∀ c ∈ l, c < 0x110000
theorem strOk_T {l : List Nat} (h : OkL l) : PySem.PyData.strOk (T l) = true := by
  unfold PySem.PyData.strOk
  rw [T_cps]
  simp
  intro i hi; exact h i hi
theorem shaped_dS {l : List Nat} (h : OkL l) : SeqAt.shaped (dS l) = true := by
  unfold SeqAt.shaped
  rw [show PyData.canLay0 (dS l) = PySem.PyData.strOk (T l) from rfl, strOk_T h]; rfl
theorem shaped_bool (b : Bool) : SeqAt.shaped (.bool b) = true := by cases b <;> rfl
theorem shaped_list : ∀ {ds : List DD}, (∀ d ∈ ds, PyData.canLay0 d = true ∧ d.depth ≤ 60) → PyData.canLayAll0 ds = true ∧ PyData.depthAll ds ≤ 60
  | [], _ => ⟨rfl, Nat.zero_le _⟩
  | d :: ds, h => by
    obtain ⟨h1, h2⟩ := shaped_list fun x hx => h x (List.mem_cons_of_mem _ hx)
    obtain ⟨h3, h4⟩ := h d (by simp)
    rw [PyData.canLayAll0, PyData.depthAll, h1, h3]
    exact ⟨rfl, Nat.max_le.mpr ⟨h4, h2⟩⟩
theorem shaped_listD {ds : List DD} (h : ∀ d ∈ ds, PyData.canLay0 d = true ∧ d.depth ≤ 60) : SeqAt.shaped (.list ds) = true := by
  obtain ⟨h1, h2⟩ := shaped_list h
  unfold SeqAt.shaped
  rw [PyData.canLay0, PyData.depth, h1, decide_eq_true (by omega)]; rfl
theorem shaped_listS {xs : List (List Nat)} (h : ∀ x ∈ xs, OkL x) : SeqAt.shaped (.list (xs.map dS)) = true := shaped_listD fun d hd => by
  obtain ⟨x, hx, rfl⟩ := List.mem_map.mp hd
  exact ⟨strOk_T (h x hx), Nat.zero_le _⟩
theorem shaped_listP {xs : List (List Nat × Bool)} (h : ∀ x ∈ xs, OkL x.1) : SeqAt.shaped (.list (xs.map dP)) = true := shaped_listD fun d hd => by
  obtain ⟨x, hx, rfl⟩ := List.mem_map.mp hd
  refine ⟨?_, ?_⟩
  · show (PyData.canLay0 (dS x.1) && (PyData.canLay0 (.bool x.2) && true)) = true
    rw [show PyData.canLay0 (dS x.1) = PySem.PyData.strOk (T x.1) from rfl, strOk_T (h x hx)]; rfl
  · show max (PyData.depth (dS x.1)) (max (PyData.depth (.bool x.2)) 0) + 1 ≤ 60
    rw [show PyData.depth (dS x.1) = 0 from rfl, show PyData.depth (.bool x.2) = 0 from rfl]; decide
theorem eqv_self {d : PyData} (h : SeqAt.shaped d = true) : PyData.eqv d d = true := PySem.SeqAt.eqv_refl d (SeqAt.canLay_of_shaped h)
theorem eqv_empty (xs : List (List Nat)) : PyData.eqv (.list (xs.map dS)) (.list []) = xs.isEmpty := by cases xs <;> rfl
theorem notD_list {ds : List DD} : ∀ D, (PyData.list ds) ≠ .dict D := fun _ q => by cases q
theorem notD_bool {b : Bool} : ∀ D, (PyData.bool b) ≠ .dict D := fun _ q => by cases q
theorem notD_str {b : Str} : ∀ D, (PyData.str b) ≠ .dict D := fun _ q => by cases q

theorem aboveL_len {l : List Nat} : (aboveL l).length ≤ l.length := by
  unfold aboveL; have := splitC_len l; rw [List.length_map, List.length_range]; omega

def belowOf (ns : List (List Nat)) (n : List Nat) : List (List Nat) := ns.filter fun o => (aboveL o).contains n
/-- what the law asks of one name -/
structure Right (ns : List (List Nat)) (wh n : List Nat) : Prop where
  len : n.length ≤ 60
  ok : OkL n
  above : parF [] n = aboveL n
  has : (ns.any fun k => (n ++ [47]).isPrefixOf k) = !(belowOf ns n).isEmpty
  below : (ns.filter fun o => (n ++ [47]).isPrefixOf o) = belowOf ns n
  listed : listedB wh n = tableB wh n

theorem elL_dS (l : List Nat) : elL (dS l) = l := rfl
theorem okL_parF : ∀ {r pre : List Nat}, OkL pre → OkL r → ∀ x ∈ parF pre r, OkL x
  | [], _, _, _, x, h => by cases h
  | c :: r, pre, h1, h2, x, h => by
    have hp : OkL (pre ++ [c]) := fun d hd => (List.mem_append.mp hd).elim (h1 d) fun q => h2 d (by rw [List.mem_singleton.mp q]; simp)
    have hr : OkL r := fun d hd => h2 d (List.mem_cons_of_mem _ hd)
    rw [parF] at h
    split at h
    · rcases List.mem_cons.mp h with rfl | h
      · exact h1
      · exact okL_parF hp hr x h
    · exact okL_parF hp hr x h

section
variable {w : World} {mg : Str → Option Value}

theorem fn_tree {ns : List (List Nat)} {wh : List Nat} (hw : wh.length ≤ 100) (hl : ns.length ≤ 60) (hr : ∀ n ∈ ns, Right ns wh n) : Fn w mg 4 "_law_tree_right" [.list (ns.map dS), dS wh] (.bool true) :=
  fn_of (d := dF 23) (ps := ["names", "whole"]) (by rw [recs_eq]; simp) rfl (by decide) (fun pm cd doc vs h => by obtain ⟨v, u, rfl⟩ := args2 h; rfl) (fun L x hx => by
      simp at hx; rcases hx with rfl | rfl <;> exact .inl rfl) fun A L a cd hA ok => by
    have hu : A.units + 64 < cLine := by have := hA.2.2; omega
    refine sx_cons (m1 := [("names", .list (ns.map dS)), ("whole", dS wh)]) (own1 := []) (x1_for (src := some "names") (ds := ns.map dS) ok hA.1 (evi_listName ok rfl) (fun x hx => by cases hx; exact ⟨by decide, rfl⟩) ?_) (sx_ret (x1_ret (f := true) ev_bool (.inl rfl)))
    refine (?_ : ∀ ks : List (List Nat), (∀ k ∈ ks, k ∈ ns) → ForL w mg A (envF (dF 23) L a cd) _ _ [] (ks.map dS) [("names", .list (ns.map dS)), ("whole", dS wh)] (.next [("names", .list (ns.map dS)), ("whole", dS wh)] [])) ns (fun _ h => h)
    intro ks
    induction ks with
    | nil => intro _; exact ForL.nil
    | cons n ks ih =>
      intro hks
      obtain ⟨h1, h2, h3, h4, h5, h6⟩ := hr n (hks n (by simp))
      have hin : ∀ d ∈ ns.map dS, ∃ o, d = dS o ∧ o ∈ ns ∧ o.length ≤ 60 := fun d hd => by
        obtain ⟨o, ho, rfl⟩ := List.mem_map.mp hd; exact ⟨o, rfl, ho, (hr o ho).len⟩
      have okb : ∀ x ∈ belowOf ns n, OkL x := fun x hx => (hr x (List.mem_filter.mp hx).1).ok
      have oka : ∀ x ∈ aboveL n, OkL x := by rw [← h3]; exact okL_parF (by simp [OkL]) h2
      refine ForL.next (bd_name ok (.inr ⟨rfl, rfl⟩) ?_) (ih fun q hq => hks q (List.mem_cons_of_mem _ hq))
      refine sx_weak (m1 := [("below", .list ((belowOf ns n).map dS)), ("name", dS n), ("names", .list (ns.map dS)), ("whole", dS wh)]) (own1 := []) (sx_cons (x1_if (b := false) (Tr.eq (tr_cmp (ev_call ok (hA.le (by decide)) rfl in_parents (args_s (ev_name ok rfl) args_z) (fn_parents (by omega))) (ev_call ok (hA.le (by decide)) rfl in_labove (args_s (ev_name ok rfl) args_z) (fn_above (by omega))) (cmp_neD notD_list notD_list ?_ ?_ hu)) ?_) (fun q => by cases q) (fun _ => sx_nil)) ?_) (sb_cons rfl (sb_cons rfl sb_nil)) (fun _ h => h)
      · rw [h3]; exact shaped_listS oka
      · exact shaped_listS oka
      · rw [h3, eqv_self (shaped_listS oka)]; rfl
      · refine sx_cons (m1 := [("below", .list ((belowOf ns n).map dS)), ("name", dS n), ("names", .list (ns.map dS)), ("whole", dS wh)]) (own1 := []) (x1_weak (x1_assignComp (cl := [("name", L + 1)]) (mc := [("name", dS n)]) (tst := fun d => (aboveL (elL d)).contains n) (f := fun d => d) (fr := false) ok hA.1 (.inl rfl) ⟨rfl, by decide, rfl, by decide⟩ (cap_cons rfl rfl rfl rfl cap_nil) rfl rfl (evi_listName ok rfl) (fun C d hd => ?_) (fun C d hd _ => ?_) (fun d hd _ => ?_) ?_) (sb_cons ?_ (sb_cons rfl (sb_cons rfl (sb_cons rfl sb_nil)))) (fun _ h => h)) ?_
        · obtain ⟨o, rfl, ho, hl'⟩ := hin d hd
          exact trs_one (Tr.eq (tr_cmp (ev_name ⟨rfl, ok.g, ok.b⟩ rfl) (Ev.eq (ev_call ⟨rfl, ok.g, ok.b⟩ (hA.le (by decide)) rfl in_labove (args_s (ev_name ⟨rfl, ok.g, ok.b⟩ rfl) args_z) (fn_above (by omega))) (congrArg PyData.list (list_dS _))) cmp_inL) (T_any _ _))
        · obtain ⟨o, rfl, ho, hl'⟩ := hin d hd
          exact Ev.scalar (ev_name ⟨rfl, ok.g, ok.b⟩ rfl)
        · obtain ⟨o, rfl, ho, hl'⟩ := hin d hd
          exact flatS
        · rw [List.length_map, sizeLine_eq]; omega
        · rw [List.filter_map, List.map_map]; rfl
        · refine sx_cons (m1 := [("below", .list ((belowOf ns n).map dS)), ("name", dS n), ("names", .list (ns.map dS)), ("whole", dS wh)]) (own1 := []) (x1_if (b := false) (Tr.eq (tr_or2 (x := false) (y := false) (Tr.eq (tr_cmp (ev_call ok (hA.le (by decide)) rfl in_hasbelow (args_s (ev_name ok rfl) (args_s (ev_name ok rfl) args_z)) (fn_has_below (by omega))) (ev_cmp (ev_name ok rfl) (ev_list args_z (fun d hd => by cases hd) (by simp)) (cmp_neD notD_list notD_list (shaped_listS okb) rfl hu)) (cmp_neD notD_bool notD_bool (shaped_bool _) (shaped_bool _) hu)) ?_) fun _ => Tr.eq (tr_cmp (ev_comp1 (cl := [("name", L + 1)]) (mc := [("name", dS n)]) (tst := fun d => (n ++ [47]).isPrefixOf (elL d)) (f := fun d => d) (fr := false) ok hA.1 ⟨rfl, by decide, rfl, by decide⟩ (cap_cons rfl rfl rfl rfl cap_nil) rfl rfl (evi_listName ok rfl) (fun C d hd => ?_) (fun C d hd _ => ?_) (fun d hd _ => ?_) ?_) (ev_name ok rfl) (cmp_neD notD_list notD_list ?_ (shaped_listS okb) hu)) ?_) rfl) (fun q => by cases q) (fun _ => sx_nil)) ?_
          · rw [eqv_empty, h4]; cases (belowOf ns n).isEmpty <;> rfl
          · obtain ⟨o, rfl, ho, hl'⟩ := hin d hd
            exact trs_one (tr_of (fun _ _ => rfl) (ev_call ⟨rfl, ok.g, ok.b⟩ (hA.le (by decide)) rfl in_below (args_s (ev_name ⟨rfl, ok.g, ok.b⟩ rfl) (args_s (ev_name ⟨rfl, ok.g, ok.b⟩ rfl) args_z)) (fn_is_below (by omega))))
          · obtain ⟨o, rfl, ho, hl'⟩ := hin d hd
            exact Ev.scalar (ev_name ⟨rfl, ok.g, ok.b⟩ rfl)
          · obtain ⟨o, rfl, ho, hl'⟩ := hin d hd
            exact flatS
          · rw [List.length_map, sizeLine_eq]; omega
          · have e : ((ns.map dS).filter fun d => (n ++ [47]).isPrefixOf (elL d)).map (fun d => d) = (belowOf ns n).map dS := by rw [← h5, List.filter_map, List.map_map]; rfl
            rw [e]; exact shaped_listS okb
          · have e : ((ns.map dS).filter fun d => (n ++ [47]).isPrefixOf (elL d)).map (fun d => d) = (belowOf ns n).map dS := by rw [← h5, List.filter_map, List.map_map]; rfl
            rw [e, eqv_self (shaped_listS okb)]; rfl
          · refine sx_cons (x1_if (b := false) (Tr.eq (tr_cmp (ev_call ok (hA.le (by decide)) rfl in_listed (args_s (ev_name ok rfl) (args_s (ev_name ok rfl) args_z)) (fn_listed (by omega) (by omega))) (ev_call ok (hA.le (by decide)) rfl in_ltable (args_s (ev_name ok rfl) (args_s (ev_name ok rfl) args_z)) (fn_table (by omega) h1)) (cmp_neD notD_bool notD_bool (shaped_bool _) (shaped_bool _) hu)) ?_) (fun q => by cases q) (fun _ => sx_nil)) sx_nil
            rw [h6, eqv_self (shaped_bool _)]; rfl
end
end Mine

namespace Mine

def inboxL : List Nat := [105, 110, 98, 111, 120]
def firsts : List (List Nat) := [[97], [97, 98], [98], inboxL, INB, [73, 78, 98, 111, 120, 101, 115], [98, 97]]
def partsT : List (List Nat) := [[97], [98], [97, 98], [120]]
def rawF (c : Int) : List Nat := firsts.getD ((c.fdiv 7).fmod 7).toNat []
def firstOf (c : Int) : List Nat := if rawF c = inboxL ∨ rawF c = INB then INB else rawF c
def partAt (c : Int) (i : Nat) : List Nat := partsT.getD (((c.fdiv 49).fdiv (4 ^ i)).fmod 4).toNat []
def partsOf (c : Int) : List (List Nat) := (List.range (c.fmod 3).toNat).map (partAt c)
def nameOf (c : Int) : List Nat := joinC 47 (firstOf c :: partsOf c)

theorem fmod_lt {a b : Int} (hb : 0 < b) : 0 ≤ a.fmod b ∧ a.fmod b < b := ⟨Int.fmod_nonneg_of_pos a hb, Int.fmod_lt_of_pos a hb⟩
theorem get_of {xs : List (List Nat)} {k : Int} {n : Int} (h0 : 0 ≤ k) (h1 : k < n) (hn : (xs.length : Int) = n) : (xs.map dS)[k.toNat]? = some (dS (xs.getD k.toNat [])) := by
  have : k.toNat < xs.length := by omega
  rw [List.getElem?_map, List.getElem?_eq_getElem this]
  simp [List.getD, List.getElem?_eq_getElem this]

theorem lower_firsts : ∀ i : Fin 7, Txt.lower (T (firsts.getD i.1 [])) = T (([[97], [97, 98], [98], inboxL, inboxL, [105, 110, 98, 111, 120, 101, 115], [98, 97]] : List (List Nat)).getD i.1 []) := by decide +kernel
theorem lower_len : ∀ i : Fin 7, Builtin.Str.tooLong (Txt.lower (T (firsts.getD i.1 []))).length = false := by decide +kernel
theorem lower_is : ∀ i : Fin 7, ((([[97], [97, 98], [98], inboxL, inboxL, [105, 110, 98, 111, 120, 101, 115], [98, 97]] : List (List Nat)).getD i.1 []) == inboxL) = decide (firsts.getD i.1 [] = inboxL ∨ firsts.getD i.1 [] = INB) := by decide +kernel
theorem lit_firsts : ([.str (Str.ofString "a"), .str (Str.ofString "ab"), .str (Str.ofString "b"), .str (Str.ofString "inbox"), .str (Str.ofString "INBOX"), .str (Str.ofString "INboxes"), .str (Str.ofString "ba")] : List DD) = firsts.map dS := by
  have h : ([Str.ofString "a", Str.ofString "ab", Str.ofString "b", Str.ofString "inbox", Str.ofString "INBOX", Str.ofString "INboxes", Str.ofString "ba"] : List Str) = firsts.map T := by decide +kernel
  have := congrArg (List.map PyData.str) h
  rw [List.map_map] at this
  exact this
theorem lit_parts : ([.str (Str.ofString "a"), .str (Str.ofString "b"), .str (Str.ofString "ab"), .str (Str.ofString "x")] : List DD) = partsT.map dS := by
  have h : ([Str.ofString "a", Str.ofString "b", Str.ofString "ab", Str.ofString "x"] : List Str) = partsT.map T := by decide +kernel
  have := congrArg (List.map PyData.str) h
  rw [List.map_map] at this
  exact this
theorem lit_inboxL : Str.ofString "inbox" = T inboxL := by decide +kernel
theorem flats_str {xs : List Str} : Flats (xs.map PyData.str) := fun d hd => by
  obtain ⟨x, _, rfl⟩ := List.mem_map.mp hd; exact flatS
theorem flats_dS {xs : List (List Nat)} : Flats (xs.map dS) := fun d hd => by
  obtain ⟨x, _, rfl⟩ := List.mem_map.mp hd; exact flatS
theorem firsts_len : ∀ i : Fin 7, (firsts.getD i.1 []).length ≤ 7 := by decide +kernel
theorem partsT_len : ∀ i : Fin 4, (partsT.getD i.1 []).length ≤ 2 := by decide +kernel
theorem firstOf_len (c : Int) : (firstOf c).length ≤ 7 := by
  unfold firstOf
  split
  · decide
  · obtain ⟨h0, h1⟩ := fmod_lt (a := c.fdiv 7) (b := 7) (by decide)
    exact firsts_len ⟨((c.fdiv 7).fmod 7).toNat, by omega⟩
theorem partAt_len (c : Int) (i : Nat) : (partAt c i).length ≤ 2 := by
  obtain ⟨h0, h1⟩ := fmod_lt (a := (c.fdiv 49).fdiv (4 ^ i)) (b := 4) (by decide)
  exact partsT_len ⟨(((c.fdiv 49).fdiv (4 ^ i)).fmod 4).toNat, by omega⟩

section
variable {w : World} {mg : Str → Option Value}

theorem fn_name {c : Int} : Fn w mg 1 "_law_name" [.int c] (dS (nameOf c)) :=
  fn_of (d := dF 19) (ps := ["cell"]) (by rw [recs_eq]; simp) rfl (by decide) (fun pm cd doc vs h => by obtain ⟨v, rfl⟩ := args1 h; rfl) (fun L x hx => by
      simp at hx; rcases hx with rfl; exact .inr ⟨rfl, rfl⟩) fun A L a cd hA ok => by
    obtain ⟨h0, h1⟩ := fmod_lt (a := c.fdiv 7) (b := 7) (by decide)
    obtain ⟨m0, m1⟩ := fmod_lt (a := c) (b := 3) (by decide)
    refine sx_cons (m1 := [("first", dS (rawF c)), ("cell", .int c)]) (own1 := []) (x1_assign ok (.inl rfl) (ev_itemL (ds := firsts.map dS) (k := (c.fdiv 7).fmod 7) (Ev.eq (ev_list (args_s ev_str (args_s ev_str (args_s ev_str (args_s ev_str (args_s ev_str (args_s ev_str (args_s ev_str args_z))))))) ?_ ?_) (congrArg PyData.list lit_firsts)) (ev_mod (ev_div (ev_name ok rfl) ev_int (by decide) (by decide)) ev_int (by decide)) h0 (get_of h0 h1 rfl) ?_) (.inr flatS)) ?_
    · rw [lit_firsts]; exact flats_dS
    · simp [sizeLine_eq]
    · simp [firsts]
    have hi := lower_firsts ⟨((c.fdiv 7).fmod 7).toNat, by omega⟩
    have hi2 := lower_is ⟨((c.fdiv 7).fmod 7).toNat, by omega⟩
    have hi3 := lower_len ⟨((c.fdiv 7).fmod 7).toNat, by omega⟩
    refine sx_cons (m1 := [("first", dS (firstOf c)), ("cell", .int c)]) (own1 := []) (x1_if (b := decide (rawF c = inboxL ∨ rawF c = INB)) (Tr.eq (tr_cmp (ev_meth0 F.slot_str_lower F.type_str_lower (ev_name ok rfl) (bf_lower hi3)) ev_str cmp_eqS) ?_) (fun h => ?_) (fun h => ?_)) ?_
    · rw [show rawF c = firsts.getD ((c.fdiv 7).fmod 7).toNat [] from rfl, ← hi2, ← T_beq, ← hi, lit_inboxL]
    · unfold firstOf
      rw [if_pos (of_decide_eq_true h)]
      exact sx_weak (sx_cons (x1_assign ok (.inl rfl) ev_str (.inl rfl)) sx_nil) (sb_cons (by rw [lit_inbox]; rfl) (sb_cons rfl sb_nil)) (by simp)
    · unfold firstOf
      rw [if_neg (of_decide_eq_false h)]
      exact sx_nil
    have hp : ∀ i : Nat, i < (c.fmod 3).toNat → i ≤ 2 := fun i hi => by omega
    have e4 : ((firstOf c :: partsOf c).map T).map PyData.str = [dS (firstOf c)] ++ (partsOf c).map dS := by rw [List.map_cons, List.map_cons, ← list_dS]; rfl
    refine sx_ret (x1_ret (f := true) (Ev.eq (ev_meth (ds := [.list (((firstOf c :: partsOf c).map T).map .str)]) F.slot_str_join F.type_str_join ev_str (args_s (Ev.eq (ev_addL (b := (partsOf c).map dS) (ev_list (args_s (ev_name ok rfl) args_z) ?_ ?_) (Ev.eq (ev_comp1 (cl := [("cell", L + 1)]) (mc := [("cell", .int c)]) (tst := fun _ => true) (f := fun d => dS (partAt c (elI d).toNat)) (fr := false) (ds := rangeD 0 (c.fmod 3))
      ok hA.1 ⟨rfl, by decide, rfl, by decide⟩ (cap_cons rfl rfl rfl rfl cap_nil) rfl rfl (evi_range1 ok rfl (ev_mod (ev_name ok rfl) ev_int (by decide)) (by omega) (by omega)) (fun C d hd => trs_nil) (fun C d hd _ => ?_) (fun d hd _ => flatS) ?_) ?_) ?_) (congrArg PyData.list e4.symm)) args_z) (bf_join ?_)) ?_) (.inl rfl))
    · intro d hd; simp at hd; subst hd; exact flatS
    · simp [sizeLine_eq]
    · obtain ⟨i, hi, rfl⟩ : ∃ i : Nat, i < (c.fmod 3).toNat ∧ d = .int (0 + i) := by
        unfold rangeD at hd
        obtain ⟨i, hi, rfl⟩ := List.mem_map.mp hd
        exact ⟨i, by simpa using hi, rfl⟩
      have hi' := hp i hi
      have ei : (elI (.int (0 + (i : Int)))).toNat = i := by show (0 + (i : Int)).toNat = i; omega
      obtain ⟨q0, q1⟩ := fmod_lt (a := (c.fdiv 49).fdiv (4 ^ i)) (b := 4) (by decide)
      have hp4 : (0 : Int) < 4 ^ i := Int.pow_pos (by decide)
      have hp5 : (4 : Int) ^ i < 100000 := by
        have : i = 0 ∨ i = 1 ∨ i = 2 := by omega
        rcases this with rfl | rfl | rfl <;> decide
      rw [ei]
      refine ev_itemL (ds := partsT.map dS) (k := ((c.fdiv 49).fdiv (4 ^ i)).fmod 4) (Ev.eq (ev_list (args_s ev_str (args_s ev_str (args_s ev_str (args_s ev_str args_z)))) ?_ ?_) (congrArg PyData.list lit_parts)) (ev_mod (ev_div (ev_div (ev_name ⟨rfl, ok.g, ok.b⟩ rfl) ev_int (by decide) (by decide)) (ev_pow ev_int (Ev.eq (ev_name ⟨rfl, ok.g, ok.b⟩ rfl) (by rw [Int.zero_add])) (.inl rfl) (by omega)) hp4 hp5) ev_int (by decide)) q0 (get_of q0 q1 rfl) ?_
      · rw [lit_parts]; exact flats_dS
      · simp [sizeLine_eq]
      · simp [partsT]
    · unfold rangeD; rw [List.length_map, List.length_range, sizeLine_eq]; omega
    · rw [List.filter_eq_self.mpr (fun _ _ => rfl), rangeD_map]
      unfold partsOf
      rw [List.map_map, show (c.fmod 3 - 0).toNat = (c.fmod 3).toNat by simp]
      congr 1
      refine List.map_congr_left fun i _ => ?_
      show dS (partAt c (0 + (i : Int)).toNat) = dS (partAt c i)
      rw [show (0 + (i : Int)).toNat = i by omega]
    · simp [partsOf, sizeLine_eq]; omega
    · have h1 : ((firstOf c :: partsOf c).map T).length ≤ 3 := by simp [partsOf]; omega
      have h2 : ∀ xs : List (List Nat), (∀ x ∈ xs, x.length ≤ 7) → (((xs.map T).map (·.length)).sum) ≤ 7 * xs.length := by
        intro xs
        induction xs with
        | nil => intro _; simp
        | cons x r ih =>
          intro h
          have := ih fun y hy => h y (List.mem_cons_of_mem _ hy)
          have := h x (by simp)
          rw [List.map_cons, List.map_cons, List.sum_cons, T_len, List.length_cons]; omega
      have h3 := h2 (firstOf c :: partsOf c) fun x hx => by
        rcases List.mem_cons.mp hx with rfl | hx
        · exact firstOf_len c
        · obtain ⟨i, _, rfl⟩ := List.mem_map.mp hx
          have := partAt_len c i; omega
      rw [List.length_map] at h1
      rw [len_slash, List.length_map]; omega
    · rw [lit_slash, tjoin_T]; rfl
end
end Mine

namespace Mine

/-! the names above -/
theorem joinC_consh (c x : Nat) (h : List Nat) (r : List (List Nat)) : joinC c ((x :: h) :: r) = x :: joinC c (h :: r) := by
  cases r with
  | nil => rw [joinC_one, joinC_one]
  | cons b r => rw [joinC_cons2, joinC_cons2]; rfl
theorem above_gen : ∀ (r pre : List Nat), parF pre r = (List.range ((splitC 47 r).length - 1)).map fun i => pre ++ joinC 47 ((splitC 47 r).take (i + 1))
  | [], pre => by simp [parF, splitC]
  | c :: r, pre => by
    have ih := above_gen r (pre ++ [c])
    have hne := splitC_ne 47 r
    rw [parF]
    by_cases hc : c = 47
    · subst hc
      have e : splitC 47 (47 :: r) = [] :: splitC 47 r := by rw [splitC, if_pos rfl]
      rw [if_pos rfl, e, ih]
      cases hs : splitC 47 r with
      | nil => exact absurd hs hne
      | cons a t =>
        rw [List.length_cons, List.length_cons]
        show _ = (List.range (t.length + 1)).map _
        rw [List.range_succ_eq_map, List.map_cons, List.map_map]
        congr 1
        · rw [List.take_succ_cons, List.take_zero, joinC_one, List.append_nil]
        · refine List.map_congr_left fun i _ => ?_
          show (pre ++ [47]) ++ joinC 47 ((a :: t).take (i + 1)) = pre ++ joinC 47 (([] :: a :: t).take (i + 1 + 1))
          rw [List.take_succ_cons, List.take_succ_cons, List.take_succ_cons, joinC_cons2]
          simp
    · rw [if_neg hc, ih]
      have e : ∀ a t, splitC 47 r = a :: t → splitC 47 (c :: r) = (c :: a) :: t := fun a t q => by rw [splitC, if_neg hc, q]
      cases hs : splitC 47 r with
      | nil => exact absurd hs hne
      | cons a t =>
        rw [e a t hs]
        refine List.map_congr_left fun i _ => ?_
        rw [List.take_succ_cons, List.take_succ_cons, joinC_consh]
        simp
theorem par_above (n : List Nat) : parF [] n = aboveL n := by rw [above_gen]; rfl

theorem mem_parF : ∀ {r pre x : List Nat}, x ∈ parF pre r ↔ ∃ p s, r = p ++ 47 :: s ∧ x = pre ++ p
  | [], pre, x => by simp [parF]
  | c :: r, pre, x => by
    rw [parF]
    have ih := @mem_parF r (pre ++ [c]) x
    constructor
    · intro h
      split at h
      · rename_i hc
        rcases List.mem_cons.mp h with rfl | h
        · exact ⟨[], r, by rw [hc]; rfl, by simp⟩
        · obtain ⟨p, s, h1, h2⟩ := ih.mp h
          exact ⟨c :: p, s, by rw [h1]; rfl, by rw [h2]; simp⟩
      · obtain ⟨p, s, h1, h2⟩ := ih.mp h
        exact ⟨c :: p, s, by rw [h1]; rfl, by rw [h2]; simp⟩
    · rintro ⟨p, s, h1, h2⟩
      cases p with
      | nil =>
        simp at h1 h2
        rw [if_pos h1.1, h2]; simp
      | cons d p =>
        simp at h1
        obtain ⟨rfl, h1⟩ := h1
        have : x ∈ parF (pre ++ [c]) r := ih.mpr ⟨p, s, h1, by rw [h2]; simp⟩
        split
        · exact List.mem_cons_of_mem _ this
        · exact this
theorem below_is (n k : List Nat) : (n ++ [47]).isPrefixOf k = (aboveL k).contains n := by
  rw [Bool.eq_iff_iff, List.isPrefixOf_iff_prefix, List.contains_iff_mem, ← par_above, mem_parF]
  constructor
  · rintro ⟨t, rfl⟩
    exact ⟨n, t, by simp, rfl⟩
  · rintro ⟨p, s, rfl, h⟩
    simp at h; subst h
    exact ⟨s, by simp⟩
theorem below_eq (ns : List (List Nat)) (n : List Nat) : (ns.filter fun o => (n ++ [47]).isPrefixOf o) = belowOf ns n := by
  unfold belowOf; congr 1; funext o; exact below_is n o
theorem has_eq (ns : List (List Nat)) (n : List Nat) : (ns.any fun k => (n ++ [47]).isPrefixOf k) = !(belowOf ns n).isEmpty := by
  rw [← below_eq]
  induction ns with
  | nil => rfl
  | cons k r ih =>
    rw [List.any_cons, List.filter_cons, ih]
    cases (n ++ [47]).isPrefixOf k <;> simp

/-! the two walks along a pattern: one relation -/
def eats (w c : Nat) : Bool := w == 42 || (w == 37 && c != 47)
inductive Rc (pat n : List Nat) (most : Nat) : Nat → Nat → Prop
  | zero : Rc pat n most 0 0
  | skip {i j w : Nat} : Rc pat n most i j → pat[i]? = some w → wild w = true → Rc pat n most (i + 1) j
  | eat {i j w c : Nat} : Rc pat n most i j → pat[i]? = some w → n[j]? = some c → eats w c = true → Rc pat n most i (j + 1)
  | both {i j w c : Nat} : Rc pat n most i j → pat[i]? = some w → n[j]? = some c → wild w = false → metB w c (decide (j < most)) = true → Rc pat n most (i + 1) (j + 1)

theorem run_mem : ∀ {r : List Nat} {p x : Nat}, x ∈ run r p ↔ p ≤ x ∧ ∀ k, k < x - p → ∃ w, r[k]? = some w ∧ wild w = true
  | [], p, x => by
    rw [run, List.mem_singleton]
    constructor
    · rintro rfl; exact ⟨Nat.le_refl _, fun k hk => by omega⟩
    · rintro ⟨h1, h2⟩
      by_cases h : x = p
      · exact h
      · obtain ⟨w, hw, _⟩ := h2 0 (by omega); simp at hw
  | c :: r, p, x => by
    rw [run]
    have ih := @run_mem r (p + 1) x
    by_cases hw : wild c = true
    · rw [if_pos hw, List.mem_cons, ih]
      constructor
      · rintro (rfl | ⟨h1, h2⟩)
        · exact ⟨Nat.le_refl _, fun k hk => by omega⟩
        · refine ⟨by omega, fun k hk => ?_⟩
          cases k with
          | zero => exact ⟨c, rfl, hw⟩
          | succ k => exact h2 k (by omega)
      · rintro ⟨h1, h2⟩
        by_cases h : x = p
        · exact .inl h
        · exact .inr ⟨by omega, fun k hk => h2 (k + 1) (by omega)⟩
    · rw [if_neg hw, List.mem_singleton]
      constructor
      · rintro rfl; exact ⟨Nat.le_refl _, fun k hk => by omega⟩
      · rintro ⟨h1, h2⟩
        by_cases h : x = p
        · exact h
        · obtain ⟨w, hw', hw''⟩ := h2 0 (by omega)
          simp at hw'; subst hw'; exact absurd hw'' hw
/-- from place h the open run reaches x -/
def Runs (pat : List Nat) (h x : Nat) : Prop := h ≤ x ∧ ∀ k, h ≤ k → k < x → ∃ w, pat[k]? = some w ∧ wild w = true
theorem runs_iff {pat : List Nat} {h x : Nat} : x ∈ run (pat.drop h) h ↔ Runs pat h x := by
  rw [run_mem]
  constructor
  · rintro ⟨h1, h2⟩
    refine ⟨h1, fun k hk hx => ?_⟩
    obtain ⟨w, a, b⟩ := h2 (k - h) (by omega)
    rw [List.getElem?_drop, show h + (k - h) = k by omega] at a
    exact ⟨w, a, b⟩
  · rintro ⟨h1, h2⟩
    refine ⟨h1, fun k hk => ?_⟩
    rw [List.getElem?_drop]
    exact h2 (h + k) (by omega) (by omega)
theorem runs_self {pat : List Nat} {h : Nat} : Runs pat h h := ⟨Nat.le_refl _, fun k a b => by omega⟩

/-- what opened gives, heads ascending -/
theorem opened_mem {pat : List Nat} : ∀ (hs done : List Nat) (ps : List Nat), (done ++ hs).Pairwise (· ≤ ·) → Asc ps pat.length → (∀ x, x ∈ ps ↔ ∃ h ∈ done, Runs pat h x) → (∀ h ∈ hs, h ≤ pat.length) →
    ∀ x, x ∈ hs.foldl (openS pat) ps ↔ ∃ h ∈ done ++ hs, Runs pat h x
  | [], done, ps, _, _, hp, _, x => by rw [List.append_nil]; exact hp x
  | h :: hs, done, ps, hd, ha, hp, hl, x => by
    rw [List.foldl_cons]
    have hh := hl h (by simp)
    have e : done ++ h :: hs = (done ++ [h]) ++ hs := by simp
    have hle : ∀ g ∈ done, g ≤ h := fun g hg => (List.pairwise_append.mp hd).2.2 g hg h (by simp)
    rw [e] at hd ⊢
    refine opened_mem hs (done ++ [h]) (openS pat ps h) hd (asc_openS ha hh) (fun y => ?_) (fun g hg => hl g (List.mem_cons_of_mem _ hg)) x
    have key : (∃ g ∈ done ++ [h], Runs pat g y) ↔ (∃ g ∈ done, Runs pat g y) ∨ Runs pat h y := by
      constructor
      · rintro ⟨g, hg, r⟩
        rcases List.mem_append.mp hg with hg | hg
        · exact .inl ⟨g, hg, r⟩
        · rw [List.mem_singleton.mp hg] at r; exact .inr r
      · rintro (⟨g, hg, r⟩ | r)
        · exact ⟨g, List.mem_append_left _ hg, r⟩
        · exact ⟨h, by simp, r⟩
    rw [key]
    unfold openS
    by_cases hc : ps.getLast?.all (· < h) = true
    · rw [if_pos hc, List.mem_append, hp, runs_iff]
    · rw [if_neg hc, hp]
      refine ⟨.inl, fun q => q.elim id fun r => ?_⟩
      cases hlast : ps.getLast? with
      | none => rw [hlast] at hc; exact absurd rfl hc
      | some q =>
        rw [hlast] at hc
        have hq : h ≤ q := by simpa using hc
        have hqm : q ∈ ps := List.mem_of_getLast? hlast
        obtain ⟨g, hg, rg⟩ := (hp q).mp hqm
        have hgh := hle g hg
        refine ⟨g, hg, by have := r.1; omega, fun k hk hy => ?_⟩
        by_cases hkh : k < h
        · exact rg.2 k hk (by omega)
        · exact r.2 k (by omega) hy
theorem openL_mem {pat hs : List Nat} (hd : hs.Pairwise (· ≤ ·)) (hl : ∀ h ∈ hs, h ≤ pat.length) (x : Nat) : x ∈ openL pat hs ↔ ∃ h ∈ hs, Runs pat h x := by
  have := opened_mem hs [] [] (by simpa using hd) ⟨.nil, by simp⟩ (fun x => by simp) hl x
  simpa [openL] using this

theorem headOf_at {pat : List Nat} {c : Nat} {b : Bool} {p h : Nat} (hh : h ∈ headOf pat c b p) : p ≤ h ∧ h ≤ p + 1 := by
  unfold headOf at hh
  split at hh
  · cases hh
  · split at hh
    · simp at hh; omega
    · split at hh
      · simp at hh; omega
      · cases hh
theorem heads_asc {pat : List Nat} {c : Nat} {b : Bool} : ∀ {ps : List Nat}, ps.Pairwise (· < ·) → (ps.flatMap (headOf pat c b)).Pairwise (· ≤ ·)
  | [], _ => by simp
  | p :: ps, h => by
    obtain ⟨h1, h2⟩ := List.pairwise_cons.mp h
    rw [List.flatMap_cons]
    refine List.pairwise_append.mpr ⟨?_, heads_asc h2, fun x hx y hy => ?_⟩
    · have := headOf_len pat c b p
      match headOf pat c b p, this with
      | [], _ => exact .nil
      | [x], _ => exact List.pairwise_singleton ..
    · obtain ⟨q, hq, hy⟩ := List.mem_flatMap.mp hy
      have := h1 q hq
      have := headOf_at hx; have := headOf_at hy
      omega
theorem mem_headOf {pat : List Nat} {c : Nat} {b : Bool} {p h : Nat} : h ∈ headOf pat c b p ↔ ∃ w, pat[p]? = some w ∧ ((eats w c = true ∧ h = p) ∨ (wild w = false ∧ metB w c b = true ∧ h = p + 1)) := by
  unfold headOf eats wild
  cases hp : pat[p]? with
  | none => simp
  | some w =>
    simp only [Option.some.injEq, exists_eq_left']
    by_cases h1 : (w == 42 || (w == 37 && c != 47)) = true
    · rw [if_pos h1, List.mem_singleton]
      constructor
      · exact fun q => .inl ⟨h1, q⟩
      · rintro (⟨_, q⟩ | ⟨q, _⟩)
        · exact q
        · exfalso
          rw [Bool.or_eq_false_iff] at q
          rw [q.1, q.2] at h1; simp at h1
    · rw [if_neg h1]
      by_cases h37 : w = 37
      · subst h37
        simp
        intro q; exact absurd (by simpa using q) h1
      · have h42 : ¬ w = 42 := fun q => h1 (by simp [q])
        simp [h37, h42]

/-- the places are what the relation says -/
theorem places_mem {pat n : List Nat} {most : Nat} : ∀ {j : Nat}, j ≤ n.length → ∀ x, x ∈ placesL pat n most j ↔ Rc pat n most x j := by
  have runs_rc : ∀ {j h x : Nat}, Rc pat n most h j → Runs pat h x → Rc pat n most x j := by
    intro j h x hr r
    obtain ⟨k, rfl⟩ : ∃ k, x = h + k := ⟨x - h, by have := r.1; omega⟩
    induction k with
    | zero => exact hr
    | succ k ih =>
      obtain ⟨w, h1, h2⟩ := r.2 (h + k) (by omega) (by omega)
      exact .skip (ih ⟨by omega, fun i a b => r.2 i a (by omega)⟩) h1 h2
  have op : ∀ j, j ≤ n.length → ∃ hs : List Nat, placesL pat n most j = openL pat hs ∧ hs.Pairwise (· ≤ ·) ∧ (∀ h ∈ hs, h ≤ pat.length) := by
    intro j hj
    cases j with
    | zero => exact ⟨[0], rfl, by simp, by simp⟩
    | succ j =>
      refine ⟨_, placesL_succ .., heads_asc (asc_places pat n most j).1, fun h hh => ?_⟩
      obtain ⟨p, _, hp⟩ := List.mem_flatMap.mp hh
      exact headOf_le hp
  have fwd : ∀ j, j ≤ n.length → ∀ x, x ∈ placesL pat n most j → Rc pat n most x j := by
    intro j
    induction j with
    | zero =>
      intro _ x hx
      obtain ⟨h, hh, r⟩ := (openL_mem (by simp) (by simp) x).mp hx
      rw [List.mem_singleton] at hh; subst hh
      exact runs_rc .zero r
    | succ j ih =>
      intro hj x hx
      rw [placesL_succ] at hx
      unfold stepL at hx
      obtain ⟨h, hh, r⟩ := (openL_mem (heads_asc (asc_places pat n most j).1) (fun h hh => by
        obtain ⟨p, _, hp⟩ := List.mem_flatMap.mp hh
        exact headOf_le hp) x).mp hx
      obtain ⟨p, hp, hh⟩ := List.mem_flatMap.mp hh
      have hc : n[j]? = some (n.getD j 0) := by simp [List.getD, List.getElem?_eq_getElem (show j < n.length by omega)]
      have hpr := ih (by omega) p hp
      refine runs_rc ?_ r
      obtain ⟨w, hw, ⟨h1, rfl⟩ | ⟨h1, h2, rfl⟩⟩ := mem_headOf.mp hh
      · exact .eat hpr hw hc h1
      · exact .both hpr hw hc h1 h2
  have bwd : ∀ x j, Rc pat n most x j → j ≤ n.length → x ∈ placesL pat n most j := by
    intro x j h
    induction h with
    | zero => exact fun _ => (openL_mem (by simp) (by simp) 0).mpr ⟨0, by simp, runs_self⟩
    | @skip i j w hr hw hwild ih =>
      intro hj
      obtain ⟨hs, e, h1, h2⟩ := op j hj
      have := ih hj
      rw [e] at this ⊢
      obtain ⟨h, hh, r⟩ := (openL_mem h1 h2 i).mp this
      refine (openL_mem h1 h2 _).mpr ⟨h, hh, by have := r.1; omega, fun k a b => ?_⟩
      by_cases hk : k = i
      · subst hk; exact ⟨w, hw, hwild⟩
      · exact r.2 k a (by omega)
    | @eat i j w c hr hw hc he ih =>
      intro hj
      have hm := ih (by omega)
      rw [placesL_succ]
      unfold stepL
      have hc' : n.getD j 0 = c := by simp [List.getD, hc]
      refine (openL_mem (heads_asc (asc_places pat n most j).1) (fun h hh => by
        obtain ⟨p, _, hp⟩ := List.mem_flatMap.mp hh
        exact headOf_le hp) _).mpr ⟨i, List.mem_flatMap.mpr ⟨i, hm, ?_⟩, runs_self⟩
      rw [hc']
      exact mem_headOf.mpr ⟨w, hw, .inl ⟨he, rfl⟩⟩
    | @both i j w c hr hw hc h1 h2 ih =>
      intro hj
      have hm := ih (by omega)
      rw [placesL_succ]
      unfold stepL
      have hc' : n.getD j 0 = c := by simp [List.getD, hc]
      refine (openL_mem (heads_asc (asc_places pat n most j).1) (fun h hh => by
        obtain ⟨p, _, hp⟩ := List.mem_flatMap.mp hh
        exact headOf_le hp) _).mpr ⟨i + 1, List.mem_flatMap.mpr ⟨i, hm, ?_⟩, runs_self⟩
      rw [hc']
      exact mem_headOf.mpr ⟨w, hw, .inr ⟨h1, h2, rfl⟩⟩
  exact fun {j} hj x => ⟨fwd j hj x, fun h => bwd x j h hj⟩
theorem listed_rc {pat n : List Nat} : listedB pat n = true ↔ Rc pat n (mostN n) pat.length n.length := by
  rw [← places_mem (Nat.le_refl _)]
  unfold listedB
  have ha := asc_places pat n (mostN n) n.length
  rw [beq_iff_eq]
  constructor
  · exact fun h => List.mem_of_getLast? h
  · intro h
    cases hl : (placesL pat n (mostN n) n.length).getLast? with
    | none => rw [List.getLast?_eq_none_iff] at hl; rw [hl] at h; cases h
    | some q =>
      have h1 := asc_last ha hl _ h
      have h2 := ha.2 q (List.mem_of_getLast? hl)
      rw [show q = pat.length by omega]

/-! the law's own table -/
theorem met_same {n : List Nat} {w j c : Nat} (hj : n[j]? = some c) : metB w c (decide (j < mostN n)) = meetsB w c (decide (j < mostN n)) := by
  unfold metB meetsB
  by_cases h : j < mostN n
  · rw [decide_eq_true h, if_pos rfl, Bool.true_and]
    have hI : hd n = INB := by
      unfold mostN at h
      by_cases q : hd n = INB
      · exact q
      · rw [if_neg q] at h; omega
    have h5 : j < 5 := by unfold mostN at h; rw [if_pos hI] at h; exact h
    have hc : INB[j]? = some c := by
      rw [← hI, ← hj]
      unfold hd at hI ⊢
      rw [List.getElem?_take_of_lt]
      have := congrArg List.length hI
      rw [List.length_take] at this
      simp [INB] at this; omega
    have hc' : c = 73 ∨ c = 78 ∨ c = 66 ∨ c = 79 ∨ c = 88 := by
      have : c ∈ INB := List.mem_of_getElem? hc
      simpa [INB] using this
    unfold up
    by_cases hw : 97 ≤ w ∧ w ≤ 122
    · rw [if_pos hw, decide_eq_true hw.1, decide_eq_true hw.2]
      have : (w == c) = false := beq_eq_false_iff_ne.mpr (by omega)
      rw [this]; rfl
    · rw [if_neg hw]
      have : (decide (97 ≤ w) && decide (w ≤ 122)) = false := by
        rw [← Bool.not_eq_true]; simpa using hw
      rw [this]; simp
  · rw [decide_eq_false h, if_neg (by decide)]; simp

/-- from a the sign w eats on to j -/
def Eats (n : List Nat) (w : Option Nat) (a j : Nat) : Prop := a ≤ j ∧ ∀ k, a ≤ k → k < j → ∃ v c, w = some v ∧ n[k]? = some c ∧ eats v c = true
theorem takeWhile_len {p : Nat → Bool} : ∀ {l : List Nat} {k : Nat}, k ≤ (l.takeWhile p).length ↔ ∀ i, i < k → ∃ c, l[i]? = some c ∧ p c = true
  | [], k => by
    rw [List.takeWhile_nil, List.length_nil]
    constructor
    · intro h i hi; omega
    · intro h
      cases k with
      | zero => exact Nat.le_refl _
      | succ k =>
        obtain ⟨c, hc, _⟩ := h 0 (by omega)
        simp at hc
  | c :: l, k => by
    by_cases hp : p c = true
    · rw [List.takeWhile_cons_of_pos hp, List.length_cons]
      cases k with
      | zero => simp
      | succ k =>
        rw [Nat.succ_le_succ_iff, takeWhile_len]
        constructor
        · intro h i hi
          cases i with
          | zero => exact ⟨c, rfl, hp⟩
          | succ i => exact h i (by omega)
        · intro h i hi
          exact h (i + 1) (by omega)
    · rw [List.takeWhile_cons_of_neg hp, List.length_nil]
      constructor
      · intro h i hi; omega
      · intro h
        cases k with
        | zero => exact Nat.le_refl _
        | succ k =>
          obtain ⟨d, hd, hpd⟩ := h 0 (by omega)
          simp at hd; subst hd; exact absurd hpd hp
theorem mem_goT_wild {w : Nat} {n : List Nat} {most a j : Nat} (hw : wild w = true) : j ∈ goT w n most a ↔ Eats n (some w) a j := by
  unfold goT
  have hw' : (w == 42 || w == 37) = true := by unfold wild at hw; rw [Bool.or_comm]; exact hw
  rw [if_pos hw', List.mem_range'_1]
  have e : ∀ c, (w == 42 || c != 47) = eats w c := fun c => by
    unfold eats
    by_cases h : w = 42
    · subst h; simp
    · have h37 : w = 37 := by simpa [h] using hw'
      subst h37; simp
  simp only [e]
  have key := @takeWhile_len (fun c => eats w c) (n.drop a) (j - a)
  unfold Eats
  constructor
  · rintro ⟨h1, h2⟩
    refine ⟨h1, fun k hk hj => ?_⟩
    obtain ⟨c, hc, hp⟩ := (key.mp (by omega)) (k - a) (by omega)
    rw [List.getElem?_drop, show a + (k - a) = k by omega] at hc
    exact ⟨w, c, rfl, hc, hp⟩
  · rintro ⟨h1, h2⟩
    refine ⟨h1, ?_⟩
    have := key.mpr fun i hi => by
      obtain ⟨v, c, hv, hc, hp⟩ := h2 (a + i) (by omega) (by omega)
      cases hv
      exact ⟨c, by rw [List.getElem?_drop]; exact hc, hp⟩
    omega
theorem mem_goT_not {w : Nat} {n : List Nat} {most a j : Nat} (hw : wild w = false) : j ∈ goT w n most a ↔ ∃ c, n[a]? = some c ∧ meetsB w c (decide (a < most)) = true ∧ j = a + 1 := by
  unfold goT
  have hw' : (w == 42 || w == 37) = false := by unfold wild at hw; rw [Bool.or_comm]; exact hw
  rw [hw', if_neg (by decide)]
  cases n[a]? with
  | none => simp
  | some c =>
    simp only [Option.some.injEq, exists_eq_left']
    split
    · rename_i h; simp [h]
    · rename_i h; simp [h]

theorem rows_take {n : List Nat} {most : Nat} {pat ps : List Nat} {i : Nat} (h : i < pat.length) : rowsT n most (pat.take (i + 1)) ps = rowT pat[i] n most (rowsT n most (pat.take i) ps) := by
  unfold rowsT
  rw [List.take_succ_eq_append_getElem h, List.foldl_append]; rfl
theorem mem_rowT {w : Nat} {n : List Nat} {most : Nat} {ps : List Nat} (hps : ∀ p ∈ ps, p ≤ n.length) {j : Nat} : j ∈ rowT w n most ps ↔ ∃ p ∈ ps, j ∈ goT w n most p := by
  unfold rowT
  rw [List.mem_filter, List.contains_iff_mem, List.mem_flatMap, List.mem_range]
  constructor
  · exact fun h => h.2
  · rintro ⟨p, hp, hj⟩
    have := goT_le (hps p hp) hj
    exact ⟨by omega, p, hp, hj⟩
theorem rows_le {n : List Nat} {most : Nat} {pat : List Nat} : ∀ {i : Nat}, i ≤ pat.length → ∀ p ∈ rowsT n most (pat.take i) [0], p ≤ n.length
  | 0, _, p, h => by simp [rowsT] at h; omega
  | i + 1, hi, p, h => by
    rw [rows_take (show i < pat.length by omega)] at h
    exact rowT_le h
theorem rows_rc {pat n : List Nat} : ∀ {i : Nat}, i ≤ pat.length → ∀ j, Rc pat n (mostN n) i j ↔ ∃ a ∈ rowsT n (mostN n) (pat.take i) [0], Eats n pat[i]? a j := by
  have eat_rc : ∀ {i a j : Nat}, Rc pat n (mostN n) i a → Eats n pat[i]? a j → Rc pat n (mostN n) i j := by
    intro i a j hr e
    obtain ⟨k, rfl⟩ : ∃ k, j = a + k := ⟨j - a, by have := e.1; omega⟩
    induction k with
    | zero => exact hr
    | succ k ih =>
      obtain ⟨v, c, h1, h2, h3⟩ := e.2 (a + k) (by omega) (by omega)
      exact .eat (ih ⟨by omega, fun i p q => e.2 i p (by omega)⟩) h1 h2 h3
  have fresh : ∀ i, i ≤ pat.length → ∀ a ∈ rowsT n (mostN n) (pat.take i) [0], Rc pat n (mostN n) i a := by
    intro i
    induction i with
    | zero => intro _ a h; simp [rowsT] at h; subst h; exact .zero
    | succ i ih =>
      intro hi a h
      have hlt : i < pat.length := by omega
      rw [rows_take hlt] at h
      obtain ⟨p, hp, hg⟩ := (mem_rowT (rows_le (by omega))).mp h
      have hr := ih (by omega) p hp
      have hw := List.getElem?_eq_getElem hlt
      cases hwild : wild pat[i] with
      | true =>
        rw [mem_goT_wild hwild, ← hw] at hg
        exact .skip (eat_rc hr hg) hw hwild
      | false =>
        obtain ⟨c, hc, hm, rfl⟩ := (mem_goT_not hwild).mp hg
        exact .both hr hw hc hwild (by rw [met_same hc]; exact hm)
  have self : ∀ i a : Nat, Eats n pat[i]? a a := fun i a => ⟨Nat.le_refl _, fun k h1 h2 => by omega⟩
  have bwd : ∀ i j, Rc pat n (mostN n) i j → i ≤ pat.length → ∃ a ∈ rowsT n (mostN n) (pat.take i) [0], Eats n pat[i]? a j := by
    intro i j h
    induction h with
    | zero => exact fun _ => ⟨0, by simp [rowsT], self 0 0⟩
    | @skip i j w hr hw hwild ih =>
      intro hi
      have hlt : i < pat.length := by omega
      obtain ⟨a, ha, e⟩ := ih (by omega)
      have hwi : pat[i] = w := by rw [List.getElem?_eq_getElem hlt] at hw; exact Option.some.inj hw
      refine ⟨j, ?_, self _ _⟩
      rw [rows_take hlt, mem_rowT (rows_le (by omega))]
      exact ⟨a, ha, by rw [hwi, mem_goT_wild hwild, ← hw]; exact e⟩
    | @eat i j w c hr hw hc he ih =>
      intro hi
      obtain ⟨a, ha, e⟩ := ih hi
      refine ⟨a, ha, by have := e.1; omega, fun k h1 h2 => ?_⟩
      by_cases hk : k = j
      · subst hk; exact ⟨w, c, hw, hc, he⟩
      · exact e.2 k h1 (by omega)
    | @both i j w c hr hw hc h1 h2 ih =>
      intro hi
      have hlt : i < pat.length := by omega
      obtain ⟨a, ha, e⟩ := ih (by omega)
      have hwi : pat[i] = w := by rw [List.getElem?_eq_getElem hlt] at hw; exact Option.some.inj hw
      have haj : a = j := by
        by_cases q : a = j
        · exact q
        · obtain ⟨v, d, g1, g2, g3⟩ := e.2 a (Nat.le_refl _) (by have := e.1; omega)
          rw [hw] at g1; cases g1
          unfold eats at g3; unfold wild at h1
          rw [Bool.or_eq_false_iff] at h1
          rw [h1.1, h1.2] at g3; simp at g3
      subst haj
      refine ⟨a + 1, ?_, self _ _⟩
      rw [rows_take hlt, mem_rowT (rows_le (by omega))]
      exact ⟨a, ha, by rw [hwi, mem_goT_not h1]; exact ⟨c, hc, by rw [← met_same hc]; exact h2, rfl⟩⟩
  exact fun {i} hi j => ⟨fun h => bwd i j h hi, fun ⟨a, ha, e⟩ => eat_rc (fresh i hi a ha) e⟩
theorem table_rc {pat n : List Nat} : tableB pat n = true ↔ Rc pat n (mostN n) pat.length n.length := by
  rw [rows_rc (Nat.le_refl _)]
  unfold tableB
  rw [List.contains_iff_mem, List.take_length, List.getElem?_eq_none (Nat.le_refl _)]
  constructor
  · exact fun h => ⟨n.length, h, Nat.le_refl _, fun k h1 h2 => by omega⟩
  · rintro ⟨a, ha, h1, h2⟩
    by_cases q : a = n.length
    · rw [← q]; exact ha
    · obtain ⟨v, c, g, _⟩ := h2 a (Nat.le_refl _) (by omega); cases g
/-- the two walks agree -/
theorem listed_table (pat n : List Nat) : listedB pat n = tableB pat n := by rw [Bool.eq_iff_iff, listed_rc, table_rc]
end Mine

namespace Mine

def refsT : List (List Nat) := [[], [97, 47], [73, 78, 66, 79, 88, 47], [97], [], [105, 110, 98, 111, 120, 47], [], [98]]
def menuT : List (List Nat) := [[37], [42], [47], [97], [98], INB, inboxL, [105, 78, 98], [37], [47, 37]]
def inBoxL : List Nat := [105, 110, 66, 111, 120]
def cellsOf (xs : List Int) : List Int := if 2 < xs.length then (xs.drop 2).take 4 else [38, 0, 88, 154]
def keysOf (ks : List (List Nat)) : List (List Nat) := (putAll true [] ks).map (·.1)
def namesOf (cs : List Int) : List (List Nat) := srt (keysOf (cs.map nameOf))
def headI (xs : List Int) : Int := xs.headD 55
def refOf (h : Int) : List Nat := refsT.getD (h.fmod 8).toNat []
def manyOf (xs : List Int) (h : Int) : Int := (xs.drop 1).headD (h.fdiv 8)
def pieceAt (m : Int) (i : Nat) : List Nat := menuT.getD (((m.fdiv 5).fdiv (10 ^ i)).fmod 10).toNat []
def piecesOf (m : Int) : List (List Nat) := (List.range (m.fmod 5).toNat).map (pieceAt m)
def patOf (m : Int) : List Nat := (piecesOf m).flatten
def thereOf (ns : List (List Nat)) (wh : List Nat) : List (List Nat) := ns ++ (if wh.getLast? == some 37 then ns.flatMap aboveL else [])
def dueOf (ns : List (List Nat)) (wh p : List Nat) : List (List Nat) := if p = [] then [] else (srt (keysOf (thereOf ns wh))).filter (tableB wh)

/-! sizes, signs -/
theorem cells_len (xs : List Int) : (cellsOf xs).length ≤ 4 ∧ cellsOf xs ≠ [] := by
  unfold cellsOf
  split
  · rename_i h
    refine ⟨by rw [List.length_take]; omega, fun q => ?_⟩
    have := congrArg List.length q
    rw [List.length_take, List.length_drop, List.length_nil] at this; omega
  · exact ⟨by decide, by decide⟩
theorem keys_len (ks : List (List Nat)) : (keysOf ks).length ≤ ks.length := by
  have := length_all true ks ([] : List (List Nat × Bool))
  unfold keysOf; rw [List.length_map]; simpa using this
theorem mem_keysOf {ks : List (List Nat)} {k : List Nat} : k ∈ keysOf ks ↔ k ∈ ks := by unfold keysOf; rw [mem_keys_all]; simp
theorem nodup_keysOf (ks : List (List Nat)) : (keysOf ks).Nodup := nodup_all (by simp)
theorem keys_ne {ks : List (List Nat)} (h : ks ≠ []) : keysOf ks ≠ [] := fun q => by
  cases ks with
  | nil => exact h rfl
  | cons k r => have : k ∈ keysOf (k :: r) := mem_keysOf.mpr (by simp); rw [q] at this; cases this
theorem names_len (cs : List Int) : (namesOf cs).length ≤ cs.length := by
  unfold namesOf; rw [srt_len]; have := keys_len (cs.map nameOf); rwa [List.length_map] at this
theorem mem_names {cs : List Int} {n : List Nat} : n ∈ namesOf cs ↔ ∃ c ∈ cs, nameOf c = n := by
  unfold namesOf; rw [mem_srt, mem_keysOf, List.mem_map]
theorem names_ne {cs : List Int} (h : cs ≠ []) : namesOf cs ≠ [] := fun q => by
  cases cs with
  | nil => exact h rfl
  | cons c r => have : nameOf c ∈ namesOf (c :: r) := mem_names.mpr ⟨c, by simp, rfl⟩; rw [q] at this; cases this
theorem nameOf_len (c : Int) : (nameOf c).length ≤ 13 := by
  unfold nameOf partsOf
  obtain ⟨m0, m1⟩ := fmod_lt (a := c) (b := 3) (by decide)
  have h := firstOf_len c
  have h0 := partAt_len c 0
  have h1 := partAt_len c 1
  have : (c.fmod 3).toNat = 0 ∨ (c.fmod 3).toNat = 1 ∨ (c.fmod 3).toNat = 2 := by omega
  rcases this with q | q | q
  · rw [q]
    show (joinC 47 [firstOf c]).length ≤ 13
    rw [joinC_one]; omega
  · rw [q]
    show (joinC 47 [firstOf c, partAt c 0]).length ≤ 13
    rw [joinC_cons2, joinC_one]; simp; omega
  · rw [q]
    show (joinC 47 [firstOf c, partAt c 0, partAt c 1]).length ≤ 13
    rw [joinC_cons2, joinC_cons2, joinC_one]; simp; omega
theorem okL_join {ls : List (List Nat)} (h : ∀ l ∈ ls, OkL l) : OkL (joinC 47 ls) := by
  induction ls with
  | nil => intro c hc; simp [joinC, List.intercalate] at hc
  | cons a r ih =>
    cases r with
    | nil => rw [joinC_one]; exact h a (by simp)
    | cons b r =>
      rw [joinC_cons2]
      intro c hc
      rcases List.mem_append.mp hc with hc | hc
      · exact h a (by simp) c hc
      · rcases List.mem_cons.mp hc with rfl | hc
        · decide
        · exact ih (fun l hl => h l (List.mem_cons_of_mem _ hl)) c hc
theorem okL_firsts : ∀ i : Fin 7, ∀ c ∈ firsts.getD i.1 [], c < 0x110000 := by decide +kernel
theorem okL_parts : ∀ i : Fin 4, ∀ c ∈ partsT.getD i.1 [], c < 0x110000 := by decide +kernel
theorem okL_name (c : Int) : OkL (nameOf c) := by
  refine okL_join fun l hl => ?_
  rcases List.mem_cons.mp hl with rfl | hl
  · unfold firstOf
    split
    · intro c hc; simp [INB] at hc; omega
    · obtain ⟨h0, h1⟩ := fmod_lt (a := c.fdiv 7) (b := 7) (by decide)
      exact okL_firsts ⟨((c.fdiv 7).fmod 7).toNat, by omega⟩
  · obtain ⟨i, _, rfl⟩ := List.mem_map.mp hl
    obtain ⟨h0, h1⟩ := fmod_lt (a := (c.fdiv 49).fdiv (4 ^ i)) (b := 4) (by decide)
    exact okL_parts ⟨(((c.fdiv 49).fdiv (4 ^ i)).fmod 4).toNat, by omega⟩
theorem refs_len : ∀ i : Fin 8, (refsT.getD i.1 []).length ≤ 6 := by decide +kernel
theorem menu_len : ∀ i : Fin 10, (menuT.getD i.1 []).length ≤ 5 := by decide +kernel
theorem refOf_len (h : Int) : (refOf h).length ≤ 6 := by
  obtain ⟨h0, h1⟩ := fmod_lt (a := h) (b := 8) (by decide)
  exact refs_len ⟨(h.fmod 8).toNat, by omega⟩
theorem pieceAt_len (m : Int) (i : Nat) : (pieceAt m i).length ≤ 5 := by
  obtain ⟨h0, h1⟩ := fmod_lt (a := (m.fdiv 5).fdiv (10 ^ i)) (b := 10) (by decide)
  exact menu_len ⟨(((m.fdiv 5).fdiv (10 ^ i)).fmod 10).toNat, by omega⟩
theorem pieces_len (m : Int) : (piecesOf m).length ≤ 4 := by
  obtain ⟨m0, m1⟩ := fmod_lt (a := m) (b := 5) (by decide)
  unfold piecesOf; rw [List.length_map, List.length_range]; omega
theorem flat_len {k : Nat} : ∀ {ls : List (List Nat)}, (∀ l ∈ ls, l.length ≤ k) → ls.flatten.length ≤ ls.length * k
  | [], _ => by simp
  | l :: ls, h => by
    have := flat_len (ls := ls) fun x hx => h x (List.mem_cons_of_mem _ hx)
    have := h l (by simp)
    rw [List.flatten_cons, List.length_append, List.length_cons, Nat.add_mul]; omega
theorem patOf_len (m : Int) : (patOf m).length ≤ 20 := by
  have h1 := flat_len (k := 5) (ls := piecesOf m) fun l hl => by
    obtain ⟨i, _, rfl⟩ := List.mem_map.mp hl; exact pieceAt_len m i
  have := pieces_len m
  unfold patOf; omega
theorem flatMap_le {k : Nat} {f : List Nat → List (List Nat)} : ∀ {ns : List (List Nat)}, (∀ n ∈ ns, (f n).length ≤ k) → (ns.flatMap f).length ≤ ns.length * k
  | [], _ => by simp
  | n :: ns, h => by
    have := flatMap_le (ns := ns) fun x hx => h x (List.mem_cons_of_mem _ hx)
    have := h n (by simp)
    rw [List.flatMap_cons, List.length_append, List.length_cons, Nat.add_mul]; omega

/-- the names that the law builds -/
structure Nms (ns : List (List Nat)) : Prop where
  len : ns.length ≤ 4
  ne : ns ≠ []
  at' : ∀ n ∈ ns, n.length ≤ 13 ∧ OkL n
theorem nms (xs : List Int) : Nms (namesOf (cellsOf xs)) := by
  obtain ⟨h1, h2⟩ := cells_len xs
  refine ⟨Nat.le_trans (names_len _) h1, names_ne h2, fun n hn => ?_⟩
  obtain ⟨c, _, rfl⟩ := mem_names.mp hn
  exact ⟨nameOf_len c, okL_name c⟩
theorem Nms.par {ns : List (List Nat)} (N : Nms ns) : ns.length + (ns.flatMap (parF [])).length ≤ 56 := by
  have := flatMap_le (k := 13) (f := parF []) (ns := ns) fun n hn => Nat.le_trans (parF_len ..) (N.at' n hn).1
  have := N.len; omega
theorem Nms.right {ns : List (List Nat)} (N : Nms ns) (wh : List Nat) : ∀ n ∈ ns, Right ns wh n := fun n hn =>
  ⟨by have := (N.at' n hn).1; omega, (N.at' n hn).2, par_above n, has_eq ns n, below_eq ns n, listed_table wh n⟩
theorem above_par (ns : List (List Nat)) : ns.flatMap aboveL = ns.flatMap (parF []) := by congr 1; funext n; exact (par_above n).symm
theorem there_len {ns : List (List Nat)} (N : Nms ns) (wh : List Nat) : (thereOf ns wh).length ≤ 56 := by
  have := N.par
  unfold thereOf
  rw [above_par, List.length_append]
  split
  · omega
  · simp; omega
theorem there_ok {ns : List (List Nat)} (N : Nms ns) {wh n : List Nat} (h : n ∈ thereOf ns wh) : n.length ≤ 13 ∧ OkL n := by
  unfold thereOf at h
  rw [above_par] at h
  rcases List.mem_append.mp h with h | h
  · exact N.at' n h
  · split at h
    · obtain ⟨m, hm, hn⟩ := List.mem_flatMap.mp h
      have := parF_mem hn
      have hm' := N.at' m hm
      exact ⟨by simp at this; omega, okL_parF (by simp [OkL]) hm'.2 n hn⟩
    · cases h
theorem there_ne {ns : List (List Nat)} (N : Nms ns) (wh : List Nat) : thereOf ns wh ≠ [] := fun q => N.ne (List.append_eq_nil_iff.mp q).1
theorem due_ok {ns : List (List Nat)} (N : Nms ns) {wh p n : List Nat} (h : n ∈ dueOf ns wh p) : n.length ≤ 13 ∧ OkL n := by
  unfold dueOf at h
  split at h
  · cases h
  · exact there_ok N (mem_keysOf.mp (mem_srt.mp (List.mem_filter.mp h).1))
theorem due_len {ns : List (List Nat)} (N : Nms ns) (wh p : List Nat) : (dueOf ns wh p).length ≤ 56 := by
  unfold dueOf
  split
  · simp
  · refine Nat.le_trans (List.length_filter_le ..) ?_
    rw [srt_len]
    exact Nat.le_trans (keys_len _) (there_len N wh)

/-- the listing is what is due -/
theorem list_due (ns : List (List Nat)) (r p : List Nat) : listR ns r p = (dueOf ns (wholeP r p) p).map fun n => (n, ns.contains n) := by
  unfold listR dueOf
  split
  · rfl
  · congr 1
    have e : listedB (wholeP r p) = tableB (wholeP r p) := funext fun n => listed_table _ n
    rw [e]
    congr 1
    refine srt_congr (nodup_known ..) (nodup_keysOf _) fun z => ?_
    rw [mem_known, mem_keysOf]
    unfold addP thereOf
    rw [above_par, List.mem_append]
theorem attrs_due (ns : List (List Nat)) (n : List Nat) : attrsOf ns n = (if ns.contains n then [] else [PyData.str "\\Noselect"]) ++ [PyData.str (if (!(belowOf ns n).isEmpty) then "\\HasChildren" else "\\HasNoChildren")] := by
  unfold attrsOf; rw [has_eq]

/-- the law's word on normal_name -/
def normP (r : List Nat) : List Nat := if (hd (inBoxL ++ r)).map up = INB then INB ++ tl (inBoxL ++ r) else inBoxL ++ r
theorem norm_refs : ∀ i : Fin 8, normP (refsT.getD i.1 []) = if ([[], [47]] : List (List Nat)).contains ((refsT.getD i.1 []).take 1) then INB ++ refsT.getD i.1 [] else inBoxL ++ refsT.getD i.1 [] := by decide +kernel
theorem norm_ref (h : Int) : normP (refOf h) = if ([[], [47]] : List (List Nat)).contains ((refOf h).take 1) then INB ++ refOf h else inBoxL ++ refOf h := by
  obtain ⟨h0, h1⟩ := fmod_lt (a := h) (b := 8) (by decide)
  exact norm_refs ⟨(h.fmod 8).toNat, by omega⟩

/-! the dict of pairs -/
theorem dictD_enc : ∀ (ks : List (List Nat)) (l : List (List Nat × Bool)), dictD (encT dS l) (ks.map T) = encT dS (putAll true l ks)
  | [], l => rfl
  | k :: ks, l => by
    rw [List.map_cons, putAll_cons]
    show dictD (putD (.str (T k)) (.bool true) (encT dS l)) (ks.map T) = _
    rw [← dictD_enc ks (putK k true l), ← put_enc same_dS]
theorem shaped_ints (xs : List Int) : SeqAt.shaped (.list (xs.map .int)) = true := shaped_listD fun d hd => by
  obtain ⟨x, _, rfl⟩ := List.mem_map.mp hd
  exact ⟨rfl, Nat.zero_le _⟩
theorem eqv_emptyI (xs : List Int) : PyData.eqv (.list (xs.map .int)) (.list []) = xs.isEmpty := by cases xs <;> rfl
theorem lits_eq {xs : List Str} {ls : List (List Nat)} (h : xs = ls.map T) : xs.map PyData.str = ls.map dS := by rw [h, ← list_dS]
theorem lit_refs : ([.str (Str.ofString ""), .str (Str.ofString "a/"), .str (Str.ofString "INBOX/"), .str (Str.ofString "a"), .str (Str.ofString ""), .str (Str.ofString "inbox/"), .str (Str.ofString ""), .str (Str.ofString "b")] : List DD) = refsT.map dS :=
  lits_eq (xs := [Str.ofString "", Str.ofString "a/", Str.ofString "INBOX/", Str.ofString "a", Str.ofString "", Str.ofString "inbox/", Str.ofString "", Str.ofString "b"]) (by decide +kernel)
theorem lit_menu : ([.str (Str.ofString "%"), .str (Str.ofString "*"), .str (Str.ofString "/"), .str (Str.ofString "a"), .str (Str.ofString "b"), .str (Str.ofString "INBOX"), .str (Str.ofString "inbox"), .str (Str.ofString "iNb"), .str (Str.ofString "%"), .str (Str.ofString "/%")] : List DD) = menuT.map dS :=
  lits_eq (xs := [Str.ofString "%", Str.ofString "*", Str.ofString "/", Str.ofString "a", Str.ofString "b", Str.ofString "INBOX", Str.ofString "inbox", Str.ofString "iNb", Str.ofString "%", Str.ofString "/%"]) (by decide +kernel)
theorem lit_inBox : Str.ofString "inBox" = T inBoxL := by decide +kernel
theorem lit_two : ([Str.ofString "", Str.ofString "/"] : List Str) = ([[], [47]] : List (List Nat)).map T := by decide +kernel
theorem ok_two : SeqAt.shaped (.list [PyData.str "\\Noselect", PyData.str "\\HasChildren"]) = true := by decide +kernel
theorem ok_ns : PyData.canLay0 (PyData.str "\\Noselect") = true := by decide +kernel
theorem ok_hc : PyData.canLay0 (PyData.str "\\HasChildren") = true := by decide +kernel
theorem ok_hn : PyData.canLay0 (PyData.str "\\HasNoChildren") = true := by decide +kernel
theorem shaped_attrs (ns : List (List Nat)) (n : List Nat) : SeqAt.shaped (.list (attrsOf ns n)) = true := shaped_listD fun d hd => by
  unfold attrsOf at hd
  rcases List.mem_append.mp hd with hd | hd
  · split at hd
    · cases hd
    · obtain rfl := List.mem_singleton.mp hd; exact ⟨ok_ns, Nat.zero_le _⟩
  · obtain rfl := List.mem_singleton.mp hd
    split
    · exact ⟨ok_hc, Nat.zero_le _⟩
    · exact ⟨ok_hn, Nat.zero_le _⟩
theorem last_pct (l : List Nat) : (l.drop (l.length - 1) == [37]) = (l.getLast? == some 37) := by
  rcases List.eq_nil_or_concat l with rfl | ⟨r, x, rfl⟩
  · rfl
  · rw [List.concat_eq_append]
    have : (r ++ [x]).length - 1 = r.length := by simp
    rw [this, List.drop_left]
    by_cases h : x = 37
    · subst h; simp
    · simp [h]
theorem take_one (p : List Nat) : (p.take 1 == [47]) = [47].isPrefixOf p := by
  cases p with
  | nil => rfl
  | cons c r =>
    show ([c] == [47]) = (47 == c && [].isPrefixOf r)
    rw [one_beq]
    by_cases h : c = 47
    · subst h; simp
    · rw [beq_eq_false_iff_ne.mpr h, beq_eq_false_iff_ne.mpr (Ne.symm h)]; rfl
end Mine

namespace Mine
section
variable {w : World} {mg : Str → Option Value}

theorem law_tail {A : Around} {L a : Addr} {cd : Value} {ns : List (List Nat)} {r p : List Nat} (hA : Room A 4) (ok : EnvOk (envF (dF 24) L a cd)) (N : Nms ns) (hr : r.length ≤ 6) (hp : p.length ≤ 20) :
    Sx w mg A (envF (dF 24) L a cd) ((dF 24).body.drop 14) [("due", .list ((dueOf ns (wholeP r p) p).map dS)), ("pattern", dS p), ("reference", dS r), ("names", .list (ns.map dS))] [] (.ret (.bool true)) := by
  have hu : A.units + 64 < cLine := by have := hA.2.2; omega
  have hN := N.par
  have hdl := due_len N (wholeP r p) p
  have hdo := fun n h => due_ok (n := n) N (wh := wholeP r p) (p := p) h
  refine sx_cons (m1 := [("found", .list ((listR ns r p).map dP)), ("due", .list ((dueOf ns (wholeP r p) p).map dS)), ("names", .list (ns.map dS))]) (own1 := []) (x1_weak (x1_assign ok (.inl rfl) (ev_call ok hA rfl in_list (args_s (ev_name ok rfl) (args_s (ev_name ok rfl) (args_s (ev_name ok rfl) args_z))) (fn_list (by omega) (by omega) (fun n hn => by have := (N.at' n hn).1; omega) (by omega))) (.inl rfl)) (sb_cons rfl (sb_cons rfl (sb_cons rfl sb_nil))) (by simp)) ?_
  rw [list_due]
  generalize dueOf ns (wholeP r p) p = D at *
  have hsh : SeqAt.shaped (.list ((D.map fun n => (n, ns.contains n)).map dP)) = true := shaped_listP fun x hx => by
    obtain ⟨n, hn, rfl⟩ := List.mem_map.mp hx; exact (hdo n hn).2
  have hD : ∀ d ∈ D.map dS, ∃ n, d = dS n ∧ n ∈ D := fun d hd => by
    obtain ⟨n, hn, rfl⟩ := List.mem_map.mp hd; exact ⟨n, rfl, hn⟩
  refine sx_cons (m1 := [("found", .list ((D.map fun n => (n, ns.contains n)).map dP)), ("names", .list (ns.map dS))]) (own1 := []) (x1_weak (x1_if (b := false) (Tr.eq (tr_cmp (ev_name ok rfl) (Ev.eq (ev_comp1 (cl := [("names", L + 1)]) (mc := [("names", .list (ns.map dS))]) (tst := fun _ => true) (f := fun d => .tuple [d, .bool (ns.contains (elL d))]) (fr := true) (ds := D.map dS)
    ok hA.1 ⟨rfl, by decide, rfl, by decide⟩ (cap_cons rfl rfl rfl rfl cap_nil) rfl rfl (evi_listName ok rfl) (fun C d hd => trs_nil) (fun C d hd _ => ?_) (fun d hd _ => flatT) ?_) ?_) (cmp_neD notD_list notD_list hsh hsh hu)) ?_) (fun q => by cases q) (fun _ => sx_nil)) (sb_cons rfl (sb_cons rfl sb_nil)) (by simp)) ?_
  · obtain ⟨n, rfl, hn⟩ := hD d hd
    refine ev_tuple (args_s (ev_name ⟨rfl, ok.g, ok.b⟩ rfl) (args_s (Ev.eq (ev_cmp (ev_name ⟨rfl, ok.g, ok.b⟩ rfl) (Ev.eq (ev_name ⟨rfl, ok.g, ok.b⟩ rfl) (congrArg PyData.list (list_dS _))) cmp_inL) (congrArg PyData.bool (T_any _ _))) args_z)) ?_ (by simp [sizeLine_eq])
    intro d hd; simp at hd; rcases hd with rfl | rfl; exact flatS; exact flatB
  · rw [List.length_map, sizeLine_eq]; omega
  · rw [List.filter_eq_self.mpr (fun _ _ => rfl), List.map_map, List.map_map]; rfl
  · rw [eqv_self hsh]; rfl
  refine sx_cons (m1 := [("names", .list (ns.map dS))]) (own1 := []) (x1_weak (x1_for (src := some "found") (ds := (D.map fun n => (n, ns.contains n)).map dP) ok hA.1 (evi_listName ok rfl) (fun x hx => by cases hx; exact ⟨by decide, rfl⟩) (res := .next [("found", .list ((D.map fun n => (n, ns.contains n)).map dP)), ("names", .list (ns.map dS))] []) ?_) (sb_cons rfl sb_nil) (by simp)) (sx_ret (x1_ret ev_bool (.inl rfl)))
  refine (?_ : ∀ ks : List (List Nat), (∀ k ∈ ks, k ∈ D) → ForL w mg A (envF (dF 24) L a cd) _ _ [] ((ks.map fun n => (n, ns.contains n)).map dP) [("found", .list ((D.map fun n => (n, ns.contains n)).map dP)), ("names", .list (ns.map dS))] (.next [("found", .list ((D.map fun n => (n, ns.contains n)).map dP)), ("names", .list (ns.map dS))] [])) D (fun _ h => h)
  intro ks
  induction ks with
  | nil => intro _; exact ForL.nil
  | cons n ks ih =>
    intro hks
    obtain ⟨hn1, hn2⟩ := hdo n (hks n (by simp))
    have hin : ∀ d ∈ ns.map dS, ∃ o, d = dS o ∧ o ∈ ns ∧ o.length ≤ 13 := fun d hd => by
      obtain ⟨o, ho, rfl⟩ := List.mem_map.mp hd; exact ⟨o, rfl, ho, (N.at' o ho).1⟩
    have okb : ∀ x ∈ belowOf ns n, OkL x := fun x hx => (N.at' x (List.mem_filter.mp hx).1).2
    refine ForL.next (bd_pair ok hA.1 (.inr ⟨rfl, rfl⟩) (.inl rfl) flatS flatB ?_) (ih fun q hq => hks q (List.mem_cons_of_mem _ hq))
    generalize hF : (PyData.list ((D.map fun n => (n, ns.contains n)).map dP) : DD) = F
    have hl1 : (if ns.contains n then ([] : List DD) else [PyData.str "\\Noselect"]).length ≤ 10 := by split <;> simp
    refine sx_weak (m1 := [("found", F), ("names", .list (ns.map dS))]) (own1 := []) (sx_cons (m1 := [("attributes", .list (if ns.contains n then [] else [PyData.str "\\Noselect"])), ("is_there", .bool (ns.contains n)), ("name", dS n), ("found", F), ("names", .list (ns.map dS))]) (own1 := ["attributes"]) (x1_assignOwn ok (.inl rfl) (ev_if (c := ns.contains n) (f := true) (tr_of (fun _ _ => rfl) (ev_name ok rfl)) (fun h => ?_) (fun h => ?_)) (.inl ⟨_, rfl⟩)) ?_) sb_refl (fun _ h => h)
    · rw [h]; exact ev_list args_z (fun d hd => by cases hd) (by simp)
    · rw [h]; exact ev_list (args_s ev_str args_z) (fun d hd => by simp at hd; subst hd; exact flatS) (by simp [sizeLine_eq])
    generalize hP : (if ns.contains n then ([] : List DD) else [PyData.str "\\Noselect"]) = P at *
    refine sx_cons (m1 := [("has_more", .bool (!(belowOf ns n).isEmpty)), ("attributes", .list P), ("name", dS n), ("found", F), ("names", .list (ns.map dS))]) (own1 := ["attributes"]) (x1_weak (x1_assign ok (.inl rfl) (Ev.eq (ev_cmp (ev_comp1 (cl := [("name", L + 1 + 1 + 1 + 1 + 1)]) (mc := [("name", dS n)]) (tst := fun d => (aboveL (elL d)).contains n) (f := fun d => d) (fr := false) ok hA.1 ⟨rfl, by decide, rfl, by decide⟩ (cap_cons rfl rfl rfl rfl cap_nil) rfl rfl (evi_listName ok rfl) (fun C d hd => ?_) (fun C d hd _ => ?_) (fun d hd _ => ?_) ?_) (ev_list args_z (fun d hd => by cases hd) (by simp)) (cmp_neD notD_list notD_list ?_ rfl hu)) ?_) (.inr flatB)) (sb_cons rfl (sb_cons rfl (sb_cons rfl (sb_cons rfl (sb_cons rfl sb_nil))))) (by decide)) ?_
    · obtain ⟨o, rfl, ho, hl'⟩ := hin d hd
      exact trs_one (Tr.eq (tr_cmp (ev_name ⟨rfl, ok.g, ok.b⟩ rfl) (Ev.eq (ev_call ⟨rfl, ok.g, ok.b⟩ (hA.le (by decide)) rfl in_labove (args_s (ev_name ⟨rfl, ok.g, ok.b⟩ rfl) args_z) (fn_above (by omega))) (congrArg PyData.list (list_dS _))) cmp_inL) (T_any _ _))
    · obtain ⟨o, rfl, ho, hl'⟩ := hin d hd
      exact Ev.scalar (ev_name ⟨rfl, ok.g, ok.b⟩ rfl)
    · obtain ⟨o, rfl, ho, hl'⟩ := hin d hd
      exact flatS
    · have := N.len
      rw [List.length_map, sizeLine_eq]; omega
    · have e : ((ns.map dS).filter fun d => (aboveL (elL d)).contains n).map (fun d => d) = (belowOf ns n).map dS := by unfold belowOf; rw [List.filter_map, List.map_map]; rfl
      rw [e]; exact shaped_listS okb
    · have e : ((ns.map dS).filter fun d => (aboveL (elL d)).contains n).map (fun d => d) = (belowOf ns n).map dS := by unfold belowOf; rw [List.filter_map, List.map_map]; rfl
      rw [e, eqv_empty]
    refine sx_cons (m1 := [("attributes", .list (attrsOf ns n)), ("name", dS n), ("found", F), ("names", .list (ns.map dS))]) (own1 := ["attributes"]) (x1_weak (x1_append (d := PyData.str (if (!(belowOf ns n).isEmpty) then "\\HasChildren" else "\\HasNoChildren")) ok (by simp) rfl (by simp) (ev_if (c := !(belowOf ns n).isEmpty) (f := true) (tr_of (fun _ _ => rfl) (ev_name ok rfl)) (fun h => ?_) (fun h => ?_)) flatS (by omega)) (sb_cons ?_ (sb_cons rfl (sb_cons rfl (sb_cons rfl sb_nil)))) (fun _ h => h)) ?_
    · rw [h]; exact ev_str
    · rw [h]; exact ev_str
    · rw [attrs_due, hP]; rfl
    refine sx_weak (sx_cons (x1_if (b := false) (Tr.eq (tr_cmp (ev_call ok (hA.le (by decide)) rfl in_attr (args_s (ev_name ok rfl) (args_s (ev_name ok rfl) args_z)) (fn_attr (by omega))) (ev_name ok rfl) (cmp_neD notD_list notD_list (shaped_attrs ns n) (shaped_attrs ns n) hu)) ?_) (fun q => by cases q) (fun _ => sx_nil)) sx_nil) (sb_cons rfl (sb_cons rfl sb_nil)) (by simp)
    rw [eqv_self (shaped_attrs ns n)]; rfl
end
end Mine

namespace Mine
section
variable {w : World} {mg : Str → Option Value}

theorem law_mid {A : Around} {L a : Addr} {cd : Value} {ns : List (List Nat)} {r p wh : List Nat} (hA : Room A 4) (ok : EnvOk (envF (dF 24) L a cd)) (N : Nms ns) (hr : r.length ≤ 6) (hp : p.length ≤ 20) (hw : wh = wholeP r p) :
    Sx w mg A (envF (dF 24) L a cd) ((dF 24).body.drop 10) [("whole", dS wh), ("pattern", dS p), ("reference", dS r), ("names", .list (ns.map dS))] [] (.ret (.bool true)) := by
  have hwl := wholeP_len r p
  rw [← hw] at hwl
  have hin : ∀ d ∈ ns.map dS, ∃ o, d = dS o ∧ o ∈ ns ∧ o.length ≤ 13 := fun d hd => by
    obtain ⟨o, ho, rfl⟩ := List.mem_map.mp hd; exact ⟨o, rfl, ho, (N.at' o ho).1⟩
  have hN := N.par
  have hln := N.len
  have hab : (ns.flatMap aboveL).length ≤ 56 := by rw [above_par]; omega
  refine sx_cons (m1 := [("there", .list (ns.map dS)), ("whole", dS wh), ("pattern", dS p), ("reference", dS r), ("names", .list (ns.map dS))]) (own1 := ["there"]) (x1_assignOwn ok (.inl rfl) (ev_tcall ok rfl (by decide) boot_list (args_s (ev_name ok rfl) args_z) (bf_list (by rw [List.length_map]; omega))) (.inl ⟨_, rfl⟩)) ?_
  refine sx_cons (m1 := [("there", .list ((thereOf ns wh).map dS)), ("whole", dS wh), ("pattern", dS p), ("reference", dS r), ("names", .list (ns.map dS))]) (own1 := []) (x1_weak (own1 := ["there"]) (x1_if (b := wh.getLast? == some 37) (Tr.eq (tr_cmp (Ev.eq (ev_sliceS (ev_name ok rfl) (evp_some (ev_neg ev_int)) evp_none ?_) (congrArg PyData.str (slice_last wh))) ev_str cmp_eqS) ?_) (fun h => ?_) (fun h => ?_)) sb_refl (by simp)) ?_
  · rw [T_len, sizeLine_eq]; omega
  · rw [lit_pct, T_beq, last_pct]
  · unfold thereOf
    rw [h, if_pos rfl, List.map_append]
    refine sx_weak (sx_cons (x1_extend (es := (ns.flatMap aboveL).map dS) ok (by simp) rfl (by simp) (Ev.eq (ev_comp2 (cl := []) (mc := []) (es := fun d => (aboveL (elL d)).map dS) (f := fun _ d => d) (fr := false) ok hA.1 ⟨rfl, by decide, rfl, by decide⟩ cap_nil rfl rfl rfl rfl (by decide) (evi_listName ok rfl) (fun C d hd => ?_) (fun C d hd d' hd' => ?_) (fun d hd d' hd' => ?_) ?_) ?_) ?_) sx_nil) (sb_cons rfl (sb_cons rfl (sb_cons rfl (sb_cons rfl (sb_cons rfl sb_nil))))) (fun _ h => h)
    · obtain ⟨o, rfl, ho, hl'⟩ := hin d hd
      exact evi_list (ev_call ⟨rfl, ok.g, ok.b⟩ (hA.le (by decide)) rfl in_labove (args_s (ev_name ⟨rfl, ok.g, ok.b⟩ rfl) args_z) (fn_above (by omega)))
    · exact Ev.scalar (ev_name ⟨rfl, ok.g, ok.b⟩ rfl)
    · obtain ⟨x, _, rfl⟩ := List.mem_map.mp hd'
      exact flatS
    · have e : ((ns.map dS).flatMap fun d => (aboveL (elL d)).map dS) = (ns.flatMap aboveL).map dS := by rw [List.flatMap_map, List.map_flatMap]; rfl
      rw [e, List.length_map, sizeLine_eq]; omega
    · have e : ((ns.map dS).flatMap fun d => ((aboveL (elL d)).map dS).map fun d => d) = (ns.flatMap aboveL).map dS := by
        rw [List.flatMap_map, List.map_flatMap]
        congr 1; funext n; rw [elL_dS, List.map_map]; rfl
      rw [e]
    · rw [List.length_map, List.length_map]; omega
  · unfold thereOf
    rw [h, if_neg (by decide), List.append_nil]
    exact sx_nil
  have htl := there_len N wh
  have hto := fun n h => there_ok (n := n) N (wh := wh) h
  have hsl : (srt (keysOf (thereOf ns wh))).length ≤ 56 := by rw [srt_len]; exact Nat.le_trans (keys_len _) htl
  have hT : ∀ d ∈ (srt (keysOf (thereOf ns wh))).map dS, ∃ n, d = dS n ∧ n.length ≤ 13 := fun d hd => by
    obtain ⟨n, h1, rfl⟩ := List.mem_map.mp hd
    exact ⟨n, rfl, (hto n (mem_keysOf.mp (mem_srt.mp h1))).1⟩
  refine sx_cons (m1 := [("due", .list (((srt (keysOf (thereOf ns wh))).filter (tableB wh)).map dS)), ("pattern", dS p), ("reference", dS r), ("names", .list (ns.map dS))]) (own1 := []) (x1_weak (x1_assignComp (cl := [("whole", L + 1 + 1 + 1 + 1)]) (mc := [("whole", dS wh)]) (tst := fun d => tableB wh (elL d)) (f := fun d => d) (fr := false) (ds := (srt (keysOf (thereOf ns wh))).map dS) ok hA.1 (.inl rfl) ⟨rfl, by decide, rfl, by decide⟩ (cap_cons rfl rfl rfl rfl cap_nil) rfl rfl
    (evi_list (Ev.eq (ev_bcall ok rfl (by decide) boot_sorted (args_s (Ev.eq (ev_dictOf (xs := (thereOf ns wh).map T) ok hA.1 rfl (Ev.eq (ev_comp1 (cl := []) (mc := []) (tst := fun _ => true) (f := fun d => .tuple [d, .bool true]) (fr := true) (ds := (thereOf ns wh).map dS) ok hA.1 ⟨rfl, by decide, rfl, by decide⟩ cap_nil rfl rfl (evi_listName ok rfl) (fun C d hd => trs_nil) (fun C d hd _ => ?_) (fun d hd _ => flatT) ?_) ?_) ?_ ?_) (congrArg PyData.dict (dictD_enc (thereOf ns wh) []))) args_z)
      (bf_sortedDS (xs := (keysOf (thereOf ns wh)).map T) hA.1 (allStr_enc _) ?_ ?_ (srt_unique _))) ?_)) (fun C d hd => ?_) (fun C d hd _ => ?_) (fun d hd _ => ?_) ?_) (sb_cons ?_ (sb_cons rfl (sb_cons rfl (sb_cons rfl sb_nil)))) (by simp)) ?_
  · obtain ⟨n, _, rfl⟩ := List.mem_map.mp hd
    refine ev_tuple (args_s (ev_name ⟨rfl, ok.g, ok.b⟩ rfl) (args_s ev_bool args_z)) ?_ (by simp [sizeLine_eq])
    intro d hd; simp at hd; rcases hd with rfl | rfl; exact flatS; exact flatB
  · rw [List.length_map, sizeLine_eq]; omega
  · rw [List.filter_eq_self.mpr (fun _ _ => rfl), List.map_map, List.map_map]; rfl
  · exact fun q => there_ne N wh (List.map_eq_nil_iff.mp q)
  · rw [List.length_map]; omega
  · rw [keys_enc, ← list_dS]; rfl
  · have := keys_len (thereOf ns wh)
    rw [List.length_map]; omega
  · rw [← list_dS]
  · obtain ⟨n, rfl, hn⟩ := hT d hd
    exact trs_one (tr_of (fun _ _ => rfl) (ev_call ⟨rfl, ok.g, ok.b⟩ (hA.le (by decide)) rfl in_ltable (args_s (ev_name ⟨rfl, ok.g, ok.b⟩ rfl) (args_s (ev_name ⟨rfl, ok.g, ok.b⟩ rfl) args_z)) (fn_table (by omega) (by omega))))
  · exact Ev.scalar (ev_name ⟨rfl, ok.g, ok.b⟩ rfl)
  · obtain ⟨n, rfl, hn⟩ := hT d hd
    exact flatS
  · rw [List.length_map, sizeLine_eq]; omega
  · rw [List.filter_map, List.map_map]; rfl
  refine sx_cons (m1 := [("due", .list ((dueOf ns wh p).map dS)), ("pattern", dS p), ("reference", dS r), ("names", .list (ns.map dS))]) (own1 := []) (x1_if (b := p == []) (Tr.eq (tr_cmp (ev_name ok rfl) ev_str cmp_eqS) ?_) (fun h => ?_) (fun h => ?_)) ?_
  · rw [lit_empty, T_beq]
  · unfold dueOf
    rw [if_pos (by simpa using h)]
    exact sx_weak (sx_cons (x1_assign ok (.inl rfl) (ev_list args_z (fun d hd => by cases hd) (by simp)) (.inl rfl)) sx_nil) (sb_cons rfl (sb_cons rfl (sb_cons rfl (sb_cons rfl sb_nil)))) (by simp)
  · unfold dueOf
    rw [if_neg (by simpa using h)]
    exact sx_nil
  · subst hw
    exact law_tail hA ok N hr hp
end
end Mine

namespace Mine

theorem pick_cells (xs : List Int) (h : 2 < xs.length) : pickD (xs.map .int) (some 2) (some 6) = (cellsOf xs).map .int := by
  have := pick_mid (xs.map PyData.int) 2 6 (by rw [List.length_map]; omega)
  unfold cellsOf
  rw [if_pos h, List.map_take, List.map_drop]
  exact this
theorem pick_rest (xs : List Int) : pickD (xs.map .int) (some 1) none = (xs.drop 1).map .int := by
  have := pick_drop (xs.map PyData.int) 1
  rw [List.map_drop]
  exact this

section
variable {w : World} {mg : Str → Option Value}

/-- the law's if: normal_name, the whole pattern, the tree -/
theorem law_checks {A : Around} {L a : Addr} {cd : Value} {ns : List (List Nat)} {h : Int} {p : List Nat} (hA : Room A 4) (ok : EnvOk (envF (dF 24) L a cd)) (N : Nms ns) (hp : p.length ≤ 20) :
    Sx w mg A (envF (dF 24) L a cd) ((dF 24).body.drop 7) [("pattern", dS p), ("reference", dS (refOf h)), ("names", .list (ns.map dS))] [] (.ret (.bool true)) := by
  have hr := refOf_len h
  have hnorm := norm_ref h
  generalize refOf h = r at *
  have hsz : (Str.ofString "inBox").length + (T r).length ≤ sizeLine := by rw [lit_inBox, T_len, T_len, sizeLine_eq]; simp [inBoxL]; omega
  have hsz2 : (Str.ofString "INBOX").length + (T r).length ≤ sizeLine := by rw [len_inbox, T_len, sizeLine_eq]; omega
  have hib : (inBoxL ++ r).length ≤ 1000 := by simp [inBoxL]; omega
  refine sx_cons (m1 := [("pattern", dS p), ("reference", dS r), ("names", .list (ns.map dS))]) (own1 := []) (x1_if (b := false) (Tr.eq (tr_cmp (f₂ := true) (d₂ := dS (normP r)) (ev_call ok (hA.le (by decide)) rfl in_normal (args_s (Ev.eq (ev_addS ev_str (ev_name ok rfl) hsz) (d' := dS (inBoxL ++ r)) (by rw [lit_inBox, T_app])) args_z) (fn_normal hib)) (Ev.eq (ev_if (c := ([[], [47]] : List (List Nat)).contains (r.take 1)) (f := true) (d := dS (if ([[], [47]] : List (List Nat)).contains (r.take 1) then INB ++ r else inBoxL ++ r)) (Tr.eq (tr_cmp (Ev.eq (ev_sliceS (ev_name ok rfl) evp_none (evp_some ev_int) ?_) (d' := dS (r.take 1)) (congrArg PyData.str (slice_take r 1))) (Ev.eq (ev_tuple (args_s ev_str (args_s ev_str args_z)) ?_ ?_) (d' := .tuple ((([[], [47]] : List (List Nat)).map T).map .str)) ?_) cmp_inT) (T_any _ _)) (fun q => ?_) (fun q => ?_)) (congrArg dS hnorm.symm)) cmp_neS) ?_) (fun q => by cases q) (fun _ => sx_nil)) ?_
  · rw [T_len, sizeLine_eq]; omega
  · intro d hd; simp at hd; rcases hd with rfl | rfl <;> exact flatS
  · simp [sizeLine_eq]
  · rw [← lit_two]; rfl
  · rw [q, if_pos rfl]
    exact Ev.eq (ev_addS ev_str (ev_name ok rfl) hsz2) (by rw [lit_inbox, T_app]; rfl)
  · rw [q, if_neg (by decide)]
    exact Ev.eq (ev_addS ev_str (ev_name ok rfl) hsz) (by rw [lit_inBox, T_app])
  · show (T (normP r) != T (normP r)) = false
    rw [T_bne]; simp
  have hwl := wholeP_len r p
  refine sx_cons (m1 := [("whole", dS (wholeP r p)), ("pattern", dS p), ("reference", dS r), ("names", .list (ns.map dS))]) (own1 := []) (x1_assign (f := true) ok (.inr ⟨rfl, rfl⟩) (ev_if (c := [47].isPrefixOf p) (Tr.eq (tr_cmp (Ev.eq (ev_sliceS (ev_name ok rfl) evp_none (evp_some ev_int) ?_) (d' := dS (p.take 1)) (congrArg PyData.str (slice_take p 1))) ev_str cmp_eqS) ?_) (fun q => ?_) (fun q => ?_)) (.inl rfl)) ?_
  · rw [T_len, sizeLine_eq]; omega
  · rw [lit_slash, T_beq, take_one]
  · unfold wholeP
    rw [q, if_pos rfl]
    refine Ev.eq (ev_sliceS (ev_name ok rfl) (evp_some ev_int) evp_none ?_) (congrArg PyData.str (slice_drop p 1))
    rw [T_len, sizeLine_eq]; omega
  · unfold wholeP
    rw [q, if_neg (by decide)]
    refine Ev.eq (ev_addS (ev_name ok rfl) (ev_name ok rfl) ?_) (by rw [T_app])
    rw [T_len, T_len, sizeLine_eq]; omega
  have hln := N.len
  refine sx_cons (x1_if (b := false) (Tr.eq (tr_or2 (x := false) (y := false) (Tr.eq (tr_cmp (ev_call ok (hA.le (by decide)) rfl in_whole (args_s (ev_name ok rfl) (args_s (ev_name ok rfl) args_z)) (fn_whole (by omega) (by omega))) (ev_name ok rfl) cmp_neS) ?_) (fun _ => Tr.eq (tr_not (tr_of (fun _ _ => rfl) (ev_call ok hA rfl in_ltree (args_s (ev_name ok rfl) (args_s (ev_name ok rfl) args_z)) (fn_tree (by omega) (by omega) (N.right _))))) rfl)) rfl) (fun q => by cases q) (fun _ => sx_nil)) ?_
  · rw [T_bne]; simp
  · exact law_mid hA ok N hr hp rfl
end
end Mine

namespace Mine
section
variable {w : World} {mg : Str → Option Value}

theorem mul_29 : IntMulOk 29 3 := IntMulOk.of_left (by decide +kernel)
theorem mul_51 : IntMulOk 3 51 := IntMulOk.of_left (by decide +kernel)

theorem fn_law {xs : List Int} (hx : xs.length ≤ 63) : Fn w mg 5 "law" [.list (xs.map .int)] (.bool true) :=
  fn_of (d := dF 24) (ps := ["script"]) (by rw [recs_eq]; simp) rfl (by decide) (fun pm cd doc vs h => by obtain ⟨v, rfl⟩ := args1 h; rfl) (fun L x hx => by
      simp at hx; rcases hx with rfl; exact .inl rfl) fun A L a cd hA ok => by
    have hu : A.units + 64 < cLine := by have := hA.2.2; omega
    obtain ⟨hcl, hcn⟩ := cells_len xs
    have N := nms xs
    have hlen : (xs.map PyData.int).length ≤ 63 := by rw [List.length_map]; exact hx
    refine sx_cons (m1 := [("cells", .list ((cellsOf xs).map .int)), ("script", .list (xs.map .int))]) (own1 := []) (x1_assign (f := true) ok (.inl rfl) (ev_if (c := decide (2 < xs.length)) (Tr.eq (tr_cmp (ev_bcall ok rfl (by decide) boot_len (args_s (ev_name ok rfl) args_z) (bf_lenL (by omega))) ev_int cmp_gt) ?_) (fun q => ?_) (fun q => ?_)) (.inl rfl)) ?_
    · rw [List.length_map]
      exact decide_eq_decide.mpr (by omega)
    · refine Ev.eq (ev_sliceL (ev_name ok rfl) (evp_some ev_int) (evp_some ev_int) ?_) (congrArg PyData.list (pick_cells xs (of_decide_eq_true q)))
      rw [sizeLine_eq]; omega
    · unfold cellsOf
      rw [if_neg (of_decide_eq_false q)]
      refine Ev.eq (ev_list (args_s ev_int (args_s ev_int (args_s (ev_addI (ev_mulI ev_int ev_int mul_29) ev_int) (args_s (ev_addI ev_int (ev_mulI ev_int ev_int mul_51)) args_z)))) ?_ ?_) rfl
      · intro d hd; simp at hd; rcases hd with rfl | rfl | rfl | rfl <;> exact flatI
      · simp [sizeLine_eq]
    have hkl : (keysOf ((cellsOf xs).map nameOf)).length ≤ 4 := by have := keys_len ((cellsOf xs).map nameOf); rw [List.length_map] at this; omega
    refine sx_cons (m1 := [("names", .list ((namesOf (cellsOf xs)).map dS)), ("script", .list (xs.map .int))]) (own1 := []) (x1_weak (x1_assign ok (.inr ⟨rfl, rfl⟩) (Ev.eq (ev_bcall ok rfl (by decide) boot_sorted (args_s (Ev.eq (ev_dictOf (xs := ((cellsOf xs).map nameOf).map T) ok hA.1 rfl (Ev.eq (ev_comp1 (cl := []) (mc := []) (tst := fun _ => true) (f := fun d => .tuple [dS (nameOf (elI d)), .bool true]) (fr := true) (ds := (cellsOf xs).map .int) ok hA.1 ⟨rfl, by decide, rfl, by decide⟩ cap_nil rfl rfl (evi_listName ok rfl) (fun C d hd => trs_nil) (fun C d hd _ => ?_) (fun d hd _ => flatT) ?_) ?_) ?_ ?_) (congrArg PyData.dict (dictD_enc ((cellsOf xs).map nameOf) []))) args_z)
      (bf_sortedDS (xs := (keysOf ((cellsOf xs).map nameOf)).map T) hA.1 (allStr_enc _) ?_ ?_ (srt_unique _))) ?_) (.inl rfl)) (sb_cons rfl (sb_cons rfl sb_nil)) (by simp)) ?_
    · obtain ⟨c, _, rfl⟩ := List.mem_map.mp hd
      refine ev_tuple (args_s (ev_call ⟨rfl, ok.g, ok.b⟩ (hA.le (by decide)) rfl in_lname (args_s (ev_name ⟨rfl, ok.g, ok.b⟩ rfl) args_z) fn_name) (args_s ev_bool args_z)) ?_ (by simp [sizeLine_eq])
      intro d hd; simp at hd; rcases hd with rfl | rfl; exact flatS; exact flatB
    · rw [List.length_map, sizeLine_eq]; omega
    · rw [List.filter_eq_self.mpr (fun _ _ => rfl), List.map_map, List.map_map, List.map_map]; rfl
    · exact fun q => hcn (List.map_eq_nil_iff.mp (List.map_eq_nil_iff.mp q))
    · rw [List.length_map, List.length_map]; omega
    · rw [keys_enc, ← list_dS]; rfl
    · rw [List.length_map]; omega
    · rw [← list_dS]; rfl
    generalize namesOf (cellsOf xs) = ns at *
    refine sx_cons (m1 := [("head", .int (headI xs)), ("names", .list (ns.map dS)), ("script", .list (xs.map .int))]) (own1 := []) (x1_assign (f := false) ok (.inl rfl) (ev_if (c := !xs.isEmpty) (Tr.eq (tr_cmp (ev_name ok rfl) (ev_list args_z (fun d hd => by cases hd) (by simp)) (cmp_neD notD_list notD_list (shaped_ints xs) rfl hu)) ?_) (fun q => ?_) (fun q => ?_)) (.inr flatI)) ?_
    · rw [eqv_emptyI]
    · cases xs with
      | nil => cases q
      | cons x r => exact ev_itemL (ev_name ok rfl) ev_int (by decide) rfl (by omega)
    · cases xs with
      | nil => exact Ev.scalar ev_int
      | cons x r => cases q
    generalize headI xs = h
    obtain ⟨h0, h1⟩ := fmod_lt (a := h) (b := 8) (by decide)
    refine sx_cons (m1 := [("reference", dS (refOf h)), ("head", .int h), ("names", .list (ns.map dS)), ("script", .list (xs.map .int))]) (own1 := []) (x1_assign ok (.inl rfl) (ev_itemL (ds := refsT.map dS) (k := h.fmod 8) (Ev.eq (ev_list (args_s ev_str (args_s ev_str (args_s ev_str (args_s ev_str (args_s ev_str (args_s ev_str (args_s ev_str (args_s ev_str args_z)))))))) ?_ ?_) (congrArg PyData.list lit_refs)) (ev_mod (ev_name ok rfl) ev_int (by decide)) h0 (get_of h0 h1 rfl) ?_) (.inr flatS)) ?_
    · rw [lit_refs]; exact flats_dS
    · simp [sizeLine_eq]
    · simp [refsT]
    have hdl : (xs.drop 1).length ≤ 63 := by rw [List.length_drop]; omega
    refine sx_cons (m1 := [("many", .int (manyOf xs h)), ("reference", dS (refOf h)), ("names", .list (ns.map dS))]) (own1 := []) (x1_weak (x1_assign ok (.inr ⟨rfl, rfl⟩) (ev_itemL (ds := (xs.drop 1).map .int ++ [.int (h.fdiv 8)]) (ev_addL (Ev.eq (ev_sliceL (ev_name ok rfl) (evp_some ev_int) evp_none ?_) (congrArg PyData.list (pick_rest xs))) (ev_list (args_s (ev_div (ev_name ok rfl) ev_int (by decide) (by decide)) args_z) ?_ ?_) ?_) ev_int (by decide) (d := .int (manyOf xs h)) ?_ ?_) (.inr flatI)) (sb_cons rfl (sb_cons rfl (sb_cons rfl sb_nil))) (by simp)) ?_
    · rw [sizeLine_eq]; omega
    · intro d hd; simp at hd; subst hd; exact flatI
    · simp [sizeLine_eq]
    · rw [List.length_map, sizeLine_eq]; simp; omega
    · unfold manyOf
      cases xs.drop 1 with
      | nil => rfl
      | cons x r => rfl
    · rw [List.length_append, List.length_map]; simp; omega
    generalize manyOf xs h = m
    refine sx_cons (m1 := [("menu", .list (menuT.map dS)), ("many", .int m), ("reference", dS (refOf h)), ("names", .list (ns.map dS))]) (own1 := []) (x1_assign ok (.inr ⟨rfl, rfl⟩) (Ev.eq (ev_list (args_s ev_str (args_s ev_str (args_s ev_str (args_s ev_str (args_s ev_str (args_s ev_str (args_s ev_str (args_s ev_str (args_s ev_str (args_s ev_str args_z)))))))))) ?_ ?_) (congrArg PyData.list lit_menu)) (.inl rfl)) ?_
    · rw [lit_menu]; exact flats_dS
    · simp [sizeLine_eq]
    obtain ⟨m0, m1⟩ := fmod_lt (a := m) (b := 5) (by decide)
    have hpl := pieces_len m
    refine sx_cons (m1 := [("pattern", dS (patOf m)), ("reference", dS (refOf h)), ("names", .list (ns.map dS))]) (own1 := []) (x1_weak (x1_assign ok (.inl rfl) (Ev.eq (ev_meth (ds := [.list (((piecesOf m).map T).map .str)]) F.slot_str_join F.type_str_join ev_str (args_s (Ev.eq (ev_comp1 (cl := [("menu", L + 1 + 1 + 1), ("many", L + 1 + 1)]) (mc := [("many", .int m), ("menu", .list (menuT.map dS))]) (tst := fun _ => true) (f := fun d => dS (pieceAt m (elI d).toNat)) (fr := false) (ds := rangeD 0 (m.fmod 5))
      ok hA.1 ⟨rfl, by decide, rfl, by decide⟩ (cap_cons rfl rfl rfl rfl (cap_cons rfl rfl rfl rfl cap_nil)) rfl rfl (evi_range1 ok rfl (ev_mod (ev_name ok rfl) ev_int (by decide)) (by omega) (by omega)) (fun C d hd => trs_nil) (fun C d hd _ => ?_) (fun d hd _ => flatS) ?_) ?_) args_z) (bf_join ?_)) ?_) (.inl rfl)) (sb_cons rfl (sb_cons rfl (sb_cons rfl sb_nil))) (by simp)) ?_
    · obtain ⟨i, hi, rfl⟩ : ∃ i : Nat, i < (m.fmod 5).toNat ∧ d = .int (0 + i) := by
        unfold rangeD at hd
        obtain ⟨i, hi, rfl⟩ := List.mem_map.mp hd
        exact ⟨i, by simpa using hi, rfl⟩
      have hi' : i ≤ 3 := by omega
      have ei : (elI (.int (0 + (i : Int)))).toNat = i := by show (0 + (i : Int)).toNat = i; omega
      obtain ⟨q0, q1⟩ := fmod_lt (a := (m.fdiv 5).fdiv (10 ^ i)) (b := 10) (by decide)
      have hp4 : (0 : Int) < 10 ^ i := Int.pow_pos (by decide)
      have hp5 : (10 : Int) ^ i < 100000 := by
        have : i = 0 ∨ i = 1 ∨ i = 2 ∨ i = 3 := by omega
        rcases this with rfl | rfl | rfl | rfl <;> decide
      rw [ei]
      exact ev_itemL (ds := menuT.map dS) (k := ((m.fdiv 5).fdiv (10 ^ i)).fmod 10) (ev_name ⟨rfl, ok.g, ok.b⟩ rfl) (ev_mod (ev_div (ev_div (ev_name ⟨rfl, ok.g, ok.b⟩ rfl) ev_int (by decide) (by decide)) (ev_pow ev_int (Ev.eq (ev_name ⟨rfl, ok.g, ok.b⟩ rfl) (by rw [Int.zero_add])) (.inr rfl) (by omega)) hp4 hp5) ev_int (by decide)) q0 (get_of q0 q1 rfl) (by simp [menuT])
    · unfold rangeD; rw [List.length_map, List.length_range, sizeLine_eq]; omega
    · rw [List.filter_eq_self.mpr (fun _ _ => rfl), rangeD_map, ← list_dS]
      unfold piecesOf
      rw [List.map_map, show (m.fmod 5 - 0).toNat = (m.fmod 5).toNat by simp]
      congr 1
      refine List.map_congr_left fun i _ => ?_
      show dS (pieceAt m (0 + (i : Int)).toNat) = dS (pieceAt m i)
      rw [show (0 + (i : Int)).toNat = i by omega]
    · have h2 : ∀ ls : List (List Nat), (∀ x ∈ ls, x.length ≤ 5) → (((ls.map T).map (·.length)).sum) ≤ 5 * ls.length := by
        intro ls
        induction ls with
        | nil => intro _; simp
        | cons x r ih =>
          intro h
          have := ih fun y hy => h y (List.mem_cons_of_mem _ hy)
          have := h x (by simp)
          rw [List.map_cons, List.map_cons, List.sum_cons, T_len, List.length_cons]; omega
      have h3 := h2 (piecesOf m) fun x hx => by
        obtain ⟨i, _, rfl⟩ := List.mem_map.mp hx
        exact pieceAt_len m i
      have h4 : (Str.ofString "").length = 0 := by decide +kernel
      rw [h4, List.length_map]; omega
    · rw [lit_empty, tjoin_T0]; rfl
    exact law_checks hA ok N (patOf_len m)
end
end Mine

namespace Mine
theorem room_caller : Room callerA 5 := ⟨rfl, by decide +kernel, by decide +kernel⟩
theorem post_ok (xs : List Int) : PySem.Challenge.rw_nz0280_01.row.claim.post [ofPy (PyData.list (List.map PyData.int xs))] (ofPy (PyData.bool true)) [ofPy (PyData.list (List.map PyData.int xs))] = true := by
  wrow_post

/-- the walk of the row, over any view of the program that shows its defs, its texts and no other name of mine -/
theorem walk {V : Program} {XP : (Str → Option Value) → Heap → Prop} {YP : World → Heap → Prop} {d : DefRec} {kwd : List (Str × PySem.Expr)} (hn : d.name = "law") (hrecs : recsOf V = recsOf PW)
    (hconst : ∀ x ∈ (["DELIMITER", "INBOX", "WILD_SIGNS"] : List Str), valOf V x = valOf PW x)
    (hfree : (["len", "range", "sorted", "list", "dict", "ord", "chr"] : List Str).all (fun x => !startupNames.contains x && !(looseW V []).contains x && !((recsOf V).map (·.name)).contains x && !((litsOf V).map (·.1)).contains x && !((clssOf V (looseW V [])).map (·.name)).contains x) = true) :
    WalkO V [] XP YP PySem.Challenge.rw_nz0280_01.row.toRowW d kwd (fun f vs => PySem.call f vs) := by
  intro w s₀ s₁ mg mb G Y fa o pm cd doc dV kV ho hd hcd hD hmg hg args vals as hpre hlay hrd hwl hlo
  rw [hn] at hmg
  clear Y hD hcd hd ho hn
  refine Ground.open G ?_
  intro T B D TE TW
  wrow_args hpre hlay hrd hwl hlo
  rename_i xs hs hlay0 hL1 hr1 hl2 as4 as3 l vs as0 hL ra w1 r0 hI hr hc hc2
  have hx : xs.length ≤ 63 := by have : ¬ ((63 : Int) < (xs.length : Int)) := hc; omega
  have Bs1 : Bs w mg s₁.heap := {
    g := T.g
    b := ⟨mb, T.b, T.builtins⟩
    nl := T.nolimit
    fn := fun d hd => T.fn d (by rw [hrecs]; exact hd)
    const := fun x hx d e => T.const x d (by rw [hconst x hx]; exact e)
    free := fun x hx => by
      have h := List.all_eq_true.mp hfree x hx
      simp only [Bool.and_eq_true, Bool.not_eq_true', ← Bool.not_eq_true, List.contains_iff_mem] at h
      obtain ⟨⟨⟨⟨h1, h2⟩, h3⟩, h4⟩, h5⟩ := h
      exact T.free x h1 h2 h3 h4 h5 }
  refine (fn_law hx).go callerA s₁ _ _ [.ref l] fa room_caller Bs1 hmg (.cons ⟨l, vs.toArray, rfl, hL, intsAre_reads hI⟩ .nil) fun v s' k r n => ?_
  have hv : v = .bool true := by cases r; rfl
  subst hv
  refine ⟨.inl ⟨_, ofPy (.bool true), [], rfl, fun cls => rfl, .bool true, post_ok xs, fun _ => ⟨.nil, fun a ha => by cases ha⟩⟩, .of_keep k.heap, ?_, ?_⟩
  · obtain ⟨⟨h, t, rfl⟩, _⟩ := k; rfl
  · obtain ⟨⟨h, t, rfl⟩, _⟩ := k; exact .of_eq hg
end Mine

set_option maxRecDepth 100000 in
set_option maxHeartbeats 8000000 in
theorem PySem.Challenge.cw_nz0280_01_holds : PySem.Challenge.rw_nz0280_01.Holds := by
  w_on
  o_law
  k_head
  (case hw => w_witness2)
  refine Mine.walk rfl ?_ ?_ ?_
  · kernel_rfl
  · intro x hx
    simp only [List.mem_cons, List.not_mem_nil, or_false] at hx
    rcases hx with rfl | rfl | rfl <;> kernel_rfl
  · kernel_rfl
