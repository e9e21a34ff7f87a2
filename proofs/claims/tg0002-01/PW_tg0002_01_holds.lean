import PyProof.Rows.All
import Wide.All
import OpenK.AllK
import Wide.FinOn
import PySem.Challenge.RW_tg0002_01
set_option Elab.async false
set_option maxRecDepth 100000
local macro_rules | `(tactic| walk_at "lk") => `(tactic| first | with_reducible assumption | exact if_pos rfl | ((refine (if_neg (by decide)).trans ?_); walk_at "lk") | rfl)

noncomputable section
namespace Mine
open PySem PySem.W PySem.Calls PyProof.Rows

def item (n : Nat) : DefItem := match PySem.Challenge.pw_tg0002_01.main.body[n]? with
  | some (.FunctionDef name args body _ _ _ scope _ _ pos) => ⟨name, args, body, scope, pos⟩
  | _ => ⟨Str.ofString "", ⟨[], [], none, [], [], none, []⟩, [], { kind := .function, names := [], isGenerator := false, isCoroutine := false, more := [] }, default⟩

def items : List DefItem := [item 3, item 4, item 5, item 6, item 7, item 9, item 10, item 11, item 12]

abbrev Ext (h h' : Heap) : Prop := ∀ b o, h.get? b = some o → h'.get? b = some o

/-- what the top gives: the nine functions, the built-in names -/
structure TopF (mg mb : Str → Option Value) (h : Heap) : Prop where
  g : h.Ns mainGlobals mg
  b : h.Ns builtinsNs mb
  nolimit : h.NoLimit
  made : ∀ d ∈ items, ∃ a o pm doc cd, mg d.name = some (.ref a) ∧ h.get? a = some o ∧
      o.data = .func (docDef d.name d.params d.body d.scope pm cd doc) ∧ h.CodeRec cd d.name
  free : ∀ x ∈ ([Str.ofString "len", Str.ofString "range", Str.ofString "list", Str.ofString "abs", Str.ofString "int", Str.ofString "enumerate"] : List Str), mg x = none ∧ mb x = bootBuiltins x

theorem TopF.ext {mg mb : Str → Option Value} {h h' : Heap} (T : TopF mg mb h) (k : Ext h h') : TopF mg mb h' where
  g := T.g.keeps k
  b := T.b.keeps k
  nolimit := T.nolimit.keeps k
  made := fun d hd => let ⟨a, o, pm, doc, cd, h1, h2, h3, h4⟩ := T.made d hd; ⟨a, o, pm, doc, cd, h1, k _ _ h2, h3, h4.keeps k⟩
  free := T.free

/-- kinds of objects -/
def isDict (o : Obj) : Bool := match o.data with | .dict .. => true | _ => false
def isSeq (o : Obj) : Bool := match o.data with | .seq .. => true | _ => false
def isFields (o : Obj) : Bool := match o.data with | .fields .. => true | _ => false
/-- all but dicts kept: what a store into a name does -/
def DK (h h' : Heap) : Prop := ∀ b o, h.get? b = some o → isDict o = false → h'.get? b = some o
/-- records (iterators, ranges) kept -/
def NK (h h' : Heap) : Prop := ∀ b o, h.get? b = some o → isFields o = true → h'.get? b = some o
theorem DK.refl (h : Heap) : DK h h := fun _ _ e _ => e
theorem NK.refl (h : Heap) : NK h h := fun _ _ e _ => e
theorem DK.trans {a b c : Heap} (x : DK a b) (y : DK b c) : DK a c := fun i o e k => y i o (x i o e k) k
theorem NK.trans {a b c : Heap} (x : NK a b) (y : NK b c) : NK a c := fun i o e k => y i o (x i o e k) k
theorem DK.of_ext {h h' : Heap} (x : Ext h h') : DK h h' := fun b o e _ => x b o e
theorem DK.nk {h h' : Heap} (x : DK h h') : NK h h' := fun b o e k => x b o e (by unfold isFields at k; unfold isDict; split at k <;> simp_all)
theorem DK.of_ns {h h' : Heap} {L : Addr} {m} (hn : h.Ns L m) (hs : Heap.SameBut L h h') : DK h h' := fun b o e k => by
  refine (hs.2 b ?_).trans e
  rintro rfl
  obtain ⟨o', es, ep, ho, hd, _⟩ := hn
  rw [e] at ho; cases ho
  simp [isDict, hd] at k
theorem NK.of_list {h h' : Heap} {l : Addr} {vs} (hn : h.IsList l vs) (hs : Heap.SameBut l h h') : NK h h' := fun b o e k => by
  refine (hs.2 b ?_).trans e
  rintro rfl
  obtain ⟨o', ho, _, n, hd⟩ := hn
  rw [e] at ho; cases ho
  simp [isFields, hd] at k
theorem IsList.dk {h h' : Heap} {a vs} (x : h.IsList a vs) (k : DK h h') : h'.IsList a vs :=
  let ⟨o, ho, hc, n, hd⟩ := x; ⟨o, k _ _ ho (by simp [isDict, hd]), hc, n, hd⟩
theorem IsList.sb {h h' : Heap} {a b vs} (x : h.IsList a vs) (k : Heap.SameBut b h h') (hne : a ≠ b) : h'.IsList a vs :=
  let ⟨o, ho, r⟩ := x; ⟨o, (k.2 a hne).trans ho, r⟩
theorem IsList.ext {h h' : Heap} {a vs} (x : h.IsList a vs) (k : Ext h h') : h'.IsList a vs :=
  let ⟨o, ho, r⟩ := x; ⟨o, k _ _ ho, r⟩
theorem IsCell.dk {h h' : Heap} {c v} (x : h.IsCell c v) (k : DK h h') : h'.IsCell c v :=
  let ⟨o, ho, hd⟩ := x; ⟨o, k _ _ ho (by simp [isDict, hd]), hd⟩

theorem ite_t {X Y : Prop} (h : X) : if true = true then X else Y := by rw [if_pos rfl]; exact h
theorem ite_f {X Y : Prop} (h : Y) : if false = true then X else Y := by rw [if_neg (by decide)]; exact h
theorem ite_bt {b : Bool} {X Y : Prop} (e : b = true) (h : X) : if b = true then X else Y := by rw [if_pos e]; exact h
theorem ite_bf {b : Bool} {X Y : Prop} (e : b = false) (h : Y) : if b = true then X else Y := by rw [if_neg (by rw [e]; decide)]; exact h

section
variable {prog : Program} {w : World} {A : Around} {E : Value → Shared → Prop} {s : Shared} {env : Env} {mg mb : Str → Option Value}

theorem nm {x : Str} {pos : Pos} {m : Str → Option Value} {v : Value} {Q : Value → Shared → Prop} (hn : s.heap.Ns env.locals m) (hv : m x = some v) (h : Q v s)
    (hk : env.scope.kind = .function := by rfl) (hl : env.kindOf x = some .local := by rfl) (hd : (x == ("__debug__" : Str)) = false := by decide) :
    wpAny (model prog w) A (eval (.Name x pos) env) Q E s := wpAny_Name (wpAny_loadName_local hk hl hn hv h) hd
theorem nmC {x : Str} {pos : Pos} {c : Addr} {v : Value} {Q : Value → Shared → Prop} (hc : env.cells.lookup x = some c) (hv : s.heap.IsCell c (some v)) (h : Q v s)
    (hk : env.scope.kind = .function := by rfl) (hl : env.kindOf x = some .cell := by rfl) (hd : (x == ("__debug__" : Str)) = false := by decide) :
    wpAny (model prog w) A (eval (.Name x pos) env) Q E s := wpAny_Name (wpAny_loadName_cell hk hl hc hv h) hd
theorem nmF {x : Str} {pos : Pos} {c : Addr} {v : Value} {Q : Value → Shared → Prop} (hc : env.cells.lookup x = some c) (hv : s.heap.IsCell c (some v)) (h : Q v s)
    (hk : env.scope.kind = .function := by rfl) (hl : env.kindOf x = some .free := by rfl) (hd : (x == ("__debug__" : Str)) = false := by decide) (hd2 : (x == ("__classdict__" : Str)) = false := by decide) :
    wpAny (model prog w) A (eval (.Name x pos) env) Q E s := wpAny_Name (wpAny_loadName_free hk hl hc hv h hd2) hd
theorem nmB {x : Str} {pos : Pos} {v : Value} {Q : Value → Shared → Prop} (T : TopF mg mb s.heap) (hx : x ∈ ([Str.ofString "len", Str.ofString "range", Str.ofString "list", Str.ofString "abs", Str.ofString "int", Str.ofString "enumerate"] : List Str))
    (hb : bootBuiltins x = some v) (h : Q v s) (hk : env.scope.kind = .function := by rfl) (hl : env.kindOf x = some .globalImplicit := by rfl)
    (hg : env.globals = mainGlobals := by rfl) (hbn : env.builtins = builtinsNs := by rfl) (hd : (x == ("__debug__" : Str)) = false := by decide) :
    wpAny (model prog w) A (eval (.Name x pos) env) Q E s :=
  Name_function_global hk hl (loadGlobal_builtin (hg ▸ T.g) (T.free x hx).1 (hbn ▸ T.b) ((T.free x hx).2.trans hb) h) hd
theorem nmG {x : Str} {pos : Pos} {v : Value} {Q : Value → Shared → Prop} (T : TopF mg mb s.heap) (hm : mg x = some v) (h : Q v s)
    (hk : env.scope.kind = .function := by rfl) (hl : env.kindOf x = some .globalImplicit := by rfl) (hg : env.globals = mainGlobals := by rfl) (hd : (x == ("__debug__" : Str)) = false := by decide) :
    wpAny (model prog w) A (eval (.Name x pos) env) Q E s :=
  Name_function_global hk hl (loadGlobal_global (hg ▸ T.g) hm h) hd

/-- a store into a local name -/
theorem stL {x : Str} {m : Str → Option Value} {v : Value} {Q : Unit → Shared → Prop} (hn : s.heap.Ns env.locals m)
    (h : ∀ h', h'.Ns env.locals (fun y => if y = x then some v else m y) → Heap.SameBut env.locals s.heap h' → Q () { s with heap := h', toks := s.toks + 1 })
    (hk : env.scope.kind = .function := by rfl) (hl : env.kindOf x = some .local := by rfl) : wpAny (model prog w) A (storeName env x v) Q E s :=
  wpAny_storeName_local hl hn h (by show (env.scope.kind == .class || (env.scope.kind == .module && env.locals != env.globals)) = false; rw [hk]; rfl)
end

end Mine

end
noncomputable section
namespace Mine
open PySem PySem.W PySem.Calls PyProof.Rows

def isCell (o : Obj) : Bool := match o.data with | .cell .. => true | _ => false
/-- lists, tuples and cells kept -/
def SK (h h' : Heap) : Prop := ∀ b o, h.get? b = some o → (isSeq o = true ∨ isCell o = true) → h'.get? b = some o
theorem SK.refl (h : Heap) : SK h h := fun _ _ e _ => e
theorem SK.trans {a b c : Heap} (x : SK a b) (y : SK b c) : SK a c := fun i o e k => y i o (x i o e k) k
theorem SK.of_ext {h h' : Heap} (x : Ext h h') : SK h h' := fun b o e _ => x b o e
theorem DK.sk {h h' : Heap} (x : DK h h') : SK h h' := fun b o e k => x b o e (by
  unfold isSeq isCell at k; unfold isDict; rcases k with k | k <;> (split at k <;> simp_all))
theorem IsList.sk {h h' : Heap} {a vs} (x : h.IsList a vs) (k : SK h h') : h'.IsList a vs :=
  let ⟨o, ho, hc, n, hd⟩ := x; ⟨o, k _ _ ho (.inl (by simp [isSeq, hd])), hc, n, hd⟩
theorem IsCell.sk {h h' : Heap} {c v} (x : h.IsCell c v) (k : SK h h') : h'.IsCell c v :=
  let ⟨o, ho, hd⟩ := x; ⟨o, k _ _ ho (.inr (by simp [isCell, hd])), hd⟩
theorem NK.of_ext {h h' : Heap} (x : Ext h h') : NK h h' := fun b o e _ => x b o e

section
variable {prog : Program} {w : World} {A : Around} {E : Value → Shared → Prop} {s : Shared} {env : Env}

/-- a for over a range by ones -/
theorem iter_rng {x : Str} {px : Pos} {body : List Stmt} {r : Addr} {a b : Int} {t u v : Tok} {g : Heap} {m₀ : Str → Option Value} {Q : Flow → Shared → Prop} (n : Nat)
    (P : Nat → (Str → Option Value) → Heap → Prop)
    (hh : A.handled = none) (hr : IsRange s.heap r a b 1 t u v) (hn : (n : Int) = if a < b then b - a else 0)
    (ha : -(2 ^ 62) ≤ a ∧ a < 2 ^ 62) (hb : -(2 ^ 62) ≤ b ∧ b < 2 ^ 62) (F : Fr g env.locals s.heap m₀)
    (st : ∀ i m h h', P i m h → SK h h' → P i m h') (h0 : P 0 m₀ s.heap)
    (turn : ∀ i h tk m, i < n → Fr g env.locals h (fun y => if y = x then some (.int (a + i) tk) else m y) → P i m h →
      wpAny (model prog w) A (execs body env) (fun f s₃ => match f with
        | .next | .cont => ∃ h' tk' m', s₃ = { s with heap := h', toks := tk' } ∧ Fr g env.locals h' m' ∧ NK h h' ∧ P (i + 1) m' h'
        | .brk => Q .next s₃
        | .ret v => Q (.ret v) s₃) (fun _ _ => False) { s with heap := h, toks := tk + 1 + 1 })
    (done : ∀ h tk m, Fr g env.locals h m → NK s.heap h → P n m h → Q .next { s with heap := h, toks := tk })
    (hk : env.scope.kind = .function := by rfl) (hx : env.kindOf x = some .local := by rfl) :
    wpAny (model prog w) A (pyIter (.ref r)) (fun it s₂ =>
      codeAny (model prog w) A (.forLoop (.Name x px) it body [] env) (fun r s' => match r with | .ok f => Q f s' | .error e => cameBackBy (model prog w) A env E e s') s₂) E s := by
  have hp : (env.scope.kind == .class || (env.scope.kind == .module && env.locals != env.globals)) = false := by rw [hk]; rfl
  have hrs : Builtin.Range.rangeSize a b 1 = n := by rw [rangeSize_one, hn]
  refine wpAny_pyIter_range hr (small_one ha.1 ha.2 hb.1 hb.2) ?_
  rw [hrs]
  have hItg : g.get? s.heap.objs.size = none := by
    cases e : g.get? s.heap.objs.size with
    | none => rfl
    | some o => exact absurd (Heap.lt_size (F.keep _ _ e)) (Nat.lt_irrefl _)
  have hItL : s.heap.objs.size ≠ env.locals := Nat.ne_of_gt F.ns.lt
  generalize hI : s.heap.objs.size = I at hItg hItL
  have hIs : ∀ b o, s.heap.get? b = some o → b ≠ I := fun b o e => hI ▸ Nat.ne_of_lt (Heap.lt_size e)
  refine codeAny_forLoop (R := fun r s' => match r with | .ok f => Q f s' | .error e => cameBackBy (model prog w) A env E e s')
    (fun k s' => ∃ h' tk m' i, s' = { s with heap := h', toks := tk } ∧ IsRangeIter h' I (a + (i : Nat)) ((n : Int) - (i : Nat)) 1 ∧ Fr g env.locals h' m' ∧ P i m' h' ∧ i ≤ n ∧ k = n + 1 - i ∧
      ∀ b o, s.heap.get? b = some o → isFields o = true → h'.get? b = some o) ?_ (n + 1)
    ⟨_, s.toks, m₀, 0, rfl, by rw [← hI]; simpa using Heap.get?_push_size _ rfl, F.push _, st _ _ _ _ h0 fun b o e _ => Heap.get?_push_of_some _ e, Nat.zero_le _, rfl, fun b o e _ => Heap.get?_push_of_some _ e⟩
  rintro k s' ⟨h', tk, m', i, rfl, hit', F', hP, hi, rfl, hk'⟩
  by_cases hlt : i < n
  · refine wpAny_pyNext_range_item hit' (by omega) fun h₁ hit₁ hs₁ => ?_
    have hP₁ : P i m' h₁ := st _ _ _ _ hP fun b o e kk => (hs₁.2 b (by
      rintro rfl; rw [hit'] at e; cases e; simp [isSeq, isCell] at kk)).trans e
    have F₁ : Fr g env.locals h₁ m' := ⟨F'.ns.sameBut hs₁ (Ne.symm hItL), fun b o e => (hs₁.2 b (by rintro rfl; rw [hItg] at e; cases e)).trans (F'.keep b o e), F'.above⟩
    refine wpAny_assign_Name (wpAny_storeName_local hx F₁.ns (fun h₂ hn₂ hs₂ => ?_) hp)
    have hd := DK.of_ns F₁.ns hs₂
    refine wpAny_mono (turn i h₂ tk m' hlt (F₁.set hn₂ hs₂) (st _ _ _ _ hP₁ hd.sk)) (fun f s₃ h₃ => ?_) fun _ _ e => e.elim
    have fin : (∃ h' tk' m', s₃ = { s with heap := h', toks := tk' } ∧ Fr g env.locals h' m' ∧ NK h₂ h' ∧ P (i + 1) m' h') → ∃ m, m < n + 1 - i ∧ (∃ h' tk m' i, s₃ = { s with heap := h', toks := tk } ∧ IsRangeIter h' I (a + (i : Nat)) ((n : Int) - (i : Nat)) 1 ∧ Fr g env.locals h' m' ∧ P i m' h' ∧ i ≤ n ∧ m = n + 1 - i ∧
      ∀ b o, s.heap.get? b = some o → isFields o = true → h'.get? b = some o) := by
      rintro ⟨h₃', tk₃, m₂, rfl, F₃, nk, hP₃⟩
      refine ⟨n + 1 - (i + 1), by omega, h₃', tk₃, m₂, i + 1, rfl, ?_, F₃, hP₃, hlt, rfl, fun b o e kk => nk b o ((hd.nk b o ((hs₁.2 b (hIs b o e)).trans (hk' b o e kk)) kk)) kk⟩
      have e1 : a + ((i + 1 : Nat) : Int) = a + (i : Int) + 1 := by push_cast; omega
      have e2 : (n : Int) - ((i + 1 : Nat) : Int) = (n : Int) - (i : Int) - 1 := by push_cast; omega
      rw [e1, e2]
      exact nk _ _ (hd.nk _ _ hit₁ rfl) rfl
    cases f with
    | next => exact fin h₃
    | cont => exact fin h₃
    | brk => exact h₃
    | ret v => exact h₃
  · have hin : i = n := by omega
    subst hin
    refine wpAny_pyNext_range_end hh hit' (by omega) fun h₁ he₁ => wpAny_execs_nil ?_
    refine done h₁ tk m' ⟨F'.ns.extBut he₁ (Ne.symm hItL), fun b o e => he₁ b o (by rintro rfl; rw [hItg] at e; cases e) (F'.keep b o e), F'.above⟩ (fun b o e kk => he₁ b o (hIs b o e) (hk' b o e kk)) (st _ _ _ _ hP fun b o e kk => he₁ b o (by
      rintro rfl; rw [hit'] at e; cases e; simp [isSeq, isCell] at kk) e)

theorem eval_range1 {e : Expr} {pos pos' : Pos} {Q : Value → Shared → Prop} {mg mb : Str → Option Value} (T : TopF mg mb s.heap)
    (h : wpAny (model prog w) A (eval e env) (fun v s₁ => ∃ n t, v = .int n t ∧ Q (.ref s₁.heap.objs.size) { s₁ with heap := s₁.heap.push { cls := .type "range", data := .fields #[.int 0 s₁.toks, .int n t, .int 1 (s₁.toks + 1)] }, toks := s₁.toks + 1 + 1 }) E s)
    (hk : env.scope.kind = .function := by rfl) (hl : env.kindOf (Str.ofString "range") = some .globalImplicit := by rfl)
    (hg : env.globals = mainGlobals := by rfl) (hbn : env.builtins = builtinsNs := by rfl) (he : starEach [e] env = (false, eval e env) :: starEach [] env := by rfl) :
    wpAny (model prog w) A (eval (.Call (.Name (Str.ofString "range") pos') [e] [] pos) env) Q E s := by
  refine Call_ (nmB T (by decide) (by rfl) ?_ hk hl hg hbn)
  refine callWith_type1 (args_cons (wpAny_mono h (fun v s₁ h₁ => args_nil ?_) fun _ _ x => x) he) he
  obtain ⟨n, t, rfl, hq⟩ := h₁
  exact call_range_1 hq
end
end Mine

end
noncomputable section
namespace Mine
open PySem PySem.W PySem.Calls PyProof.Rows

/-- a list of ints at r: w of them, the j-th is f j -/
def RowAt (h : Heap) (r : Addr) (w : Nat) (f : Nat → Int) : Prop := ∃ vs : List Value, h.IsList r vs.toArray ∧ vs.length = w ∧ ∀ j, j < w → ∃ t, vs[j]? = some (.int (f j) t)
/-- a list of lists of ints -/
structure MatAt (h : Heap) (a : Addr) (rs : List Addr) (n k : Nat) (f : Nat → Nat → Int) : Prop where
  top : h.IsList a (rs.map Value.ref).toArray
  len : rs.length = n
  row : ∀ i r, rs[i]? = some r → RowAt h r k (f i)

theorem RowAt.sk {h h' : Heap} {r w f} (x : RowAt h r w f) (k : SK h h') : RowAt h' r w f := let ⟨vs, a, b, c⟩ := x; ⟨vs, IsList.sk a k, b, c⟩
theorem RowAt.sb {h h' : Heap} {r b w f} (x : RowAt h r w f) (k : Heap.SameBut b h h') (hne : r ≠ b) : RowAt h' r w f := let ⟨vs, a, b, c⟩ := x; ⟨vs, IsList.sb a k hne, b, c⟩
theorem RowAt.congr {h : Heap} {r w f f'} (x : RowAt h r w f) (e : ∀ j, j < w → f j = f' j) : RowAt h r w f' := let ⟨vs, a, b, c⟩ := x; ⟨vs, a, b, fun j hj => by rw [← e j hj]; exact c j hj⟩
theorem MatAt.sk {h h' : Heap} {a rs n k f} (x : MatAt h a rs n k f) (s : SK h h') : MatAt h' a rs n k f := ⟨IsList.sk x.top s, x.len, fun i r hr => (x.row i r hr).sk s⟩
theorem MatAt.ext {h h' : Heap} {a rs n k f} (x : MatAt h a rs n k f) (s : Ext h h') : MatAt h' a rs n k f := x.sk (.of_ext s)
theorem MatAt.congr {h : Heap} {a rs n k f f'} (x : MatAt h a rs n k f) (e : ∀ i j, i < n → j < k → f i j = f' i j) : MatAt h a rs n k f' :=
  ⟨x.top, x.len, fun i r hr => (x.row i r hr).congr fun j hj => e i j (by have := (List.getElem?_eq_some_iff.mp hr).1; rw [x.len] at this; exact this) hj⟩

/-- an answer: a value, a new heap -/
def Ret (s : Shared) (Post : Value → Heap → Prop) (r : Result) (s' : Shared) : Prop := ∃ v h' tk, r = .ok (.ret v) ∧ s' = { s with heap := h', toks := tk } ∧ Post v h'

section
variable {prog : Program} {w : World} {A : Around} {E : Value → Shared → Prop} {s : Shared} {env : Env} {mg mb : Str → Option Value}

theorem item_l {value slice : Expr} {l : Addr} {vs : List Value} {k : Int} {j : Nat} {u : Tok} {x : Value} {Q : Value → Shared → Prop} (hl : s.heap.IsList l vs.toArray)
    (hk : k = (j : Int)) (hj : j < 2 ^ 62) (hx : vs[j]? = some x) (h : Q x s)
    (hs : subscripted slice false (.ref l) (.int k u) = operate [.ref l, .int k u] (getItem (.ref l) (.int k u)) := by with_unfolding_all rfl) :
    wpAny (model prog w) A (subscriptTail value slice (.ref l) (.int k u)) Q E s := by
  subst hk
  exact tail_any hl.typeIs slot_list_getitem.lookup (wpAny_getItem_list hl (by omega) (by omega) (by simpa using hx) h) hs

theorem len_l {l : Addr} {vs : List Value} {n : Nat} {Q : Value → Shared → Prop} (hl : s.heap.IsList l vs.toArray) (hn : vs.length = n) (hb : n < 2 ^ 62) (h : Q (.int n (s.toks + 1)) { s with toks := s.toks + 1 + 1 }) :
    wpAny (model prog w) A (call (.builtin "len") [.ref l]) Q E s := by
  subst hn
  have := call_len_list (prog := prog) (w := w) (A := A) (E := E) (Q := Q) hl (by simp; omega)
  simp only [List.size_toArray] at this
  exact this h

/-- m[i][j] -/
theorem mat_get {x : Expr} {i j : Expr} {p1 p2 : Pos} {a : Addr} {rs : List Addr} {n k : Nat} {f : Nat → Nat → Int} {ii jj : Nat} {z : Int} {Q : Value → Shared → Prop} (M : MatAt s.heap a rs n k f) (hz : f ii jj = z)
    (hn : n < 2 ^ 62) (hk : k < 2 ^ 62) (hi : ii < n) (hj : jj < k)
    (hx : ∀ Q' : Value → Shared → Prop, Q' (.ref a) s → wpAny (model prog w) A (eval x env) Q' E s)
    (hei : ∀ Q' : Value → Shared → Prop, (∀ t v, v = (ii : Int) → Q' (.int v t) s) → wpAny (model prog w) A (eval i env) Q' E s)
    (hej : ∀ Q' : Value → Shared → Prop, (∀ t v, v = (jj : Int) → Q' (.int v t) s) → wpAny (model prog w) A (eval j env) Q' E s)
    (h : ∀ t, Q (.int z t) s)
    (hs : ∀ l v u, subscripted i false (.ref l) (.int v u) = operate [.ref l, .int v u] (getItem (.ref l) (.int v u)) := by intros; with_unfolding_all rfl)
    (hs' : ∀ l v u, subscripted j false (.ref l) (.int v u) = operate [.ref l, .int v u] (getItem (.ref l) (.int v u)) := by intros; with_unfolding_all rfl) :
    wpAny (model prog w) A (eval (.Subscript (.Subscript x i p1) j p2) env) Q E s := by
  have hr : rs[ii]? = some (rs[ii]'(by rw [M.len]; exact hi)) := List.getElem?_eq_getElem _
  obtain ⟨vs, hl, hlen, hv⟩ := M.row ii _ hr
  obtain ⟨t, ht⟩ := hv jj hj
  refine Subscript_ (Subscript_ (hx _ (hei _ fun t1 v1 e1 => ?_)))
  refine item_l M.top e1 (by omega) (x := .ref (rs[ii]'(by rw [M.len]; exact hi))) (by rw [List.getElem?_map, hr]; rfl) ?_ (hs _ _ _)
  refine hej _ fun t2 v2 e2 => ?_
  exact item_l hl e2 (by omega) ht (hz ▸ h t) (hs' _ _ _)

theorem eval_range2 {e₁ e₂ : Expr} {pos pos' : Pos} {Q : Value → Shared → Prop} (T : TopF mg mb s.heap)
    (h : wpAny (model prog w) A (eval e₁ env) (fun v₁ s₁ => wpAny (model prog w) A (eval e₂ env) (fun v₂ s₂ => ∃ a t b u, v₁ = .int a t ∧ v₂ = .int b u ∧
      Q (.ref s₂.heap.objs.size) { s₂ with heap := s₂.heap.push { cls := .type "range", data := .fields #[.int a t, .int b u, .int 1 s₂.toks] }, toks := s₂.toks + 1 }) E s₁) E s)
    (hk : env.scope.kind = .function := by rfl) (hl : env.kindOf (Str.ofString "range") = some .globalImplicit := by rfl)
    (hg : env.globals = mainGlobals := by rfl) (hbn : env.builtins = builtinsNs := by rfl) (he : starEach [e₁, e₂] env = (false, eval e₁ env) :: starEach [e₂] env := by rfl)
    (he' : starEach [e₂] env = (false, eval e₂ env) :: starEach [] env := by rfl) :
    wpAny (model prog w) A (eval (.Call (.Name (Str.ofString "range") pos') [e₁, e₂] [] pos) env) Q E s := by
  refine Call_ (nmB T (by decide) (by rfl) ?_ hk hl hg hbn)
  refine callWith_type1 (args_cons (wpAny_mono h (fun v s₁ h₁ => args_cons (wpAny_mono h₁ (fun v₂ s₂ h₂ => args_nil ?_) fun _ _ x => x) he') fun _ _ x => x) he) he (by rw [he']; rfl)
  obtain ⟨a, t, b, u, rfl, rfl, hq⟩ := h₂
  exact call_range_2 hq

theorem eval_len {e : Expr} {pos pos' : Pos} {Q : Value → Shared → Prop} (T : TopF mg mb s.heap)
    (h : wpAny (model prog w) A (eval e env) (fun v s₁ => ∃ l vs n, v = .ref l ∧ s₁.heap.IsList l (vs : List Value).toArray ∧ vs.length = n ∧ n < 2 ^ 62 ∧ Q (.int (n : Nat) (s₁.toks + 1)) { s₁ with toks := s₁.toks + 1 + 1 }) E s)
    (hk : env.scope.kind = .function := by rfl) (hl : env.kindOf (Str.ofString "len") = some .globalImplicit := by rfl)
    (hg : env.globals = mainGlobals := by rfl) (hbn : env.builtins = builtinsNs := by rfl) (he : starEach [e] env = (false, eval e env) :: starEach [] env := by rfl) :
    wpAny (model prog w) A (eval (.Call (.Name (Str.ofString "len") pos') [e] [] pos) env) Q E s := by
  refine Call_ (nmB T (by decide) (by rfl) ?_ hk hl hg hbn)
  refine callWith_builtin1 (args_cons (wpAny_mono h (fun v s₁ h₁ => args_nil ?_) fun _ _ x => x) he) he
  obtain ⟨l, vs, n, rfl, h1, h2, h3, hq⟩ := h₁
  exact len_l h1 h2 h3 hq
end
end Mine

end
noncomputable section
namespace Mine
open PySem PySem.W PySem.Calls PyProof.Rows

section
variable {prog : Program} {w : World} {A : Around} {E : Value → Shared → Prop} {s : Shared} {env : Env} {mg mb : Str → Option Value}

theorem pivot_spec {a : Addr} {rs : List Addr} {n k step : Nat} {f : Nat → Nat → Int} {t : Tok} {fa : Addr} (T : TopF mg mb s.heap) (hh : A.handled = none) (hd : A.depth < recursionLimit)
    (hf : mg (item 3).name = some (.ref fa)) (M : MatAt s.heap a rs n k f) (hn : n < 1000) (hk : k < 1000) (hs : step < k) (hsn : step ≤ n) :
    codeAny (model prog w) A (.call (.ref fa) ⟨[.ref a, .int step t], []⟩) (Ret s fun v h' => Ext s.heap h' ∧
      ((∃ r : Nat, step ≤ r ∧ r < n ∧ f r step ≠ 0 ∧ (∀ r', step ≤ r' → r' < r → f r' step = 0) ∧ ∃ t, v = .int r t) ∨ (v = .none ∧ ∀ r, step ≤ r → r < n → f r step = 0))) s := by
  obtain ⟨fa', o, pm, doc, cd, h1, h2, h3, h4⟩ := T.made (item 3) (by simp [items])
  rw [hf] at h1; cases h1
  refine call_plain_ret hd h2 h3 T.nolimit h4 (binds := [(Str.ofString "a", .ref a), (Str.ofString "step", .int step t)]) (by rfl) (locs (by rfl)) (fun h₁ F => ?_) (hcell := by decide)
  have M₁ := M.ext F.keep
  have T₁ := T.ext F.keep
  refine wpAny_execs_cons (wpAny_For (eval_range2 T₁ ?_))
  refine nm F.ns (by rfl) (eval_len T₁ (nm F.ns (by rfl) ⟨a, _, n, rfl, M₁.top, by rw [List.length_map, M.len], by omega, ?_⟩))
  refine ⟨_, _, _, _, rfl, rfl, ?_⟩
  refine iter_rng (n - step) (fun i m h => m (Str.ofString "a") = some (.ref a) ∧ m (Str.ofString "step") = some (.int step t) ∧ MatAt h a rs n k f ∧ ∀ j, j < i → f (step + j) step = 0) (g := s.heap) (m₀ := fun x =>
    List.lookup x [(Str.ofString "a", Value.ref a), (Str.ofString "step", Value.int (↑step) t)].reverse) hh (IsRange.new _ _ _ _ _ _ _) (by split <;> omega) (by omega) (by omega) (F.push _) ?_ ⟨by rfl, by rfl, (M₁.ext fun _ _ => Heap.get?_push_of_some _), fun _ h => absurd h (Nat.not_lt_zero _)⟩ ?_ ?_
  · rintro i m h h' ⟨h1, h2, h3, h4⟩ hk
    exact ⟨h1, h2, h3.sk hk, h4⟩
  · rintro i h tk m hi F' ⟨ha, hst, M', hz⟩
    refine wpAny_execs_cons (wpAny_If (wpAny_isTrue_Compare1 ?_))
    refine mat_get (ii := step + i) (jj := step) M' rfl (by omega) (by omega) (by omega) hs (fun Q' q => nm F'.ns (by simp only [ha]; rfl) q) (fun Q' q => nm F'.ns (by rfl) (q _ _ (by push_cast; rfl)))
      (fun Q' q => nm F'.ns (by simp only [hst]; rfl) (q _ _ rfl)) (fun t₁ => ?_)
    refine wpAny_Constant_int (ne_int (wpAny_truthy_bool ?_))
    by_cases hz0 : f (step + i) step = 0
    · refine ite_bf (by rw [hz0]; rfl) ?_
      try dsimp only
      refine wpAny_execs_nil (wpAny_execs_nil ?_)
      refine ⟨_, _, _, rfl, F', NK.refl _, ⟨ha, hst, M', fun j hj => ?_⟩⟩
      rcases Nat.lt_succ_iff_lt_or_eq.mp hj with h | h
      · exact hz j h
      · rw [h]; exact hz0
    · have hb : (f (step + i) step != 0) = true := by simpa using hz0
      refine ite_bt hb ?_
      try dsimp only
      refine wpAny_execs_cons (wpAny_Return_some (nm F'.ns (by rfl) ?_))
      exact ⟨_, _, _, rfl, rfl, F'.keep, .inl ⟨step + i, by omega, by omega, hz0, fun r' h1 h2 => by
        have := hz (r' - step) (by omega)
        rwa [show step + (r' - step) = r' from by omega] at this, _, by push_cast; rfl⟩⟩
  · rintro h tk m F' nk ⟨ha, hst, M', hz⟩
    refine wpAny_execs_cons (wpAny_Return_some (fun _ _ _ => ?_))
    refine ⟨_, _, _, rfl, rfl, F'.keep, .inr ⟨rfl, fun r h1 h2 => ?_⟩⟩
    have := hz (r - step) (by omega)
    rwa [show step + (r - step) = r from by omega] at this
end
end Mine

end
noncomputable section
namespace Mine
open PySem PySem.W PySem.Calls PyProof.Rows
open PySem.Builtin.Int (intBits)

def updF (f : Nat → Nat → Int) (i j : Nat) (v : Int) : Nat → Nat → Int := fun r c => if r = i ∧ c = j then v else f r c

theorem nodup_get {l : List Addr} (h : l.Nodup) {i j : Nat} {r : Addr} (hi : l[i]? = some r) (hj : l[j]? = some r) : i = j := by
  obtain ⟨li, ei⟩ := List.getElem?_eq_some_iff.mp hi
  obtain ⟨lj, ej⟩ := List.getElem?_eq_some_iff.mp hj
  have hp := List.pairwise_iff_getElem.mp h
  rcases Nat.lt_trichotomy i j with k | k | k
  · exact absurd (ei.trans ej.symm) (hp i j li lj k)
  · exact k
  · exact absurd (ej.trans ei.symm) (hp j i lj li k)

theorem RowAt.set {h' : Heap} {r w : Nat} {f : Nat → Int} {vs : List Value} {j : Nat} {v : Int} {t : Tok} (hlen : vs.length = w) (hv : ∀ j, j < w → ∃ t, vs[j]? = some (.int (f j) t))
    (hl' : h'.IsList r (vs.toArray.setIfInBounds j (.int v t))) : RowAt h' r w (fun c => if c = j then v else f c) := by
  refine ⟨vs.set j (.int v t), by simpa using hl', by simp [hlen], fun c hc => ?_⟩
  by_cases e : c = j
  · subst e
    exact ⟨t, by simp [hlen, hc]⟩
  · obtain ⟨t', ht⟩ := hv c hc
    exact ⟨t', by rw [List.getElem?_set_ne (Ne.symm e), ht]; simp [e]⟩

theorem MatAt.set {h h' : Heap} {a rs n k f} {i j : Nat} {r : Addr} {v : Int} (M : MatAt h a rs n k f) (hnd : rs.Nodup) (ha : a ∉ rs) (hi : rs[i]? = some r)
    (hr : RowAt h' r k (fun c => if c = j then v else f i c)) (hs : Heap.SameBut r h h') : MatAt h' a rs n k (updF f i j v) := by
  have hrm : r ∈ rs := List.mem_of_getElem? hi
  refine ⟨IsList.sb M.top hs (fun e => ha (e ▸ hrm)), M.len, fun i' r' hr' => ?_⟩
  by_cases e : i' = i
  · subst e
    rw [hi] at hr'; cases hr'
    exact hr.congr fun c _ => by unfold updF; by_cases hc : c = j <;> simp [hc]
  · have hne : r' ≠ r := by
      rintro rfl
      exact e (nodup_get hnd hr' hi)
    exact ((M.row i' r' hr').sb hs hne).congr fun c _ => by unfold updF; simp [e]

section
variable {prog : Program} {w : World} {A : Around} {E : Value → Shared → Prop} {s : Shared} {env : Env} {mg mb : Str → Option Value}

theorem mat_setItem {a : Addr} {rs : List Addr} {n k : Nat} {f : Nat → Nat → Int} {ii jj : Nat} {r : Addr} {v : Int} {t : Tok} {vj : Int} {tj : Tok} {Q : Unit → Shared → Prop} (M : MatAt s.heap a rs n k f) (hnd : rs.Nodup) (ha : a ∉ rs)
    (hi : rs[ii]? = some r) (hj : jj < k) (hk : k < 2 ^ 62) (ej : vj = (jj : Int))
    (h : ∀ h', MatAt h' a rs n k (updF f ii jj v) → Heap.SameBut r s.heap h' → NK s.heap h' → (∀ L m, s.heap.Ns L m → h'.Ns L m) → Q () { s with heap := h' }) :
    wpAny (model prog w) A (setItem (.ref r) (.int vj tj) (.int v t)) Q E s := by
  obtain ⟨vs, hl, hlen, hv⟩ := M.row ii r hi
  subst ej
  refine wpAny_setItem_list hl (by omega) (by omega) (by simp [hlen]; exact hj) fun h' hl' hs' => ?_
  rw [Int.toNat_natCast] at hl'
  refine h h' (M.set hnd ha hi (RowAt.set hlen hv hl') hs') hs' (NK.of_list hl hs') fun L m hn => hn.sameBut hs' ?_
  rintro rfl
  obtain ⟨o, es, ep, ho, hd, _⟩ := hn
  obtain ⟨o', ho', _, n', hd'⟩ := hl
  rw [ho] at ho'; cases ho'
  rw [hd] at hd'; cases hd'
end

/-- one step of Bareiss on the function -/
def stepF (f : Nat → Nat → Int) (k : Nat) (ahead : Int) : Nat → Nat → Int := fun r c =>
  if k < r then (if k < c then (f r c * f k k - f r k * f k c).fdiv ahead else if c = k then 0 else f r c) else f r c

theorem noPy {y : Int} (h : intBits y ≤ 9000) {x : Int} : Builtin.divisionGoesByPylong x y = false := by
  refine PyProof.noPylong_of_log2 ?_
  have h1 := PyProof.Rows.lt_pow_of_bits h (Nat.le_refl 9000)
  rcases Nat.eq_zero_or_pos y.natAbs with e | e
  · rw [e]; decide
  · exact (Nat.log2_lt (Nat.ne_of_gt e)).mpr h1
end Mine

end
noncomputable section
namespace Mine
open PySem PySem.W PySem.Calls PyProof.Rows
open PySem.Builtin.Int (intBits)

theorem st1 {f : Nat → Nat → Int} {k R j : Nat} {ah : Int} (h : k < R) (i' j' : Nat) :
    updF (fun r c => if r < R ∨ (r = R ∧ k < c ∧ c < k + 1 + j) then stepF f k ah r c else f r c) R (k + 1 + j) ((f R (k + 1 + j) * f k k - f R k * f k (k + 1 + j)).fdiv ah) i' j' =
      if i' < R ∨ (i' = R ∧ k < j' ∧ j' < k + 1 + (j + 1)) then stepF f k ah i' j' else f i' j' := by
  unfold updF
  by_cases e1 : i' = R ∧ j' = k + 1 + j
  · obtain ⟨rfl, rfl⟩ := e1
    rw [if_pos ⟨rfl, rfl⟩, if_pos (by omega)]
    unfold stepF
    rw [if_pos (by omega), if_pos (by omega)]
  · rw [if_neg e1]
    show ite _ _ _ = _
    by_cases e2 : i' < R ∨ (i' = R ∧ k < j' ∧ j' < k + 1 + j)
    · rw [if_pos e2, if_pos (by omega)]
    · rw [if_neg e2, if_neg (by omega)]

theorem st2 {f : Nat → Nat → Int} {k R E : Nat} {ah : Int} (h : k < R) (i' j' : Nat) (hj : j' < E) :
    updF (fun r c => if r < R ∨ (r = R ∧ k < c ∧ c < E) then stepF f k ah r c else f r c) R k 0 i' j' = if i' < R + 1 then stepF f k ah i' j' else f i' j' := by
  unfold updF
  by_cases e1 : i' = R ∧ j' = k
  · obtain ⟨rfl, rfl⟩ := e1
    rw [if_pos ⟨rfl, rfl⟩, if_pos (by omega)]
    unfold stepF
    rw [if_pos (by omega), if_neg (by omega), if_pos rfl]
  · rw [if_neg e1]
    show ite _ _ _ = _
    by_cases e2 : i' < R ∨ (i' = R ∧ k < j' ∧ j' < E)
    · rw [if_pos e2, if_pos (by omega)]
    · rw [if_neg e2]
      by_cases e3 : i' = R
      · rw [if_pos (by omega)]
        unfold stepF
        rw [if_pos (by omega), if_neg (by omega), if_neg (by omega)]
      · rw [if_neg (by omega)]

theorem TopF.hide {mg mb : Str → Option Value} {h : Heap} {l : List Addr} (T : TopF mg mb h) (hl : ∀ r ∈ l, ∃ vs, h.IsList r vs) : TopF mg mb (hideAll h l) := by
  have ns : ∀ {b m}, h.Ns b m → (hideAll h l).Ns b m := by
    rintro b m ⟨o, es, ep, ho, hd, r⟩
    refine ⟨o, es, ep, hideAll_get _ ho (fun hm => ?_), hd, r⟩
    obtain ⟨vs, o', ho', _, n, hd'⟩ := hl b hm
    rw [ho] at ho'; cases ho'; rw [hd] at hd'; cases hd'
  refine ⟨ns T.g, ns T.b, let ⟨mc, a, b⟩ := T.nolimit; ⟨mc, ns a, b⟩, fun d hd => ?_, T.free⟩
  obtain ⟨a, o, pm, doc, cd, h1, h2, h3, c, oc, vs, t, e, hc, hdc, q⟩ := T.made d hd
  refine ⟨a, o, pm, doc, cd, h1, hideAll_get _ h2 (fun hm => ?_), h3, c, oc, vs, t, e, hideAll_get _ hc (fun hm => ?_), hdc, q⟩
  · obtain ⟨vs, o', ho', _, n, hd'⟩ := hl a hm
    rw [h2] at ho'; cases ho'; rw [h3] at hd'; cases hd'
  · obtain ⟨vs, o', ho', _, n, hd'⟩ := hl c hm
    rw [hc] at ho'; cases ho'; rw [hdc] at hd'; cases hd'

theorem Fr.hideAll {h₀ h : Heap} {L : Addr} {m} (l : List Addr) (F : Fr h₀ L h m) : Fr (hideAll h₀ l) L h m := ⟨F.ns, fun b o e => F.keep b o (of_hideAll _ e), by rw [hideAll_size]; exact F.above⟩

/-- a change of an object that the base does not know -/
theorem Fr.chg {g h h' : Heap} {L r : Addr} {m} (F : Fr g L h m) (hr : g.get? r = none) (hs : Heap.SameBut r h h') (hn : ∀ L m, h.Ns L m → h'.Ns L m) : Fr g L h' m :=
  ⟨hn _ _ F.ns, fun b o e => (hs.2 b (by rintro rfl; rw [hr] at e; cases e)).trans (F.keep b o e), F.above⟩

section
variable {prog : Program} {w : World} {A : Around} {E : Value → Shared → Prop} {s : Shared} {env : Env} {mg mb : Str → Option Value}

set_option maxHeartbeats 1000000 in
theorem step_spec {a : Addr} {rs : List Addr} {n step : Nat} {f : Nat → Nat → Int} {t ta : Tok} {fa : Addr} {ahead : Int} {β : Nat} (T : TopF mg mb s.heap) (hh : A.handled = none) (hd : A.depth < recursionLimit)
    (hf : mg (item 4).name = some (.ref fa)) (M : MatAt s.heap a rs n n f) (hnd : rs.Nodup) (har : a ∉ rs) (hn : n < 1000) (hs : step < n) (h0 : ahead ≠ 0) (hb : intBits ahead ≤ 9000)
    (hβ : β ≤ 1000000) (hfb : ∀ i j, i < n → j < n → intBits (f i j) ≤ β) :
    codeAny (model prog w) A (.call (.ref fa) ⟨[.ref a, .int step t, .int ahead ta], []⟩) (Ret s fun v h' => v = .none ∧ MatAt h' a rs n n (stepF f step ahead) ∧
      ∀ b o, b ∉ rs → s.heap.get? b = some o → h'.get? b = some o) s := by
  obtain ⟨fa', o, pm, doc, cd, h1, h2, h3, h4⟩ := T.made (item 4) (by simp [items])
  rw [hf] at h1; cases h1
  refine call_plain_ret hd h2 h3 T.nolimit h4 (binds := [(Str.ofString "a", .ref a), (Str.ofString "step", .int step t), (Str.ofString "ahead", .int ahead ta)]) (by rfl) (locs (by rfl)) (fun h₁ F => ?_) (hcell := by decide)
  have M₁ := M.ext F.keep
  have hls : ∀ r ∈ rs, ∃ vs, s.heap.IsList r vs := fun r hr => by
    obtain ⟨i, hi, e⟩ := List.mem_iff_getElem.mp hr
    obtain ⟨vs, hl, _⟩ := M.row i r (by rw [← e]; exact List.getElem?_eq_getElem hi)
    exact ⟨_, hl⟩
  have T₀ := T.hide hls
  replace F := Fr.hideAll rs F
  have hnone : ∀ r ∈ rs, (hideAll s.heap rs).get? r = none := fun r hr => hideAll_none _ hr
  have T₁ := T₀.ext F.keep
  refine wpAny_execs_cons (wpAny_Assign_Name ?_)
  refine mat_get (ii := step) (jj := step) M₁ rfl (by omega) (by omega) hs hs (fun Q' q => nm F.ns (by rfl) q) (fun Q' q => nm F.ns (by rfl) (q _ _ rfl)) (fun Q' q => nm F.ns (by rfl) (q _ _ rfl)) (fun t₁ => ?_)
  try dsimp only
  refine stL F.ns (fun h₂ hn₂ hs₂ => ?_)
  try dsimp only
  have F₂ := F.set hn₂ hs₂
  have M₂ := M₁.sk (DK.of_ns F.ns hs₂).sk
  have T₂ := T₀.ext F₂.keep
  refine wpAny_execs_cons (wpAny_For (eval_range2 T₂ ?_))
  refine wpAny_BinOp (nm F₂.ns (by rfl) (wpAny_Constant_int (add_int (eval_len T₂ (nm F₂.ns (by rfl) ⟨a, _, n, rfl, M₂.top, by rw [List.length_map, M.len], by omega, ?_⟩)))))
  refine ⟨_, _, _, _, rfl, rfl, ?_⟩
  refine iter_rng (n - (step + 1)) (fun i m h => m (Str.ofString "a") = some (.ref a) ∧ m (Str.ofString "step") = some (.int step t) ∧ m (Str.ofString "ahead") = some (.int ahead ta) ∧
      m (Str.ofString "lead") = some (.int (f step step) t₁) ∧ MatAt h a rs n n (fun r c => if r < step + 1 + i then stepF f step ahead r c else f r c))
    (g := hideAll s.heap rs) hh (IsRange.new _ _ _ _ _ _ _) (by split <;> omega) (by omega) (by omega) (F₂.push _) ?_ ⟨by rfl, by rfl, by rfl, by rfl, ((M₂.congr fun i j hi hj => ?_).ext fun _ _ => Heap.get?_push_of_some _)⟩ ?_ ?_
  · rintro i m h h' ⟨h1, h2, h3, h4, h5⟩ hk
    exact ⟨h1, h2, h3, h4, h5.sk hk⟩
  · unfold stepF; split
    · rw [if_neg (by omega)]
    · rfl
  · rintro i h tk m hi F' ⟨ha, hst, had, hle, M'⟩
    have T' := T₀.ext F'.keep
    refine wpAny_execs_cons (wpAny_Assign_Name ?_)
    have q1 : ¬ step + 1 + i < step + 1 + i := by omega
    refine mat_get (ii := step + 1 + i) (jj := step) (z := f (step + 1 + i) step) M' (if_neg q1) (by omega) (by omega) (by omega) hs (fun Q' q => nm F'.ns (by walk_at "lk") q) (fun Q' q => nm F'.ns (by walk_at "lk") (q _ _ (by push_cast; rfl)))
      (fun Q' q => nm F'.ns (by walk_at "lk") (q _ _ rfl)) (fun t₂ => ?_)
    try dsimp only
    refine stL F'.ns (fun h₃ hn₃ hs₃ => ?_)
    try dsimp only
    have F₃ := F'.set hn₃ hs₃
    have hdk := (DK.of_ns F'.ns hs₃).nk
    have M₃ := M'.sk (DK.of_ns F'.ns hs₃).sk
    have T₃ := T₀.ext F₃.keep
    obtain ⟨r, hr₀⟩ : ∃ r, rs[step + 1 + i]? = some r := ⟨_, List.getElem?_eq_getElem (by rw [M.len]; omega)⟩
    have hrm : r ∈ rs := List.mem_of_getElem? hr₀
    refine wpAny_execs_cons (wpAny_For (eval_range2 T₃ ?_))
    refine wpAny_BinOp (nm F₃.ns (by walk_at "lk") (wpAny_Constant_int (add_int (eval_len T₃ (nm F₃.ns (by walk_at "lk") ⟨a, _, n, rfl, M₃.top, by rw [List.length_map, M.len], by omega, ?_⟩)))))
    refine ⟨_, _, _, _, rfl, rfl, ?_⟩
    refine iter_rng (n - (step + 1)) (fun j m h => m (Str.ofString "a") = some (.ref a) ∧ m (Str.ofString "step") = some (.int step t) ∧ m (Str.ofString "ahead") = some (.int ahead ta) ∧
        m (Str.ofString "lead") = some (.int (f step step) t₁) ∧ m (Str.ofString "first") = some (.int (f (step + 1 + i) step) t₂) ∧ (∃ t, m (Str.ofString "row") = some (.int ((step + 1 + i : Nat) : Int) t)) ∧
        MatAt h a rs n n (fun r c => if r < step + 1 + i ∨ (r = step + 1 + i ∧ step < c ∧ c < step + 1 + j) then stepF f step ahead r c else f r c))
      (g := hideAll s.heap rs) hh (IsRange.new _ _ _ _ _ _ _) (by split <;> omega) (by omega) (by omega) (F₃.push _) ?_
      ⟨by walk_at "lk", by walk_at "lk", by walk_at "lk", by walk_at "lk", by rfl, ⟨tk, by push_cast; rfl⟩, ((M₃.congr fun i' j' hi' hj' => ?_).ext fun _ _ => Heap.get?_push_of_some _)⟩ ?_ ?_
    · rintro i m h h' ⟨h1, h2, h3, h4, h5, h6, h7⟩ hk
      exact ⟨h1, h2, h3, h4, h5, h6, h7.sk hk⟩
    · by_cases e : i' < step + 1 + i
      · rw [if_pos e, if_pos (.inl e)]
      · rw [if_neg e, if_neg (by omega)]
    · rintro j h tk m hj F' ⟨ha, hst, had, hle, hfi, ⟨tr, hro⟩, M'⟩
      refine wpAny_execs_cons (wpAny_Assign_Subscript ?_)
      refine wpAny_BinOp (wpAny_BinOp (wpAny_BinOp ?_))
      have q1 : ¬ (step + 1 + i < step + 1 + i ∨ (step + 1 + i = step + 1 + i ∧ step < step + 1 + j ∧ step + 1 + j < step + 1 + j)) := by omega
      have q2 : step < step + 1 + i ∨ (step = step + 1 + i ∧ step < step + 1 + j ∧ step + 1 + j < step + 1 + j) := by omega
      have q3 : stepF f step ahead step (step + 1 + j) = f step (step + 1 + j) := if_neg (by omega)
      refine mat_get (ii := step + 1 + i) (jj := step + 1 + j) (z := f (step + 1 + i) (step + 1 + j)) M' (if_neg q1) (by omega) (by omega) (by omega) (by omega) (fun Q' q => nm F'.ns (by walk_at "lk") q) (fun Q' q => nm F'.ns (by walk_at "lk") (q _ _ (by rfl)))
        (fun Q' q => nm F'.ns (by walk_at "lk") (q _ _ (by push_cast; rfl))) (fun t₃ => ?_)
      try dsimp only
      refine nm F'.ns (by walk_at "lk") ?_
      have b1 := hfb (step + 1 + i) (step + 1 + j) (by omega) (by omega)
      have b2 := hfb step step hs hs
      have b3 := hfb (step + 1 + i) step (by omega) (by omega)
      have b4 := hfb step (step + 1 + j) (by omega) (by omega)
      refine mul_int ?_ (mulOk_of_bits b1 b2 (by omega))
      refine wpAny_BinOp (nm F'.ns (by walk_at "lk") ?_)
      refine mat_get (ii := step) (jj := step + 1 + j) (z := f step (step + 1 + j)) M' ((if_pos q2).trans q3) (by omega) (by omega) (by omega) (by omega) (fun Q' q => nm F'.ns (by walk_at "lk") q) (fun Q' q => nm F'.ns (by walk_at "lk") (q _ _ (by rfl)))
        (fun Q' q => nm F'.ns (by walk_at "lk") (q _ _ (by push_cast; rfl))) (fun t₄ => ?_)
      try dsimp only
      refine mul_int ?_ (mulOk_of_bits b3 b4 (by omega))
      refine sub_int ?_
      refine nm F'.ns (by walk_at "lk") ?_
      refine floordiv_int h0 ?_ (.inl (noPy hb))
      refine Subscript_ (nm F'.ns (by walk_at "lk") (nm F'.ns (by walk_at "lk") ?_))
      refine item_l M'.top rfl (by omega) (x := .ref r) (by rw [List.getElem?_map, hr₀]; rfl) ?_
      refine nm F'.ns (by walk_at "lk") ?_
      refine mat_setItem M' hnd har hr₀ (jj := step + 1 + j) (by omega) (by omega) (by push_cast; rfl) fun h' M'' hs' nk hns => ?_
      try dsimp only
      refine wpAny_execs_nil ⟨_, _, _, rfl, Fr.chg F' (hnone r hrm) hs' hns, nk, ?_⟩
      refine ⟨by walk_at "lk", by walk_at "lk", by walk_at "lk", by walk_at "lk", by walk_at "lk", ⟨tr, by walk_at "lk"⟩, M''.congr fun i' j' hi' hj' => ?_⟩
      exact st1 (by omega) i' j'
    · rintro h tk m F' nk' ⟨ha, hst, had, hle, hfi, ⟨tr, hro⟩, M'⟩
      refine wpAny_execs_cons (wpAny_Assign_Subscript ?_)
      refine wpAny_Constant_int ?_
      refine Subscript_ (nm F'.ns (by walk_at "lk") (nm F'.ns (by walk_at "lk") ?_))
      refine item_l M'.top rfl (by omega) (x := .ref r) (by rw [List.getElem?_map, hr₀]; rfl) ?_
      refine nm F'.ns (by walk_at "lk") ?_
      refine mat_setItem M' hnd har hr₀ (jj := step) (by omega) (by omega) (by rfl) fun h' M'' hs' nk hns => ?_
      try dsimp only
      refine wpAny_execs_nil ⟨_, _, _, rfl, Fr.chg F' (hnone r hrm) hs' hns, ?_, ?_⟩
      · exact ((hdk.trans (NK.of_ext fun _ _ e => Heap.get?_push_of_some _ e)).trans nk').trans nk
      · refine ⟨by simp only [ha], by simp only [hst], by simp only [had], by simp only [hle], M''.congr fun i' j' hi' hj' => ?_⟩
        exact st2 (by omega) i' j' (by omega)
  · rintro h tk m F' nk ⟨ha, hst, had, hle, M'⟩
    refine wpAny_execs_nil ?_
    refine ⟨_, _, _, rfl, rfl, rfl, M'.congr fun i' j' hi' hj' => ?_, fun b o hb e => F'.keep b o (hideAll_get _ e hb)⟩
    rw [if_pos (by omega)]
end
end Mine

end
noncomputable section
namespace Mine
open PySem PySem.W PySem.Calls PyProof.Rows

section
variable {prog : Program} {w : World} {A : Around} {E : Value → Shared → Prop} {s : Shared} {env : Env} {mg mb : Str → Option Value}

theorem call_of {f : Value} {args : List Value} {Post : Value → Heap → Prop} {Q : Value → Shared → Prop} (h : codeAny (model prog w) A (.call f ⟨args, []⟩) (Ret s Post) s)
    (hq : ∀ v h' tk, Post v h' → Q v { s with heap := h', toks := tk }) : wpAny (model prog w) A (call f args) Q E s := by
  refine wpAny_call (codeAny_mono h fun r s' hr => ?_)
  obtain ⟨v, h', tk, rfl, rfl, hp⟩ := hr
  exact hq v h' tk hp

/-- a call of one of the nine -/
theorem eval_fn {x : Str} {e : Expr} {rest : List Expr} {pos p' : Pos} {Q : Value → Shared → Prop} (d : DefItem) (hd : d ∈ items) (hx : d.name = x) (T : TopF mg mb s.heap)
    (h : ∀ fa, mg d.name = some (.ref fa) → wpAny (model prog w) A (spliced (backTo pos (starEach (e :: rest) env))) (fun vs s₁ => Ext s.heap s₁.heap ∧ wpAny (model prog w) A (call (.ref fa) vs) Q E s₁) E s)
    (hk : env.scope.kind = .function := by rfl) (hl : env.kindOf x = some .globalImplicit := by rfl) (hg : env.globals = mainGlobals := by rfl)
    (hdb : (x == ("__debug__" : Str)) = false := by decide)
    (he : starEach (e :: rest) env = (false, eval e env) :: starEach rest env := by rfl) :
    wpAny (model prog w) A (eval (.Call (.Name x p') (e :: rest) [] pos) env) Q E s := by
  subst hx
  obtain ⟨fa, o, pm, doc, cd, h1, h2, h3, h4⟩ := T.made d hd
  refine Call_ (nmG T h1 ?_ hk hl hg hdb)
  exact callWith_def (o := o) h3 (wpAny_mono (h fa h1) (fun vs s₁ hh => ⟨hh.1 _ _ h2, hh.2⟩) fun _ _ x => x) he

/-- a call with captured names -/
theorem call_cells_ret {R : Result → Shared → Prop} {name : Str} {params : Arguments} {body : List Stmt} {scope : Scope} {pm cd doc : Value} {a : Addr} {o : Obj} {args : List Value} {binds : List (Str × Value)}
    (hroom : A.depth < recursionLimit) (ho : s.heap.get? a = some o) (hdata : o.data = .func (docDef name params body scope pm cd doc)) (hlim : s.heap.NoLimit) (hcd : s.heap.CodeRec cd name)
    (hbind : bindArgs (docDef name params body scope pm cd doc) ⟨args, []⟩ = pure binds)
    (hkind : ∀ n, ∀ x ∈ binds, scope.names.lookup x.1 = some .local ∨ (scope.names.lookup x.1 = some .cell ∧ ((cellsFrom n scope.names []).lookup x.1).isSome = true))
    (h : ∀ h₁ tk, Fr s.heap s.heap.objs.size h₁ (bindL (fun x => scope.names.lookup x) binds fun _ => none) →
      (∀ n c, (cellsFrom (s.heap.objs.size + 1) scope.names []).lookup n = some c → h₁.IsCell c (bindC (fun x => scope.names.lookup x) binds (fun _ => none) n)) →
      wpAny (model prog w) (A.deeper (callEnvC (docDef name params body scope pm cd doc) s.heap.objs.size a)) (execs body (callEnvC (docDef name params body scope pm cd doc) s.heap.objs.size a))
        (fun f s' => R (.ok (.ret (match f with | .ret v => v | _ => .none))) s') (fun _ _ => False) { s with heap := h₁, toks := tk })
    (hco : scope.isCoroutine = false := by rfl) (hgen : scope.isGenerator = false := by rfl) (hk : scope.kind = .function := by rfl) :
    codeAny (model prog w) A (.call (.ref a) ⟨args, []⟩) R s := by
  refine codeAny_call_cells (fd := docDef name params body scope pm cd doc) hroom ho hdata hlim hcd rfl hbind rfl (hkind _) (fun s₁ x => ?_) hco hgen hk
  obtain ⟨h', tk, rfl, hkp⟩ := x.done
  refine wpAny_mono (h h' tk ⟨x.toInCall.ns, hkp, Nat.le_refl _⟩ (fun n c hc => x.cell n c hc)) (fun _ _ x => x) fun _ _ x => x.elim

theorem newList_ {vs : List Value} {Q : Value → Shared → Prop} (h : Q (.ref s.heap.objs.size) { s with heap := s.heap.push { cls := .type "list", data := .seq vs.toArray } }) (hsz : vs.length ≤ sizeLine := by size_fits) :
    wpAny (model prog w) A (newList vs) Q E s := wpAny_newObj_type h (by show vs.toArray.size ≤ sizeLine; rw [List.size_toArray]; exact hsz)
theorem newTuple_ {vs : List Value} {Q : Value → Shared → Prop} (h : Q (.ref s.heap.objs.size) { s with heap := s.heap.push { cls := .type "tuple", data := .seq vs.toArray } }) (hsz : vs.length ≤ sizeLine := by size_fits) :
    wpAny (model prog w) A (newTuple vs) Q E s := wpAny_newObj_type h (by show vs.toArray.size ≤ sizeLine; rw [List.size_toArray]; exact hsz)
theorem cNone {k : Nat} {pos : Pos} {Q : Value → Shared → Prop} (h : Q .none s) : wpAny (model prog w) A (eval (.Constant .none k pos) env) Q E s := fun _ _ _ => h
theorem list_nil {pos : Pos} {Q : Value → Shared → Prop} (h : Q (.ref s.heap.objs.size) { s with heap := s.heap.push { cls := .type "list", data := .seq ([] : List Value).toArray } }) :
    wpAny (model prog w) A (eval (.List [] pos) env) Q E s := List_ (args_nil (newList_ h))
theorem newTuple_unpack {vs : List Value} {n : Nat} {Q : List Value → Shared → Prop} (hh : A.handled = none) (hn : n = vs.length) (hsz : vs.length ≤ 1000) (h : ∀ h', Ext s.heap h' → Q vs { s with heap := h' }) :
    wpAny (model prog w) A (newTuple vs) (fun v s₁ => wpAny (model prog w) A (unpackItems v n none) Q E s₁) E s := by
  subst hn
  refine newTuple_ ?_ (by rw [sizeLine_eq]; omega)
  have q := unpackItems_tuple (prog := prog) (w := w) (A := A) (E := E) (Q := Q) (s := { s with heap := s.heap.push { cls := .type "tuple", data := .seq vs.toArray } }) (t := s.heap.objs.size) (items := vs.toArray) hh ⟨_, Heap.get?_push_size _ rfl, rfl, 0, rfl⟩ (fun h' he => by
    have k : Ext s.heap h' := fun b o e => he b o (Nat.ne_of_lt (by
      show b < (s.heap.push _).objs.size
      rw [Heap.size_push]; exact Nat.lt_succ_of_lt (Heap.lt_size e))) (Heap.get?_push_of_some _ e)
    simpa using h h' k)
  simpa using q
end
end Mine

end
noncomputable section
namespace Mine
open PySem PySem.W PySem.Calls PyProof.Rows
open PySem.Builtin.Int (intBits)

section
variable {prog : Program} {w : World} {A : Around} {E : Value → Shared → Prop} {s : Shared} {env : Env} {mg mb : Str → Option Value}

theorem Paired.nil_left {α β : Type} {F : α → β → Prop} {l : List β} (h : Paired F [] l) : l = [] := by cases h; rfl

set_option maxHeartbeats 1000000 in
theorem shape_test {p1 p2 p3 p4 p5 p6 p7 p8 p9 p10 p11 p12 pos : Pos} {scope : Scope} {whole : Sem Value} {a c : Addr} {rs : List Addr} {n : Nat} {f : Nat → Nat → Int} {Q : Bool → Shared → Prop}
    (T : TopF mg mb s.heap) (hh : A.handled = none) (hu : A.units + 64 < cLine) (M : MatAt s.heap a rs n n f) (hn : n < 1000)
    (hc : s.heap.IsCell c (some (.ref a))) (hcl : env.cells.lookup (Str.ofString "a") = some c)
    (hclos : closureFor scope env = pure [(Str.ofString "a", c)]) (hcell : ∀ y ∈ scope.names, y.2 ≠ .cell) (hkind : scope.kind = .function)
    (hnames : ∀ y ∈ scope.names, y.2 = .local → scope.names.lookup y.1 = some .local) (hx : scope.names.lookup (Str.ofString "row") = some .local)
    (k1 : (relabel scope env).names.lookup (Str.ofString "len") = some .globalImplicit) (k2 : (relabel scope env).names.lookup (Str.ofString "a") = some .cell) (k3 : (relabel scope env).names.lookup (Str.ofString "row") = some .local)
    (h : ∀ h' tk, Ext s.heap h' → Q false { s with heap := h', toks := tk })
    (hk : env.scope.kind = .function := by rfl) (hl : env.kindOf (Str.ofString "a") = some .cell := by rfl) (hg : env.globals = mainGlobals := by rfl) (hbn : env.builtins = builtinsNs := by rfl) :
    wpAny (model prog w) A (isTrue (.Compare (.ListComp (.Name (Str.ofString "row") p1) [⟨.Name (Str.ofString "row") p2, .Name (Str.ofString "a") p3, [.Compare (.Call (.Name (Str.ofString "len") p4) [.Name (Str.ofString "row") p5] [] p6) [.NotEq]
      [.Call (.Name (Str.ofString "len") p7) [.Name (Str.ofString "a") p8] [] p9] p10], 0⟩] scope pos) [.NotEq] [.List [] p11] p12) env whole) Q E s := by
  refine wpAny_isTrue_Compare1 ?_
  refine wpAny_ListComp_free (fun _ => false) (fun _ _ => True) hclos hcell hkind hnames hx ?_
  refine nmC hcl hc ?_ hk hl
  refine wpAny_pyIter_list M.top ?_
  obtain ⟨otop, hotop, _⟩ := id M.top
  have hlt : ∀ b o, s.heap.get? b = some o → b ∉ [s.heap.objs.size] := fun b o e hm => Nat.lt_irrefl _ ((List.mem_singleton.mp hm) ▸ Heap.lt_size e)
  refine ⟨_, _, _, _, _, _, rfl, Walks.list hh s.heap.objs.size a (Nat.ne_of_lt (Heap.lt_size hotop)) _, by rw [sizeLine_eq]; simp [M.len]; omega, ⟨⟨_, Heap.get?_push_size _ rfl, rfl, rfl⟩, IsList.ext M.top fun _ _ e => Heap.get?_push_of_some _ e⟩, ?_, ⟨?_, ?_⟩, ?_⟩
  · intro b hb
    rw [show ({ s with heap := s.heap.push { cls := .type "list_iterator", data := .fields #[.ref a, .int 0 0] } } : Shared).heap.objs.size = s.heap.objs.size + 1 from Heap.size_push ..]
    rcases List.mem_cons.mp hb with rfl | hb
    · exact Nat.lt_succ_self _
    · rw [List.mem_singleton.mp hb]; exact Nat.lt_succ_of_lt (Heap.lt_size hotop)
  · intro C i v s₃ m₃ E' hC hv hn₃ hm hkp htk
    refine wpAny_tests_one (wpAny_isTrue_Compare1 ?_)
    have kp : Ext s.heap s₃.heap := fun b o e => hkp b o (hlt b o e) (Heap.get?_push_of_some _ e)
    have T₃ := T.ext kp
    have M₃ := M.ext kp
    obtain ⟨r, hr, rfl⟩ : ∃ r, rs[i]? = some r ∧ v = .ref r := by
      have hv' : (rs.map Value.ref)[i]? = some v := by simpa using hv
      rw [List.getElem?_map] at hv'
      cases hr : rs[i]? with
      | none => rw [hr] at hv'; cases hv'
      | some r => rw [hr] at hv'; exact ⟨r, rfl, (Option.some.inj hv').symm⟩
    obtain ⟨vs, hvl, hvn, _⟩ := M₃.row i r hr
    refine eval_len T₃ (nm hn₃ hm ⟨r, vs, n, rfl, hvl, hvn, by omega, ?_⟩ hkind k3) hkind k1 hg hbn
    refine eval_len (s := { s₃ with toks := s₃.toks + 1 + 1 }) T₃ (nmC (by simp [compEnvC]) (IsCell.sk hc (.of_ext kp)) ⟨a, _, n, rfl, M₃.top, by rw [List.length_map, M.len], by omega, ?_⟩ hkind k2) hkind k1 hg hbn
    refine ne_int (wpAny_truthy_bool ?_)
    exact ⟨by simp, _, _, rfl, fun _ _ e => e⟩
  · intro C i v s₃ m₃ E' hC hv hp
    cases hp
  · intro D h' tk ys vs hD hl' hpl hlen hP hF hkp
    have kp : Ext s.heap h' := fun b o e => hkp b o (hlt b o e) (Heap.get?_push_of_some _ e)
    rw [List.filter_eq_nil_iff.mpr (by simp)] at hF
    have hys : ys.toList = [] := Paired.nil_left hF
    have hl'' : h'.IsList D ([] : List Value).toArray := by rw [← hys]; simpa using hl'
    refine list_nil ?_
    refine ke_ne_ints (xs := []) (ys := []) (ns := []) (ms := []) (IsList.ext hl'' fun _ _ e => Heap.get?_push_of_some _ e) ⟨_, Heap.get?_push_size _ rfl, rfl, 0, rfl⟩ .nil .nil hu (wpAny_truthy_bool ?_)
    exact h _ _ fun b o e => Heap.get?_push_of_some _ (kp b o e)
end
end Mine

end
noncomputable section
namespace Mine
open PySem PySem.W PySem.Calls PyProof.Rows

theorem pairedLst {h₁ h' : Heap} {G : Value → Array Value → Prop} : ∀ {l ys : List Value}, Paired (LstIs h₁ G h') l ys →
    ∃ ts : List Addr, ys = ts.map Value.ref ∧ ts.length = l.length ∧ ∀ (i : Nat) (v : Value) (t : Addr), l[i]? = some v → ts[i]? = some t → h₁.get? t = none ∧ ∃ its, h'.IsList t its ∧ G v its
  | _, _, .nil => ⟨[], rfl, rfl, fun _ _ _ h => by simp at h⟩
  | _, _, .cons (a := a) h t => by
    obtain ⟨ts, e1, e2, e3⟩ := pairedLst t
    obtain ⟨T, its, rfl, hn, hl, hg⟩ := h
    refine ⟨T :: ts, by rw [e1]; rfl, by simp [e2], fun i v t hv ht => ?_⟩
    cases i with
    | zero => simp at hv ht; subst hv; subst ht; exact ⟨hn, its, hl, hg⟩
    | succ i => exact e3 i v t (by simpa using hv) (by simpa using ht)

theorem nodup_of_refs {ts : List Addr} (h : (ts.map Value.ref).Pairwise (· ≠ ·)) : ts.Nodup := by
  rw [List.pairwise_map] at h
  exact h.imp fun hne e => hne (by rw [e])

section
variable {prog : Program} {w : World} {A : Around} {E : Value → Shared → Prop} {s : Shared} {env : Env} {mg mb : Str → Option Value}

set_option maxHeartbeats 1000000 in
/-- [list(row) for row in a] -/
theorem copy_comp {p1 p2 p3 p4 p5 pos : Pos} {scope : Scope} {a c : Addr} {rs : List Addr} {n : Nat} {f : Nat → Nat → Int} {Q : Value → Shared → Prop} {cl : List (Str × Addr)}
    (T : TopF mg mb s.heap) (hh : A.handled = none) (M : MatAt s.heap a rs n n f) (hn : n < 1000)
    (hc : s.heap.IsCell c (some (.ref a))) (hcl : env.cells.lookup (Str.ofString "a") = some c)
    (hclos : closureFor scope env = pure cl) (hcell : ∀ y ∈ scope.names, y.2 ≠ .cell) (hkind : scope.kind = .function)
    (hnames : ∀ y ∈ scope.names, y.2 = .local → scope.names.lookup y.1 = some .local) (hx : scope.names.lookup (Str.ofString "row") = some .local)
    (k1 : (relabel scope env).names.lookup (Str.ofString "list") = some .globalImplicit) (k3 : (relabel scope env).names.lookup (Str.ofString "row") = some .local)
    (h : ∀ D rs' h' tk, Ext s.heap h' → MatAt h' D rs' n n f → rs'.Nodup → D ∉ rs' → s.heap.get? D = none → (∀ r ∈ rs', s.heap.get? r = none) → Q (.ref D) { s with heap := h', toks := tk })
    (hk : env.scope.kind = .function := by rfl) (hl : env.kindOf (Str.ofString "a") = some .cell := by rfl) (hg : env.globals = mainGlobals := by rfl) (hbn : env.builtins = builtinsNs := by rfl) :
    wpAny (model prog w) A (eval (.ListComp (.Call (.Name (Str.ofString "list") p1) [.Name (Str.ofString "row") p2] [] p3) [⟨.Name (Str.ofString "row") p4, .Name (Str.ofString "a") p5, [], 0⟩] scope pos) env) Q E s := by
  refine wpAny_ListComp_freeO (fun _ => true) (fun v its => ∀ r, v = .ref r → ∀ vs : List Value, s.heap.IsList r vs.toArray → its = vs.toArray) hclos hcell hkind hnames hx ?_
  refine nmC hcl hc ?_ hk hl
  refine wpAny_pyIter_list M.top ?_
  obtain ⟨otop, hotop, _⟩ := id M.top
  have hlt : ∀ b o, s.heap.get? b = some o → b ∉ [s.heap.objs.size] := fun b o e hm => Nat.lt_irrefl _ ((List.mem_singleton.mp hm) ▸ Heap.lt_size e)
  refine ⟨_, _, _, _, _, _, rfl, Walks.list hh s.heap.objs.size a (Nat.ne_of_lt (Heap.lt_size hotop)) _, by rw [sizeLine_eq]; simp [M.len]; omega, ?_, ⟨⟨_, Heap.get?_push_size _ rfl, rfl, rfl⟩, IsList.ext M.top fun _ _ e => Heap.get?_push_of_some _ e⟩, ?_, ⟨?_, ?_⟩, ?_⟩
  · rintro i h ⟨⟨o, ho, _⟩, _⟩ b hb
    rw [List.mem_singleton.mp hb]; exact ⟨o, ho⟩
  · intro b hb
    rw [show ({ s with heap := s.heap.push { cls := .type "list_iterator", data := .fields #[.ref a, .int 0 0] } } : Shared).heap.objs.size = s.heap.objs.size + 1 from Heap.size_push ..]
    rcases List.mem_cons.mp hb with rfl | hb
    · exact Nat.lt_succ_self _
    · rw [List.mem_singleton.mp hb]; exact Nat.lt_succ_of_lt (Heap.lt_size hotop)
  · intro C i v s₃ m₃ E' hC hv hn₃ hm hkp htk
    exact wpAny_tests_nil ⟨rfl, _, _, rfl, fun _ _ e => e⟩
  · intro C i v s₃ m₃ E' hC hv _ hn₃ hm hkp htk
    have kp : Ext s.heap s₃.heap := fun b o e => hkp b o (hlt b o e) (Heap.get?_push_of_some _ e)
    have T₃ := T.ext kp
    have M₃ := M.ext kp
    obtain ⟨r, hr, rfl⟩ : ∃ r, rs[i]? = some r ∧ v = .ref r := by
      have hv' : (rs.map Value.ref)[i]? = some v := by simpa using hv
      rw [List.getElem?_map] at hv'
      cases hr : rs[i]? with
      | none => rw [hr] at hv'; cases hv'
      | some r => rw [hr] at hv'; exact ⟨r, rfl, (Option.some.inj hv').symm⟩
    obtain ⟨vs, ⟨o, ho, hoc, nn, hod⟩, hvn, _⟩ := M.row i r hr
    refine Call_ (nmB T₃ (by decide) (by rfl) ?_ hkind k1 hg hbn)
    refine callWith_type1 (args_cons (nm hn₃ hm (args_nil ?_) hkind k3))
    refine call_list_seq r (.inl rfl) (kp _ _ ho) hoc hod (fun h' c' hkk hnew => ?_) (by rw [sizeLine_eq]; simp [hvn]; omega)
    refine ⟨⟨_, vs.toArray, rfl, ?_, ⟨_, hnew, rfl, c', rfl⟩, ?_⟩, _, _, rfl, hkk⟩
    · cases e : s₃.heap.get? s₃.heap.objs.size with
      | none => rfl
      | some o => exact absurd (Heap.lt_size e) (Nat.lt_irrefl _)
    · rintro r' e vs' ⟨o', ho', _, n', hd'⟩
      cases e
      rw [ho] at ho'; cases ho'
      rw [hod] at hd'; cases hd'; rfl
  · intro D h' tk ys vs hD hl' hpl hlen hP hF hpw hyD hkp
    have kp : Ext s.heap h' := fun b o e => hkp b o (hlt b o e) (Heap.get?_push_of_some _ e)
    have up : ∀ {b}, ({ s with heap := s.heap.push { cls := .type "list_iterator", data := .fields #[.ref a, .int 0 0] } } : Shared).heap.get? b = none → s.heap.get? b = none := fun {b} e => by
      cases q : s.heap.get? b with
      | none => rfl
      | some o => have q' := Heap.get?_push_of_some { cls := .type "list_iterator", data := .fields #[.ref a, .int 0 0] } q; dsimp only at e; rw [e] at q'; cases q'
    rw [List.filter_eq_self.mpr (by simp)] at hF
    obtain ⟨ts, e1, e2, e3⟩ := pairedLst hF
    have hvs : vs.length = n := by rw [hlen]; simp [M.len]
    refine h D ts h' tk kp ⟨?_, by rw [e2, hvs], fun i r hr => ?_⟩ (nodup_of_refs (e1 ▸ hpw)) (fun hm => hyD (.ref D) (by rw [e1]; exact List.mem_map_of_mem hm) rfl) (up hD) (fun r hr => ?_)
    · rw [← e1]; simpa using hl'
    · have hi : i < vs.length := by rw [← e2]; exact (List.getElem?_eq_some_iff.mp hr).1
      obtain ⟨_, its, hl2, hG⟩ := e3 i _ r (List.getElem?_eq_getElem hi) hr
      have hv := hP i _ (List.getElem?_eq_getElem hi)
      have hir : i < rs.length := by rw [M.len, ← hvs]; exact hi
      have hv2 : vs[i] = .ref rs[i] := by
        have hv' : (rs.map Value.ref)[i]? = some vs[i] := by simpa using hv
        rw [List.getElem?_map, List.getElem?_eq_getElem hir] at hv'
        exact (Option.some.inj hv').symm
      obtain ⟨vs0, hl0, hn0, hz⟩ := M.row i rs[i] (List.getElem?_eq_getElem hir)
      rw [hG _ hv2 _ hl0] at hl2
      exact ⟨vs0, hl2, hn0, hz⟩
    · obtain ⟨i, hi, e⟩ := List.mem_iff_getElem.mp hr
      have hi' : i < vs.length := by rw [← e2]; exact hi
      exact up (e3 i _ r (List.getElem?_eq_getElem hi') (by rw [← e]; exact List.getElem?_eq_getElem hi)).1
end
end Mine

end
noncomputable section
namespace Mine
open PySem PySem.W PySem.Calls PyProof.Rows
open PySem.Builtin.Int (intBits)

def swapF (f : Nat → Nat → Int) (r k : Nat) : Nat → Nat → Int := fun i j => if i = r then f k j else if i = k then f r j else f i j

theorem nodup_of_get {l : List Addr} (h : ∀ (i j : Nat) (r : Addr), l[i]? = some r → l[j]? = some r → i = j) : l.Nodup := by
  refine List.pairwise_iff_getElem.mpr fun i j hi hj hij e => ?_
  have := h i j _ (List.getElem?_eq_getElem hi) (by rw [List.getElem?_eq_getElem hj, e])
  omega

theorem swap_get {rs : List Addr} {i j : Nat} {x y : Addr} (hi : rs[i]? = some x) (hj : rs[j]? = some y) (k : Nat) :
    ((rs.set i y).set j x)[k]? = if k = j then some x else if k = i then some y else rs[k]? := by
  have li := (List.getElem?_eq_some_iff.mp hi).1
  have lj := (List.getElem?_eq_some_iff.mp hj).1
  by_cases e : k = j
  · subst e; rw [if_pos rfl]; simp [lj]
  · rw [if_neg e, List.getElem?_set_ne (Ne.symm e)]
    by_cases e2 : k = i
    · subst e2; rw [if_pos rfl]; simp [li]
    · rw [if_neg e2, List.getElem?_set_ne (Ne.symm e2)]

theorem swap_mem {rs : List Addr} {i j : Nat} {x y r : Addr} (hi : rs[i]? = some x) (hj : rs[j]? = some y) (h : r ∈ (rs.set i y).set j x) : r ∈ rs := by
  obtain ⟨k, hk⟩ := List.mem_iff_getElem?.mp h
  rw [swap_get hi hj] at hk
  split at hk
  · cases hk; exact List.mem_of_getElem? hi
  · split at hk
    · cases hk; exact List.mem_of_getElem? hj
    · exact List.mem_of_getElem? hk

theorem swap_nodup {rs : List Addr} {i j : Nat} {x y : Addr} (hnd : rs.Nodup) (hij : i ≠ j) (hi : rs[i]? = some x) (hj : rs[j]? = some y) : ((rs.set i y).set j x).Nodup := by
  refine nodup_of_get fun a b r ha hb => ?_
  rw [swap_get hi hj] at ha hb
  have key : ∀ {p q : Nat} {r : Addr}, rs[p]? = some r → rs[q]? = some r → p = q := fun hp hq => nodup_get hnd hp hq
  split at ha <;> split at hb
  · omega
  · cases ha
    split at hb
    · cases hb; exact absurd (key hi hj) hij
    · have := key hi hb; omega
  · cases hb
    split at ha
    · cases ha; exact absurd (key hi hj) hij
    · have := key hi ha; omega
  · split at ha <;> split at hb
    · omega
    · cases ha; have := key hj hb; omega
    · cases hb; have := key hj ha; omega
    · exact key ha hb

theorem MatAt.swap {h h' : Heap} {a rs n k f} {i j : Nat} {x y : Addr} (M : MatAt h a rs n k f) (hij : i ≠ j) (hi : rs[i]? = some x) (hj : rs[j]? = some y)
    (hl : h'.IsList a (((rs.set i y).set j x).map Value.ref).toArray) (hr : ∀ r w f, r ∈ rs → RowAt h r w f → RowAt h' r w f) : MatAt h' a ((rs.set i y).set j x) n k (swapF f i j) := by
  refine ⟨hl, by simp [M.len], fun q r hq => ?_⟩
  have hm := swap_mem hi hj (List.mem_of_getElem? hq)
  rw [swap_get hi hj] at hq
  refine hr _ _ _ hm ?_
  split at hq
  · rename_i e; cases hq; subst e
    exact (M.row i _ hi).congr fun c _ => by simp [swapF, Ne.symm hij]
  · rename_i e; split at hq
    · rename_i e2; cases hq; subst e2
      exact (M.row j _ hj).congr fun c _ => by simp [swapF]
    · rename_i e2
      exact (M.row q _ hq).congr fun c _ => by simp [swapF, e, e2]

section
variable {prog : Program} {w : World} {A : Around} {E : Value → Shared → Prop} {s : Shared} {env : Env} {mg mb : Str → Option Value}

theorem assign_sub {o i : Expr} {pos : Pos} {v : Value} {Q : Unit → Shared → Prop}
    (h : wpAny (model prog w) A (eval o env) (fun ov s₁ => wpAny (model prog w) A (eval i env) (fun iv s₂ => wpAny (model prog w) A (setItem ov iv v) Q E s₂) E s₁) E s) :
    wpAny (model prog w) A (assign (.Subscript o i pos) env v) Q E s := fun Γ p hΓ => by
  simp only [assign_Subscript, Sem.wp_bind', Sem.wp_holding, Sem.wp_cmd_standAt, Sem.wp_release, Sem.wp_pure']
  exact Sem.wp_mono _ Γ _ (fun ov p₂ s₂ h₂ => Sem.wp_mono _ Γ _ (fun iv _ s₃ h₃ => h₃ Γ _ hΓ) (fun _ _ _ h' => h') _ _ (h₂ Γ p₂ hΓ)) (fun _ _ _ h' => h') _ _ (h Γ p hΓ)

set_option maxHeartbeats 1000000 in
/-- x[i], x[j] = (x[j], x[i]) -/
theorem swap_stmt {p1 p2 p3 p4 p5 p6 p7 p8 p9 p10 p11 p12 p13 p14 pos : Pos} {k1 k2 : Nat} {fx ni nj : Str} {a : Addr} {rs : List Addr} {n k : Nat} {f : Nat → Nat → Int} {i j : Nat} {t u : Tok} {m : Str → Option Value} {Q : Flow → Shared → Prop}
    (hh : A.handled = none) (hn : s.heap.Ns env.locals m) (M : MatAt s.heap a rs n k f) (hnd : rs.Nodup) (har : a ∉ rs) (hi : i < n) (hj : j < n) (hij : i ≠ j) (hn' : n < 1000)
    (e1 : m fx = some (.ref a)) (e2 : m ni = some (.int i t)) (e3 : m nj = some (.int j u))
    (h : ∀ h' rs', MatAt h' a rs' n k (swapF f i j) → rs'.Nodup → (∀ r ∈ rs', r ∈ rs) → (∀ b o, b ≠ a → s.heap.get? b = some o → h'.get? b = some o) → Q .next { s with heap := h' })
    (hk : env.scope.kind = .function := by rfl) (hl1 : env.kindOf fx = some .local := by rfl) (hl2 : env.kindOf ni = some .local := by rfl) (hl3 : env.kindOf nj = some .local := by rfl)
    (hd1 : (fx == ("__debug__" : Str)) = false := by decide) (hd2 : (ni == ("__debug__" : Str)) = false := by decide) (hd3 : (nj == ("__debug__" : Str)) = false := by decide)
    (hw : swappedStores [.Tuple [.Subscript (.Name fx p1) (.Name ni p2) p3, .Subscript (.Name fx p4) (.Name nj p5) p6] k1 p7]
      (.Tuple [.Subscript (.Name fx p8) (.Name nj p9) p10, .Subscript (.Name fx p11) (.Name ni p12) p13] k2 p14) env = pure none := by rfl) :
    wpAny (model prog w) A (exec (.Assign [.Tuple [.Subscript (.Name fx p1) (.Name ni p2) p3, .Subscript (.Name fx p4) (.Name nj p5) p6] k1 p7]
      (.Tuple [.Subscript (.Name fx p8) (.Name nj p9) p10, .Subscript (.Name fx p11) (.Name ni p12) p13] k2 p14) pos) env) Q E s := by
  obtain ⟨x, hx⟩ : ∃ x, rs[i]? = some x := ⟨_, List.getElem?_eq_getElem (by rw [M.len]; exact hi)⟩
  obtain ⟨y, hy⟩ : ∃ y, rs[j]? = some y := ⟨_, List.getElem?_eq_getElem (by rw [M.len]; exact hj)⟩
  refine Assign_Tuple ?_ (by rfl) hw
  refine Tuple_ (args_cons ?_)
  refine Subscript_ (nm hn e1 (nm hn e3 ?_ hk hl3 hd3) hk hl1 hd1)
  refine item_l M.top rfl (by omega) (x := .ref y) (by rw [List.getElem?_map, hy]; rfl) ?_
  refine args_cons ?_
  refine Subscript_ (nm hn e1 (nm hn e2 ?_ hk hl2 hd2) hk hl1 hd1)
  refine item_l M.top rfl (by omega) (x := .ref x) (by rw [List.getElem?_map, hx]; rfl) ?_
  refine args_nil (newTuple_ ?_)
  have kp₁ : Ext s.heap (s.heap.push { cls := .type "tuple", data := .seq [Value.ref y, Value.ref x].toArray }) := fun b o e => Heap.get?_push_of_some _ e
  refine assign_Tuple_tuple (items := [Value.ref y, Value.ref x].toArray) hh ⟨_, Heap.get?_push_size _ rfl, rfl, 0, rfl⟩ (by rfl) (by rfl) (fun h₂ he => ?_)
  have kp : Ext s.heap h₂ := fun b o e => he b o (by
    have := Heap.lt_size e
    rw [show ({ s with heap := s.heap.push { cls := .type "tuple", data := .seq [Value.ref y, Value.ref x].toArray } } : Shared).heap.objs.size = s.heap.objs.size + 1 from Heap.size_push ..]
    exact Nat.ne_of_lt (Nat.lt_succ_of_lt this)) (kp₁ b o e)
  have hn₂ := hn.keeps kp
  have M₂ := M.ext kp
  refine assignInOrder_cons (assign_sub (nm hn₂ e1 (nm hn₂ e2 ?_ hk hl2 hd2) hk hl1 hd1))
  refine wpAny_setItem_list M₂.top (by omega) (by omega) (by simp [M.len]; omega) fun h₃ hl₃ hs₃ => ?_
  have nsA : ∀ {h h' : Heap} {vs}, h.Ns env.locals m → h.IsList a vs → Heap.SameBut a h h' → h'.Ns env.locals m := fun {h h' vs} hn hl hs => hn.sameBut hs (by
    rintro e
    obtain ⟨o, es, ep, ho, hd, _⟩ := hn
    obtain ⟨o', ho', _, n', hd'⟩ := hl
    rw [e] at ho
    rw [ho] at ho'; cases ho'
    rw [hd] at hd'; cases hd')
  have hn₃ := nsA hn₂ M₂.top hs₃
  have el₃ : ((rs.map Value.ref).toArray.setIfInBounds (Int.toNat (i : Int)) (Value.ref y)) = ((rs.set i y).map Value.ref).toArray := by
    rw [Int.toNat_natCast]; simp [List.map_set]
  rw [el₃] at hl₃
  refine assignInOrder_cons (assign_sub (nm hn₃ e1 (nm hn₃ e3 ?_ hk hl3 hd3) hk hl1 hd1))
  refine wpAny_setItem_list hl₃ (by omega) (by omega) (by simp [M.len]; omega) fun h₄ hl₄ hs₄ => ?_
  have el₄ : (((rs.set i y).map Value.ref).toArray.setIfInBounds (Int.toNat (j : Int)) (Value.ref x)) = (((rs.set i y).set j x).map Value.ref).toArray := by
    rw [Int.toNat_natCast]; simp [List.map_set]
  rw [el₄] at hl₄
  have oth : ∀ b o, b ≠ a → s.heap.get? b = some o → h₄.get? b = some o := fun b o hb e => (hs₄.2 b hb).trans ((hs₃.2 b hb).trans (kp b o e))
  refine assignInOrder_nil ?_
  refine h h₄ _ (M.swap hij hx hy hl₄ fun r w f hr hR => ?_) (swap_nodup hnd hij hx hy) (fun r hr => swap_mem hx hy hr) oth
  obtain ⟨vs, ⟨o, ho, r'⟩, hlen, hv⟩ := hR
  exact ⟨vs, ⟨o, oth _ _ (fun e => har (e ▸ hr)) ho, r'⟩, hlen, hv⟩
end
end Mine

end
noncomputable section
namespace Mine
open PySem PySem.W PySem.Calls PyProof.Rows
open PySem.Builtin.Int (intBits)

noncomputable def pivF (f : Nat → Nat → Int) (c : Nat) : Nat → Nat → Option Nat
  | _, 0 => none
  | r, m + 1 => if f r c = 0 then pivF f c (r + 1) m else some r

theorem pivF_some {f : Nat → Nat → Int} {c q : Nat} : ∀ (m r : Nat), (∀ r', r ≤ r' → r' < q → f r' c = 0) → f q c ≠ 0 → r ≤ q → q < r + m → pivF f c r m = some q
  | 0, r, _, _, h3, h4 => by omega
  | m + 1, r, h1, h2, h3, h4 => by
    unfold pivF
    by_cases e : r = q
    · subst e; rw [if_neg h2]
    · rw [if_pos (h1 r (Nat.le_refl _) (by omega))]
      exact pivF_some m (r + 1) (fun r' a b => h1 r' (by omega) b) h2 (by omega) (by omega)
theorem pivF_none {f : Nat → Nat → Int} {c : Nat} : ∀ (m r : Nat), (∀ r', r ≤ r' → r' < r + m → f r' c = 0) → pivF f c r m = none
  | 0, _, _ => rfl
  | m + 1, r, h => by
    unfold pivF
    rw [if_pos (h r (Nat.le_refl _) (by omega))]
    exact pivF_none m (r + 1) fun r' a b => h r' (by omega) (by omega)

/-- the program's determinant, on the function -/
noncomputable def detGo (n : Nat) : Nat → Nat → (Nat → Nat → Int) → Int → Int → Int
  | 0, _, _, sign, ahead => sign * ahead
  | m + 1, k, f, sign, ahead => match pivF f k k (n - k) with
    | none => 0
    | some r => if r = k then detGo n m (k + 1) (stepF f k ahead) sign (f k k) else detGo n m (k + 1) (stepF (swapF f r k) k ahead) (-sign) (swapF f r k k k)
def detF (n : Nat) (f : Nat → Nat → Int) : Int := detGo n n 0 f 1 1

section
variable {prog : Program} {w : World} {A : Around} {E : Value → Shared → Prop} {s : Shared} {env : Env} {mg mb : Str → Option Value}

/-- what holds ahead of the k-th turn -/
structure DetInv (g : Heap) (n : Nat) (f₀ : Nat → Nat → Int) (k : Nat) (m : Str → Option Value) (h : Heap) : Prop where
  ex : ∃ fd rs f sign ahead t1 t2, m (Str.ofString "found") = some (.ref fd) ∧ m (Str.ofString "sign") = some (.int sign t1) ∧ m (Str.ofString "ahead") = some (.int ahead t2) ∧
    MatAt h fd rs n n f ∧ rs.Nodup ∧ fd ∉ rs ∧ g.get? fd = none ∧ (∀ r ∈ rs, g.get? r = none) ∧ (∀ i j, i < n → j < n → intBits (f i j) + 1 ≤ 8 * 2 ^ k) ∧
    ahead ≠ 0 ∧ intBits ahead ≤ 4 * 2 ^ k ∧ sign.natAbs ≤ 1 ∧ detGo n (n - k) k f sign ahead = detF n f₀

theorem DetInv.sk {g : Heap} {n : Nat} {f₀ : Nat → Nat → Int} {k : Nat} {m : Str → Option Value} {h h' : Heap} (x : DetInv g n f₀ k m h) (s : SK h h') : DetInv g n f₀ k m h' := by
  obtain ⟨fd, rs, f, sign, ahead, t1, t2, a1, a2, a3, M, r⟩ := x.ex
  exact ⟨fd, rs, f, sign, ahead, t1, t2, a1, a2, a3, M.sk s, r⟩

theorem pow_le_12 {k n : Nat} (hk : k < n) (hn : n ≤ 12) : 2 ^ k ≤ 2 ^ 11 := Nat.pow_le_pow_right (by decide) (by omega)

theorem stepF_bits {f : Nat → Nat → Int} {n k : Nat} {ahead : Int} {β : Nat} (hb : ∀ i j, i < n → j < n → intBits (f i j) ≤ β) (hk : k < n) (i j : Nat) (hi : i < n) (hj : j < n) :
    intBits (stepF f k ahead i j) ≤ 2 * β + 1 := by
  unfold stepF
  split
  · split
    · have h1 := bits_mul (hb i j hi hj) (hb k k hk hk)
      have h2 := bits_mul (hb i k hi hk) (hb k j hk hj)
      have h3 := bits_fdiv (b := ahead) (bits_sub h1 h2)
      exact Nat.le_trans h3 (by omega)
    · split
      · exact Nat.le_trans (show intBits 0 ≤ 0 by decide) (Nat.zero_le _)
      · have := hb i j hi hj; omega
  · have := hb i j hi hj; omega

theorem swapF_bits {f : Nat → Nat → Int} {n r k : Nat} {β : Nat} (hb : ∀ i j, i < n → j < n → intBits (f i j) ≤ β) (hr : r < n) (hk : k < n) (i j : Nat) (hi : i < n) (hj : j < n) : intBits (swapF f r k i j) ≤ β := by
  unfold swapF
  split
  · exact hb k j hk hj
  · split
    · exact hb r j hr hj
    · exact hb i j hi hj

set_option maxHeartbeats 1000000 in
theorem det_tail {fd : Addr} {rs : List Addr} {n k : Nat} {f f₀ : Nat → Nat → Int} {sign ahead : Int} {t1 t2 t3 : Tok} {m : Str → Option Value} {g : Heap} {p1 p2 p3 p4 p5 p6 p7 p8 p9 p10 p11 p12 p13 : Pos}
    {Q : Flow → Shared → Prop}
    (T : TopF mg mb s.heap) (hh : A.handled = none) (hd : A.depth + 4 < recursionLimit) (F : Fr g env.locals s.heap m)
    (M : MatAt s.heap fd rs n n f) (hnd : rs.Nodup) (hfr : fd ∉ rs) (hg1 : g.get? fd = none) (hg2 : ∀ r ∈ rs, g.get? r = none) (hk : k < n) (hn : n ≤ 12)
    (hb : ∀ i j, i < n → j < n → intBits (f i j) + 1 ≤ 8 * 2 ^ k) (h0 : ahead ≠ 0) (hab : intBits ahead ≤ 4 * 2 ^ k) (hp : f k k ≠ 0)
    (e1 : m (Str.ofString "found") = some (.ref fd)) (e2 : m (Str.ofString "sign") = some (.int sign t1)) (e3 : m (Str.ofString "ahead") = some (.int ahead t2)) (e4 : m (Str.ofString "step") = some (.int k t3))
    (hs : sign.natAbs ≤ 1) (hgo : detGo n (n - (k + 1)) (k + 1) (stepF f k ahead) sign (f k k) = detF n f₀)
    (hq : ∀ h' tk m', Fr g env.locals h' m' → NK s.heap h' → DetInv g n f₀ (k + 1) m' h' → Q .next { s with heap := h', toks := tk })
    (hek : env.scope.kind = .function := by rfl) (k1 : env.kindOf (Str.ofString "found") = some .local := by rfl) (k2 : env.kindOf (Str.ofString "step") = some .local := by rfl) (k3 : env.kindOf (Str.ofString "ahead") = some .local := by rfl)
    (k4 : env.kindOf (Str.ofString "bareiss_step") = some .globalImplicit := by rfl) (k5 : env.globals = mainGlobals := by rfl) (hi : interactive env = false := by rfl) :
    wpAny (model prog w) A (execs [.Expr (.Call (.Name (Str.ofString "bareiss_step") p1) [.Name (Str.ofString "found") p2, .Name (Str.ofString "step") p3, .Name (Str.ofString "ahead") p4] [] p5) p6,
      .Assign [.Name (Str.ofString "ahead") p7] (.Subscript (.Subscript (.Name (Str.ofString "found") p8) (.Name (Str.ofString "step") p9) p10) (.Name (Str.ofString "step") p11) p12) p13] env) Q E s := by
  have hkp := pow_le_12 hk hn
  have hb' : ∀ i j, i < n → j < n → intBits (f i j) ≤ 8 * 2 ^ k - 1 := fun i j a b => by have := hb i j a b; omega
  refine wpAny_execs_cons (wpAny_Expr ?_ hi)
  refine eval_fn (item 4) (by simp [items]) (by rfl) T (fun fa hfa => ?_) hek k4 k5
  refine args_cons (nm F.ns e1 (args_cons (nm F.ns e4 (args_cons (nm F.ns e3 (args_nil ⟨fun _ _ e => e, ?_⟩) hek k3)) hek k2)) hek k1)
  refine call_of (step_spec (β := 8 * 2 ^ k - 1) T hh (by omega) hfa M hnd hfr (by omega) hk h0 (by omega) (by omega) hb') fun v h' tk hv => ?_
  obtain ⟨rfl, M', hkp'⟩ := hv
  have oL : ∀ {b}, b ∈ rs → b ≠ env.locals := fun {b} hb e => by
    obtain ⟨i, hi⟩ := List.mem_iff_getElem?.mp hb
    obtain ⟨vs, ⟨o, ho, _, n', hd'⟩, _⟩ := M.row i b hi
    obtain ⟨o', es, ep, ho', hd'', _⟩ := F.ns
    rw [e, ho'] at ho; cases ho; rw [hd''] at hd'; cases hd'
  have F' : Fr g env.locals h' m := ⟨F.ns.at' fun o e => hkp' _ o (fun hm => oL hm rfl) e, fun b o e => hkp' b o (fun hm => by rw [hg2 b hm] at e; cases e) (F.keep b o e), F.above⟩
  have nk : NK s.heap h' := fun b o e kk => hkp' b o (fun hm => by
    obtain ⟨i, hi⟩ := List.mem_iff_getElem?.mp hm
    obtain ⟨vs, ⟨o', ho, _, n', hd'⟩, _⟩ := M.row i b hi
    rw [e] at ho; cases ho; simp [isFields, hd'] at kk) e
  refine wpAny_execs_cons (wpAny_Assign_Name ?_)
  refine mat_get (ii := k) (jj := k) (z := f k k) M' (by unfold stepF; rw [if_neg (Nat.lt_irrefl k)]) (by omega) (by omega) hk hk (fun Q' q => nm F'.ns e1 q hek k1) (fun Q' q => nm F'.ns e4 (q _ _ rfl) hek k2) (fun Q' q => nm F'.ns e4 (q _ _ rfl) hek k2) (fun t => ?_)
  refine stL F'.ns (fun h₂ hn₂ hs₂ => ?_) hek k3
  have F₂ := F'.set hn₂ hs₂
  have dk := DK.of_ns F'.ns hs₂
  refine wpAny_execs_nil (hq h₂ _ _ F₂ (nk.trans dk.nk) ⟨fd, rs, stepF f k ahead, sign, f k k, t1, t, by walk_at "lk", by walk_at "lk", by walk_at "lk", M'.sk dk.sk, hnd, hfr, hg1, hg2, fun i j hi hj => ?_, hp, ?_, hs, hgo⟩)
  · have := stepF_bits (ahead := ahead) hb' hk i j hi hj
    rw [Nat.pow_succ]
    have := Nat.two_pow_pos k
    omega
  · have := hb k k hk hk
    rw [Nat.pow_succ]; omega

def detBody : List Stmt := match ((item 5).body : List Stmt)[2]? with
  | some (Stmt.For _ _ b _ _) => b
  | _ => []

set_option maxHeartbeats 2000000 in
theorem det_turn {s₀ : Shared} {fd : Addr} {rs : List Addr} {n k : Nat} {f f₀ : Nat → Nat → Int} {sign ahead : Int} {t1 t2 t3 : Tok} {m : Str → Option Value} {g : Heap} {pm cd doc : Value} {fa L : Addr}
    (Tg : TopF mg mb g) (hh : A.handled = none) (hd : A.depth + 8 < recursionLimit) (F : Fr g L s.heap m)
    (M : MatAt s.heap fd rs n n f) (hnd : rs.Nodup) (hfr : fd ∉ rs) (hg1 : g.get? fd = none) (hg2 : ∀ r ∈ rs, g.get? r = none) (hk : k < n) (hn : n ≤ 12)
    (hb : ∀ i j, i < n → j < n → intBits (f i j) + 1 ≤ 8 * 2 ^ k) (h0 : ahead ≠ 0) (hab : intBits ahead ≤ 4 * 2 ^ k)
    (e1 : m (Str.ofString "found") = some (.ref fd)) (e2 : m (Str.ofString "sign") = some (.int sign t1)) (e3 : m (Str.ofString "ahead") = some (.int ahead t2)) (e4 : m (Str.ofString "step") = some (.int k t3))
    (hs : sign.natAbs ≤ 1) (hgo : detGo n (n - k) k f sign ahead = detF n f₀) (hss : ∃ h tk, s = { s₀ with heap := h, toks := tk }) :
    wpAny (model prog w) (A.deeper (callEnvC (docDef (item 5).name (item 5).params (item 5).body (item 5).scope pm cd doc) L fa)) (execs detBody (callEnvC (docDef (item 5).name (item 5).params (item 5).body (item 5).scope pm cd doc) L fa))
      (fun fl s₃ => match fl with
        | .next | .cont => ∃ h' tk' m', s₃ = { s₀ with heap := h', toks := tk' } ∧ Fr g L h' m' ∧ NK s.heap h' ∧ DetInv g n f₀ (k + 1) m' h'
        | .brk => False
        | .ret v => ∃ t h' tk, v = .int 0 t ∧ s₃ = { s₀ with heap := h', toks := tk } ∧ Ext g h' ∧ detF n f₀ = 0) (fun _ _ => False) s := by
  have T := Tg.ext F.keep
  have hgo' := hgo
  rw [show n - k = (n - (k + 1)) + 1 from by omega] at hgo'
  unfold detGo at hgo'
  obtain ⟨h, tk, rfl⟩ := hss
  refine wpAny_execs_cons (wpAny_Assign_Name ?_)
  refine eval_fn (item 3) (by simp [items]) (by rfl) T (fun fa hfa => ?_)
  refine args_cons (nm F.ns e1 (args_cons (nm F.ns e4 (args_nil ⟨fun _ _ e => e, ?_⟩))))
  refine call_of (pivot_spec T hh (by show A.depth + 1 < _; omega) hfa M (by omega) (by omega) hk (by omega)) fun v h₈ tk₈ hv => ?_
  obtain ⟨k₈, hv⟩ := hv
  have F₈ : Fr g L h₈ m := ⟨F.ns.keeps k₈, fun b o e => k₈ _ _ (F.keep b o e), F.above⟩
  refine stL F₈.ns (fun h₉ hn₉ hs₉ => ?_)
  have F₉ := F₈.set hn₉ hs₉
  have dk₉ := DK.of_ns F₈.ns hs₉
  have M₉ := (M.ext k₈).sk dk₉.sk
  have T₉ := Tg.ext F₉.keep
  have nk₉ : NK h h₉ := (NK.of_ext k₈).trans dk₉.nk
  refine wpAny_execs_cons (wpAny_If (wpAny_isTrue_Compare1 (nm F₉.ns (by walk_at "lk") ?_)))
  refine cNone (is_none_gen (wpAny_truthy_bool ?_))
  rcases hv with ⟨r, hr1, hr2, hr3, hr4, t, rfl⟩ | ⟨rfl, hz⟩
  · rw [pivF_some (n - k) k hr4 hr3 hr1 (by omega)] at hgo'
    refine ite_bf (show (Value.int (r : Int) t == Value.none) = false from rfl) ?_
    try dsimp only
    refine wpAny_execs_nil ?_
    refine wpAny_execs_cons (wpAny_If (wpAny_isTrue_Compare1 (nm F₉.ns (by walk_at "lk") (nm F₉.ns (by walk_at "lk") (ne_int (wpAny_truthy_bool ?_))))))
    by_cases e : r = k
    · subst e
      refine ite_bf (bne_self_eq_false _) ?_
      try dsimp only
      refine wpAny_execs_nil ?_
      simp only [if_true] at hgo'
      refine wpAny_mono (det_tail (s := { s₀ with heap := h₉, toks := tk₈ + 1 }) (g := g) (f₀ := f₀) T₉ hh (by show A.depth + 1 + 4 < _; omega) F₉ M₉ hnd hfr hg1 hg2 hk hn hb h0 hab hr3 (by walk_at "lk") (by walk_at "lk") (by walk_at "lk") (by walk_at "lk") hs hgo' (Q := fun fl s₃ => match fl with
        | .next | .cont => ∃ h' tk' m', s₃ = { s₀ with heap := h', toks := tk' } ∧ Fr g L h' m' ∧ NK h h' ∧ DetInv g n f₀ (r + 1) m' h'
        | .brk => False
        | .ret v => ∃ t h' tk, v = .int 0 t ∧ s₃ = { s₀ with heap := h', toks := tk } ∧ Ext g h' ∧ detF n f₀ = 0) fun h' tk m' F' nk' D => ⟨h', tk, m', rfl, F', nk₉.trans nk', D⟩) (fun _ _ x => x) fun _ _ x => x
    · have e' : ((r : Int) != (k : Int)) = true := by simp; omega
      refine ite_bt e' ?_
      try dsimp only
      simp only [if_neg e] at hgo'
      refine wpAny_execs_cons (swap_stmt (i := r) (j := k) hh F₉.ns M₉ hnd hfr hr2 hk e (by omega) (by walk_at "lk") (by walk_at "lk") (by walk_at "lk") fun h₁₀ rs' M₁₀ hnd' hmem ho₁₀ => ?_)
      have fdL : fd ≠ L := fun q => by
        obtain ⟨o, ho, _, n', hd'⟩ := M₉.top
        obtain ⟨o', es, ep, ho', hd'', _⟩ := F₉.ns
        rw [q, ho'] at ho; cases ho; rw [hd''] at hd'; cases hd'
      have F₁₀ : Fr g L h₁₀ _ := ⟨F₉.ns.at' fun o x => ho₁₀ _ o (Ne.symm fdL) x, fun b o x => ho₁₀ b o (fun q => by rw [q, hg1] at x; cases x) (F₉.keep b o x), F₉.above⟩
      have nk₁₀ : NK h₉ h₁₀ := fun b o x kk => ho₁₀ b o (fun q => by
        obtain ⟨o', ho, _, n', hd'⟩ := M₉.top
        rw [← q, x] at ho; cases ho; simp [isFields, hd'] at kk) x
      refine wpAny_execs_cons (wpAny_Assign_Name (UnaryOp_ (nm F₁₀.ns (by walk_at "lk") (neg_int ?_))))
      refine stL F₁₀.ns (fun h₁₁ hn₁₁ hs₁₁ => ?_)
      have F₁₁ := F₁₀.set hn₁₁ hs₁₁
      have dk₁₁ := DK.of_ns F₁₀.ns hs₁₁
      have M₁₁ := M₁₀.sk dk₁₁.sk
      have T₁₁ := Tg.ext F₁₁.keep
      refine wpAny_execs_nil ?_
      have hb2 : ∀ i j, i < n → j < n → intBits (swapF f r k i j) + 1 ≤ 8 * 2 ^ k := fun i j hi hj => by
        have h2 := swapF_bits (f := f) (β := 8 * 2 ^ k - 1) (fun i j a b => by have := hb i j a b; omega) hr2 hk i j hi hj
        have := Nat.two_pow_pos k
        omega
      have hp2 : swapF f r k k k ≠ 0 := by
        unfold swapF
        rw [if_neg (Ne.symm e), if_pos rfl]; exact hr3
      refine wpAny_mono (det_tail (s := { s₀ with heap := h₁₁, toks := tk₈ + 1 + 1 + 1 }) (g := g) (f₀ := f₀) T₁₁ hh (by show A.depth + 1 + 4 < _; omega) F₁₁ M₁₁ hnd' (fun hm => hfr (hmem _ hm)) hg1 (fun r hr => hg2 r (hmem r hr)) hk hn hb2 h0 hab hp2 (by walk_at "lk") (by walk_at "lk") (by walk_at "lk") (by walk_at "lk") (by omega) hgo' (Q := fun fl s₃ => match fl with
        | .next | .cont => ∃ h' tk' m', s₃ = { s₀ with heap := h', toks := tk' } ∧ Fr g L h' m' ∧ NK h h' ∧ DetInv g n f₀ (k + 1) m' h'
        | .brk => False
        | .ret v => ∃ t h' tk, v = .int 0 t ∧ s₃ = { s₀ with heap := h', toks := tk } ∧ Ext g h' ∧ detF n f₀ = 0) fun h' tk m' F' nk' D => ⟨h', tk, m', rfl, F', ((nk₉.trans nk₁₀).trans dk₁₁.nk).trans nk', D⟩) (fun _ _ x => x) fun _ _ x => x
  · rw [pivF_none (n - k) k (fun r' a b => hz r' a (by omega))] at hgo'
    refine ite_bt (show (Value.none == Value.none) = true from rfl) ?_
    try dsimp only
    refine wpAny_execs_cons (wpAny_Return_some (wpAny_Constant_int ?_))
    exact ⟨_, _, _, rfl, rfl, F₉.keep, hgo'.symm⟩

set_option maxHeartbeats 2000000 in
theorem det_spec {a : Addr} {rs : List Addr} {n : Nat} {f : Nat → Nat → Int} {fa : Addr} (T : TopF mg mb s.heap) (hh : A.handled = none) (hd : A.depth + 8 < recursionLimit) (hu : A.units + 100 < cLine)
    (hf : mg (item 5).name = some (.ref fa)) (M : MatAt s.heap a rs n n f) (hn : n ≤ 12) (hb : ∀ i j, i < n → j < n → intBits (f i j) ≤ 7) :
    codeAny (model prog w) A (.call (.ref fa) ⟨[.ref a], []⟩) (Ret s fun v h' => Ext s.heap h' ∧ ∃ t, v = .int (detF n f) t) s := by
  obtain ⟨fa', o, pm, doc, cd, h1, h2, h3, h4⟩ := T.made (item 5) (by simp [items])
  rw [hf] at h1; cases h1
  refine call_cells_ret (by omega) h2 h3 T.nolimit h4 (binds := [(Str.ofString "a", .ref a)]) (by rfl) (by intro n x hx; simp only [List.mem_singleton] at hx; subst hx; exact .inr ⟨by rfl, by rfl⟩) (fun h₁ tk₁ F hc => ?_)
  have hc₁ : h₁.IsCell (s.heap.objs.size + 1) (some (.ref a)) := hc (Str.ofString "a") (s.heap.objs.size + 1) (by rfl)
  clear hc
  have M₁ := M.ext F.keep
  have T₁ := T.ext F.keep
  refine wpAny_execs_cons (wpAny_If ?_)
  refine shape_test T₁ hh (by show A.units + 3 + 64 < cLine; omega) M₁ (by omega) hc₁ (by rfl) (by rfl) (by decide) (by rfl) (by decide) (by rfl) (by rfl) (by rfl) (by rfl) (fun h₂ tk₂ k₂ => ?_)
  refine ite_f ?_
  dsimp only
  refine wpAny_execs_nil ?_
  have F₂ : Fr s.heap s.heap.objs.size h₂ _ := ⟨F.ns.keeps k₂, fun b o e => k₂ _ _ (F.keep b o e), F.above⟩
  have M₂ := M₁.ext k₂
  have T₂ := T₁.ext k₂
  have hc₂ := IsCell.sk hc₁ (.of_ext k₂)
  refine wpAny_execs_cons (Assign_Tuple_swapped (names := [Str.ofString "found", Str.ofString "sign", Str.ofString "ahead"]) ?_)
  refine Tuple_ (args_cons ?_)
  refine copy_comp T₂ hh M₂ (by omega) hc₂ (by rfl) (by rfl) (by decide) (by rfl) (by decide) (by rfl) (by rfl) (by rfl) (fun D rs' h₃ tk₃ k₃ M₃ hnd hD hDn hrn => ?_)
  refine args_cons (wpAny_Constant_int (args_cons (wpAny_Constant_int (args_nil (newTuple_ ?_)))))
  refine unpackItems_tuple (items := [Value.ref D, Value.int 1 tk₃, Value.int 1 (tk₃ + 1)].toArray) hh ⟨_, Heap.get?_push_size _ rfl, rfl, 0, rfl⟩ (fun h₄ he => ?_)
  have k₄ : Ext h₃ h₄ := fun b o e => he b o (Nat.ne_of_lt (by rw [show ∀ o, ({ s with heap := Heap.push h₃ o, toks := tk₃ + 1 + 1 } : Shared).heap.objs.size = h₃.objs.size + 1 from fun o => Heap.size_push ..]; exact Nat.lt_succ_of_lt (Heap.lt_size e))) (Heap.get?_push_of_some _ e)
  have F₄ : Fr s.heap s.heap.objs.size h₄ _ := ⟨(F₂.ns.keeps k₃).keeps k₄, fun b o e => k₄ _ _ (k₃ _ _ (F₂.keep b o e)), F₂.above⟩
  have M₄ := M₃.ext k₄
  refine assignInOrder_cons (wpAny_bindName (stL F₄.ns (fun h₅ hn₅ hs₅ => ?_)))
  have F₅ := F₄.set hn₅ hs₅
  have dk₅ := DK.of_ns F₄.ns hs₅
  refine assignInOrder_cons (wpAny_bindName (stL F₅.ns (fun h₆ hn₆ hs₆ => ?_)))
  have F₆ := F₅.set hn₆ hs₆
  have dk₆ := DK.of_ns F₅.ns hs₆
  refine assignInOrder_cons (wpAny_bindName (stL F₆.ns (fun h₇ hn₇ hs₇ => ?_)))
  have F₇ := F₆.set hn₇ hs₇
  have dk₇ := DK.of_ns F₆.ns hs₇
  refine assignInOrder_nil ?_
  have sk := ((dk₅.trans dk₆).trans dk₇).sk
  have M₇ := M₄.sk sk
  have Ma₇ := ((M₂.ext k₃).ext k₄).sk sk
  have hc₇ := IsCell.sk (IsCell.sk (IsCell.sk hc₂ (.of_ext k₃)) (.of_ext k₄)) sk
  have T₇ := T.ext F₇.keep
  have gD : s.heap.get? D = none := by
    cases q : s.heap.get? D with
    | none => rfl
    | some o => have q' := F₂.keep _ _ q; dsimp only at hDn; rw [hDn] at q'; cases q'
  have gr : ∀ r ∈ rs', s.heap.get? r = none := fun r hr => by
    cases q : s.heap.get? r with
    | none => rfl
    | some o => have q' := F₂.keep _ _ q; have q2 := hrn r hr; dsimp only at q2; rw [q2] at q'; cases q'
  refine wpAny_execs_cons (wpAny_For (eval_range1 T₇ ?_))
  refine eval_len T₇ (nmC (c := s.heap.objs.size + 1) (by rfl) hc₇ ⟨a, _, n, rfl, Ma₇.top, by rw [List.length_map, M.len], by omega, ?_⟩)
  refine ⟨_, _, rfl, ?_⟩
  refine iter_rng n (DetInv s.heap n f) (g := s.heap) hh (IsRange.new _ _ _ _ _ _ _) (by split <;> omega) (by omega) (by omega) (F₇.push _) (fun i m h h' x k => x.sk k) ?_ ?_ ?_
  · refine DetInv.sk ⟨D, rs', f, 1, 1, _, _, (by walk_at "lk"), (by walk_at "lk"), (by walk_at "lk"), M₇, hnd, hD, gD, gr, fun i j hi hj => ?_, by decide, by decide, by decide, rfl⟩ (.of_ext fun _ _ => Heap.get?_push_of_some _)
    have := hb i j hi hj; omega
  · rintro i h tk m hi F' ⟨fd, rs₁, f', sign, ahead, t1, t2, e1, e2, e3, M', hnd', hfr, hg1, hg2, hb', h0, hab, hs, hgo⟩
    refine wpAny_mono (det_turn (s₀ := s) (pm := pm) (cd := cd) (doc := doc) (fa := fa) (s := { s with heap := h, toks := tk + 1 + 1 }) T hh hd F' M' hnd' hfr hg1 hg2 hi hn hb' h0 hab (by walk_at "lk") (by walk_at "lk") (by walk_at "lk") ((if_pos rfl).trans (by rw [Int.zero_add])) hs hgo ⟨_, _, rfl⟩) (fun fl s₃ x => ?_) fun _ _ x => x
    cases fl with
    | next => exact x
    | cont => exact x
    | brk => exact x.elim
    | ret v =>
      obtain ⟨t, h', tk, rfl, rfl, kk, hz⟩ := x
      exact ⟨_, _, _, rfl, rfl, kk, t, by rw [hz]⟩
  · rintro h tk m F' nk ⟨fd, rs₁, f', sign, ahead, t1, t2, e1, e2, e3, M', hnd', hfr, hg1, hg2, hb', h0, hab, hs, hgo⟩
    refine wpAny_execs_cons (wpAny_Return_some (wpAny_BinOp (nm F'.ns e2 (nm F'.ns e3 (mul_int ?_ (.of_left (intBits_le_64 (by omega) (by omega))))))))
    rw [Nat.sub_self] at hgo
    exact ⟨_, _, _, rfl, rfl, F'.keep, _, by rw [← hgo]; rfl⟩
end
end Mine

end
noncomputable section
namespace Mine
open PySem PySem.W PySem.Calls PyProof.Rows

section
variable {prog : Program} {w : World} {A : Around} {E : Value → Shared → Prop} {s : Shared} {env : Env} {mg mb : Str → Option Value}

theorem compLoop_tup {elt target iter : Expr} {ifs : List Expr} {scope : Scope} {pos : Pos} {it acc : Value} {env : Env} {R : Result → Shared → Prop} (I : Nat → Shared → Prop)
    (turn : ∀ n s, I n s → wpAny (model prog w) A (pyNext it) (fun r s₁ => match r with
      | none => R (.ok .next) s₁
      | some v => wpAny (model prog w) A (letOwnedTupleGo target it v) (fun _ s₁' => wpAny (model prog w) A (assign target env v) (fun _ s₂ =>
          wpAny (model prog w) A (forIn ifs true fun c r => if r = true then do let ok ← isTrue c env (eval c env); pure (ForInStep.yield ok) else pure (ForInStep.yield r)) (fun ok s₃ =>
            if ok = true then wpAny (model prog w) A (eval elt env) (fun x s₄ =>
              wpAny (model prog w) A (call (.builtin "list.append") [acc, x]) (fun _ s₅ => ∃ m, m < n ∧ I m s₅) (fun _ _ => False) s₄) (fun _ _ => False) s₃
            else ∃ m, m < n ∧ I m s₃) (fun _ _ => False) s₂) (fun _ _ => False) s₁') (fun _ _ => False) s₁) (fun _ _ => False) s)
    (n : Nat) (h : I n s) : codeAny (model prog w) A (.compLoop (.ListComp elt [⟨target, iter, ifs, 0⟩] scope pos) 0 it acc env) R s := by
  refine codeAny_loop rfl I (fun n s hI => ?_) n h
  show wpAny _ A ((compTurn (.ListComp elt [⟨target, iter, ifs, 0⟩] scope pos) 0 it acc env).onRaise (fun x => do noteFrame x env; theTreesLotGoes x)) _ _ s
  refine wpAny_noted ?_
  rw [compTurn_list]
  refine wpAny_bind (wpAny_standAt (wpAny_bind (wpAny_mono (turn n s hI) (fun r s₁ h₁ => ?_) fun _ _ h' => h'.elim)))
  cases r with
  | none => exact wpAny_pure h₁
  | some v =>
    refine wpAny_bind (wpAny_mono h₁ (fun _ s₁' h₁' => ?_) fun _ _ h' => h'.elim)
    refine wpAny_bind (wpAny_mono h₁' (fun _ s₂ h₂ => wpAny_bind (wpAny_mono h₂ (fun ok s₃ h₃ => ?_) fun _ _ h' => h'.elim)) fun _ _ h' => h'.elim)
    cases ok with
    | false => exact wpAny_pure ⟨rfl, h₃⟩
    | true =>
      exact wpAny_bind (wpAny_bind (wpAny_mono h₃ (fun x s₄ h₄ => wpAny_bind (wpAny_mono h₄ (fun _ s₅ h₅ => wpAny_pure (wpAny_pure ⟨rfl, h₅⟩)) fun _ _ h' => h'.elim)) fun _ _ h' => h'.elim))

/-- the elements that a comprehension has made -/
def Els (F : Nat → Value → Heap → Prop) (h : Heap) (avoid : List Addr) (idx : List Nat) (ys : List Value) : Prop :=
  ys.length = idx.length ∧ ∀ (k i : Nat) (y : Value), idx[k]? = some i → ys[k]? = some y → F i y h ∧ ∀ T, y = .ref T → T ∉ avoid

/-- F looks at the object at the value's address alone -/
def Looks1 (F : Nat → Value → Heap → Prop) : Prop := ∀ i y h h', F i y h → (∀ T o, y = .ref T → h.get? T = some o → h'.get? T = some o) → F i y h'

theorem Els.keep {F h h' avoid idx ys} (hF : Looks1 F) (x : Els F h avoid idx ys) (k : ∀ b o, b ∉ avoid → h.get? b = some o → h'.get? b = some o) : Els F h' avoid idx ys :=
  ⟨x.1, fun j i y hi hy => let ⟨a, b⟩ := x.2 j i y hi hy; ⟨hF i y h h' a fun T o e => k T o (b T e), b⟩⟩
theorem Els.snoc {F h avoid idx ys i y} (x : Els F h avoid idx ys) (a : F i y h) (b : ∀ T, y = .ref T → T ∉ avoid) : Els F h avoid (idx ++ [i]) (ys ++ [y]) := by
  refine ⟨by simp [x.1], fun k i' y' hi hy => ?_⟩
  rcases Nat.lt_trichotomy k idx.length with hk | hk | hk
  · rw [List.getElem?_append_left hk] at hi
    rw [List.getElem?_append_left (by rw [x.1]; exact hk)] at hy
    exact x.2 k i' y' hi hy
  · subst hk
    simp at hi
    rw [← x.1] at hy; simp at hy
    subst hi; subst hy; exact ⟨a, b⟩
  · rw [List.getElem?_eq_none (by simp; omega)] at hi; cases hi

theorem range_snoc (p : Nat → Bool) (i : Nat) : (List.range (i + 1)).filter p = (List.range i).filter p ++ (if p i then [i] else []) := by
  rw [List.range_succ, List.filter_append]
  cases h : p i <;> simp [h]

set_option maxHeartbeats 1000000 in
/-- [elt for xi, xv in enumerate(l) if cnd] -/
theorem enum_comp {elt cnd le : Expr} {xi xv : Str} {pi pv tp p1 p2 pos : Pos} {kt : Nat} {scope : Scope} {cl : List (Str × Addr)} {l : Addr} {vs : List Value} {n : Nat} {Q : Value → Shared → Prop} (p : Nat → Bool) (F : Nat → Value → Heap → Prop) (hF : Looks1 F)
    (T : TopF mg mb s.heap) (hh : A.handled = none) (hl : s.heap.IsList l vs.toArray) (hlen : vs.length = n) (hn : n < 1000)
    (hle : ∀ Q' : Value → Shared → Prop, Q' (.ref l) s → wpAny (model prog w) A (eval le env) Q' E s)
    (hclos : closureFor scope env = pure cl) (hcell : ∀ y ∈ scope.names, y.2 ≠ .cell) (hkind : scope.kind = .function)
    (hnames : ∀ y ∈ scope.names, y.2 = .local → scope.names.lookup y.1 = some .local) (hxi : scope.names.lookup xi = some .local) (hxv : scope.names.lookup xv = some .local) (hne : ¬ xi = xv)
    (tests : ∀ (C : Addr) (i : Nat) (v : Value) (s₃ : Shared) m₃ t, i < n → vs[i]? = some v → s₃.heap.Ns C m₃ → m₃ xi = some (.int i t) → m₃ xv = some v → Ext s.heap s₃.heap →
      wpAny (model prog w) A (isTrue cnd (compEnvC scope cl C env) (eval cnd (compEnvC scope cl C env))) (fun ok s₄ => ok = p i ∧ Keeps s₃ s₄) (fun _ _ => False) s₃)
    (elts : ∀ (C : Addr) (i : Nat) (v : Value) (s₃ : Shared) m₃ t, i < n → p i = true → vs[i]? = some v → s₃.heap.Ns C m₃ → m₃ xi = some (.int i t) → m₃ xv = some v → Ext s.heap s₃.heap →
      wpAny (model prog w) A (eval elt (compEnvC scope cl C env)) (fun y s₄ => F i y s₄.heap ∧ (∀ T, y = .ref T → s₃.heap.get? T = none) ∧ Keeps s₃ s₄) (fun _ _ => False) s₃)
    (h : ∀ D h' tk ys, s.heap.get? D = none → h'.IsList D (ys : List Value).toArray → Els F h' [] ((List.range n).filter p) ys → Ext s.heap h' → Q (.ref D) { s with heap := h', toks := tk })
    (hk : env.scope.kind = .function := by rfl) (hln : env.kindOf (Str.ofString "enumerate") = some .globalImplicit := by rfl) (hg : env.globals = mainGlobals := by rfl) (hbn : env.builtins = builtinsNs := by rfl)
    (he : starEach [le] env = (false, eval le env) :: starEach [] env := by rfl)
    (hs : ∀ x, foldedSetIterable (.Call (.Name (Str.ofString "enumerate") p1) [le] [] p2) env x = pure x := by intro _; rfl) :
    wpAny (model prog w) A (eval (.ListComp elt [⟨.Tuple [.Name xi pi, .Name xv pv] kt tp, .Call (.Name (Str.ofString "enumerate") p1) [le] [] p2, [cnd], 0⟩] scope pos) env) Q E s := by
  rw [eval_ListComp]
  refine wpAny_comprehension_free (use := none) rfl hs hclos hkind hnames ?_
  refine Call_ (nmB T (by decide) (by rfl) ?_ hk hln hg hbn)
  refine callWith_type1 (args_cons (hle _ (args_nil ?_)) he) he
  refine call_enumerate_list hl fun h₁ hE hI hsz₁ k₁ => ?_
  refine wpAny_pyIter_enum hE ?_
  refine wpAny_newObj_type (wpAny_newFunctionEnv hcell (by intro y hy; simp at hy) (fun h₃ hns₃ hsb₃ => ?_) hkind)
  dsimp only at hns₃ hsb₃ ⊢
  generalize hH2 : h₁.push { cls := .type "list", dict := none, data := .seq ([] : List Value).toArray } = H2 at hns₃ hsb₃ ⊢
  generalize hit : s.heap.objs.size = it at *
  have hH2s : H2.objs.size = it + 3 := by rw [← hH2, Heap.size_push, hsz₁]
  have hD : h₁.objs.size = it + 2 := hsz₁
  have below : ∀ (b : Nat) (o : Obj), s.heap.get? b = some o → b < it := fun b o e => by have := Heap.lt_size e; rw [hit] at this; exact this
  have bne : ∀ (b : Nat) (o : Obj), s.heap.get? b = some o → ∀ k : Nat, it ≤ k → b ≠ k := fun b o e k hk => by have := below b o e; omega
  have old : Ext s.heap h₃ := fun b o e => hsb₃.extBut b o (bne b o e _ (by omega)) (Heap.get?_push_of_some _ (hH2 ▸ Heap.get?_push_of_some _ (k₁ b o e)))
  have up₁ : ∀ b o, b ≠ H2.objs.size → h₁.get? b = some o → h₃.get? b = some o := fun b o hb e => hsb₃.extBut b o hb (Heap.get?_push_of_some _ (hH2 ▸ Heap.get?_push_of_some _ e))
  have hacc : h₃.PlainList h₁.objs.size #[] := ⟨_, hsb₃.extBut _ _ (show @Ne Nat _ _ by omega) (Heap.get?_push_of_some _ (hH2 ▸ Heap.get?_push_size _ rfl))⟩
  obtain ⟨ol, hol, _⟩ := id hl
  have hll := below l ol hol
  have hp : ((compEnvC scope cl H2.objs.size env).scope.kind == .class || ((compEnvC scope cl H2.objs.size env).scope.kind == .module && (compEnvC scope cl H2.objs.size env).locals != (compEnvC scope cl H2.objs.size env).globals)) = false := by simp [compEnvC, relabel, hkind]
  have W := WalksT.enumerate (prog := prog) (w := w) (A := A) hh (it + 1) it l (show @Ne Nat _ _ by omega) (show @Ne Nat _ _ by omega) (show @Ne Nat _ _ by omega) vs.toArray
  generalize hC : H2.objs.size = C at *
  generalize hDD : h₁.objs.size = D at *
  have cE : (C : Nat) ≠ it + 1 := by omega
  have cI : (C : Nat) ≠ it := by omega
  have cL : (C : Nat) ≠ l := by omega
  have dC : (D : Nat) ≠ C := by omega
  have dE : (D : Nat) ≠ it + 1 := by omega
  have dI : (D : Nat) ≠ it := by omega
  have dL : (D : Nat) ≠ l := by omega
  have eC : (it + 1 : Nat) ≠ C := by omega
  have iC : (it : Nat) ≠ C := by omega
  have bC : ∀ (b : Nat) (o : Obj), s.heap.get? b = some o → b ≠ C := fun b o e => bne b o e _ (by omega)
  have bD : ∀ (b : Nat) (o : Obj), s.heap.get? b = some o → b ≠ D := fun b o e => bne b o e _ (by omega)
  have bE : ∀ (b : Nat) (o : Obj), s.heap.get? b = some o → b ≠ it + 1 := fun b o e => bne b o e _ (by omega)
  have bI : ∀ (b : Nat) (o : Obj), s.heap.get? b = some o → b ≠ it := fun b o e => bne b o e _ (by omega)
  have loop : codeAny (model prog w) A (.compLoop (.ListComp elt [⟨.Tuple [.Name xi pi, .Name xv pv] kt tp, .Call (.Name (Str.ofString "enumerate") p1) [le] [] p2, [cnd], 0⟩] scope pos) 0 (.ref (it + 1)) (.ref D) (compEnvC scope cl C env))
      (compPost (model prog w) A E none Q (.ref D) C) { s with heap := h₃, toks := s.toks + ([] : List (Str × Value)).length } := by
    refine compLoop_tup
      (fun k s' => ∃ h' tk m' ys i, s' = { s with heap := h', toks := tk } ∧ ((∃ old, IsEnum h' (it + 1) it (i : Nat) old) ∧ h'.IsListIter it l i ∧ h'.IsList l vs.toArray) ∧ h'.PlainList D (ys : List Value).toArray ∧ h'.Ns C m' ∧
        Els F h' [C, D, it + 1, it] ((List.range i).filter p) ys ∧ i ≤ n ∧ k = n + 1 - i ∧ Ext s.heap h') ?_ (n + 1)
      ⟨h₃, _, _, [], 0, rfl, ⟨⟨_, up₁ _ _ eC hE⟩, (let ⟨o, a, b⟩ := hI; ⟨o, up₁ _ _ iC a, b⟩), IsList.ext hl old⟩, hacc, hns₃, ⟨rfl, fun k i y hi => by simp at hi⟩, Nat.zero_le _, rfl, old⟩
    rintro k s' ⟨H, tk, m', ys, i, rfl, hst, hacc', hn', hels, hi, rfl, hkp⟩
    by_cases hlt : i < n
    · refine W.item i _ _ _ (by simp [hlen, hlt]) hst fun Tt vals h₄ tk₄ hPt hTn hTt hmid hk₄ => ?_
      dsimp only
      refine W.go _ _ _ i Tt _ _ _ hmid fun h₅ hst₅ hk₅ => ?_
      obtain ⟨t, x, hx, rfl⟩ := hPt
      have hx' : vs[i]? = some x := by simpa using hx
      have hT₅ : h₅.IsTuple Tt #[.int i t, x] := let ⟨o, e, r⟩ := hTt; ⟨o, hk₅ _ o (W.apart i Tt _ hmid) e, r⟩
      refine wpAny_assign_Tuple hh hT₅ rfl rfl fun h₆ hx₆ => ?_
      have k₆ : Ext h₅ h₆ := fun b o e => hx₆ b o (Nat.ne_of_lt (Heap.lt_size e)) e
      have nw : ∀ {b}, b ≠ it + 1 → b ≠ it → b ∉ [it + 1, it] := fun h1 h2 hm => by simp at hm; exact hm.elim h1 h2
      have upN : ∀ b o, b ≠ it + 1 → b ≠ it → H.get? b = some o → h₆.get? b = some o := fun b o h1 h2 e => k₆ _ _ (hk₅ b o (nw h1 h2) (hk₄ b o (nw h1 h2) e))
      have hn₆ : h₆.Ns C m' := hn'.at' fun o e => upN _ o cE cI e
      refine assignInOrder_cons (assign_Name (wpAny_storeName_local (env := compEnvC scope cl C env) (lookup_relabel_local hxi) hn₆ (fun h₇ hn₇ hs₇ => ?_) hp))
      replace hs₇ : Heap.SameBut C h₆ h₇ := hs₇
      refine assignInOrder_cons (assign_Name (wpAny_storeName_local (env := compEnvC scope cl C env) (lookup_relabel_local hxv) hn₇ (fun h₈ hn₈ hs₈ => ?_) hp))
      replace hs₈ : Heap.SameBut C h₇ h₈ := hs₈
      refine assignInOrder_nil ?_
      have up₈ : ∀ b o, b ≠ C → h₆.get? b = some o → h₈.get? b = some o := fun b o hb e => hs₈.extBut b o hb (hs₇.extBut b o hb e)
      have all₈ : ∀ b o, b ≠ C → b ≠ it + 1 → b ≠ it → H.get? b = some o → h₈.get? b = some o := fun b o h0 h1 h2 e => up₈ b o h0 (upN b o h1 h2 e)
      have kp₈ : Ext s.heap h₈ := fun b o e => all₈ b o (bC b o e) (bE b o e) (bI b o e) (hkp b o e)
      have m1 : (fun y => if y = xv then some x else if y = xi then some (Value.int i t) else m' y) xi = some (.int i t) := by simp [hne]
      have m2 : (fun y => if y = xv then some x else if y = xi then some (Value.int i t) else m' y) xv = some x := by simp
      refine wpAny_tests_one (wpAny_mono (tests C i x _ _ t hlt hx' hn₈ m1 m2 kp₈) (fun ok s₉ h₉ => ?_) fun _ _ e => e)
      obtain ⟨rfl, h₉, tk₉, rfl, k₉⟩ := h₉
      have hst₉ : (∃ old, IsEnum h₉ (it + 1) it ((i + 1 : Nat) : Int) old) ∧ h₉.IsListIter it l (i + 1) ∧ h₉.IsList l vs.toArray := by
        refine W.frame (i + 1) _ h₉ hst₅ fun b hb o e => k₉ _ _ (up₈ b o ?_ (k₆ _ _ e))
        rintro rfl; simp at hb; rcases hb with h | h | h <;> first | exact cE h | exact cI h | exact cL h
      have hacc₉ : h₉.PlainList D ys.toArray := hacc'.at fun o e => k₉ _ _ (all₈ D o dC dE dI e)
      have hels₉ : Els F h₉ [C, D, it + 1, it] ((List.range i).filter p) ys := hels.keep hF fun b o hb e => by
        simp at hb
        exact k₉ _ _ (all₈ b o hb.1 hb.2.2.1 hb.2.2.2 e)
      have hn₉ := hn₈.keeps k₉
      have kp₉ : Ext s.heap h₉ := fun b o e => k₉ _ _ (kp₈ b o e)
      cases hpi : p i with
      | false =>
        refine ite_f ?_
        try dsimp only
        refine ⟨n + 1 - (i + 1), by omega, h₉, tk₉, _, ys, i + 1, rfl, hst₉, hacc₉, hn₉, ?_, hlt, rfl, kp₉⟩
        rw [range_snoc, hpi]; simpa using hels₉
      | true =>
        refine ite_t ?_
        try dsimp only
        refine wpAny_mono (elts C i x _ _ t hlt hpi hx' hn₉ m1 m2 kp₉) (fun y s₁₀ h₁₀ => ?_) fun _ _ e => e
        obtain ⟨hFy, hTy, h₁₀, tk₁₀, rfl, k₁₀⟩ := h₁₀
        have hys : ys.length ≤ sizeLine := by
          rw [hels.1, sizeLine_eq]
          have := List.length_filter_le p (List.range i)
          rw [List.length_range] at this; omega
        refine wpAny_list_append_plain (hacc₉.at fun o e => k₁₀ _ o e) (fun h₁₁ hl₁₁ hs₁₁ => ?_) (by simpa using hys)
        have hav : ∀ T, y = .ref T → T ∉ [C, D, it + 1, it] := fun T e hm => by
          have q := hTy T e
          obtain ⟨_, _, _, ho, _⟩ := hn₉
          obtain ⟨_, hoD⟩ := hacc₉
          obtain ⟨⟨_, hoE⟩, ⟨_, hoI, _⟩, _⟩ := hst₉
          simp at hm
          rcases hm with rfl | rfl | rfl | rfl
          · exact absurd (q.symm.trans ho) (by simp)
          · exact absurd (q.symm.trans hoD) (by simp)
          · exact absurd (q.symm.trans hoE) (by simp)
          · exact absurd (q.symm.trans hoI) (by simp)
        have el11 : Els F h₁₁ [C, D, it + 1, it] ((List.range (i + 1)).filter p) (ys ++ [y]) := by
          rw [range_snoc, hpi, if_pos rfl]
          refine Els.keep hF (h := h₁₀) (Els.snoc (hels₉.keep hF fun b o _ e => k₁₀ _ _ e) hFy hav) fun b o hb e => ?_
          simp at hb
          exact hs₁₁.extBut b o hb.2.1 e
        refine ⟨n + 1 - (i + 1), by omega, h₁₁, tk₁₀, _, ys ++ [y], i + 1, rfl, ?_, by simpa using hl₁₁, (hn₉.keeps k₁₀).sameBut hs₁₁ (Ne.symm dC), el11, hlt, rfl, fun b o e => hs₁₁.extBut b o (bD b o e) (k₁₀ _ _ (kp₉ b o e))⟩
        exact W.frame (i + 1) _ h₁₁ hst₉ fun b hb o e => hs₁₁.extBut b o (by rintro rfl; simp at hb; rcases hb with h | h | h <;> first | exact dE h | exact dI h | exact dL h) (k₁₀ _ _ e)
    · have hin : i = n := by omega
      subst hin
      refine W.done _ _ _ (by simpa [hlen] using hst) fun h₄ tk₄ hk₄ => ?_
      have nw : ∀ {b}, b ≠ it + 1 → b ≠ it → b ∉ [it + 1, it] := fun h1 h2 hm => by simp at hm; exact hm.elim h1 h2
      refine ⟨m', hn'.at' fun o e => hk₄ _ o (nw cE cI) e, fun h'' hs'' => ?_⟩
      have k2 : ∀ b o, b ≠ C → b ≠ it + 1 → b ≠ it → H.get? b = some o → h''.get? b = some o := fun b o h0 h1 h2 e => hs''.extBut b o h0 (hk₄ b o (nw h1 h2) e)
      refine h D h'' _ ys ?_ ((hacc'.at fun o e => k2 D o dC dE dI e).isList) ⟨hels.1, fun k j y hj hy => ⟨?_, fun _ _ hm => by cases hm⟩⟩ fun b o e => k2 b o (bC b o e) (bE b o e) (bI b o e) (hkp b o e)
      · cases e : s.heap.get? D with
        | none => rfl
        | some o => exact absurd rfl (bD D o e)
      · obtain ⟨a, b⟩ := hels.2 k j y hj hy
        refine hF _ _ _ _ a fun T o e e' => ?_
        have := b T e
        simp at this
        exact k2 T o this.1 this.2.2.1 this.2.2.2 e'
  exact codeAny_compStart_list loop (W.self 0 _ _ _ ⟨⟨_, up₁ _ _ eC hE⟩, (let ⟨o, a, b⟩ := hI; ⟨o, up₁ _ _ iC a, b⟩), IsList.ext hl old⟩ loop)
end
end Mine

end
noncomputable section
namespace Mine
open PySem PySem.W PySem.Calls PyProof.Rows

def skip (r k : Nat) : Nat := if k < r then k else k + 1
def minorF (f : Nat → Nat → Int) (r c : Nat) : Nat → Nat → Int := fun i j => f (skip r i) (skip c j)

theorem range_skip (r : Nat) : ∀ n, (List.range n).filter (fun i => i != r) = if n ≤ r then List.range n else (List.range (n - 1)).map (skip r)
  | 0 => by simp
  | n + 1 => by
    rw [range_snoc, range_skip r n]
    by_cases h : n + 1 ≤ r
    · rw [if_pos h, if_pos (by omega), if_pos (by simp; omega), List.range_succ]
    · rw [if_neg h]
      by_cases h2 : n ≤ r
      · have : n = r := by omega
        subst this
        rw [if_pos h2, if_neg (by simp), List.append_nil, Nat.add_sub_cancel]
        have : ∀ k ∈ List.range n, skip n k = id k := fun k hk => by unfold skip; rw [if_pos (List.mem_range.mp hk)]; rfl
        rw [List.map_congr_left this, List.map_id]
      · rw [if_neg h2, if_pos (by simp; omega)]
        obtain ⟨q, rfl⟩ : ∃ q, n = q + 1 := ⟨n - 1, by omega⟩
        rw [show q + 1 + 1 - 1 = q + 1 from rfl, List.range_succ, List.map_append]
        simp only [Nat.add_sub_cancel, List.map_cons, List.map_nil]
        unfold skip
        rw [if_neg (by omega)]

theorem skip_get {r n : Nat} (hr : r < n) (k i : Nat) (h : ((List.range n).filter (fun i => i != r))[k]? = some i) : i = skip r k := by
  rw [range_skip, if_neg (by omega), List.getElem?_map] at h
  cases hk : (List.range (n - 1))[k]? with
  | none => rw [hk] at h; cases h
  | some q =>
    rw [hk] at h
    obtain ⟨hq, e⟩ := List.getElem?_eq_some_iff.mp hk
    rw [List.getElem_range] at e
    subst e
    exact (Option.some.inj h).symm
theorem skip_len {r n : Nat} (hr : r < n) : ((List.range n).filter (fun i => i != r)).length = n - 1 := by
  rw [range_skip, if_neg (by omega)]; simp

section
variable {prog : Program} {w : World} {A : Around} {E : Value → Shared → Prop} {s : Shared} {env : Env} {mg mb : Str → Option Value}

theorem els_row {h : Heap} {D : Addr} {n c : Nat} {g : Nat → Int} {ys : List Value} {av : List Addr} (hc : c < n) (hl : h.IsList D ys.toArray) (x : Els (fun i y _ => ∃ t, y = .int (g i) t) h av ((List.range n).filter (fun i => i != c)) ys) :
    RowAt h D (n - 1) (fun j => g (skip c j)) := by
  refine ⟨ys, hl, by rw [x.1, skip_len hc], fun j hj => ?_⟩
  have hy : j < ys.length := by rw [x.1, skip_len hc]; exact hj
  have hi : j < ((List.range n).filter (fun i => i != c)).length := by rw [skip_len hc]; exact hj
  obtain ⟨⟨t, e⟩, _⟩ := x.2 j _ _ (List.getElem?_eq_getElem hi) (List.getElem?_eq_getElem hy)
  refine ⟨t, ?_⟩
  rw [List.getElem?_eq_getElem hy, e, skip_get hc j _ (List.getElem?_eq_getElem hi)]

theorem els_mat {h : Heap} {D : Addr} {n k r : Nat} {f : Nat → Nat → Int} {ys : List Value} {av : List Addr} (hr : r < n) (hl : h.IsList D ys.toArray) (x : Els (fun i y h => ∃ T, y = .ref T ∧ RowAt h T k (f i)) h av ((List.range n).filter (fun i => i != r)) ys) :
    ∃ rs, MatAt h D rs (n - 1) k (fun i j => f (skip r i) j) := by
  have hlen : ys.length = n - 1 := by rw [x.1, skip_len hr]
  have key : ∀ j (hj : j < ys.length), ∃ T, ys[j] = .ref T ∧ RowAt h T k (f (skip r j)) := fun j hj => by
    have hi : j < ((List.range n).filter (fun i => i != r)).length := by rw [skip_len hr]; omega
    obtain ⟨⟨T, e, hR⟩, _⟩ := x.2 j _ _ (List.getElem?_eq_getElem hi) (List.getElem?_eq_getElem hj)
    rw [skip_get hr j _ (List.getElem?_eq_getElem hi)] at hR
    exact ⟨T, e, hR⟩
  let addr : Value → Addr := fun v => match v with | .ref a => a | _ => 0
  have e1 : (ys.map addr).map Value.ref = ys := by
    refine List.ext_getElem (by simp) fun j h1 h2 => ?_
    obtain ⟨T, e, _⟩ := key j h2
    simp only [List.getElem_map, e, addr]
  refine ⟨ys.map addr, by rw [e1]; exact hl, by simp [hlen], fun i T hT => ?_⟩
  have hi : i < ys.length := by have := (List.getElem?_eq_some_iff.mp hT).1; simpa using this
  obtain ⟨T', e, hR⟩ := key i hi
  rw [List.getElem?_map, List.getElem?_eq_getElem hi, e] at hT
  cases hT
  exact hR

set_option maxHeartbeats 2000000 in
theorem minor_spec {a : Addr} {rs : List Addr} {n k row col : Nat} {f : Nat → Nat → Int} {fa : Addr} {t1 t2 : Tok} (T : TopF mg mb s.heap) (hh : A.handled = none) (hd : A.depth < recursionLimit)
    (hf : mg (item 6).name = some (.ref fa)) (M : MatAt s.heap a rs n k f) (hn : n < 1000) (hk : k < 1000) (hr : row < n) (hc : col < k) :
    codeAny (model prog w) A (.call (.ref fa) ⟨[.ref a, .int row t1, .int col t2], []⟩) (Ret s fun v h' => Ext s.heap h' ∧ ∃ D rs', v = .ref D ∧ MatAt h' D rs' (n - 1) (k - 1) (minorF f row col)) s := by
  obtain ⟨fa', o, pm, doc, cd, h1, h2, h3, h4⟩ := T.made (item 6) (by simp [items])
  rw [hf] at h1; cases h1
  refine call_cells_ret hd h2 h3 T.nolimit h4 (binds := [(Str.ofString "a", .ref a), (Str.ofString "row", .int row t1), (Str.ofString "column", .int col t2)]) (by rfl)
    (by intro n x hx; simp only [List.mem_cons, List.not_mem_nil, or_false] at hx; rcases hx with rfl | rfl | rfl; exact .inl rfl; exact .inr ⟨by rfl, by rfl⟩; exact .inr ⟨by rfl, by rfl⟩) (fun h₁ tk₁ F hcs => ?_)
  have hrow : h₁.IsCell (s.heap.objs.size + 1) (some (.int row t1)) := hcs (Str.ofString "row") (s.heap.objs.size + 1) (by rfl)
  have hcol : h₁.IsCell (s.heap.objs.size + 2) (some (.int col t2)) := hcs (Str.ofString "column") (s.heap.objs.size + 2) (by rfl)
  clear hcs
  have M₁ := M.ext F.keep
  have T₁ := T.ext F.keep
  refine wpAny_execs_cons (wpAny_Return_some ?_)
  refine enum_comp (n := n) (vs := rs.map Value.ref) (fun i => i != row) (fun i y h => ∃ T, y = .ref T ∧ RowAt h T (k - 1) (fun j => f i (skip col j))) ?_ T₁ hh M₁.top (by rw [List.length_map, M.len]) hn (fun Q' q => nm F.ns (by rfl) q)
    (cl := [(Str.ofString "row", s.heap.objs.size + 1), (Str.ofString "column", s.heap.objs.size + 2)]) (by rfl) (by decide) (by rfl) (by decide) (by rfl) (by rfl) (by decide) ?_ ?_ ?_
  · rintro i y h h' ⟨T, rfl, vs, ⟨o, ho, r⟩, hl⟩ hk
    exact ⟨T, rfl, vs, ⟨o, hk T o rfl ho, r⟩, hl⟩
  · intro C i v s₃ m₃ t hi hv hn₃ e1 e2 kp
    refine wpAny_isTrue_Compare1 (nm hn₃ e1 (nmC (c := s.heap.objs.size + 1) (by rfl) (IsCell.sk hrow (.of_ext kp)) (ne_int (wpAny_truthy_bool ?_))))
    exact ⟨by rw [Bool.eq_iff_iff]; simp; omega, _, _, rfl, fun _ _ e => e⟩
  · intro C i v s₃ m₃ t hi hp hv hn₃ e1 e2 kp
    have T₃ := T₁.ext kp
    obtain ⟨r, hr', rfl⟩ : ∃ r, rs[i]? = some r ∧ v = .ref r := by
      rw [List.getElem?_map] at hv
      cases hr : rs[i]? with
      | none => rw [hr] at hv; cases hv
      | some r => rw [hr] at hv; exact ⟨r, rfl, (Option.some.inj hv).symm⟩
    obtain ⟨vs, hl, hlen, hvs⟩ := (M₁.ext kp).row i r hr'
    refine enum_comp (n := k) (vs := vs) (fun j => j != col) (fun j y _ => ∃ t, y = .int (f i j) t) (fun _ _ _ _ a _ => a) T₃ hh hl hlen hk (fun Q' q => nm hn₃ e2 q)
      (cl := [(Str.ofString "column", s.heap.objs.size + 2)]) (by rfl) (by decide) (by rfl) (by decide) (by rfl) (by rfl) (by decide) ?_ ?_ ?_
    · intro C' j v' s₄ m₄ t' hj hv' hn₄ e3 e4 kp'
      refine wpAny_isTrue_Compare1 (nm hn₄ e3 (nmC (c := s.heap.objs.size + 2) (by rfl) (IsCell.sk hcol (.of_ext fun b o e => kp' _ _ (kp b o e))) (ne_int (wpAny_truthy_bool ?_))))
      exact ⟨by rw [Bool.eq_iff_iff]; simp; omega, _, _, rfl, fun _ _ e => e⟩
    · intro C' j v' s₄ m₄ t' hj hp' hv' hn₄ e3 e4 kp'
      refine nm hn₄ e4 ?_
      obtain ⟨t5, h5⟩ := hvs j hj
      rw [hv'] at h5; cases h5
      exact ⟨⟨_, rfl⟩, fun T e => (by cases e), _, _, rfl, fun _ _ e => e⟩
    · intro D h' tk' ys hD hl' hE kp'
      exact ⟨⟨D, rfl, els_row hc hl' hE⟩, fun T e => (by cases e; exact hD), _, _, rfl, kp'⟩
  · intro D h' tk' ys hD hl' hE kp
    obtain ⟨rs', hM⟩ := els_mat (f := fun i j => f i (skip col j)) hr hl' hE
    exact ⟨_, _, _, rfl, rfl, fun b o e => kp _ _ (F.keep b o e), D, rs', rfl, hM⟩
end
end Mine

end
noncomputable section
namespace Mine
open PySem PySem.W PySem.Calls PyProof.Rows

/-- lists, tuples, cells kept, but for one -/
def SKx (c : Addr) (h h' : Heap) : Prop := ∀ b o, b ≠ c → h.get? b = some o → (isSeq o = true ∨ isCell o = true) → h'.get? b = some o
theorem SK.x {h h' : Heap} (k : SK h h') (c : Addr) : SKx c h h' := fun b o _ e q => k b o e q
theorem IsList.skx {h h' : Heap} {a c vs} {v} (x : h.IsList a vs) (hc : h.IsCell c v) (k : SKx c h h') : h'.IsList a vs := by
  obtain ⟨o, ho, hcl, n, hd⟩ := x
  refine ⟨o, k _ _ ?_ ho (.inl (by simp [isSeq, hd])), hcl, n, hd⟩
  rintro rfl
  obtain ⟨o', ho', hd'⟩ := hc
  rw [ho] at ho'; cases ho'; rw [hd] at hd'; cases hd'

section
variable {prog : Program} {w : World} {A : Around} {E : Value → Shared → Prop} {s : Shared} {env : Env}

/-- a for over a range by ones, its name captured -/
theorem iter_rngC {x : Str} {px : Pos} {body : List Stmt} {r c : Addr} {a b : Int} {t u v : Tok} {g : Heap} {m : Str → Option Value} {v₀ : Option Value} {Q : Flow → Shared → Prop} (n : Nat)
    (P : Nat → Heap → Prop)
    (hh : A.handled = none) (hr : IsRange s.heap r a b 1 t u v) (hn : (n : Int) = if a < b then b - a else 0)
    (ha : -(2 ^ 62) ≤ a ∧ a < 2 ^ 62) (hb : -(2 ^ 62) ≤ b ∧ b < 2 ^ 62) (F : Fr g env.locals s.heap m) (hcl : env.cells.lookup x = some c) (hc : s.heap.IsCell c v₀) (hgc : g.get? c = none)
    (st : ∀ i h h', P i h → (∃ v, h.IsCell c v) → SKx c h h' → P i h') (h0 : P 0 s.heap)
    (turn : ∀ i h tk, i < n → Fr g env.locals h m → h.IsCell c (some (.int (a + i) tk)) → P i h →
      wpAny (model prog w) A (execs body env) (fun f s₃ => match f with
        | .next | .cont => ∃ h' tk', s₃ = { s with heap := h', toks := tk' } ∧ Fr g env.locals h' m ∧ NK h h' ∧ (∃ v, h'.IsCell c v) ∧ P (i + 1) h'
        | .brk => Q .next s₃
        | .ret v => Q (.ret v) s₃) (fun _ _ => False) { s with heap := h, toks := tk + 1 })
    (done : ∀ h tk, Fr g env.locals h m → NK s.heap h → P n h → Q .next { s with heap := h, toks := tk })
    (hk : env.scope.kind = .function := by rfl) (hx : env.kindOf x = some .cell := by rfl) :
    wpAny (model prog w) A (pyIter (.ref r)) (fun it s₂ =>
      codeAny (model prog w) A (.forLoop (.Name x px) it body [] env) (fun r s' => match r with | .ok f => Q f s' | .error e => cameBackBy (model prog w) A env E e s') s₂) E s := by
  have hrs : Builtin.Range.rangeSize a b 1 = n := by rw [rangeSize_one, hn]
  refine wpAny_pyIter_range hr (small_one ha.1 ha.2 hb.1 hb.2) ?_
  rw [hrs]
  have hItg : g.get? s.heap.objs.size = none := by
    cases e : g.get? s.heap.objs.size with
    | none => rfl
    | some o => exact absurd (Heap.lt_size (F.keep _ _ e)) (Nat.lt_irrefl _)
  have hItL : s.heap.objs.size ≠ env.locals := Nat.ne_of_gt F.ns.lt
  generalize hI : s.heap.objs.size = I at hItg hItL
  have hIs : ∀ b o, s.heap.get? b = some o → b ≠ I := fun b o e => hI ▸ Nat.ne_of_lt (Heap.lt_size e)
  have cL : ∀ {h : Heap} {v}, h.IsCell c v → h.Ns env.locals m → env.locals ≠ c := by
    rintro h v ⟨o, ho, hd⟩ ⟨o', es, ep, ho', hd', _⟩ e
    rw [e, ho] at ho'; cases ho'; rw [hd] at hd'; cases hd'
  refine codeAny_forLoop (R := fun r s' => match r with | .ok f => Q f s' | .error e => cameBackBy (model prog w) A env E e s')
    (fun k s' => ∃ h' tk i, s' = { s with heap := h', toks := tk } ∧ IsRangeIter h' I (a + (i : Nat)) ((n : Int) - (i : Nat)) 1 ∧ Fr g env.locals h' m ∧ (∃ v, h'.IsCell c v) ∧ P i h' ∧ i ≤ n ∧ k = n + 1 - i ∧
      ∀ b o, s.heap.get? b = some o → isFields o = true → h'.get? b = some o) ?_ (n + 1)
    ⟨_, s.toks, 0, rfl, by rw [← hI]; simpa using Heap.get?_push_size _ rfl, F.push _, ⟨_, IsCell.sk hc (.of_ext fun _ _ e => Heap.get?_push_of_some _ e)⟩, st _ _ _ h0 ⟨_, hc⟩ fun b o _ e _ => Heap.get?_push_of_some _ e, Nat.zero_le _, rfl, fun b o e _ => Heap.get?_push_of_some _ e⟩
  rintro k s' ⟨h', tk, i, rfl, hit', F', ⟨vc, hc'⟩, hP, hi, rfl, hk'⟩
  by_cases hlt : i < n
  · refine wpAny_pyNext_range_item hit' (by omega) fun h₁ hit₁ hs₁ => ?_
    have sk₁ : SK h' h₁ := fun b o e kk => (hs₁.2 b (by
      rintro rfl; rw [hit'] at e; cases e; simp [isSeq, isCell] at kk)).trans e
    have hP₁ : P i h₁ := st _ _ _ hP ⟨_, hc'⟩ (sk₁.x c)
    have hc₁ := IsCell.sk hc' sk₁
    have F₁ : Fr g env.locals h₁ m := ⟨F'.ns.sameBut hs₁ (Ne.symm hItL), fun b o e => (hs₁.2 b (by rintro rfl; rw [hItg] at e; cases e)).trans (F'.keep b o e), F'.above⟩
    refine wpAny_assign_Name (wpAny_storeName_cell hk hx hcl hc₁ (fun h₂ hc₂ hs₂ => ?_))
    have nk₂ : NK h₁ h₂ := fun b o e kk => (hs₂.2 b (by
      rintro rfl
      obtain ⟨o', ho', hd'⟩ := hc₁
      rw [e] at ho'; cases ho'; simp [isFields, hd'] at kk)).trans e
    have F₂ : Fr g env.locals h₂ m := ⟨F₁.ns.sameBut hs₂ (cL hc₁ F₁.ns), fun b o e => (hs₂.2 b (by rintro rfl; rw [hgc] at e; cases e)).trans (F₁.keep b o e), F₁.above⟩
    refine wpAny_mono (turn i h₂ tk hlt F₂ hc₂ (st _ _ _ hP₁ ⟨_, hc₁⟩ fun b o hb e _ => (hs₂.2 b hb).trans e)) (fun f s₃ h₃ => ?_) fun _ _ e => e.elim
    have fin : (∃ h' tk', s₃ = { s with heap := h', toks := tk' } ∧ Fr g env.locals h' m ∧ NK h₂ h' ∧ (∃ v, h'.IsCell c v) ∧ P (i + 1) h') → ∃ mm, mm < n + 1 - i ∧ (∃ h' tk i, s₃ = { s with heap := h', toks := tk } ∧ IsRangeIter h' I (a + (i : Nat)) ((n : Int) - (i : Nat)) 1 ∧ Fr g env.locals h' m ∧ (∃ v, h'.IsCell c v) ∧ P i h' ∧ i ≤ n ∧ mm = n + 1 - i ∧
      ∀ b o, s.heap.get? b = some o → isFields o = true → h'.get? b = some o) := by
      rintro ⟨h₃', tk₃, rfl, F₃, nk, hc₃, hP₃⟩
      refine ⟨n + 1 - (i + 1), by omega, h₃', tk₃, i + 1, rfl, ?_, F₃, hc₃, hP₃, hlt, rfl, fun b o e kk => nk b o ((nk₂ b o ((hs₁.2 b (hIs b o e)).trans (hk' b o e kk)) kk)) kk⟩
      have e1 : a + ((i + 1 : Nat) : Int) = a + (i : Int) + 1 := by push_cast; omega
      have e2 : (n : Int) - ((i + 1 : Nat) : Int) = (n : Int) - (i : Int) - 1 := by push_cast; omega
      rw [e1, e2]
      exact nk _ _ (nk₂ _ _ hit₁ rfl) rfl
    cases f with
    | next => exact fin h₃
    | cont => exact fin h₃
    | brk => exact h₃
    | ret v => exact h₃
  · have hin : i = n := by omega
    subst hin
    refine wpAny_pyNext_range_end hh hit' (by omega) fun h₁ he₁ => wpAny_execs_nil ?_
    refine done h₁ tk ⟨F'.ns.extBut he₁ (Ne.symm hItL), fun b o e => he₁ b o (by rintro rfl; rw [hItg] at e; cases e) (F'.keep b o e), F'.above⟩ (fun b o e kk => he₁ b o (hIs b o e) (hk' b o e kk)) (st _ _ _ hP ⟨_, hc'⟩ fun b o _ e kk => he₁ b o (by
      rintro rfl; rw [hit'] at e; cases e; simp [isSeq, isCell] at kk) e)

theorem fmodNat (x k : Nat) : (x : Int).fmod (k : Int) = ((x % k : Nat) : Int) := by
  rw [Int.fmod_eq_emod_of_nonneg _ (by omega)]; rfl
end
end Mine

end
noncomputable section
namespace Mine
open PySem PySem.W PySem.Calls PyProof.Rows

def pI (P : Int → Bool) : Value → Bool | .int i _ => P i | _ => false
def fI (G : Int → Int) (v y : Value) : Prop := ∀ i t, v = .int i t → ∃ t', y = .int (G i) t'

theorem pairInts {P : Int → Bool} {G : Int → Int} : ∀ {vs : List Value} {ns : List Int} {ys : List Value}, IntsAre vs ns → Paired (fI G) (vs.filter (pI P)) ys → IntsAre ys ((ns.filter P).map G)
  | _, _, _, .nil, h => by cases h; exact .nil
  | _, _, ys, .cons (vs := vs) (ns := ns) n t hi, h => by
    by_cases hp : P n = true
    · rw [List.filter_cons_of_pos (by exact hp)] at h ⊢
      cases h with
      | cons h1 h2 =>
        obtain ⟨t', e⟩ := h1 n t rfl
        subst e
        exact .cons _ _ (pairInts hi h2)
    · rw [List.filter_cons_of_neg (by exact hp)] at h ⊢
      exact pairInts hi h

theorem ints_of_get : ∀ {vs : List Value} {ns : List Int}, vs.length = ns.length → (∀ (j : Nat) (v : Value) (n : Int), vs[j]? = some v → ns[j]? = some n → ∃ t, v = .int n t) → IntsAre vs ns
  | [], [], _, _ => .nil
  | v :: vs, n :: ns, h, k => by
    obtain ⟨t, rfl⟩ := k 0 v n rfl rfl
    exact .cons n t (ints_of_get (by simpa using h) fun j v n hv hn => k (j + 1) v n (by simpa using hv) (by simpa using hn))
  | [], _ :: _, h, _ => by simp at h
  | _ :: _, [], h, _ => by simp at h

def rangeI (n : Nat) : List Int := (List.range n).map Int.ofNat

section
variable {prog : Program} {w : World} {A : Around} {E : Value → Shared → Prop} {s : Shared} {env : Env} {mg mb : Str → Option Value}

/-- the tests of a comprehension -/
abbrev Tests (prog : Program) (w : World) (A : Around) (ifs : List Expr) (env : Env) (Q : Bool → Shared → Prop) (E : Value → Shared → Prop) (s : Shared) : Prop :=
  wpAny (model prog w) A (forIn ifs true fun c r => if r = true then do let ok ← isTrue c env (eval c env); pure (ForInStep.yield ok) else pure (ForInStep.yield r)) Q E s

set_option maxHeartbeats 1000000 in
theorem range_comp {elt e : Expr} {x : Str} {px pr p2 pos : Pos} {ifs : List Expr} {scope : Scope} {cl : List (Str × Addr)} {n : Nat} {Q : Value → Shared → Prop} (P : Int → Bool) (G : Int → Int)
    (T : TopF mg mb s.heap) (hh : A.handled = none) (hn : n < 1000)
    (hev : ∀ Q' : Value → Shared → Prop, (∀ t, Q' (.int n t) s) → wpAny (model prog w) A (eval e env) Q' E s)
    (hclos : closureFor scope env = pure cl) (hcell : ∀ y ∈ scope.names, y.2 ≠ .cell) (hkind : scope.kind = .function)
    (hnames : ∀ y ∈ scope.names, y.2 = .local → scope.names.lookup y.1 = some .local) (hx : scope.names.lookup x = some .local)
    (tests : ∀ (C : Addr) (i : Nat) (s₃ : Shared) m₃ t E', i < n → s₃.heap.Ns C m₃ → m₃ x = some (.int i t) → Ext s.heap s₃.heap →
      Tests prog w A ifs (compEnvC scope cl C env) (fun ok s₄ => ok = P i ∧ Keeps s₃ s₄) E' s₃)
    (elts : ∀ (C : Addr) (i : Nat) (s₃ : Shared) m₃ t E', i < n → P i = true → s₃.heap.Ns C m₃ → m₃ x = some (.int i t) → Ext s.heap s₃.heap →
      wpAny (model prog w) A (eval elt (compEnvC scope cl C env)) (fun y s₄ => (∃ t, y = .int (G i) t) ∧ Keeps s₃ s₄) E' s₃)
    (h : ∀ D h' tk ys, s.heap.get? D = none → h'.IsList D (ys : List Value).toArray → h'.PlainList D ys.toArray → IntsAre ys (((rangeI n).filter P).map G) → Ext s.heap h' → Q (.ref D) { s with heap := h', toks := tk })
    (hk : env.scope.kind = .function := by rfl) (hl : env.kindOf (Str.ofString "range") = some .globalImplicit := by rfl) (hg : env.globals = mainGlobals := by rfl) (hbn : env.builtins = builtinsNs := by rfl)
    (he : starEach [e] env = (false, eval e env) :: starEach [] env := by rfl)
    (hs : ∀ x, foldedSetIterable (.Call (.Name (Str.ofString "range") pr) [e] [] p2) env x = pure x := by intro _; rfl) :
    wpAny (model prog w) A (eval (.ListComp elt [⟨.Name x px, .Call (.Name (Str.ofString "range") pr) [e] [] p2, ifs, 0⟩] scope pos) env) Q E s := by
  refine wpAny_ListComp_free (pI P) (fI G) hclos hcell hkind hnames hx ?_ hs
  refine eval_range1 T (hev _ fun t => ⟨n, t, rfl, ?_⟩) hk hl hg hbn he
  refine wpAny_pyIter_range (IsRange.new _ _ _ _ _ _ _) (small_one (by omega) (by omega) (by omega) (by omega)) ?_
  rw [rangeSize_one, show (if (0 : Int) < (n : Int) then (n : Int) - 0 else 0) = n from by split <;> omega]
  generalize hI : ({ s with heap := Heap.push s.heap { cls := .type "range", data := .fields #[.int 0 s.toks, .int n t, .int 1 (s.toks + 1)] }, toks := s.toks + 1 + 1 } : Shared).heap.objs.size = I
  have hI' : I = s.heap.objs.size + 1 := by rw [← hI]; exact Heap.size_push ..
  have kp₀ : ∀ {o₁ o₂ : Obj}, Ext s.heap ((s.heap.push o₁).push o₂) := fun b o e => Heap.get?_push_of_some _ (Heap.get?_push_of_some _ e)
  have hne : ∀ b o, s.heap.get? b = some o → b ∉ [I] := fun b o e hm => by
    have h1 : @LT.lt Nat _ b s.heap.objs.size := Heap.lt_size e
    have h2 : @Eq Nat b I := List.mem_singleton.mp hm
    omega
  have vi : ∀ (i : Nat) (v : Value), (∃ t, v = Value.int (0 + (i : Int) * 1) t) → ∃ t, v = .int (i : Int) t := fun i v ⟨t, e⟩ => ⟨t, by rw [e]; simp⟩
  have W := Walks.range (prog := prog) (w := w) (A := A) hh I 0 1 n
  have W' : Walks prog w A I [I] [I] n (fun i v => i < n ∧ ∃ t, v = Value.int (0 + (i : Int) * 1) t) (fun i h => IsRangeIter h I (0 + (i : Nat) * 1) ((n : Int) - (i : Nat)) 1) :=
    { sub := W.sub, frame := W.frame, item := fun i s Q E hi st hQ => W.item i s Q E hi st fun v h' tk hp => hQ v h' tk ⟨hi, hp⟩, done := W.done, self := W.self }
  refine ⟨I, _, _, n, _, _, rfl, W', by rw [sizeLine_eq]; omega, ?_, ?_, ⟨?_, ?_⟩, ?_⟩
  · subst hI'
    have : ∀ o₁ : Obj, IsRangeIter ((s.heap.push o₁).push { cls := .type "range_iterator", data := .fields #[rawInt 0, rawInt n, rawInt 1] }) (s.heap.objs.size + 1) (0 + ((0 : Nat) : Int) * 1) ((n : Int) - ((0 : Nat) : Int)) 1 := fun o₁ => by
      have q := Heap.get?_push_size (s.heap.push o₁) (o := { cls := .type "range_iterator", data := .fields #[rawInt 0, rawInt n, rawInt 1] }) rfl
      rw [Heap.size_push] at q
      simpa using q
    exact this _
  · intro b hb
    rw [List.mem_singleton.mp hb]
    show @LT.lt Nat _ I ((s.heap.push _).push _).objs.size
    rw [Heap.size_push, Heap.size_push]; omega
  · rintro C i v s₃ m₃ E' hC ⟨hi, hv⟩ hn₃ hm hkp htk
    obtain ⟨t, rfl⟩ := vi i v hv
    exact tests C i s₃ m₃ t E' hi hn₃ hm fun b o e => hkp b o (hne b o e) (kp₀ b o e)
  · rintro C i v s₃ m₃ E' hC ⟨hi, hv⟩ hp hn₃ hm hkp htk
    obtain ⟨t, rfl⟩ := vi i v hv
    refine wpAny_mono (elts C i s₃ m₃ t E' hi hp hn₃ hm fun b o e => hkp b o (hne b o e) (kp₀ b o e)) (fun y s₄ h₄ => ?_) fun _ _ e => e
    obtain ⟨⟨t', rfl⟩, hk⟩ := h₄
    exact ⟨fun j u e => (by cases e; exact ⟨_, rfl⟩), hk⟩
  · rintro D h' tk ys vs hD hl' hpl hlen hP hF hkp
    have hD' : s.heap.get? D = none := by
      cases q : s.heap.get? D with
      | none => rfl
      | some o => exact absurd (hD.symm.trans (kp₀ D o q)) (by simp)
    refine h D h' tk ys.toList hD' (by simpa using hl') (by simpa using hpl) (pairInts (vs := vs) (ints_of_get (by simp [hlen, rangeI]) fun j v k hv hk => ?_) hF) fun b o e => hkp b o (hne b o e) (kp₀ b o e)
    obtain ⟨t, rfl⟩ := vi j v (hP j v hv).2
    unfold rangeI at hk
    rw [List.getElem?_map] at hk
    obtain ⟨hj, _⟩ := hP j _ hv
    rw [List.getElem?_range hj] at hk
    cases hk
    exact ⟨t, rfl⟩

set_option maxHeartbeats 1000000 in
theorem range_compA {elt e : Expr} {x y : Str} {px py pr p2 pos spos : Pos} {g : Heap} {m : Str → Option Value} {ifs : List Expr} {scope : Scope} {cl : List (Str × Addr)} {n : Nat} {Q : Flow → Shared → Prop} (P : Int → Bool) (G : Int → Int)
    (T : TopF mg mb s.heap) (FF : Fr g env.locals s.heap m) (hh : A.handled = none) (hn : n < 1000)
    (hev : ∀ Q' : Value → Shared → Prop, (∀ t, Q' (.int n t) s) → wpAny (model prog w) A (eval e env) Q' E s)
    (hclos : closureFor scope env = pure cl) (hcell : ∀ y ∈ scope.names, y.2 ≠ .cell) (hkind : scope.kind = .function)
    (hnames : ∀ y ∈ scope.names, y.2 = .local → scope.names.lookup y.1 = some .local) (hx : scope.names.lookup x = some .local)
    (tests : ∀ (C : Addr) (i : Nat) (s₃ : Shared) m₃ t E', i < n → s₃.heap.Ns C m₃ → m₃ x = some (.int i t) → Ext s.heap s₃.heap →
      Tests prog w A ifs (compEnvC scope cl C env) (fun ok s₄ => ok = P i ∧ Keeps s₃ s₄) E' s₃)
    (elts : ∀ (C : Addr) (i : Nat) (s₃ : Shared) m₃ t E', i < n → P i = true → s₃.heap.Ns C m₃ → m₃ x = some (.int i t) → Ext s.heap s₃.heap →
      wpAny (model prog w) A (eval elt (compEnvC scope cl C env)) (fun y s₄ => (∃ t, y = .int (G i) t) ∧ Keeps s₃ s₄) E' s₃)
    (h : ∀ D h' tk ys, s.heap.get? D = none → h'.IsList D (ys : List Value).toArray → h'.PlainList D ys.toArray → IntsAre ys (((rangeI n).filter P).map G) → Fr g env.locals h' (fun z => if z = y then some (.ref D) else m z) → DK s.heap h' → Q .next { s with heap := h', toks := tk })
    (hsw : swapsWith (.ListComp elt [⟨.Name x px, .Call (.Name (Str.ofString "range") pr) [e] [] p2, ifs, 0⟩] scope pos) (some (.Name y py)) spos.line env = pure true := by rfl) (hy : env.kindOf y = some .local := by rfl)
    (hk : env.scope.kind = .function := by rfl) (hl : env.kindOf (Str.ofString "range") = some .globalImplicit := by rfl) (hg : env.globals = mainGlobals := by rfl) (hbn : env.builtins = builtinsNs := by rfl)
    (he : starEach [e] env = (false, eval e env) :: starEach [] env := by rfl)
    (hs : ∀ x, foldedSetIterable (.Call (.Name (Str.ofString "range") pr) [e] [] p2) env x = pure x := by intro _; rfl) :
    wpAny (model prog w) A (exec (.Assign [.Name y py] (.ListComp elt [⟨.Name x px, .Call (.Name (Str.ofString "range") pr) [e] [] p2, ifs, 0⟩] scope pos) spos) env) Q E s := by
  refine wpAny_Assign_ListComp_free (pI P) (fI G) hsw hclos hcell hkind hnames hx hy (by rw [hk]; rfl) ?_ hs
  refine eval_range1 T (hev _ fun t => ⟨n, t, rfl, ?_⟩) hk hl hg hbn he
  refine wpAny_pyIter_range (IsRange.new _ _ _ _ _ _ _) (small_one (by omega) (by omega) (by omega) (by omega)) ?_
  rw [rangeSize_one, show (if (0 : Int) < (n : Int) then (n : Int) - 0 else 0) = n from by split <;> omega]
  generalize hI : ({ s with heap := Heap.push s.heap { cls := .type "range", data := .fields #[.int 0 s.toks, .int n t, .int 1 (s.toks + 1)] }, toks := s.toks + 1 + 1 } : Shared).heap.objs.size = I
  have hI' : I = s.heap.objs.size + 1 := by rw [← hI]; exact Heap.size_push ..
  have kp₀ : ∀ {o₁ o₂ : Obj}, Ext s.heap ((s.heap.push o₁).push o₂) := fun b o e => Heap.get?_push_of_some _ (Heap.get?_push_of_some _ e)
  have hne : ∀ b o, s.heap.get? b = some o → b ∉ [I] := fun b o e hm => by
    have h1 : @LT.lt Nat _ b s.heap.objs.size := Heap.lt_size e
    have h2 : @Eq Nat b I := List.mem_singleton.mp hm
    omega
  have vi : ∀ (i : Nat) (v : Value), (∃ t, v = Value.int (0 + (i : Int) * 1) t) → ∃ t, v = .int (i : Int) t := fun i v ⟨t, e⟩ => ⟨t, by rw [e]; simp⟩
  have W := Walks.range (prog := prog) (w := w) (A := A) hh I 0 1 n
  have W' : Walks prog w A I [I] [I] n (fun i v => i < n ∧ ∃ t, v = Value.int (0 + (i : Int) * 1) t) (fun i h => IsRangeIter h I (0 + (i : Nat) * 1) ((n : Int) - (i : Nat)) 1) :=
    { sub := W.sub, frame := W.frame, item := fun i s Q E hi st hQ => W.item i s Q E hi st fun v h' tk hp => hQ v h' tk ⟨hi, hp⟩, done := W.done, self := W.self }
  have hLI : env.locals ∉ [I] := fun hm => by
    have h1 : @LT.lt Nat _ env.locals s.heap.objs.size := FF.ns.lt
    have h2 : @Eq Nat env.locals I := List.mem_singleton.mp hm
    omega
  refine ⟨I, _, _, n, _, _, m, rfl, W', by rw [sizeLine_eq]; omega, ?_, ?_, hLI, FF.ns.keeps kp₀, ⟨?_, ?_⟩, ?_⟩
  · subst hI'
    have : ∀ o₁ : Obj, IsRangeIter ((s.heap.push o₁).push { cls := .type "range_iterator", data := .fields #[rawInt 0, rawInt n, rawInt 1] }) (s.heap.objs.size + 1) (0 + ((0 : Nat) : Int) * 1) ((n : Int) - ((0 : Nat) : Int)) 1 := fun o₁ => by
      have q := Heap.get?_push_size (s.heap.push o₁) (o := { cls := .type "range_iterator", data := .fields #[rawInt 0, rawInt n, rawInt 1] }) rfl
      rw [Heap.size_push] at q
      simpa using q
    exact this _
  · intro b hb
    rw [List.mem_singleton.mp hb]
    show @LT.lt Nat _ I ((s.heap.push _).push _).objs.size
    rw [Heap.size_push, Heap.size_push]; omega
  · rintro C i v s₃ m₃ E' hC ⟨hi, hv⟩ hn₃ hm hkp htk
    obtain ⟨t, rfl⟩ := vi i v hv
    exact tests C i s₃ m₃ t E' hi hn₃ hm fun b o e => hkp b o (hne b o e) (kp₀ b o e)
  · rintro C i v s₃ m₃ E' hC ⟨hi, hv⟩ hp hn₃ hm hkp htk
    obtain ⟨t, rfl⟩ := vi i v hv
    refine wpAny_mono (elts C i s₃ m₃ t E' hi hp hn₃ hm fun b o e => hkp b o (hne b o e) (kp₀ b o e)) (fun y s₄ h₄ => ?_) fun _ _ e => e
    obtain ⟨⟨t', rfl⟩, hk⟩ := h₄
    exact ⟨fun j u e => (by cases e; exact ⟨_, rfl⟩), hk⟩
  · rintro D h' tk ys vs hD hl' hpl hlen hP hF hns hkp
    have hD' : s.heap.get? D = none := by
      cases q : s.heap.get? D with
      | none => rfl
      | some o => exact absurd (hD.symm.trans (kp₀ D o q)) (by simp)
    refine h D h' tk ys.toList hD' (by simpa using hl') (by simpa using hpl) (pairInts (vs := vs) (ints_of_get (by simp [hlen, rangeI]) fun j v k hv hk => ?_) hF) ⟨hns, fun b o e => ?_, FF.above⟩ fun b o e hd => ?_
    obtain ⟨t, rfl⟩ := vi j v (hP j v hv).2
    unfold rangeI at hk
    rw [List.getElem?_map] at hk
    obtain ⟨hj, _⟩ := hP j _ hv
    rw [List.getElem?_range hj] at hk
    cases hk
    exact ⟨t, rfl⟩
    · have e' := FF.keep b o e
      exact hkp b o (fun q => by
        have h1 := Heap.lt_size e
        have h2 := FF.above
        rw [q] at h1
        exact absurd (Nat.lt_of_lt_of_le h1 h2) (Nat.lt_irrefl _)) (hne b o e') (kp₀ b o e')
    · refine hkp b o (fun q => ?_) (hne b o e) (kp₀ b o e)
      obtain ⟨oL, es, ep, hoL, hdL, _⟩ := FF.ns
      rw [q, hoL] at e; cases e; simp [isDict, hdL] at hd
end
end Mine

end
noncomputable section
namespace Mine
open PySem PySem.W PySem.Calls PyProof.Rows
open PySem.Builtin.Int (intBits)

def adjF (n : Nat) (f : Nat → Nat → Int) (r c : Nat) : Int := (1 - 2 * (((r + c) % 2 : Nat) : Int)) * detF (n - 1) (minorF f c r)

theorem rangeI_filter_true (n : Nat) : (rangeI n).filter (fun _ => true) = rangeI n := List.filter_eq_self.mpr (by simp)

theorem rowOfInts {h : Heap} {D : Addr} {ys : List Value} {n : Nat} {g : Int → Int} (hl : h.IsList D ys.toArray) (hi : IntsAre ys ((rangeI n).map g)) : RowAt h D n (fun j => g j) := by
  refine ⟨ys, hl, by rw [hi.length]; simp [rangeI], fun j hj => ?_⟩
  refine hi.get j _ ?_
  rw [List.getElem?_map, rangeI, List.getElem?_map, List.getElem?_range hj]; rfl

section
variable {prog : Program} {w : World} {A : Around} {E : Value → Shared → Prop} {s : Shared} {env : Env} {mg mb : Str → Option Value}

/-- what holds ahead of the i-th turn of adjugate -/
structure AdjInv (g : Heap) (n : Nat) (f : Nat → Nat → Int) (cA : Addr) (a fd : Addr) (i : Nat) (h : Heap) : Prop where
  ca : h.IsCell cA (some (.ref a))
  ex : ∃ rs : List Addr, h.PlainList fd (rs.map Value.ref).toArray ∧ rs.length = i ∧ fd ∉ rs ∧ ∀ (j : Nat) (r : Addr), rs[j]? = some r → RowAt h r n (adjF n f j)

set_option maxHeartbeats 2000000 in
theorem adj_spec {a : Addr} {rs : List Addr} {n : Nat} {f : Nat → Nat → Int} {fa : Addr} (T : TopF mg mb s.heap) (hh : A.handled = none) (hd : A.depth + 16 < recursionLimit) (hu : A.units + 200 < cLine)
    (hf : mg (item 7).name = some (.ref fa)) (M : MatAt s.heap a rs n n f) (hn : n ≤ 12) (hb : ∀ i j, i < n → j < n → intBits (f i j) ≤ 7) :
    codeAny (model prog w) A (.call (.ref fa) ⟨[.ref a], []⟩) (Ret s fun v h' => Ext s.heap h' ∧ ∃ D rs', v = .ref D ∧ MatAt h' D rs' n n (adjF n f)) s := by
  obtain ⟨fa', o, pm, doc, cd, h1, h2, h3, h4⟩ := T.made (item 7) (by simp [items])
  rw [hf] at h1; cases h1
  refine call_cells_ret (by omega) h2 h3 T.nolimit h4 (binds := [(Str.ofString "a", .ref a)]) (by rfl) (by intro n x hx; simp only [List.mem_singleton] at hx; subst hx; exact .inr ⟨by rfl, by rfl⟩) (fun h₁ tk₁ F hc => ?_)
  try dsimp only
  have hc₁ : h₁.IsCell (s.heap.objs.size + 1) (some (.ref a)) := hc (Str.ofString "a") (s.heap.objs.size + 1) (by rfl)
  have hr₁ : h₁.IsCell (s.heap.objs.size + 2) none := hc (Str.ofString "row") (s.heap.objs.size + 2) (by rfl)
  clear hc
  have M₁ := M.ext F.keep
  have T₁ := T.ext F.keep
  refine wpAny_execs_cons (wpAny_If ?_)
  refine shape_test T₁ hh (by show A.units + 3 + 64 < cLine; omega) M₁ (by omega) hc₁ (by rfl) (by rfl) (by decide) (by rfl) (by decide) (by rfl) (by rfl) (by rfl) (by rfl) (fun h₂ tk₂ k₂ => ?_)
  try dsimp only
  refine ite_f ?_
  try dsimp only
  refine wpAny_execs_nil ?_
  have F₂ : Fr s.heap s.heap.objs.size h₂ _ := ⟨F.ns.keeps k₂, fun b o e => k₂ _ _ (F.keep b o e), F.above⟩
  have M₂ := M₁.ext k₂
  have T₂ := T₁.ext k₂
  have hc₂ := IsCell.sk hc₁ (.of_ext k₂)
  have hr₂ := IsCell.sk hr₁ (.of_ext k₂)
  refine wpAny_execs_cons (Assign_Tuple_swapped (names := [Str.ofString "n", Str.ofString "found"]) ?_)
  refine Tuple_ (args_cons (eval_len T₂ (nmC (c := s.heap.objs.size + 1) (by rfl) hc₂ ⟨a, _, n, rfl, M₂.top, by rw [List.length_map, M.len], by omega, ?_⟩)))
  refine args_cons (list_nil (args_nil (newTuple_ ?_)))
  generalize hD : h₂.objs.size = D
  refine unpackItems_tuple (items := [Value.int n (tk₂ + 1), Value.ref D].toArray) hh ⟨_, Heap.get?_push_size _ rfl, by subst hD; rfl, 0, by subst hD; rfl⟩ (fun h₄ he => ?_)
  have k₄ : Ext (h₂.push { cls := .type "list", data := .seq ([] : List Value).toArray }) h₄ := fun b o e => he b o (Nat.ne_of_lt (by
    show b < ((h₂.push _).push _).objs.size
    rw [Heap.size_push]; exact Nat.lt_succ_of_lt (Heap.lt_size e))) (Heap.get?_push_of_some _ e)
  have k₂₄ : Ext h₂ h₄ := fun b o e => k₄ _ _ (Heap.get?_push_of_some _ e)
  have pl₄ : h₄.PlainList D ([].map Value.ref).toArray := ⟨0, k₄ _ _ (by rw [← hD]; exact Heap.get?_push_size _ rfl)⟩
  have gD : s.heap.get? D = none := by
    cases q : s.heap.get? D with
    | none => rfl
    | some o => have := Heap.lt_size (F₂.keep _ _ q); rw [hD] at this; exact absurd this (Nat.lt_irrefl _)
  have F₄ : Fr s.heap s.heap.objs.size h₄ _ := ⟨F₂.ns.keeps k₂₄, fun b o e => k₂₄ _ _ (F₂.keep b o e), F₂.above⟩
  refine assignInOrder_cons (wpAny_bindName (stL F₄.ns (fun h₅ hn₅ hs₅ => ?_)))
  try dsimp only
  have F₅ := F₄.set hn₅ hs₅
  have dk₅ := DK.of_ns F₄.ns hs₅
  refine assignInOrder_cons (wpAny_bindName (stL F₅.ns (fun h₆ hn₆ hs₆ => ?_)))
  try dsimp only
  have F₆ := F₅.set hn₆ hs₆
  have dk := dk₅.trans (DK.of_ns F₅.ns hs₆)
  refine assignInOrder_nil ?_
  have hc₆ := IsCell.dk (IsCell.sk hc₂ (.of_ext k₂₄)) dk
  have hr₆ := IsCell.dk (IsCell.sk hr₂ (.of_ext k₂₄)) dk
  have pl₆ : h₆.PlainList D ([].map Value.ref).toArray := let ⟨n, e⟩ := pl₄; ⟨n, dk _ _ e (by simp [isDict])⟩
  have T₆ := T.ext F₆.keep
  refine wpAny_execs_cons (wpAny_For (eval_range1 T₆ (nm F₆.ns (by walk_at "lk") ⟨_, _, rfl, ?_⟩)))
  have gc : s.heap.get? (s.heap.objs.size + 2) = none := Heap.get?_none_of_le (Nat.le_add_right _ _)
  refine iter_rngC n (AdjInv s.heap n f (s.heap.objs.size + 1) a D) (g := s.heap) (c := s.heap.objs.size + 2) hh (IsRange.new _ _ _ _ _ _ _) (by split <;> omega) (by omega) (by omega) (F₆.push _) (by rfl)
    (IsCell.sk hr₆ (.of_ext fun _ _ e => Heap.get?_push_of_some _ e)) gc ?_ ⟨IsCell.sk hc₆ (.of_ext fun _ _ e => Heap.get?_push_of_some _ e), [], let ⟨n, e⟩ := pl₆; ⟨n, Heap.get?_push_of_some _ e⟩, rfl, by simp, fun j r h => by simp at h⟩ ?_ ?_
  · rintro i h h' ⟨ca, rs, ⟨k, hp⟩, hl, hm, hr⟩ ⟨v, hv⟩ sk
    have ne : ∀ {b o}, h.get? b = some o → isSeq o = true → b ≠ s.heap.objs.size + 2 := by
      rintro b o e kk rfl
      obtain ⟨o', ho', hd'⟩ := hv
      rw [e] at ho'; cases ho'; simp [isSeq, hd'] at kk
    refine ⟨let ⟨o, ho, hd⟩ := ca; ⟨o, sk _ _ (show @Ne Nat _ _ by omega) ho (.inr (by simp [isCell, hd])), hd⟩, rs, ⟨k, sk _ _ (ne hp rfl) hp (.inl rfl)⟩, hl, hm, fun j r hj => ?_⟩
    obtain ⟨vs, hvl, hx⟩ := hr j r hj
    exact ⟨vs, IsList.skx hvl hv sk, hx⟩
  · rintro i h tk hi F' hrow ⟨ca, rs', ⟨kp, hp⟩, hl, hm, hr⟩
    rw [Int.zero_add] at hrow
    have T' := T.ext F'.keep
    have M' := M.ext F'.keep
    refine wpAny_execs_cons (wpAny_Expr ?_)
    refine MethodCall_ (nm F'.ns (by walk_at "lk") ?_)
    refine getMethod_list_append hp rfl rfl ?_
    refine callWith_method1 (args_cons ?_)
    refine range_comp (n := n) (fun _ => true) (fun c => adjF n f i c.toNat) T' hh (by omega) (fun Q' q => nm F'.ns (by walk_at "lk") (q _)) (cl := [(Str.ofString "row", s.heap.objs.size + 2), (Str.ofString "a", s.heap.objs.size + 1)])
      (by rfl) (by decide) (by rfl) (by decide) (by rfl) (fun C c s₃ m₃ t E' _ _ _ _ => wpAny_tests_nil ⟨rfl, _, _, rfl, fun _ _ e => e⟩) ?_ ?_
    · intro C c s₃ m₃ t E' hc _ hn₃ e1 kp₃
      have T₃ := T'.ext kp₃
      have M₃ := M'.ext kp₃
      have hrow₃ := IsCell.sk hrow (.of_ext kp₃)
      have ca₃ := IsCell.sk ca (.of_ext kp₃)
      refine wpAny_BinOp (wpAny_BinOp (wpAny_Constant_int (wpAny_BinOp (wpAny_Constant_int (wpAny_BinOp (wpAny_BinOp (nmC (c := s.heap.objs.size + 2) (by rfl) hrow₃ (nm hn₃ e1 (add_int (wpAny_Constant_int (mod_int' (by decide) ?_)))))))))))
      have ef : ((i : Int) + (c : Int)).fmod 2 = (((i + c) % 2 : Nat) : Int) := fmodNat (i + c) 2
      rw [ef]
      have hlt : (i + c) % 2 < 2 := Nat.mod_lt _ (by decide)
      generalize hq : (i + c) % 2 = q at hlt
      refine mul_int ?_ (.of_left (intBits_le_64 (by omega) (by omega)))
      refine sub_int ?_
      refine eval_fn (item 5) (by simp [items]) (by rfl) T₃ (fun fb hfb => ?_)
      try dsimp only
      refine args_cons (eval_fn (item 6) (by simp [items]) (by rfl) T₃ (fun fc hfc => ?_))
      try dsimp only
      refine args_cons (nmC (c := s.heap.objs.size + 1) (by rfl) ca₃ (args_cons (nm hn₃ e1 (args_cons (nmC (c := s.heap.objs.size + 2) (by rfl) hrow₃ (args_nil ⟨fun _ _ e => e, ?_⟩))))))
      refine call_of (minor_spec T₃ hh (by show A.depth + 1 < _; omega) hfc M₃ (by omega) (by omega) hc hi) fun v h₄ tk₄ hv => ?_
      try dsimp only
      obtain ⟨k₄, D', rs₄, rfl, M₄⟩ := hv
      refine args_nil ⟨k₄, ?_⟩
      refine call_of (det_spec (T₃.ext k₄) hh (by show A.depth + 1 + 8 < _; omega) (by show A.units + 3 + 100 < _; omega) hfb M₄ (by omega) (fun i' j' h1 h2 => ?_)) fun v h₅ tk₅ hv => ?_
      · unfold minorF skip
        refine hb _ _ ?_ ?_ <;> split <;> omega
      · obtain ⟨k₅, t₅, rfl⟩ := hv
        refine mul_int ?_ (.of_left (intBits_le_64 (by omega) (by omega)))
        have ev : (1 - 2 * (q : Int)) * detF (n - 1) (minorF f c i) = adjF n f i ((c : Int).toNat) := by unfold adjF; rw [Int.toNat_natCast, hq]
        rw [ev]
        exact ⟨⟨_, rfl⟩, _, _, rfl, fun b o e => k₅ _ _ (k₄ _ _ e)⟩
    · intro D' h₇ tk₇ ys hD' hl' hpl' hys k₇
      rw [rangeI_filter_true] at hys
      have hR := rowOfInts hl' hys
      refine args_nil ?_
      refine wpAny_list_append_plain (items := (rs'.map Value.ref).toArray) ⟨kp, k₇ _ _ hp⟩ (fun h₈ hp₈ hs₈ => ?_) (by rw [sizeLine_eq]; simp [hl]; omega)
      have hpD : ∃ o, h.get? D = some o := ⟨_, hp⟩
      have DD : D' ≠ D := fun e => by obtain ⟨o, ho⟩ := hpD; dsimp only at hD'; rw [e, ho] at hD'; cases hD'
      have F₇ : Fr s.heap s.heap.objs.size h₇ _ := ⟨F'.ns.keeps k₇, fun b o e => k₇ _ _ (F'.keep b o e), F'.above⟩
      have pl7 : h₇.IsList D (rs'.map Value.ref).toArray := (Heap.PlainList.isList ⟨kp, k₇ _ _ hp⟩)
      have hnsD : ∀ {b v}, h₇.IsCell b v → b ≠ D := by
        rintro b v ⟨o, ho, hd⟩ rfl
        obtain ⟨o', ho', _, n', hd'⟩ := pl7
        rw [ho] at ho'; cases ho'; rw [hd] at hd'; cases hd'
      have cs : ∀ {b v}, h₇.IsCell b v → h₈.IsCell b v := fun {b v} x => let ⟨o, ho, hd⟩ := x; ⟨o, (hs₈.2 _ (hnsD x)).trans ho, hd⟩
      have LD : (callEnvC (docDef (item 7).name (item 7).params (item 7).body (item 7).scope pm cd doc) s.heap.objs.size fa).locals ≠ D := by
        intro e
        obtain ⟨o', ho', _, n', hd'⟩ := pl7
        obtain ⟨o, es, ep, ho, hd, _⟩ := F₇.ns
        have ho : h₇.get? D = some o := e ▸ ho
        rw [ho] at ho'; cases ho'; rw [hd] at hd'; cases hd'
      refine wpAny_execs_nil ⟨h₈, _, rfl, ⟨F₇.ns.sameBut hs₈ LD, fun b o e => (hs₈.2 b (fun q => by rw [q, gD] at e; cases e)).trans (F₇.keep b o e), F₇.above⟩, (NK.of_ext k₇).trans (NK.of_list pl7 hs₈), ⟨_, cs (IsCell.sk hrow (.of_ext k₇))⟩, cs (IsCell.sk ca (.of_ext k₇)), rs' ++ [D'], ?_, by simp [hl], ?_, ?_⟩
      · have : (rs'.map Value.ref).toArray.push (Value.ref D') = ((rs' ++ [D']).map Value.ref).toArray := by simp
        rw [← this]; exact hp₈
      · simp only [List.mem_append, List.mem_singleton, not_or]; exact ⟨hm, Ne.symm DD⟩
      · intro j r hj
        have key : ∀ {r w g}, r ≠ D → RowAt h₇ r w g → RowAt h₈ r w g := fun hne x => x.sb hs₈ hne
        rcases Nat.lt_trichotomy j rs'.length with q | q | q
        · rw [List.getElem?_append_left q] at hj
          exact key (fun e => hm (e ▸ List.mem_of_getElem? hj)) ((hr j r hj).sk (.of_ext k₇))
        · subst q
          simp at hj; subst hj
          rw [hl]
          exact key DD (hR.congr fun c _ => by simp)
        · rw [List.getElem?_eq_none (by simp; omega)] at hj; cases hj
  · rintro h tk F' nk ⟨ca, rs, hp, hl, hm, hr⟩
    refine wpAny_execs_cons (wpAny_Return_some (nm F'.ns (by walk_at "lk") ?_))
    exact ⟨_, _, _, rfl, rfl, F'.keep, D, rs, rfl, hp.isList, hl, hr⟩
end
end Mine

end
noncomputable section
namespace Mine
open PySem PySem.W PySem.Calls PyProof.Rows

/-- the pool: a list of drawn ints and a place -/
structure PoolAt (h : Heap) (p q : Addr) (ns : List Int) (spot : Nat) : Prop where
  top : ∃ t, h.IsList p [Value.ref q, Value.int spot t].toArray
  lst : ∃ vs, h.IsList q (vs : List Value).toArray ∧ IntsAre vs ns
  ne : q ≠ p
theorem PoolAt.sk {h h' : Heap} {p q ns spot} (x : PoolAt h p q ns spot) (k : SK h h') : PoolAt h' p q ns spot :=
  ⟨let ⟨t, a⟩ := x.top; ⟨t, IsList.sk a k⟩, let ⟨vs, a, b⟩ := x.lst; ⟨vs, IsList.sk a k, b⟩, x.ne⟩

section
variable {prog : Program} {w : World} {A : Around} {E : Value → Shared → Prop} {s : Shared} {env : Env} {mg mb : Str → Option Value}

set_option maxHeartbeats 2000000 in
theorem draw_spec {p q : Addr} {ns : List Int} {spot many : Nat} {t : Tok} {fa : Addr} (T : TopF mg mb s.heap) (hd : A.depth < recursionLimit)
    (hf : mg (item 9).name = some (.ref fa)) (P : PoolAt s.heap p q ns spot) (hn : ns.length < 1000) (hs : spot < 1000) (hm : 0 < many) (hm' : many < 1000) :
    codeAny (model prog w) A (.call (.ref fa) ⟨[.ref p, .int many t], []⟩) (Ret s fun v h' => (∃ (d : Nat) (t : Tok), d < many ∧ v = .int d t) ∧ PoolAt h' p q ns (spot + 1) ∧
      ∀ b o, b ≠ p → s.heap.get? b = some o → h'.get? b = some o) s := by
  obtain ⟨fa', o, pm, doc, cd, h1, h2, h3, h4⟩ := T.made (item 9) (by simp [items])
  rw [hf] at h1; cases h1
  refine call_plain_ret hd h2 h3 T.nolimit h4 (binds := [(Str.ofString "pool", .ref p), (Str.ofString "many", .int many t)]) (by rfl) (locs (by rfl)) (fun h₁ F => ?_) (hcell := by decide)
  have P₁ := P.sk (.of_ext F.keep)
  obtain ⟨tp, hp⟩ := P.top
  have T₀ := T.hide (l := [p]) (fun r hr => by rw [List.mem_singleton.mp hr]; exact ⟨_, hp⟩)
  replace F := Fr.hideAll [p] F
  have hnone : (hideAll s.heap [p]).get? p = none := hideAll_none _ (List.mem_singleton.mpr rfl)
  obtain ⟨tp₁, hp₁⟩ := P₁.top
  refine wpAny_execs_cons (wpAny_Assign_Name (Subscript_ (nm F.ns (by rfl) (wpAny_Constant_int (item_l (j := 1) (x := .int spot tp₁) hp₁ rfl (by decide) rfl ?_)))))
  refine stL F.ns (fun h₂ hn₂ hs₂ => ?_)
  have F₂ := F.set hn₂ hs₂
  have P₂ := P₁.sk (DK.of_ns F.ns hs₂).sk
  have hp₂ := IsList.dk hp₁ (DK.of_ns F.ns hs₂)
  refine wpAny_execs_cons (wpAny_Assign_Subscript (wpAny_BinOp (nm F₂.ns (by walk_at "lk") (wpAny_Constant_int (add_int ?_)))))
  refine nm F₂.ns (by walk_at "lk") (wpAny_Constant_int ?_)
  refine wpAny_setItem_list hp₂ (by decide) (by decide) (by simp) fun h₃ hl₃ hs₃ => ?_
  have hl₃' : ∃ t, h₃.IsList p [Value.ref q, Value.int ((spot + 1 : Nat) : Int) t].toArray := ⟨_, hl₃⟩
  have ns3 : ∀ {L m}, h₂.Ns L m → h₃.Ns L m := fun {L m} hn => hn.sameBut hs₃ (by
    rintro rfl
    obtain ⟨o, es, ep, ho, hd, _⟩ := hn
    obtain ⟨o', ho', _, n', hd'⟩ := hp₂
    rw [ho] at ho'; cases ho'
    rw [hd] at hd'; cases hd')
  have F₃ : Fr (hideAll s.heap [p]) s.heap.objs.size h₃ _ := Fr.chg F₂ hnone hs₃ fun _ _ => ns3
  have P₃ : PoolAt h₃ p q ns (spot + 1) := ⟨hl₃', let ⟨vs, a, b⟩ := P₂.lst; ⟨vs, IsList.sb a hs₃ P.ne, b⟩, P.ne⟩
  have T₃ := T₀.ext F₃.keep
  have kp : ∀ b o, b ≠ p → s.heap.get? b = some o → h₃.get? b = some o := fun b o hb e => F₃.keep b o (hideAll_get _ e (by simpa using hb))
  obtain ⟨vs, hvl, hvi⟩ := P₃.lst
  obtain ⟨t₃, hl₃⟩ := P₃.top
  refine wpAny_execs_cons (wpAny_If (wpAny_isTrue_Compare1 (nm F₃.ns (by walk_at "lk") ?_)))
  refine eval_len T₃ (Subscript_ (nm F₃.ns (by walk_at "lk") (wpAny_Constant_int (item_l (j := 0) (x := .ref q) hl₃ rfl (by decide) rfl ⟨q, vs, ns.length, rfl, hvl, hvi.length, by omega, ?_⟩))))
  refine lt_int (wpAny_truthy_bool ?_)
  by_cases hlt : spot < ns.length
  · have e1 : decide ((spot : Int) < (ns.length : Int)) = true := by simp; omega
    refine ite_bt e1 ?_
    try dsimp only
    obtain ⟨tv, hv⟩ := hvi.get spot _ (List.getElem?_eq_getElem hlt)
    refine wpAny_execs_cons (wpAny_Return_some (wpAny_BinOp ?_))
    refine Call_ (nmB T₃ (by decide) (by rfl) (callWith_builtin1 (args_cons ?_)))
    refine Subscript_ (Subscript_ (nm F₃.ns (by walk_at "lk") (wpAny_Constant_int (item_l (j := 0) (x := .ref q) hl₃ rfl (by decide) rfl ?_))))
    refine nm F₃.ns (by walk_at "lk") (item_l (j := spot) (x := .int ns[spot] tv) hvl rfl (by omega) hv (args_nil ?_))
    refine call_abs_int fun u tk => ?_
    refine nm F₃.ns (by walk_at "lk") (mod_int' (by omega) ?_)
    have ha : (if ns[spot] < 0 then -ns[spot] else ns[spot]) = (ns[spot].natAbs : Int) := by split <;> omega
    rw [ha, fmodNat]
    exact ⟨_, _, _, rfl, rfl, ⟨_, _, Nat.mod_lt _ hm, rfl⟩, P₃, kp⟩
  · have e1 : decide ((spot : Int) < (ns.length : Int)) = false := by simp; omega
    refine ite_bf e1 ?_
    try dsimp only
    refine wpAny_execs_nil (wpAny_execs_cons (wpAny_Return_some (wpAny_BinOp (wpAny_BinOp (wpAny_BinOp (wpAny_BinOp (wpAny_Constant_int (nm F₃.ns (by walk_at "lk") (mul_int ?_ (.of_left (by decide)))))))))))
    refine wpAny_BinOp (nm F₃.ns (by walk_at "lk") (wpAny_Constant_int (floordiv_int (by decide) ?_ (.inl (PyProof.noPylong_small (by decide))))))
    refine add_int (wpAny_Constant_int (add_int (nm F₃.ns (by walk_at "lk") (mod_int' (by omega) ?_))))
    have e2 : ((7 : Int) * spot + (spot : Int).fdiv 2 + 5) = ((7 * spot + spot / 2 + 5 : Nat) : Int) := by
      rw [Int.fdiv_eq_ediv_of_nonneg _ (by decide)]; push_cast; rfl
    have e3 : ((7 : Int) * spot + (spot : Int).fdiv 2 + 5).fmod (many : Int) = (((7 * spot + spot / 2 + 5) % many : Nat) : Int) := by rw [e2, fmodNat]
    exact ⟨_, _, _, rfl, rfl, ⟨(7 * spot + spot / 2 + 5) % many, _, Nat.mod_lt _ hm, congrArg (fun z => Value.int z _) e3⟩, P₃, kp⟩
end
end Mine

end
noncomputable section
namespace Mine
open PySem PySem.W PySem.Calls PyProof.Rows
open PySem.Builtin.Int (intBits)

def matT (f : Nat → Nat → Int) (mf : List Nat → Int) (x : Nat) (xs : List Nat) (i : Nat) : Int := (2 * (((i + 1) % 2 : Nat) : Int) - 1) * f x (xs.getD i 0) * mf (xs.take i ++ xs.drop (i + 1))
/-- the sum of all matchings -/
noncomputable def matF (f : Nat → Nat → Int) : Nat → List Nat → Int
  | _, [] => 1
  | 0, _ :: _ => 0
  | m + 1, x :: xs => ((List.range xs.length).map (matT f (matF f m) x xs)).sum

def natsI (l : List Nat) : List Int := l.map Int.ofNat

theorem IntsAre.drop : ∀ {vs : List Value} {ns : List Int} (k : Nat), IntsAre vs ns → IntsAre (vs.drop k) (ns.drop k)
  | _, _, 0, h => by simpa using h
  | _, _, k + 1, .nil => .nil
  | _, _, k + 1, .cons n t h => by simpa using IntsAre.drop k h
theorem IntsAre.take : ∀ {vs : List Value} {ns : List Int} (k : Nat), IntsAre vs ns → IntsAre (vs.take k) (ns.take k)
  | _, _, 0, _ => by simpa using IntsAre.nil
  | _, _, k + 1, .nil => .nil
  | _, _, k + 1, .cons n t h => by simpa using IntsAre.cons n t (IntsAre.take k h)

section
variable {prog : Program} {w : World} {A : Around} {E : Value → Shared → Prop} {s : Shared} {env : Env} {mg mb : Str → Option Value}

/-- rows[a:b] and rows[a:] -/
theorem slice2 {value : Expr} {lo hi : Expr} {p pos : Pos} {l : Addr} {vs : List Value} {a b : Nat} {Q : Value → Shared → Prop} (hl : s.heap.IsList l vs.toArray) (hab : a ≤ b) (hb : b ≤ vs.length) (hsz : vs.length < 1000)
    (hv : ∀ Q' : Value → Shared → Prop, Q' (.ref l) s → wpAny (model prog w) A (eval value env) Q' E s)
    (hlo : ∀ Q' : Value → Shared → Prop, (∀ t tk v, v = (a : Int) → Q' (.int v t) { s with toks := tk }) → wpAny (model prog w) A (eval lo env) Q' E s)
    (hhi : ∀ (Q' : Value → Shared → Prop) tk, (∀ t tk v, v = (b : Int) → Q' (.int v t) { s with toks := tk }) → wpAny (model prog w) A (eval hi env) Q' E { s with toks := tk })
    (h : ∀ D h' tk, Ext s.heap h' → IsL h' D ((vs.drop a).take (b - a)).toArray 0 → s.heap.get? D = none → Q (.ref D) { s with heap := h', toks := tk })
    (ht : ∀ o r, letTemporaryGo value o r = pure () := by intro _ _; rfl) :
    wpAny (model prog w) A (eval (.Subscript value (.Slice (some lo) (some hi) none p) pos) env) Q E s := by
  refine wpAny_Subscript_list_slice (hv _ (wpAny_evalPart_some (hlo _ fun t tk v ev => wpAny_evalPart_some (hhi _ _ fun t2 tk2 v2 ev2 => ?_)))) ht
  subst ev ev2
  refine ⟨l, vs.toArray, _, _, rfl, hl, by rw [sizeLine_eq]; simp; omega, .int _ _, .int _ _, ?_⟩
  have e := slicePick_run vs.toArray a b (by simpa using hb) hab
  rw [e]
  refine h _ _ _ (fun b o e => Heap.get?_push_of_some _ (Heap.get?_push_of_some _ e)) ?_ (Heap.get?_none_of_le (Nat.le_succ _))
  have q := IsL.new (s.heap.push { cls := .type "slice", data := .fields #[.int (a : Int) t, .int (b : Int) t2, .none] }) ((vs.drop a).take (b - a)).toArray
  rw [Heap.size_push] at q
  simpa using q

theorem slice1 {value : Expr} {lo : Expr} {p pos : Pos} {l : Addr} {vs : List Value} {a : Nat} {Q : Value → Shared → Prop} (hl : s.heap.IsList l vs.toArray) (ha : a ≤ vs.length) (hsz : vs.length < 1000)
    (hv : ∀ Q' : Value → Shared → Prop, Q' (.ref l) s → wpAny (model prog w) A (eval value env) Q' E s)
    (hlo : ∀ Q' : Value → Shared → Prop, (∀ t tk v, v = (a : Int) → Q' (.int v t) { s with toks := tk }) → wpAny (model prog w) A (eval lo env) Q' E s)
    (h : ∀ D h' tk, Ext s.heap h' → IsL h' D (vs.drop a).toArray 0 → s.heap.get? D = none → Q (.ref D) { s with heap := h', toks := tk })
    (ht : ∀ o r, letTemporaryGo value o r = pure () := by intro _ _; rfl) :
    wpAny (model prog w) A (eval (.Subscript value (.Slice (some lo) none none p) pos) env) Q E s := by
  refine wpAny_Subscript_list_slice (hv _ (wpAny_evalPart_some (hlo _ fun t tk v ev => wpAny_evalPart_none ?_))) ht
  subst ev
  refine ⟨l, vs.toArray, _, _, rfl, hl, by rw [sizeLine_eq]; simp; omega, .int _ _, .none, ?_⟩
  have e := slicePick_from vs.toArray a (by simpa using ha)
  rw [e]
  refine h _ _ _ (fun b o e => Heap.get?_push_of_some _ (Heap.get?_push_of_some _ e)) ?_ (Heap.get?_none_of_le (Nat.le_succ _))
  have q := IsL.new (s.heap.push { cls := .type "slice", data := .fields #[.int (a : Int) t, .none, .none] }) (vs.drop a).toArray
  rw [Heap.size_push] at q
  simpa using q

theorem add_l {l b : Addr} {xs ys : List Value} {n n2 : Nat} {Q : Value → Shared → Prop} (hl : IsL s.heap l xs.toArray n) (hb : IsL s.heap b ys.toArray n2) (hsz : xs.length + ys.length < 1000)
    (h : ∀ D h', Ext s.heap h' → h'.IsList D (xs ++ ys).toArray → Q (.ref D) { s with heap := h' }) : wpAny (model prog w) A (binaryOp .Add (.ref l) (.ref b)) Q E s := by
  refine P.add_list hl hb (h _ _ (fun b o e => Heap.get?_push_of_some _ e) ⟨_, Heap.get?_push_size _ rfl, rfl, 0, by simp⟩) (by rw [sizeLine_eq]; simp; omega)

theorem eq_intB {a b : Int} {t u : Tok} {c : Bool} {Q : Value → Shared → Prop} (e : (a == b) = c) (h : Q (.bool c) s) : wpAny (model prog w) A (compareOp .Eq (.int a t) (.int b u)) Q E s := eq_int (e ▸ h)
theorem ne_intB {a b : Int} {t u : Tok} {c : Bool} {Q : Value → Shared → Prop} (e : (a != b) = c) (h : Q (.bool c) s) : wpAny (model prog w) A (compareOp .NotEq (.int a t) (.int b u)) Q E s := ne_int (e ▸ h)
theorem lt_intB {a b : Int} {t u : Tok} {c : Bool} {Q : Value → Shared → Prop} (e : decide (a < b) = c) (h : Q (.bool c) s) : wpAny (model prog w) A (compareOp .Lt (.int a t) (.int b u)) Q E s := lt_int (e ▸ h)

theorem sum_range_succ (g : Nat → Int) (i : Nat) : ((List.range (i + 1)).map g).sum = ((List.range i).map g).sum + g i := by
  rw [List.range_succ, List.map_append, List.sum_append]; simp

set_option maxHeartbeats 2000000 in
theorem match_spec {a : Addr} {rs : List Addr} {n k : Nat} {f : Nat → Nat → Int} {fa : Addr} (hf : mg (item 10).name = some (.ref fa)) (hn : n < 1000) (hk : k < 1000)
    (hb : ∀ i j, i < n → j < k → intBits (f i j) ≤ 60) :
    ∀ (m : Nat) (A : Around) (s : Shared) (r : Addr) (vs : List Value) (l : List Nat), l.length ≤ m → TopF mg mb s.heap → A.handled = none → A.depth + m + 8 < recursionLimit → A.units + 3 * m + 100 < cLine →
      MatAt s.heap a rs n k f → s.heap.IsList r vs.toArray → IntsAre vs (natsI l) → (∀ x ∈ l, x < n ∧ x < k) → l.length < 100 →
      codeAny (model prog w) A (.call (.ref fa) ⟨[.ref a, .ref r], []⟩) (Ret s fun v h' => Ext s.heap h' ∧ ∃ t, v = .int (matF f m l) t) s := by
  intro m
  induction m with
  | zero =>
    intro A s r vs l hm T hh hd hu M hl hi hx hlen
    obtain rfl : l = [] := List.eq_nil_of_length_eq_zero (by omega)
    obtain ⟨fa', o, pm, doc, cd, h1, h2, h3, h4⟩ := T.made (item 10) (by simp [items])
    rw [hf] at h1; cases h1
    refine call_plain_ret (by omega) h2 h3 T.nolimit h4 (binds := [(Str.ofString "a", .ref a), (Str.ofString "rows", .ref r)]) (by rfl) (locs (by rfl)) (fun h₁ F => ?_) (hcell := by decide)
    cases hi
    refine wpAny_execs_cons (wpAny_If (wpAny_isTrue_Compare1 (nm F.ns (by rfl) (list_nil ?_))))
    refine ke_eq_ints (xs := []) (ys := []) (ns := []) (ms := []) (IsList.ext hl fun b o e => Heap.get?_push_of_some _ (F.keep b o e)) ⟨_, Heap.get?_push_size _ rfl, rfl, 0, rfl⟩ .nil .nil (by show A.units + 3 + 64 < cLine; omega) (wpAny_truthy_bool ?_)
    refine ite_bt (decide_eq_true rfl) ?_
    try dsimp only
    refine wpAny_execs_cons (wpAny_Return_some (wpAny_Constant_int ?_))
    exact ⟨_, _, _, rfl, rfl, fun b o e => Heap.get?_push_of_some _ (F.keep b o e), _, rfl⟩
  | succ m ih =>
    intro A s r vs l hm T hh hd hu M hl hi hx hlen
    obtain ⟨fa', o, pm, doc, cd, h1, h2, h3, h4⟩ := T.made (item 10) (by simp [items])
    rw [hf] at h1; cases h1
    refine call_plain_ret (by omega) h2 h3 T.nolimit h4 (binds := [(Str.ofString "a", .ref a), (Str.ofString "rows", .ref r)]) (by rfl) (locs (by rfl)) (fun h₁ F => ?_) (hcell := by decide)
    refine wpAny_execs_cons (wpAny_If (wpAny_isTrue_Compare1 (nm F.ns (by rfl) (list_nil ?_))))
    refine ke_eq_ints (xs := vs) (ys := []) (ns := natsI l) (ms := []) (IsList.ext hl fun b o e => Heap.get?_push_of_some _ (F.keep b o e)) ⟨_, Heap.get?_push_size _ rfl, rfl, 0, rfl⟩ hi .nil (by show A.units + 3 + 64 < cLine; omega) (wpAny_truthy_bool ?_)
    have F₁ := F.push { cls := .type "list", data := .seq ([] : List Value).toArray }
    cases l with
    | nil =>
      refine ite_bt (decide_eq_true rfl) ?_
      try dsimp only
      refine wpAny_execs_cons (wpAny_Return_some (wpAny_Constant_int ?_))
      exact ⟨_, _, _, rfl, rfl, F₁.keep, _, rfl⟩
    | cons x xs =>
      have e0 : decide (natsI (x :: xs) = []) = false := by simp [natsI]
      refine ite_bf e0 ?_
      try dsimp only
      refine wpAny_execs_nil ?_
      have hvl : vs.length = xs.length + 1 := by rw [hi.length]; simp [natsI]
      simp only [List.length_cons] at hm hlen
      refine wpAny_execs_cons (wpAny_Assign_Name (wpAny_Constant_int ?_))
      refine stL F₁.ns (fun h₂ hn₂ hs₂ => ?_)
      try dsimp only
      have F₂ := F₁.set hn₂ hs₂
      have T₂ := T.ext F₂.keep
      refine wpAny_execs_cons (wpAny_For (eval_range2 T₂ (wpAny_Constant_int (eval_len T₂ (nm F₂.ns (by walk_at "lk") ⟨r, vs, xs.length + 1, rfl, IsList.ext hl F₂.keep, hvl, by omega, ?_⟩)))))
      refine ⟨_, _, _, _, rfl, rfl, ?_⟩
      refine iter_rng xs.length (fun i m' h => m' (Str.ofString "a") = some (.ref a) ∧ m' (Str.ofString "rows") = some (.ref r) ∧ ∃ t, m' (Str.ofString "found") = some (.int ((List.range i).map (matT f (matF f m) x xs)).sum t))
        (g := s.heap) hh (IsRange.new _ _ _ _ _ _ _) (by split <;> omega) (by omega) (by omega) (F₂.push _) (fun _ _ _ _ p _ => p) ⟨by walk_at "lk", by walk_at "lk", _, by walk_at "lk"⟩ ?_ ?_
      · rintro i h tk m' hi' F' ⟨ea, er, tf, ef⟩
        have T' := T.ext F'.keep
        have hl' := IsList.ext hl F'.keep
        have M' := M.ext F'.keep
        have ei : ((1 : Int) + (i : Int)) = ((1 + i : Nat) : Int) := by push_cast; rfl
        -- rest
        refine wpAny_execs_cons (wpAny_Assign_Name (wpAny_BinOp ?_))
        refine slice2 (a := 1) (b := 1 + i) hl' (by omega) (by omega) (by omega) (fun Q' q => nm F'.ns (by walk_at "lk") q) (fun Q' q => wpAny_Constant_int (q _ _ _ rfl)) (fun Q' tk q => nm F'.ns (by walk_at "lk") (q _ _ _ ei)) fun D₁ h₃ tk₃ k₃ hD₁ hn₁ => ?_
        try dsimp only
        have F₃ : Fr s.heap s.heap.objs.size h₃ _ := ⟨F'.ns.keeps k₃, fun b o e => k₃ _ _ (F'.keep b o e), F'.above⟩
        refine slice1 (a := 1 + i + 1) (IsList.ext hl' k₃) (by omega) (by omega) (fun Q' q => nm F₃.ns (by walk_at "lk") q) (fun Q' q => wpAny_BinOp (nm F₃.ns (by walk_at "lk") (wpAny_Constant_int (add_int (q _ _ _ (by push_cast; rfl)))))) fun D₂ h₄ tk₄ k₄ hD₂ hn₂ => ?_
        try dsimp only
        have F₄ : Fr s.heap s.heap.objs.size h₄ _ := ⟨F₃.ns.keeps k₄, fun b o e => k₄ _ _ (F₃.keep b o e), F₃.above⟩
        refine add_l (s := { s with heap := h₄, toks := tk₄ }) (show IsL h₄ D₁ _ 0 from k₄ _ _ hD₁) hD₂ (by simp; omega) fun R H₅ k₅ hR₅ => ?_
        try dsimp only
        have elist : ((vs.drop 1).take (1 + i - 1) ++ vs.drop (1 + i + 1)) = ((vs.drop 1).take i ++ vs.drop (i + 2)) := by
          rw [show 1 + i - 1 = i from by omega, show 1 + i + 1 = i + 2 from by omega]
        rw [elist] at hR₅
        have F₅ : Fr s.heap s.heap.objs.size H₅ _ := ⟨F₄.ns.keeps k₅, fun b o e => k₅ _ _ (F₄.keep b o e), F₄.above⟩
        refine stL F₅.ns (fun h₆ hn₆ hs₆ => ?_)
        try dsimp only
        have F₆ := F₅.set hn₆ hs₆
        have dk₆ := DK.of_ns F₅.ns hs₆
        have hR₆ := IsList.dk hR₅ dk₆
        have T₆ := T.ext F₆.keep
        have M₆ := M.ext F₆.keep
        have hl₆ := IsList.ext hl F₆.keep
        have nk₆ : NK h h₆ := (((NK.of_ext k₃).trans (NK.of_ext k₄)).trans (NK.of_ext k₅)).trans dk₆.nk
        have hrest : IntsAre ((vs.drop 1).take i ++ vs.drop (i + 2)) (natsI (xs.take i ++ xs.drop (i + 1))) := by
          have := IntsAre.append (IntsAre.take i (IntsAre.drop 1 hi)) (IntsAre.drop (i + 2) hi)
          simpa [natsI, List.map_take, List.map_drop] using this
        -- found
        refine wpAny_execs_cons (wpAny_Assign_Name (wpAny_BinOp (nm F₆.ns (by walk_at "lk") ?_)))
        refine wpAny_BinOp (wpAny_BinOp (wpAny_BinOp (wpAny_BinOp (wpAny_Constant_int (wpAny_BinOp (nm F₆.ns (by walk_at "lk") (wpAny_Constant_int (mod_int' (by decide) ?_))))))))
        have emod : ((1 : Int) + (i : Int)).fmod 2 = (((i + 1) % 2 : Nat) : Int) := by rw [ei, Nat.add_comm]; exact fmodNat (i + 1) 2
        have hq : (i + 1) % 2 < 2 := Nat.mod_lt _ (by decide)
        have b1 : intBits (2 * ((1 : Int) + (i : Int)).fmod 2 - 1) ≤ 2 := by
          rw [emod]; generalize (i + 1) % 2 = q at hq
          exact intBits_le (by omega)
        have b0 : IntMulOk 2 (((1 : Int) + (i : Int)).fmod 2) := .of_left (by decide)
        refine mul_int ?_ b0
        refine wpAny_Constant_int (sub_int ?_)
        have hix : i < xs.length := hi'
        obtain ⟨hxn, hxk⟩ := hx x (List.mem_cons_self ..)
        obtain ⟨hyn, hyk⟩ := hx (xs.getD i 0) (List.mem_cons_of_mem _ (by rw [List.getD_eq_getElem?_getD, List.getElem?_eq_getElem hix]; exact List.getElem_mem hix))
        obtain ⟨tx, hvx⟩ := hi.get 0 (x : Int) (by rfl)
        obtain ⟨ty, hvy⟩ := hi.get (1 + i) ((xs.getD i 0 : Nat) : Int) (by
          rw [Nat.add_comm]; show (List.map Int.ofNat xs)[i]? = _
          rw [List.getElem?_map, List.getD_eq_getElem?_getD, List.getElem?_eq_getElem hix]; rfl)
        have b2 := hb x (xs.getD i 0) hxn hyk
        obtain ⟨ra, hra⟩ : ∃ ra, rs[x]? = some ra := ⟨_, List.getElem?_eq_getElem (by rw [M.len]; exact hxn)⟩
        obtain ⟨vsr, hvsl, hvslen, hvsr⟩ := M₆.row x ra hra
        obtain ⟨tz, hz⟩ := hvsr (xs.getD i 0) hyk
        refine Subscript_ (Subscript_ (nm F₆.ns (by walk_at "lk") (Subscript_ (nm F₆.ns (by walk_at "lk") (wpAny_Constant_int (item_l (j := 0) hl₆ rfl (by decide) hvx ?_))))))
        refine item_l (j := x) M₆.top rfl (by omega) (x := .ref ra) (by rw [List.getElem?_map, hra]; rfl) ?_
        refine Subscript_ (nm F₆.ns (by walk_at "lk") (nm F₆.ns (by walk_at "lk") (item_l (j := 1 + i) hl₆ ei (by omega) hvy ?_)))
        refine item_l (j := xs.getD i 0) hvsl rfl (by omega) hz ?_
        refine mul_int ?_ (mulOk_of_bits b1 b2 (by omega))
        have b3 := bits_mul b1 b2
        refine eval_fn (item 10) (by simp [items]) (by rfl) T₆ (fun fb hfb => ?_)
        try dsimp only
        rw [hf] at hfb; cases hfb
        refine args_cons (nm F₆.ns (by walk_at "lk") (args_cons (nm F₆.ns (by walk_at "lk") (args_nil ⟨fun _ _ e => e, ?_⟩))))
        have hlr : (xs.take i ++ xs.drop (i + 1)).length ≤ m := by simp; omega
        refine call_of (ih _ _ R _ (xs.take i ++ xs.drop (i + 1)) hlr T₆ hh (by show A.depth + 1 + m + 8 < _; omega) (by show A.units + 3 + 3 * m + 100 < _; omega) M₆ hR₆ hrest (fun y hy => hx y (List.mem_cons_of_mem _ (by
          rcases List.mem_append.mp hy with h | h
          · exact List.mem_of_mem_take h
          · exact List.mem_of_mem_drop h))) (by simp; omega)) fun v h₇ tk₇ hv => ?_
        obtain ⟨k₇, t₇, rfl⟩ := hv
        have F₇ : Fr s.heap s.heap.objs.size h₇ _ := ⟨F₆.ns.keeps k₇, fun b o e => k₇ _ _ (F₆.keep b o e), F₆.above⟩
        refine mul_int ?_ (.of_left (by omega))
        refine add_int ?_
        refine stL F₇.ns (fun h₈ hn₈ hs₈ => ?_)
        try dsimp only
        have F₈ := F₇.set hn₈ hs₈
        have nk₈ : NK h h₈ := (nk₆.trans (NK.of_ext k₇)).trans (DK.of_ns F₇.ns hs₈).nk
        have esum : ((List.range i).map (matT f (matF f m) x xs)).sum + (2 * ((1 : Int) + (i : Int)).fmod 2 - 1) * f x (xs.getD i 0) * matF f m (xs.take i ++ xs.drop (i + 1)) = ((List.range (i + 1)).map (matT f (matF f m) x xs)).sum := by
          rw [sum_range_succ, emod]; rfl
        exact wpAny_execs_nil ⟨_, _, _, rfl, F₈, nk₈, by walk_at "lk", by walk_at "lk", _, (if_pos rfl).trans (congrArg (fun z => some (Value.int z _)) esum)⟩
      · rintro h tk m' F' nk ⟨ea, er, tf, ef⟩
        refine wpAny_execs_cons (wpAny_Return_some (nm F'.ns (by walk_at "lk") ?_))
        exact ⟨_, _, _, rfl, rfl, F'.keep, _, rfl⟩
end
end Mine

end
noncomputable section
namespace Mine
open PySem PySem.W PySem.Calls PyProof.Rows
open PySem.Builtin.Int (intBits)

def lmF (n : Nat) (f : Nat → Nat → Int) (one other : Nat) : Int :=
  if n % 2 = 1 then (1 - 2 * (((one + other) % 2 : Nat) : Int)) * matF f n ((List.range n).filter (fun i => i != one)) * matF f n ((List.range n).filter (fun i => i != other))
  else if one = other then 0
  else (1 - 2 * (((one + other) % 2 : Nat) : Int)) * (if one < other then 1 else -1) * matF f n (List.range n) * matF f n ((List.range n).filter (fun i => i != one && i != other))

theorem natsI_filter (n : Nat) (P : Int → Bool) : ((rangeI n).filter P).map id = natsI ((List.range n).filter (fun i => P (i : Int))) := by
  unfold rangeI natsI
  rw [List.map_id, List.filter_map]; rfl

section
variable {prog : Program} {w : World} {A : Around} {E : Value → Shared → Prop} {s : Shared} {env : Env} {mg mb : Str → Option Value}

/-- list(range(e)) -/
theorem list_range {e : Expr} {p1 p2 p3 p4 : Pos} {n : Nat} {Q : Value → Shared → Prop} (T : TopF mg mb s.heap) (hh : A.handled = none) (hn : n < 1000)
    (hev : ∀ Q' : Value → Shared → Prop, (∀ t, Q' (.int n t) s) → wpAny (model prog w) A (eval e env) Q' E s)
    (h : ∀ D h' tk ys, Ext s.heap h' → h'.IsList D (ys : List Value).toArray → IntsAre ys (rangeI n) → Q (.ref D) { s with heap := h', toks := tk })
    (hk : env.scope.kind = .function := by rfl) (hl : env.kindOf (Str.ofString "range") = some .globalImplicit := by rfl) (hl2 : env.kindOf (Str.ofString "list") = some .globalImplicit := by rfl) (hg : env.globals = mainGlobals := by rfl) (hbn : env.builtins = builtinsNs := by rfl)
    (he : starEach [e] env = (false, eval e env) :: starEach [] env := by rfl)
    (he2 : starEach [.Call (.Name (Str.ofString "range") p1) [e] [] p2] env = (false, eval (.Call (.Name (Str.ofString "range") p1) [e] [] p2) env) :: starEach [] env := by rfl) :
    wpAny (model prog w) A (eval (.Call (.Name (Str.ofString "list") p3) [.Call (.Name (Str.ofString "range") p1) [e] [] p2] [] p4) env) Q E s := by
  refine Call_ (nmB T (by decide) (by rfl) ?_ hk hl2 hg hbn)
  refine callWith_type1 (args_cons (eval_range1 T (hev _ fun t => ⟨n, t, rfl, args_nil ?_⟩) hk hl hg hbn he) he2) he2
  refine call_list_range (n := n) hh (IsRange.new _ _ _ _ _ _ _) (small_one (by omega) (by omega) (by omega) (by omega)) (by rw [rangeSize_one]; split <;> omega) (by omega) fun h' tk acc' c' kp hD hit => ?_
  refine h _ h' tk acc'.toList (fun b o e => kp b o (Heap.get?_push_of_some _ e)) ⟨_, hD, rfl, c', by simp⟩ (ints_of_get (by rw [Array.length_toList, hit.1]; simp [rangeI]) fun j v k hv hk => ?_)
  obtain ⟨t, e⟩ := hit.2 j v (by simpa using hv)
  have hj : j < n := by
    have := (List.getElem?_eq_some_iff.mp hk).1
    simpa [rangeI] using this
  unfold rangeI at hk
  rw [List.getElem?_map, List.getElem?_range hj] at hk
  cases hk
  exact ⟨t, by rw [e]; simp⟩

theorem rangeI_natsI (n : Nat) : rangeI n = natsI (List.range n) := rfl

set_option maxHeartbeats 2000000 in
theorem lmin_spec {a : Addr} {rs : List Addr} {n one other : Nat} {f : Nat → Nat → Int} {fa : Addr} {t1 t2 : Tok} (T : TopF mg mb s.heap) (hh : A.handled = none) (hd : A.depth + 40 < recursionLimit) (hu : A.units + 300 < cLine)
    (hf : mg (item 11).name = some (.ref fa)) (M : MatAt s.heap a rs n n f) (hn : n ≤ 12) (hb : ∀ i j, i < n → j < n → intBits (f i j) ≤ 60) (h1n : one < n) (h2n : other < n)
    (hmb : ∀ P : Nat → Bool, intBits (matF f n ((List.range n).filter P)) ≤ 1000000) :
    codeAny (model prog w) A (.call (.ref fa) ⟨[.ref a, .int one t1, .int other t2], []⟩) (Ret s fun v h' => Ext s.heap h' ∧ ∃ t, v = .int (lmF n f one other) t) s := by
  obtain ⟨fa', o, pm, doc, cd, h1, h2, h3, h4⟩ := T.made (item 11) (by simp [items])
  rw [hf] at h1; cases h1
  refine call_cells_ret (by omega) h2 h3 T.nolimit h4 (binds := [(Str.ofString "a", .ref a), (Str.ofString "one", .int one t1), (Str.ofString "other", .int other t2)]) (by rfl)
    (by intro n x hx; simp only [List.mem_cons, List.not_mem_nil, or_false] at hx; rcases hx with rfl | rfl | rfl; exact .inl rfl; exact .inr ⟨by rfl, by rfl⟩; exact .inr ⟨by rfl, by rfl⟩) (fun h₁ tk₁ F hcs => ?_)
  try dsimp only
  have c1 : h₁.IsCell (s.heap.objs.size + 1) (some (.int one t1)) := hcs (Str.ofString "one") (s.heap.objs.size + 1) (by rfl)
  have c2 : h₁.IsCell (s.heap.objs.size + 2) (some (.int other t2)) := hcs (Str.ofString "other") (s.heap.objs.size + 2) (by rfl)
  clear hcs
  have M₁ := M.ext F.keep
  have T₁ := T.ext F.keep
  have e2 : ((one : Int) + (other : Int)).fmod 2 = (((one + other) % 2 : Nat) : Int) := fmodNat (one + other) 2
  have hq : (one + other) % 2 < 2 := Nat.mod_lt _ (by decide)
  have bs : intBits (1 - 2 * ((one : Int) + (other : Int)).fmod 2) ≤ 2 := by
    rw [e2]; generalize (one + other) % 2 = q at hq; exact intBits_le (by omega)
  refine wpAny_execs_cons (Assign_Tuple_swapped (names := [Str.ofString "n", Str.ofString "sign"]) ?_)
  refine Tuple_ (args_cons (eval_len T₁ (nm F.ns (by rfl) ⟨a, _, n, rfl, M₁.top, by rw [List.length_map, M.len], by omega, ?_⟩)))
  refine args_cons (wpAny_BinOp (wpAny_Constant_int (wpAny_BinOp (wpAny_Constant_int (wpAny_BinOp (wpAny_BinOp (nmC (c := s.heap.objs.size + 1) (by rfl) c1 (nmC (c := s.heap.objs.size + 2) (by rfl) c2 (add_int (wpAny_Constant_int (mod_int' (by decide) ?_)))))))))))
  refine mul_int ?_ (.of_left (by decide))
  refine sub_int ?_
  refine args_nil (newTuple_unpack hh rfl (by simp) fun h₄ k₄ => ?_)
  try dsimp only
  have F₄ : Fr s.heap s.heap.objs.size h₄ _ := ⟨F.ns.keeps k₄, fun b o e => k₄ _ _ (F.keep b o e), F.above⟩
  refine assignInOrder_cons (wpAny_bindName (stL F₄.ns (fun h₅ hn₅ hs₅ => ?_)))
  try dsimp only
  have F₅ := F₄.set hn₅ hs₅
  have dk₅ := DK.of_ns F₄.ns hs₅
  refine assignInOrder_cons (wpAny_bindName (stL F₅.ns (fun h₆ hn₆ hs₆ => ?_)))
  try dsimp only
  have F₆ := F₅.set hn₆ hs₆
  have dk := dk₅.trans (DK.of_ns F₅.ns hs₆)
  refine assignInOrder_nil ?_
  have HH : ∃ m, Fr s.heap s.heap.objs.size h₆ m ∧ m (Str.ofString "a") = some (.ref a) ∧ (∃ t, m (Str.ofString "n") = some (.int n t)) ∧ ∃ t, m (Str.ofString "sign") = some (.int (1 - 2 * ((one : Int) + (other : Int)).fmod 2) t) :=
    ⟨_, F₆, (if_neg (by decide)).trans ((if_neg (by decide)).trans (by rfl)), ⟨_, if_pos rfl⟩, ⟨_, (if_neg (by decide)).trans (if_pos rfl)⟩⟩
  refine Exists.elim HH fun m₆ HH => ?_
  have F₆ := HH.1
  have ea := HH.2.1
  refine Exists.elim HH.2.2.1 fun tn en => Exists.elim HH.2.2.2 fun ts es => ?_
  clear HH
  have d1 := IsCell.dk (IsCell.sk c1 (.of_ext k₄)) dk
  have d2 := IsCell.dk (IsCell.sk c2 (.of_ext k₄)) dk
  have T₆ := T.ext F₆.keep
  have M₆ := M.ext F₆.keep
  -- rows
  refine wpAny_execs_cons (range_compA (n := n) (fun i => i != (one : Int) && i != (other : Int)) id T₆ F₆ hh (by omega) (fun Q' q => nm F₆.ns (by walk_at "lk") (q _)) (cl := [(Str.ofString "other", s.heap.objs.size + 2), (Str.ofString "one", s.heap.objs.size + 1)])
    (by rfl) (by decide) (by rfl) (by decide) (by rfl) ?_ ?_ ?_)
  · intro C i s₃ m₃ t E' hi hn₃ e1 kp
    have d1' := IsCell.sk d1 (.of_ext kp)
    have d2' := IsCell.sk d2 (.of_ext kp)
    refine wpAny_tests_one (wpAny_isTrue_Compare1 (nm hn₃ e1 ?_))
    refine Tuple_ (args_cons (nmC (c := s.heap.objs.size + 1) (by rfl) d1' (args_cons (nmC (c := s.heap.objs.size + 2) (by rfl) d2' (args_nil (newTuple_ ?_))))))
    refine SeqAt.notIn_tupleAt (fun y => match y with | .int k _ => k == (i : Int) | _ => false) (items := [Value.int (one : Int) t1, Value.int (other : Int) t2].toArray) ⟨_, Heap.get?_push_size _ rfl, rfl, 0, rfl⟩ ?_ ?_
    · intro y hy
      simp at hy
      rcases hy with rfl | rfl
      · exact SeqAt.EqAt.int_int _ _ _ _
      · exact SeqAt.EqAt.int_int _ _ _ _
    · refine wpAny_truthy_bool ⟨?_, _, _, rfl, fun b o e => Heap.get?_push_of_some _ e⟩
      rw [Bool.eq_iff_iff]; simp; omega
  · intro C i s₃ m₃ t E' hi hp hn₃ e1 kp
    exact nm hn₃ e1 ⟨⟨_, rfl⟩, _, _, rfl, fun _ _ e => e⟩
  · intro D₁ h₇ tk₇ ys hD₁ hl₁ _ hi₁ F₇ dk₇
    rw [natsI_filter] at hi₁
    have T₇ := T.ext F₇.keep
    have M₇ := M.ext F₇.keep
    have q1 := IsCell.dk d1 dk₇
    have q2 := IsCell.dk d2 dk₇
    have em : (n : Int).fmod 2 = ((n % 2 : Nat) : Int) := fmodNat n 2
    have flt : ∀ (P : Nat → Bool) x, x ∈ (List.range n).filter P → x < n ∧ x < n := fun P x hx => by
      have := List.mem_range.mp (List.mem_filter.mp hx).1; exact ⟨this, this⟩
    have fll : ∀ (P : Nat → Bool), ((List.range n).filter P).length ≤ n := fun P => by
      have := List.length_filter_le P (List.range n); simpa using this
    have ms := fun (A : Around) (s : Shared) (r : Addr) (vs : List Value) (l : List Nat) fb hfb => match_spec (prog := prog) (w := w) (mg := mg) (mb := mb) (a := a) (rs := rs) (n := n) (k := n) (f := f) (fa := fb) hfb (by omega) (by omega) hb n A s r vs l
    by_cases ho : n % 2 = 1
    · have eb : ((n : Int).fmod 2 == 1) = true := by rw [em, ho]; rfl
      refine wpAny_execs_cons (wpAny_If (wpAny_isTrue_Compare1 (wpAny_BinOp (nm F₇.ns (by walk_at "lk") (wpAny_Constant_int (mod_int' (by decide) (wpAny_Constant_int (eq_intB eb (wpAny_truthy_bool (ite_t ?_))))))))))
      refine wpAny_execs_cons (range_compA (n := n) (fun i => i != (one : Int)) id T₇ F₇ hh (by omega) (fun Q' q => nm F₇.ns (by walk_at "lk") (q _)) (cl := [(Str.ofString "one", s.heap.objs.size + 1)])
        (by rfl) (by decide) (by rfl) (by decide) (by rfl) ?_ ?_ ?_)
      · intro C i s₃ m₃ t E' hi hn₃ e1 kp
        refine wpAny_tests_one (wpAny_isTrue_Compare1 (nm hn₃ e1 (nmC (c := s.heap.objs.size + 1) (by rfl) (IsCell.sk q1 (.of_ext kp)) (ne_int (wpAny_truthy_bool ⟨rfl, _, _, rfl, fun _ _ e => e⟩)))))
      · intro C i s₃ m₃ t E' hi hp hn₃ e1 kp
        exact nm hn₃ e1 ⟨⟨_, rfl⟩, _, _, rfl, fun _ _ e => e⟩
      · intro D₂ h₈ tk₈ ys₂ hD₂ hl₂ _ hi₂ F₈ dk₈
        rw [natsI_filter] at hi₂
        have T₈ := T.ext F₈.keep
        have M₈ := M.ext F₈.keep
        have r2 := IsCell.dk q2 dk₈
        refine wpAny_execs_cons (wpAny_Return_some (wpAny_BinOp (wpAny_BinOp (nm F₈.ns (by walk_at "lk") ?_))))
        refine eval_fn (item 10) (by simp [items]) (by rfl) T₈ (fun fb hfb => ?_)
        try dsimp only
        refine args_cons (nm F₈.ns (by walk_at "lk") (args_cons (nm F₈.ns (by walk_at "lk") (args_nil ⟨fun _ _ e => e, ?_⟩))))
        refine call_of (ms _ _ D₂ _ _ fb hfb (fll _) T₈ hh (by show A.depth + 1 + n + 8 < _; omega) (by show A.units + 3 + 3 * n + 100 < _; omega) M₈ hl₂ hi₂ (flt _) (Nat.lt_of_le_of_lt (fll _) (by omega))) fun v h₉ tk₉ hv => ?_
        try dsimp only
        obtain ⟨k₉, t₉, rfl⟩ := hv
        have F₉ : Fr s.heap s.heap.objs.size h₉ _ := ⟨F₈.ns.keeps k₉, fun b o e => k₉ _ _ (F₈.keep b o e), F₈.above⟩
        have T₉ := T.ext F₉.keep
        have M₉ := M.ext F₉.keep
        have r2' := IsCell.sk r2 (.of_ext k₉)
        have b1 := hmb (fun i => ((i : Int) != (one : Int)))
        refine mul_int ?_ (.of_left (by omega))
        refine eval_fn (item 10) (by simp [items]) (by rfl) T₉ (fun fc hfc => ?_)
        try dsimp only
        refine args_cons (nm F₉.ns (by walk_at "lk") (args_cons ?_))
        refine range_comp (n := n) (fun i => i != (other : Int)) id T₉ hh (by omega) (fun Q' q => nm F₉.ns (by walk_at "lk") (q _)) (cl := [(Str.ofString "other", s.heap.objs.size + 2)])
          (by rfl) (by decide) (by rfl) (by decide) (by rfl) ?_ ?_ ?_
        · intro C i s₃ m₃ t E' hi hn₃ e1 kp
          refine wpAny_tests_one (wpAny_isTrue_Compare1 (nm hn₃ e1 (nmC (c := s.heap.objs.size + 2) (by rfl) (IsCell.sk r2' (.of_ext kp)) (ne_int (wpAny_truthy_bool ⟨rfl, _, _, rfl, fun _ _ e => e⟩)))))
        · intro C i s₃ m₃ t E' hi hp hn₃ e1 kp
          exact nm hn₃ e1 ⟨⟨_, rfl⟩, _, _, rfl, fun _ _ e => e⟩
        · intro D₃ h₁₀ tk₁₀ ys₃ hD₃ hl₃ _ hi₃ k₁₀
          rw [natsI_filter] at hi₃
          refine args_nil ⟨k₁₀, ?_⟩
          refine call_of (ms _ _ D₃ _ _ fc hfc (fll _) (T₉.ext k₁₀) hh (by show A.depth + 1 + n + 8 < _; omega) (by show A.units + 3 + 3 * n + 100 < _; omega) (M₉.ext k₁₀) hl₃ hi₃ (flt _) (Nat.lt_of_le_of_lt (fll _) (by omega))) fun v h₁₁ tk₁₁ hv => ?_
          try dsimp only
          obtain ⟨k₁₁, t₁₁, rfl⟩ := hv
          have b2 := hmb (fun i => ((i : Int) != (other : Int)))
          refine mul_int ?_ (mulOk_of_bits (bits_mul bs b1) b2 (by omega))
          have ev : (1 - 2 * ((one : Int) + (other : Int)).fmod 2) * matF f n ((List.range n).filter (fun i => ((i : Int) != (one : Int)))) * matF f n ((List.range n).filter (fun i => ((i : Int) != (other : Int)))) = lmF n f one other := by
            unfold lmF
            rw [if_pos ho, e2]
            have eqf : ∀ k : Nat, (fun i : Nat => ((i : Int) != (k : Int))) = fun i => i != k := fun k => by funext i; rw [Bool.eq_iff_iff]; simp; omega
            rw [eqf one, eqf other]
          exact ⟨_, _, _, rfl, rfl, fun b o e => k₁₁ _ _ (k₁₀ _ _ (F₉.keep b o e)), _, congrArg (fun z => Value.int z _) ev⟩
    · have eb : ((n : Int).fmod 2 == 1) = false := by rw [em]; rw [show n % 2 = 0 from by omega]; rfl
      refine wpAny_execs_cons (wpAny_If (wpAny_isTrue_Compare1 (wpAny_BinOp (nm F₇.ns (by walk_at "lk") (wpAny_Constant_int (mod_int' (by decide) (wpAny_Constant_int (eq_intB eb (wpAny_truthy_bool (ite_f ?_))))))))))
      refine wpAny_execs_nil ?_
      by_cases hoo : one = other
      · have eb : ((one : Int) == (other : Int)) = true := by rw [hoo]; simp
        refine wpAny_execs_cons (wpAny_If (wpAny_isTrue_Compare1 (nmC (c := s.heap.objs.size + 1) (by rfl) q1 (nmC (c := s.heap.objs.size + 2) (by rfl) q2 (eq_intB eb (wpAny_truthy_bool (ite_t ?_)))))))
        refine wpAny_execs_cons (wpAny_Return_some (wpAny_Constant_int ?_))
        have ev : (0 : Int) = lmF n f one other := by unfold lmF; rw [if_neg ho, if_pos hoo]
        exact ⟨_, _, _, rfl, rfl, F₇.keep, _, congrArg (fun z => Value.int z _) ev⟩
      · have eb : ((one : Int) == (other : Int)) = false := by simp; omega
        refine wpAny_execs_cons (wpAny_If (wpAny_isTrue_Compare1 (nmC (c := s.heap.objs.size + 1) (by rfl) q1 (nmC (c := s.heap.objs.size + 2) (by rfl) q2 (eq_intB eb (wpAny_truthy_bool (ite_f ?_)))))))
        refine wpAny_execs_nil ?_
        refine wpAny_execs_cons (wpAny_Return_some (wpAny_BinOp (wpAny_BinOp (wpAny_BinOp (nm F₇.ns (by walk_at "lk") ?_)))))
        have eqf2 : (fun i : Nat => ((i : Int) != (one : Int) && (i : Int) != (other : Int))) = fun i => i != one && i != other := by funext i; rw [Bool.eq_iff_iff]; simp; omega
        have bl : intBits (matF f n (List.range n)) ≤ 1000000 := by have := hmb (fun _ => true); rwa [List.filter_eq_self.mpr (by simp)] at this
        have b2 := hmb (fun i => ((i : Int) != (one : Int) && (i : Int) != (other : Int)))
        have hlr : ∀ x ∈ List.range n, x < n ∧ x < n := fun x hx => ⟨List.mem_range.mp hx, List.mem_range.mp hx⟩
        by_cases hoo2 : one < other
        · have ed : decide ((one : Int) < (other : Int)) = true := by simp; omega
          refine IfExp_ (wpAny_isTrue_Compare1 (nmC (c := s.heap.objs.size + 1) (by rfl) q1 (nmC (c := s.heap.objs.size + 2) (by rfl) q2 (lt_intB ed (wpAny_truthy_bool (ite_t (wpAny_Constant_int ?_)))))))
          have bz : intBits (1 : Int) ≤ 1 := by decide
          refine mul_int ?_ (.of_left (by omega))
          refine eval_fn (item 10) (by simp [items]) (by rfl) T₇ (fun fb hfb => ?_)
          try dsimp only
          refine args_cons (nm F₇.ns (by walk_at "lk") (args_cons ?_))
          refine list_range (n := n) T₇ hh (by omega) (fun Q' q => nm F₇.ns (by walk_at "lk") (q _)) fun D₂ h₈ tk₈ ys₂ k₈ hl₂ hi₂ => ?_
          try dsimp only
          rw [rangeI_natsI] at hi₂
          refine args_nil ⟨k₈, ?_⟩
          have F₈ : Fr s.heap s.heap.objs.size h₈ _ := ⟨F₇.ns.keeps k₈, fun b o e => k₈ _ _ (F₇.keep b o e), F₇.above⟩
          refine call_of (ms _ _ D₂ _ _ fb hfb (by simp) (T₇.ext k₈) hh (by show A.depth + 1 + n + 8 < _; omega) (by show A.units + 3 + 3 * n + 100 < _; omega) (M₇.ext k₈) hl₂ hi₂ hlr (by simp; omega)) fun v h₉ tk₉ hv => ?_
          try dsimp only
          obtain ⟨k₉, t₉, rfl⟩ := hv
          have F₉ : Fr s.heap s.heap.objs.size h₉ _ := ⟨F₈.ns.keeps k₉, fun b o e => k₉ _ _ (F₈.keep b o e), F₈.above⟩
          have T₉ := T.ext F₉.keep
          have M₉ := M.ext F₉.keep
          have k₇₉ : Ext h₇ h₉ := fun b o e => k₉ _ _ (k₈ _ _ e)
          have bsz := bits_mul bs bz
          refine mul_int ?_ (.of_left (by omega))
          refine eval_fn (item 10) (by simp [items]) (by rfl) T₉ (fun fc hfc => ?_)
          try dsimp only
          refine args_cons (nm F₉.ns (by walk_at "lk") (args_cons (nm F₉.ns (by walk_at "lk") (args_nil ⟨fun _ _ e => e, ?_⟩))))
          refine call_of (ms _ _ D₁ _ _ fc hfc (fll _) T₉ hh (by show A.depth + 1 + n + 8 < _; omega) (by show A.units + 3 + 3 * n + 100 < _; omega) M₉ (IsList.ext hl₁ k₇₉) hi₁ (flt _) (Nat.lt_of_le_of_lt (fll _) (by omega))) fun v h₁₁ tk₁₁ hv => ?_
          try dsimp only
          obtain ⟨k₁₁, t₁₁, rfl⟩ := hv
          have b12 := bits_mul bsz bl
          refine mul_int ?_ (mulOk_of_bits b12 b2 (by omega))
          have ev : (1 - 2 * ((one : Int) + (other : Int)).fmod 2) * 1 * matF f n (List.range n) * matF f n ((List.range n).filter (fun i => ((i : Int) != (one : Int) && (i : Int) != (other : Int)))) = lmF n f one other := by
            unfold lmF
            rw [if_neg ho, if_neg hoo, if_pos hoo2, e2, eqf2]
          exact ⟨_, _, _, rfl, rfl, fun b o e => k₁₁ _ _ (F₉.keep b o e), _, congrArg (fun z => Value.int z _) ev⟩
        · have ed : decide ((one : Int) < (other : Int)) = false := by simp; omega
          refine IfExp_ (wpAny_isTrue_Compare1 (nmC (c := s.heap.objs.size + 1) (by rfl) q1 (nmC (c := s.heap.objs.size + 2) (by rfl) q2 (lt_intB ed (wpAny_truthy_bool (ite_f (UnaryOp_ (wpAny_Constant_int (neg_int ?_)))))))))
          have bz : intBits (-1 : Int) ≤ 1 := by decide
          refine mul_int ?_ (.of_left (by omega))
          refine eval_fn (item 10) (by simp [items]) (by rfl) T₇ (fun fb hfb => ?_)
          try dsimp only
          refine args_cons (nm F₇.ns (by walk_at "lk") (args_cons ?_))
          refine list_range (n := n) T₇ hh (by omega) (fun Q' q => nm F₇.ns (by walk_at "lk") (q _)) fun D₂ h₈ tk₈ ys₂ k₈ hl₂ hi₂ => ?_
          try dsimp only
          rw [rangeI_natsI] at hi₂
          refine args_nil ⟨k₈, ?_⟩
          have F₈ : Fr s.heap s.heap.objs.size h₈ _ := ⟨F₇.ns.keeps k₈, fun b o e => k₈ _ _ (F₇.keep b o e), F₇.above⟩
          refine call_of (ms _ _ D₂ _ _ fb hfb (by simp) (T₇.ext k₈) hh (by show A.depth + 1 + n + 8 < _; omega) (by show A.units + 3 + 3 * n + 100 < _; omega) (M₇.ext k₈) hl₂ hi₂ hlr (by simp; omega)) fun v h₉ tk₉ hv => ?_
          try dsimp only
          obtain ⟨k₉, t₉, rfl⟩ := hv
          have F₉ : Fr s.heap s.heap.objs.size h₉ _ := ⟨F₈.ns.keeps k₉, fun b o e => k₉ _ _ (F₈.keep b o e), F₈.above⟩
          have T₉ := T.ext F₉.keep
          have M₉ := M.ext F₉.keep
          have k₇₉ : Ext h₇ h₉ := fun b o e => k₉ _ _ (k₈ _ _ e)
          have bsz := bits_mul bs bz
          refine mul_int ?_ (.of_left (by omega))
          refine eval_fn (item 10) (by simp [items]) (by rfl) T₉ (fun fc hfc => ?_)
          try dsimp only
          refine args_cons (nm F₉.ns (by walk_at "lk") (args_cons (nm F₉.ns (by walk_at "lk") (args_nil ⟨fun _ _ e => e, ?_⟩))))
          refine call_of (ms _ _ D₁ _ _ fc hfc (fll _) T₉ hh (by show A.depth + 1 + n + 8 < _; omega) (by show A.units + 3 + 3 * n + 100 < _; omega) M₉ (IsList.ext hl₁ k₇₉) hi₁ (flt _) (Nat.lt_of_le_of_lt (fll _) (by omega))) fun v h₁₁ tk₁₁ hv => ?_
          try dsimp only
          obtain ⟨k₁₁, t₁₁, rfl⟩ := hv
          have b12 := bits_mul bsz bl
          refine mul_int ?_ (mulOk_of_bits b12 b2 (by omega))
          have ev : (1 - 2 * ((one : Int) + (other : Int)).fmod 2) * (-1) * matF f n (List.range n) * matF f n ((List.range n).filter (fun i => ((i : Int) != (one : Int) && (i : Int) != (other : Int)))) = lmF n f one other := by
            unfold lmF
            rw [if_neg ho, if_neg hoo, if_neg hoo2, e2, eqf2]
          exact ⟨_, _, _, rfl, rfl, fun b o e => k₁₁ _ _ (F₉.keep b o e), _, congrArg (fun z => Value.int z _) ev⟩
end
end Mine

end
noncomputable section
namespace Mine
open PySem PySem.W PySem.Calls PyProof.Rows
open PySem.Builtin.Int (intBits)

/-- the sum over all ways to lay pieces -/
noncomputable def laidF (wide : Nat) (ly st : Int) : Nat → List Nat → Int
  | _, [] => 1
  | 0, _ :: _ => 0
  | m + 1, x :: xs => (if xs.contains (x + 1) && (x + 1) % wide != 0 then ly * laidF wide ly st m (xs.filter (fun k => k != x + 1)) else 0) +
      (if xs.contains (x + wide) then st * laidF wide ly st m (xs.filter (fun k => k != x + wide)) else 0)

section
variable {prog : Program} {w : World} {A : Around} {E : Value → Shared → Prop} {s : Shared} {env : Env} {mg mb : Str → Option Value}

set_option maxHeartbeats 1000000 in
/-- [x for x in l if cnd] over a list of ints -/
theorem list_comp {elt le : Expr} {x : Str} {px pos : Pos} {ifs : List Expr} {scope : Scope} {cl : List (Str × Addr)} {l : Addr} {vs : List Value} {ns : List Int} {Q : Value → Shared → Prop} (P : Int → Bool) (G : Int → Int)
    (hh : A.handled = none) (hl : s.heap.IsList l vs.toArray) (hi : IntsAre vs ns) (hn : ns.length < 1000)
    (hle : ∀ Q' : Value → Shared → Prop, Q' (.ref l) s → wpAny (model prog w) A (eval le env) Q' E s)
    (hclos : closureFor scope env = pure cl) (hcell : ∀ y ∈ scope.names, y.2 ≠ .cell) (hkind : scope.kind = .function)
    (hnames : ∀ y ∈ scope.names, y.2 = .local → scope.names.lookup y.1 = some .local) (hx : scope.names.lookup x = some .local)
    (tests : ∀ (C : Addr) (i : Int) (s₃ : Shared) m₃ t E', s₃.heap.Ns C m₃ → m₃ x = some (.int i t) → Ext s.heap s₃.heap →
      Tests prog w A ifs (compEnvC scope cl C env) (fun ok s₄ => ok = P i ∧ Keeps s₃ s₄) E' s₃)
    (elts : ∀ (C : Addr) (i : Int) (s₃ : Shared) m₃ t E', P i = true → s₃.heap.Ns C m₃ → m₃ x = some (.int i t) → Ext s.heap s₃.heap →
      wpAny (model prog w) A (eval elt (compEnvC scope cl C env)) (fun y s₄ => (∃ t, y = .int (G i) t) ∧ Keeps s₃ s₄) E' s₃)
    (h : ∀ D h' tk ys, s.heap.get? D = none → h'.IsList D (ys : List Value).toArray → IntsAre ys ((ns.filter P).map G) → Ext s.heap h' → Q (.ref D) { s with heap := h', toks := tk })
    (hs : ∀ x, foldedSetIterable le env x = pure x := by intro _; rfl) :
    wpAny (model prog w) A (eval (.ListComp elt [⟨.Name x px, le, ifs, 0⟩] scope pos) env) Q E s := by
  refine wpAny_ListComp_free (pI P) (fI G) hclos hcell hkind hnames hx (hle _ ?_) hs
  refine wpAny_pyIter_list hl ?_
  obtain ⟨otop, hotop, _⟩ := id hl
  have hlt : ∀ b o, s.heap.get? b = some o → b ∉ [s.heap.objs.size] := fun b o e hm => Nat.lt_irrefl _ ((List.mem_singleton.mp hm) ▸ Heap.lt_size e)
  have kp₀ : ∀ {o : Obj}, Ext s.heap (s.heap.push o) := fun b o e => Heap.get?_push_of_some _ e
  have hvl := hi.length
  have vi : ∀ (i : Nat) (v : Value), vs.toArray[i]? = some v → ∃ k t, ns[i]? = some k ∧ v = .int k t := fun i v hv => by
    have hv' : vs[i]? = some v := by simpa using hv
    have hlt : i < ns.length := by rw [← hvl]; exact (List.getElem?_eq_some_iff.mp hv').1
    obtain ⟨t, ht⟩ := hi.get i _ (List.getElem?_eq_getElem hlt)
    rw [ht] at hv'
    exact ⟨_, t, List.getElem?_eq_getElem hlt, (Option.some.inj hv').symm⟩
  refine ⟨_, _, _, _, _, _, rfl, Walks.list hh s.heap.objs.size l (Nat.ne_of_lt (Heap.lt_size hotop)) _, by rw [sizeLine_eq]; simp; omega, ⟨⟨_, Heap.get?_push_size _ rfl, rfl, rfl⟩, IsList.ext hl fun _ _ e => Heap.get?_push_of_some _ e⟩, ?_, ⟨?_, ?_⟩, ?_⟩
  · intro b hb
    rw [show ({ s with heap := s.heap.push { cls := .type "list_iterator", data := .fields #[.ref l, .int 0 0] } } : Shared).heap.objs.size = s.heap.objs.size + 1 from Heap.size_push ..]
    rcases List.mem_cons.mp hb with rfl | hb
    · exact Nat.lt_succ_self _
    · rw [List.mem_singleton.mp hb]; exact Nat.lt_succ_of_lt (Heap.lt_size hotop)
  · intro C i v s₃ m₃ E' hC hv hn₃ hm hkp htk
    obtain ⟨k, t, hk, rfl⟩ := vi i v hv
    exact tests C k s₃ m₃ t E' hn₃ hm fun b o e => hkp b o (hlt b o e) (kp₀ b o e)
  · intro C i v s₃ m₃ E' hC hv hp hn₃ hm hkp htk
    obtain ⟨k, t, hk, rfl⟩ := vi i v hv
    refine wpAny_mono (elts C k s₃ m₃ t E' hp hn₃ hm fun b o e => hkp b o (hlt b o e) (kp₀ b o e)) (fun y s₄ h₄ => ?_) fun _ _ e => e
    obtain ⟨⟨t', rfl⟩, hk⟩ := h₄
    exact ⟨fun j u e => (by cases e; exact ⟨_, rfl⟩), hk⟩
  · intro D h' tk ys ws hD hl' hpl hlen hP hF hkp
    have hD' : s.heap.get? D = none := by
      cases q : s.heap.get? D with
      | none => rfl
      | some o => exact absurd (hD.symm.trans (kp₀ D o q)) (by simp)
    refine h D h' tk ys.toList hD' (by simpa using hl') (pairInts (vs := ws) (ints_of_get (by rw [hlen]; simpa using hvl) fun j v k hv hk => ?_) hF) fun b o e => hkp b o (hlt b o e) (kp₀ b o e)
    obtain ⟨k', t, hk', rfl⟩ := vi j v (hP j v hv)
    rw [hk] at hk'; cases hk'
    exact ⟨t, rfl⟩

theorem natsI_filter2 (l : List Nat) (c : Nat) : ((natsI l).filter (fun k => k != (c : Int))).map id = natsI (l.filter (fun k => k != c)) := by
  unfold natsI
  rw [List.map_id, List.filter_map]
  congr 1
  refine List.filter_congr fun x _ => ?_
  rw [Bool.eq_iff_iff]; simp; omega

theorem inB (vs : List Value) (l : List Nat) (c : Nat) (hi : IntsAre vs (natsI l)) : (vs.toArray.any fun y => match y with | .int k _ => k == (c : Int) | _ => false) = l.contains c := by
  rw [List.any_toArray]
  induction l generalizing vs with
  | nil => cases hi; rfl
  | cons x xs ih =>
    cases hi with
    | cons n t hi =>
      rw [List.any_cons, ih _ hi, List.contains_cons]
      congr 1
      rw [Bool.eq_iff_iff]; simp; omega

/-- x in l -/
theorem in_l {l : Addr} {vs : List Value} {ns : List Nat} {c : Int} {k : Nat} {t : Tok} {b : Bool} {Q : Value → Shared → Prop} (hl : s.heap.IsList l vs.toArray) (hi : IntsAre vs (natsI ns)) (hc : c = (k : Int)) (hb : ns.contains k = b) (h : Q (.bool b) s) :
    wpAny (model prog w) A (compareOp .In (.int c t) (.ref l)) Q E s := by
  subst hc hb
  refine SeqAt.in_listAt (fun y => match y with | .int k' _ => k' == (k : Int) | _ => false) hl (fun y hy => ?_) (by rw [inB vs ns k hi]; exact h)
  have hy' : y ∈ vs := by simpa using hy
  obtain ⟨i, hiy⟩ := List.mem_iff_getElem?.mp hy'
  have hlt : i < (natsI ns).length := by rw [← hi.length]; exact (List.getElem?_eq_some_iff.mp hiy).1
  obtain ⟨t', ht⟩ := hi.get i _ (List.getElem?_eq_getElem hlt)
  rw [ht] at hiy
  cases hiy
  exact SeqAt.EqAt.int_int _ _ _ _
end
end Mine

end
noncomputable section
namespace Mine
open PySem PySem.W PySem.Calls PyProof.Rows
open PySem.Builtin.Int (intBits)

structure LaidSt (g : Heap) (L : Addr) (h : Heap) (m : Str → Option Value) (wide x : Nat) (ly st : Int) (D : Addr) (rest : List Value) (k : Int) : Prop where
  fr : Fr g L h m
  cw : ∃ t, h.IsCell (L + 1) (some (.int wide t))
  cf : ∃ t, h.IsCell (L + 2) (some (.int x t))
  er : m (Str.ofString "rest") = some (.ref D)
  lst : h.IsList D rest.toArray
  el : ∃ t, m (Str.ofString "lying") = some (.int ly t)
  es : ∃ t, m (Str.ofString "standing") = some (.int st t)
  ef : ∃ t, m (Str.ofString "found") = some (.int k t)

section
variable {prog : Program} {w : World} {A : Around} {E : Value → Shared → Prop} {s : Shared} {env : Env} {mg mb : Str → Option Value}

set_option maxHeartbeats 2000000 in
theorem laid_spec {wide : Nat} {ly st : Int} {fa : Addr} (hf : mg (item 12).name = some (.ref fa)) (hw : 0 < wide ∧ wide < 100) (hly : intBits ly ≤ 60) (hst : intBits st ≤ 60) :
    ∀ (m : Nat) (A : Around) (s : Shared) (r : Addr) (vs : List Value) (l : List Nat) (tw tl ts : Tok), l.length ≤ m → TopF mg mb s.heap → A.handled = none → A.depth + m + 8 < recursionLimit → A.units + 3 * m + 100 < cLine →
      s.heap.IsList r vs.toArray → IntsAre vs (natsI l) → l.length < 100 →
      codeAny (model prog w) A (.call (.ref fa) ⟨[.ref r, .int wide tw, .int ly tl, .int st ts], []⟩) (Ret s fun v h' => Ext s.heap h' ∧ ∃ t, v = .int (laidF wide ly st m l) t) s := by
  intro m
  induction m with
  | zero =>
    intro A s r vs l tw tl ts hm T hh hd hu hl hi hlen
    obtain rfl : l = [] := List.eq_nil_of_length_eq_zero (by omega)
    obtain ⟨fa', o, pm, doc, cd, h1, h2, h3, h4⟩ := T.made (item 12) (by simp [items])
    rw [hf] at h1; cases h1
    refine call_cells_ret (by omega) h2 h3 T.nolimit h4 (binds := [(Str.ofString "free", .ref r), (Str.ofString "wide", .int wide tw), (Str.ofString "lying", .int ly tl), (Str.ofString "standing", .int st ts)]) (by rfl)
      (by intro n x hx; simp only [List.mem_cons, List.not_mem_nil, or_false] at hx; rcases hx with rfl | rfl | rfl | rfl; exact .inl rfl; exact .inr ⟨by rfl, by rfl⟩; exact .inl rfl; exact .inl rfl) (fun h₁ tk₁ F hcs => ?_)
    try dsimp only
    cases hi
    refine wpAny_execs_cons (wpAny_If (wpAny_isTrue_Compare1 (nm F.ns (by rfl) (list_nil ?_))))
    refine ke_eq_ints (xs := []) (ys := []) (ns := []) (ms := []) (IsList.ext hl fun b o e => Heap.get?_push_of_some _ (F.keep b o e)) ⟨_, Heap.get?_push_size _ rfl, rfl, 0, rfl⟩ .nil .nil (by show A.units + 3 + 64 < cLine; omega) (wpAny_truthy_bool ?_)
    refine ite_bt (decide_eq_true rfl) ?_
    try dsimp only
    refine wpAny_execs_cons (wpAny_Return_some (wpAny_Constant_int ?_))
    exact ⟨_, _, _, rfl, rfl, fun b o e => Heap.get?_push_of_some _ (F.keep b o e), _, rfl⟩
  | succ m ih =>
    intro A s r vs l tw tl ts hm T hh hd hu hl hi hlen
    obtain ⟨fa', o, pm, doc, cd, h1, h2, h3, h4⟩ := T.made (item 12) (by simp [items])
    rw [hf] at h1; cases h1
    refine call_cells_ret (by omega) h2 h3 T.nolimit h4 (binds := [(Str.ofString "free", .ref r), (Str.ofString "wide", .int wide tw), (Str.ofString "lying", .int ly tl), (Str.ofString "standing", .int st ts)]) (by rfl)
      (by intro n x hx; simp only [List.mem_cons, List.not_mem_nil, or_false] at hx; rcases hx with rfl | rfl | rfl | rfl; exact .inl rfl; exact .inr ⟨by rfl, by rfl⟩; exact .inl rfl; exact .inl rfl) (fun h₁ tk₁ F hcs => ?_)
    try dsimp only
    have c1 : h₁.IsCell (s.heap.objs.size + 1) (some (.int wide tw)) := hcs (Str.ofString "wide") (s.heap.objs.size + 1) (by rfl)
    have c2 : h₁.IsCell (s.heap.objs.size + 2) none := hcs (Str.ofString "first") (s.heap.objs.size + 2) (by rfl)
    clear hcs
    refine wpAny_execs_cons (wpAny_If (wpAny_isTrue_Compare1 (nm F.ns (by rfl) (list_nil ?_))))
    refine ke_eq_ints (xs := vs) (ys := []) (ns := natsI l) (ms := []) (IsList.ext hl fun b o e => Heap.get?_push_of_some _ (F.keep b o e)) ⟨_, Heap.get?_push_size _ rfl, rfl, 0, rfl⟩ hi .nil (by show A.units + 3 + 64 < cLine; omega) (wpAny_truthy_bool ?_)
    have F₁ := F.push { cls := .type "list", data := .seq ([] : List Value).toArray }
    cases l with
    | nil =>
      refine ite_bt (decide_eq_true rfl) ?_
      try dsimp only
      refine wpAny_execs_cons (wpAny_Return_some (wpAny_Constant_int ?_))
      exact ⟨_, _, _, rfl, rfl, F₁.keep, _, rfl⟩
    | cons x xs =>
      have e0 : decide (natsI (x :: xs) = []) = false := by simp [natsI]
      refine ite_bf e0 ?_
      try dsimp only
      refine wpAny_execs_nil ?_
      have hvl : vs.length = xs.length + 1 := by rw [hi.length]; simp [natsI]
      simp only [List.length_cons] at hm hlen
      have ke : Ext h₁ (h₁.push { cls := .type "list", data := .seq ([] : List Value).toArray }) := fun b o e => Heap.get?_push_of_some _ e
      have g1 := IsCell.sk c1 (.of_ext ke)
      have g2 := IsCell.sk c2 (.of_ext ke)
      obtain ⟨tx, hvx⟩ := hi.get 0 (x : Int) (by rfl)
      refine wpAny_execs_cons (Assign_Tuple ?_)
      refine Tuple_ (args_cons (Subscript_ (nm F₁.ns (by rfl) (wpAny_Constant_int (item_l (j := 0) (IsList.ext hl F₁.keep) rfl (by decide) hvx ?_)))))
      refine args_cons (slice1 (a := 1) (IsList.ext hl F₁.keep) (by omega) (by omega) (fun Q' q => nm F₁.ns (by rfl) q) (fun Q' q => wpAny_Constant_int (q _ _ _ rfl)) fun D h₂ tk₂ k₂ hD hnD => ?_)
      try dsimp only
      refine args_cons (wpAny_Constant_int (args_nil (newTuple_ ?_)))
      have F₂ : Fr s.heap s.heap.objs.size h₂ _ := ⟨F₁.ns.keeps k₂, fun b o e => k₂ _ _ (F₁.keep b o e), F₁.above⟩
      refine assign_Tuple_tuple hh (items := [Value.int (x : Int) tx, Value.ref D, Value.int 0 tk₂].toArray) ⟨_, Heap.get?_push_size _ rfl, rfl, 0, rfl⟩ (by rfl) (by rfl) fun h₃ he => ?_
      have k₃ : Ext h₂ h₃ := fun b o e => he b o (Nat.ne_of_lt (by
        show b < (h₂.push _).objs.size
        rw [Heap.size_push]; exact Nat.lt_succ_of_lt (Heap.lt_size e))) (Heap.get?_push_of_some _ e)
      have F₃ : Fr s.heap s.heap.objs.size h₃ _ := ⟨F₂.ns.keeps k₃, fun b o e => k₃ _ _ (F₂.keep b o e), F₂.above⟩
      have g1 := IsCell.sk (IsCell.sk g1 (.of_ext k₂)) (.of_ext k₃)
      have g2 := IsCell.sk (IsCell.sk g2 (.of_ext k₂)) (.of_ext k₃)
      have hD₃ : h₃.IsList D (vs.drop 1).toArray := ⟨_, k₃ _ _ hD, rfl, 0, rfl⟩
      refine assignInOrder_cons (assign_Name (wpAny_storeName_cell (c := s.heap.objs.size + 2) (v₀ := none) (by rfl) (by rfl) (by rfl) g2 fun h₄ hc₄ hs₄ => ?_))
      try dsimp only
      have nL : @Ne Nat s.heap.objs.size (s.heap.objs.size + 2) := by omega
      have F₄ : Fr s.heap s.heap.objs.size h₄ _ := ⟨F₃.ns.sameBut hs₄ nL, fun b o e => (hs₄.2 b (by have h1 : @LT.lt Nat _ b s.heap.objs.size := Heap.lt_size e; exact (show @Ne Nat b (s.heap.objs.size + 2) by omega))).trans (F₃.keep b o e), F₃.above⟩
      have g1 := g1.sameBut hs₄ (show @Ne Nat (s.heap.objs.size + 1) (s.heap.objs.size + 2) by omega)
      have hD₄ : h₄.IsList D (vs.drop 1).toArray := IsList.sb hD₃ hs₄ (by
        rintro rfl
        obtain ⟨o1, e1, _, n1, d1⟩ := hD₃
        obtain ⟨o2, e2, d2⟩ := g2
        rw [e1] at e2; cases e2; rw [d1] at d2; cases d2)
      refine assignInOrder_cons (assign_Name (stL F₄.ns fun h₅ hn₅ hs₅ => ?_))
      try dsimp only
      have F₅ := F₄.set hn₅ hs₅
      have dk₅ := DK.of_ns F₄.ns hs₅
      refine assignInOrder_cons (assign_Name (stL F₅.ns fun h₆ hn₆ hs₆ => ?_))
      try dsimp only
      have F₆ := F₅.set hn₆ hs₆
      have dk₆ := dk₅.trans (DK.of_ns F₅.ns hs₆)
      refine assignInOrder_nil ?_
      have hdrop : IntsAre (vs.drop 1) (natsI xs) := by simpa [natsI] using IntsAre.drop 1 hi
      have S : ∃ m₆, LaidSt s.heap s.heap.objs.size h₆ m₆ wide x ly st D (vs.drop 1) 0 :=
        ⟨_, F₆, ⟨_, IsCell.dk g1 dk₆⟩, ⟨_, IsCell.dk hc₄ dk₆⟩, (if_neg (by decide)).trans (if_pos rfl), IsList.dk hD₄ dk₆, ⟨_, (if_neg (by decide)).trans ((if_neg (by decide)).trans (by rfl))⟩, ⟨_, (if_neg (by decide)).trans ((if_neg (by decide)).trans (by rfl))⟩, ⟨_, if_pos rfl⟩⟩
      refine Exists.elim S fun m₆ S => ?_
      clear F₆ F₅ F₄ F₃ F₂ F₁ F g1 g2 hD₄ hD₃ hc₄ he hn₆ hs₆ hn₅ hs₅ hs₄ dk₅ dk₆ k₃ k₂ ke hD hnD
      have hxl : xs.length ≤ m := by omega
      have hvd : (vs.drop 1).length < 1000 := by simp; omega
      have recur : ∀ (S' : Shared) (A' : Around) (D' : Addr) (ys : List Value) (c : Nat) t1 t2 t3 fb, mg (item 12).name = some (.ref fb) → TopF mg mb S'.heap → A'.handled = none → A'.depth = A.depth + 1 → A'.units = A.units + 3 → S'.heap.IsList D' ys.toArray → IntsAre ys (natsI (xs.filter fun k => k != c)) →
          codeAny (model prog w) A' (.call (.ref fb) ⟨[.ref D', .int wide t1, .int ly t2, .int st t3], []⟩) (Ret S' fun v h' => Ext S'.heap h' ∧ ∃ t, v = .int (laidF wide ly st m (xs.filter fun k => k != c)) t) S' := by
        intro S' A' D' ys c t1 t2 t3 fb hfb T' hh' hd' hu' hl' hi'
        rw [hf] at hfb; cases hfb
        have hle := List.length_filter_le (fun k => k != c) xs
        exact ih A' S' D' ys (xs.filter fun k => k != c) t1 t2 t3 (by omega) T' hh' (by omega) (by omega) hl' hi' (by omega)
      have e1 : ((x : Int) + 1) = ((x + 1 : Nat) : Int) := by push_cast; rfl
      have e2 : ((x : Int) + (wide : Int)) = ((x + wide : Nat) : Int) := by push_cast; rfl
      have em : ((x : Int) + 1).fmod (wide : Int) = (((x + 1) % wide : Nat) : Int) := by rw [e1]; exact fmodNat (x + 1) wide
      have hw0 : ((wide : Int)) ≠ 0 := by omega
      have en : (((x : Int) + 1).fmod (wide : Int) != 0) = ((x + 1) % wide != 0) := by
        rw [em, Bool.eq_iff_iff]; generalize (x + 1) % wide = q; simp
      refine wpAny_execs_cons (wpAny_mono (Q := fun f s' => f = .next ∧ ∃ h' tk' m', s' = { s with heap := h', toks := tk' } ∧ LaidSt s.heap s.heap.objs.size h' m' wide x ly st D (vs.drop 1) (if xs.contains (x + 1) && (x + 1) % wide != 0 then ly * laidF wide ly st m (xs.filter (fun k => k != x + 1)) else 0)) ?_ (fun f s' q => ?_) fun _ _ e => e)
      · refine S.cf.elim fun tx cf => ?_
        refine S.cw.elim fun tw cw => ?_
        by_cases hc1 : xs.contains (x + 1) = true
        · refine wpAny_If (isTrue_and (wpAny_isTrue_Compare1 (wpAny_BinOp (nmC (c := s.heap.objs.size + 2) (by rfl) cf (wpAny_Constant_int (add_int (nm S.fr.ns S.er (in_l S.lst hdrop e1 hc1 (wpAny_truthy_bool (ite_t ?_))))))))))
          by_cases hc2 : ((x + 1) % wide != 0) = true
          · refine isTrue_and (wpAny_isTrue_Compare1 (wpAny_BinOp (wpAny_BinOp (nmC (c := s.heap.objs.size + 2) (by rfl) cf (wpAny_Constant_int (add_int (nmC (c := s.heap.objs.size + 1) (by rfl) cw (mod_int' hw0 (wpAny_Constant_int (ne_intB (en.trans hc2) (wpAny_truthy_bool (ite_t (isTrue_and_nil (ite_t ?_))))))))))))))
            refine S.ef.elim fun tf ef => ?_
            refine S.el.elim fun tl el => ?_
            refine S.es.elim fun ts es => ?_
            refine wpAny_execs_cons (wpAny_Assign_Name (wpAny_BinOp (nm S.fr.ns ef (wpAny_BinOp (nm S.fr.ns el ?_)))))
            have T₆ := T.ext S.fr.keep
            refine eval_fn (item 12) (by simp [items]) (by rfl) T₆ (fun fb hfb => ?_)
            try dsimp only
            refine args_cons ?_
            refine list_comp (fun k => k != ((x + 1 : Nat) : Int)) id hh S.lst hdrop (by simp [natsI]; omega) (fun Q' q => nm S.fr.ns S.er q) (cl := [(Str.ofString "first", s.heap.objs.size + 2)])
              (by rfl) (by decide) (by rfl) (by decide) (by rfl) ?_ ?_ ?_
            · intro C i s₃ m₃ t E' hn₃ hm kp
              refine wpAny_tests_one (wpAny_isTrue_Compare1 (nm hn₃ hm (wpAny_BinOp (nmC (c := s.heap.objs.size + 2) (by rfl) (IsCell.sk cf (.of_ext kp)) (wpAny_Constant_int (add_int (ne_int (wpAny_truthy_bool ⟨by rw [e1], _, _, rfl, fun _ _ e => e⟩))))))))
            · intro C i s₃ m₃ t E' hp hn₃ hm kp
              exact nm hn₃ hm ⟨⟨_, rfl⟩, _, _, rfl, fun _ _ e => e⟩
            · intro D₂ h₇ tk₇ ys hnD₂ hl₂ hi₂ k₇
              rw [natsI_filter2] at hi₂
              have F₇ : Fr s.heap s.heap.objs.size h₇ _ := ⟨S.fr.ns.keeps k₇, fun b o e => k₇ _ _ (S.fr.keep b o e), S.fr.above⟩
              have cf₇ := IsCell.sk cf (.of_ext k₇)
              have cw₇ := IsCell.sk cw (.of_ext k₇)
              have lst₇ := IsList.ext S.lst k₇
              refine args_cons (nmC (c := s.heap.objs.size + 1) (by rfl) cw₇ (args_cons (nm F₇.ns el (args_cons (nm F₇.ns es (args_nil ⟨k₇, ?_⟩))))))
              refine call_of (recur _ _ D₂ ys (x + 1) _ _ _ fb hfb (T.ext F₇.keep) hh rfl rfl hl₂ hi₂) fun v h₈ tk₈ hv => ?_
              try dsimp only
              obtain ⟨k₈, t₈, rfl⟩ := hv
              have F₈ : Fr s.heap s.heap.objs.size h₈ _ := ⟨F₇.ns.keeps k₈, fun b o e => k₈ _ _ (F₇.keep b o e), F₇.above⟩
              have cf₈ := IsCell.sk cf₇ (.of_ext k₈)
              have cw₈ := IsCell.sk cw₇ (.of_ext k₈)
              have lst₈ := IsList.ext lst₇ k₈
              refine mul_int ?_ (.of_left (by omega))
              refine add_int ?_
              refine stL F₈.ns (fun h₉ hn₉ hs₉ => wpAny_execs_nil ?_)
              have dk₉ := DK.of_ns F₈.ns hs₉
              have F₉ := F₈.set hn₉ hs₉
              have ev : (0 : Int) + ly * laidF wide ly st m (xs.filter (fun k => k != x + 1)) = (if xs.contains (x + 1) && (x + 1) % wide != 0 then ly * laidF wide ly st m (xs.filter (fun k => k != x + 1)) else 0) := by
                rw [if_pos (by rw [hc1, hc2]; rfl), Int.zero_add]
              exact ⟨rfl, _, _, _, rfl, F₉, ⟨_, IsCell.dk cw₈ dk₉⟩, ⟨_, IsCell.dk cf₈ dk₉⟩, (if_neg (by decide)).trans S.er, IsList.dk lst₈ dk₉, ⟨_, (if_neg (by decide)).trans el⟩, ⟨_, (if_neg (by decide)).trans es⟩, _, (if_pos rfl).trans (congrArg (fun z => some (Value.int z _)) ev)⟩
          · replace hc2 := Bool.eq_false_iff.mpr hc2
            have ev : (0 : Int) = (if xs.contains (x + 1) && (x + 1) % wide != 0 then ly * laidF wide ly st m (xs.filter (fun k => k != x + 1)) else 0) := by
              rw [hc1, hc2]; rfl
            refine isTrue_and (wpAny_isTrue_Compare1 (wpAny_BinOp (wpAny_BinOp (nmC (c := s.heap.objs.size + 2) (by rfl) cf (wpAny_Constant_int (add_int (nmC (c := s.heap.objs.size + 1) (by rfl) cw (mod_int' hw0 (wpAny_Constant_int (ne_intB (en.trans hc2) (wpAny_truthy_bool (ite_f (ite_f (wpAny_execs_nil ?_))))))))))))))
            exact ⟨rfl, _, _, _, rfl, S.fr, ⟨_, cw⟩, ⟨_, cf⟩, S.er, S.lst, S.el, S.es, S.ef.elim fun t e => ⟨t, e.trans (congrArg (fun z => some (Value.int z _)) ev)⟩⟩
        · replace hc1 := Bool.eq_false_iff.mpr hc1
          have ev : (0 : Int) = (if xs.contains (x + 1) && (x + 1) % wide != 0 then ly * laidF wide ly st m (xs.filter (fun k => k != x + 1)) else 0) := by
            rw [hc1]; rfl
          refine wpAny_If (isTrue_and (wpAny_isTrue_Compare1 (wpAny_BinOp (nmC (c := s.heap.objs.size + 2) (by rfl) cf (wpAny_Constant_int (add_int (nm S.fr.ns S.er (in_l S.lst hdrop e1 hc1 (wpAny_truthy_bool (ite_f (ite_f (wpAny_execs_nil ?_))))))))))))
          exact ⟨rfl, _, _, _, rfl, S.fr, ⟨_, cw⟩, ⟨_, cf⟩, S.er, S.lst, S.el, S.es, S.ef.elim fun t e => ⟨t, e.trans (congrArg (fun z => some (Value.int z _)) ev)⟩⟩
      · obtain ⟨rfl, h₁', tk₁', m₁', rfl, S₁⟩ := q
        clear S
        generalize hK1 : (if xs.contains (x + 1) && (x + 1) % wide != 0 then ly * laidF wide ly st m (xs.filter (fun k => k != x + 1)) else 0) = K1 at S₁
        refine wpAny_execs_cons (wpAny_mono (Q := fun f s' => f = .next ∧ ∃ h' tk' m', s' = { s with heap := h', toks := tk' } ∧ LaidSt s.heap s.heap.objs.size h' m' wide x ly st D (vs.drop 1) (K1 + (if xs.contains (x + wide) then st * laidF wide ly st m (xs.filter (fun k => k != x + wide)) else 0))) ?_ (fun f s' q => ?_) fun _ _ e => e)
        · refine S₁.cf.elim fun tx cf => ?_
          refine S₁.cw.elim fun tw cw => ?_
          by_cases hc1 : xs.contains (x + wide) = true
          · refine wpAny_If (wpAny_isTrue_Compare1 (wpAny_BinOp (nmC (c := s.heap.objs.size + 2) (by rfl) cf (nmC (c := s.heap.objs.size + 1) (by rfl) cw (add_int (nm S₁.fr.ns S₁.er (in_l S₁.lst hdrop e2 hc1 (wpAny_truthy_bool (ite_t ?_)))))))))
            refine S₁.ef.elim fun tf ef => ?_
            refine S₁.el.elim fun tl el => ?_
            refine S₁.es.elim fun ts es => ?_
            refine wpAny_execs_cons (wpAny_Assign_Name (wpAny_BinOp (nm S₁.fr.ns ef (wpAny_BinOp (nm S₁.fr.ns es ?_)))))
            have T₆ := T.ext S₁.fr.keep
            refine eval_fn (item 12) (by simp [items]) (by rfl) T₆ (fun fb hfb => ?_)
            try dsimp only
            refine args_cons ?_
            refine list_comp (fun k => k != ((x + wide : Nat) : Int)) id hh S₁.lst hdrop (by simp [natsI]; omega) (fun Q' q => nm S₁.fr.ns S₁.er q) (cl := [(Str.ofString "wide", s.heap.objs.size + 1), (Str.ofString "first", s.heap.objs.size + 2)])
              (by rfl) (by decide) (by rfl) (by decide) (by rfl) ?_ ?_ ?_
            · intro C i s₃ m₃ t E' hn₃ hm kp
              refine wpAny_tests_one (wpAny_isTrue_Compare1 (nm hn₃ hm (wpAny_BinOp (nmC (c := s.heap.objs.size + 2) (by rfl) (IsCell.sk cf (.of_ext kp)) (nmC (c := s.heap.objs.size + 1) (by rfl) (IsCell.sk cw (.of_ext kp)) (add_int (ne_int (wpAny_truthy_bool ⟨by rw [e2], _, _, rfl, fun _ _ e => e⟩))))))))
            · intro C i s₃ m₃ t E' hp hn₃ hm kp
              exact nm hn₃ hm ⟨⟨_, rfl⟩, _, _, rfl, fun _ _ e => e⟩
            · intro D₂ h₇ tk₇ ys hnD₂ hl₂ hi₂ k₇
              rw [natsI_filter2] at hi₂
              have F₇ : Fr s.heap s.heap.objs.size h₇ _ := ⟨S₁.fr.ns.keeps k₇, fun b o e => k₇ _ _ (S₁.fr.keep b o e), S₁.fr.above⟩
              have cf₇ := IsCell.sk cf (.of_ext k₇)
              have cw₇ := IsCell.sk cw (.of_ext k₇)
              have lst₇ := IsList.ext S₁.lst k₇
              refine args_cons (nmC (c := s.heap.objs.size + 1) (by rfl) cw₇ (args_cons (nm F₇.ns el (args_cons (nm F₇.ns es (args_nil ⟨k₇, ?_⟩))))))
              refine call_of (recur _ _ D₂ ys (x + wide) _ _ _ fb hfb (T.ext F₇.keep) hh rfl rfl hl₂ hi₂) fun v h₈ tk₈ hv => ?_
              try dsimp only
              obtain ⟨k₈, t₈, rfl⟩ := hv
              have F₈ : Fr s.heap s.heap.objs.size h₈ _ := ⟨F₇.ns.keeps k₈, fun b o e => k₈ _ _ (F₇.keep b o e), F₇.above⟩
              have cf₈ := IsCell.sk cf₇ (.of_ext k₈)
              have cw₈ := IsCell.sk cw₇ (.of_ext k₈)
              have lst₈ := IsList.ext lst₇ k₈
              refine mul_int ?_ (.of_left (by omega))
              refine add_int ?_
              refine stL F₈.ns (fun h₉ hn₉ hs₉ => wpAny_execs_nil ?_)
              have dk₉ := DK.of_ns F₈.ns hs₉
              have F₉ := F₈.set hn₉ hs₉
              have ev : K1 + st * laidF wide ly st m (xs.filter (fun k => k != x + wide)) = K1 + (if xs.contains (x + wide) then st * laidF wide ly st m (xs.filter (fun k => k != x + wide)) else 0) := by
                rw [if_pos hc1]
              exact ⟨rfl, _, _, _, rfl, F₉, ⟨_, IsCell.dk cw₈ dk₉⟩, ⟨_, IsCell.dk cf₈ dk₉⟩, (if_neg (by decide)).trans S₁.er, IsList.dk lst₈ dk₉, ⟨_, (if_neg (by decide)).trans el⟩, ⟨_, (if_neg (by decide)).trans es⟩, _, (if_pos rfl).trans (congrArg (fun z => some (Value.int z _)) ev)⟩
          · replace hc1 := Bool.eq_false_iff.mpr hc1
            have ev : K1 = K1 + (if xs.contains (x + wide) then st * laidF wide ly st m (xs.filter (fun k => k != x + wide)) else 0) := by
              rw [hc1]; simp
            refine wpAny_If (wpAny_isTrue_Compare1 (wpAny_BinOp (nmC (c := s.heap.objs.size + 2) (by rfl) cf (nmC (c := s.heap.objs.size + 1) (by rfl) cw (add_int (nm S₁.fr.ns S₁.er (in_l S₁.lst hdrop e2 hc1 (wpAny_truthy_bool (ite_f (wpAny_execs_nil ?_))))))))))
            exact ⟨rfl, _, _, _, rfl, S₁.fr, ⟨_, cw⟩, ⟨_, cf⟩, S₁.er, S₁.lst, S₁.el, S₁.es, S₁.ef.elim fun t e => ⟨t, e.trans (congrArg (fun z => some (Value.int z _)) ev)⟩⟩
        · obtain ⟨rfl, h₂', tk₂', m₂', rfl, S₂⟩ := q
          refine S₂.ef.elim fun tf ef => ?_
          have ev : K1 + (if xs.contains (x + wide) then st * laidF wide ly st m (xs.filter (fun k => k != x + wide)) else 0) = laidF wide ly st (m + 1) (x :: xs) := by
            rw [← hK1]; rfl
          refine wpAny_execs_cons (wpAny_Return_some (nm S₂.fr.ns ef ?_))
          exact ⟨_, _, _, rfl, rfl, S₂.fr.keep, _, congrArg (fun z => Value.int z _) ev⟩
end
end Mine

end
noncomputable section
namespace Mine
abbrev Mx := Nat → Nat → Int
def d1 (A : Mx) : Int := A 0 0
def d2 (A : Mx) : Int := A 0 0 * A 1 1 - A 0 1 * A 1 0
def cut (A : Mx) (r : Nat) : Mx := fun i j => A (if i < r then i else i + 1) (j + 1)
def d3 (A : Mx) : Int := A 0 0 * d2 (cut A 0) - A 1 0 * d2 (cut A 1) + A 2 0 * d2 (cut A 2)
def d4 (A : Mx) : Int := A 0 0 * d3 (cut A 0) - A 1 0 * d3 (cut A 1) + A 2 0 * d3 (cut A 2) - A 3 0 * d3 (cut A 3)
def d5 (A : Mx) : Int := A 0 0 * d4 (cut A 0) - A 1 0 * d4 (cut A 1) + A 2 0 * d4 (cut A 2) - A 3 0 * d4 (cut A 3) + A 4 0 * d4 (cut A 4)
def st (A : Mx) : Mx := fun i j => A (i + 1) (j + 1) * A 0 0 - A (i + 1) 0 * A 0 (j + 1)
def scl (c : Int) (A : Mx) : Mx := fun i j => c * A i j
def swp (A : Mx) (r : Nat) : Mx := fun i j => if i = 0 then A r j else if i = r then A 0 j else A i j

theorem scl2 (c A) : d2 (scl c A) = c ^ 2 * d2 A := by unfold d2 scl; grind
theorem cut_scl (c A r) : cut (scl c A) r = scl c (cut A r) := rfl
theorem scl3 (c A) : d3 (scl c A) = c ^ 3 * d3 A := by unfold d3; simp only [cut_scl, scl2]; unfold scl; grind
theorem scl4 (c A) : d4 (scl c A) = c ^ 4 * d4 A := by unfold d4; simp only [cut_scl, scl3]; unfold scl; grind
theorem chio2 (A) : d2 A = d1 (st A) := by dsimp [d2, d1, st]; grind
theorem chio3 (A) : A 0 0 * d3 A = d2 (st A) := by dsimp [d3, d2, st, cut]; grind
theorem chio4 (A) : A 0 0 ^ 2 * d4 A = d3 (st A) := by dsimp [d4, d3, d2, st, cut]; grind
theorem chio5 (A) : A 0 0 ^ 3 * d5 A = d4 (st A) := by dsimp [d5, d4, d3, d2, st, cut]; grind
end Mine

end
noncomputable section
namespace Mine

def swp2 (A : Mx) (p q : Nat) : Mx := fun i j => A (if i = p then q else if i = q then p else i) j
def sh (k : Nat) (g : Mx) : Mx := fun i j => g (k + i) (k + j)
def dt : Nat → Mx → Int
  | 1, A => d1 A | 2, A => d2 A | 3, A => d3 A | 4, A => d4 A | 5, A => d5 A | _, _ => 1
def m3 (F : Mx) : Mx := fun i j => d3 fun r c => F (if r = 0 then 0 else if r = 1 then 1 else i + 2) (if c = 0 then 0 else if c = 1 then 1 else j + 2)
def m4 (F : Mx) : Mx := fun i j => d4 fun r c => F (if r = 3 then i + 3 else r) (if c = 3 then j + 3 else c)
theorem syl1 (F i j) : st (st F) i j = F 0 0 * m3 F i j := by dsimp [st, m3, d3, d2, cut]; grind
theorem syl2 (F i j) : st (m3 F) i j = st F 0 0 * m4 F i j := by dsimp [st, m3, m4, d4, d3, d2, cut]; grind
theorem sw2 (A) : d2 (swp2 A 0 1) = - d2 A := by dsimp [d2, swp2]; grind
theorem sw31 (A) : d3 (swp2 A 0 1) = - d3 A := by dsimp [d3, cut, d2, swp2]; grind
theorem sw32 (A) : d3 (swp2 A 0 2) = - d3 A := by dsimp [d3, cut, d2, swp2]; grind
theorem sw41 (A) : d4 (swp2 A 0 1) = - d4 A := by dsimp [d4, d3, cut, d2, swp2]; grind
theorem sw42 (A) : d4 (swp2 A 0 2) = - d4 A := by dsimp [d4, d3, cut, d2, swp2]; grind
theorem sw43 (A) : d4 (swp2 A 0 3) = - d4 A := by dsimp [d4, d3, cut, d2, swp2]; grind
theorem sw51 (A) : d5 (swp2 A 0 1) = - d5 A := by dsimp [d5, d4, d3, cut, d2, swp2]; grind
theorem sw52 (A) : d5 (swp2 A 0 2) = - d5 A := by dsimp [d5, d4, d3, cut, d2, swp2]; grind
theorem sw53 (A) : d5 (swp2 A 0 3) = - d5 A := by dsimp [d5, d4, d3, cut, d2, swp2]; grind
theorem sw54 (A) : d5 (swp2 A 0 4) = - d5 A := by dsimp [d5, d4, d3, cut, d2, swp2]; grind
theorem sw (m r A) (h1 : 0 < r) (h2 : r < m) (h3 : m ≤ 5) : dt m (swp2 A 0 r) = - dt m A := by
  have : (m = 2 ∧ r = 1) ∨ (m = 3 ∧ (r = 1 ∨ r = 2)) ∨ (m = 4 ∧ (r = 1 ∨ r = 2 ∨ r = 3)) ∨ (m = 5 ∧ (r = 1 ∨ r = 2 ∨ r = 3 ∨ r = 4)) := by omega
  rcases this with ⟨rfl, rfl⟩ | ⟨rfl, rfl | rfl⟩ | ⟨rfl, rfl | rfl | rfl⟩ | ⟨rfl, rfl | rfl | rfl | rfl⟩
  · exact sw2 A
  · exact sw31 A
  · exact sw32 A
  · exact sw41 A
  · exact sw42 A
  · exact sw43 A
  · exact sw51 A
  · exact sw52 A
  · exact sw53 A
  · exact sw54 A
theorem zcol (m A) (h : 0 < m) (h3 : m ≤ 5) (hz : ∀ i, i < m → A i 0 = 0) : dt m A = 0 := by
  have : m = 1 ∨ m = 2 ∨ m = 3 ∨ m = 4 ∨ m = 5 := by omega
  rcases this with rfl | rfl | rfl | rfl | rfl
  · exact hz 0 (by decide)
  · simp [dt, d2, hz 0, hz 1]
  · simp [dt, d3, hz 0, hz 1, hz 2]
  · simp [dt, d4, hz 0, hz 1, hz 2, hz 3]
  · simp [dt, d5, hz 0, hz 1, hz 2, hz 3, hz 4]
theorem chio (m A) (h3 : m ≤ 3) : A 0 0 ^ m * dt (m + 2) A = dt (m + 1) (st A) := by
  have : m = 0 ∨ m = 1 ∨ m = 2 ∨ m = 3 := by omega
  rcases this with rfl | rfl | rfl | rfl
  · rw [Int.pow_zero, Int.one_mul]; exact chio2 A
  · rw [Int.pow_one]; exact chio3 A
  · exact chio4 A
  · exact chio5 A
theorem scl_ (m A c) (h : 0 < m) (h3 : m ≤ 4) : dt m (scl c A) = c ^ m * dt m A := by
  have : m = 1 ∨ m = 2 ∨ m = 3 ∨ m = 4 := by omega
  rcases this with rfl | rfl | rfl | rfl
  · show c * A 0 0 = c ^ 1 * A 0 0; rw [Int.pow_one]
  · exact scl2 c A
  · exact scl3 c A
  · exact scl4 c A

def Inv : Nat → Int → Mx → Prop
  | 0, a, _ => a = 1
  | 1, a, A => ∃ F : Mx, a = F 0 0 ∧ A = st F
  | 2, a, A => ∃ F : Mx, a = st F 0 0 ∧ A = m3 F
  | _, _, _ => True

theorem inv1 {F : Mx} {r : Nat} : swp2 (st F) 0 r = st (swp2 F 1 (r + 1)) := by
  funext i j
  unfold st swp2
  have e1 : (if i + 1 = 1 then r + 1 else if i + 1 = r + 1 then 1 else i + 1) = (if i = 0 then r else if i = r then 0 else i) + 1 := by
    by_cases h : i = 0
    · subst h; simp
    · by_cases h2 : i = r
      · subst h2; simp [h]
      · simp [h, h2]
  have e2 : (if 0 = 1 then r + 1 else if 0 = r + 1 then 1 else 0) = 0 := by simp
  rw [e1, e2]
theorem inv2 {F : Mx} {r : Nat} : swp2 (m3 F) 0 r = m3 (swp2 F 2 (r + 2)) := by
  funext i j
  unfold m3 swp2
  refine congrArg d3 ?_
  funext x c
  have e1 : (if i + 2 = 2 then r + 2 else if i + 2 = r + 2 then 2 else i + 2) = (if i = 0 then r else if i = r then 0 else i) + 2 := by
    by_cases h : i = 0
    · subst h; simp
    · by_cases h2 : i = r
      · subst h2; simp [h]
      · simp [h, h2]
  by_cases h : x = 0
  · subst h; simp
  · by_cases h2 : x = 1
    · subst h2; simp
    · simp only [if_neg h, if_neg h2]; rw [e1]

theorem Inv.swap : ∀ {k : Nat} {a : Int} {A : Mx} (r : Nat) (h : Inv k a A), Inv k a (swp2 A 0 r)
  | 0, _, _, _, h => h
  | 1, _, _, r, ⟨F, h1, h2⟩ => ⟨swp2 F 1 (r + 1), by rw [h1]; simp [swp2], by rw [h2]; exact inv1⟩
  | 2, _, _, r, ⟨F, h1, h2⟩ => ⟨swp2 F 2 (r + 2), by rw [h1]; simp [swp2, st], by rw [h2]; exact inv2⟩
  | _ + 3, _, _, _, _ => trivial

/-- one step of Bareiss: the division is exact -/
theorem Inv.step : ∀ {k : Nat} {a : Int} {A : Mx} (h : Inv k a A) (ha : a ≠ 0) (hk : k < 3), ∃ B : Mx, (∀ i j, st A i j = a * B i j) ∧ Inv (k + 1) (A 0 0) B
  | 0, _, A, h, _, _ => ⟨st A, fun i j => by rw [show _ = (1 : Int) from h]; omega, ⟨A, rfl, rfl⟩⟩
  | 1, _, _, ⟨F, h1, h2⟩, _, _ => ⟨m3 F, fun i j => by rw [h2, h1]; exact syl1 F i j, ⟨F, by rw [h2], rfl⟩⟩
  | 2, _, _, ⟨F, h1, h2⟩, _, _ => ⟨m4 F, fun i j => by rw [h2, h1]; exact syl2 F i j, trivial⟩
  | _ + 3, _, _, _, _, h => absurd h (by omega)
theorem d2_congr {A B : Mx} (e : ∀ i j, i < 2 → j < 2 → A i j = B i j) : d2 A = d2 B := by
  unfold d2
  rw [e 0 0 (by decide) (by decide), e 1 1 (by decide) (by decide), e 0 1 (by decide) (by decide), e 1 0 (by decide) (by decide)]
theorem cut_congr {A B : Mx} {m : Nat} (r : Nat) (e : ∀ i j, i < m + 1 → j < m + 1 → A i j = B i j) : ∀ i j, i < m → j < m → cut A r i j = cut B r i j := fun i j hi hj => e _ _ (by split <;> omega) (by omega)
theorem d3_congr {A B : Mx} (e : ∀ i j, i < 3 → j < 3 → A i j = B i j) : d3 A = d3 B := by
  unfold d3
  rw [e 0 0 (by decide) (by decide), e 1 0 (by decide) (by decide), e 2 0 (by decide) (by decide), d2_congr (cut_congr 0 e), d2_congr (cut_congr 1 e), d2_congr (cut_congr 2 e)]
theorem d4_congr {A B : Mx} (e : ∀ i j, i < 4 → j < 4 → A i j = B i j) : d4 A = d4 B := by
  unfold d4
  rw [e 0 0 (by decide) (by decide), e 1 0 (by decide) (by decide), e 2 0 (by decide) (by decide), e 3 0 (by decide) (by decide), d3_congr (cut_congr 0 e), d3_congr (cut_congr 1 e), d3_congr (cut_congr 2 e), d3_congr (cut_congr 3 e)]
theorem d5_congr {A B : Mx} (e : ∀ i j, i < 5 → j < 5 → A i j = B i j) : d5 A = d5 B := by
  unfold d5
  rw [e 0 0 (by decide) (by decide), e 1 0 (by decide) (by decide), e 2 0 (by decide) (by decide), e 3 0 (by decide) (by decide), e 4 0 (by decide) (by decide), d4_congr (cut_congr 0 e), d4_congr (cut_congr 1 e), d4_congr (cut_congr 2 e), d4_congr (cut_congr 3 e), d4_congr (cut_congr 4 e)]
theorem dt_congr (m : Nat) (h : 0 < m) (h3 : m ≤ 5) {A B : Mx} (e : ∀ i j, i < m → j < m → A i j = B i j) : dt m A = dt m B := by
  have : m = 1 ∨ m = 2 ∨ m = 3 ∨ m = 4 ∨ m = 5 := by omega
  rcases this with rfl | rfl | rfl | rfl | rfl
  · exact e 0 0 (by decide) (by decide)
  · exact d2_congr e
  · exact d3_congr e
  · exact d4_congr e
  · exact d5_congr e

theorem pivF_spec {f : Mx} {c : Nat} : ∀ (m r : Nat), (pivF f c r m = none ∧ ∀ i, i < m → f (r + i) c = 0) ∨ ∃ q, pivF f c r m = some q ∧ r ≤ q ∧ q < r + m ∧ f q c ≠ 0
  | 0, r => .inl ⟨rfl, fun _ h => absurd h (by omega)⟩
  | m + 1, r => by
    unfold pivF
    by_cases e : f r c = 0
    · rw [if_pos e]
      rcases pivF_spec (f := f) (c := c) m (r + 1) with ⟨h1, h2⟩ | ⟨q, h1, h2, h3, h4⟩
      · refine .inl ⟨h1, fun i hi => ?_⟩
        cases i with
        | zero => exact e
        | succ i => rw [show r + (i + 1) = r + 1 + i from by omega]; exact h2 i (by omega)
      · exact .inr ⟨q, h1, by omega, by omega, h4⟩
    · rw [if_neg e]; exact .inr ⟨r, rfl, by omega, by omega, e⟩

theorem sh_step (g : Mx) (k : Nat) (a : Int) (i j : Nat) : sh (k + 1) (stepF g k a) i j = (st (sh k g) i j).fdiv a := by
  unfold sh stepF st
  rw [if_pos (by omega), if_pos (by omega)]
  rw [show k + 1 + i = k + (i + 1) from by omega, show k + 1 + j = k + (j + 1) from by omega]
  rfl
theorem sh_swap (g : Mx) (k r : Nat) (h : k < r) : sh k (swapF g r k) = swp2 (sh k g) 0 (r - k) := by
  funext i j
  unfold sh swapF swp2
  by_cases h1 : i = 0
  · subst h1
    simp only [Nat.add_zero, if_true, if_neg (show ¬ k = r from by omega)]
    rw [show k + (r - k) = r from by omega]
  · rw [if_neg h1]
    by_cases h2 : i = r - k
    · rw [if_pos h2, if_pos (by omega)]; rfl
    · rw [if_neg h2, if_neg (by omega), if_neg (by omega)]

/-- one turn with a pivot in place -/
theorem turn {k m : Nat} {g : Mx} {ahead D : Int} (hm : m ≤ 4) (hkm : k + m ≤ 4) (ha : ahead ≠ 0) (hp : g k k ≠ 0) (hD : D * ahead ^ m = dt (m + 1) (sh k g)) (hI : Inv k ahead (sh k g)) :
    (m = 0 ∧ D = g k k) ∨ (0 < m ∧ D * g k k ^ (m - 1) = dt m (sh (k + 1) (stepF g k ahead)) ∧ (Inv (k + 1) (g k k) (sh (k + 1) (stepF g k ahead)) ∨ m = 1)) := by
  have hp' : sh k g 0 0 = g k k := rfl
  cases m with
  | zero =>
    refine .inl ⟨rfl, ?_⟩
    rw [Int.pow_zero, Int.mul_one] at hD
    exact hD
  | succ m =>
    refine .inr ⟨by omega, ?_⟩
    have hc := chio m (sh k g) (by omega)
    rw [← hD, hp'] at hc
    -- g k k ^ m * (D * ahead ^ (m+1)) = dt (m+1) (st ..)
    have key : ∀ B : Mx, (∀ i j, i < m + 1 → j < m + 1 → st (sh k g) i j = ahead * B i j) → D * g k k ^ m = dt (m + 1) B := by
      intro B hB
      have e1 : dt (m + 1) (st (sh k g)) = ahead ^ (m + 1) * dt (m + 1) B := by
        rw [← scl_ (m + 1) B ahead (by omega) (by omega)]
        exact dt_congr _ (by omega) (by omega) hB
      rw [e1] at hc
      have hpow : ahead ^ (m + 1) ≠ 0 := Int.pow_ne_zero ha
      refine Int.eq_of_mul_eq_mul_left hpow ?_
      rw [← hc]
      simp only [Int.mul_comm, Int.mul_left_comm, Int.mul_assoc]
    by_cases hm1 : m = 0
    · subst hm1
      rw [Int.pow_zero, Int.one_mul, show (0 + 1 : Nat) = 1 from rfl, Int.pow_one] at hc
      have hB : ∀ i j, i < 0 + 1 → j < 0 + 1 → st (sh k g) i j = ahead * sh (k + 1) (stepF g k ahead) i j := by
        intro i j hi hj
        obtain rfl : i = 0 := by omega
        obtain rfl : j = 0 := by omega
        rw [sh_step, show st (sh k g) 0 0 = D * ahead from hc.symm, Int.mul_fdiv_cancel _ ha, Int.mul_comm]
      exact ⟨key _ hB, .inr rfl⟩
    · obtain ⟨B, hB, hI'⟩ := hI.step ha (by omega)
      have e : sh (k + 1) (stepF g k ahead) = B := by
        funext i j
        rw [sh_step, hB, Int.mul_comm, Int.mul_fdiv_cancel _ ha]
      rw [e]
      exact ⟨key B fun i j _ _ => hB i j, .inl hI'⟩

theorem go_ok (n : Nat) (hn : n ≤ 5) : ∀ (m k : Nat) (g : Mx) (sign ahead D : Int), n = k + (m + 1) → ahead ≠ 0 → D * ahead ^ m = dt (m + 1) (sh k g) → (Inv k ahead (sh k g) ∨ m = 0) → detGo n (m + 1) k g sign ahead = sign * D := by
  intro m
  induction m with
  | zero =>
    intro k g sign ahead D h ha hD _
    have e : dt (0 + 1) (sh k g) = g k k := rfl
    rw [e, Int.pow_zero, Int.mul_one] at hD
    unfold detGo
    rcases pivF_spec (f := g) (c := k) (n - k) k with ⟨h1, h2⟩ | ⟨q, h1, h2, h3, h4⟩
    · rw [h1, hD, show g k k = 0 from h2 0 (by omega), Int.mul_zero]
    · rw [h1]
      obtain rfl : q = k := by omega
      simp only [if_true, detGo, hD]
  | succ m ih =>
    intro k g sign ahead D h ha hD hI
    have hI : Inv k ahead (sh k g) := hI.resolve_right (by omega)
    unfold detGo
    rcases pivF_spec (f := g) (c := k) (n - k) k with ⟨h1, h2⟩ | ⟨q, h1, h2, h3, h4⟩
    · rw [h1]
      have z := zcol (m + 1 + 1) (sh k g) (by omega) (by omega) (fun i hi => h2 i (by omega))
      rw [z] at hD
      have hD0 : D = 0 := (Int.mul_eq_zero.mp hD).resolve_right (Int.pow_ne_zero ha)
      rw [hD0, Int.mul_zero]
    · rw [h1]
      by_cases hq : q = k
      · subst hq
        simp only [if_true]
        rcases turn (m := m + 1) (by omega) (by omega) ha h4 hD hI with ⟨h, _⟩ | ⟨_, t1, t2⟩
        · omega
        · exact ih (q + 1) _ sign _ D (by omega) h4 t1 (t2.imp_right (by omega))
      · simp only [if_neg hq]
        have hs := sh_swap g k q (by omega)
        have e2 : dt (m + 1 + 1) (sh k (swapF g q k)) = - dt (m + 1 + 1) (sh k g) := by
          rw [hs]; exact sw _ _ _ (by omega) (by omega) (by omega)
        have e3 : swapF g q k k k = g q k := by unfold swapF; rw [if_neg (Ne.symm hq), if_pos rfl]
        have hI' : Inv k ahead (sh k (swapF g q k)) := by rw [hs]; exact hI.swap _
        have hD' : (-D) * ahead ^ (m + 1) = dt (m + 1 + 1) (sh k (swapF g q k)) := by rw [e2, ← hD, Int.neg_mul]
        rcases turn (m := m + 1) (by omega) (by omega) ha (e3 ▸ h4) hD' hI' with ⟨h, _⟩ | ⟨_, t1, t2⟩
        · omega
        · rw [ih (k + 1) _ (-sign) _ (-D) (by omega) (e3 ▸ h4) t1 (t2.imp_right (by omega)), Int.neg_mul_neg]

theorem detF_dt (n : Nat) (h0 : 0 < n) (hn : n ≤ 5) (f : Mx) : detF n f = dt n f := by
  unfold detF
  obtain ⟨m, rfl⟩ : ∃ m, n = m + 1 := ⟨n - 1, by omega⟩
  rw [go_ok (m + 1) hn m 0 f 1 1 (dt (m + 1) f) (by omega) (by decide) ?_ (.inl ?_), Int.one_mul]
  · rw [Int.one_pow, Int.mul_one]
    exact congrArg (dt (m + 1)) (by funext i j; simp [sh])
  · rfl
end Mine

end
noncomputable section
namespace Mine

theorem mat0 (f : Mx) (m : Nat) : matF f m [] = 1 := by cases m <;> rfl
theorem mat2 (f : Mx) (m a b : Nat) : matF f (m + 1) [a, b] = f a b := by
  simp [matF, matT, List.range_succ, mat0]
theorem mat4 (f : Mx) (m a b c d : Nat) : matF f (m + 2) [a, b, c, d] = f a b * f c d - f a c * f b d + f a d * f b c := by
  rw [matF]
  simp [matT, List.range_succ, mat2]
  grind
theorem mat1 (f : Mx) (m a : Nat) : matF f m [a] = 0 := by cases m <;> simp [matF]
theorem mat3 (f : Mx) (m a b c : Nat) : matF f m [a, b, c] = 0 := by
  cases m with
  | zero => rfl
  | succ m => rw [matF]; simp [matT, List.range_succ, mat1]

variable {f : Mx} (hs : ∀ i j, f i j = - f j i)
include hs
theorem dg (i : Nat) : f i i = 0 := by have := hs i i; omega

theorem skd2 : detF 2 f = (matF f 2 (List.range 2)) ^ 2 := by
  rw [detF_dt 2 (by decide) (by decide), show List.range 2 = [0, 1] from rfl, mat2]
  have h0 := dg hs 0; have h1 := dg hs 1; have h10 := hs 1 0
  dsimp [dt, d2]; grind
theorem skd3 : detF 3 f = 0 := by
  rw [detF_dt 3 (by decide) (by decide)]
  have h0 := dg hs 0; have h1 := dg hs 1; have h2 := dg hs 2; have h10 := hs 1 0; have h20 := hs 2 0; have h21 := hs 2 1
  dsimp [dt, d3, cut, d2]; grind
theorem skd4 : detF 4 f = (matF f 4 (List.range 4)) ^ 2 := by
  rw [detF_dt 4 (by decide) (by decide), show List.range 4 = [0, 1, 2, 3] from rfl, mat4]
  have h0 := dg hs 0; have h1 := dg hs 1; have h2 := dg hs 2; have h3 := dg hs 3; have h10 := hs 1 0; have h20 := hs 2 0; have h21 := hs 2 1; have h30 := hs 3 0; have h31 := hs 3 1; have h32 := hs 3 2
  dsimp [dt, d4, d3, cut, d2]; grind
theorem skd5 : detF 5 f = 0 := by
  rw [detF_dt 5 (by decide) (by decide)]
  have h0 := dg hs 0; have h1 := dg hs 1; have h2 := dg hs 2; have h3 := dg hs 3; have h4 := dg hs 4; have h10 := hs 1 0; have h20 := hs 2 0; have h21 := hs 2 1; have h30 := hs 3 0; have h31 := hs 3 1; have h32 := hs 3 2; have h40 := hs 4 0; have h41 := hs 4 1; have h42 := hs 4 2; have h43 := hs 4 3
  dsimp [dt, d5, d4, d3, cut, d2]; grind
theorem ska2 (r c : Nat) (hr : r < 2) (hc : c < 2) : adjF 2 f r c = lmF 2 f r c := by
  have a : r = 0 ∨ r = 1 := by omega
  have b : c = 0 ∨ c = 1 := by omega
  unfold adjF lmF
  rw [detF_dt (2 - 1) (by decide) (by decide)]
  rcases a with rfl | rfl <;> rcases b with rfl | rfl <;> simp [dt, d1, minorF, skip, dg hs, show List.range 2 = [0, 1] from rfl, mat2, mat0, hs 1 0]
theorem ska3 (r c : Nat) (hr : r < 3) (hc : c < 3) : adjF 3 f r c = lmF 3 f r c := by
  have a : r = 0 ∨ r = 1 ∨ r = 2 := by omega
  have b : c = 0 ∨ c = 1 ∨ c = 2 := by omega
  unfold adjF lmF
  rw [detF_dt (3 - 1) (by decide) (by decide)]
  rcases a with rfl | rfl | rfl <;> rcases b with rfl | rfl | rfl <;> simp [dt, d2, minorF, skip, dg hs, show List.range 3 = [0, 1, 2] from rfl, mat2, mat0, hs 1 0, hs 2 0, hs 2 1] <;> grind
end Mine

end
noncomputable section
namespace Mine
theorem detF_d3 (f : Mx) : detF 3 f = d3 f := detF_dt 3 (by decide) (by decide) f
theorem detF_d4 (f : Mx) : detF 4 f = d4 f := detF_dt 4 (by decide) (by decide) f
variable {f : Mx} (hs : ∀ i j, f i j = - f j i)
include hs
set_option maxHeartbeats 4000000 in
theorem ska4 (r c : Nat) (hr : r < 4) (hc : c < 4) : adjF 4 f r c = lmF 4 f r c := by
  have a : r = 0 ∨ r = 1 ∨ r = 2 ∨ r = 3 := by omega
  have b : c = 0 ∨ c = 1 ∨ c = 2 ∨ c = 3 := by omega
  clear hr hc
  have h0 := dg hs 0; have h1 := dg hs 1; have h2 := dg hs 2; have h3 := dg hs 3; have h10 := hs 1 0; have h20 := hs 2 0; have h21 := hs 2 1; have h30 := hs 3 0; have h31 := hs 3 1; have h32 := hs 3 2
  have p01 : (List.range 4).filter (fun i => i != 0 && i != 1) = [2, 3] := rfl
  have p02 : (List.range 4).filter (fun i => i != 0 && i != 2) = [1, 3] := rfl
  have p03 : (List.range 4).filter (fun i => i != 0 && i != 3) = [1, 2] := rfl
  have p10 : (List.range 4).filter (fun i => i != 1 && i != 0) = [2, 3] := rfl
  have p12 : (List.range 4).filter (fun i => i != 1 && i != 2) = [0, 3] := rfl
  have p13 : (List.range 4).filter (fun i => i != 1 && i != 3) = [0, 2] := rfl
  have p20 : (List.range 4).filter (fun i => i != 2 && i != 0) = [1, 3] := rfl
  have p21 : (List.range 4).filter (fun i => i != 2 && i != 1) = [0, 3] := rfl
  have p23 : (List.range 4).filter (fun i => i != 2 && i != 3) = [0, 1] := rfl
  have p30 : (List.range 4).filter (fun i => i != 3 && i != 0) = [1, 2] := rfl
  have p31 : (List.range 4).filter (fun i => i != 3 && i != 1) = [0, 2] := rfl
  have p32 : (List.range 4).filter (fun i => i != 3 && i != 2) = [0, 1] := rfl
  have m2 : ∀ a b, matF f 4 [a, b] = f a b := mat2 f 3
  clear hs
  unfold adjF lmF
  rw [show (4 - 1) = 3 from rfl, detF_d3, if_neg (by decide)]
  rcases a with rfl | rfl | rfl | rfl <;> rcases b with rfl | rfl | rfl | rfl <;>
    (first | rw [if_pos rfl] | rw [if_neg (by decide), show List.range 4 = [0, 1, 2, 3] from rfl, mat4, ← show List.range 4 = [0, 1, 2, 3] from rfl]) <;>
    (first | simp only [p01, p02, p03, p10, p12, p13, p20, p21, p23, p30, p31, p32, m2] | skip) <;> clear p01 p02 p03 p10 p12 p13 p20 p21 p23 p30 p31 p32 m2 <;> dsimp [d3, cut, d2, minorF, skip] <;> grind
set_option maxHeartbeats 4000000 in
theorem ska5 (r c : Nat) (hr : r < 5) (hc : c < 5) : adjF 5 f r c = lmF 5 f r c := by
  have a : r = 0 ∨ r = 1 ∨ r = 2 ∨ r = 3 ∨ r = 4 := by omega
  have b : c = 0 ∨ c = 1 ∨ c = 2 ∨ c = 3 ∨ c = 4 := by omega
  clear hr hc
  have e0 : (List.range 5).filter (fun i => i != 0) = [1, 2, 3, 4] := rfl
  have e1 : (List.range 5).filter (fun i => i != 1) = [0, 2, 3, 4] := rfl
  have e2 : (List.range 5).filter (fun i => i != 2) = [0, 1, 3, 4] := rfl
  have e3 : (List.range 5).filter (fun i => i != 3) = [0, 1, 2, 4] := rfl
  have e4 : (List.range 5).filter (fun i => i != 4) = [0, 1, 2, 3] := rfl
  have h0 := dg hs 0; have h1 := dg hs 1; have h2 := dg hs 2; have h3 := dg hs 3; have h4 := dg hs 4; have h10 := hs 1 0; have h20 := hs 2 0; have h21 := hs 2 1; have h30 := hs 3 0; have h31 := hs 3 1; have h32 := hs 3 2; have h40 := hs 4 0; have h41 := hs 4 1; have h42 := hs 4 2; have h43 := hs 4 3
  clear hs
  unfold adjF lmF
  rw [show (5 - 1) = 4 from rfl, detF_d4, if_pos (by decide)]
  rcases a with rfl | rfl | rfl | rfl | rfl <;> rcases b with rfl | rfl | rfl | rfl | rfl <;> (simp only [e0, e1, e2, e3, e4, mat4]; clear e0 e1 e2 e3 e4; dsimp [d4, d3, cut, d2, minorF, skip]; grind)
end Mine

end
noncomputable section
namespace Mine

def stepL (ahead : Int) (piv : List Int) (rows : List (List Int)) : List (List Int) := match piv with
  | p :: ps => rows.map fun row => match row with
    | x :: xs => List.zipWith (fun a b => (a * p - x * b).fdiv ahead) xs ps
    | [] => []
  | [] => []
noncomputable def detL : Nat → List (List Int) → Int → Int → Int
  | 0, _, sign, ahead => sign * ahead
  | m + 1, L, sign, ahead => match L.findIdx? (fun row => row.headD 0 != 0) with
    | none => 0
    | some 0 => detL m (stepL ahead (L.headD []) L.tail) sign ((L.headD []).headD 0)
    | some (r + 1) => detL m (stepL ahead (L.getD (r + 1) []) (L.set (r + 1) (L.headD [])).tail) (-sign) ((L.getD (r + 1) []).headD 0)
def gridF (w : Nat) (ly st : Int) (i j : Nat) : Int :=
  if ((i : Int) - j).natAbs = w then (st * ((j : Int) - i)).fdiv w * (1 - 2 * ((i % w % 2 : Nat) : Int)) else if ((i : Int) - j).natAbs = 1 ∧ i / w = j / w then ly * ((j : Int) - i) else 0
def tr (m : Nat) (f : Nat → Int) : List Int := (List.range m).map f
def tb (m : Nat) (A : Mx) : List (List Int) := (List.range m).map fun i => tr m (A i)

theorem tr_succ (m : Nat) (f : Nat → Int) : tr (m + 1) f = f 0 :: tr m (fun j => f (j + 1)) := by
  unfold tr
  rw [List.range_succ_eq_map, List.map_cons, List.map_map]; rfl
theorem stepL_tb (a : Int) (m : Nat) (A : Mx) : stepL a (tr (m + 1) (A 0)) ((List.range m).map fun i => tr (m + 1) (A (i + 1))) = tb m (fun i j => (st A i j).fdiv a) := by
  rw [tr_succ]
  unfold stepL tb
  simp only [List.map_map]
  refine List.map_congr_left fun i _ => ?_
  simp only [Function.comp, tr_succ]
  unfold tr
  rw [List.zipWith_map_left, List.zipWith_map_right, List.zipWith_self]
  rfl
theorem tb_get (m : Nat) (A : Mx) (i : Nat) (h : i < m) : (tb m A)[i]? = some (tr m (A i)) := by
  unfold tb; rw [List.getElem?_map, List.getElem?_range h]; rfl
theorem tb_len (m : Nat) (A : Mx) : (tb m A).length = m := by simp [tb]
theorem tb_tail (m : Nat) (A : Mx) : (tb (m + 1) A).tail = (List.range m).map fun i => tr (m + 1) (A (i + 1)) := by
  unfold tb
  rw [List.range_succ_eq_map, List.map_cons, List.map_map]; rfl
theorem tb_head (m : Nat) (A : Mx) : (tb (m + 1) A).headD [] = tr (m + 1) (A 0) := by
  unfold tb
  rw [List.range_succ_eq_map, List.map_cons]; rfl
theorem tr_head (m : Nat) (f : Nat → Int) : (tr (m + 1) f).headD 0 = f 0 := by rw [tr_succ]; rfl
theorem tb_swap (m : Nat) (A : Mx) (r : Nat) (h : r + 1 < m + 1) : ((tb (m + 1) A).set (r + 1) (tr (m + 1) (A 0))).tail = (List.range m).map fun i => tr (m + 1) (swp2 A 0 (r + 1) (i + 1)) := by
  refine List.ext_getElem? fun i => ?_
  rw [List.getElem?_tail, List.getElem?_set, List.getElem?_map]
  by_cases hi : i < m
  · rw [List.getElem?_range hi]
    by_cases e : r = i
    · subst e
      rw [if_pos rfl, if_pos (by rw [tb_len]; omega), Option.map_some]
      have : swp2 A 0 (r + 1) (r + 1) = A 0 := by
        funext j; unfold swp2; rw [if_neg (by omega), if_pos rfl]
      rw [this]
    · rw [if_neg (by omega), tb_get _ _ _ (by omega)]
      have : swp2 A 0 (r + 1) (i + 1) = A (i + 1) := by
        funext j; unfold swp2; rw [if_neg (by omega), if_neg (by omega)]
      rw [Option.map_some, this]
  · rw [List.getElem?_eq_none (l := List.range m) (by simpa using hi)]
    split
    · omega
    · rw [List.getElem?_eq_none (l := tb (m + 1) A) (by rw [tb_len]; omega)]; rfl

theorem detL_ok (n : Nat) : ∀ (m k : Nat) (g : Mx) (sign ahead : Int), n = k + m → detL m (tb m (sh k g)) sign ahead = detGo n m k g sign ahead := by
  intro m
  induction m with
  | zero => intro k g sign ahead h; rfl
  | succ m ih =>
    intro k g sign ahead h
    unfold detL detGo
    have hhd : ∀ i, i < m + 1 → ∀ row, (tb (m + 1) (sh k g))[i]? = some row → row.headD 0 = g (k + i) k := by
      intro i hi row hr
      rw [tb_get _ _ _ hi] at hr
      cases hr
      rw [tr_head]; rfl
    cases e : (tb (m + 1) (sh k g)).findIdx? (fun row => row.headD 0 != 0) with
    | none =>
      have e' := List.findIdx?_eq_none_iff.mp e
      have hp : pivF g k k (n - k) = none := pivF_none _ _ fun r a b => by
        have hr := tb_get (m + 1) (sh k g) (r - k) (by omega)
        have h1 := e' _ (List.mem_of_getElem? hr)
        have h2 := hhd (r - k) (by omega) _ hr
        rw [h2, show k + (r - k) = r from by omega] at h1
        simpa using h1
      rw [hp]
    | some r =>
      obtain ⟨hr, h1, h2⟩ := List.findIdx?_eq_some_iff_getElem.mp e
      rw [tb_len] at hr
      have g1 := hhd r hr _ (List.getElem?_eq_getElem (by rw [tb_len]; exact hr))
      have hp : pivF g k k (n - k) = some (k + r) := by
        refine pivF_some _ _ (fun r' a b => ?_) ?_ (by omega) (by omega)
        · have hr' : r' - k < r := by omega
          have h3 := h2 (r' - k) hr'
          have h4 := hhd (r' - k) (by omega) _ (List.getElem?_eq_getElem (by rw [tb_len]; omega))
          rw [h4, show k + (r' - k) = r' from by omega] at h3
          simpa using h3
        · rw [g1] at h1; simpa using h1
      rw [hp]
      cases r with
      | zero =>
        simp only [Nat.add_zero, if_true]
        rw [tb_head, tb_tail, stepL_tb, tr_head, ← ih (k + 1) (stepF g k ahead) sign (g k k) (by omega)]
        congr 1
        · congr 1
          funext i j; rw [sh_step]
      | succ r =>
        simp only [if_neg (show ¬ k + (r + 1) = k from by omega)]
        have hs := sh_swap g k (k + (r + 1)) (by omega)
        rw [show k + (r + 1) - k = r + 1 from by omega] at hs
        have hrow : (tb (m + 1) (sh k g)).getD (r + 1) [] = tr (m + 1) (swp2 (sh k g) 0 (r + 1) 0) := by
          rw [List.getD_eq_getElem?_getD, tb_get _ _ _ hr]
          simp [swp2]; rfl
        rw [tb_head, tb_swap _ _ _ hr, hrow, stepL_tb, tr_head, ← ih (k + 1) (stepF (swapF g (k + (r + 1)) k) k ahead) (-sign) _ (by omega)]
        congr 1
        · congr 1
          funext i j; rw [sh_step, hs]
        · rw [← hs]; rfl

theorem detF_L (n : Nat) (f : Mx) : detF n f = detL n (tb n f) 1 1 := by
  have h := detL_ok n n 0 f 1 1 (by omega)
  have e : sh 0 f = f := by funext i j; simp [sh]
  rw [e] at h
  exact h.symm

def okB (h w : Nat) (ly st : Int) : Bool := detL (h * w) (tb (h * w) (gridF w ly st)) 1 1 == laidF w ly st (h * w) (List.range (h * w)) ^ 2
theorem b22 : ∀ l ∈ [1, 2, 3], ∀ s ∈ [1, 2, 3], okB 2 2 l s = true := by decide +kernel
theorem b23 : ∀ l ∈ [1, 2, 3], ∀ s ∈ [1, 2, 3], okB 2 3 l s = true := by decide +kernel
theorem b24 : ∀ l ∈ [1, 2, 3], ∀ s ∈ [1, 2, 3], okB 2 4 l s = true := by decide +kernel
theorem b32 : ∀ l ∈ [1, 2, 3], ∀ s ∈ [1, 2, 3], okB 3 2 l s = true := by decide +kernel
theorem b33 : ∀ l ∈ [1, 2, 3], ∀ s ∈ [1, 2, 3], okB 3 3 l s = true := by decide +kernel
theorem b34 : ∀ l ∈ [1, 2, 3], ∀ s ∈ [1, 2, 3], okB 3 4 l s = true := by decide +kernel
theorem board {h w l s : Nat} (hh : h < 2) (hw : w < 3) (hl : l < 3) (hs : s < 3) :
    detF ((h + 2) * (w + 2)) (gridF (w + 2) ((l : Int) + 1) ((s : Int) + 1)) = laidF (w + 2) ((l : Int) + 1) ((s : Int) + 1) ((h + 2) * (w + 2)) (List.range ((h + 2) * (w + 2))) ^ 2 := by
  have ml : ((l : Int) + 1) ∈ ([1, 2, 3] : List Int) := by
    have : l = 0 ∨ l = 1 ∨ l = 2 := by omega
    rcases this with rfl | rfl | rfl <;> simp
  have ms : ((s : Int) + 1) ∈ ([1, 2, 3] : List Int) := by
    have : s = 0 ∨ s = 1 ∨ s = 2 := by omega
    rcases this with rfl | rfl | rfl <;> simp
  have ok : okB (h + 2) (w + 2) ((l : Int) + 1) ((s : Int) + 1) = true := by
    have a : h = 0 ∨ h = 1 := by omega
    have b : w = 0 ∨ w = 1 ∨ w = 2 := by omega
    rcases a with rfl | rfl <;> rcases b with rfl | rfl | rfl
    · exact b22 _ ml _ ms
    · exact b23 _ ml _ ms
    · exact b24 _ ml _ ms
    · exact b32 _ ml _ ms
    · exact b33 _ ml _ ms
    · exact b34 _ ml _ ms
  rw [detF_L]
  exact eq_of_beq ok
end Mine

end
noncomputable section
namespace Mine
open PySem.Builtin.Int (intBits)

theorem natAbs_sum_le (c : Nat) : ∀ l : List Int, (∀ x ∈ l, x.natAbs ≤ c) → l.sum.natAbs ≤ l.length * c
  | [], _ => by simp
  | x :: l, h => by
    have h1 := h x (List.mem_cons_self ..)
    have h2 := natAbs_sum_le c l fun y hy => h y (List.mem_cons_of_mem _ hy)
    rw [List.sum_cons, List.length_cons, Nat.succ_mul]
    omega
theorem matF_le {f : Mx} (hb : ∀ i j, (f i j).natAbs ≤ 2) : ∀ (m : Nat) (l : List Nat), l.length ≤ 100 → (matF f m l).natAbs ≤ 200 ^ m
  | 0, [], _ => by simp [matF]
  | m + 1, [], _ => by simp only [matF]; exact Nat.one_le_pow _ _ (by decide)
  | 0, _ :: _, _ => by simp [matF]
  | m + 1, x :: xs, h => by
    rw [matF]
    have h2 := natAbs_sum_le (2 * 200 ^ m) ((List.range xs.length).map (matT f (matF f m) x xs)) (fun y hy => by
      obtain ⟨i, hi, rfl⟩ := List.mem_map.mp hy
      have ih := matF_le hb m (xs.take i ++ xs.drop (i + 1)) (by simp at h ⊢; omega)
      have hf := hb x (xs.getD i 0)
      unfold matT
      rw [Int.natAbs_mul, Int.natAbs_mul]
      have hq : (2 * (((i + 1) % 2 : Nat) : Int) - 1).natAbs = 1 := by omega
      rw [hq, Nat.one_mul]
      exact Nat.mul_le_mul hf ih)
    rw [List.length_map, List.length_range] at h2
    refine Nat.le_trans h2 ?_
    rw [Nat.pow_succ]
    have : xs.length * (2 * 200 ^ m) ≤ 100 * (2 * 200 ^ m) := Nat.mul_le_mul_right _ (by simp at h; omega)
    omega
theorem matF_bits {f : Mx} (hb : ∀ i j, (f i j).natAbs ≤ 2) (n : Nat) (hn : n ≤ 5) (l : List Nat) (hl : l.length ≤ 100) : intBits (matF f n l) ≤ 60 := by
  have h := Nat.le_trans (matF_le hb n l hl) (Nat.pow_le_pow_right (by decide) hn)
  exact PyProof.Rows.intBits_le (Nat.lt_of_le_of_lt h (by decide))
theorem sk_det {f : Mx} (hs : ∀ i j, f i j = - f j i) (n : Nat) (h2 : 2 ≤ n) (h5 : n ≤ 5) : detF n f = if n % 2 = 1 then 0 else (matF f n (List.range n)) ^ 2 := by
  have : n = 2 ∨ n = 3 ∨ n = 4 ∨ n = 5 := by omega
  rcases this with rfl | rfl | rfl | rfl
  · exact skd2 hs
  · exact skd3 hs
  · exact skd4 hs
  · exact skd5 hs
theorem sk_adj {f : Mx} (hs : ∀ i j, f i j = - f j i) (n : Nat) (h2 : 2 ≤ n) (h5 : n ≤ 5) (r c : Nat) (hr : r < n) (hc : c < n) : adjF n f r c = lmF n f r c := by
  have : n = 2 ∨ n = 3 ∨ n = 4 ∨ n = 5 := by omega
  rcases this with rfl | rfl | rfl | rfl
  · exact ska2 hs r c hr hc
  · exact ska3 hs r c hr hc
  · exact ska4 hs r c hr hc
  · exact ska5 hs r c hr hc
end Mine

end
noncomputable section
namespace Mine
open PySem PySem.W PySem.Calls PyProof.Rows
open PySem.Builtin.Int (intBits)

section
variable {prog : Program} {w : World} {A : Around} {E : Value → Shared → Prop} {s : Shared} {env : Env} {mg mb : Str → Option Value}

theorem foldl_rep (v : Value) : ∀ (n : Nat) (acc : Array Value), List.foldl (fun x1 x2 => x1 ++ x2) acc (List.replicate n #[v]) = acc ++ (List.replicate n v).toArray
  | 0, acc => by simp
  | n + 1, acc => by
    rw [List.replicate_succ, List.foldl_cons, foldl_rep v n, List.replicate_succ]
    apply Array.toList_inj.mp
    simp

theorem mul_rep0 {l : Addr} {items : Array Value} {k : Nat} {x : Int} {u : Tok} {Q : Value → Shared → Prop}
    (hl : s.heap.get? l = some { cls := .type "list", dict := none, data := .seq items k, slots := #[] })
    (hlo : -(2 ^ 63 : Int) ≤ x) (hhi : x < 2 ^ 63) (hsz : items.size * x.toNat ≤ 2 ^ 24)
    (h : Q (.ref s.heap.objs.size) { s with heap := s.heap.push { cls := .type "list", data := .seq (List.foldl (fun x1 x2 => x1 ++ x2) #[] (List.replicate (if items.isEmpty = true then 0 else x.toNat) items)) } }) :
    wpAny (model prog w) A (binaryOp .Mult (.ref l) (.int x u)) Q E s :=
  wpAny_binaryOp_repeat_ref (T := "list") (U := "int") (by decide) ⟨_, hl, rfl⟩ (fun s' => typeIs_int s' x u) noFill_list_mul F.fills_int_mul F.slot_int_rmul repeat_list F.slot_int_index.lookup
    (call_meets F.slot_int_rmul (typeIs_int s x u) F.entry_int_rmul (F.args_int_rmul_2 _ _) (int___rmul___int_list x u l items k)
      ⟨hl, rfl, ⟨_, hl, rfl⟩, call_meets F.slot_list_mul ⟨_, hl, rfl⟩ F.entry_list_mul (F.args_list_mul_2 _ _)
        (AutoListH.list___mul___list_int_3 l items k x u (by simp [Builtin.List.listFitsIndex]; omega) (by omega) (by simp [Builtin.List.listTooLong, sizeLine]; omega))
        ⟨hl, h⟩⟩)
theorem mul_rep {l : Addr} {v : Value} {x : Int} {n : Nat} {u : Tok} {Q : Value → Shared → Prop}
    (hl : s.heap.get? l = some { cls := .type "list", data := .seq [v].toArray }) (hx : x = (n : Int)) (hn : n < 1000)
    (h : ∀ D h', Ext s.heap h' → h'.IsList D (List.replicate n v).toArray → s.heap.get? D = none → Q (.ref D) { s with heap := h' }) :
    wpAny (model prog w) A (binaryOp .Mult (.ref l) (.int x u)) Q E s := by
  have e : x.toNat = n := by omega
  refine mul_rep0 hl (by omega) (by omega) (by rw [e]; simp; omega) (h _ _ (fun b o e => Heap.get?_push_of_some _ e) ⟨_, Heap.get?_push_size _ rfl, rfl, 0, ?_⟩ (Heap.get?_none_of_le (Nat.le_refl _)))
  have := foldl_rep v n #[]
  rw [e]
  simpa using this

/-- l[:b] -/
theorem slice_to {value : Expr} {hi : Expr} {p pos : Pos} {l : Addr} {vs : List Value} {b : Nat} {Q : Value → Shared → Prop} (hl : s.heap.IsList l vs.toArray) (hsz : vs.length < 1000)
    (hv : ∀ Q' : Value → Shared → Prop, Q' (.ref l) s → wpAny (model prog w) A (eval value env) Q' E s)
    (hhi : ∀ Q' : Value → Shared → Prop, (∀ t tk v, v = (b : Int) → Q' (.int v t) { s with toks := tk }) → wpAny (model prog w) A (eval hi env) Q' E s)
    (h : ∀ D h' tk, Ext s.heap h' → h'.IsList D (vs.take b).toArray → s.heap.get? D = none → Q (.ref D) { s with heap := h', toks := tk })
    (ht : ∀ o r, letTemporaryGo value o r = pure () := by intro _ _; rfl) :
    wpAny (model prog w) A (eval (.Subscript value (.Slice none (some hi) none p) pos) env) Q E s := by
  refine wpAny_Subscript_list_slice (hv _ (wpAny_evalPart_none (wpAny_evalPart_some (hhi _ fun t tk v ev => ?_)))) ht
  subst ev
  refine ⟨l, vs.toArray, _, _, rfl, hl, by rw [sizeLine_eq]; simp; omega, .none, .int _ _, ?_⟩
  have e := slicePick_upto' vs.toArray b
  rw [e]
  refine h _ _ _ (fun b o e => Heap.get?_push_of_some _ (Heap.get?_push_of_some _ e)) ?_ (Heap.get?_none_of_le (Nat.le_succ _))
  have q := IsL.new (s.heap.push { cls := .type "slice", data := .fields #[.none, .int (b : Int) t, .none] }) (vs.take b).toArray
  rw [Heap.size_push] at q
  exact ⟨_, by simpa using q, rfl, 0, rfl⟩
end
end Mine

end
noncomputable section
namespace Mine
open PySem PySem.W PySem.Calls PyProof.Rows
open PySem.Builtin.Int (intBits)

section
variable {prog : Program} {w : World} {A : Around} {E : Value → Shared → Prop} {s : Shared} {env : Env} {mg mb : Str → Option Value}

set_option maxHeartbeats 1000000 in
/-- [[0] * n for row in range(n)] -/
theorem zero_comp {p1 p2 p3 p4 p5 p6 p7 p8 pos : Pos} {k1 : Nat} {scope : Scope} {c : Addr} {n : Nat} {tn : Tok} {Q : Value → Shared → Prop} {cl : List (Str × Addr)}
    (T : TopF mg mb s.heap) (hh : A.handled = none) (hn : n < 1000)
    (hc : s.heap.IsCell c (some (.int n tn))) (hcl : env.cells.lookup (Str.ofString "n") = some c)
    (hclos : closureFor scope env = pure cl) (hcell : ∀ y ∈ scope.names, y.2 ≠ .cell) (hkind : scope.kind = .function)
    (hnames : ∀ y ∈ scope.names, y.2 = .local → scope.names.lookup y.1 = some .local) (hx : scope.names.lookup (Str.ofString "row") = some .local)
    (q1 : (relabel scope env).names.lookup (Str.ofString "n") = some .cell) (q2 : ∀ C, (compEnvC scope cl C env).cells.lookup (Str.ofString "n") = some c)
    (h : ∀ D rs' h' tk, Ext s.heap h' → MatAt h' D rs' n n (fun _ _ => 0) → rs'.Nodup → D ∉ rs' → s.heap.get? D = none → (∀ r ∈ rs', s.heap.get? r = none) → Q (.ref D) { s with heap := h', toks := tk })
    (hk : env.scope.kind = .function := by rfl) (hl : env.kindOf (Str.ofString "n") = some .cell := by rfl) (hl2 : env.kindOf (Str.ofString "range") = some .globalImplicit := by rfl) (hg : env.globals = mainGlobals := by rfl) (hbn : env.builtins = builtinsNs := by rfl)
    (he : starEach [.Name (Str.ofString "n") p6] env = (false, eval (.Name (Str.ofString "n") p6) env) :: starEach [] env := by rfl) :
    wpAny (model prog w) A (eval (.ListComp (.BinOp (.List [.Constant (.int 0) k1 p1] p2) .Mult (.Name (Str.ofString "n") p3) p4) [⟨.Name (Str.ofString "row") p5, .Call (.Name (Str.ofString "range") p7) [.Name (Str.ofString "n") p6] [] p8, [], 0⟩] scope pos) env) Q E s := by
  refine wpAny_ListComp_freeO (fun _ => true) (fun _ its => ∃ t, its = (List.replicate n (Value.int 0 t)).toArray) hclos hcell hkind hnames hx ?_
  refine eval_range1 T (nmC hcl hc ⟨n, tn, rfl, ?_⟩ hk hl) hk hl2 hg hbn he
  refine wpAny_pyIter_range (IsRange.new _ _ _ _ _ _ _) (small_one (by omega) (by omega) (by omega) (by omega)) ?_
  rw [rangeSize_one, show (if (0 : Int) < (n : Int) then (n : Int) - 0 else 0) = n from by split <;> omega]
  generalize hI : ({ s with heap := Heap.push s.heap { cls := .type "range", data := .fields #[.int 0 s.toks, .int n tn, .int 1 (s.toks + 1)] }, toks := s.toks + 1 + 1 } : Shared).heap.objs.size = I
  have hI' : I = s.heap.objs.size + 1 := by rw [← hI]; exact Heap.size_push ..
  have kp₀ : ∀ {o₁ o₂ : Obj}, Ext s.heap ((s.heap.push o₁).push o₂) := fun b o e => Heap.get?_push_of_some _ (Heap.get?_push_of_some _ e)
  have hne : ∀ b o, s.heap.get? b = some o → b ∉ [I] := fun b o e hm => by
    have h1 : @LT.lt Nat _ b s.heap.objs.size := Heap.lt_size e
    have h2 : @Eq Nat b I := List.mem_singleton.mp hm
    omega
  have W := Walks.range (prog := prog) (w := w) (A := A) hh I 0 1 n
  have hIr : ∀ o₁ : Obj, IsRangeIter ((s.heap.push o₁).push { cls := .type "range_iterator", data := .fields #[rawInt 0, rawInt n, rawInt 1] }) I (0 + ((0 : Nat) : Int) * 1) ((n : Int) - ((0 : Nat) : Int)) 1 := fun o₁ => by
    subst hI'
    have q := Heap.get?_push_size (s.heap.push o₁) (o := { cls := .type "range_iterator", data := .fields #[rawInt 0, rawInt n, rawInt 1] }) rfl
    rw [Heap.size_push] at q
    simpa using q
  refine ⟨I, _, _, n, _, _, rfl, W, by rw [sizeLine_eq]; omega, ?_, hIr _, ?_, ⟨?_, ?_⟩, ?_⟩
  · intro i h hst b hb
    rw [List.mem_singleton.mp hb]
    exact ⟨_, hst⟩
  · intro b hb
    rw [List.mem_singleton.mp hb]
    show @LT.lt Nat _ I ((s.heap.push _).push _).objs.size
    rw [Heap.size_push, Heap.size_push]; omega
  · intro C i v s₃ m₃ E' hC hv hn₃ hm hkp htk
    exact wpAny_tests_nil ⟨rfl, _, _, rfl, fun _ _ e => e⟩
  · intro C i v s₃ m₃ E' hC hv _ hn₃ hm hkp htk
    have kp : Ext s.heap s₃.heap := fun b o e => hkp b o (hne b o e) (kp₀ b o e)
    have hc₃ := IsCell.sk hc (.of_ext kp)
    refine wpAny_BinOp (List_ (args_cons (wpAny_Constant_int (args_nil (newList_ ?_)))))
    refine nmC (q2 C) (IsCell.sk hc₃ (.of_ext fun b o e => Heap.get?_push_of_some _ e)) ?_ hkind q1
    refine mul_rep (n := n) (Heap.get?_push_size _ rfl) rfl hn fun D h' k' hD hDn => ?_
    refine ⟨⟨D, _, rfl, ?_, hD, ⟨_, rfl⟩⟩, _, _, rfl, fun b o e => k' _ _ (Heap.get?_push_of_some _ e)⟩
    cases e : s₃.heap.get? D with
    | none => rfl
    | some o =>
      have := Heap.get?_push_of_some { cls := .type "list", data := .seq [Value.int 0 s₃.toks].toArray } e
      exact absurd (hDn.symm.trans this) (by simp)
  · intro D h' tk ys vs hD hl' hpl hlen hP hF hpw hyD hkp
    have kp : Ext s.heap h' := fun b o e => hkp b o (hne b o e) (kp₀ b o e)
    have up : ∀ {b}, ((s.heap.push { cls := .type "range", data := .fields #[.int 0 s.toks, .int n tn, .int 1 (s.toks + 1)] }).push { cls := .type "range_iterator", data := .fields #[rawInt 0, rawInt n, rawInt 1] }).get? b = none → s.heap.get? b = none := fun {b} e => by
      cases q : s.heap.get? b with
      | none => rfl
      | some o => exact absurd (e.symm.trans (kp₀ b o q)) (by simp)
    rw [List.filter_eq_self.mpr (by simp)] at hF
    obtain ⟨ts, e1, e2, e3⟩ := pairedLst hF
    have hvs : vs.length = n := hlen
    refine h D ts h' tk kp ⟨?_, by rw [e2, hvs], fun i r hr => ?_⟩ (nodup_of_refs (e1 ▸ hpw)) (fun hm => hyD (.ref D) (by rw [e1]; exact List.mem_map_of_mem hm) rfl) (up hD) (fun r hr => ?_)
    · rw [← e1]; simpa using hl'
    · have hi : i < vs.length := by rw [← e2]; exact (List.getElem?_eq_some_iff.mp hr).1
      obtain ⟨_, its, hl2, t, rfl⟩ := e3 i _ r (List.getElem?_eq_getElem hi) hr
      exact ⟨_, hl2, by simp, fun j hj => ⟨t, by rw [List.getElem?_replicate]; simp [hj]⟩⟩
    · obtain ⟨i, hi, e⟩ := List.mem_iff_getElem.mp hr
      have hi' : i < vs.length := by rw [← e2]; exact hi
      exact up (e3 i _ r (List.getElem?_eq_getElem hi') (by rw [← e]; exact List.getElem?_eq_getElem hi)).1
end
end Mine

end
noncomputable section
namespace Mine
open PySem PySem.W PySem.Calls PyProof.Rows
open PySem.Builtin.Int (intBits)

section
variable {prog : Program} {w : World} {A : Around} {E : Value → Shared → Prop} {s : Shared} {env : Env} {mg mb : Str → Option Value}

set_option maxHeartbeats 1000000 in
/-- [elt for x in l if cnd] over a list of ints that the head makes -/
theorem list_compX {elt le : Expr} {x : Str} {px pos : Pos} {ifs : List Expr} {scope : Scope} {cl : List (Str × Addr)} {ns : List Int} {Q : Value → Shared → Prop} (P : Int → Bool) (G : Int → Int)
    (hh : A.handled = none) (hn : ns.length < 1000)
    (hle : ∀ Q' : Value → Shared → Prop, (∀ l h₁ tk₁ vs, Ext s.heap h₁ → h₁.IsList l (vs : List Value).toArray → IntsAre vs ns → Q' (.ref l) { s with heap := h₁, toks := tk₁ }) → wpAny (model prog w) A (eval le env) Q' E s)
    (hclos : closureFor scope env = pure cl) (hcell : ∀ y ∈ scope.names, y.2 ≠ .cell) (hkind : scope.kind = .function)
    (hnames : ∀ y ∈ scope.names, y.2 = .local → scope.names.lookup y.1 = some .local) (hx : scope.names.lookup x = some .local)
    (tests : ∀ (C : Addr) (i : Int) (s₃ : Shared) m₃ t E', s₃.heap.Ns C m₃ → m₃ x = some (.int i t) → Ext s.heap s₃.heap →
      Tests prog w A ifs (compEnvC scope cl C env) (fun ok s₄ => ok = P i ∧ Keeps s₃ s₄) E' s₃)
    (elts : ∀ (C : Addr) (i : Int) (s₃ : Shared) m₃ t E', P i = true → s₃.heap.Ns C m₃ → m₃ x = some (.int i t) → Ext s.heap s₃.heap →
      wpAny (model prog w) A (eval elt (compEnvC scope cl C env)) (fun y s₄ => (∃ t, y = .int (G i) t) ∧ Keeps s₃ s₄) E' s₃)
    (h : ∀ D h' tk ys, s.heap.get? D = none → h'.IsList D (ys : List Value).toArray → h'.PlainList D ys.toArray → IntsAre ys ((ns.filter P).map G) → Ext s.heap h' → Q (.ref D) { s with heap := h', toks := tk })
    (hs : ∀ x, foldedSetIterable le env x = pure x := by intro _; rfl) :
    wpAny (model prog w) A (eval (.ListComp elt [⟨.Name x px, le, ifs, 0⟩] scope pos) env) Q E s := by
  refine wpAny_ListComp_free (pI P) (fI G) hclos hcell hkind hnames hx (hle _ fun l h₁ tk₁ vs k₁ hl hi => ?_) hs
  refine wpAny_pyIter_list hl ?_
  obtain ⟨otop, hotop, _⟩ := id hl
  have hlt : ∀ b o, h₁.get? b = some o → b ∉ [h₁.objs.size] := fun b o e hm => Nat.lt_irrefl _ ((List.mem_singleton.mp hm) ▸ Heap.lt_size e)
  have kp₀ : ∀ {o : Obj}, Ext h₁ (h₁.push o) := fun b o e => Heap.get?_push_of_some _ e
  have hvl := hi.length
  have vi : ∀ (i : Nat) (v : Value), vs.toArray[i]? = some v → ∃ k t, ns[i]? = some k ∧ v = .int k t := fun i v hv => by
    have hv' : vs[i]? = some v := by simpa using hv
    have hlt : i < ns.length := by rw [← hvl]; exact (List.getElem?_eq_some_iff.mp hv').1
    obtain ⟨t, ht⟩ := hi.get i _ (List.getElem?_eq_getElem hlt)
    rw [ht] at hv'
    exact ⟨_, t, List.getElem?_eq_getElem hlt, (Option.some.inj hv').symm⟩
  refine ⟨_, _, _, _, _, _, rfl, Walks.list hh h₁.objs.size l (Nat.ne_of_lt (Heap.lt_size hotop)) _, by rw [sizeLine_eq]; simp; omega, ⟨⟨_, Heap.get?_push_size _ rfl, rfl, rfl⟩, IsList.ext hl fun _ _ e => Heap.get?_push_of_some _ e⟩, ?_, ⟨?_, ?_⟩, ?_⟩
  · intro b hb
    rw [show ({ s with heap := h₁.push { cls := .type "list_iterator", data := .fields #[.ref l, .int 0 0] } } : Shared).heap.objs.size = h₁.objs.size + 1 from Heap.size_push ..]
    rcases List.mem_cons.mp hb with rfl | hb
    · exact Nat.lt_succ_self _
    · rw [List.mem_singleton.mp hb]; exact Nat.lt_succ_of_lt (Heap.lt_size hotop)
  · intro C i v s₃ m₃ E' hC hv hn₃ hm hkp htk
    obtain ⟨k, t, hk, rfl⟩ := vi i v hv
    exact tests C k s₃ m₃ t E' hn₃ hm fun b o e => hkp b o (hlt b o (k₁ _ _ e)) (kp₀ b o (k₁ _ _ e))
  · intro C i v s₃ m₃ E' hC hv hp hn₃ hm hkp htk
    obtain ⟨k, t, hk, rfl⟩ := vi i v hv
    refine wpAny_mono (elts C k s₃ m₃ t E' hp hn₃ hm fun b o e => hkp b o (hlt b o (k₁ _ _ e)) (kp₀ b o (k₁ _ _ e))) (fun y s₄ h₄ => ?_) fun _ _ e => e
    obtain ⟨⟨t', rfl⟩, hk⟩ := h₄
    exact ⟨fun j u e => (by cases e; exact ⟨_, rfl⟩), hk⟩
  · intro D h' tk ys ws hD hl' hpl hlen hP hF hkp
    have hD' : s.heap.get? D = none := by
      cases q : s.heap.get? D with
      | none => rfl
      | some o => exact absurd (hD.symm.trans (kp₀ D o (k₁ _ _ q))) (by simp)
    refine h D h' tk ys.toList hD' (by simpa using hl') (by simpa using hpl) (pairInts (vs := ws) (ints_of_get (by rw [hlen]; simpa using hvl) fun j v k hv hk => ?_) hF) fun b o e => hkp b o (hlt b o (k₁ _ _ e)) (kp₀ b o (k₁ _ _ e))
    obtain ⟨k', t, hk', rfl⟩ := vi j v (hP j v hv)
    rw [hk] at hk'; cases hk'
    exact ⟨t, rfl⟩

end
end Mine

end
noncomputable section
namespace Mine
open PySem PySem.W PySem.Calls PyProof.Rows
open PySem.Builtin.Int (intBits)

section
variable {prog : Program} {w : World} {A : Around} {E : Value → Shared → Prop} {s : Shared} {env : Env} {mg mb : Str → Option Value}

/-- the frame of a comprehension with cells of its own -/
theorem newEnv_around {scope : Scope} {globals : Addr} {cl : List (Str × Addr)} {qual : Str} {Q : Env → Shared → Prop} {e₀ : Env}
    (hQ : Q { scope := scope, locals := s.heap.objs.size, globals := globals, cells := cellsFrom (s.heap.objs.size + 1) scope.names cl, qual := qual, func := none, code := e₀.code, frame := e₀.frame, builtins := e₀.builtins }
      { s with heap := pushCells (s.heap.push { cls := .type "dict", data := .dict #[] }) scope.names }) :
    wpAny (model prog w) A (newFunctionEnv scope globals cl [] qual none .none (some e₀)) Q E s := by
  simp only [newFunctionEnv, Option.isSome_some, if_true]
  refine wpAny_bind (wpAny_alloc ?_)
  refine wpAny_bind (wpAny_layCells _ (fun name kind cells => by cases hkc : kind == NameKind.cell <;> simp [hkc]) _ _ _ _ ?_)
  rw [show ({ s with heap := s.heap.push { cls := .type "dict", data := .dict #[] } } : Shared).heap.objs.size = s.heap.objs.size + 1 from Heap.size_push ..]
  exact wpAny_bind (wpAny_pure (wpAny_pure hQ))

/-- rows made so far -/
def Rows (h : Heap) (G : Nat → Array Value → Prop) (rs : List Addr) : Prop := ∀ j r, rs[j]? = some r → ∃ its, h.IsList r its ∧ G j its

structure CellInv (g : Heap) (It cc C D n : Nat) (G : Nat → Array Value → Prop) (i : Nat) (rs : List Addr) (h : Heap) : Prop where
  it : IsRangeIter h It (0 + (i : Nat)) ((n : Int) - (i : Nat)) 1
  cell : ∃ v, h.IsCell cc v
  ns : h.Ns C (fun _ => none)
  acc : h.PlainList D (rs.map Value.ref).toArray
  len : rs.length = i
  le : i ≤ n
  rows : Rows h G rs
  keep : Ext g h
  nd : ∀ r ∈ rs, r ≠ D

set_option maxHeartbeats 1000000 in
/-- the loop of a comprehension over range(n) whose name is a cell -/
theorem cell_loop {elt iter : Expr} {x : Str} {px pos : Pos} {scope : Scope} {R : Result → Shared → Prop} {cenv : Env} {g : Heap} {It cc D n : Nat} (G : Nat → Array Value → Prop)
    (hh : A.handled = none) (hn : n < 1000) (hk : cenv.scope.kind = .function) (hx : cenv.kindOf x = some .cell) (hc : cenv.cells.lookup x = some cc)
    (dIt : g.objs.size ≤ It) (dcc : g.objs.size ≤ cc) (dC : g.objs.size ≤ cenv.locals) (dD : g.objs.size ≤ D)
    (h0 : CellInv g It cc cenv.locals D n G 0 [] s.heap)
    (elts : ∀ i s₃ t E', i < n → s₃.heap.IsCell cc (some (.int (i : Nat) t)) → s₃.heap.Ns cenv.locals (fun _ => none) → Ext g s₃.heap →
      wpAny (model prog w) A (eval elt cenv) (fun y s₄ => (∃ T its, y = .ref T ∧ s₃.heap.get? T = none ∧ s₄.heap.IsList T its ∧ G i its) ∧ Keeps s₃ s₄) E' s₃)
    (hR : ∀ h' tk rs, rs.length = n → h'.IsList D (rs.map Value.ref).toArray → Rows h' G rs → h'.Ns cenv.locals (fun _ => none) → Ext g h' → R (.ok .next) { s with heap := h', toks := tk }) :
    codeAny (model prog w) A (.compLoop (.ListComp elt [⟨.Name x px, iter, [], 0⟩] scope pos) 0 (.ref It) (.ref D) cenv) R s := by
  refine codeAny_compLoop_tests
    (fun k s' => ∃ h' tk i rs, s' = { s with heap := h', toks := tk } ∧ CellInv g It cc cenv.locals D n G i rs h' ∧ k = n + 1 - i) ?_ (n + 1) ⟨_, _, 0, [], rfl, h0, rfl⟩
  rintro k s' ⟨h', tk, i, rs, rfl, V, rfl⟩
  obtain ⟨oIt, hIt⟩ : ∃ o, h'.get? It = some o ∧ isFields o = true := ⟨_, V.it, rfl⟩
  have nIt : ∀ b o, h'.get? b = some o → isFields o = false → b ≠ It := fun b o e q => by rintro rfl; rw [hIt.1] at e; cases e; rw [hIt.2] at q; cases q
  obtain ⟨vc, oc, hoc, hdc⟩ := V.cell
  obtain ⟨nD, hoD⟩ := V.acc
  obtain ⟨oC, es, ep, hoC, hdC, hC2⟩ := id V.ns
  by_cases hlt : i < n
  · refine wpAny_pyNext_range_item V.it (by have := V.le; omega) fun h₁ hit₁ hs₁ => ?_
    have up₁ : ∀ b o, h'.get? b = some o → isFields o = false → h₁.get? b = some o := fun b o e q => (hs₁.2 b (nIt b o e q)).trans e
    have c₁ : h₁.IsCell cc vc := ⟨oc, up₁ _ _ hoc (by simp [isFields, hdc]), hdc⟩
    refine wpAny_assign_Name (wpAny_storeName_cell hk hx hc c₁ fun h₂ hc₂ hs₂ => wpAny_tests_nil (ite_t ?_))
    have nc : ∀ b o, h₁.get? b = some o → isCell o = false → b ≠ cc := fun b o e q => by
      rintro rfl
      obtain ⟨o', e', d'⟩ := c₁
      rw [e'] at e; cases e; simp [isCell, d'] at q
    have up₂ : ∀ b o, h₁.get? b = some o → isCell o = false → h₂.get? b = some o := fun b o e q => (hs₂.2 b (nc b o e q)).trans e
    have kg : Ext g h₂ := fun b o e => by
      have hb : @LT.lt Nat _ b g.objs.size := Heap.lt_size e
      refine (hs₂.2 b (show @Ne Nat b cc by omega)).trans ((hs₁.2 b (show @Ne Nat b It by omega)).trans (V.keep b o e))
    have ns₂ : h₂.Ns cenv.locals (fun _ => none) := ⟨oC, es, ep, up₂ _ _ (up₁ _ _ hoC (by simp [isFields, hdC])) (by simp [isCell, hdC]), hdC, hC2⟩
    refine wpAny_mono (elts i _ _ _ hlt (by simpa using hc₂) ns₂ kg) (fun y s₃ hy => ?_) fun _ _ e => e
    obtain ⟨⟨T, its, rfl, hTn, hTl, hG⟩, h₃, tk₃, rfl, k₃⟩ := hy
    have hD₂ : h₂.get? D = some _ := up₂ _ _ (up₁ _ _ hoD rfl) rfl
    have hTD : T ≠ D := by rintro rfl; rw [hTn] at hD₂; cases hD₂
    refine wpAny_list_append_plain (items := (rs.map Value.ref).toArray) ⟨nD, k₃ _ _ hD₂⟩ (fun h₄ hD₄ hs₄ => ?_) (by rw [sizeLine_eq]; simp; have := V.len; omega)
    have up₄ : ∀ b o, h₃.get? b = some o → b ≠ D → h₄.get? b = some o := fun b o e q => (hs₄.2 b q).trans e
    refine ⟨n + 1 - (i + 1), by omega, h₄, tk₃, i + 1, rs ++ [T], rfl, ⟨?_, ?_, ?_, ?_, ?_, by omega, ?_, ?_, fun r hr => (List.mem_append.mp hr).elim (V.nd r) fun h => (List.mem_singleton.mp h) ▸ hTD⟩, rfl⟩
    · have e1 : (0 : Int) + ((i + 1 : Nat) : Int) = 0 + (i : Int) + 1 := by push_cast; omega
      have e2 : (n : Int) - ((i + 1 : Nat) : Int) = (n : Int) - (i : Int) - 1 := by push_cast; omega
      rw [e1, e2]
      refine up₄ _ _ (k₃ _ _ (up₂ _ _ hit₁ rfl)) ?_
      rintro rfl; rw [hoD] at hIt; have := hIt.1; cases this; exact absurd hIt.2 (by simp [isFields])
    · obtain ⟨o, e, d⟩ := hc₂
      exact ⟨_, o, up₄ _ _ (k₃ _ _ e) (by rintro rfl; rw [hoc] at hoD; cases hoD; cases hdc), d⟩
    · refine ⟨oC, es, ep, up₄ _ _ (k₃ _ _ (up₂ _ _ (up₁ _ _ hoC (by simp [isFields, hdC])) (by simp [isCell, hdC]))) ?_, hdC, hC2⟩
      intro q; rw [q] at hoC; rw [hoC] at hoD; cases hoD; cases hdC
    · have : (List.map Value.ref (rs ++ [T])).toArray = (rs.map Value.ref).toArray.push (.ref T) := by simp
      rw [this]; exact hD₄
    · rw [List.length_append, V.len]; rfl
    · intro j r hr
      by_cases hj : j < rs.length
      · rw [List.getElem?_append_left hj] at hr
        obtain ⟨its', ⟨o, ho, hcl, nn, hd⟩, hG'⟩ := V.rows j r hr
        refine ⟨its', ⟨o, up₄ _ _ (k₃ _ _ (up₂ _ _ (up₁ _ _ ho (by simp [isFields, hd])) (by simp [isCell, hd]))) (V.nd r (List.mem_of_getElem? hr)), hcl, nn, hd⟩, hG'⟩
      · rw [List.getElem?_append_right (by omega)] at hr
        have hj' : j - rs.length = 0 := by
          have := (List.getElem?_eq_some_iff.mp hr).1
          simp at this; omega
        rw [hj'] at hr
        cases hr
        obtain ⟨o, ho, hcl, nn, hd⟩ := hTl
        have hji : j = i := by have := V.len; omega
        exact ⟨its, ⟨o, up₄ _ _ ho hTD, hcl, nn, hd⟩, hji ▸ hG⟩
    · intro b o e
      have hb : @LT.lt Nat _ b g.objs.size := Heap.lt_size e
      exact up₄ _ _ (k₃ _ _ (kg b o e)) (show @Ne Nat b D by omega)
  · have hin : i = n := by have := V.le; omega
    subst hin
    refine wpAny_pyNext_range_end hh V.it (by omega) fun h₁ he₁ => ?_
    have up₁ : ∀ b o, h'.get? b = some o → isFields o = false → h₁.get? b = some o := fun b o e q => he₁ b o (nIt b o e q) e
    refine hR h₁ tk rs V.len ⟨_, up₁ _ _ hoD rfl, rfl, nD, rfl⟩ (fun j r hr => ?_) ⟨oC, es, ep, up₁ _ _ hoC (by simp [isFields, hdC]), hdC, hC2⟩ fun b o e => ?_
    · obtain ⟨its', ⟨o, ho, hcl, nn, hd⟩, hG'⟩ := V.rows j r hr
      exact ⟨its', ⟨o, up₁ _ _ ho (by simp [isFields, hd]), hcl, nn, hd⟩, hG'⟩
    · have hb : @LT.lt Nat _ b g.objs.size := Heap.lt_size e
      exact he₁ b o (show @Ne Nat b It by omega) (V.keep b o e)
end
end Mine

end
noncomputable section
namespace Mine
open PySem PySem.W PySem.Calls PyProof.Rows
open PySem.Builtin.Int (intBits)

section
variable {prog : Program} {w : World} {A : Around} {E : Value → Shared → Prop} {s : Shared} {env : Env} {mg mb : Str → Option Value}

set_option maxHeartbeats 1000000 in
/-- [elt for x in range(e)] where x is a cell of the comprehension and elt a fresh list -/
theorem cell_comp {elt e : Expr} {x : Str} {px pr p2 pos : Pos} {scope : Scope} {cl : List (Str × Addr)} {n : Nat} {Q : Value → Shared → Prop} (G : Nat → Array Value → Prop)
    (T : TopF mg mb s.heap) (hh : A.handled = none) (hn : n < 1000)
    (hev : ∀ Q' : Value → Shared → Prop, (∀ t, Q' (.int n t) s) → wpAny (model prog w) A (eval e env) Q' E s)
    (hclos : closureFor scope env = pure cl) (hkind : scope.kind = .function)
    (hnames : ∀ y ∈ scope.names, y.2 = .local → scope.names.lookup y.1 = some .local)
    (hcf : ∀ N, cellsFrom N scope.names cl = (x, N) :: cl) (hpc : ∀ h, pushCells h scope.names = h.push { cls := .type "cell", data := .cell none })
    (hx : (relabel scope env).names.lookup x = some .cell)
    (elts : ∀ C cc i s₃ t E', i < n → s₃.heap.IsCell cc (some (.int (i : Nat) t)) → s₃.heap.Ns C (fun _ => none) → Ext s.heap s₃.heap →
      wpAny (model prog w) A (eval elt (compEnvC scope ((x, cc) :: cl) C env)) (fun y s₄ => (∃ T its, y = .ref T ∧ s₃.heap.get? T = none ∧ s₄.heap.IsList T its ∧ G i its) ∧ Keeps s₃ s₄) E' s₃)
    (h : ∀ D h' tk rs, rs.length = n → h'.IsList D (rs.map Value.ref).toArray → Rows h' G rs → Ext s.heap h' → Q (.ref D) { s with heap := h', toks := tk })
    (hk : env.scope.kind = .function := by rfl) (hl : env.kindOf (Str.ofString "range") = some .globalImplicit := by rfl) (hg : env.globals = mainGlobals := by rfl) (hbn : env.builtins = builtinsNs := by rfl)
    (he : starEach [e] env = (false, eval e env) :: starEach [] env := by rfl)
    (hs : ∀ x, foldedSetIterable (.Call (.Name (Str.ofString "range") pr) [e] [] p2) env x = pure x := by intro _; rfl) :
    wpAny (model prog w) A (eval (.ListComp elt [⟨.Name x px, .Call (.Name (Str.ofString "range") pr) [e] [] p2, [], 0⟩] scope pos) env) Q E s := by
  rw [eval_ListComp]
  refine wpAny_comprehension_free (use := none) rfl hs hclos hkind hnames ?_
  refine eval_range1 T (hev _ fun t => ⟨n, t, rfl, ?_⟩) hk hl hg hbn he
  refine wpAny_pyIter_range (IsRange.new _ _ _ _ _ _ _) (small_one (by omega) (by omega) (by omega) (by omega)) ?_
  rw [rangeSize_one, show (if (0 : Int) < (n : Int) then (n : Int) - 0 else 0) = n from by split <;> omega]
  generalize hI : ({ s with heap := Heap.push s.heap { cls := .type "range", data := .fields #[.int 0 s.toks, .int n t, .int 1 (s.toks + 1)] }, toks := s.toks + 1 + 1 } : Shared).heap.objs.size = I
  have hI' : I = s.heap.objs.size + 1 := by rw [← hI]; exact Heap.size_push ..
  refine wpAny_newObj_type (newEnv_around ?_)
  rw [hcf, hpc]
  obtain ⟨H, hH⟩ : ∃ H, H = (s.heap.push { cls := .type "range", data := .fields #[.int 0 s.toks, .int n t, .int 1 (s.toks + 1)] }).push { cls := .type "range_iterator", data := .fields #[rawInt 0, rawInt n, rawInt 1] } := ⟨_, rfl⟩
  have hHs : H.objs.size = s.heap.objs.size + 2 := by rw [hH, Heap.size_push, Heap.size_push]
  have hHI : IsRangeIter H I (0 + ((0 : Nat) : Int)) ((n : Int) - ((0 : Nat) : Int)) 1 := by
    have q := Heap.get?_push_size (s.heap.push { cls := .type "range", data := .fields #[.int 0 s.toks, .int n t, .int 1 (s.toks + 1)] }) (o := { cls := .type "range_iterator", data := .fields #[rawInt 0, rawInt n, rawInt 1] }) rfl
    rw [Heap.size_push, ← hH, ← hI'] at q
    simpa using q
  have hHk : Ext s.heap H := by rw [hH]; exact fun b o e => Heap.get?_push_of_some _ (Heap.get?_push_of_some _ e)
  simp only [← hH]
  obtain ⟨H4, hH4⟩ : ∃ H4, H4 = ((H.push { cls := .type "list", dict := none, data := .seq ([] : List Value).toArray }).push { cls := .type "dict", data := .dict #[] }).push { cls := .type "cell", data := .cell none } := ⟨_, rfl⟩
  have s1 : (H.push { cls := .type "list", dict := none, data := .seq ([] : List Value).toArray }).objs.size = s.heap.objs.size + 3 := by rw [Heap.size_push, hHs]
  have s2 : ((H.push { cls := .type "list", dict := none, data := .seq ([] : List Value).toArray }).push { cls := .type "dict", data := .dict #[] }).objs.size = s.heap.objs.size + 4 := by rw [Heap.size_push, s1]
  have kH4 : Ext H H4 := by rw [hH4]; exact fun b o e => Heap.get?_push_of_some _ (Heap.get?_push_of_some _ (Heap.get?_push_of_some _ e))
  have V : CellInv s.heap I (s.heap.objs.size + 4) (s.heap.objs.size + 3) (s.heap.objs.size + 2) n G 0 [] H4 := by
    refine ⟨kH4 _ _ hHI, ⟨none, ?_⟩, ?_, ?_, rfl, Nat.zero_le _, fun j r hr => by simp at hr, fun b o e => kH4 _ _ (hHk _ _ e), fun r hr => by simp at hr⟩
    · have q := Heap.get?_push_size ((H.push { cls := .type "list", dict := none, data := .seq ([] : List Value).toArray }).push { cls := .type "dict", data := .dict #[] }) (o := { cls := .type "cell", data := .cell none }) rfl
      rw [s2, ← hH4] at q
      exact ⟨_, q, rfl⟩
    · have q := Heap.Ns.new (H.push { cls := .type "list", dict := none, data := .seq ([] : List Value).toArray }) (.type "dict")
      rw [s1] at q
      rw [hH4]
      exact q.keeps fun b o e => Heap.get?_push_of_some _ e
    · have q := Heap.get?_push_size H (o := { cls := .type "list", dict := none, data := .seq ([] : List Value).toArray }) rfl
      rw [hHs] at q
      rw [hH4]
      exact ⟨0, Heap.get?_push_of_some _ (Heap.get?_push_of_some _ q)⟩
  have loop : ∀ s₃ : Shared, s₃ = { s with heap := H4, toks := s.toks + 1 + 1 } →
      codeAny (model prog w) A (.compLoop (.ListComp elt [⟨.Name x px, .Call (.Name (Str.ofString "range") pr) [e] [] p2, [], 0⟩] scope pos) 0 (.ref I) (.ref (s.heap.objs.size + 2)) (compEnvC scope ((x, s.heap.objs.size + 4) :: cl) (s.heap.objs.size + 3) env))
        (compPost (model prog w) A E none Q (.ref (s.heap.objs.size + 2)) (s.heap.objs.size + 3)) s₃ := by
    rintro s₃ rfl
    refine cell_loop (g := s.heap) (cc := s.heap.objs.size + 4) (D := s.heap.objs.size + 2) (n := n) G hh hn (by simp [compEnvC, relabel, hkind]) hx (by show List.lookup x ((x, _) :: cl) = _; rw [List.lookup_cons_self]) (by omega) (by omega) (by show s.heap.objs.size ≤ s.heap.objs.size + 3; omega) (by omega) V
      (fun i s₃ t E' hi hc hns hk => elts _ _ i s₃ t E' hi hc hns hk) fun h' tk rs hlen hD hrows hns hk => ?_
    refine ⟨_, hns, fun h'' hs'' => ?_⟩
    have hns' : h'.Ns (s.heap.objs.size + 3) (fun _ => none) := hns
    obtain ⟨oC, es, ep, hoC, hdC, hC2⟩ := hns'
    have up : ∀ b o, h'.get? b = some o → isSeq o = true → h''.get? b = some o := fun b o e q => (hs''.2 b (by rintro rfl; rw [hoC] at e; cases e; simp [isSeq, hdC] at q)).trans e
    refine h _ h'' tk rs hlen ?_ (fun j r hr => ?_) fun b o e => ?_
    · obtain ⟨o, ho, hc, nn, hd⟩ := hD
      exact ⟨o, up _ _ ho (by simp [isSeq, hd]), hc, nn, hd⟩
    · obtain ⟨its, ⟨o, ho, hc, nn, hd⟩, hG⟩ := hrows j r hr
      exact ⟨its, ⟨o, up _ _ ho (by simp [isSeq, hd]), hc, nn, hd⟩, hG⟩
    · have hb : @LT.lt Nat _ b s.heap.objs.size := Heap.lt_size e
      exact (hs''.2 b (show @Ne Nat b (s.heap.objs.size + 3) by omega)).trans (hk b o e)
  have eD : H.objs.size = s.heap.objs.size + 2 := hHs
  have fin := codeAny_compStart_list (loop _ rfl) (wpAny_pyIter_rangeiter (kH4 _ _ hHI) (loop _ rfl))
  rw [← hH4, s1]
  simp only [hHs]
  exact fin
end
end Mine

end
noncomputable section
namespace Mine
open PySem PySem.W PySem.Calls PyProof.Rows PySem.Spec PySem.SeqAt

def intsD (l : List Int) : PyData := .list (l.map PyData.int)
def matD (L : List (List Int)) : PyData := .list (L.map intsD)

theorem canLay_mat : ∀ L : List (List Int), PyData.canLayAll0 (L.map intsD) = true
  | [] => by simp [PyData.canLayAll0]
  | r :: L => by
    simp only [List.map_cons, PyData.canLayAll0, intsD, PyData.canLay0, canLayAll0_ints, Bool.true_and]
    exact canLay_mat L
theorem depth_mat : ∀ L : List (List Int), PyData.depthAll (L.map intsD) ≤ 2
  | [] => by simp [PyData.depthAll]
  | r :: L => by
    have := depth_mat L
    have h2 := PySem.W.depthAll_ints r
    simp only [List.map_cons, PyData.depthAll, PyData.depth, intsD]
    omega
theorem shaped_mat (L : List (List Int)) : shaped (matD L) = true := by
  have h1 := depth_mat L
  have h2 : PyData.depth (matD L) ≤ 64 := by simp only [PyData.depth, matD]; omega
  show (PyData.canLay0 (matD L) && decide (PyData.depth (matD L) ≤ 64)) = true
  rw [Bool.and_eq_true]
  exact ⟨by simp only [PyData.canLay0, matD]; exact canLay_mat L, decide_eq_true h2⟩
theorem noMix_mat : ∀ L K : List (List Int), noMixAll (L.map intsD) (K.map intsD) = true
  | [], [] => by simp [noMixAll]
  | [], _ :: _ => by simp [noMixAll]
  | _ :: _, [] => by simp [noMixAll]
  | r :: L, q :: K => by
    simp only [List.map_cons, noMixAll, noMix, intsD, noMix_ints, Bool.true_and]
    exact noMix_mat L K

theorem readsAll_mat {h : Heap} : ∀ (rs : List Addr) (L : List (List Int)), rs.length = L.length → (∀ (i : Nat) (r : Addr) (l : List Int), rs[i]? = some r → L[i]? = some l → ∃ vs : List Value, h.IsList r vs.toArray ∧ IntsAre vs l) → ∃ as, ReadsAll h (rs.map Value.ref) (L.map intsD) as
  | [], [], _, _ => ⟨_, .nil⟩
  | r :: rs, l :: L, e, k => by
    obtain ⟨vs, hl, hi⟩ := k 0 r l rfl rfl
    obtain ⟨as, ha⟩ := readsAll_mat rs L (by simpa using e) fun i r l h1 h2 => k (i + 1) r l (by simpa using h1) (by simpa using h2)
    exact ⟨_, .cons (reads_of_ints hl hi) ha⟩
  | [], _ :: _, e, _ => by simp at e
  | _ :: _, [], e, _ => by simp at e

def matL (n : Nat) (f : Nat → Nat → Int) : List (List Int) := (List.range n).map fun i => (List.range n).map fun j => f i j

theorem row_ints {h : Heap} {r : Addr} {n : Nat} {f : Nat → Int} (x : RowAt h r n f) : ∃ vs : List Value, h.IsList r vs.toArray ∧ IntsAre vs ((List.range n).map f) := by
  obtain ⟨vs, hl, hn, hv⟩ := x
  refine ⟨vs, hl, ints_of_get (by simp [hn]) fun j v k hj hk => ?_⟩
  have hjn : j < n := by rw [← hn]; exact (List.getElem?_eq_some_iff.mp hj).1
  obtain ⟨t, ht⟩ := hv j hjn
  rw [List.getElem?_map, List.getElem?_range hjn] at hk
  cases hk
  rw [ht] at hj
  exact ⟨t, (Option.some.inj hj).symm⟩

theorem reads_mat {h : Heap} {a : Addr} {rs : List Addr} {n : Nat} {f : Nat → Nat → Int} (M : MatAt h a rs n n f) : ∃ as, Reads h (.ref a) (matD (matL n f)) as := by
  obtain ⟨as, ha⟩ := readsAll_mat (h := h) rs (matL n f) (by simp [M.len, matL]) fun i r l hr hl => by
    have hi : i < n := by rw [← M.len]; exact (List.getElem?_eq_some_iff.mp hr).1
    unfold matL at hl
    rw [List.getElem?_map, List.getElem?_range hi] at hl
    cases hl
    exact row_ints (M.row i r hr)
  obtain ⟨o, ho, hc, nn, hd⟩ := M.top
  exact ⟨_, Reads.list ho hc hd (by simpa using ha)⟩

section
variable {prog : Program} {w : World} {A : Around} {E : Value → Shared → Prop} {s : Shared} {env : Env} {mg mb : Str → Option Value}

theorem ne_mat {a b : Addr} {rs rs' : List Addr} {n : Nat} {f f' : Nat → Nat → Int} {Q : Value → Shared → Prop} (Ma : MatAt s.heap a rs n n f) (Mb : MatAt s.heap b rs' n n f') (e : ∀ i j, i < n → j < n → f i j = f' i j)
    (hu : A.units + 64 < cLine) (h : Q (.bool false) s) : wpAny (model prog w) A (compareOp .NotEq (.ref a) (.ref b)) Q E s := by
  obtain ⟨as, ra⟩ := reads_mat (Ma.congr e)
  obtain ⟨bs, rb⟩ := reads_mat Mb
  exact ne_dataH_same ra rb (shaped_mat _) (shaped_mat _) hu (by simp only [noMix, matD]; exact noMix_mat _ _) (by rw [Spec.same_self]; exact h)
end
end Mine

end
noncomputable section
namespace Mine
open PySem PySem.W PySem.Calls PyProof.Rows
open PySem.Builtin.Int (intBits)

def lawS (k : Nat) : Stmt := match (item 13).body[k]? with | some s => s | none => .Pass default
abbrev lawEnv (pm cd doc : Value) (L fa : Addr) : Env := callEnvC (docDef (item 13).name (item 13).params (item 13).body (item 13).scope pm cd doc) L fa

/-- what holds of the matrix and the pool -/
structure Pay (L p q D : Addr) (rs : List Addr) (ns : List Int) (n : Nat) (spot : Nat) (f : Nat → Nat → Int) (m : Str → Option Value) (h : Heap) : Prop where
  cn : ∃ t, h.IsCell (L + 1) (some (.int n t))
  ca : h.IsCell (L + 2) (some (.ref D))
  ep : m (Str.ofString "pool") = some (.ref p)
  pl : PoolAt h p q ns spot
  M : MatAt h D rs n n f
theorem Pay.sk {L p q D rs ns n spot f m h h'} (x : Pay L p q D rs ns n spot f m h) (k : SK h h') : Pay L p q D rs ns n spot f m h' :=
  ⟨x.cn.elim fun t e => ⟨t, IsCell.sk e k⟩, IsCell.sk x.ca k, x.ep, x.pl.sk k, x.M.sk k⟩

/-- addresses apart -/
structure Apart (g : Heap) (p q D : Addr) (rs : List Addr) : Prop where
  nd : rs.Nodup
  Dr : D ∉ rs
  pD : p ≠ D
  pr : p ∉ rs
  qr : q ∉ rs
  gp : g.get? p = none
  gr : ∀ r ∈ rs, g.get? r = none

def Skew2 (f : Nat → Nat → Int) : Prop := (∀ i j, f i j = - f j i) ∧ ∀ i j, (f i j).natAbs ≤ 2

theorem Skew2.upd {f : Nat → Nat → Int} (h : Skew2 f) {i j : Nat} (hij : i ≠ j) {v : Int} (hv : v.natAbs ≤ 2) : Skew2 (updF (updF f i j v) j i (0 - v)) := by
  refine ⟨fun r c => ?_, fun r c => ?_⟩
  · unfold updF
    have := h.1 r c
    split <;> split <;> (try split) <;> (try split) <;> omega
  · unfold updF
    have := h.2 r c
    split
    · omega
    · split <;> omega

/-- after a draw: the cell objects -/
theorem cell_kp {h h' : Heap} {p : Addr} {vs} {c v} (hp : h.IsList p vs) (k : ∀ b o, b ≠ p → h.get? b = some o → h'.get? b = some o) (x : h.IsCell c v) : h'.IsCell c v := by
  obtain ⟨o, ho, hd⟩ := x
  refine ⟨o, k _ _ ?_ ho, hd⟩
  rintro rfl
  obtain ⟨o', ho', _, n', hd'⟩ := hp
  rw [ho] at ho'; cases ho'; rw [hd] at hd'; cases hd'
theorem ns_kp {h h' : Heap} {p : Addr} {vs} {L m} (hp : h.IsList p vs) (k : ∀ b o, b ≠ p → h.get? b = some o → h'.get? b = some o) (x : h.Ns L m) : h'.Ns L m := by
  obtain ⟨o, es, ep, ho, hd, e⟩ := x
  refine ⟨o, es, ep, k _ _ ?_ ho, hd, e⟩
  rintro rfl
  obtain ⟨o', ho', _, n', hd'⟩ := hp
  rw [ho] at ho'; cases ho'; rw [hd] at hd'; cases hd'
theorem nk_kp {h h' : Heap} {p : Addr} {vs} (hp : h.IsList p vs) (k : ∀ b o, b ≠ p → h.get? b = some o → h'.get? b = some o) : NK h h' := fun b o e q => by
  refine k _ _ ?_ e
  rintro rfl
  obtain ⟨o', ho', _, n', hd'⟩ := hp
  rw [e] at ho'; cases ho'
  simp [isFields, hd'] at q
theorem mat_kp {h h' : Heap} {p a : Addr} {rs n k f} (M : MatAt h a rs n k f) (ha : a ≠ p) (hr : p ∉ rs) (kk : ∀ b o, b ≠ p → h.get? b = some o → h'.get? b = some o) : MatAt h' a rs n k f := by
  refine ⟨let ⟨o, ho, r⟩ := M.top; ⟨o, kk _ _ ha ho, r⟩, M.len, fun i r e => ?_⟩
  obtain ⟨vs, ⟨o, ho, r'⟩, b, c⟩ := M.row i r e
  exact ⟨vs, ⟨o, kk _ _ (fun q => hr (q ▸ List.mem_of_getElem? e)) ho, r'⟩, b, c⟩
theorem fr_kp {g h h' : Heap} {p : Addr} {vs} {L m} (F : Fr g L h m) (hp : h.IsList p vs) (gp : g.get? p = none) (k : ∀ b o, b ≠ p → h.get? b = some o → h'.get? b = some o) : Fr g L h' m :=
  ⟨ns_kp hp k F.ns, fun b o e => k _ _ (by rintro rfl; rw [gp] at e; cases e) (F.keep b o e), F.above⟩

theorem Pay.draw {L p q D rs ns n spot f m h h' g} (x : Pay L p q D rs ns n spot f m h) (hA : Apart g p q D rs) (pl : PoolAt h' p q ns (spot + 1)) (k : ∀ b o, b ≠ p → h.get? b = some o → h'.get? b = some o) : Pay L p q D rs ns n (spot + 1) f m h' := by
  obtain ⟨t, hp⟩ := x.pl.top
  exact ⟨x.cn.elim fun t e => ⟨t, cell_kp hp k e⟩, cell_kp hp k x.ca, x.ep, pl, mat_kp x.M (Ne.symm hA.pD) hA.pr k⟩
/-- a row is changed -/
theorem Pay.set {L p q D rs ns n spot f f' m h h' g} {r : Addr} {vs} (x : Pay L p q D rs ns n spot f m h) (hA : Apart g p q D rs) (hr : r ∈ rs) (hl : h.IsList r vs) (M : MatAt h' D rs n n f') (hs : Heap.SameBut r h h') : Pay L p q D rs ns n spot f' m h' := by
  have k : ∀ b o, b ≠ r → h.get? b = some o → h'.get? b = some o := fun b o hb e => (hs.2 b hb).trans e
  refine ⟨x.cn.elim fun t e => ⟨t, cell_kp hl k e⟩, cell_kp hl k x.ca, x.ep, ⟨x.pl.top.elim fun t e => ⟨t, IsList.sb e hs (fun q => hA.pr (q ▸ hr))⟩, ?_, x.pl.ne⟩, M⟩
  obtain ⟨vs', a, b⟩ := x.pl.lst
  exact ⟨vs', IsList.sb a hs (fun q => hA.qr (q ▸ hr)), b⟩

section
variable {prog : Program} {w : World} {A : Around} {E : Value → Shared → Prop} {s : Shared} {env : Env} {mg mb : Str → Option Value}

/-- _law_draw(pool, k) -/
theorem eval_draw {g : Heap} {L p q : Addr} {m : Str → Option Value} {ns : List Int} {spot many : Nat} {kk : Nat} {pn pp pk pos : Pos} {Q : Value → Shared → Prop} (T : TopF mg mb s.heap) (hd : A.depth < recursionLimit)
    (F : Fr g L s.heap m) (hL : env.locals = L) (ep : m (Str.ofString "pool") = some (.ref p)) (P : PoolAt s.heap p q ns spot) (hn : ns.length < 1000) (hs : spot < 1000) (hm : 0 < many) (hm' : many < 1000) (gp : g.get? p = none)
    (h : ∀ (d : Nat) t h' tk, d < many → Fr g L h' m → NK s.heap h' → PoolAt h' p q ns (spot + 1) → (∀ b o, b ≠ p → s.heap.get? b = some o → h'.get? b = some o) → Q (.int d t) { s with heap := h', toks := tk })
    (hk : env.scope.kind = .function := by rfl) (hl : env.kindOf (Str.ofString "pool") = some .local := by rfl) (hl2 : env.kindOf (Str.ofString "_law_draw") = some .globalImplicit := by rfl) (hg : env.globals = mainGlobals := by rfl)
    (he : starEach [.Name (Str.ofString "pool") pp, .Constant (.int many) kk pk] env = (false, eval (.Name (Str.ofString "pool") pp) env) :: starEach [.Constant (.int many) kk pk] env := by rfl)
    (he2 : starEach [.Constant (.int many) kk pk] env = (false, eval (.Constant (.int many) kk pk) env) :: starEach [] env := by rfl) :
    wpAny (model prog w) A (eval (.Call (.Name (Str.ofString "_law_draw") pn) [.Name (Str.ofString "pool") pp, .Constant (.int many) kk pk] [] pos) env) Q E s := by
  subst hL
  refine eval_fn (item 9) (by simp [items]) (by rfl) T (fun fb hfb => ?_) hk hl2 hg (by decide) he
  refine args_cons (nm F.ns ep (args_cons (wpAny_Constant_int (args_nil ⟨fun _ _ e => e, ?_⟩)) he2) hk hl) he
  obtain ⟨tp, hp⟩ := P.top
  refine call_of (draw_spec T hd hfb P hn hs hm hm') fun v h' tk hv => ?_
  obtain ⟨⟨d, t, hdm, rfl⟩, pl, k⟩ := hv
  exact h d t h' tk hdm (fr_kp F hp gp k) (nk_kp hp k) pl k
end
end Mine

end
noncomputable section
namespace Mine
open PySem PySem.W PySem.Calls PyProof.Rows
open PySem.Builtin.Int (intBits)

section
variable {prog : Program} {w : World} {A : Around} {E : Value → Shared → Prop} {s : Shared} {env : Env} {mg mb : Str → Option Value}

set_option maxHeartbeats 2000000 in
theorem law_fill {g : Heap} {L fa p q D : Addr} {pm cd doc : Value} {rs : List Addr} {ns : List Int} {n : Nat} {m : Str → Option Value} {Q : Flow → Shared → Prop}
    (T : TopF mg mb g) (hh : A.handled = none) (hd : A.depth < recursionLimit) (F : Fr g L s.heap m) (hA : Apart g p q D rs) (hn : n ≤ 5) (hns : ns.length < 1000)
    (Y : Pay L p q D rs ns n 1 (fun _ _ => 0) m s.heap)
    (h : ∀ h' tk m' spot f, Fr g L h' m' → spot ≤ 26 → Skew2 f → Pay L p q D rs ns n spot f m' h' → Q .next { s with heap := h', toks := tk }) :
    wpAny (model prog w) A (exec (lawS 3) (lawEnv pm cd doc L fa)) Q E s := by
  have T₁ := T.ext F.keep
  refine Y.cn.elim fun tn cn => ?_
  refine wpAny_For (eval_range1 T₁ (nmC (c := L + 1) (by rfl) cn ⟨_, _, rfl, ?_⟩))
  refine iter_rng n (fun i m h => ∃ spot f, spot ≤ 1 + 5 * i ∧ Skew2 f ∧ Pay L p q D rs ns n spot f m h) (g := g) hh (IsRange.new _ _ _ _ _ _ _) (by split <;> omega) (by omega) (by omega) (F.push _)
    ?_ ⟨1, _, by omega, ⟨fun _ _ => rfl, fun _ _ => by simp⟩, Y.sk (.of_ext fun _ _ => Heap.get?_push_of_some _)⟩ ?_ ?_
  · rintro i m h h' ⟨spot, f, h1, h2, h3⟩ k
    exact ⟨spot, f, h1, h2, h3.sk k⟩
  · rintro i h tk m hi F' ⟨spot, f, h1, h2, Y'⟩
    have T' := T.ext F'.keep
    refine wpAny_execs_cons (wpAny_For (eval_range1 T' (nm F'.ns (by walk_at "lk") ⟨_, _, rfl, ?_⟩)))
    have Y₀ : Pay L p q D rs ns n spot f (fun y => if y = Str.ofString "row" then some (Value.int (0 + (i : Int)) tk) else m y) h := ⟨Y'.cn, Y'.ca, (if_neg (by decide)).trans Y'.ep, Y'.pl, Y'.M⟩
    refine iter_rng i (fun j m h => ∃ spot f, spot ≤ 1 + 5 * i + j ∧ Skew2 f ∧ Pay L p q D rs ns n spot f m h ∧ ∃ t, m (Str.ofString "row") = some (.int (i : Nat) t)) (g := g) hh (IsRange.new _ _ _ _ _ _ _) (by split <;> omega) (by omega) (by omega) (F'.push _)
      ?_ ⟨spot, f, by omega, h2, Y₀.sk (.of_ext fun _ _ => Heap.get?_push_of_some _), tk, (if_pos rfl).trans (by rw [Int.zero_add])⟩ ?_ ?_
    · rintro i m h h' ⟨spot, f, h1, h2, h3, h4⟩ k
      exact ⟨spot, f, h1, h2, h3.sk k, h4⟩
    · rintro j h₁ tk₁ m₁ hj F₁ ⟨spot₁, f₁, h1', h2', Y₁, tr, er⟩
      have T₁ := T.ext F₁.keep
      obtain ⟨ri, hri⟩ : ∃ r, rs[i]? = some r := ⟨_, List.getElem?_eq_getElem (by rw [Y₁.M.len]; omega)⟩
      obtain ⟨rj, hrj⟩ : ∃ r, rs[j]? = some r := ⟨_, List.getElem?_eq_getElem (by rw [Y₁.M.len]; omega)⟩
      have hrim : ri ∈ rs := List.mem_of_getElem? hri
      have hrjm : rj ∈ rs := List.mem_of_getElem? hrj
      refine wpAny_execs_cons (wpAny_Assign_Subscript (wpAny_BinOp ?_))
      refine eval_draw (many := 5) T₁ hd F₁ rfl ((if_neg (by decide)).trans Y₁.ep) Y₁.pl hns (by omega) (by decide) (by decide) hA.gp fun d td h₂ tk₂ hd5 F₂ nk₂ pl₂ k₂ => ?_
      try dsimp only
      have Y₂ := Y₁.draw hA pl₂ k₂
      refine wpAny_Constant_int (sub_int ?_)
      refine Subscript_ (nmC (c := L + 2) (by rfl) Y₂.ca (nm F₂.ns (by walk_at "lk") ?_))
      refine item_l (j := j) Y₂.M.top (Int.zero_add _) (by omega) (x := .ref rj) (by rw [List.getElem?_map, hrj]; rfl) ?_
      refine nm F₂.ns ((if_neg (by decide)).trans er) ?_
      obtain ⟨vj, hvj, _⟩ := Y₂.M.row j rj hrj
      refine mat_setItem Y₂.M hA.nd hA.Dr hrj (jj := i) (by omega) (by omega) rfl fun h₃ M₃ hs₃ nk₃ hns₃ => ?_
      try dsimp only
      have F₃ := Fr.chg F₂ (hA.gr rj hrjm) hs₃ hns₃
      have Y₃ := Y₂.set hA hrjm hvj M₃ hs₃
      refine wpAny_execs_cons (wpAny_Assign_Subscript (wpAny_BinOp (wpAny_Constant_int ?_)))
      have ez : updF f₁ j i ((d : Int) - 2) j i = (d : Int) - 2 := if_pos ⟨rfl, rfl⟩
      refine mat_get (ii := j) (jj := i) Y₃.M ez (by omega) (by omega) (by omega) (by omega) (fun Q' q => nmC (c := L + 2) (by rfl) Y₃.ca q) (fun Q' q => nm F₃.ns (by walk_at "lk") (q _ _ (Int.zero_add _)))
        (fun Q' q => nm F₃.ns ((if_neg (by decide)).trans er) (q _ _ rfl)) (fun t₄ => ?_)
      try dsimp only
      refine sub_int ?_
      refine Subscript_ (nmC (c := L + 2) (by rfl) Y₃.ca (nm F₃.ns ((if_neg (by decide)).trans er) ?_))
      refine item_l (j := i) Y₃.M.top rfl (by omega) (x := .ref ri) (by rw [List.getElem?_map, hri]; rfl) ?_
      refine nm F₃.ns (by walk_at "lk") ?_
      obtain ⟨vi, hvi, _⟩ := Y₃.M.row i ri hri
      refine mat_setItem Y₃.M hA.nd hA.Dr hri (jj := j) (by omega) (by omega) (Int.zero_add _) fun h₄ M₄ hs₄ nk₄ hns₄ => ?_
      try dsimp only
      have F₄ := Fr.chg F₃ (hA.gr ri hrim) hs₄ hns₄
      have Y₄ := Y₃.set hA hrim hvi M₄ hs₄
      refine wpAny_execs_nil ⟨_, _, _, rfl, F₄, (nk₂.trans nk₃).trans nk₄, spot₁ + 1, _, by omega, h2'.upd (i := j) (j := i) (by omega) (v := (d : Int) - 2) (by omega), ⟨Y₄.cn, Y₄.ca, (if_neg (by decide)).trans Y₁.ep, Y₄.pl, Y₄.M⟩, tr, (if_neg (by decide)).trans er⟩
    · rintro h₁ tk₁ m₁ F₁ nk₁ ⟨spot₁, f₁, h1', h2', Y₁, er⟩
      refine wpAny_execs_nil ⟨_, _, _, rfl, F₁, (NK.of_ext fun _ _ e => Heap.get?_push_of_some _ e).trans nk₁, spot₁, f₁, by omega, h2', Y₁⟩
  · rintro h' tk m' F' nk ⟨spot, f, h1, h2, Y'⟩
    exact h h' tk m' spot f F' (by omega) h2 Y'
end
end Mine

end
noncomputable section
namespace Mine
open PySem PySem.W PySem.Calls PyProof.Rows
open PySem.Builtin.Int (intBits)

section
variable {prog : Program} {w : World} {A : Around} {E : Value → Shared → Prop} {s : Shared} {env : Env} {mg mb : Str → Option Value}

theorem Fr.ext {g h h' : Heap} {L m} (F : Fr g L h m) (k : Ext h h') : Fr g L h' m := ⟨F.ns.keeps k, fun b o e => k _ _ (F.keep b o e), F.above⟩

theorem bits2 {x : Int} (h : x.natAbs ≤ 2) : intBits x ≤ 7 := PyProof.Rows.intBits_le (by omega)

set_option maxHeartbeats 1000000 in
theorem law_due {g : Heap} {L fa p q D : Addr} {pm cd doc : Value} {rs : List Addr} {ns : List Int} {n spot : Nat} {f : Nat → Nat → Int} {m : Str → Option Value} {Q : Flow → Shared → Prop}
    (T : TopF mg mb g) (hh : A.handled = none) (hd : A.depth + 60 < recursionLimit) (hu : A.units + 400 < cLine) (F : Fr g L s.heap m) (h2 : 2 ≤ n) (hn : n ≤ 5) (hf : Skew2 f)
    (Y : Pay L p q D rs ns n spot f m s.heap)
    (h : ∀ h' tk m', Fr g L h' m' → Pay L p q D rs ns n spot f m' h' → (∃ t, m' (Str.ofString "due") = some (.int (detF n f) t)) → Q .next { s with heap := h', toks := tk }) :
    wpAny (model prog w) A (exec (lawS 4) (lawEnv pm cd doc L fa)) Q E s := by
  have T₁ := T.ext F.keep
  refine Y.cn.elim fun tn cn => ?_
  have ed := sk_det hf.1 n h2 hn
  have em : (n : Int).fmod 2 = ((n % 2 : Nat) : Int) := fmodNat n 2
  have fin : ∀ h' tk z t m₀, Fr g L h' m₀ → Pay L p q D rs ns n spot f m₀ h' → detF n f = z →
      wpAny (model prog w) A (storeName (lawEnv pm cd doc L fa) (Str.ofString "due") (.int z t)) (fun _ s' => Q .next s') E { s with heap := h', toks := tk } := by
    intro h' tk z t m₀ F' Y' e
    refine stL F'.ns fun h₃ hn₃ hs₃ => ?_
    have Y₃ := Y'.sk (DK.of_ns F'.ns hs₃).sk
    exact h _ _ _ (F'.set hn₃ hs₃) ⟨Y₃.cn, Y₃.ca, (if_neg (by decide)).trans Y'.ep, Y₃.pl, Y₃.M⟩ ⟨t, (if_pos rfl).trans (congrArg (fun z => some (Value.int z t)) e.symm)⟩
  by_cases ho : n % 2 = 1
  · have eb : ((n : Int).fmod 2 == 1) = true := by rw [em, ho]; rfl
    rw [if_pos ho] at ed
    refine wpAny_Assign_Name (IfExp_ (wpAny_isTrue_Compare1 (wpAny_BinOp (nmC (c := L + 1) (by rfl) cn (wpAny_Constant_int (mod_int' (by decide) (wpAny_Constant_int (eq_intB eb (wpAny_truthy_bool (ite_t (wpAny_Constant_int ?_))))))))))) 
    exact fin _ _ _ _ _ F Y ed
  · have eb : ((n : Int).fmod 2 == 1) = false := by rw [em]; rw [show n % 2 = 0 from by omega]; rfl
    rw [if_neg ho] at ed
    refine wpAny_Assign_Name (IfExp_ (wpAny_isTrue_Compare1 (wpAny_BinOp (nmC (c := L + 1) (by rfl) cn (wpAny_Constant_int (mod_int' (by decide) (wpAny_Constant_int (eq_intB eb (wpAny_truthy_bool (ite_f ?_)))))))))) 
    refine wpAny_BinOp (eval_fn (item 10) (by simp [items]) (by rfl) T₁ (fun fb hfb => ?_))
    refine args_cons (nmC (c := L + 2) (by rfl) Y.ca (args_cons ?_))
    refine list_range (n := n) T₁ hh (by omega) (fun Q' q => nmC (c := L + 1) (by rfl) cn (q _)) fun D₂ h₈ tk₈ ys₂ k₈ hl₂ hi₂ => ?_
    rw [rangeI_natsI] at hi₂
    refine args_nil ⟨k₈, ?_⟩
    have Y₈ := Y.sk (.of_ext k₈)
    have hlr : ∀ x ∈ List.range n, x < n ∧ x < n := fun x hx => ⟨List.mem_range.mp hx, List.mem_range.mp hx⟩
    have bm := matF_bits hf.2 n hn (List.range n) (by simp; omega)
    refine call_of (match_spec hfb (by omega) (by omega) (fun i j _ _ => by have := bits2 (hf.2 i j); omega) n _ _ D₂ _ _ (by simp) (T₁.ext k₈) hh (by omega) (by omega) Y₈.M hl₂ hi₂ hlr (by simp; omega)) fun v h₉ tk₉ hv => ?_
    obtain ⟨k₉, t₉, rfl⟩ := hv
    refine wpAny_Constant_int (pow_int (by decide) ?_ ?_)
    · have : ((intBits (matF f n (List.range n)) : Nat) : Int) ≤ 60 := by omega
      have e27 : (2 : Int) ^ 27 = 134217728 := by decide
      rw [e27]; omega
    · exact fin _ _ _ _ _ (Fr.ext (Fr.ext F k₈) k₉) (Y₈.sk (.of_ext k₉)) ed
end
end Mine

end
noncomputable section
namespace Mine
open PySem PySem.W PySem.Calls PyProof.Rows
open PySem.Builtin.Int (intBits)

section
variable {prog : Program} {w : World} {A : Around} {E : Value → Shared → Prop} {s : Shared} {env : Env} {mg mb : Str → Option Value}

theorem intsD_len {n : Nat} {ys : List Value} {g : Int → Int} (hi : IntsAre ys ((rangeI n).map g)) : ys.length = n := by rw [hi.length]; simp [rangeI]

set_option maxHeartbeats 4000000 in
theorem law_test {g : Heap} {L fa p q D : Addr} {pm cd doc : Value} {rs : List Addr} {ns : List Int} {n spot : Nat} {f : Nat → Nat → Int} {m : Str → Option Value} {Q : Flow → Shared → Prop}
    (T : TopF mg mb g) (hh : A.handled = none) (hd : A.depth + 60 < recursionLimit) (hu : A.units + 400 < cLine) (F : Fr g L s.heap m) (h2 : 2 ≤ n) (hn : n ≤ 5) (hf : Skew2 f)
    (Y : Pay L p q D rs ns n spot f m s.heap) (hdue : ∃ t, m (Str.ofString "due") = some (.int (detF n f) t))
    (h : ∀ h' tk, Ext s.heap h' → Q .next { s with heap := h', toks := tk }) :
    wpAny (model prog w) A (exec (lawS 5) (lawEnv pm cd doc L fa)) Q E s := by
  have T₁ := T.ext F.keep
  refine Y.cn.elim fun tn cn => ?_
  refine hdue.elim fun td edue => ?_
  have b7 : ∀ i j, i < n → j < n → intBits (f i j) ≤ 7 := fun i j _ _ => bits2 (hf.2 i j)
  refine wpAny_If (isTrue_or (wpAny_isTrue_Compare1 ?_))
  refine eval_fn (item 5) (by simp [items]) (by rfl) T₁ (fun fb hfb => ?_)
  refine args_cons (nmC (c := L + 2) (by rfl) Y.ca (args_nil ⟨fun _ _ e => e, ?_⟩))
  refine call_of (det_spec T₁ hh (by omega) (by omega) hfb Y.M (by omega) b7) fun v h₁ tk₁ hv => ?_
  obtain ⟨k₁, t₁, rfl⟩ := hv
  have F₁ := Fr.ext F k₁
  refine nm F₁.ns edue (ne_intB (c := false) (by simp) (wpAny_truthy_bool (ite_f ?_)))
  have Y₁ := Y.sk (.of_ext k₁)
  have T₂ := T.ext F₁.keep
  refine isTrue_or (wpAny_isTrue_Compare1 ?_)
  refine eval_fn (item 7) (by simp [items]) (by rfl) T₂ (fun fc hfc => ?_)
  refine args_cons (nmC (c := L + 2) (by rfl) Y₁.ca (args_nil ⟨fun _ _ e => e, ?_⟩))
  refine call_of (adj_spec T₂ hh (by omega) (by omega) hfc Y₁.M (by omega) b7) fun v h₂ tk₂ hv => ?_
  obtain ⟨k₂, B, rb, rfl, MB⟩ := hv
  have F₂ := Fr.ext F₁ k₂
  have Y₂ := Y₁.sk (.of_ext k₂)
  have T₃ := T.ext F₂.keep
  refine Y₂.cn.elim fun tn₂ cn₂ => ?_
  refine cell_comp (n := n) (fun i its => ∃ ys : List Value, its = ys.toArray ∧ IntsAre ys ((rangeI n).map fun k => lmF n f i k.toNat)) T₃ hh (by omega) (fun Q' q => nmC (c := L + 1) (by rfl) cn₂ (q _))
    (cl := [(Str.ofString "n", L + 1), (Str.ofString "a", L + 2)]) (by rfl) (by rfl) (by decide) (fun N => by rfl) (fun h => by rfl) (by rfl) ?_ ?_
  · intro C cc i s₃ t E' hi hcc hns k₃
    have T₄ := T₃.ext k₃
    have Y₃ := Y₂.sk (.of_ext k₃)
    refine Y₃.cn.elim fun tn₃ cn₃ => ?_
    refine range_comp (n := n) (fun _ => true) (fun k => lmF n f i k.toNat) T₄ hh (by omega) (fun Q' q => nmC (c := L + 1) (by rfl) cn₃ (q _)) (cl := [(Str.ofString "one", cc), (Str.ofString "a", L + 2)])
      (by rfl) (by decide) (by rfl) (by decide) (by rfl) (fun C c s₃ m₃ t E' _ _ _ _ => wpAny_tests_nil ⟨rfl, _, _, rfl, fun _ _ e => e⟩) ?_ ?_
    · intro C₂ c s₄ m₄ t₄ E₄ hc _ hn₄ e4 k₄
      have T₅ := T₄.ext k₄
      have Y₄ := Y₃.sk (.of_ext k₄)
      have cc₄ := IsCell.sk hcc (.of_ext k₄)
      refine eval_fn (item 11) (by simp [items]) (by rfl) T₅ (fun fd hfd => ?_)
      refine args_cons (nmC (c := L + 2) (by rfl) Y₄.ca (args_cons (nmC (c := cc) (by rfl) cc₄ (args_cons (nm hn₄ e4 (args_nil ⟨fun _ _ e => e, ?_⟩))))))
      refine call_of (lmin_spec T₅ hh (by omega) (by omega) hfd Y₄.M (by omega) (fun i j h1 h2 => by have := b7 i j h1 h2; omega) hi hc (fun P => ?_)) fun v h₅ tk₅ hv => ?_
      · have := matF_bits hf.2 n hn ((List.range n).filter P) (by have := List.length_filter_le P (List.range n); simp at this; omega)
        omega
      · obtain ⟨k₅, t₅, rfl⟩ := hv
        exact ⟨⟨t₅, by rw [Int.toNat_natCast]⟩, _, _, rfl, k₅⟩
    · intro D' h₇ tk₇ ys hD' hl' hpl' hys k₇
      rw [rangeI_filter_true] at hys
      exact ⟨⟨_, _, rfl, hD', hl', ys, rfl, hys⟩, _, _, rfl, k₇⟩
  · intro D' h₃ tk₃ rs' hlen hl hrows k₃
    have MD : MatAt h₃ D' rs' n n (lmF n f) := by
      refine ⟨hl, hlen, fun i r hr => ?_⟩
      obtain ⟨its, hli, ys, rfl, hys⟩ := hrows i r hr
      exact (rowOfInts hli hys).congr fun j _ => by simp
    refine ne_mat (MB.ext k₃) MD (fun r c hr hc => sk_adj hf.1 n h2 hn r c hr hc) (by omega) (wpAny_truthy_bool (ite_f (isTrue_or_nil (ite_f (wpAny_execs_nil ?_)))))
    exact h _ _ fun b o e => k₃ _ _ (k₂ _ _ (k₁ _ _ e))
end
end Mine

end
noncomputable section
namespace Mine
open PySem PySem.W PySem.Calls PyProof.Rows
open PySem.Builtin.Int (intBits)

section
variable {prog : Program} {w : World} {A : Around} {E : Value → Shared → Prop} {s : Shared} {env : Env} {mg mb : Str → Option Value}

set_option maxHeartbeats 2000000 in
theorem law_hw {g : Heap} {L fa p q : Addr} {pm cd doc : Value} {ns : List Int} {spot : Nat} {m : Str → Option Value} {Q : Flow → Shared → Prop}
    (T : TopF mg mb g) (hh : A.handled = none) (hd : A.depth < recursionLimit) (F : Fr g L s.heap m) (ep : m (Str.ofString "pool") = some (.ref p)) (P : PoolAt s.heap p q ns spot) (hns : ns.length < 1000) (hs : spot < 100) (gp : g.get? p = none)
    (h : ∀ h' tk m' (a b : Nat), a < 2 → b < 3 → Fr g L h' m' → PoolAt h' p q ns (spot + 1 + 1) → m' (Str.ofString "pool") = some (.ref p) → (∃ t, m' (Str.ofString "high") = some (.int ((a + 2 : Nat) : Int) t)) → (∃ t, m' (Str.ofString "wide") = some (.int ((b + 2 : Nat) : Int) t)) →
      Q .next { s with heap := h', toks := tk }) :
    wpAny (model prog w) A (exec (lawS 6) (lawEnv pm cd doc L fa)) Q E s := by
  refine Assign_Tuple_swapped (names := [Str.ofString "high", Str.ofString "wide"]) ?_
  refine Tuple_ (args_cons (wpAny_BinOp (wpAny_Constant_int ?_)))
  refine eval_draw (many := 2) (g := g) (m := m) (T.ext F.keep) hd F rfl ep P hns (by omega) (by decide) (by decide) gp fun a ta h₁ tk₁ ha F₁ _ P₁ _ => ?_
  try dsimp only
  refine add_int (args_cons (wpAny_BinOp (wpAny_Constant_int ?_)))
  refine eval_draw (many := 3) (g := g) (m := m) (T.ext F₁.keep) hd F₁ rfl ep P₁ hns (by omega) (by decide) (by decide) gp fun b tb h₂ tk₂ hb F₂ _ P₂ _ => ?_
  try dsimp only
  refine add_int (args_nil (newTuple_unpack hh rfl (by simp) fun h₄ k₄ => ?_))
  try dsimp only
  have F₄ := Fr.ext F₂ k₄
  refine assignInOrder_cons (wpAny_bindName (stL F₄.ns (fun h₅ hn₅ hs₅ => ?_)))
  try dsimp only
  have F₅ := F₄.set hn₅ hs₅
  have dk₅ := DK.of_ns F₄.ns hs₅
  refine assignInOrder_cons (wpAny_bindName (stL F₅.ns (fun h₆ hn₆ hs₆ => ?_)))
  try dsimp only
  have F₆ := F₅.set hn₆ hs₆
  have dk := dk₅.trans (DK.of_ns F₅.ns hs₆)
  refine assignInOrder_nil ?_
  have P₆ := (P₂.sk (.of_ext k₄)).sk dk.sk
  have e1 : (2 : Int) + (a : Int) = ((a + 2 : Nat) : Int) := by push_cast; omega
  have e2 : (2 : Int) + (b : Int) = ((b + 2 : Nat) : Int) := by push_cast; omega
  exact h _ _ _ a b ha hb F₆ P₆ ((if_neg (by decide)).trans ((if_neg (by decide)).trans ep)) ⟨_, (if_pos rfl).trans (congrArg (fun z => some (Value.int z _)) e1)⟩ ⟨_, (if_neg (by decide)).trans ((if_pos rfl).trans (congrArg (fun z => some (Value.int z _)) e2))⟩

set_option maxHeartbeats 2000000 in
theorem law_ls {g : Heap} {L fa p q : Addr} {pm cd doc : Value} {ns : List Int} {spot : Nat} {m : Str → Option Value} {Q : Flow → Shared → Prop} {zh zw : Int}
    (T : TopF mg mb g) (hh : A.handled = none) (hd : A.depth < recursionLimit) (F : Fr g L s.heap m) (ep : m (Str.ofString "pool") = some (.ref p)) (P : PoolAt s.heap p q ns spot) (hns : ns.length < 1000) (hs : spot < 100) (gp : g.get? p = none)
    (eh : ∃ t, m (Str.ofString "high") = some (.int zh t)) (ew : ∃ t, m (Str.ofString "wide") = some (.int zw t))
    (h : ∀ h' tk m' (a b : Nat) D, a < 3 → b < 3 → Fr g L h' m' → (∃ t, m' (Str.ofString "high") = some (.int zh t)) → (∃ t, m' (Str.ofString "wide") = some (.int zw t)) →
      (∃ t, m' (Str.ofString "lying") = some (.int ((a + 1 : Nat) : Int) t)) → (∃ t, m' (Str.ofString "standing") = some (.int ((b + 1 : Nat) : Int) t)) → m' (Str.ofString "grid") = some (.ref D) → h'.PlainList D (([] : List Addr).map Value.ref).toArray → g.get? D = none →
      Q .next { s with heap := h', toks := tk }) :
    wpAny (model prog w) A (exec (lawS 7) (lawEnv pm cd doc L fa)) Q E s := by
  refine Assign_Tuple_swapped (names := [Str.ofString "lying", Str.ofString "standing", Str.ofString "grid"]) ?_
  refine Tuple_ (args_cons (wpAny_BinOp (wpAny_Constant_int ?_)))
  refine eval_draw (many := 3) (g := g) (m := m) (T.ext F.keep) hd F rfl ep P hns (by omega) (by decide) (by decide) gp fun a ta h₁ tk₁ ha F₁ _ P₁ _ => ?_
  try dsimp only
  refine add_int (args_cons (wpAny_BinOp (wpAny_Constant_int ?_)))
  refine eval_draw (many := 3) (g := g) (m := m) (T.ext F₁.keep) hd F₁ rfl ep P₁ hns (by omega) (by decide) (by decide) gp fun b tb h₂ tk₂ hb F₂ _ P₂ _ => ?_
  try dsimp only
  refine add_int (args_cons (list_nil (args_nil ?_)))
  generalize hD : h₂.objs.size = D
  have F₃ := F₂.push { cls := .type "list", data := .seq ([] : List Value).toArray }
  refine newTuple_unpack hh rfl (by simp) fun h₄ k₄ => ?_
  try dsimp only
  have F₄ := Fr.ext F₃ k₄
  have pl₄ : h₄.PlainList D (([] : List Addr).map Value.ref).toArray := ⟨0, k₄ _ _ (by rw [← hD]; exact Heap.get?_push_size _ rfl)⟩
  have gD : g.get? D = none := by
    cases q : g.get? D with
    | none => rfl
    | some o => have := Heap.lt_size (F₂.keep _ _ q); rw [hD] at this; exact absurd this (Nat.lt_irrefl _)
  refine assignInOrder_cons (wpAny_bindName (stL F₄.ns (fun h₅ hn₅ hs₅ => ?_)))
  try dsimp only
  have F₅ := F₄.set hn₅ hs₅
  have dk₅ := DK.of_ns F₄.ns hs₅
  refine assignInOrder_cons (wpAny_bindName (stL F₅.ns (fun h₆ hn₆ hs₆ => ?_)))
  try dsimp only
  have F₆ := F₅.set hn₆ hs₆
  have dk₆ := dk₅.trans (DK.of_ns F₅.ns hs₆)
  refine assignInOrder_cons (wpAny_bindName (stL F₆.ns (fun h₇ hn₇ hs₇ => ?_)))
  try dsimp only
  have F₇ := F₆.set hn₇ hs₇
  have dk := dk₆.trans (DK.of_ns F₆.ns hs₇)
  refine assignInOrder_nil ?_
  have e1 : (1 : Int) + (a : Int) = ((a + 1 : Nat) : Int) := by push_cast; omega
  have e2 : (1 : Int) + (b : Int) = ((b + 1 : Nat) : Int) := by push_cast; omega
  refine eh.elim fun th eh => ew.elim fun tw ew => ?_
  refine h _ _ _ a b D ha hb F₇ ⟨th, (if_neg (by decide)).trans ((if_neg (by decide)).trans ((if_neg (by decide)).trans eh))⟩ ⟨tw, (if_neg (by decide)).trans ((if_neg (by decide)).trans ((if_neg (by decide)).trans ew))⟩
    ⟨_, (if_pos rfl).trans (congrArg (fun z => some (Value.int z _)) e1)⟩ ⟨_, (if_neg (by decide)).trans ((if_pos rfl).trans (congrArg (fun z => some (Value.int z _)) e2))⟩ ((if_neg (by decide)).trans ((if_neg (by decide)).trans (if_pos rfl))) ?_ gD
  obtain ⟨n, e⟩ := pl₄
  exact ⟨n, dk _ _ e (by simp [isDict])⟩
end
end Mine

end
noncomputable section
namespace Mine
open PySem PySem.W PySem.Calls PyProof.Rows
open PySem.Builtin.Int (intBits)

def innerB : List Stmt := match lawS 8 with | .For _ _ [_, .For _ _ b _ _, _] _ _ => b | _ => []

section
variable {prog : Program} {w : World} {A : Around} {E : Value → Shared → Prop} {s : Shared} {env : Env} {mg mb : Str → Option Value}

theorem row_setItem {r : Addr} {k : Nat} {f : Nat → Int} {jj : Nat} {v : Int} {t : Tok} {vj : Int} {tj : Tok} {Q : Unit → Shared → Prop} (M : RowAt s.heap r k f) (hj : jj < k) (hk : k < 2 ^ 62) (ej : vj = (jj : Int))
    (h : ∀ h', RowAt h' r k (fun c => if c = jj then v else f c) → Heap.SameBut r s.heap h' → NK s.heap h' → (∀ L m, s.heap.Ns L m → h'.Ns L m) → Q () { s with heap := h' }) :
    wpAny (model prog w) A (setItem (.ref r) (.int vj tj) (.int v t)) Q E s := by
  obtain ⟨vs, hl, hlen, hv⟩ := M
  subst ej
  refine wpAny_setItem_list hl (by omega) (by omega) (by simp [hlen]; exact hj) fun h' hl' hs' => ?_
  rw [Int.toNat_natCast] at hl'
  refine h h' (RowAt.set hlen hv hl') hs' (NK.of_list hl hs') fun L m hn => hn.sameBut hs' ?_
  rintro rfl
  obtain ⟨o, es, ep, ho, hd, _⟩ := hn
  obtain ⟨o', ho', _, n', hd'⟩ := hl
  rw [ho] at ho'; cases ho'
  rw [hd] at hd'; cases hd'

theorem bits64 {x : Int} (h : x.natAbs ≤ 1000) : intBits x ≤ 60 := PyProof.Rows.intBits_le (by omega)
theorem fdivNat (x k : Nat) : (x : Int).fdiv (k : Int) = ((x / k : Nat) : Int) := by
  rw [Int.fdiv_eq_ediv_of_nonneg _ (by omega)]; push_cast; rfl
theorem absv (i j : Int) : (if i - j < 0 then -(i - j) else i - j) = ((i - j).natAbs : Int) := by split <;> omega

def firstF (W : Nat) (ly : Int) (i j : Nat) : Int := if ((i : Int) - j).natAbs = 1 ∧ i / W = j / W then ly * ((j : Int) - i) else 0

set_option maxHeartbeats 2000000 in
theorem law_cell {g : Heap} {L fa R : Addr} {pm cd doc : Value} {N W i j : Nat} {ly st : Int} {m : Str → Option Value} {fn : Nat → Int} {Q : Flow → Shared → Prop} {ti tj : Tok}
    (T : TopF mg mb g) (F : Fr g L s.heap m) (hW : 0 < W ∧ W < 10) (hly : ly.natAbs < 10) (hst : st.natAbs < 10)
    (ew : ∃ t, m (Str.ofString "wide") = some (.int W t)) (el : ∃ t, m (Str.ofString "lying") = some (.int ly t)) (es : ∃ t, m (Str.ofString "standing") = some (.int st t))
    (eo : m (Str.ofString "one") = some (.int i ti)) (eq : m (Str.ofString "other") = some (.int j tj)) (er : m (Str.ofString "row") = some (.ref R))
    (hR : RowAt s.heap R N fn) (hj : j < N) (hi : i < N) (hN : N < 100) (h0 : fn j = 0) (gR : g.get? R = none)
    (h : ∀ h' tk, Fr g L h' m → NK s.heap h' → (∀ b o, b ≠ R → s.heap.get? b = some o → h'.get? b = some o) → RowAt h' R N (fun c => if c = j then gridF W ly st i j else fn c) → Q .next { s with heap := h', toks := tk }) :
    wpAny (model prog w) A (execs innerB (lawEnv pm cd doc L fa)) Q E s := by
  have hW0 : (W : Int) ≠ 0 := by omega
  have bW : intBits (W : Int) ≤ 9000 := by have := bits64 (x := (W : Int)) (by omega); omega
  refine ew.elim fun tw ew => el.elim fun tl el => es.elim fun ts es => ?_
  have T₁ := T.ext F.keep
  refine wpAny_execs_cons (wpAny_mono (Q := fun f s' => f = .next ∧ ∃ h' tk', s' = { s with heap := h', toks := tk' } ∧ Fr g L h' m ∧ NK s.heap h' ∧ (∀ b o, b ≠ R → s.heap.get? b = some o → h'.get? b = some o) ∧ RowAt h' R N (fun c => if c = j then firstF W ly i j else fn c)) ?_ (fun f s' q => ?_) fun _ _ e => e)
  · have start : ∀ (c : Bool) (Q' : Bool → Shared → Prop), ((((i : Int) - (j : Int)).natAbs : Int) == 1) = c → (∀ tk, if c then wpAny (model prog w) A (isTrue (.BoolOp .And (match innerB with | [.If (.BoolOp _ [_, y] _) _ _ _, _] => [y] | _ => []) (match innerB with | [.If (.BoolOp _ _ p) _ _ _, _] => p | _ => default)) (lawEnv pm cd doc L fa) (eval (match innerB with | [.If y _ _ _, _] => y | _ => .Name (Str.ofString "x") default) (lawEnv pm cd doc L fa))) Q' E { s with toks := tk } else Q' false { s with toks := tk }) →
        wpAny (model prog w) A (isTrue (match innerB with | [.If y _ _ _, _] => y | _ => .Name (Str.ofString "x") default) (lawEnv pm cd doc L fa) (eval (match innerB with | [.If y _ _ _, _] => y | _ => .Name (Str.ofString "x") default) (lawEnv pm cd doc L fa))) Q' E s := by
      intro c Q' hc hq
      refine isTrue_and (wpAny_isTrue_Compare1 ?_)
      refine Call_ (nmB T₁ (by decide) (by rfl) (callWith_builtin1 (args_cons ?_)))
      refine wpAny_BinOp (nm F.ns eo (nm F.ns eq (sub_int (args_nil ?_))))
      refine call_abs_int fun u tk => ?_
      rw [absv]
      exact wpAny_Constant_int (eq_intB hc (wpAny_truthy_bool (hq _)))
    by_cases hc1 : ((i : Int) - j).natAbs = 1
    · refine wpAny_If (start true _ (by rw [hc1]; rfl) fun tk => ite_t ?_)
      by_cases hc2 : i / W = j / W
      · refine isTrue_and (wpAny_isTrue_Compare1 (wpAny_BinOp (nm F.ns eo (nm F.ns ew (floordiv_int hW0 ?_ (.inl (noPy bW)))))))
        refine wpAny_BinOp (nm F.ns eq (nm F.ns ew (floordiv_int hW0 ?_ (.inl (noPy bW)))))
        refine eq_intB (c := true) (by rw [fdivNat, fdivNat, hc2]; simp) (wpAny_truthy_bool (ite_t (isTrue_and_nil (ite_t ?_))))
        refine wpAny_execs_cons (wpAny_Assign_Subscript ?_)
        refine wpAny_BinOp (nm F.ns el (wpAny_BinOp (nm F.ns eq (nm F.ns eo (sub_int (mul_int ?_ (.of_left (by have := bits64 (x := ly) (by omega); omega))))))))
        refine nm F.ns er (nm F.ns eq ?_)
        refine row_setItem hR hj (by omega) rfl fun h₂ hR₂ hs₂ nk₂ hns₂ => ?_
        refine wpAny_execs_nil ⟨rfl, _, _, rfl, Fr.chg F gR hs₂ hns₂, nk₂, fun b o hb e => (hs₂.2 b hb).trans e, ?_⟩
        have ef : firstF W ly i j = ly * ((j : Int) - i) := if_pos ⟨hc1, hc2⟩
        rw [ef]; exact hR₂
      · refine isTrue_and (wpAny_isTrue_Compare1 (wpAny_BinOp (nm F.ns eo (nm F.ns ew (floordiv_int hW0 ?_ (.inl (noPy bW)))))))
        refine wpAny_BinOp (nm F.ns eq (nm F.ns ew (floordiv_int hW0 ?_ (.inl (noPy bW)))))
        refine eq_intB (c := false) (by rw [fdivNat, fdivNat]; simp; omega) (wpAny_truthy_bool (ite_f (ite_f (wpAny_execs_nil ?_))))
        refine ⟨rfl, _, _, rfl, F, .refl _, fun b o _ e => e, hR.congr fun c _ => ?_⟩
        have ef : firstF W ly i j = 0 := if_neg (fun q => hc2 q.2)
        rw [ef]; split
        · next e => rw [e, h0]
        · rfl
    · refine wpAny_If (start false _ (by simp; omega) fun tk => ite_f (ite_f (wpAny_execs_nil ?_)))
      refine ⟨rfl, _, _, rfl, F, .refl _, fun b o _ e => e, hR.congr fun c _ => ?_⟩
      have ef : firstF W ly i j = 0 := if_neg (fun q => hc1 q.1)
      rw [ef]; split
      · next e => rw [e, h0]
      · rfl
  · obtain ⟨rfl, h₁, tk₁, rfl, F₁, nk₁, k₁, hR₁⟩ := q
    have T₂ := T.ext F₁.keep
    by_cases hc1 : ((i : Int) - j).natAbs = W
    · refine wpAny_execs_cons (wpAny_If (wpAny_isTrue_Compare1 ?_))
      refine Call_ (nmB T₂ (by decide) (by rfl) (callWith_builtin1 (args_cons ?_)))
      refine wpAny_BinOp (nm F₁.ns eo (nm F₁.ns eq (sub_int (args_nil ?_))))
      refine call_abs_int fun u tk => ?_
      rw [absv]
      refine nm F₁.ns ew (eq_intB (c := true) (by rw [hc1]; simp) (wpAny_truthy_bool (ite_t ?_)))
      refine wpAny_execs_cons (wpAny_Assign_Subscript ?_)
      refine wpAny_BinOp (wpAny_BinOp (wpAny_BinOp (nm F₁.ns es (wpAny_BinOp (nm F₁.ns eq (nm F₁.ns eo (sub_int (mul_int ?_ (.of_left (by have := bits64 (x := st) (by omega); omega))))))))))
      refine nm F₁.ns ew (floordiv_int hW0 ?_ (.inl (noPy bW)))
      have eq2 : (i : Int).fmod W = ((i % W : Nat) : Int) := fmodNat i W
      have eq3 : ((i : Int).fmod W).fmod 2 = ((i % W % 2 : Nat) : Int) := by rw [eq2]; exact fmodNat (i % W) 2
      have hq2 : i % W % 2 < 2 := Nat.mod_lt _ (by decide)
      have ez : ((st * ((j : Int) - i)).fdiv W).natAbs = st.natAbs := by
        have : (j : Int) - i = W ∨ (j : Int) - i = -W := by omega
        rcases this with e | e
        · rw [e, Int.mul_fdiv_cancel _ hW0]
        · rw [e, Int.mul_neg, ← Int.neg_mul, Int.mul_fdiv_cancel _ hW0, Int.natAbs_neg]
      refine wpAny_BinOp (wpAny_Constant_int (wpAny_BinOp (wpAny_Constant_int (wpAny_BinOp (wpAny_BinOp (nm F₁.ns eo (nm F₁.ns ew (mod_int' hW0 (wpAny_Constant_int (mod_int' (by decide) ?_)))))))))) 
      refine mul_int ?_ (.of_left (by decide))
      refine sub_int ?_
      refine mul_int ?_ (mulOk_of_bits (bits64 (by omega)) (bits64 (x := 1 - 2 * ((i : Int).fmod W).fmod 2) (by rw [eq3]; omega)) (by omega))
      refine nm F₁.ns er (nm F₁.ns eq ?_)
      refine row_setItem hR₁ hj (by omega) rfl fun h₂ hR₂ hs₂ nk₂ hns₂ => ?_
      refine wpAny_execs_nil (wpAny_execs_nil (h _ _ (Fr.chg F₁ gR hs₂ hns₂) (nk₁.trans nk₂) (fun b o hb e => (hs₂.2 b hb).trans (k₁ b o hb e)) (hR₂.congr fun c _ => ?_)))
      have ef : gridF W ly st i j = (st * ((j : Int) - i)).fdiv W * (1 - 2 * ((i % W % 2 : Nat) : Int)) := if_pos hc1
      rw [ef, eq3]
      by_cases e : c = j <;> simp [e]
    · refine wpAny_execs_cons (wpAny_If (wpAny_isTrue_Compare1 ?_))
      refine Call_ (nmB T₂ (by decide) (by rfl) (callWith_builtin1 (args_cons ?_)))
      refine wpAny_BinOp (nm F₁.ns eo (nm F₁.ns eq (sub_int (args_nil ?_))))
      refine call_abs_int fun u tk => ?_
      rw [absv]
      refine nm F₁.ns ew (eq_intB (c := false) (by simp; omega) (wpAny_truthy_bool (ite_f ?_)))
      refine wpAny_execs_nil (wpAny_execs_nil (h _ _ F₁ nk₁ k₁ (hR₁.congr fun c _ => ?_)))
      have ef : gridF W ly st i j = firstF W ly i j := if_neg hc1
      rw [ef]
end
end Mine

end
noncomputable section
namespace Mine
open PySem PySem.W PySem.Calls PyProof.Rows
open PySem.Builtin.Int (intBits)

structure Nms (H W : Nat) (ly st : Int) (G : Addr) (m : Str → Option Value) : Prop where
  eh : ∃ t, m (Str.ofString "high") = some (.int H t)
  ew : ∃ t, m (Str.ofString "wide") = some (.int W t)
  el : ∃ t, m (Str.ofString "lying") = some (.int ly t)
  es : ∃ t, m (Str.ofString "standing") = some (.int st t)
  eg : m (Str.ofString "grid") = some (.ref G)
theorem Nms.put {H W ly st G m} {x : Str} {v : Value} (X : Nms H W ly st G m)
    (h : Str.ofString "high" ≠ x ∧ Str.ofString "wide" ≠ x ∧ Str.ofString "lying" ≠ x ∧ Str.ofString "standing" ≠ x ∧ Str.ofString "grid" ≠ x) : Nms H W ly st G (fun y => if y = x then some v else m y) :=
  ⟨X.eh.elim fun t e => ⟨t, (if_neg h.1).trans e⟩, X.ew.elim fun t e => ⟨t, (if_neg h.2.1).trans e⟩, X.el.elim fun t e => ⟨t, (if_neg h.2.2.1).trans e⟩, X.es.elim fun t e => ⟨t, (if_neg h.2.2.2.1).trans e⟩, (if_neg h.2.2.2.2).trans X.eg⟩

structure Gd (N W : Nat) (ly st : Int) (G : Addr) (rs : List Addr) (h : Heap) : Prop where
  pl : h.PlainList G (rs.map Value.ref).toArray
  nm : G ∉ rs
  rows : ∀ (j : Nat) (r : Addr), rs[j]? = some r → RowAt h r N (gridF W ly st j)
theorem Gd.kp {N W ly st G rs h h'} {R : Addr} (x : Gd N W ly st G rs h) (k : ∀ b o, b ≠ R → h.get? b = some o → h'.get? b = some o) (hG : G ≠ R) (hR : R ∉ rs) : Gd N W ly st G rs h' := by
  refine ⟨let ⟨n, e⟩ := x.pl; ⟨n, k _ _ hG e⟩, x.nm, fun j r hr => ?_⟩
  obtain ⟨vs, ⟨o, ho, e⟩, a, b⟩ := x.rows j r hr
  exact ⟨vs, ⟨o, k _ _ (fun q => hR (q ▸ List.mem_of_getElem? hr)) ho, e⟩, a, b⟩
theorem Gd.sk {N W ly st G rs h h'} (x : Gd N W ly st G rs h) (k : SK h h') : Gd N W ly st G rs h' := 
  ⟨let ⟨n, e⟩ := x.pl; ⟨n, k _ _ e (.inl rfl)⟩, x.nm, fun j r hr => (x.rows j r hr).sk k⟩

section
variable {prog : Program} {w : World} {A : Around} {E : Value → Shared → Prop} {s : Shared} {env : Env} {mg mb : Str → Option Value}

set_option maxHeartbeats 4000000 in
theorem law_board {g : Heap} {L fa G : Addr} {pm cd doc : Value} {N H W : Nat} {ly st : Int} {m : Str → Option Value} {Q : Flow → Shared → Prop}
    (T : TopF mg mb g) (hh : A.handled = none) (F : Fr g L s.heap m) (hW : 0 < W ∧ W < 10) (hH : H < 10) (hly : ly.natAbs < 10) (hst : st.natAbs < 10) (hN : N < 100) (eN : (H : Int) * (W : Int) = (N : Int))
    (X : Nms H W ly st G m) (Y : Gd N W ly st G [] s.heap) (gG : g.get? G = none)
    (h : ∀ h' tk m' rs, Fr g L h' m' → Nms H W ly st G m' → Gd N W ly st G rs h' → rs.length = N → Q .next { s with heap := h', toks := tk }) :
    wpAny (model prog w) A (exec (lawS 8) (lawEnv pm cd doc L fa)) Q E s := by
  have T₁ := T.ext F.keep
  have okH : ∀ x : Int, IntMulOk (H : Int) x := fun x => .of_left (by have := bits64 (x := (H : Int)) (by omega); omega)
  refine X.eh.elim fun th eh => X.ew.elim fun tw ew => ?_
  refine wpAny_For (eval_range1 T₁ (wpAny_BinOp (nm F.ns eh (nm F.ns ew (mul_int ⟨(N : Int), _, congrArg (fun z => Value.int z _) eN, ?_⟩ (okH _))))))
  refine iter_rng N (fun i m h => Nms H W ly st G m ∧ ∃ rs, Gd N W ly st G rs h ∧ rs.length = i) (g := g) hh (IsRange.new _ _ _ _ _ _ _) (by split <;> omega) (by omega) (by omega) (F.push _)
    ?_ ⟨X, [], Y.sk (.of_ext fun _ _ => Heap.get?_push_of_some _), rfl⟩ ?_ ?_
  · rintro i m h h' ⟨h1, rs, h2, h3⟩ k
    exact ⟨h1, rs, h2.sk k, h3⟩
  · rintro i h₁ tk₁ m₁ hi F₁ ⟨X₁, rs, Y₁, hlen⟩
    have T₁ := T.ext F₁.keep
    have X₁' := X₁.put (x := Str.ofString "one") (v := .int (0 + (i : Nat)) tk₁) (by decide)
    refine X₁'.eh.elim fun th eh => X₁'.ew.elim fun tw ew => ?_
    refine wpAny_execs_cons (wpAny_Assign_Name (wpAny_BinOp (List_ (args_cons (wpAny_Constant_int (args_nil (newList_ ?_)))))))
    have F₂ := F₁.push { cls := .type "list", data := .seq [Value.int 0 (tk₁ + 1 + 1)].toArray }
    refine wpAny_BinOp (nm F₂.ns eh (nm F₂.ns ew (mul_int ?_ (okH _))))
    refine mul_rep (n := N) (Heap.get?_push_size _ rfl) eN (by omega) fun R h₃ k₃ hR₃ hRn => ?_
    have F₃ := Fr.ext F₂ k₃
    have gR : g.get? R = none := by
      cases q : g.get? R with
      | none => rfl
      | some o => exact absurd (hRn.symm.trans (F₂.keep _ _ q)) (by simp)
    have k₁₃ : Ext h₁ h₃ := fun b o e => k₃ _ _ (Heap.get?_push_of_some _ e)
    have hRn₁ : h₁.get? R = none := by
      cases q : h₁.get? R with
      | none => rfl
      | some o => exact absurd (hRn.symm.trans (Heap.get?_push_of_some _ q)) (by simp)
    have Y₃ := Y₁.sk (.of_ext k₁₃)
    have hGR : G ≠ R := by
      rintro rfl
      obtain ⟨n, e⟩ := Y₁.pl
      exact absurd (hRn₁.symm.trans e) (by simp)
    have hRr : R ∉ rs := fun hm => by
      obtain ⟨j, hj, e⟩ := List.mem_iff_getElem.mp hm
      obtain ⟨vs, ⟨o, ho, _⟩, _⟩ := Y₁.rows j R (by rw [← e]; exact List.getElem?_eq_getElem hj)
      exact absurd (hRn₁.symm.trans ho) (by simp)
    have hrow : RowAt h₃ R N (fun _ => 0) := ⟨_, hR₃, by simp, fun j hj => ⟨_, by rw [List.getElem?_replicate]; simp [hj]; rfl⟩⟩
    refine stL F₃.ns (fun h₄ hn₄ hs₄ => ?_)
    try dsimp only
    have F₄ := F₃.set hn₄ hs₄
    have dk₄ := DK.of_ns F₃.ns hs₄
    have X₄ := X₁'.put (x := Str.ofString "row") (v := .ref R) (by decide)
    have T₄ := T.ext F₄.keep
    have nk₁₄ : NK h₁ h₄ := (NK.of_ext k₁₃).trans dk₄.nk
    refine X₄.eh.elim fun th eh => X₄.ew.elim fun tw ew => ?_
    refine wpAny_execs_cons (wpAny_For (eval_range1 T₄ (wpAny_BinOp (nm F₄.ns eh (nm F₄.ns ew (mul_int ⟨(N : Int), _, congrArg (fun z => Value.int z _) eN, ?_⟩ (okH _)))))))
    refine iter_rng N (fun j m h => Nms H W ly st G m ∧ (∃ t, m (Str.ofString "one") = some (.int (i : Nat) t)) ∧ m (Str.ofString "row") = some (.ref R) ∧ Gd N W ly st G rs h ∧ RowAt h R N (fun c => if c < j then gridF W ly st i c else 0))
      (g := g) hh (IsRange.new _ _ _ _ _ _ _) (by split <;> omega) (by omega) (by omega) (F₄.push _)
      ?_ ⟨X₄, ⟨tk₁, (if_neg (by decide)).trans ((if_pos rfl).trans (congrArg (fun z => some (Value.int z _)) (Int.zero_add _)))⟩, if_pos rfl, (Y₃.sk dk₄.sk).sk (.of_ext fun _ _ => Heap.get?_push_of_some _),
        ((hrow.sk dk₄.sk).sk (.of_ext fun _ _ => Heap.get?_push_of_some _)).congr fun c _ => by simp⟩ ?_ ?_
    · rintro j m h h' ⟨h1, h2, h3, h4, h5⟩ k
      exact ⟨h1, h2, h3, h4.sk k, h5.sk k⟩
    · rintro j h₅ tk₅ m₅ hj F₅ ⟨X₅, ⟨to, eo⟩, er, Y₅, hR₅⟩
      have X₅' := X₅.put (x := Str.ofString "other") (v := .int (0 + (j : Nat)) tk₅) (by decide)
      refine law_cell (g := g) (L := L) (R := R) (N := N) (W := W) (i := i) (j := j) (ly := ly) (st := st) (fn := fun c => if c < j then gridF W ly st i c else 0) T F₅ hW hly hst X₅'.ew X₅'.el X₅'.es ((if_neg (by decide)).trans eo)
        ((if_pos rfl).trans (congrArg (fun z => some (Value.int z _)) (Int.zero_add _))) ((if_neg (by decide)).trans er) hR₅ hj hi hN (by simp) gR fun h₆ tk₆ F₆ nk₆ k₆ hR₆ => ?_
      try dsimp only
      refine ⟨h₆, tk₆, _, rfl, F₆, nk₆, X₅', ⟨to, (if_neg (by decide)).trans eo⟩, (if_neg (by decide)).trans er, Y₅.kp k₆ hGR hRr, hR₆.congr fun c _ => ?_⟩
      by_cases e : c = j
      · subst e; simp
      · by_cases e2 : c < j
        · simp [e, e2]; omega
        · simp [e, e2]; intro; omega
    · rintro h₅ tk₅ m₅ F₅ nk₅ ⟨X₅, ⟨to, eo⟩, er, Y₅, hR₅⟩
      refine Exists.elim Y₅.pl fun kp hp => ?_
      refine wpAny_execs_cons (wpAny_Expr ?_)
      refine MethodCall_ (nm F₅.ns X₅.eg ?_)
      refine getMethod_list_append hp rfl rfl ?_
      refine callWith_method1 (args_cons (nm F₅.ns er (args_nil ?_)))
      refine wpAny_list_append_plain (items := (rs.map Value.ref).toArray) ⟨kp, hp⟩ (fun h₈ hp₈ hs₈ => ?_) (by rw [sizeLine_eq]; simp [hlen]; omega)
      have pl5 : h₅.IsList G (rs.map Value.ref).toArray := (Heap.PlainList.isList ⟨kp, hp⟩)
      have k₈ : ∀ b o, b ≠ G → h₅.get? b = some o → h₈.get? b = some o := fun b o hb e => (hs₈.2 b hb).trans e
      refine wpAny_execs_nil ⟨h₈, _, _, rfl, fr_kp F₅ pl5 gG k₈, nk₁₄.trans (((NK.of_ext fun _ _ e => Heap.get?_push_of_some _ e).trans nk₅).trans (NK.of_list pl5 hs₈)), X₅, rs ++ [R], ⟨?_, ?_, ?_⟩, by simp [hlen]⟩
      · have : (rs.map Value.ref).toArray.push (Value.ref R) = ((rs ++ [R]).map Value.ref).toArray := by simp
        rw [← this]; exact hp₈
      · simp only [List.mem_append, List.mem_singleton, not_or]; exact ⟨Y₅.nm, hGR⟩
      · intro j r hj
        rcases Nat.lt_trichotomy j rs.length with q | q | q
        · rw [List.getElem?_append_left q] at hj
          exact (Y₅.rows j r hj).sb hs₈ (fun e => Y₅.nm (e ▸ List.mem_of_getElem? hj))
        · subst q
          simp at hj; subst hj
          rw [hlen]
          exact (hR₅.sb hs₈ (Ne.symm hGR)).congr fun c hc => by simp [hc]
        · rw [List.getElem?_eq_none (by simp; omega)] at hj; cases hj
  · rintro h' tk m' F' nk ⟨X', rs, Y', hlen⟩
    exact h h' tk m' rs F' X' Y' hlen
end
end Mine

end
noncomputable section
namespace Mine
open PySem PySem.W PySem.Calls PyProof.Rows
open PySem.Builtin.Int (intBits)

theorem gridF_abs {W : Nat} {ly st : Int} (hW : 0 < W) (hly : ly.natAbs ≤ 3) (hst : st.natAbs ≤ 3) (i j : Nat) : (gridF W ly st i j).natAbs ≤ 3 := by
  have hW0 : (W : Int) ≠ 0 := by omega
  unfold gridF
  split
  · next hc1 =>
    have ez : ((st * ((j : Int) - i)).fdiv W).natAbs = st.natAbs := by
      have : (j : Int) - i = W ∨ (j : Int) - i = -W := by omega
      rcases this with e | e
      · rw [e, Int.mul_fdiv_cancel _ hW0]
      · rw [e, Int.mul_neg, ← Int.neg_mul, Int.mul_fdiv_cancel _ hW0, Int.natAbs_neg]
    rw [Int.natAbs_mul, ez]
    have hq2 : i % W % 2 < 2 := Nat.mod_lt _ (by decide)
    have : (1 - 2 * ((i % W % 2 : Nat) : Int)).natAbs = 1 := by omega
    rw [this]; omega
  · split
    · next hc =>
      have : (j : Int) - i = 1 ∨ (j : Int) - i = -1 := by omega
      rcases this with e | e <;> rw [e] <;> omega
    · simp

theorem laidF_abs {W : Nat} {ly st : Int} (hly : ly.natAbs ≤ 3) (hst : st.natAbs ≤ 3) : ∀ (m : Nat) (l : List Nat), (laidF W ly st m l).natAbs ≤ 6 ^ m
  | 0, [] => by simp [laidF]
  | m + 1, [] => by simp only [laidF]; exact Nat.one_le_pow _ _ (by decide)
  | 0, _ :: _ => by simp [laidF]
  | m + 1, x :: xs => by
    rw [laidF, Nat.pow_succ]
    have h1 : ((if xs.contains (x + 1) && (x + 1) % W != 0 then ly * laidF W ly st m (xs.filter (fun k => k != x + 1)) else 0) : Int).natAbs ≤ 3 * 6 ^ m := by
      split
      · rw [Int.natAbs_mul]; exact Nat.mul_le_mul hly (laidF_abs hly hst m _)
      · simp
    have h2 : ((if xs.contains (x + W) then st * laidF W ly st m (xs.filter (fun k => k != x + W)) else 0) : Int).natAbs ≤ 3 * 6 ^ m := by
      split
      · rw [Int.natAbs_mul]; exact Nat.mul_le_mul hst (laidF_abs hly hst m _)
      · simp
    omega

section
variable {prog : Program} {w : World} {A : Around} {E : Value → Shared → Prop} {s : Shared} {env : Env} {mg mb : Str → Option Value}

/-- list(range(e)), the bound counted -/
theorem list_rangeX {e : Expr} {p1 p2 p3 p4 : Pos} {n : Nat} {Q : Value → Shared → Prop} (T : TopF mg mb s.heap) (hh : A.handled = none) (hn : n < 1000)
    (hev : ∀ Q' : Value → Shared → Prop, (∀ z t tk, z = (n : Int) → Q' (.int z t) { s with toks := tk }) → wpAny (model prog w) A (eval e env) Q' E s)
    (h : ∀ D h' tk ys, Ext s.heap h' → h'.IsList D (ys : List Value).toArray → IntsAre ys (rangeI n) → Q (.ref D) { s with heap := h', toks := tk })
    (hk : env.scope.kind = .function := by rfl) (hl : env.kindOf (Str.ofString "range") = some .globalImplicit := by rfl) (hl2 : env.kindOf (Str.ofString "list") = some .globalImplicit := by rfl) (hg : env.globals = mainGlobals := by rfl) (hbn : env.builtins = builtinsNs := by rfl)
    (he : starEach [e] env = (false, eval e env) :: starEach [] env := by rfl)
    (he2 : starEach [.Call (.Name (Str.ofString "range") p1) [e] [] p2] env = (false, eval (.Call (.Name (Str.ofString "range") p1) [e] [] p2) env) :: starEach [] env := by rfl) :
    wpAny (model prog w) A (eval (.Call (.Name (Str.ofString "list") p3) [.Call (.Name (Str.ofString "range") p1) [e] [] p2] [] p4) env) Q E s := by
  refine Call_ (nmB T (by decide) (by rfl) ?_ hk hl2 hg hbn)
  refine callWith_type1 (args_cons (eval_range1 T (hev _ fun z t tk ez => ⟨n, t, congrArg (fun z => Value.int z t) ez, args_nil ?_⟩) hk hl hg hbn he) he2) he2
  refine call_list_range (n := n) hh (IsRange.new _ _ _ _ _ _ _) (small_one (by omega) (by omega) (by omega) (by omega)) (by rw [rangeSize_one]; split <;> omega) (by omega) fun h' tk acc' c' kp hD hit => ?_
  refine h _ h' tk acc'.toList (fun b o e => kp b o (Heap.get?_push_of_some _ e)) ⟨_, hD, rfl, c', by simp⟩ (ints_of_get (by rw [Array.length_toList, hit.1]; simp [rangeI]) fun j v k hv hk => ?_)
  obtain ⟨t, e⟩ := hit.2 j v (by simpa using hv)
  have hj : j < n := by
    have := (List.getElem?_eq_some_iff.mp hk).1
    simpa [rangeI] using this
  unfold rangeI at hk
  rw [List.getElem?_map, List.getElem?_range hj] at hk
  cases hk
  exact ⟨t, by rw [e]; simp⟩

set_option maxHeartbeats 4000000 in
theorem law_ret {g : Heap} {L fa G : Addr} {pm cd doc : Value} {a b lv sv : Nat} {rs : List Addr} {m : Str → Option Value} {Q : Flow → Shared → Prop}
    (T : TopF mg mb g) (hh : A.handled = none) (hd : A.depth + 60 < recursionLimit) (hu : A.units + 400 < cLine) (F : Fr g L s.heap m) (ha : a < 2) (hb : b < 3) (hlv : lv < 3) (hsv : sv < 3)
    (X : Nms (a + 2) (b + 2) ((lv : Int) + 1) ((sv : Int) + 1) G m) (Y : Gd ((a + 2) * (b + 2)) (b + 2) ((lv : Int) + 1) ((sv : Int) + 1) G rs s.heap) (hlen : rs.length = (a + 2) * (b + 2))
    (h : ∀ h' tk, Ext s.heap h' → Q (.ret (.bool true)) { s with heap := h', toks := tk }) :
    wpAny (model prog w) A (exec (lawS 9) (lawEnv pm cd doc L fa)) Q E s := by
  have T₁ := T.ext F.keep
  have eB := board (h := a) (w := b) (l := lv) (s := sv) ha hb hlv hsv
  have eN : (((a + 2 : Nat) : Int)) * ((b + 2 : Nat) : Int) = (((a + 2) * (b + 2) : Nat) : Int) := by push_cast; rfl
  have hN : (a + 2) * (b + 2) ≤ 12 := by
    have h1 : (a + 2) * (b + 2) ≤ 3 * 4 := Nat.mul_le_mul (by omega) (by omega)
    omega
  generalize hNN : (a + 2) * (b + 2) = N at *
  have M : MatAt s.heap G rs N N (gridF (b + 2) ((lv : Int) + 1) ((sv : Int) + 1)) := ⟨Y.pl.isList, hlen, Y.rows⟩
  refine X.eh.elim fun th eh => X.ew.elim fun tw ew => X.el.elim fun tl el => X.es.elim fun ts es => ?_
  refine wpAny_Return_some (wpAny_Compare1 ?_)
  refine eval_fn (item 5) (by simp [items]) (by rfl) T₁ (fun fb hfb => ?_)
  refine args_cons (nm F.ns X.eg (args_nil ⟨fun _ _ e => e, ?_⟩))
  refine call_of (det_spec T₁ hh (by omega) (by omega) hfb M (by omega) (fun i j _ _ => by
    have := gridF_abs (W := b + 2) (ly := (lv : Int) + 1) (st := (sv : Int) + 1) (by omega) (by omega) (by omega) i j
    exact PyProof.Rows.intBits_le (by omega))) fun v h₁ tk₁ hv => ?_
  obtain ⟨k₁, t₁, rfl⟩ := hv
  have F₁ := Fr.ext F k₁
  have T₂ := T.ext F₁.keep
  refine wpAny_BinOp ?_
  refine eval_fn (item 12) (by simp [items]) (by rfl) T₂ (fun fc hfc => ?_)
  refine args_cons ?_
  refine list_rangeX (n := N) T₂ hh (by omega) (fun Q' q => wpAny_BinOp (nm F₁.ns eh (nm F₁.ns ew (mul_int (q _ _ _ eN) (.of_left (by have := bits64 (x := ((a + 2 : Nat) : Int)) (by omega); omega)))))) fun D₂ h₂ tk₂ ys k₂ hl₂ hi₂ => ?_
  rw [rangeI_natsI] at hi₂
  have F₂ := Fr.ext F₁ k₂
  have T₃ := T.ext F₂.keep
  refine args_cons (nm F₂.ns ew (args_cons (nm F₂.ns el (args_cons (nm F₂.ns es (args_nil ⟨k₂, ?_⟩))))))
  refine call_of (laid_spec hfc (by omega) (bits64 (x := (lv : Int) + 1) (by omega)) (bits64 (x := (sv : Int) + 1) (by omega)) N _ _ D₂ ys (List.range N) _ _ _ (by simp) T₃ hh (by omega) (by omega) hl₂ hi₂ (by simp; omega)) fun v h₃ tk₃ hv => ?_
  obtain ⟨k₃, t₃, rfl⟩ := hv
  have hb60 : intBits (laidF (b + 2) ((lv : Int) + 1) ((sv : Int) + 1) N (List.range N)) ≤ 60 := by
    have h1 := laidF_abs (W := b + 2) (ly := (lv : Int) + 1) (st := (sv : Int) + 1) (by omega) (by omega) N (List.range N)
    have h2 : 6 ^ N ≤ 6 ^ 12 := Nat.pow_le_pow_right (by decide) hN
    have h3 : 6 ^ 12 < 2 ^ 60 := by decide
    exact PyProof.Rows.intBits_le (by omega)
  refine wpAny_Constant_int (pow_int (by decide) ?_ ?_)
  · have e27 : (2 : Int) ^ 27 = 134217728 := by decide
    rw [e27]; omega
  · refine eq_intB (c := true) ?_ (h _ _ fun b o e => k₃ _ _ (k₂ _ _ (k₁ _ _ e)))
    rw [eB]; simp
end
end Mine

end
noncomputable section
namespace Mine
open PySem PySem.W PySem.Calls PyProof.Rows
open PySem.Builtin.Int (intBits)

theorem list_cs {h h' : Heap} {a c : Addr} {vs v} (x : h.IsList a vs) (hc : h.IsCell c v) (hs : Heap.SameBut c h h') : h'.IsList a vs := IsList.sb x hs (by
  rintro rfl
  obtain ⟨o1, e1, _, n1, d1⟩ := x
  obtain ⟨o2, e2, d2⟩ := hc
  rw [e1] at e2; cases e2; rw [d1] at d2; cases d2)
theorem pool_cs {h h' : Heap} {p q c : Addr} {ns spot v} (x : PoolAt h p q ns spot) (hc : h.IsCell c v) (hs : Heap.SameBut c h h') : PoolAt h' p q ns spot :=
  ⟨let ⟨t, a⟩ := x.top; ⟨t, list_cs a hc hs⟩, let ⟨vs, a, b⟩ := x.lst; ⟨vs, list_cs a hc hs, b⟩, x.ne⟩
theorem mat_cs {h h' : Heap} {a c : Addr} {rs n k f v} (x : MatAt h a rs n k f) (hc : h.IsCell c v) (hs : Heap.SameBut c h h') : MatAt h' a rs n k f :=
  ⟨list_cs x.top hc hs, x.len, fun i r hr => let ⟨vs, a, b⟩ := x.row i r hr; ⟨vs, list_cs a hc hs, b⟩⟩
theorem fr_cs {g h h' : Heap} {L c : Addr} {m v} (F : Fr g L h m) (hc : h.IsCell c v) (hs : Heap.SameBut c h h') (gc : g.get? c = none) : Fr g L h' m := by
  refine ⟨F.ns.sameBut hs ?_, fun b o e => (hs.2 b (by rintro rfl; rw [gc] at e; cases e)).trans (F.keep b o e), F.above⟩
  rintro rfl
  obtain ⟨o, es, ep, ho, hd, _⟩ := F.ns
  obtain ⟨o2, e2, d2⟩ := hc
  rw [ho] at e2; cases e2; rw [hd] at d2; cases d2

section
variable {prog : Program} {w : World} {A : Around} {E : Value → Shared → Prop} {s : Shared} {env : Env} {mg mb : Str → Option Value}

set_option maxHeartbeats 4000000 in
theorem law_spec {fa l : Addr} {o : Obj} {pm cd doc : Value} {vs : List Value} {ns : List Int} (ho : s.heap.get? fa = some o)
    (hdt : o.data = .func (docDef (item 13).name (item 13).params (item 13).body (item 13).scope pm cd doc)) (hcd : s.heap.CodeRec cd (item 13).name)
    (T : TopF mg mb s.heap) (hh : A.handled = none) (hd : A.depth + 80 < recursionLimit) (hu : A.units + 500 < cLine) (hl : s.heap.IsList l vs.toArray) (hi : IntsAre vs ns) (hlen : ns.length ≤ 63) :
    codeAny (model prog w) A (.call (.ref fa) ⟨[.ref l], []⟩) (Ret s fun v h' => v = .bool true ∧ Ext s.heap h') s := by
  refine call_cells_ret (by omega) ho hdt T.nolimit hcd (binds := [(Str.ofString "script", .ref l)]) (by rfl) (by intro n x hx; simp only [List.mem_singleton] at hx; subst hx; exact .inl rfl) (fun h₁ tk₁ F hcs => ?_)
  try dsimp only
  have c1 : h₁.IsCell (s.heap.objs.size + 1) none := hcs (Str.ofString "n") (s.heap.objs.size + 1) (by rfl)
  have c2 : h₁.IsCell (s.heap.objs.size + 2) none := hcs (Str.ofString "a") (s.heap.objs.size + 2) (by rfl)
  clear hcs
  have gc1 : s.heap.get? (s.heap.objs.size + 1) = none := Heap.get?_none_of_le (Nat.le_add_right _ _)
  have gc2 : s.heap.get? (s.heap.objs.size + 2) = none := Heap.get?_none_of_le (Nat.le_add_right _ _)
  have hd' : A.depth + 1 + 60 < recursionLimit := by omega
  have hd0 : A.depth + 1 < recursionLimit := by omega
  have hu' : A.units + 3 + 400 < cLine := by omega
  have T₁ := T.ext F.keep
  have hvl : vs.length = ns.length := hi.length
  -- pool
  refine wpAny_execs_cons (wpAny_Assign_Name (List_ (args_cons ?_)))
  refine list_compX (ns := ns.take 16) (fun _ => true) id hh (by simp; omega) (fun Q' q => slice_to (b := 16) (IsList.ext hl F.keep) (by omega) (fun Q' q => nm F.ns (by rfl) q) (fun Q' q => wpAny_Constant_int (q _ _ _ rfl)) fun D h' tk k hD hDn => q D h' tk _ k hD (IntsAre.take 16 hi))
    (cl := []) (by rfl) (by decide) (by rfl) (by decide) (by rfl) ?_ ?_ ?_
  · intro C i s₃ m₃ t E' hn₃ hm kp
    exact wpAny_tests_nil ⟨rfl, _, _, rfl, fun _ _ e => e⟩
  · intro C i s₃ m₃ t E' hp hn₃ hm kp
    refine Call_ (nmB (T₁.ext kp) (by decide) (by rfl) (callWith_type1 (args_cons (nm hn₃ hm (args_nil ?_)))))
    exact call_int_int ⟨⟨_, rfl⟩, _, _, rfl, fun _ _ e => e⟩
  · intro q h₂ tk₂ ys hqn hl₂ _ hi₂ k₂
    rw [List.filter_eq_self.mpr (by simp), List.map_id] at hi₂
    refine wpAny_Constant_int (args_nil (newList_ ?_)) |> fun x => args_cons x
    generalize hp : h₂.objs.size = p
    have F₂ := Fr.ext F k₂
    have gp : s.heap.get? p = none := by
      cases q : s.heap.get? p with
      | none => rfl
      | some o => have := Heap.lt_size (F₂.keep _ _ q); rw [hp] at this; exact absurd this (Nat.lt_irrefl _)
    have gq : s.heap.get? q = none := by
      cases e : s.heap.get? q with
      | none => rfl
      | some o => exact absurd (hqn.symm.trans (F.keep _ _ e)) (by simp)
    have F₃ := F₂.push { cls := .type "list", data := .seq [Value.ref q, Value.int 0 tk₂].toArray }
    have k₃ : Ext h₂ (h₂.push { cls := .type "list", data := .seq [Value.ref q, Value.int 0 tk₂].toArray }) := fun b o e => Heap.get?_push_of_some _ e
    have hqp : q ≠ p := by
      rintro rfl
      obtain ⟨o, e, _⟩ := hl₂
      have := Heap.lt_size e
      rw [hp] at this; exact absurd this (Nat.lt_irrefl _)
    have P₃ : PoolAt (h₂.push { cls := .type "list", data := .seq [Value.ref q, Value.int 0 tk₂].toArray }) p q (ns.take 16) 0 :=
      ⟨⟨tk₂, _, by rw [← hp]; exact Heap.get?_push_size _ rfl, rfl, 0, rfl⟩, ⟨ys, IsList.ext hl₂ k₃, hi₂⟩, hqp⟩
    refine stL F₃.ns (fun h₄ hn₄ hs₄ => ?_)
    try dsimp only
    have F₄ := F₃.set hn₄ hs₄
    have dk₄ := DK.of_ns F₃.ns hs₄
    have P₄ := P₃.sk dk₄.sk
    have c1₄ := IsCell.dk (IsCell.sk (IsCell.sk c1 (.of_ext k₂)) (.of_ext k₃)) dk₄
    have c2₄ := IsCell.dk (IsCell.sk (IsCell.sk c2 (.of_ext k₂)) (.of_ext k₃)) dk₄
    have hns : (ns.take 16).length < 1000 := by simp; omega
    -- n
    refine wpAny_execs_cons (wpAny_Assign_Name (wpAny_BinOp (wpAny_Constant_int ?_)))
    refine eval_draw (many := 4) (T.ext F₄.keep) hd0 F₄ rfl (if_pos rfl) P₄ hns (by omega) (by decide) (by decide) gp fun d td h₅ tk₅ hd4 F₅ nk₅ P₅ k₅ => ?_
    try dsimp only
    refine P₄.top.elim fun tp hp₄ => ?_
    have c1₅ := cell_kp hp₄ k₅ c1₄
    have c2₅ := cell_kp hp₄ k₅ c2₄
    have en : (2 : Int) + (d : Int) = ((d + 2 : Nat) : Int) := by push_cast; omega
    refine add_int (wpAny_storeName_cell (c := s.heap.objs.size + 1) (v₀ := none) (by rfl) (by rfl) (by rfl) c1₅ fun h₆ hc₆ hs₆ => ?_)
    try dsimp only
    have F₆ := fr_cs F₅ c1₅ hs₆ gc1
    have P₆ := pool_cs P₅ c1₅ hs₆
    have c2₆ := c2₅.sameBut hs₆ (show @Ne Nat (s.heap.objs.size + 2) (s.heap.objs.size + 1) by omega)
    have c1₆ : h₆.IsCell (s.heap.objs.size + 1) (some (.int ((d + 2 : Nat) : Int) tk₅)) := by rw [← en]; exact hc₆
    -- a
    refine wpAny_execs_cons (wpAny_Assign_Name ?_)
    refine zero_comp (n := d + 2) (c := s.heap.objs.size + 1) (T.ext F₆.keep) hh (by omega) c1₆ (by rfl) (cl := [(Str.ofString "n", s.heap.objs.size + 1)]) (by rfl) (by decide) (by rfl) (by decide) (by rfl) (by rfl) (fun C => by rfl)
      fun D rs h₇ tk₇ k₇ M₇ hnd hDr hDn hrn => ?_
    have F₇ := Fr.ext F₆ k₇
    have P₇ := P₆.sk (.of_ext k₇)
    have c1₇ := IsCell.sk c1₆ (.of_ext k₇)
    have c2₇ := IsCell.sk c2₆ (.of_ext k₇)
    refine wpAny_storeName_cell (c := s.heap.objs.size + 2) (v₀ := none) (by rfl) (by rfl) (by rfl) c2₇ fun h₈ hc₈ hs₈ => ?_
    try dsimp only
    have F₈ := fr_cs F₇ c2₇ hs₈ gc2
    have c1₈ := c1₇.sameBut hs₈ (show @Ne Nat (s.heap.objs.size + 1) (s.heap.objs.size + 2) by omega)
    have gr : ∀ r, h₆.get? r = none → s.heap.get? r = none := fun r e => by
      cases q : s.heap.get? r with
      | none => rfl
      | some o => exact absurd (e.symm.trans (F₆.keep _ _ q)) (by simp)
    have isl : ∀ {x vs}, h₆.IsList x vs → h₆.get? x ≠ none := fun {x vs} ⟨o, e, _⟩ q => by rw [q] at e; cases e
    have hA : Apart s.heap p q D rs := by
      obtain ⟨t6, hp6⟩ := P₆.top
      obtain ⟨v6, hq6, _⟩ := P₆.lst
      exact ⟨hnd, hDr, fun e => isl hp6 (e ▸ hDn), fun e => isl hp6 (hrn p e), fun e => isl hq6 (hrn q e), gp, fun r hr => gr r (hrn r hr)⟩
    have Y : Pay s.heap.objs.size p q D rs (ns.take 16) (d + 2) 1 (fun _ _ => 0) (fun y => if y = Str.ofString "pool" then some (Value.ref p) else bindL (fun x => (item 13).scope.names.lookup x) [(Str.ofString "script", Value.ref l)] (fun _ => none) y) h₈ :=
      ⟨⟨_, c1₈⟩, hc₈, if_pos rfl, pool_cs P₇ c2₇ hs₈, mat_cs M₇ c2₇ hs₈⟩
    -- the loops
    refine wpAny_execs_cons (law_fill T hh hd0 F₈ hA (by omega) hns Y fun h₉ tk₉ m₉ spot f F₉ hspot hf Y₉ => ?_)
    try dsimp only
    refine wpAny_execs_cons (law_due T hh hd' hu' F₉ (by omega) (by omega) hf Y₉ fun h₁₀ tk₁₀ m₁₀ F₁₀ Y₁₀ hdue => ?_)
    try dsimp only
    refine wpAny_execs_cons (law_test T hh hd' hu' F₁₀ (by omega) (by omega) hf Y₁₀ hdue fun h₁₁ tk₁₁ k₁₁ => ?_)
    try dsimp only
    have F₁₁ := Fr.ext F₁₀ k₁₁
    refine wpAny_execs_cons (law_hw T hh hd0 F₁₁ Y₁₀.ep (Y₁₀.pl.sk (.of_ext k₁₁)) hns (by omega) gp fun h₁₂ tk₁₂ m₁₂ a b ha hb F₁₂ P₁₂ ep₁₂ eh ew => ?_)
    try dsimp only
    refine wpAny_execs_cons (law_ls T hh hd0 F₁₂ ep₁₂ P₁₂ hns (by omega) gp eh ew fun h₁₃ tk₁₃ m₁₃ lv sv G hlv hsv F₁₃ eh ew el es eg pl gG => ?_)
    try dsimp only
    have eN : (((a + 2 : Nat) : Int)) * ((b + 2 : Nat) : Int) = (((a + 2) * (b + 2) : Nat) : Int) := by push_cast; rfl
    have hN : (a + 2) * (b + 2) ≤ 12 := by
      have h1 : (a + 2) * (b + 2) ≤ 3 * 4 := Nat.mul_le_mul (by omega) (by omega)
      omega
    have e1 : ((lv + 1 : Nat) : Int) = (lv : Int) + 1 := by push_cast; rfl
    have e2 : ((sv + 1 : Nat) : Int) = (sv : Int) + 1 := by push_cast; rfl
    rw [e1] at el
    rw [e2] at es
    refine wpAny_execs_cons (law_board (G := G) (N := (a + 2) * (b + 2)) (H := a + 2) (W := b + 2) (ly := (lv : Int) + 1) (st := (sv : Int) + 1) T hh F₁₃ (by omega) (by omega) (by omega) (by omega) (by omega) eN ⟨eh, ew, el, es, eg⟩
      ⟨pl, by simp, fun j r hr => by simp at hr⟩ gG fun h₁₄ tk₁₄ m₁₄ rs₁₄ F₁₄ X Y hlen₁₄ => ?_)
    refine wpAny_execs_cons (law_ret T hh hd' hu' F₁₄ ha hb hlv hsv X Y hlen₁₄ fun h₁₅ tk₁₅ k₁₅ => ?_)
    try dsimp only
    exact ⟨_, _, _, rfl, rfl, rfl, fun b o e => k₁₅ _ _ (F₁₄.keep _ _ e)⟩
end

theorem topF_of_glob {mg mb : Str → Option Value} {h : Heap} {defs : List DefItem} {consts : List (Str × PyData)} {names : List Str} (GL : Glob 0 mg mb defs consts [] names h)
    (hm : ∀ d ∈ items, d ∈ defs ∧ d.params.defaults = [])
    (hf : ∀ x ∈ ([Str.ofString "len", Str.ofString "range", Str.ofString "list", Str.ofString "abs", Str.ofString "int", Str.ofString "enumerate"] : List Str), x ∉ names ∧ x ∉ bootMainNames ∧ x ≠ "__name__") : TopF mg mb h where
  g := GL.g
  b := GL.b
  nolimit := GL.nolimit
  made := fun d hd => by
    obtain ⟨a, c', o, pm, doc, _, _, h1, h2, h3, h4⟩ := (GL.made d (hm d hd).1).plain (hm d hd).2
    exact ⟨a, o, pm, doc, _, h1, h2, h3, h4⟩
  free := fun x hx => ⟨GL.free x (hf x hx).1 (hf x hx).2.1, GL.builtins x (hf x hx).2.2⟩
end Mine

end

open PySem PySem.W PyProof.Rows
set_option maxRecDepth 100000 in
set_option maxHeartbeats 8000000 in
theorem PySem.Challenge.cw_tg0002_01_holds : PySem.Challenge.rw_tg0002_01.Holds := by
  w_on
  o_law
  o_head Hook.none
  case hw => w_witness2
  intro w s₀ s₁ mg mb G Y fa o pm cd doc dV kV ho hdt hcd hD hmg hg args vals as hpre hlay hrd hwl hlo
  have V := (Ground.X G).2
  have GL := glob_more (Ground.glob G (by first | k_qdec | decide +kernel) (by first | k_qdec | decide +kernel)) V
  have TF : Mine.TopF mg mb s₁.heap := by
    refine Mine.topF_of_glob GL ?_ (by decide +kernel)
    unfold Mine.items
    refine List.forall_mem_cons.mpr ⟨⟨List.mem_of_getElem? (i := 0) rfl, rfl⟩, ?_⟩
    refine List.forall_mem_cons.mpr ⟨⟨List.mem_of_getElem? (i := 1) rfl, rfl⟩, ?_⟩
    refine List.forall_mem_cons.mpr ⟨⟨List.mem_of_getElem? (i := 2) rfl, rfl⟩, ?_⟩
    refine List.forall_mem_cons.mpr ⟨⟨List.mem_of_getElem? (i := 3) rfl, rfl⟩, ?_⟩
    refine List.forall_mem_cons.mpr ⟨⟨List.mem_of_getElem? (i := 4) rfl, rfl⟩, ?_⟩
    refine List.forall_mem_cons.mpr ⟨⟨List.mem_of_getElem? (i := 5) rfl, rfl⟩, ?_⟩
    refine List.forall_mem_cons.mpr ⟨⟨List.mem_of_getElem? (i := 6) rfl, rfl⟩, ?_⟩
    refine List.forall_mem_cons.mpr ⟨⟨List.mem_of_getElem? (i := 7) rfl, rfl⟩, ?_⟩
    refine List.forall_mem_cons.mpr ⟨⟨List.mem_of_getElem? (i := 8) rfl, rfl⟩, ?_⟩
    intro d hd; cases hd
  refine Ground.open G ?_
  intro T B D TE TW
  have e1 := Dflts.pos_none hD rfl
  have e2 := Dflts.kw_none hD rfl
  subst e1 e2
  clear hD hmg V GL T B D TE TW Y
  wrow_args hpre hlay hrd hwl hlo
  refine enter_call ?_
  refine codeAny_mono (Mine.law_spec ho hdt hcd TF rfl (by decide) (by decide) (by assumption) (by assumption) (by omega)) (fun r s' hr => ?_)
  obtain ⟨v, h', tk, rfl, rfl, rfl, k⟩ := hr
  refine GoodW.toG ⟨.inl ⟨.bool true, .bool true, [], rfl, raisesW_false (by wrow_none_raised), .bool true, ?_, unshared_nil⟩, k, rfl, hg⟩
  wrow_post
