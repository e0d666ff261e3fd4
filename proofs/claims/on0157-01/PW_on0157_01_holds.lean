import PyProof.Rows.All
import Wide.All
import OpenK.AllK
import Wide.FinOn
import KE.KLcPair
import PyProof.WalksPairs
import KE.KDictOf
import PyProof.AttrMissHeap
import KE.KItemsList
import KE.KEqDict
import PyProof.DictTable
import Lean
import PySem.Challenge.RW_on0157_01
set_option Elab.async false
set_option maxRecDepth 100000

section
open PySem PySem.W PyProof.Rows PySem.Calls
namespace Mine
abbrev PP : Program := PySem.Challenge.pw_on0157_01

structure DefD where
  name : Str
  params : Arguments
  body : List Stmt
  scope : Scope

def defOf : Option Stmt → Option DefD
  | some (.FunctionDef name args body _ _ _ scope _ _ _) => some ⟨name, args, body, scope⟩
  | _ => none
def classBody : Option Stmt → List Stmt
  | some (.ClassDef _ _ _ body _ _ _ _ _ _ _) => body
  | _ => []
def nth {α : Type} : List α → Nat → Option α
  | [], _ => none
  | x :: _, 0 => some x
  | _ :: r, n + 1 => nth r n
def theDef (d : Option DefD) : DefD := d.getD ⟨⟨#[]⟩, ⟨[], [], none, [], [], none, []⟩, [], ⟨.function, [], false, false, []⟩⟩

def dBits : DefD := theDef (defOf (nth PP.main.body 2))
def dState : DefD := theDef (defOf (nth (classBody (nth PP.main.body 4)) 0))
def dAuto : DefD := theDef (defOf (nth (classBody (nth PP.main.body 5)) 0))
def dGoto : DefD := theDef (defOf (nth (classBody (nth PP.main.body 5)) 2))
def dClashes : DefD := theDef (defOf (nth PP.main.body 6))
def dCanon : DefD := theDef (defOf (nth PP.main.body 7))
def dLrOne : DefD := theDef (defOf (nth PP.main.body 8))
def dBox : DefD := theDef (defOf (nth PP.main.body 10))
def dDraw : DefD := theDef (defOf (nth PP.main.body 11))
def dDue : DefD := theDef (defOf (nth PP.main.body 12))
def dLaw : DefD := theDef (defOf (nth PP.main.body 13))

/-- a def of the text stands at an address -/
def IsFn (h : Heap) (f : Addr) (qual : Str) (d : DefD) : Prop :=
  ∃ oc od osl doc pm an cdv ct, h.get? f = some ⟨oc, od, .func (fnOf d.name qual d.params d.body d.scope .none .none doc pm an cdv ct), osl⟩ ∧ h.CodeRec cdv qual

theorem IsFn.keeps {h h' : Heap} {f : Addr} {q : Str} {d : DefD} (x : IsFn h f q d) (k : ∀ b o, h.get? b = some o → h'.get? b = some o) : IsFn h' f q d := by
  obtain ⟨oc, od, osl, doc, pm, an, cdv, ct, ho, hc⟩ := x
  exact ⟨oc, od, osl, doc, pm, an, cdv, ct, k _ _ ho, hc.keeps k⟩

def built : List (Str × Value) := [("int", .type "int"), ("abs", .builtin "abs"), ("len", .builtin "len"), ("range", .type "range"), ("sorted", .builtin "sorted"), ("tuple", .type "tuple"), ("dict", .type "dict"), ("list", .type "list"), ("sum", .builtin "sum")]
def globs : List (Str × Value) := [("bits", .ref 28), ("CanonicalState", .ref 50), ("CanonicalAutomaton", .ref 92), ("clashes", .ref 103), ("canonical_clashes", .ref 110), ("is_lr_one", .ref 117), ("_law_box", .ref 122), ("_law_draw", .ref 129), ("_law_due", .ref 134)]

structure W0 (K : Frag) (w : World) (h : Heap) : Prop where
  X : K.In h
  lim : h.NoLimit
  names : ∃ mg mb, h.Ns mainGlobals mg ∧ h.Ns builtinsNs mb ∧ (∀ p ∈ globs, mg p.1 = some p.2) ∧ (∀ p ∈ built, mg p.1 = none ∧ mb p.1 = some p.2)
  bits : IsFn h 28 "bits" dBits
  clashes : IsFn h 103 "clashes" dClashes
  canon : IsFn h 110 "canonical_clashes" dCanon
  lrone : IsFn h 117 "is_lr_one" dLrOne
  box : IsFn h 122 "_law_box" dBox
  draw : IsFn h 129 "_law_draw" dDraw
  due : IsFn h 134 "_law_due" dDue
  state : IsFn h 40 "CanonicalState.__init__" dState
  auto : IsFn h 68 "CanonicalAutomaton.__init__" dAuto
  goto : IsFn h 82 "CanonicalAutomaton.goto" dGoto

theorem W0.keeps {K : Frag} {w : World} {h h' : Heap} (W : W0 K w h) (k : ∀ b o, h.get? b = some o → h'.get? b = some o) : W0 K w h' := by
  obtain ⟨mg, mb, a, b, c, d⟩ := W.names
  exact ⟨W.X.keeps k, W.lim.keeps k, ⟨mg, mb, a.keeps k, b.keeps k, c, d⟩, W.bits.keeps k, W.clashes.keeps k, W.canon.keeps k, W.lrone.keeps k, W.box.keeps k, W.draw.keeps k, W.due.keeps k, W.state.keeps k, W.auto.keeps k, W.goto.keeps k⟩

/-- room: nothing handled, depth and C units to spare -/
structure Rm (A : Around) (d : Nat) : Prop where
  hh : A.handled = none
  depth : A.depth + d ≤ recursionLimit
  units : A.units + 4 * d + 100 < cLine

theorem Rm.deeper {A : Around} {d : Nat} {env : Env} (r : Rm A (d + 1)) : Rm (A.deeper env) d :=
  ⟨r.hh, by have := r.depth; show A.depth + 1 + d ≤ _; omega, by have := r.units; rw [Around.deeper_units]; omega⟩
theorem Rm.less {A : Around} {d e : Nat} (r : Rm A d) (h : e ≤ d) : Rm A e := ⟨r.hh, by have := r.depth; omega, by have := r.units; omega⟩

section
variable {w : World} {A : Around} {E : Value → Shared → Prop} {s : Shared} {K : Frag}

/-- a call of a def: its frame is new, all that stood stays -/
theorem call_fn {f : Addr} {q : Str} {d : DefD} {args : List Value} {binds : List (Str × Value)} {Q : Value → Shared → Prop}
    (hf : IsFn s.heap f q d) (hlim : s.heap.NoLimit) (hroom : A.depth < recursionLimit)
    (hbind : ∀ doc pm an cdv ct, bindArgs (fnOf d.name q d.params d.body d.scope .none .none doc pm an cdv ct) ⟨args, []⟩ = pure binds)
    (hloc : ∀ x ∈ binds, d.scope.names.lookup x.1 = some .local)
    (h : ∀ cdv h₁, Fr s.heap s.heap.objs.size h₁ (fun x => binds.reverse.lookup x) →
      wpAny (model PP w) (A.deeper (envOf q d.scope s.heap.objs.size f cdv)) (execs d.body (envOf q d.scope s.heap.objs.size f cdv))
        (fun fl s' => Q (match fl with | .ret v => v | _ => .none) s') (fun _ _ => False) { s with heap := h₁, toks := s.toks + binds.length })
    (hcell : ∀ x ∈ d.scope.names, x.2 ≠ .cell) (hco : d.scope.isCoroutine = false) (hgen : d.scope.isGenerator = false) (hk : d.scope.kind = .function) :
    wpAny (model PP w) A (call (.ref f) args) Q E s := by
  obtain ⟨oc, od, osl, doc, pm, an, cdv, ct, ho, hc⟩ := hf
  refine wpAny_call (codeAny_call_def (fd := fnOf d.name q d.params d.body d.scope .none .none doc pm an cdv ct) (body := d.body) (binds := binds) hroom ho rfl hlim hc rfl (BindsTo.of_eq (hbind _ _ _ _ _)) hcell hloc (fun h₁ hns hk₁ => ?_) hco hgen hk)
  exact wpAny_mono (h cdv h₁ ⟨hns, hk₁, Nat.le_refl _⟩) (fun _ _ x => x) (fun _ _ x => x.elim)

theorem callWith_fn {h₀ : Heap} {f : Addr} {q : Str} {d : DefD} {env : Env} {pos : Pos} {e : Expr} {rest : List Expr} {Q : Value → Shared → Prop} (hf : IsFn h₀ f q d)
    (h : wpAny (model PP w) A (spliced (backTo pos (starEach (e :: rest) env))) (fun vs s₁ => (∀ b o, h₀.get? b = some o → s₁.heap.get? b = some o) ∧ wpAny (model PP w) A (call (.ref f) vs) Q E s₁) E s)
    (he : starEach (e :: rest) env = (false, eval e env) :: starEach rest env) :
    wpAny (model PP w) A (callWith pos (.ref f) [] (backTo pos (starEach (e :: rest) env)) []) Q E s := by
  obtain ⟨oc, od, osl, doc, pm, an, cdv, ct, ho, _⟩ := hf
  exact callWith_def (o := ⟨oc, od, .func (fnOf d.name q d.params d.body d.scope .none .none doc pm an cdv ct), osl⟩) rfl (wpAny_mono h (fun vs s₁ h₁ => ⟨h₁.1 _ _ ho, h₁.2⟩) fun _ _ x => x) he

theorem ev_glob {h₀ : Heap} {L f : Addr} {m : Str → Option Value} {q : Str} {sc : Scope} {cdv : Value} {x : Str} {pos : Pos} {v : Value} {Q : Value → Shared → Prop}
    (W : W0 K w h₀) (F : Fr h₀ L s.heap m) (hm : (x, v) ∈ globs) (h : Q v s)
    (hk : sc.kind = .function) (hx : (envOf q sc L f cdv).kindOf x = some .globalImplicit) (hd : (x == ("__debug__" : Str)) = false) :
    wpAny (model PP w) A (eval (.Name x pos) (envOf q sc L f cdv)) Q E s := by
  obtain ⟨mg, mb, a, b, c, d⟩ := W.names
  exact ld_global_at F a (c _ hm) h hk hx hd
theorem ev_built {h₀ : Heap} {L f : Addr} {m : Str → Option Value} {q : Str} {sc : Scope} {cdv : Value} {x : Str} {pos : Pos} {v : Value} {Q : Value → Shared → Prop}
    (W : W0 K w h₀) (F : Fr h₀ L s.heap m) (hm : (x, v) ∈ built) (h : Q v s)
    (hk : sc.kind = .function) (hx : (envOf q sc L f cdv).kindOf x = some .globalImplicit) (hd : (x == ("__debug__" : Str)) = false) :
    wpAny (model PP w) A (eval (.Name x pos) (envOf q sc L f cdv)) Q E s := by
  obtain ⟨mg, mb, a, b, c, d⟩ := W.names
  exact ld_builtin_at F a (d _ hm).1 b (d _ hm).2 h hk hx hd
theorem ev_builtC {h₀ : Heap} {L C : Addr} {m : Str → Option Value} {sc : Scope} {cl : List (Str × Addr)} {env : Env} {x : Str} {pos : Pos} {v : Value} {Q : Value → Shared → Prop}
    (W : W0 K w h₀) (F : Fr h₀ L s.heap m) (hm : (x, v) ∈ built) (h : Q v s) (hg : env.globals = mainGlobals) (hb : env.builtins = builtinsNs)
    (hk : (compEnvC sc cl C env).scope.kind = .function) (hx : (compEnvC sc cl C env).kindOf x = some .globalImplicit) (hd : (x == ("__debug__" : Str)) = false) :
    wpAny (model PP w) A (eval (.Name x pos) (compEnvC sc cl C env)) Q E s := by
  obtain ⟨mg, mb, a, b, c, d⟩ := W.names
  exact Name_function_global hk hx (loadGlobal_builtin (env := compEnvC sc cl C env) (show s.heap.Ns env.globals mg from hg ▸ a.keeps F.keep) (d _ hm).1 (show s.heap.Ns env.builtins mb from hb ▸ b.keeps F.keep) (d _ hm).2 h) hd
end

abbrev NoE : Value → Shared → Prop := fun _ _ => False
abbrev lst (ys : List Value) : Obj := { cls := .type "list", data := .seq ys.toArray ys.length }
theorem lst_snoc (ys : List Value) (y : Value) : ({ cls := .type "list", data := .seq (ys.toArray.push y) (ys.length + 1) } : Obj) = lst (ys ++ [y]) := by
  show ({ cls := .type "list", data := .seq (ys.toArray.push y) (ys.length + 1) } : Obj) = { cls := .type "list", data := .seq (ys ++ [y]).toArray (ys ++ [y]).length }
  rw [List.length_append, List.length_singleton, List.push_toArray]


section
variable {w : World} {A : Around} {s : Shared} {env : Env}

def tests (ifs : List Expr) (env : Env) : Sem Bool := forIn ifs true fun c r => if r = true then do let ok ← isTrue c env (eval c env); pure (ForInStep.yield ok) else pure (ForInStep.yield r)

def TurnEnd (s₂ : Shared) (h : Heap) (own : Addr → Prop) (J : List Value → Heap → Prop) (ys : List Value) (s' : Shared) : Prop :=
  ∃ h' tk, s' = { s₂ with heap := h', toks := tk } ∧ (∀ b o, own b → h.get? b = some o → h'.get? b = some o) ∧ J ys h'

theorem comp_block {elt iter : Expr} {x : Str} {px : Pos} {ifs : List Expr} {scope : Scope} {cl : List (Str × Addr)} {pos : Pos} {s₂ : Shared} {I : Addr} {fp : List Addr} {n : Nat} {P : Nat → Value → Prop} {St : Nat → Heap → Prop}
    {RR : Value → Addr → Result → Shared → Prop}
    (W : Walks PP w A I fp [I] n P St) (hsz : n ≤ sizeLine) (hcell : ∀ y ∈ scope.names, y.2 ≠ .cell) (hkind : scope.kind = .function) (hx : scope.names.lookup x = some .local)
    (hst : St 0 s₂.heap) (hfp : ∀ b ∈ fp, b < s₂.heap.objs.size)
    (J : Nat → List Value → Heap → Prop) (h0 : J 0 [] s₂.heap)
    (hJ : ∀ i ys h h', J i ys h → (∀ b o, b ≠ I → b ≠ s₂.heap.objs.size → b ≠ s₂.heap.objs.size + 1 → h.get? b = some o → h'.get? b = some o) → J i ys h')
    (turn : ∀ i v ys h tk m₂, i < n → P i v → St (i + 1) h → J i ys h → h.Ns (s₂.heap.objs.size + 1) m₂ → m₂ x = some v → s₂.heap.objs.size + 2 ≤ h.objs.size →
      wpAny (model PP w) A (tests ifs (compEnvC scope cl (s₂.heap.objs.size + 1) env)) (fun ok s₃ =>
        if ok = true then wpAny (model PP w) A (eval elt (compEnvC scope cl (s₂.heap.objs.size + 1) env)) (fun y s₄ => TurnEnd s₂ h (fun b => b = s₂.heap.objs.size + 1 ∨ b = s₂.heap.objs.size ∨ b ∈ fp) (J (i + 1)) (ys ++ [y]) s₄) NoE s₃
        else TurnEnd s₂ h (fun b => b = s₂.heap.objs.size + 1 ∨ b = s₂.heap.objs.size ∨ b ∈ fp) (J (i + 1)) ys s₃) NoE { s₂ with heap := h, toks := tk })
    (hRR : ∀ h tk ys m, J n ys h → h.get? s₂.heap.objs.size = some (lst ys) → h.Ns (s₂.heap.objs.size + 1) m → RR (.ref s₂.heap.objs.size) (s₂.heap.objs.size + 1) (.ok .next) { s₂ with heap := h, toks := tk }) :
    wpAny (model PP w) A (newList []) (fun acc s₃ => wpAny (model PP w) A (newFunctionEnv scope env.globals cl [] env.qual none .none (some env)) (fun cenv s₄ =>
      codeAny (model PP w) A (.compStart (.ListComp elt [⟨.Name x px, iter, ifs, 0⟩] scope pos) 0 (.ref I) acc { cenv with scope := relabel scope env }) (RR acc cenv.locals) s₄) NoE s₃) NoE s₂ := by
  refine wpAny_newObj_type (wpAny_newFunctionEnv hcell (by intro y hy; simp at hy) (fun h₁ hns₁ hsb₁ => ?_) hkind)
  dsimp only at hns₁ hsb₁ ⊢
  generalize hH2 : s₂.heap.push { cls := .type "list", dict := none, data := .seq ([] : List Value).toArray } = H2 at hns₁ hsb₁ ⊢
  have hC : H2.objs.size = s₂.heap.objs.size + 1 := by rw [← hH2, Heap.size_push]
  rw [hC] at hns₁ hsb₁
  rw [hC]
  have hIf : I ∈ fp := W.sub I (List.mem_singleton.mpr rfl)
  have hIlt : I < s₂.heap.objs.size := hfp I hIf
  have old : ∀ b o, s₂.heap.get? b = some o → h₁.get? b = some o := fun b o e => hsb₁.extBut b o (Nat.ne_of_lt (Nat.lt_succ_of_lt (Heap.lt_size e))) (Heap.get?_push_of_some _ (hH2 ▸ Heap.get?_push_of_some _ e))
  have hacc : h₁.get? s₂.heap.objs.size = some (lst []) := hsb₁.extBut _ _ (Nat.ne_of_lt (Nat.lt_succ_self _)) (Heap.get?_push_of_some _ (hH2 ▸ Heap.get?_push_size _ rfl))
  have hst₁ : St 0 h₁ := W.frame _ _ _ hst fun b _ o e => old b o e
  generalize hn₀ : s₂.heap.objs.size = n₀ at *
  have hfpD : n₀ ∉ fp := fun hm => Nat.lt_irrefl _ (hfp _ hm)
  have hfpC : n₀ + 1 ∉ fp := fun hm => Nat.lt_irrefl _ (Nat.lt_trans (Nat.lt_succ_self _) (hfp _ hm))
  have hIC : I < n₀ + 1 := Nat.lt_succ_of_lt hIlt
  have loop : ∀ s₃ : Shared, s₃ = { s₂ with heap := h₁, toks := s₂.toks + ([] : List (Str × Value)).length } →
      codeAny (model PP w) A (.compLoop (.ListComp elt [⟨.Name x px, iter, ifs, 0⟩] scope pos) 0 (.ref I) (.ref n₀) (compEnvC scope cl (n₀ + 1) env))
        (RR (.ref n₀) (n₀ + 1)) s₃ := by
    rintro s₃ rfl
    refine codeAny_compLoop_tests
      (fun k s' => ∃ h' tk i ys m', s' = { s₂ with heap := h', toks := tk } ∧ i ≤ n ∧ k = n + 1 - i ∧ ys.length ≤ i ∧ St i h' ∧ h'.Ns (n₀ + 1) m' ∧ h'.get? n₀ = some (lst ys) ∧ J i ys h') ?_ (n + 1)
      ⟨h₁, _, 0, [], _, rfl, Nat.zero_le _, rfl, Nat.le_refl _, hst₁, hns₁, hacc, hJ _ _ _ _ h0 fun b o _ _ _ e => old b o e⟩
    rintro k s' ⟨h', tk, i, ys, m', rfl, hi, rfl, hyl, hst', hn', hD', hj⟩
    by_cases hlt : i < n
    · refine W.item i _ _ _ hlt hst' fun v h₂ tk₂ hPv hst₂ hk₂ => ?_
      have k2 : ∀ b o, b ≠ I → h'.get? b = some o → h₂.get? b = some o := fun b o hb e => hk₂ b o (by simpa using hb) e
      refine wpAny_assign_Name (wpAny_storeName_local (lookup_relabel_local hx) (hn'.at' fun o e => k2 _ o (Nat.ne_of_gt hIC) e) (fun h₃ hn₃ hs₃ => ?_) (by simp [compEnvC, relabel, hkind]))
      have k3 : ∀ b o, b ≠ I → b ≠ n₀ + 1 → h'.get? b = some o → h₃.get? b = some o := fun b o hb hb' e => hs₃.extBut b o hb' (k2 b o hb e)
      have hst₃ : St (i + 1) h₃ := W.frame _ _ _ hst₂ fun b hb o e => hs₃.extBut b o (fun q => hfpC (by have q' : b = n₀ + 1 := q; rw [← q']; exact hb)) e
      have hD₃ : h₃.get? n₀ = some (lst ys) := k3 _ _ (Nat.ne_of_gt hIlt) (Nat.ne_of_lt (Nat.lt_succ_self _)) hD'
      have hj₃ : J i ys h₃ := hJ _ _ _ _ hj fun b o h1 _ h3 e => k3 b o h1 h3 e
      have hsz₃ : n₀ + 2 ≤ h₃.objs.size := hn₃.lt
      refine wpAny_mono (turn i v ys h₃ _ _ hlt hPv hst₃ hj₃ hn₃ (by simp) hsz₃) (fun ok s₃ h₃' => ?_) fun _ _ e => e.elim
      cases ok with
      | false =>
        simp only [Bool.false_eq_true, if_false] at h₃' ⊢
        obtain ⟨h₄, tk₄, rfl, ho, hj₄⟩ := h₃'
        obtain ⟨oC, esC, epC, heC, rC⟩ := hn₃
        exact ⟨n + 1 - (i + 1), by omega, h₄, tk₄, i + 1, ys, _, rfl, hlt, rfl, by omega, W.frame _ _ _ hst₃ fun b hb o e => ho b o (.inr (.inr hb)) e, ⟨oC, esC, epC, ho _ _ (.inl rfl) heC, rC⟩, ho _ _ (.inr (.inl rfl)) hD₃, hj₄⟩
      | true =>
        simp only [if_true] at h₃' ⊢
        refine wpAny_mono h₃' (fun y s₄ h₄ => ?_) fun _ _ e => e.elim
        obtain ⟨h₄, tk₄, rfl, ho, hj₄⟩ := h₄
        obtain ⟨oC, esC, epC, heC, rC⟩ := hn₃
        refine append_at (hsz := by show ys.toArray.size ≤ sizeLine; rw [List.size_toArray]; omega) (ho _ _ (.inr (.inl rfl)) hD₃) fun h₅ hs₅ hD₅ => ?_
        refine ⟨n + 1 - (i + 1), by omega, h₅, tk₄, i + 1, ys ++ [y], _, rfl, hlt, rfl, by rw [List.length_append, List.length_singleton]; omega, W.frame _ _ _ hst₃ fun b hb o e => hs₅.extBut b o (fun q => hfpD (q ▸ hb)) (ho b o (.inr (.inr hb)) e),
          ⟨oC, esC, epC, hs₅.extBut _ _ (Nat.ne_of_gt (Nat.lt_succ_self _)) (ho _ _ (.inl rfl) heC), rC⟩, hD₅.trans (congrArg some (lst_snoc ys y)), hJ _ _ _ _ hj₄ fun b o _ h2 _ e => hs₅.extBut b o h2 e⟩
    · obtain rfl : i = n := Nat.le_antisymm hi (Nat.not_lt.mp hlt)
      refine W.done _ _ _ hst' fun h₂ tk₂ hk₂ => ?_
      have k2 : ∀ b o, b ≠ I → h'.get? b = some o → h₂.get? b = some o := fun b o hb e => hk₂ b o (by simpa using hb) e
      exact hRR h₂ tk₂ ys _ (hJ _ _ _ _ hj fun b o h1 _ _ e => k2 b o h1 e) (k2 _ _ (Nat.ne_of_gt hIlt) hD') (hn'.at' fun o e => k2 _ o (Nat.ne_of_gt hIC) e)
  exact codeAny_compStart_list (loop _ rfl) (wpAny_mono (W.self 0 _ (fun it' s' => it' = .ref I ∧ s' = _) NoE hst₁ ⟨rfl, rfl⟩) (fun it' s' hq => by obtain ⟨rfl, rfl⟩ := hq; exact loop _ rfl) fun _ _ e => e.elim)

/-- what the turns of a comprehension are asked -/
def CompOn (w : World) (A : Around) (env : Env) (elt : Expr) (x : Str) (ifs : List Expr) (scope : Scope) (cl : List (Str × Addr)) (Fin : Shared → List Value → Heap → Nat → Prop) (it : Value) (s₂ : Shared) : Prop :=
  ∃ I fp n P St, it = .ref I ∧ Walks PP w A I fp [I] n P St ∧ n ≤ sizeLine ∧ St 0 s₂.heap ∧ (∀ b ∈ fp, b < s₂.heap.objs.size) ∧
    ∃ J : Nat → List Value → Heap → Prop, J 0 [] s₂.heap ∧
      (∀ i ys h h', J i ys h → (∀ b o, b ≠ I → b ≠ s₂.heap.objs.size → b ≠ s₂.heap.objs.size + 1 → h.get? b = some o → h'.get? b = some o) → J i ys h') ∧
      (∀ i v ys h tk m₂, i < n → P i v → St (i + 1) h → J i ys h → h.Ns (s₂.heap.objs.size + 1) m₂ → m₂ x = some v → s₂.heap.objs.size + 2 ≤ h.objs.size →
        wpAny (model PP w) A (tests ifs (compEnvC scope cl (s₂.heap.objs.size + 1) env)) (fun ok s₃ =>
          if ok = true then wpAny (model PP w) A (eval elt (compEnvC scope cl (s₂.heap.objs.size + 1) env)) (fun y s₄ => TurnEnd s₂ h (fun b => b = s₂.heap.objs.size + 1 ∨ b = s₂.heap.objs.size ∨ b ∈ fp) (J (i + 1)) (ys ++ [y]) s₄) NoE s₃
          else TurnEnd s₂ h (fun b => b = s₂.heap.objs.size + 1 ∨ b = s₂.heap.objs.size ∨ b ∈ fp) (J (i + 1)) ys s₃) NoE { s₂ with heap := h, toks := tk }) ∧
      (∀ h tk ys, J n ys h → h.get? s₂.heap.objs.size = some (lst ys) → Fin s₂ ys h tk)

theorem ListComp_raw {elt iter : Expr} {x : Str} {px : Pos} {ifs : List Expr} {scope : Scope} {cl : List (Str × Addr)} {pos : Pos} {Q : Value → Shared → Prop}
    (hclos : closureFor scope env = pure cl) (hcell : ∀ y ∈ scope.names, y.2 ≠ .cell) (hkind : scope.kind = .function)
    (hnames : ∀ y ∈ scope.names, y.2 = .local → scope.names.lookup y.1 = some .local) (hx : scope.names.lookup x = some .local) (hs : ∀ x, foldedSetIterable iter env x = pure x)
    (h : wpAny (model PP w) A (eval iter env) (fun xv s₁ => wpAny (model PP w) A (pyIter xv) (fun it s₂ =>
      CompOn w A env elt x ifs scope cl (fun s₂ _ h tk => ∀ h', (∀ b o, b ≠ s₂.heap.objs.size + 1 → h.get? b = some o → h'.get? b = some o) → Q (.ref s₂.heap.objs.size) { s₂ with heap := h', toks := tk }) it s₂) NoE s₁) NoE s) :
    wpAny (model PP w) A (eval (.ListComp elt [⟨.Name x px, iter, ifs, 0⟩] scope pos) env) Q NoE s := by
  rw [eval_ListComp]
  refine wpAny_comprehension_free (use := none) rfl hs hclos hkind hnames (wpAny_mono h (fun xv s₁ h₁ => wpAny_mono h₁ (fun it s₂ h₂ => ?_) fun _ _ e => e) fun _ _ e => e)
  obtain ⟨I, fp, n, P, St, rfl, W, hsz, hst, hfp, J, h0, hJ, turn, fin⟩ := h₂
  refine comp_block W hsz hcell hkind hx hst hfp J h0 hJ turn fun h tk _ m hj hD hn => ?_
  exact ⟨m, hn, fun h' hs' => fin h tk _ hj hD h' fun b o hb e => hs'.extBut b o hb e⟩

/-- a for over a name -/
theorem For_raw {x : Str} {px pos : Pos} {iter : Expr} {body : List Stmt} {Q : Flow → Shared → Prop} {L : Addr} (hL : env.locals = L) (hx : env.kindOf x = some .local)
    (hp : (env.scope.kind == .class || (env.scope.kind == .module && env.locals != env.globals)) = false) (hs : ∀ x, foldedSetIterable iter env x = pure x)
    (h : wpAny (model PP w) A (eval iter env) (fun xv s₁ => wpAny (model PP w) A (pyIter xv) (fun it s₂ => ∃ I fp n P St, it = .ref I ∧ Walks PP w A I fp [I] n P St ∧ St 0 s₂.heap ∧ L ∉ fp ∧
      ∃ (J : Nat → (Str → Option Value) → Heap → Prop) (m₀ : Str → Option Value), s₂.heap.Ns L m₀ ∧ J 0 m₀ s₂.heap ∧
        (∀ i m h h', J i m h → (∀ b o, b ≠ I → b ≠ L → h.get? b = some o → h'.get? b = some o) → J i m h') ∧
        (∀ i v m h tk, i < n → P i v → St (i + 1) h → J i m h → h.Ns L (fun y => if y = x then some v else m y) →
          wpAny (model PP w) A (execs body env) (fun f s₃ => match f with
            | .ret v => Q (.ret v) s₃
            | .brk => Q .next s₃
            | _ => ∃ h' tk' m', s₃ = { s₂ with heap := h', toks := tk' } ∧ h'.Ns L m' ∧ (∀ b o, b ∈ fp → h.get? b = some o → h'.get? b = some o) ∧ J (i + 1) m' h') NoE { s₂ with heap := h, toks := tk }) ∧
        (∀ m h tk, J n m h → h.Ns L m → Q .next { s₂ with heap := h, toks := tk })) NoE s₁) NoE s) :
    wpAny (model PP w) A (exec (.For (.Name x px) iter body [] pos) env) Q NoE s := by
  subst hL
  refine wpAny_For (wpAny_mono h (fun xv s₁ h₁ => wpAny_mono h₁ (fun it s₂ h₂ => ?_) fun _ _ e => e) fun _ _ e => e) hs
  obtain ⟨I, fp, n, P, St, rfl, W, hst, hLf, J, m₀, hn₀, hj₀, hJ, turn, done⟩ := h₂
  have hIf : I ∈ fp := W.sub I (List.mem_singleton.mpr rfl)
  have hLI : env.locals ≠ I := fun q => hLf (q ▸ hIf)
  refine codeAny_forLoop
    (fun k s' => ∃ h' tk m' i, s' = { s₂ with heap := h', toks := tk } ∧ St i h' ∧ h'.Ns env.locals m' ∧ J i m' h' ∧ i ≤ n ∧ k = n + 1 - i) ?_ (n + 1)
    ⟨s₂.heap, s₂.toks, m₀, 0, rfl, hst, hn₀, hj₀, Nat.zero_le _, rfl⟩
  rintro k s' ⟨h', tk, m', i, rfl, hst', hn', hj, hi, rfl⟩
  by_cases hlt : i < n
  · refine W.item i _ _ _ hlt hst' fun v h₁ tk₁ hP hst₁ hk₁ => ?_
    have k1 : ∀ b o, b ≠ I → h'.get? b = some o → h₁.get? b = some o := fun b o hb e => hk₁ b o (by simpa using hb) e
    refine wpAny_assign_Name (wpAny_storeName_local hx (hn'.at' fun o e => k1 _ o hLI e) (fun h₂ hn₂ hs₂ => ?_) hp)
    have hst₂ : St (i + 1) h₂ := W.frame _ _ _ hst₁ fun b hb o e => hs₂.extBut b o (fun q => hLf (q ▸ hb)) e
    refine wpAny_mono (turn i v m' h₂ _ hlt hP hst₂ (hJ _ _ _ _ hj fun b o h1 h2 e => hs₂.extBut b o h2 (k1 b o h1 e)) hn₂) (fun f s₃ h₃ => ?_) fun _ _ e => e.elim
    cases f with
    | ret v => exact h₃
    | brk => exact h₃
    | cont =>
      obtain ⟨h₄, tk₄, m₄, rfl, hn₄, ho, hj₄⟩ := h₃
      exact ⟨n + 1 - (i + 1), by omega, h₄, tk₄, m₄, i + 1, rfl, W.frame _ _ _ hst₂ fun b hb o e => ho b o hb e, hn₄, hj₄, hlt, rfl⟩
    | next =>
      obtain ⟨h₄, tk₄, m₄, rfl, hn₄, ho, hj₄⟩ := h₃
      exact ⟨n + 1 - (i + 1), by omega, h₄, tk₄, m₄, i + 1, rfl, W.frame _ _ _ hst₂ fun b hb o e => ho b o hb e, hn₄, hj₄, hlt, rfl⟩
  · obtain rfl : i = n := Nat.le_antisymm hi (Nat.not_lt.mp hlt)
    refine W.done _ _ _ hst' fun h₁ tk₁ hk₁ => wpAny_execs_nil ?_
    have k1 : ∀ b o, b ≠ I → h'.get? b = some o → h₁.get? b = some o := fun b o hb e => hk₁ b o (by simpa using hb) e
    exact done _ _ _ (hJ _ _ _ _ hj fun b o h1 _ e => k1 b o h1 e) (hn'.at' fun o e => k1 _ o hLI e)
end

section
variable {w : World} {A : Around} {E : Value → Shared → Prop} {s : Shared} {env : Env} {K : Frag}

theorem ev_globE {h₀ : Heap} {x : Str} {pos : Pos} {v : Value} {Q : Value → Shared → Prop}
    (W : W0 K w h₀) (F : ∀ b o, h₀.get? b = some o → s.heap.get? b = some o) (hm : (x, v) ∈ globs) (h : Q v s) (hg : env.globals = mainGlobals)
    (hk : env.scope.kind = .function) (hx : env.kindOf x = some .globalImplicit) (hd : (x == ("__debug__" : Str)) = false) :
    wpAny (model PP w) A (eval (.Name x pos) env) Q E s := by
  obtain ⟨mg, mb, a, b, c, d⟩ := W.names
  exact Name_function_global hk hx (loadGlobal_global (env := env) (show s.heap.Ns env.globals mg from hg ▸ a.keeps F) (c _ hm) h) hd
theorem ev_builtE {h₀ : Heap} {x : Str} {pos : Pos} {v : Value} {Q : Value → Shared → Prop}
    (W : W0 K w h₀) (F : ∀ b o, h₀.get? b = some o → s.heap.get? b = some o) (hm : (x, v) ∈ built) (h : Q v s) (hg : env.globals = mainGlobals) (hb : env.builtins = builtinsNs)
    (hk : env.scope.kind = .function) (hx : env.kindOf x = some .globalImplicit) (hd : (x == ("__debug__" : Str)) = false) :
    wpAny (model PP w) A (eval (.Name x pos) env) Q E s := by
  obtain ⟨mg, mb, a, b, c, d⟩ := W.names
  exact Name_function_global hk hx (loadGlobal_builtin (env := env) (show s.heap.Ns env.globals mg from hg ▸ a.keeps F) (d _ hm).1 (show s.heap.Ns env.builtins mb from hb ▸ b.keeps F) (d _ hm).2 h) hd
theorem ev_loc {x : Str} {pos : Pos} {v : Value} {m : Str → Option Value} {Q : Value → Shared → Prop} (hn : s.heap.Ns env.locals m) (hm : m x = some v) (h : Q v s)
    (hk : env.scope.kind = .function) (hx : env.kindOf x = some .local) (hd : (x == ("__debug__" : Str)) = false) :
    wpAny (model PP w) A (eval (.Name x pos) env) Q E s := wpAny_Name (wpAny_loadName_local hk hx hn hm h) hd
theorem ev_cell {x : Str} {pos : Pos} {c : Addr} {v : Value} {Q : Value → Shared → Prop} (hc : env.cells.lookup x = some c) (hv : s.heap.IsCell c (some v)) (h : Q v s)
    (hk : env.scope.kind = .function) (hx : env.kindOf x = some .cell) (hd : (x == ("__debug__" : Str)) = false) :
    wpAny (model PP w) A (eval (.Name x pos) env) Q E s := wpAny_Name (wpAny_loadName_cell hk hx hc hv h) hd

theorem cell_at {h h' : Heap} {c : Addr} {v : Option Value} (x : h.IsCell c v) (k : ∀ o, h.get? c = some o → h'.get? c = some o) : h'.IsCell c v := by
  obtain ⟨o, ho, hd⟩ := x; exact ⟨o, k o ho, hd⟩

/-- a for whose name lives in a cell -/
theorem For_cell {x : Str} {px pos : Pos} {iter : Expr} {body : List Stmt} {Q : Flow → Shared → Prop} {c : Addr} (hc : env.cells.lookup x = some c) (hx : env.kindOf x = some .cell)
    (hk : env.scope.kind = .function) (hs : ∀ x, foldedSetIterable iter env x = pure x)
    (h : wpAny (model PP w) A (eval iter env) (fun xv s₁ => wpAny (model PP w) A (pyIter xv) (fun it s₂ => ∃ I fp n P St, it = .ref I ∧ Walks PP w A I fp [I] n P St ∧ St 0 s₂.heap ∧ c ∉ fp ∧
      ∃ (J : Nat → Heap → Prop), J 0 s₂.heap ∧ (∃ v, s₂.heap.IsCell c v) ∧
        (∀ i h h', J i h → (∀ b o, b ≠ I → b ≠ c → h.get? b = some o → h'.get? b = some o) → J i h') ∧
        (∀ i v h tk, i < n → P i v → St (i + 1) h → J i h → h.IsCell c (some v) →
          wpAny (model PP w) A (execs body env) (fun f s₃ => match f with
            | .ret v => Q (.ret v) s₃
            | .brk => Q .next s₃
            | _ => ∃ h' tk', s₃ = { s₂ with heap := h', toks := tk' } ∧ (∃ v, h'.IsCell c v) ∧ (∀ b o, b ∈ fp → h.get? b = some o → h'.get? b = some o) ∧ J (i + 1) h') NoE { s₂ with heap := h, toks := tk }) ∧
        (∀ h tk, J n h → (∃ v, h.IsCell c v) → Q .next { s₂ with heap := h, toks := tk })) NoE s₁) NoE s) :
    wpAny (model PP w) A (exec (.For (.Name x px) iter body [] pos) env) Q NoE s := by
  refine wpAny_For (wpAny_mono h (fun xv s₁ h₁ => wpAny_mono h₁ (fun it s₂ h₂ => ?_) fun _ _ e => e) fun _ _ e => e) hs
  obtain ⟨I, fp, n, P, St, rfl, W, hst, hcf, J, hj₀, hc₀, hJ, turn, done⟩ := h₂
  have hIf : I ∈ fp := W.sub I (List.mem_singleton.mpr rfl)
  have hcI : c ≠ I := fun q => hcf (q ▸ hIf)
  refine codeAny_forLoop
    (fun k s' => ∃ h' tk i, s' = { s₂ with heap := h', toks := tk } ∧ St i h' ∧ (∃ v, h'.IsCell c v) ∧ J i h' ∧ i ≤ n ∧ k = n + 1 - i) ?_ (n + 1)
    ⟨s₂.heap, s₂.toks, 0, rfl, hst, hc₀, hj₀, Nat.zero_le _, rfl⟩
  rintro k s' ⟨h', tk, i, rfl, hst', ⟨v₀, hn'⟩, hj, hi, rfl⟩
  by_cases hlt : i < n
  · refine W.item i _ _ _ hlt hst' fun v h₁ tk₁ hP hst₁ hk₁ => ?_
    have k1 : ∀ b o, b ≠ I → h'.get? b = some o → h₁.get? b = some o := fun b o hb e => hk₁ b o (by simpa using hb) e
    refine wpAny_assign_Name (wpAny_storeName_cell hk hx hc (cell_at hn' fun o e => k1 _ o hcI e) (fun h₂ hn₂ hs₂ => ?_))
    have hst₂ : St (i + 1) h₂ := W.frame _ _ _ hst₁ fun b hb o e => (hs₂.2 b (fun q => hcf (q ▸ hb))).trans e
    refine wpAny_mono (turn i v h₂ _ hlt hP hst₂ (hJ _ _ _ hj fun b o h1 h2 e => (hs₂.2 b h2).trans (k1 b o h1 e)) hn₂) (fun f s₃ h₃ => ?_) fun _ _ e => e.elim
    cases f with
    | ret v => exact h₃
    | brk => exact h₃
    | cont =>
      obtain ⟨h₄, tk₄, rfl, hn₄, ho, hj₄⟩ := h₃
      exact ⟨n + 1 - (i + 1), by omega, h₄, tk₄, i + 1, rfl, W.frame _ _ _ hst₂ fun b hb o e => ho b o hb e, hn₄, hj₄, hlt, rfl⟩
    | next =>
      obtain ⟨h₄, tk₄, rfl, hn₄, ho, hj₄⟩ := h₃
      exact ⟨n + 1 - (i + 1), by omega, h₄, tk₄, i + 1, rfl, W.frame _ _ _ hst₂ fun b hb o e => ho b o hb e, hn₄, hj₄, hlt, rfl⟩
  · obtain rfl : i = n := Nat.le_antisymm hi (Nat.not_lt.mp hlt)
    refine W.done _ _ _ hst' fun h₁ tk₁ hk₁ => wpAny_execs_nil ?_
    have k1 : ∀ b o, b ≠ I → h'.get? b = some o → h₁.get? b = some o := fun b o hb e => hk₁ b o (by simpa using hb) e
    exact done _ _ (hJ _ _ _ hj fun b o h1 _ e => k1 b o h1 e) ⟨_, cell_at hn' fun o e => k1 _ o hcI e⟩

/-- name = comprehension, the name local -/
theorem Assign_ListComp_raw {elt iter : Expr} {x y : Str} {px py : Pos} {ifs : List Expr} {scope : Scope} {cl : List (Str × Addr)} {pos spos : Pos} {Q : Flow → Shared → Prop} {L : Addr} {m : Str → Option Value} (hLe : env.locals = L)
    (hsw : swapsWith (.ListComp elt [⟨.Name x px, iter, ifs, 0⟩] scope pos) (some (.Name y py)) spos.line env = pure true)
    (hclos : closureFor scope env = pure cl) (hcell : ∀ y ∈ scope.names, y.2 ≠ .cell) (hkind : scope.kind = .function)
    (hnames : ∀ y ∈ scope.names, y.2 = .local → scope.names.lookup y.1 = some .local) (hx : scope.names.lookup x = some .local) (hs : ∀ x, foldedSetIterable iter env x = pure x)
    (hy : env.kindOf y = some .local) (hp : (env.scope.kind == .class || (env.scope.kind == .module && env.locals != env.globals)) = false)
    (h : wpAny (model PP w) A (eval iter env) (fun xv s₁ => wpAny (model PP w) A (pyIter xv) (fun it s₂ =>
      L < s₂.heap.objs.size ∧ CompOn w A env elt x ifs scope cl (fun s₂ _ h tk => h.Ns L m ∧ ∀ h', h'.Ns L (fun z => if z = y then some (.ref s₂.heap.objs.size) else m z) → (∀ b o, b ≠ L → b ≠ s₂.heap.objs.size + 1 → h.get? b = some o → h'.get? b = some o) → Q .next { s₂ with heap := h', toks := tk + 1 }) it s₂) NoE s₁) NoE s) :
    wpAny (model PP w) A (exec (.Assign [.Name y py] (.ListComp elt [⟨.Name x px, iter, ifs, 0⟩] scope pos) spos) env) Q NoE s := by
  subst hLe
  rw [exec_Assign_Name_used _ _ _ _ hsw]
  refine wpAny_bind (wpAny_standAt (wpAny_bind ?_))
  show wpAny _ A (do let _ ← comprehension (.ListComp elt [⟨.Name x px, iter, ifs, 0⟩] scope pos) scope env _ (newList []) false (eval iter env) (some (assign (.Name y py) env))) _ _ s
  refine wpAny_bind (wpAny_mono (wpAny_comprehension_free (use := some (assign (.Name y py) env)) (Q := fun _ s' => Q .next s') rfl hs hclos hkind hnames
    (wpAny_mono h (fun xv s₁ h₁ => wpAny_mono h₁ (fun it s₂ h₂ => ?_) fun _ _ e => e) fun _ _ e => e)) (fun _ s' hq => wpAny_pure (wpAny_pure hq)) fun _ _ e => e)
  obtain ⟨hLs, I, fp, n, P, St, rfl, W, hsz, hst, hfp, J, h0, hJ, turn, fin⟩ := h₂
  refine comp_block W hsz hcell hkind hx hst hfp J h0 hJ turn fun h tk ys mC hj hD hn => ?_
  show wpAny _ A (assign (.Name y py) env (.ref s₂.heap.objs.size)) _ _ _
  obtain ⟨hnL, hfin⟩ := fin h tk _ hj hD
  refine wpAny_assign_Name (wpAny_storeName_local hy hnL (fun h₂ hn₂ hs₂ => ?_) hp)
  have hLC : s₂.heap.objs.size + 1 ≠ env.locals := Nat.ne_of_gt (Nat.lt_succ_of_lt hLs)
  refine ⟨mC, hn.sameBut hs₂ hLC, fun h'' hs'' => hfin h'' (hn₂.at' fun o e => hs''.extBut _ o (Ne.symm hLC) e) fun b o h1 h2 e => hs''.extBut b o h2 (hs₂.extBut b o h1 e)⟩

/-- a call of a def with cells -/
theorem call_fnC {f : Addr} {q : Str} {d : DefD} {args : List Value} {binds : List (Str × Value)} {Q : Value → Shared → Prop}
    (hf : IsFn s.heap f q d) (hlim : s.heap.NoLimit) (hroom : A.depth < recursionLimit)
    (hbind : ∀ doc pm an cdv ct, bindArgs (fnOf d.name q d.params d.body d.scope .none .none doc pm an cdv ct) ⟨args, []⟩ = pure binds)
    (hloc : ∀ x ∈ binds, d.scope.names.lookup x.1 = some .local ∨ (d.scope.names.lookup x.1 = some .cell ∧ ((cellsFrom (s.heap.objs.size + 1) d.scope.names []).lookup x.1).isSome = true))
    (h : ∀ cdv h₁ tk, Fr s.heap s.heap.objs.size h₁ (bindL (envOfC q d.scope s.heap.objs.size f cdv).kindOf binds fun _ => none) →
      (∀ n c, (cellsFrom (s.heap.objs.size + 1) d.scope.names []).lookup n = some c → h₁.IsCell c (bindC (envOfC q d.scope s.heap.objs.size f cdv).kindOf binds (fun _ => none) n)) →
      wpAny (model PP w) (A.deeper (envOfC q d.scope s.heap.objs.size f cdv)) (execs d.body (envOfC q d.scope s.heap.objs.size f cdv))
        (fun fl s' => Q (match fl with | .ret v => v | _ => .none) s') (fun _ _ => False) { s with heap := h₁, toks := tk })
    (hco : d.scope.isCoroutine = false) (hgen : d.scope.isGenerator = false) (hk : d.scope.kind = .function) :
    wpAny (model PP w) A (call (.ref f) args) Q E s := by
  obtain ⟨oc, od, osl, doc, pm, an, cdv, ct, ho, hc⟩ := hf
  refine wpAny_call (codeAny_call_cells (fd := fnOf d.name q d.params d.body d.scope .none .none doc pm an cdv ct) hroom ho rfl hlim hc rfl (hbind _ _ _ _ _) rfl hloc (fun s₁ X => ?_) hco hgen hk)
  obtain ⟨h₁, tk, rfl⟩ := X.toInCall.same
  exact wpAny_mono (h cdv h₁ tk ⟨X.toInCall.ns, X.toInCall.keep, Nat.le_refl _⟩ fun n c e => X.cell n c e) (fun _ _ x => x) (fun _ _ x => x.elim)
end

section
variable {w : World} {A : Around} {s : Shared} {env : Env}

theorem comp_pair {elt iter : Expr} {xa xb : Str} {pa pb tp : Pos} {kk : Nat} {scope : Scope} {cl : List (Str × Addr)} {pos : Pos} {s₂ : Shared} {I l : Addr} {items : List Value}
    {RR : Value → Addr → Result → Shared → Prop}
    (hh : A.handled = none) (hlI : l ≠ I) (hsz : items.length ≤ 1000) (hcell : ∀ y ∈ scope.names, y.2 ≠ .cell) (hkind : scope.kind = .function) (hxa : scope.names.lookup xa = some .local) (hxb : scope.names.lookup xb = some .local) (hab : xa ≠ xb)
    (hst : s₂.heap.IsListIter I l 0 ∧ s₂.heap.IsList l items.toArray)
    (J : Nat → List Value → Heap → Prop) (h0 : J 0 [] s₂.heap)
    (hJ : ∀ i ys h h', J i ys h → (∀ b o, b ≠ I → b ≠ s₂.heap.objs.size → b ≠ s₂.heap.objs.size + 1 → h.get? b = some o → h'.get? b = some o) → J i ys h')
    (htup : ∀ i v ys h, items[i]? = some v → J i ys h → ∃ a x1 x2 nn, v = .ref a ∧ h.get? a = some { cls := .type "tuple", data := .seq [x1, x2].toArray nn })
    (turn : ∀ i a x1 x2 nn ys h tk m₂, items[i]? = some (.ref a) → h.get? a = some { cls := .type "tuple", data := .seq [x1, x2].toArray nn } → J i ys h → h.Ns (s₂.heap.objs.size + 1) m₂ → m₂ xa = some x1 → m₂ xb = some x2 →
      wpAny (model PP w) A (eval elt (compEnvC scope cl (s₂.heap.objs.size + 1) env)) (fun y s₄ => TurnEnd s₂ h (fun b => b = s₂.heap.objs.size + 1 ∨ b = s₂.heap.objs.size ∨ b ∈ [I, l]) (J (i + 1)) (ys ++ [y]) s₄) NoE { s₂ with heap := h, toks := tk })
    (hRR : ∀ h tk ys m, J items.length ys h → h.get? s₂.heap.objs.size = some (lst ys) → h.Ns (s₂.heap.objs.size + 1) m → RR (.ref s₂.heap.objs.size) (s₂.heap.objs.size + 1) (.ok .next) { s₂ with heap := h, toks := tk }) :
    wpAny (model PP w) A (newList []) (fun acc s₃ => wpAny (model PP w) A (newFunctionEnv scope env.globals cl [] env.qual none .none (some env)) (fun cenv s₄ =>
      codeAny (model PP w) A (.compStart (.ListComp elt [⟨.Tuple [.Name xa pa, .Name xb pb] kk tp, iter, [], 0⟩] scope pos) 0 (.ref I) acc { cenv with scope := relabel scope env }) (RR acc cenv.locals) s₄) NoE s₃) NoE s₂ := by
  have W := Walks.list (prog := PP) (w := w) hh I l hlI items.toArray
  have hnn : items.toArray.size = items.length := List.size_toArray ..
  refine wpAny_newObj_type (wpAny_newFunctionEnv hcell (by intro y hy; simp at hy) (fun h₁ hns₁ hsb₁ => ?_) hkind)
  dsimp only at hns₁ hsb₁ ⊢
  generalize hH2 : s₂.heap.push { cls := .type "list", dict := none, data := .seq ([] : List Value).toArray } = H2 at hns₁ hsb₁ ⊢
  have hC : H2.objs.size = s₂.heap.objs.size + 1 := by rw [← hH2, Heap.size_push]
  rw [hC] at hns₁ hsb₁
  rw [hC]
  have hIlt : I < s₂.heap.objs.size := let ⟨⟨_, e, _⟩, _⟩ := hst; Heap.lt_size e
  have hllt : l < s₂.heap.objs.size := let ⟨_, ⟨_, e, _⟩⟩ := hst; Heap.lt_size e
  have old : ∀ b o, s₂.heap.get? b = some o → h₁.get? b = some o := fun b o e => hsb₁.extBut b o (Nat.ne_of_lt (Nat.lt_succ_of_lt (Heap.lt_size e))) (Heap.get?_push_of_some _ (hH2 ▸ Heap.get?_push_of_some _ e))
  have hacc : h₁.get? s₂.heap.objs.size = some (lst []) := hsb₁.extBut _ _ (Nat.ne_of_lt (Nat.lt_succ_self _)) (Heap.get?_push_of_some _ (hH2 ▸ Heap.get?_push_size _ rfl))
  have hst₁ : h₁.IsListIter I l 0 ∧ h₁.IsList l items.toArray := ⟨hst.1.at fun o e => old _ o e, hst.2.at fun o e => old _ o e⟩
  generalize hn₀ : s₂.heap.objs.size = n₀ at *
  have hIC : I < n₀ + 1 := Nat.lt_succ_of_lt hIlt
  have loop : ∀ s₃ : Shared, s₃ = { s₂ with heap := h₁, toks := s₂.toks + ([] : List (Str × Value)).length } →
      codeAny (model PP w) A (.compLoop (.ListComp elt [⟨.Tuple [.Name xa pa, .Name xb pb] kk tp, iter, [], 0⟩] scope pos) 0 (.ref I) (.ref n₀) (compEnvC scope cl (n₀ + 1) env))
        (RR (.ref n₀) (n₀ + 1)) s₃ := by
    rintro s₃ rfl
    refine LCp.codeAny_compLoop_pair
      (fun k s' => ∃ h' tk i ys m', s' = { s₂ with heap := h', toks := tk } ∧ i ≤ items.length ∧ k = items.length + 1 - i ∧ ys.length ≤ i ∧ (h'.IsListIter I l i ∧ h'.IsList l items.toArray) ∧ h'.Ns (n₀ + 1) m' ∧ h'.get? n₀ = some (lst ys) ∧ J i ys h') ?_ (items.length + 1)
      ⟨h₁, _, 0, [], _, rfl, Nat.zero_le _, rfl, Nat.le_refl _, hst₁, hns₁, hacc, hJ _ _ _ _ h0 fun b o _ _ _ e => old b o e⟩
    rintro k s' ⟨h', tk, i, ys, m', rfl, hi, rfl, hyl, hst', hn', hD', hj⟩
    by_cases hlt : i < items.length
    · refine W.item i _ _ _ (by omega) hst' fun v h₂ tk₂ hPv hst₂ hk₂ => ?_
      have k2 : ∀ b o, b ≠ I → h'.get? b = some o → h₂.get? b = some o := fun b o hb e => hk₂ b o (by simpa using hb) e
      have hvi : items[i]? = some v := by simpa using hPv
      obtain ⟨a, x1, x2, nn, rfl, hao⟩ := htup i v ys h' hvi hj
      have haI : a ≠ I := fun q => by
        obtain ⟨oI, hoI, hcI, _⟩ := hst'.1
        rw [q, hoI] at hao; cases hao
        exact absurd hcI (show ¬ (Value.type "tuple" = Value.type "list_iterator") by decide)
      have hao2 := k2 _ _ haI hao
      refine wpAny_letOwnedTupleGo_listiter hst₂.1 ?_
      refine assign_Tuple_tuple hh (items := [x1, x2].toArray) ⟨_, hao2, rfl, _, rfl⟩ rfl rfl fun h₃ kB => ?_
      dsimp only at kB
      have k3 : ∀ b o, h₂.get? b = some o → h₃.get? b = some o := fun b o e => kB b o (Nat.ne_of_lt (Heap.lt_size e)) e
      show wpAny _ A (assignInOrder [assign _ (compEnvC scope cl (n₀ + 1) env), assign _ (compEnvC scope cl (n₀ + 1) env)] [x1, x2]) _ _ _
      refine assignInOrder_cons (wpAny_assign_Name (wpAny_storeName_local (lookup_relabel_local hxa) ((hn'.at' fun o e => k2 _ o (Nat.ne_of_gt hIC) e).keeps k3) (fun h₄ hn₄ hs₄ => ?_) (by simp [compEnvC, relabel, hkind])))
      refine assignInOrder_cons (wpAny_assign_Name (wpAny_storeName_local (lookup_relabel_local hxb) hn₄ (fun h₅ hn₅ hs₅ => ?_) (by simp [compEnvC, relabel, hkind])))
      refine assignInOrder_nil ?_
      have k5 : ∀ b o, b ≠ I → b ≠ n₀ + 1 → h'.get? b = some o → h₅.get? b = some o := fun b o hb hb' e => hs₅.extBut b o hb' (hs₄.extBut b o hb' (k3 _ _ (k2 b o hb e)))
      have k25 : ∀ b o, b ≠ n₀ + 1 → h₂.get? b = some o → h₅.get? b = some o := fun b o hb' e => hs₅.extBut b o hb' (hs₄.extBut b o hb' (k3 _ _ e))
      have hst₅ : h₅.IsListIter I l (i + 1) ∧ h₅.IsList l items.toArray := ⟨hst₂.1.at fun o e => k25 _ o (Nat.ne_of_lt hIC) e, hst₂.2.at fun o e => k25 _ o (Nat.ne_of_lt (Nat.lt_succ_of_lt hllt)) e⟩
      have hD₅ : h₅.get? n₀ = some (lst ys) := k5 _ _ (Nat.ne_of_gt hIlt) (Nat.ne_of_lt (Nat.lt_succ_self _)) hD'
      have hj₅ : J i ys h₅ := hJ _ _ _ _ hj fun b o h1 _ h3 e => k5 b o h1 h3 e
      have haC : a ≠ n₀ + 1 := fun q => by
        obtain ⟨oC, esC, epC, heC, hdC, _⟩ := hn'
        rw [q, heC] at hao; cases hao; cases hdC
      have hao5 := k25 _ _ haC hao2
      refine wpAny_mono (turn i a x1 x2 nn ys h₅ _ _ hvi hao5 hj₅ hn₅ (by simp [hab]) (by simp)) (fun y s₄ h₄' => ?_) fun _ _ e => e.elim
      obtain ⟨h₆, tk₆, rfl, ho, hj₆⟩ := h₄'
      obtain ⟨oC, esC, epC, heC, rC⟩ := hn₅
      refine append_at (hsz := by show ys.toArray.size ≤ sizeLine; rw [List.size_toArray, sizeLine_eq]; omega) (ho _ _ (.inr (.inl rfl)) hD₅) fun h₇ hs₇ hD₇ => ?_
      refine ⟨items.length + 1 - (i + 1), by omega, h₇, tk₆, i + 1, ys ++ [y], _, rfl, hlt, rfl, by rw [List.length_append, List.length_singleton]; omega,
        ⟨hst₅.1.at fun o e => hs₇.extBut _ o (Nat.ne_of_lt hIlt) (ho _ o (.inr (.inr (.head _))) e), hst₅.2.at fun o e => hs₇.extBut _ o (Nat.ne_of_lt hllt) (ho _ o (.inr (.inr (.tail _ (.head _)))) e)⟩,
        ⟨oC, esC, epC, hs₇.extBut _ _ (Nat.ne_of_gt (Nat.lt_succ_self _)) (ho _ _ (.inl rfl) heC), rC⟩, hD₇.trans (congrArg some (lst_snoc ys y)), hJ _ _ _ _ hj₆ fun b o _ h2 _ e => hs₇.extBut b o h2 e⟩
    · obtain rfl : i = items.length := Nat.le_antisymm hi (Nat.not_lt.mp hlt)
      refine W.done _ _ _ (by rw [hnn]; exact hst') fun h₂ tk₂ hk₂ => ?_
      have k2 : ∀ b o, b ≠ I → h'.get? b = some o → h₂.get? b = some o := fun b o hb e => hk₂ b o (by simpa using hb) e
      exact hRR h₂ tk₂ ys _ (hJ _ _ _ _ hj fun b o h1 _ _ e => k2 b o h1 e) (k2 _ _ (Nat.ne_of_gt hIlt) hD') (hn'.at' fun o e => k2 _ o (Nat.ne_of_gt hIC) e)
  exact codeAny_compStart_list (loop _ rfl) (wpAny_mono (W.self 0 _ (fun it' s' => it' = .ref I ∧ s' = _) NoE hst₁ ⟨rfl, rfl⟩) (fun it' s' hq => by obtain ⟨rfl, rfl⟩ := hq; exact loop _ rfl) fun _ _ e => e.elim)

def PairOn (w : World) (A : Around) (env : Env) (elt : Expr) (xa xb : Str) (scope : Scope) (cl : List (Str × Addr)) (Fin : Shared → List Value → Heap → Nat → Prop) (it : Value) (s₂ : Shared) : Prop :=
  ∃ I l items, it = .ref I ∧ l ≠ I ∧ items.length ≤ 1000 ∧ (s₂.heap.IsListIter I l 0 ∧ s₂.heap.IsList l (List.toArray items)) ∧
    ∃ J : Nat → List Value → Heap → Prop, J 0 [] s₂.heap ∧
      (∀ i ys h h', J i ys h → (∀ b o, b ≠ I → b ≠ s₂.heap.objs.size → b ≠ s₂.heap.objs.size + 1 → h.get? b = some o → h'.get? b = some o) → J i ys h') ∧
      (∀ i v ys h, items[i]? = some v → J i ys h → ∃ a x1 x2 nn, v = .ref a ∧ h.get? a = some { cls := .type "tuple", data := .seq [x1, x2].toArray nn }) ∧
      (∀ i a x1 x2 nn ys h tk m₂, items[i]? = some (.ref a) → h.get? a = some { cls := .type "tuple", data := .seq [x1, x2].toArray nn } → J i ys h → h.Ns (s₂.heap.objs.size + 1) m₂ → m₂ xa = some x1 → m₂ xb = some x2 →
        wpAny (model PP w) A (eval elt (compEnvC scope cl (s₂.heap.objs.size + 1) env)) (fun y s₄ => TurnEnd s₂ h (fun b => b = s₂.heap.objs.size + 1 ∨ b = s₂.heap.objs.size ∨ b ∈ [I, l]) (J (i + 1)) (ys ++ [y]) s₄) NoE { s₂ with heap := h, toks := tk }) ∧
      (∀ h tk ys, J items.length ys h → h.get? s₂.heap.objs.size = some (lst ys) → Fin s₂ ys h tk)

theorem PairComp_raw {elt iter : Expr} {xa xb : Str} {pa pb tp : Pos} {kk : Nat} {scope : Scope} {cl : List (Str × Addr)} {pos : Pos} {Q : Value → Shared → Prop}
    (hh : A.handled = none) (hclos : closureFor scope env = pure cl) (hcell : ∀ y ∈ scope.names, y.2 ≠ .cell) (hkind : scope.kind = .function)
    (hnames : ∀ y ∈ scope.names, y.2 = .local → scope.names.lookup y.1 = some .local) (hxa : scope.names.lookup xa = some .local) (hxb : scope.names.lookup xb = some .local) (hab : xa ≠ xb) (hs : ∀ x, foldedSetIterable iter env x = pure x)
    (h : wpAny (model PP w) A (eval iter env) (fun xv s₁ => wpAny (model PP w) A (pyIter xv) (fun it s₂ =>
      PairOn w A env elt xa xb scope cl (fun s₂ _ h tk => ∀ h', (∀ b o, b ≠ s₂.heap.objs.size + 1 → h.get? b = some o → h'.get? b = some o) → Q (.ref s₂.heap.objs.size) { s₂ with heap := h', toks := tk }) it s₂) NoE s₁) NoE s) :
    wpAny (model PP w) A (eval (.ListComp elt [⟨.Tuple [.Name xa pa, .Name xb pb] kk tp, iter, [], 0⟩] scope pos) env) Q NoE s := by
  rw [eval_ListComp]
  refine wpAny_comprehension_free (use := none) rfl hs hclos hkind hnames (wpAny_mono h (fun xv s₁ h₁ => wpAny_mono h₁ (fun it s₂ h₂ => ?_) fun _ _ e => e) fun _ _ e => e)
  obtain ⟨I, l, items, rfl, hlI, hsz, hst, J, h0, hJ, htup, turn, fin⟩ := h₂
  refine comp_pair hh hlI hsz hcell hkind hxa hxb hab hst J h0 hJ htup turn fun h tk _ m hj hD hn => ?_
  exact ⟨m, hn, fun h' hs' => fin h tk _ hj hD h' fun b o hb e => hs'.extBut b o hb e⟩

theorem Assign_PairComp_raw {elt iter : Expr} {xa xb y : Str} {pa pb tp py : Pos} {kk : Nat} {scope : Scope} {cl : List (Str × Addr)} {pos spos : Pos} {Q : Flow → Shared → Prop} {L : Addr} {m : Str → Option Value} (hh : A.handled = none) (hLe : env.locals = L)
    (hsw : swapsWith (.ListComp elt [⟨.Tuple [.Name xa pa, .Name xb pb] kk tp, iter, [], 0⟩] scope pos) (some (.Name y py)) spos.line env = pure true)
    (hclos : closureFor scope env = pure cl) (hcell : ∀ y ∈ scope.names, y.2 ≠ .cell) (hkind : scope.kind = .function)
    (hnames : ∀ y ∈ scope.names, y.2 = .local → scope.names.lookup y.1 = some .local) (hxa : scope.names.lookup xa = some .local) (hxb : scope.names.lookup xb = some .local) (hab : xa ≠ xb) (hs : ∀ x, foldedSetIterable iter env x = pure x)
    (hy : env.kindOf y = some .local) (hp : (env.scope.kind == .class || (env.scope.kind == .module && env.locals != env.globals)) = false)
    (h : wpAny (model PP w) A (eval iter env) (fun xv s₁ => wpAny (model PP w) A (pyIter xv) (fun it s₂ =>
      L < s₂.heap.objs.size ∧ PairOn w A env elt xa xb scope cl (fun s₂ _ h tk => h.Ns L m ∧ ∀ h', h'.Ns L (fun z => if z = y then some (.ref s₂.heap.objs.size) else m z) → (∀ b o, b ≠ L → b ≠ s₂.heap.objs.size + 1 → h.get? b = some o → h'.get? b = some o) → Q .next { s₂ with heap := h', toks := tk + 1 }) it s₂) NoE s₁) NoE s) :
    wpAny (model PP w) A (exec (.Assign [.Name y py] (.ListComp elt [⟨.Tuple [.Name xa pa, .Name xb pb] kk tp, iter, [], 0⟩] scope pos) spos) env) Q NoE s := by
  subst hLe
  rw [exec_Assign_Name_used _ _ _ _ hsw]
  refine wpAny_bind (wpAny_standAt (wpAny_bind ?_))
  show wpAny _ A (do let _ ← comprehension (.ListComp elt [⟨.Tuple [.Name xa pa, .Name xb pb] kk tp, iter, [], 0⟩] scope pos) scope env _ (newList []) false (eval iter env) (some (assign (.Name y py) env))) _ _ s
  refine wpAny_bind (wpAny_mono (wpAny_comprehension_free (use := some (assign (.Name y py) env)) (Q := fun _ s' => Q .next s') rfl hs hclos hkind hnames
    (wpAny_mono h (fun xv s₁ h₁ => wpAny_mono h₁ (fun it s₂ h₂ => ?_) fun _ _ e => e) fun _ _ e => e)) (fun _ s' hq => wpAny_pure (wpAny_pure hq)) fun _ _ e => e)
  obtain ⟨hLs, I, l, items, rfl, hlI, hsz, hst, J, h0, hJ, htup, turn, fin⟩ := h₂
  refine comp_pair hh hlI hsz hcell hkind hxa hxb hab hst J h0 hJ htup turn fun h tk ys mC hj hD hn => ?_
  show wpAny _ A (assign (.Name y py) env (.ref s₂.heap.objs.size)) _ _ _
  obtain ⟨hnL, hfin⟩ := fin h tk _ hj hD
  refine wpAny_assign_Name (wpAny_storeName_local hy hnL (fun h₂ hn₂ hs₂ => ?_) hp)
  have hLC : s₂.heap.objs.size + 1 ≠ env.locals := Nat.ne_of_gt (Nat.lt_succ_of_lt hLs)
  refine ⟨mC, hn.sameBut hs₂ hLC, fun h'' hs'' => hfin h'' (hn₂.at' fun o e => hs''.extBut _ o (Ne.symm hLC) e) fun b o h1 h2 e => hs''.extBut b o h2 (hs₂.extBut b o h1 e)⟩
end

end Mine
end

section
open PySem PySem.W PyProof.Rows PySem.Calls
namespace Mine
def bitsGo : Nat → Nat → Nat → List Int
  | 0, _, _ => []
  | f + 1, at_, left => if left = 0 then [] else (if left % 2 = 1 then [(at_ : Int)] else []) ++ bitsGo f (at_ + 1) (left / 2)

def IntV (v : Option Value) (n : Int) : Prop := ∃ t, v = some (.int n t)
theorem bits_step {a l : Nat} (ha : a ≤ 9) (hl : l ≠ 0) : bitsGo (10 - a) a l = (if l % 2 = 1 then [(a : Int)] else []) ++ bitsGo (10 - (a + 1)) (a + 1) (l / 2) := by
  obtain ⟨f, hf⟩ : ∃ f, 10 - a = f + 1 := ⟨9 - a, by omega⟩
  rw [hf, bitsGo, if_neg hl, show 10 - (a + 1) = f by omega]
theorem bitsGo_zero (f a : Nat) : bitsGo f a 0 = [] := by cases f <;> simp [bitsGo]
theorem bits_room {a l n : Nat} (hl : 0 < l) (h : l * 2 ^ a ≤ n) (hn : n < 512) : a ≤ 8 := by
  have h1 : 2 ^ a ≤ n := Nat.le_trans (Nat.le_mul_of_pos_left _ hl) h
  rcases Nat.lt_or_ge a 9 with h2 | h2
  · omega
  · have : 2 ^ 9 ≤ 2 ^ a := Nat.pow_le_pow_right (by omega) h2
    omega
theorem bits_half {a l n : Nat} (h : l * 2 ^ a ≤ n) : (l / 2) * 2 ^ (a + 1) ≤ n := by
  have : l / 2 * 2 ≤ l := Nat.div_mul_le_self l 2
  calc (l / 2) * 2 ^ (a + 1) = (l / 2 * 2) * 2 ^ a := by rw [Nat.pow_succ, Nat.mul_assoc, Nat.mul_comm (2 ^ a) 2]
    _ ≤ l * 2 ^ a := Nat.mul_le_mul_right _ this
    _ ≤ n := h
theorem fdiv_two (l : Nat) : Int.fdiv (l : Int) (2 ^ Int.toNat 1) = ((l / 2 : Nat) : Int) := by
  show Int.fdiv (l : Int) 2 = _
  rw [Int.fdiv_eq_ediv_of_nonneg _ (by decide)]; omega
theorem bit_one (l : Nat) : Builtin.bitAnd (l : Int) 1 = 1 ↔ l % 2 = 1 := by
  rw [bitAnd_m1]; omega

local macro_rules | `(tactic| walk_at "mlook") => `(tactic| first | assumption | exact if_pos rfl | (refine Eq.trans (if_neg (by decide)) ?_; walk_at "mlook"))
local macro_rules | `(tactic| walk_at "eval Name") => `(tactic| refine ld (by assumption) (by walk_at "mlook") ?_ rfl rfl (by decide))

section
variable {w : World} {A : Around} {E : Value → Shared → Prop} {s : Shared} {K : Frag}

set_option maxHeartbeats 2000000 in
theorem bits_spec (W : W0 K w s.heap) (R : Rm A 2) {n : Nat} (hn : n < 512) {t : Tok} {Q : Value → Shared → Prop}
    (hQ : ∀ D c h' tk (vs : List Value), (∀ b o, s.heap.get? b = some o → h'.get? b = some o) → s.heap.get? D = none → h'.get? D = some (listOf vs.toArray c) → IntsAre vs (bitsGo 10 0 n) → Q (.ref D) { s with heap := h', toks := tk }) :
    wpAny (model PP w) A (call (.ref 28) [.int n t]) Q E s := by
  refine call_fn (binds := [("mask", .int n t)]) W.bits W.lim (by have := R.depth; omega) (fun _ _ _ _ _ => rfl) (by intro x hx; rw [List.mem_singleton.mp hx]; rfl) (fun cdv h₁ F => ?_) (by decide +kernel) (by rfl) (by rfl) (by rfl)
  have N : News s.heap s.heap.objs.size h₁ [] := News.nil
  iterate 14 walk1
  rename_i hp F1 N1
  refine wpAny_execs_cons (While_inv (L := s.heap.objs.size) (fun k m news => ∃ (l : Nat) (a : Nat) (vs : List Value) (ns : List Int) (c : Nat), news = [(h₁.objs.size, listOf vs.toArray c)] ∧ m "found" = some (.ref h₁.objs.size) ∧ IntV (m "at") a ∧ IntV (m "left") l ∧ IntsAre vs ns ∧ k = l ∧ ns ++ bitsGo (10 - a) a l = bitsGo 10 0 n ∧ l * 2 ^ a ≤ n ∧ a ≤ 9 ∧ ns.length ≤ a) (n₀ := n) F1 N1 ?_ ?_ PassesOwn.never)
  · exact ⟨n, 0, [], [], _, rfl, by walk_at "mlook", ⟨_, by walk_at "mlook"⟩, ⟨_, by walk_at "mlook"⟩, .nil, rfl, rfl, by omega, by omega, Nat.le_refl _⟩
  · rintro k m₁ news₁ h₂ tk₁ F2 N2 ⟨l, a, vs, ns, c, rfl, hf, ⟨ta, ha⟩, ⟨tl, hl⟩, hI, rfl, hb, hle, ha9, hlen⟩
    have hvl := hI.length
    iterate 6 walk1
    · rename_i hpos
      have hpos' : 0 < k := by omega
      have hroom := bits_room hpos' hle hn
      rw [bits_step ha9 (by omega), ← List.append_assoc] at hb
      iterate 11 walk1
      · rename_i hbit
        have hbit' := (bit_one k).mp hbit
        rw [if_pos hbit'] at hb
        repeat walk1
        rename_i hF hN
        refine WhileStep.intro hF hN (n' := k / 2) (by omega) ⟨k / 2, a + 1, vs ++ [.int a ta], _, c + 1, ?_, by walk_at "mlook", ⟨_, by walk_at "mlook"⟩, ⟨_, by rw [← fdiv_two]; walk_at "mlook"⟩, hI.append (.cons _ _ .nil), rfl, hb, bits_half hle, by omega, ?_⟩
        · simp
        · rw [List.length_append]; exact Nat.succ_le_succ hlen
      · rename_i hbit
        have hbit' : ¬ k % 2 = 1 := fun e => hbit ((bit_one k).mpr e)
        rw [if_neg hbit', List.append_nil] at hb
        repeat walk1
        rename_i hF hN
        refine WhileStep.intro hF hN (n' := k / 2) (by omega) ⟨k / 2, a + 1, vs, _, _, rfl, by walk_at "mlook", ⟨_, by walk_at "mlook"⟩, ⟨_, by rw [← fdiv_two]; walk_at "mlook"⟩, hI, rfl, hb, bits_half hle, by omega, by omega⟩
    · rename_i hpos
      have hz : k = 0 := by omega
      repeat walk1
      rw [hz, bitsGo_zero, List.append_nil] at hb
      subst hb
      exact hQ _ c h₂ _ vs F2.keep (N2 _ (.head _)).2.2 (N2 _ (.head _)).1 hI
end

end Mine
end

section
open PySem PySem.W PyProof.Rows PySem.Calls
namespace Mine
local macro_rules | `(tactic| walk_at "mlook") => `(tactic| first | assumption | exact if_pos rfl | (refine Eq.trans (if_neg (by decide)) ?_; walk_at "mlook"))
local macro_rules | `(tactic| walk_at "memb") => `(tactic| first | exact List.Mem.head _ | (refine List.Mem.tail _ ?_; walk_at "memb"))
local macro_rules | `(tactic| walk_at "eval Name") => `(tactic| with_unfolding_all (first | refine ev_built (by assumption) (by assumption) (by walk_at "memb") ?_ rfl rfl (by decide) | refine ev_glob (by assumption) (by assumption) (by walk_at "memb") ?_ rfl rfl (by decide) | refine ev_builtC (by assumption) (by assumption) (by walk_at "memb") ?_ rfl rfl rfl rfl (by decide) | refine ev_globC (by assumption) (by assumption) (by walk_at "memb") ?_ rfl rfl rfl (by decide)))

def PoolQ (h : Heap) (p c : Addr) (b : Nat) : Prop :=
  ∃ (g st : Int) (pl : Nat) (tg ts tp : Tok) (n : Nat) (vs : List Value) (ns : List Int),
    h.get? p = some (listOf #[.ref c, .int g tg, .int st ts, .int pl tp] n) ∧ h.IsList c vs.toArray ∧ IntsAre vs ns ∧ ns.length ≤ 1000 ∧ pl ≤ b ∧ c ≠ p

def Pool (h : Heap) (p : Addr) (b : Nat) : Prop := ∃ c, PoolQ h p c b

section
variable {w : World} {A : Around} {E : Value → Shared → Prop} {s : Shared} {K : Frag}

set_option maxHeartbeats 4000000 in
theorem draw_spec {Hb : Heap} (W : W0 K w Hb) (kb : ∀ b o, Hb.get? b = some o → s.heap.get? b = some o) (R : Rm A 2) {p c : Addr} {b : Nat} (hp : PoolQ s.heap p c b) (hpb : Hb.get? p = none) (hb : b ≤ 10000)
    {most : Int} {tm : Tok} (hm : 0 < most) (hm2 : most < 1000) {Q : Value → Shared → Prop}
    (hQ : ∀ x t h' tk, 0 ≤ x → x < most → PoolQ h' p c (b + 1) → (∀ a o, a ≠ p → s.heap.get? a = some o → h'.get? a = some o) → Q (.int x t) { s with heap := h', toks := tk }) :
    wpAny (model PP w) A (call (.ref 129) [.ref p, .int most tm]) Q E s := by
  have Ws := W.keeps kb
  refine call_fn (binds := [("pool", .ref p), ("most", .int most tm)]) Ws.draw Ws.lim (by have := R.depth; omega) (fun _ _ _ _ _ => rfl) (by intro x hx; rcases List.mem_cons.mp hx with rfl | hx; exact rfl; rw [List.mem_singleton.mp hx]; rfl) (fun cdv h₁ F => ?_) (by decide +kernel) (by rfl) (by rfl) (by rfl)
  obtain ⟨g, st, pl, tg, ts, tp, n, vs, ns, hpo, hcl, hI, hlen, hpl, hcp⟩ := hp
  have W' : W0 K w (s.heap.hide p) := W.keeps fun b o e => (Heap.hide_ne _ fun q => by rw [q, hpb] at e; cases e).trans (kb b o e)
  have F' : Fr (s.heap.hide p) s.heap.objs.size h₁ (fun x => [(Str.ofString "pool", Value.ref p), (Str.ofString "most", Value.int most tm)].reverse.lookup x) := ⟨F.ns, fun b o e => F.keep b o (Heap.of_hide e), Nat.le_of_eq (Heap.hide_size _ _)⟩
  have N' : News (s.heap.hide p) s.heap.objs.size h₁ [(p, listOf #[.ref c, .int g tg, .int st ts, .int pl tp] n)] := fun q hq => by
    rw [List.mem_singleton.mp hq]
    exact ⟨F.keep _ _ hpo, Nat.ne_of_lt (Heap.lt_size hpo), Heap.hide_self _ _⟩
  have hcl' : (s.heap.hide p).IsList c vs.toArray := by obtain ⟨o, ho, r⟩ := hcl; exact ⟨o, (Heap.hide_ne _ hcp).trans ho, r⟩
  clear F Ws
  have KX := W'.X
  have hvl := hI.length
  have hpl2 : (pl : Int) ≤ 10000 := by omega
  have hpl3 : (0 : Int) ≤ pl := by omega
  repeat' walk1
  all_goals (
    (rename Fr _ _ _ _ => hF); (rename News _ _ _ _ => hN)
    have e := (hN _ (.head _)).1
    have hcl2 := hcl'.at (hF.keep c)
    refine hQ _ _ _ _ ?_ ?_ ⟨_, _, pl + 1, _, _, _, _, vs, ns, e, hcl2, hI, hlen, by omega, hcp⟩ (fun a o ha e => hF.keep a o ((Heap.hide_ne _ ha).trans e)))
  all_goals first
    | exact Int.fmod_nonneg_of_pos _ hm
    | exact Int.fmod_lt_of_pos _ hm
end

section
variable {w : World} {A : Around} {E : Value → Shared → Prop} {s : Shared} {K : Frag}

set_option maxHeartbeats 8000000 in
theorem box_spec (W : W0 K w s.heap) (R : Rm A 2) {l : Addr} {vs : List Value} {ns : List Int} (hl : s.heap.IsList l vs.toArray) (hI : IntsAre vs ns) (hlen : ns.length ≤ 63) {Q : Value → Shared → Prop}
    (hQ : ∀ p h' tk, (∀ b o, s.heap.get? b = some o → h'.get? b = some o) → s.heap.get? p = none → Pool h' p 0 → Q (.ref p) { s with heap := h', toks := tk }) :
    wpAny (model PP w) A (call (.ref 122) [.ref l]) Q E s := by
  obtain ⟨hd0, dp, frs, gds, un⟩ := A
  obtain rfl : hd0 = none := R.hh
  refine call_fn (binds := [("script", .ref l)]) W.box W.lim (by have := R.depth; omega) (fun _ _ _ _ _ => rfl) (by intro x hx; rw [List.mem_singleton.mp hx]; rfl) (fun cdv h₁ F => ?_) (by decide +kernel) (by rfl) (by rfl) (by rfl)
  have N : News s.heap s.heap.objs.size h₁ [] := News.nil
  have KX := W.X
  have hvl := hI.length
  repeat' (first | (k_unfold; (try dsimp only)) | walk1)
  all_goals (
    (rename Fr _ _ _ _ => hF); (rename News _ _ _ _ => hN); (rename _ ∧ _ => hlt); (rename IntsAre _ (List.map _ _) => hIy)
    refine hQ _ _ _ hF.keep (hN _ (.head _)).2.2 ⟨_, _, _, 0, _, _, _, _, _, _, (hN _ (.head _)).1, ⟨_, (hN _ (.tail _ (.head _))).1, rfl, _, rfl⟩, hIy, ?_, Nat.le_refl _, ?_⟩
    · rw [List.length_map, List.length_take]; omega
    · exact Nat.ne_of_lt hlt.1)
end

end Mine
end

section
open PySem PySem.W PyProof.Rows PySem.Calls
namespace Mine
/-- a dict of int keys, in order -/
def ID (w : World) (h : Heap) (d : Addr) (kvs : List (Int × Value)) : Prop := h.DictOf (intKind PP w) d kvs ∧ (d == sysModules) = false

section
variable {w : World} {A : Around} {E : Value → Shared → Prop} {s : Shared} {d : Addr} {kvs : List (Int × Value)} {k : Int} {t : Tok} {v : Value}

theorem ID.at {h h' : Heap} (x : ID w h d kvs) (e : ∀ o, h.get? d = some o → h'.get? d = some o) : ID w h' d kvs := ⟨x.1.at e, x.2⟩
theorem ID.keep {h h' : Heap} (x : ID w h d kvs) (e : ∀ b o, h.get? b = some o → h'.get? b = some o) : ID w h' d kvs := x.at (e d)
theorem ID.lt {h : Heap} (x : ID w h d kvs) : d < h.objs.size := let ⟨_, _, _, ho, _⟩ := x.1; Heap.lt_size ho
theorem ID.there {h : Heap} (x : ID w h d kvs) : ∃ o, h.get? d = some o ∧ o.cls = .type "dict" := let ⟨_, _, _, ho, hc, _⟩ := x.1; ⟨_, ho, hc.1⟩
theorem ID.nodup {h : Heap} (x : ID w h d kvs) : (kvs.map (·.1)).Nodup := let ⟨_, _, _, _, _, _, _, _, hn⟩ := x.1; hn
theorem big_of {K : Frag} {h : Heap} (W : W0 K w h) : 103 < h.objs.size := by
  obtain ⟨oc, od, osl, doc, pm, an, cdv, ct, ho, _⟩ := W.clashes
  exact Heap.lt_size ho
theorem not_mods {d : Addr} (h : 1 < d) : (d == sysModules) = false := by
  rw [beq_eq_false_iff_ne]; intro e; rw [e] at h; exact absurd h (by decide)
theorem ID.new {h : Heap} (hb : 1 < h.objs.size) : ID w (h.push { cls := .type "dict", data := .dict #[] }) h.objs.size [] := ⟨Heap.DictOf.new h, not_mods hb⟩
theorem keeps_of_same {b : Addr} {h h' : Heap} (hs : Heap.SameBut b h h') : ∀ a o, a ≠ b → h.get? a = some o → h'.get? a = some o := fun a o ha e => (hs.2 a ha).trans e

theorem id_setItem {Q : Unit → Shared → Prop} (hm : ID w s.heap d kvs) (hsz : kvs.length ≤ 1000)
    (hQ : ∀ h', ID w h' d (stored kvs k v) → (∀ a o, a ≠ d → s.heap.get? a = some o → h'.get? a = some o) → Q () { s with heap := h', toks := s.toks + 1 }) :
    wpAny (model PP w) A (setItem (.ref d) (.int k t) v) Q E s :=
  wpAny_setItem_pairs (knd := intKind PP w) (intKind_is PP w k t) hm.1 (fun h' hd hs => hQ h' ⟨hd, hm.2⟩ (keeps_of_same hs)) (by rw [sizeLine_eq]; omega)
theorem id_getItem {Q : Value → Shared → Prop} (hm : ID w s.heap d kvs) (hv : valueAt kvs k = some v) (h : Q v { s with toks := s.toks + 1 }) :
    wpAny (model PP w) A (getItem (.ref d) (.int k t)) Q E s := wpAny_getItem_of (knd := intKind PP w) (intKind_is PP w k t) hm.1.mapOf hv h
theorem id_item {value slice : Expr} {Q : Value → Shared → Prop} (hm : ID w s.heap d kvs) (hv : valueAt kvs k = some v) (h : Q v { s with toks := s.toks + 1 })
    (hs : subscripted slice false (.ref d) (.int k t) = operate [.ref d, .int k t] (getItem (.ref d) (.int k t))) :
    wpAny (model PP w) A (subscriptTail value slice (.ref d) (.int k t)) Q E s :=
  tail_any hm.1.typeIs slot_dict_getitem.lookup (id_getItem hm hv h) hs
theorem id_in {Q : Value → Shared → Prop} (hm : ID w s.heap d kvs) (h : Q (.bool (valueAt kvs k).isSome) { s with toks := s.toks + 1 }) :
    wpAny (model PP w) A (compareOp .In (.int k t) (.ref d)) Q E s := wpAny_in_of (knd := intKind PP w) (intKind_is PP w k t) hm.2 hm.1.mapOf h
theorem id_notIn {Q : Value → Shared → Prop} (hm : ID w s.heap d kvs) (h : Q (.bool (!(valueAt kvs k).isSome)) { s with toks := s.toks + 1 }) :
    wpAny (model PP w) A (compareOp .NotIn (.int k t) (.ref d)) Q E s := wpAny_notIn_of (knd := intKind PP w) (intKind_is PP w k t) hm.2 hm.1.mapOf h
theorem id_setdefault {dflt : Value} {Q : Value → Shared → Prop} (hm : ID w s.heap d kvs) (hsz : kvs.length ≤ 1000)
    (h1 : ∀ v, valueAt kvs k = some v → Q v { s with toks := s.toks + 1 })
    (h2 : valueAt kvs k = none → ∀ h', ID w h' d (stored kvs k dflt) → (∀ a o, a ≠ d → s.heap.get? a = some o → h'.get? a = some o) → Q dflt { s with heap := h', toks := s.toks + 1 }) :
    wpAny (model PP w) A (call (.builtin "dict.setdefault") [.ref d, .int k t, dflt]) Q E s :=
  call_meetsIn PySem.F.slot_dict_setdefault hm.1.typeIs PySem.F.entry_dict_setdefault (PySem.F.args_dict_setdefault_3 _ _ _) (kt_meets_setdefault (intKind PP w) d (intKind_is PP w k t) hm.2 dflt)
    ⟨kvs, hm.1, by rw [sizeLine_eq]; omega, h1, fun hn h' hd hs => h2 hn h' ⟨hd, hm.2⟩ (keeps_of_same hs)⟩
theorem id_method {name : Str} {id : String} {pl : Sem Bool} {Q : Value × List Value → Shared → Prop} (slot : Slot "dict" name id) (ty : typeOf (.builtin id) = pure (.type "method_descriptor")) (hm : ID w s.heap d kvs) (h : Q (.builtin id, [.ref d]) s) :
    wpAny (model PP w) A (getMethod (.ref d) name pl) Q E s := getMethod_builtin hm.1.typeIs PySem.F.plainAttrs_dict slot ty hm.1.mapOf.noDict h
theorem lst_method {name : Str} {id : String} {pl : Sem Bool} {l : Addr} {its : Array Value} {c : Nat} {Q : Value × List Value → Shared → Prop} (slot : Slot "list" name id) (ty : typeOf (.builtin id) = pure (.type "method_descriptor"))
    (hl : s.heap.get? l = some (listOf its c)) (h : Q (.builtin id, [.ref l]) s) :
    wpAny (model PP w) A (getMethod (.ref l) name pl) Q E s := getMethod_builtin (T := "list") ⟨_, hl, rfl⟩ PySem.F.plainAttrs_list slot ty (fun a e => by injection e with e; subst e; exact ⟨_, hl, rfl⟩) h
end

/-- everything that stands, but the frame, as one ledger -/
theorem all_news (h₀ h : Heap) (L : Addr) : ∃ R : List (Addr × Obj), News h₀ L h R ∧ ∀ a o, a ≠ L → h₀.get? a = none → h.get? a = some o → (a, o) ∈ R := by
  refine ⟨(List.range h.objs.size).filterMap fun a => if a ≠ L ∧ h₀.get? a = none then (h.get? a).map (fun o => (a, o)) else none, ?_, ?_⟩
  · intro p hp
    obtain ⟨a, _, ha⟩ := List.mem_filterMap.mp hp
    by_cases hc : a ≠ L ∧ h₀.get? a = none
    · rw [if_pos hc] at ha
      obtain ⟨o, ho, rfl⟩ := Option.map_eq_some_iff.mp ha
      exact ⟨ho, hc⟩
    · rw [if_neg hc] at ha; cases ha
  · intro a o h1 h2 h3
    exact List.mem_filterMap.mpr ⟨a, List.mem_range.mpr (Heap.lt_size h3), by rw [if_pos ⟨h1, h2⟩, h3]; rfl⟩
/-- so all that stood, stands, but the frame -/
theorem all_kept {h₀ h h' : Heap} {L : Addr} {m' : Str → Option Value} {news R : List (Addr × Obj)} (F' : Fr h₀ L h' m') (N' : News h₀ L h' news) (hR : ∀ a o, a ≠ L → h₀.get? a = none → h.get? a = some o → (a, o) ∈ R) (hs : ∀ p ∈ R, p ∈ news)
    (hk : ∀ b o, h₀.get? b = some o → h.get? b = some o) : ∀ a o, a ≠ L → h.get? a = some o → h'.get? a = some o := by
  intro a o ha e
  cases q : h₀.get? a with
  | some o' => have := hk a o' q; rw [e] at this; cases this; exact F'.keep a o q
  | none => exact (N' _ (hs _ (hR a o ha q e))).1

theorem none_at_big {h : Heap} {a : Addr} (ha : h.objs.size ≤ a) : h.get? a = none := by
  cases e : h.get? a with
  | none => rfl
  | some o => exact absurd (Heap.lt_size e) (Nat.not_lt.mpr ha)

theorem ints_of_keys {kvs : List (Int × Value)} {w : World} : ∀ {vs : List Value}, vs.length = kvs.length → (∀ (j : Nat) (v : Value), vs[j]? = some v → ∃ k x, kvs[j]? = some (k, x) ∧ (intKind PP w).is k v = true) → IntsAre vs (kvs.map (·.1)) := by
  induction kvs with
  | nil => intro vs hl _; cases vs with | nil => exact .nil | cons _ _ => simp at hl
  | cons q r ih =>
    intro vs hl hv
    cases vs with
    | nil => simp at hl
    | cons v vs =>
      obtain ⟨k, x, e, hk⟩ := hv 0 v rfl
      simp only [List.getElem?_cons_zero, Option.some.injEq] at e
      subst e
      obtain ⟨t, rfl⟩ := Value.isInt_shape hk
      exact .cons k t (ih (by simpa using hl) fun j u hu => by simpa using hv (j + 1) u (by simpa using hu))

section
variable {w : World} {A : Around} {E : Value → Shared → Prop} {s : Shared} {d : Addr} {kvs : List (Int × Value)}

theorem sortedHeap_keep {h : Heap} {a : Addr} {vs : List Value} {out : Array Value} {b : Addr} {o : Obj} (hb : b ≠ a) (e : h.get? b = some o) : (sortedHeap h a vs out).get? b = some o :=
  (sortedHeap_old hb (Heap.lt_size e)).trans e

theorem id_sorted {Q : Value → Shared → Prop} (hh : A.handled = none) (hm : ID w s.heap d kvs) (hn : kvs.length < 64)
    (hQ : ∀ B c h' tk vs ns', (∀ b o, s.heap.get? b = some o → h'.get? b = some o) → s.heap.get? B = none → h'.get? B = some (listOf vs.toArray c) → IntsAre vs ns' → ns'.Perm (kvs.map (·.1)) → ns'.Pairwise (· ≤ ·) → Q (.ref B) { s with heap := h', toks := tk }) :
    wpAny (model PP w) A (call (.builtin "sorted") [.ref d]) Q E s := by
  obtain ⟨ep, hat⟩ := hm.1.dictAt
  refine call_function_entry kind_sorted plain_sorted entry_sorted (args_sorted1 _) ?_
  unfold Builtin.«sorted»
  refine wpAny_bind (m := checkCount "sorted" 1 1 _) (wpAny_pure ?_)
  refine wpAny_bind (kdu_collect (A := A.in1) (kdl_dict (knd := intKind PP w) (kvs := kvs) (ep := ep) hm.2) hh hat (by rw [sizeLine_eq]; omega) fun h' tk acc hk hacc => ?_)
  have hl : acc.toList.length = kvs.length := by rw [Array.length_toList]; exact hacc.1
  have hI : IntsAre acc.toList (kvs.map (·.1)) := ints_of_keys hl fun j v e => hacc.2 j v (by rw [← Array.getElem?_toList]; exact e)
  refine wpAny_bind (wpAny_newList ?_ (by rw [hl, sizeLine_eq]; omega))
  have hoL : (h'.push (seqObj "list" acc.toList.toArray 0)).get? h'.objs.size = some (seqObj "list" acc.toList.toArray 0) := Heap.get?_push_size _ rfl
  refine wpAny_bind (wpAny_holding (wpAny_call_entry slot_list_sort ⟨_, hoL, rfl⟩ entry_list_sort (list_sort_tree hoL hI (by rw [hl]; exact hn) fun out ns' a1 a2 a3 => ⟨_, rfl, ?_⟩) (args_list_sort _)))
  refine wpAny_pure ⟨_, rfl, ?_⟩
  obtain ⟨e, he⟩ := sortedHeap_at (out := out) hoL
  refine hQ h'.objs.size e _ _ out.toList ns' (fun b o eb => ?_) ?_ he a1 a2 a3
  · have e1 := hk b o eb
    exact sortedHeap_keep (Nat.ne_of_lt (Heap.lt_size e1)) (Heap.get?_push_of_some _ e1)
  · cases q : s.heap.get? h'.objs.size with
    | none => rfl
    | some o => exact absurd (Heap.lt_size (hk _ o q)) (Nat.lt_irrefl _)

theorem id_sorted_rev {b : Bool} {Q : Value → Shared → Prop} (hh : A.handled = none) (hm : ID w s.heap d kvs) (hn : kvs.length < 64)
    (hQ : ∀ B c h' tk vs ns', (∀ b o, s.heap.get? b = some o → h'.get? b = some o) → s.heap.get? B = none → h'.get? B = some (listOf vs.toArray c) → IntsAre vs ns' → ns'.Perm (kvs.map (·.1)) → Q (.ref B) { s with heap := h', toks := tk }) :
    wpAny (model PP w) A (call (.builtin "sorted") [.ref d] [(Str.ofString "reverse", .bool b)]) Q E s := by
  obtain ⟨ep, hat⟩ := hm.1.dictAt
  refine call_function_entry_kw kind_sorted plain_sorted entry_sorted (args_sorted_rev _ _) ?_
  unfold Builtin.«sorted»
  refine wpAny_bind (m := checkCount "sorted" 1 1 _) (wpAny_pure ?_)
  refine wpAny_bind (kdu_collect (A := A.in1) (kdl_dict (knd := intKind PP w) (kvs := kvs) (ep := ep) hm.2) hh hat (by rw [sizeLine_eq]; omega) fun h' tk acc hk hacc => ?_)
  have hl : acc.toList.length = kvs.length := by rw [Array.length_toList]; exact hacc.1
  have hI : IntsAre acc.toList (kvs.map (·.1)) := ints_of_keys hl fun j v e => hacc.2 j v (by rw [← Array.getElem?_toList]; exact e)
  refine wpAny_bind (wpAny_newList ?_ (by rw [hl, sizeLine_eq]; omega))
  have hoL : (h'.push (seqObj "list" acc.toList.toArray 0)).get? h'.objs.size = some (seqObj "list" acc.toList.toArray 0) := Heap.get?_push_size _ rfl
  refine wpAny_bind (wpAny_holding (wpAny_call_entry_kw slot_list_sort ⟨_, hoL, rfl⟩ entry_list_sort (list_sort_tree_rev hoL hI (by rw [hl]; exact hn) fun out ns' a1 a2 a3 => ⟨_, rfl, ?_⟩) (args_list_sort_rev _ _)))
  refine wpAny_pure ⟨_, rfl, ?_⟩
  obtain ⟨e, he⟩ := sortedHeap_at (out := out) hoL
  refine hQ h'.objs.size e _ _ out.toList ns' (fun b o eb => ?_) ?_ he a1 a2
  · have e1 := hk b o eb
    exact sortedHeap_keep (Nat.ne_of_lt (Heap.lt_size e1)) (Heap.get?_push_of_some _ e1)
  · cases q : s.heap.get? h'.objs.size with
    | none => rfl
    | some o => exact absurd (Heap.lt_size (hk _ o q)) (Nat.lt_irrefl _)
end

/-- one more rule lets a terminal -/
def addClaim : List (Int × List Int) → Int → Int → List (Int × List Int)
  | [], t, r => [(t, [r])]
  | q :: l, t, r => if q.1 = t then (q.1, q.2 ++ [r]) :: l else q :: addClaim l t r

/-- the claims as they stand: each a list of the heap -/
inductive CLs (h : Heap) : List (Int × List Int) → List (Int × Value) → List Addr → Prop
  | nil : CLs h [] [] []
  | cons {t : Int} {rs : List Int} {cl : List (Int × List Int)} {kvs : List (Int × Value)} {as : List Addr} {a : Addr} {vs : List Value} {c : Nat} :
      h.get? a = some (listOf vs.toArray c) → IntsAre vs rs → CLs h cl kvs as → CLs h ((t, rs) :: cl) ((t, .ref a) :: kvs) (a :: as)

theorem CLs.at {h h' : Heap} {cl kvs as} (x : CLs h cl kvs as) (k : ∀ a ∈ as, ∀ o, h.get? a = some o → h'.get? a = some o) : CLs h' cl kvs as := by
  induction x with
  | nil => exact .nil
  | cons ho hi _ ih => exact .cons (k _ (.head _) _ ho) hi (ih fun a ha => k a (.tail _ ha))
theorem CLs.lt {h : Heap} {cl kvs as} (x : CLs h cl kvs as) : ∀ a ∈ as, a < h.objs.size := by
  induction x with
  | nil => intro a ha; cases ha
  | cons ho _ _ ih =>
    intro a ha
    rcases List.mem_cons.mp ha with rfl | ha
    · exact Heap.lt_size ho
    · exact ih a ha
theorem CLs.there {h : Heap} {cl kvs as} (x : CLs h cl kvs as) : ∀ a ∈ as, ∃ its c, h.get? a = some (listOf its c) := by
  induction x with
  | nil => intro a ha; cases ha
  | cons ho _ _ ih =>
    intro a ha
    rcases List.mem_cons.mp ha with rfl | ha
    · exact ⟨_, _, ho⟩
    · exact ih a ha
theorem CLs.keys {h : Heap} {cl kvs as} (x : CLs h cl kvs as) : kvs.map (·.1) = cl.map (·.1) := by
  induction x with
  | nil => rfl
  | cons _ _ _ ih => simp only [List.map_cons, ih]
theorem CLs.len {h : Heap} {cl kvs as} (x : CLs h cl kvs as) : kvs.length = cl.length := by
  have := congrArg List.length x.keys; simpa using this
theorem valueAt_cons (p : Int × Value) (r : List (Int × Value)) (k : Int) : valueAt (p :: r) k = if p.1 = k then some p.2 else valueAt r k := by
  unfold valueAt
  by_cases e : p.1 = k
  · simp [e]
  · simp [e]
/-- a key that is there -/
theorem CLs.hit {h : Heap} {cl kvs as} (x : CLs h cl kvs as) {t : Int} {v : Value} (e : valueAt kvs t = some v) :
    ∃ a vs rs c, v = .ref a ∧ a ∈ as ∧ h.get? a = some (listOf vs.toArray c) ∧ IntsAre vs rs ∧ (t, rs) ∈ cl := by
  induction x with
  | nil => cases e
  | @cons t' rs cl kvs as a vs c ho hi _ ih =>
    rw [valueAt_cons] at e
    by_cases q : t' = t
    · rw [if_pos q] at e; cases e
      exact ⟨a, vs, rs, c, rfl, .head _, ho, hi, by rw [← q]; exact .head _⟩
    · rw [if_neg q] at e
      obtain ⟨a', vs', rs', c', e1, e2, e3, e4, e5⟩ := ih e
      exact ⟨a', vs', rs', c', e1, .tail _ e2, e3, e4, .tail _ e5⟩
theorem CLs.miss {h : Heap} {cl kvs as} (x : CLs h cl kvs as) {t : Int} (e : valueAt kvs t = none) (r : Int) : addClaim cl t r = cl ++ [(t, [r])] := by
  induction x with
  | nil => rfl
  | @cons t' rs cl kvs as a vs c ho hi _ ih =>
    rw [valueAt_cons] at e
    by_cases q : t' = t
    · rw [if_pos q] at e; cases e
    · rw [if_neg q] at e
      show (if t' = t then _ else _) = _
      rw [if_neg q, ih e]; rfl
theorem CLs.snoc {h : Heap} {cl kvs as} (x : CLs h cl kvs as) {t : Int} {rs : List Int} {a : Addr} {vs : List Value} {c : Nat} (ho : h.get? a = some (listOf vs.toArray c)) (hi : IntsAre vs rs) :
    CLs h (cl ++ [(t, rs)]) (kvs ++ [(t, .ref a)]) (as ++ [a]) := by
  induction x with
  | nil => exact .cons ho hi .nil
  | cons ho' hi' _ ih => exact .cons ho' hi' ih
/-- the list of a key grows by one -/
theorem CLs.grow {h h' : Heap} {cl kvs as} (x : CLs h cl kvs as) (hn : as.Nodup) {t r : Int} {u : Tok} {a : Addr} {vs : List Value} {c : Nat} (e : valueAt kvs t = some (.ref a)) (ho : h.get? a = some (listOf vs.toArray c))
    (ho' : h'.get? a = some (listOf (vs.toArray.push (.int r u)) (c + 1))) (hk : ∀ b o, b ≠ a → h.get? b = some o → h'.get? b = some o) : CLs h' (addClaim cl t r) kvs as := by
  induction x with
  | nil => cases e
  | @cons t' rs cl kvs as a' vs' c' ho₁ hi₁ y ih =>
    rw [valueAt_cons] at e
    have hn' := List.nodup_cons.mp hn
    by_cases q : t' = t
    · rw [if_pos q] at e; cases e
      rw [ho₁] at ho
      have e1 := Option.some.inj ho
      have e2 : vs'.toArray = vs.toArray := by injection e1 with _ _ e3; injection e3
      have e3 : vs' = vs := by simpa using e2
      subst e3
      show CLs h' (if t' = t then _ else _) _ _
      rw [if_pos q]
      refine .cons (vs := vs' ++ [.int r u]) (c := c + 1) ?_ (hi₁.append (.cons _ _ .nil)) (y.at fun b hb o => hk b o fun e => hn'.1 (e ▸ hb))
      rw [ho', List.push_toArray]
    · rw [if_neg q] at e
      show CLs h' (if t' = t then _ else _) _ _
      rw [if_neg q]
      refine .cons (hk _ _ (fun e' => ?_) ho₁) hi₁ (ih hn'.2 e)
      subst e'
      obtain ⟨a'', _, _, _, e4, e5, _⟩ := y.hit e
      cases e4
      exact hn'.1 e5
section
variable {w : World} {A : Around} {E : Value → Shared → Prop} {s : Shared} {K : Frag}

/-- claims.setdefault(terminal, []).append(rule), behind the call of setdefault -/
structure Claims (w : World) (h : Heap) (c : Addr) (av : Addr → Prop) (cl : List (Int × List Int)) : Prop where
  ex : ∃ kvs as, ID w h c kvs ∧ CLs h cl kvs as ∧ as.Nodup ∧ (∀ a ∈ as, ¬ av a)

theorem Claims.at {h h' : Heap} {c : Addr} {av av' : Addr → Prop} {cl} (x : Claims w h c av cl) (hk : ∀ b o, (b = c ∨ ¬ av b) → h.get? b = some o → h'.get? b = some o) (hav : ∀ a its n, ¬ av a → h.get? a = some (listOf its n) → ¬ av' a) : Claims w h' c av' cl := by
  obtain ⟨kvs, as, h1, h2, h3, h4⟩ := x.ex
  exact ⟨kvs, as, h1.at (hk c · (.inl rfl)), h2.at fun a ha o => hk a o (.inr (h4 a ha)), h3, fun a ha => let ⟨_, _, e⟩ := h2.there a ha; hav a _ _ (h4 a ha) e⟩
theorem ID.of_empty {h : Heap} {c : Addr} {n : Nat} (e : h.get? c = some { cls := .type "dict", data := .dict #[] n }) (hc : 1 < c) : ID w h c [] :=
  ⟨⟨_, #[], n, e, ⟨rfl, rfl, rfl⟩, rfl, (fun _ he => by simp at he), .nil, .nil⟩, not_mods hc⟩
end

theorem valueAt_snoc {kvs : List (Int × Value)} {k : Int} {v : Value} (e : valueAt kvs k = none) : valueAt (kvs ++ [(k, v)]) k = some v := by
  induction kvs with
  | nil => rw [List.nil_append, valueAt_cons, if_pos rfl]
  | cons p r ih =>
    rw [valueAt_cons] at e
    by_cases q : p.1 = k
    · rw [if_pos q] at e; cases e
    · rw [if_neg q] at e
      rw [List.cons_append, valueAt_cons, if_neg q, ih e]
theorem stored_miss {kvs : List (Int × Value)} {k : Int} {v : Value} (e : valueAt kvs k = none) : stored kvs k v = kvs ++ [(k, v)] := by
  unfold stored
  rw [if_neg]
  intro h
  obtain ⟨p, hp, hq⟩ := List.any_eq_true.mp h
  have hq' : p.1 = k := by simpa using hq
  have : ∀ {l : List (Int × Value)}, p ∈ l → valueAt l k ≠ none := by
    intro l
    induction l with
    | nil => intro h; cases h
    | cons x r ih =>
      intro h
      rw [valueAt_cons]
      by_cases q : x.1 = k
      · rw [if_pos q]; simp
      · rw [if_neg q]
        rcases List.mem_cons.mp h with rfl | h
        · exact absurd hq' q
        · exact ih h
  exact this hp e
theorem addClaim_miss : ∀ {cl : List (Int × List Int)} {t : Int}, t ∉ cl.map (·.1) → ∀ (rs : List Int) (r : Int), addClaim (cl ++ [(t, rs)]) t r = cl ++ [(t, rs ++ [r])]
  | [], t, _, rs, r => by show (if t = t then _ else _) = _; rw [if_pos rfl]; rfl
  | q :: l, t, h, rs, r => by
    have h1 : ¬ q.1 = t := fun e => h (by rw [← e]; exact .head _)
    have h2 : t ∉ l.map (·.1) := fun e => h (.tail _ e)
    show (if q.1 = t then _ else q :: addClaim (l ++ [(t, rs)]) t r) = _
    rw [if_neg h1, addClaim_miss h2]; rfl
theorem valueAt_none {kvs : List (Int × Value)} {k : Int} (e : valueAt kvs k = none) : k ∉ kvs.map (·.1) := by
  induction kvs with
  | nil => intro h; cases h
  | cons p r ih =>
    rw [valueAt_cons] at e
    by_cases q : p.1 = k
    · rw [if_pos q] at e; cases e
    · rw [if_neg q] at e
      intro h
      rcases List.mem_cons.mp h with h | h
      · exact q h.symm
      · exact ih e h

section
variable {w : World} {A : Around} {E : Value → Shared → Prop} {s : Shared}
theorem claims_setdefault {c l : Addr} {av : Addr → Prop} {cl : List (Int × List Int)} {kvs : List (Int × Value)} {as : List Addr} {tm : Int} {ut : Tok} {n : Nat} {Q : Value → Shared → Prop}
    (h1 : ID w s.heap c kvs) (h2 : CLs s.heap cl kvs as) (h3 : as.Nodup) (h4 : ∀ a ∈ as, ¬ av a ∧ a ≠ c) (hl : s.heap.get? l = some (listOf #[] n)) (hlav : ¬ av l ∧ l ≠ c) (hlas : l ∉ as) (hsz : cl.length ≤ 1000)
    (hQ : ∀ (a : Addr) (h' : Heap) (clX : List (Int × List Int)) (kvs' : List (Int × Value)) (as' : List Addr) (vs : List Value) (cx : Nat), ID w h' c kvs' → CLs h' clX kvs' as' → as'.Nodup → (∀ a ∈ as', ¬ av a ∧ a ≠ c) → valueAt kvs' tm = some (.ref a) → a ∈ as' → h'.get? a = some (listOf vs.toArray cx) → vs.length ≤ 1000 → (∀ r, addClaim clX tm r = addClaim cl tm r) →
      (∀ b o, b ≠ c → s.heap.get? b = some o → h'.get? b = some o) → Q (.ref a) { s with heap := h', toks := s.toks + 1 })
    (hlen : ∀ p ∈ cl, p.2.length ≤ 1000) :
    wpAny (model PP w) A (call (.builtin "dict.setdefault") [.ref c, .int tm ut, .ref l]) Q E s := by
  refine id_setdefault h1 (by rw [h2.len]; exact hsz) (fun v hv => ?_) fun hv h' hd hk => ?_
  · obtain ⟨a, vs, rs, cx, rfl, ha, ho, hi, hmem⟩ := h2.hit hv
    exact hQ a s.heap cl kvs as vs cx h1 h2 h3 h4 hv ha ho (by rw [hi.length]; exact hlen _ hmem) (fun _ => rfl) fun _ _ _ e => e
  · rw [stored_miss hv] at hd
    have hkeys := h2.keys
    refine hQ l h' (cl ++ [(tm, [])]) _ (as ++ [l]) [] n hd ?_ ?_ ?_ (valueAt_snoc hv) (by simp) (hk _ _ hlav.2 hl) (by simp) (fun r => ?_) hk
    · exact (h2.at fun a ha o e => hk a o (h4 a ha).2 e).snoc (vs := []) (hk _ _ hlav.2 hl) .nil
    · refine List.nodup_append.mpr ⟨h3, by simp, ?_⟩
      intro a ha b hb
      rw [List.mem_singleton.mp hb]
      exact fun q => hlas (by rw [← q]; exact ha)
    · intro a ha
      rcases List.mem_append.mp ha with ha | ha
      · exact h4 a ha
      · rw [List.mem_singleton.mp ha]; exact hlav
    · rw [h2.miss hv, addClaim_miss (by rw [← hkeys]; exact valueAt_none hv)]; rfl
end

/-- int values -/
inductive Ints : List (Int × Value) → List (Int × Int) → Prop
  | nil : Ints [] []
  | cons (k n : Int) (t : Tok) {kvs : List (Int × Value)} {ms : List (Int × Int)} : Ints kvs ms → Ints ((k, .int n t) :: kvs) ((k, n) :: ms)
theorem Ints.keys {kvs ms} (x : Ints kvs ms) : kvs.map (·.1) = ms.map (·.1) := by
  induction x with
  | nil => rfl
  | cons _ _ _ _ ih => simp only [List.map_cons, ih]
def lookI (ms : List (Int × Int)) (k : Int) : Option Int := (ms.find? fun p => p.1 = k).map (·.2)
theorem lookI_cons (p : Int × Int) (r : List (Int × Int)) (k : Int) : lookI (p :: r) k = if p.1 = k then some p.2 else lookI r k := by
  unfold lookI
  by_cases e : p.1 = k
  · simp [e]
  · simp [e]
theorem Ints.look {kvs ms} (x : Ints kvs ms) {k : Int} (hk : k ∈ ms.map (·.1)) : ∃ n t, valueAt kvs k = some (.int n t) ∧ lookI ms k = some n ∧ (k, n) ∈ ms := by
  induction x with
  | nil => simp at hk
  | cons k' n t _ ih =>
    by_cases e : k' = k
    · exact ⟨n, t, by rw [valueAt_cons, if_pos e], by rw [lookI_cons, if_pos e], by rw [← e]; exact .head _⟩
    · rcases List.mem_cons.mp hk with e' | hk
      · exact absurd e'.symm e
      · obtain ⟨n', t', e1, e2, e3⟩ := ih hk
        exact ⟨n', t', by rw [valueAt_cons, if_neg e, e1], by rw [lookI_cons, if_neg e, e2], .tail _ e3⟩

def maskOf (ms : List (Int × Int)) (r : Int) : Nat := ((lookI ms r).getD 0).toNat
def claimsOf (ms : List (Int × Int)) (rules : List Int) : List (Int × List Int) :=
  rules.foldl (fun cl r => (bitsGo 10 0 (maskOf ms r)).foldl (fun cl t => addClaim cl t r) cl) []
def lookL (cl : List (Int × List Int)) (k : Int) : List Int := ((cl.find? fun p => p.1 = k).map (·.2)).getD []
theorem lookL_cons (p : Int × List Int) (r : List (Int × List Int)) (k : Int) : lookL (p :: r) k = if p.1 = k then p.2 else lookL r k := by
  unfold lookL
  by_cases e : p.1 = k
  · simp [e]
  · simp [e]
theorem CLs.look {h : Heap} {cl kvs as} (x : CLs h cl kvs as) {t : Int} (ht : t ∈ cl.map (·.1)) : ∃ a vs c, valueAt kvs t = some (.ref a) ∧ a ∈ as ∧ h.get? a = some (listOf vs.toArray c) ∧ IntsAre vs (lookL cl t) := by
  induction x with
  | nil => cases ht
  | @cons t' rs cl kvs as a vs c ho hi _ ih =>
    by_cases q : t' = t
    · exact ⟨a, vs, c, by rw [valueAt_cons, if_pos q], .head _, ho, by rw [lookL_cons, if_pos q]; exact hi⟩
    · rcases List.mem_cons.mp ht with e | ht
      · exact absurd e.symm q
      · obtain ⟨a', vs', c', e1, e2, e3, e4⟩ := ih ht
        exact ⟨a', vs', c', by rw [valueAt_cons, if_neg q, e1], .tail _ e2, e3, by rw [lookL_cons, if_neg q]; exact e4⟩
theorem lookL_mem {cl : List (Int × List Int)} {t : Int} (ht : t ∈ cl.map (·.1)) : (t, lookL cl t) ∈ cl := by
  induction cl with
  | nil => cases ht
  | cons p r ih =>
    rw [lookL_cons]
    by_cases q : p.1 = t
    · rw [if_pos q, ← q]; exact .head _
    · rw [if_neg q]
      rcases List.mem_cons.mp ht with e | ht
      · exact absurd e.symm q
      · exact .tail _ (ih ht)
/-- tuples of ints as values, all behind an address -/
inductive TVals (h : Heap) (lo : Addr) : List (Int × Value) → List (Int × List Int) → Prop
  | nil : TVals h lo [] []
  | cons {t : Int} {rs : List Int} {kvs : List (Int × Value)} {fl : List (Int × List Int)} {a : Addr} {vs : List Value} {n : Nat} :
      lo < a → h.get? a = some { cls := .type "tuple", data := .seq vs.toArray n } → IntsAre vs rs → TVals h lo kvs fl → TVals h lo ((t, .ref a) :: kvs) ((t, rs) :: fl)
theorem TVals.at {h h' : Heap} {lo : Addr} {kvs fl} (x : TVals h lo kvs fl) (k : ∀ a o, lo < a → o.cls = .type "tuple" → h.get? a = some o → h'.get? a = some o) : TVals h' lo kvs fl := by
  induction x with
  | nil => exact .nil
  | cons hlo ho hi _ ih => exact .cons hlo (k _ _ hlo rfl ho) hi ih
theorem TVals.low {h : Heap} {lo lo' : Addr} {kvs fl} (x : TVals h lo kvs fl) (k : lo' ≤ lo) : TVals h lo' kvs fl := by
  induction x with
  | nil => exact .nil
  | cons hlo ho hi _ ih => exact .cons (Nat.lt_of_le_of_lt k hlo) ho hi ih
theorem TVals.keys {h : Heap} {lo : Addr} {kvs fl} (x : TVals h lo kvs fl) : kvs.map (·.1) = fl.map (·.1) := by
  induction x with
  | nil => rfl
  | cons _ _ _ _ ih => simp only [List.map_cons, ih]
theorem TVals.snoc {h : Heap} {lo : Addr} {kvs fl} (x : TVals h lo kvs fl) {t : Int} {rs : List Int} {a : Addr} {vs : List Value} {n : Nat} (hlo : lo < a) (ho : h.get? a = some { cls := .type "tuple", data := .seq vs.toArray n }) (hi : IntsAre vs rs) :
    TVals h lo (kvs ++ [(t, .ref a)]) (fl ++ [(t, rs)]) := by
  induction x with
  | nil => exact .cons hlo ho hi .nil
  | cons hlo' ho' hi' _ ih => exact .cons hlo' ho' hi' ih
theorem valueAt_absent {kvs : List (Int × Value)} {k : Int} (e : k ∉ kvs.map (·.1)) : valueAt kvs k = none := by
  induction kvs with
  | nil => rfl
  | cons p r ih =>
    rw [valueAt_cons, if_neg fun q => e (by rw [← q]; exact .head _)]
    exact ih fun q => e (.tail _ q)

def foundOf (mv : Int → Bool) (cl : List (Int × List Int)) (ts : List Int) : List (Int × List Int) :=
  ts.filterMap fun t => if 1 < (lookL cl t).length ∨ mv t = true then some (t, lookL cl t) else none

theorem foundOf_keys (mv : Int → Bool) (cl : List (Int × List Int)) (ts : List Int) : ∀ t ∈ (foundOf mv cl ts).map (·.1), t ∈ ts := by
  intro t ht
  obtain ⟨p, hp, rfl⟩ := List.mem_map.mp ht
  obtain ⟨u, hu, e⟩ := List.mem_filterMap.mp hp
  split at e
  · cases e; exact hu
  · cases e
theorem foundOf_snoc (mv : Int → Bool) (cl : List (Int × List Int)) (ts : List Int) (t : Int) : foundOf mv cl (ts ++ [t]) = foundOf mv cl ts ++ (if 1 < (lookL cl t).length ∨ mv t = true then [(t, lookL cl t)] else []) := by
  unfold foundOf
  rw [List.filterMap_append]
  congr 1
  by_cases c : 1 < (lookL cl t).length ∨ mv t = true
  · rw [if_pos c]; simp [c]
  · rw [if_neg c]; simp [c]
theorem foundOf_len (mv : Int → Bool) (cl : List (Int × List Int)) (ts : List Int) : (foundOf mv cl ts).length ≤ ts.length := List.length_filterMap_le _ _

theorem bitsGo_in : ∀ (f a l : Nat), ∀ t ∈ bitsGo f a l, (a : Int) ≤ t ∧ t < (a + f : Nat)
  | 0, _, _, t, h => by cases h
  | f + 1, a, l, t, h => by
    unfold bitsGo at h
    split at h
    · cases h
    · rcases List.mem_append.mp h with h | h
      · split at h
        · rw [List.mem_singleton.mp h]; omega
        · cases h
      · have := bitsGo_in f (a + 1) (l / 2) t h
        omega
theorem addClaim_keys (cl : List (Int × List Int)) (t r : Int) : (addClaim cl t r).map (·.1) = if t ∈ cl.map (·.1) then cl.map (·.1) else cl.map (·.1) ++ [t] := by
  induction cl with
  | nil => rfl
  | cons q l ih =>
    show (if q.1 = t then (q.1, q.2 ++ [r]) :: l else q :: addClaim l t r).map (·.1) = _
    by_cases e : q.1 = t
    · rw [if_pos e, if_pos (by rw [← e]; exact .head _)]; rfl
    · rw [if_neg e, List.map_cons, ih]
      by_cases e' : t ∈ l.map (·.1)
      · rw [if_pos e', if_pos (by rw [List.map_cons]; exact .tail _ e')]; rfl
      · rw [if_neg e', if_neg (by rw [List.map_cons]; intro q'; rcases List.mem_cons.mp q' with q' | q'; exact e q'.symm; exact e' q')]; rfl
theorem addClaim_lens {K : Nat} : ∀ {cl : List (Int × List Int)}, (∀ p ∈ cl, p.2.length ≤ K) → ∀ (t r : Int), ∀ p ∈ addClaim cl t r, p.2.length ≤ K + 1
  | [], _, t, r, p, hp => by rw [List.mem_singleton.mp hp]; simp
  | q :: l, h, t, r, p, hp => by
    have hp' : p ∈ (if q.1 = t then (q.1, q.2 ++ [r]) :: l else q :: addClaim l t r) := hp
    split at hp'
    · rcases List.mem_cons.mp hp' with rfl | hp'
      · have := h q (.head _); simp; omega
      · exact Nat.le_succ_of_le (h p (.tail _ hp'))
    · rcases List.mem_cons.mp hp' with rfl | hp'
      · exact Nat.le_succ_of_le (h p (.head _))
      · exact addClaim_lens (fun p hp => h p (.tail _ hp)) t r p hp'
theorem bitsGo_len : ∀ (f a l : Nat), (bitsGo f a l).length ≤ f
  | 0, _, _ => Nat.le_refl _
  | f + 1, a, l => by
    unfold bitsGo
    split
    · simp
    · have := bitsGo_len f (a + 1) (l / 2)
      rw [List.length_append]
      split <;> simp <;> omega
/-- keys that are apart and below ten; lists of K at most -/
def Small (K : Nat) (cl : List (Int × List Int)) : Prop := ((cl.map (·.1)).Nodup ∧ ∀ t ∈ cl.map (·.1), (0 : Int) ≤ t ∧ t < 10) ∧ ∀ p ∈ cl, p.2.length ≤ K
theorem Small.add {K : Nat} {cl : List (Int × List Int)} (x : Small K cl) {t : Int} (h0 : 0 ≤ t) (h1 : t < 10) (r : Int) : Small (K + 1) (addClaim cl t r) := by
  refine ⟨?_, addClaim_lens x.2 t r⟩
  replace x := x.1
  rw [addClaim_keys]
  by_cases e : t ∈ cl.map (·.1)
  · rw [if_pos e]; exact x
  · rw [if_neg e]
    refine ⟨List.nodup_append.mpr ⟨x.1, by simp, ?_⟩, ?_⟩
    · intro a ha b hb
      rw [List.mem_singleton.mp hb]
      exact fun q => e (q ▸ ha)
    · intro a ha
      rcases List.mem_append.mp ha with ha | ha
      · exact x.2 a ha
      · rw [List.mem_singleton.mp ha]; exact ⟨h0, h1⟩
theorem Small.mono {K K' : Nat} {cl : List (Int × List Int)} (x : Small K cl) (h : K ≤ K') : Small K' cl := ⟨x.1, fun p hp => Nat.le_trans (x.2 p hp) h⟩
theorem len_of_sub : ∀ {l S : List Int}, l.Nodup → (∀ x ∈ l, x ∈ S) → l.length ≤ S.length
  | [], _, _, _ => Nat.zero_le _
  | x :: l, S, hn, hs => by
    have hn' := List.nodup_cons.mp hn
    have h1 : l.length ≤ (S.erase x).length := len_of_sub hn'.2 fun y hy => (List.mem_erase_of_ne (fun (e : y = x) => hn'.1 (by rw [← e]; exact hy))).mpr (hs y (.tail _ hy))
    have h2 : x ∈ S := hs x (.head _)
    have h3 := List.length_erase_of_mem h2
    have h4 : 0 < S.length := List.length_pos_of_mem h2
    simp only [List.length_cons]; omega
theorem Small.len {K : Nat} {cl : List (Int × List Int)} (x : Small K cl) : cl.length ≤ 10 := by
  have h := len_of_sub (S := [0, 1, 2, 3, 4, 5, 6, 7, 8, 9]) x.1.1 fun t ht => by
    have := x.1.2 t ht
    have : t = 0 ∨ t = 1 ∨ t = 2 ∨ t = 3 ∨ t = 4 ∨ t = 5 ∨ t = 6 ∨ t = 7 ∨ t = 8 ∨ t = 9 := by omega
    simpa using this
  simpa using h

end Mine
end

section
open PySem PySem.W PyProof.Rows PySem.Calls
namespace Mine
local macro_rules | `(tactic| walk_at "mlook") => `(tactic| first | assumption | exact if_pos rfl | (refine Eq.trans (if_neg (by decide)) ?_; walk_at "mlook") | rfl)
local macro_rules | `(tactic| walk_at "memb") => `(tactic| first | exact List.Mem.head _ | (refine List.Mem.tail _ ?_; walk_at "memb"))
local macro_rules | `(tactic| walk_at "eval Name") => `(tactic| with_unfolding_all (first | refine ev_built (by assumption) (by assumption) (by walk_at "memb") ?_ rfl rfl (by decide) | refine ev_glob (by assumption) (by assumption) (by walk_at "memb") ?_ rfl rfl (by decide) | refine ev_builtC (by assumption) (by assumption) (by walk_at "memb") ?_ rfl rfl rfl rfl (by decide) | refine ev_globC (by assumption) (by assumption) (by walk_at "memb") ?_ rfl rfl rfl (by decide)))
local macro_rules | `(tactic| walk_at "eval Name") => `(tactic| refine ld (by assumption) (by first | rfl | walk_at "mlook") ?_ rfl rfl (by decide))

section
variable {w : World} {A : Around} {E : Value → Shared → Prop} {s : Shared} {K : Frag}

theorem ns_ne {h : Heap} {L B : Addr} {m : Str → Option Value} (hn : h.Ns L m) (hB : h.get? B = none) : L ≠ B := by
  obtain ⟨o, _, _, ho, _⟩ := hn
  intro e; rw [e, hB] at ho; cases ho
theorem ne_of_two {h : Heap} {a b : Addr} {o o' : Obj} (ha : h.get? a = some o) (hb : h.get? b = some o') (hc : o.cls ≠ o'.cls) : a ≠ b := by
  intro e; rw [e, hb] at ha; cases ha; exact hc rfl

theorem fr_upd {h₀ h h' : Heap} {L c : Addr} {m : Str → Option Value} (F : Fr h₀ L h m) (hc : h₀.get? c = none) (hLc : L ≠ c) (hk : ∀ a o, a ≠ c → h.get? a = some o → h'.get? a = some o) : Fr h₀ L h' m :=
  ⟨F.ns.at' fun o e => hk _ o hLc e, fun b o e => hk b o (fun q => by rw [q, hc] at e; cases e) (F.keep b o e), F.above⟩

theorem nodup_take : ∀ {l : List Int}, l.Nodup → ∀ {i : Nat} {x : Int}, l[i]? = some x → x ∉ l.take i
  | [], _, i, x, h => by simp at h
  | y :: l, hn, 0, x, h => by simp
  | y :: l, hn, i + 1, x, h => by
    have hn' := List.nodup_cons.mp hn
    have h' : l[i]? = some x := by simpa using h
    intro hm
    rw [List.take_succ_cons] at hm
    rcases List.mem_cons.mp hm with rfl | hm
    · exact hn'.1 (List.mem_of_getElem? h')
    · exact nodup_take hn'.2 h' hm
def OuterJ (w : World) (s : Shared) (c dm dk I : Addr) (ms : List (Int × Int)) (K : Nat) (rules : List Int) (m : Str → Option Value) (h : Heap) : Prop :=
  (∀ b o, s.heap.get? b = some o → h.get? b = some o) ∧ Claims w h c (fun a => a ≤ I) (claimsOf ms rules) ∧ Small K (claimsOf ms rules) ∧ m "claims" = some (.ref c) ∧ m "moves" = some (.ref dm) ∧ m "masks" = some (.ref dk)

def stepRule (cl : List (Int × List Int)) (r : Int) (ts : List Int) : List (Int × List Int) := ts.foldl (fun cl t => addClaim cl t r) cl
theorem claimsOf_snoc (ms : List (Int × Int)) (rules : List Int) (r : Int) : claimsOf ms (rules ++ [r]) = stepRule (claimsOf ms rules) r (bitsGo 10 0 (maskOf ms r)) := by
  unfold claimsOf stepRule; rw [List.foldl_append]; rfl
theorem take_snoc {α : Type} {l : List α} {i : Nat} {x : α} (h : l[i]? = some x) : l.take (i + 1) = l.take i ++ [x] := by
  rw [List.take_add_one, h]; rfl

def InnerJ (w : World) (s : Shared) (c dm dk I B D I' : Addr) (hO : Heap) (r : Int) (t : Tok) (K : Nat) (cl : List (Int × List Int)) (m : Str → Option Value) (h : Heap) : Prop :=
  (∀ b o, s.heap.get? b = some o → h.get? b = some o) ∧ Claims w h c (fun a => a ≤ I ∨ a = D ∨ a = I') cl ∧ Small K cl ∧ m "claims" = some (.ref c) ∧ m "moves" = some (.ref dm) ∧ m "masks" = some (.ref dk) ∧ m "rule" = some (.int r t) ∧
    (∀ b o, b ∈ [I, B] → hO.get? b = some o → h.get? b = some o)

set_option maxHeartbeats 4000000 in
theorem clashes_spec (W : W0 K w s.heap) (R : Rm A 4) {dm dk : Addr} {kvm kvk : List (Int × Value)} {ms : List (Int × Int)} (hm : ID w s.heap dm kvm) (hk : ID w s.heap dk kvk) (hi : Ints kvk ms) (hb : ∀ p ∈ ms, 0 ≤ p.2 ∧ p.2 < 512) (hn : ms.length < 60) {Q : Value → Shared → Prop}
    (hQ : ∀ D h' tk kvf ns ts, (∀ b o, s.heap.get? b = some o → h'.get? b = some o) → s.heap.get? D = none → ID w h' D kvf → TVals h' s.heap.objs.size kvf (foundOf (fun t => (valueAt kvm t).isSome) (claimsOf ms ns) ts) →
      ns.Perm (ms.map (·.1)) → ns.Pairwise (· ≤ ·) → ts.Perm ((claimsOf ms ns).map (·.1)) → ts.Pairwise (· ≤ ·) → Q (.ref D) { s with heap := h', toks := tk }) :
    wpAny (model PP w) A (call (.ref 103) [.ref dm, .ref dk]) Q E s := by
  obtain ⟨hd0, dp, frs, gds, un⟩ := A
  obtain rfl : hd0 = none := R.hh
  refine call_fn (binds := [("moves", .ref dm), ("masks", .ref dk)]) W.clashes W.lim (by have := R.depth; omega) (fun _ _ _ _ _ => rfl) (by intro x hx; rcases List.mem_cons.mp hx with rfl | hx; exact rfl; rw [List.mem_singleton.mp hx]; rfl) (fun cdv h₁ F => ?_) (by decide +kernel) (by rfl) (by rfl) (by rfl)
  have N : News s.heap s.heap.objs.size h₁ [] := News.nil
  have hlen : kvk.length = ms.length := by have := congrArg List.length hi.keys; simpa using this
  refine wpAny_execs_cons (wpAny_Assign_Name (wpAny_Dict_empty ?_))
  refine stN (F.push _) (News.push F N _) (fun h₂ F2 N2 => ?_) rfl rfl
  have hbig := big_of W
  have hcL : s.heap.objs.size < h₁.objs.size := F.ns.lt
  have hcD : ID w h₂ h₁.objs.size [] := ID.of_empty (N2 _ (.head _)).1 (Nat.lt_trans (Nat.lt_trans (by decide) hbig) hcL)
  generalize h₁.objs.size = c at *
  refine wpAny_execs_cons (For_raw (L := s.heap.objs.size) rfl rfl rfl (fun _ => rfl) ?_)
  iterate 6 walk1
  refine id_sorted rfl (hk.keep F2.keep) (by omega) fun B c' h₃ tk vs ns hk3 hB hBo hI hperm hsort => ?_
  have hperm' : ns.Perm (ms.map (·.1)) := hi.keys ▸ hperm
  have hlens : vs.length = ns.length := hI.length
  have F3 := F2.keeps hk3
  have hc3 : ID w h₃ c [] := hcD.keep hk3
  have hLB : s.heap.objs.size ≠ B := ns_ne F2.ns hB
  refine wpAny_pyIter_list (items := vs.toArray) ⟨_, hBo, rfl, _, rfl⟩ ?_
  have hcB : c ≠ B := by
    obtain ⟨o, ho, _⟩ := hcD.there
    intro q; rw [q, hB] at ho; cases ho
  have hBI : B < h₃.objs.size := Heap.lt_size hBo
  have hcI : c < h₃.objs.size := hc3.lt
  have hLI : s.heap.objs.size < h₃.objs.size := F3.ns.lt
  refine ⟨h₃.objs.size, [h₃.objs.size, B], vs.toArray.size, _, _, rfl, Walks.list rfl h₃.objs.size B (Nat.ne_of_lt hBI) vs.toArray, ⟨⟨_, Heap.get?_push_size _ rfl, rfl, rfl⟩, Heap.IsList.push ⟨_, hBo, rfl, _, rfl⟩ _⟩, ?_, fun i m h => OuterJ w s c dm dk h₃.objs.size ms (10 * i) (ns.take i) m h, _, (F3.push _).ns, ?_, ?_, ?_, ?_⟩
  · intro hmem
    rcases List.mem_cons.mp hmem with e | hmem
    · exact absurd hLI (e ▸ Nat.lt_irrefl _)
    · exact hLB (List.mem_singleton.mp hmem)
  · exact ⟨(F3.push _).keep, ⟨[], [], hc3.keep fun b o e => Heap.get?_push_of_some _ e, .nil, .nil, fun a ha => by cases ha⟩, ⟨⟨.nil, fun t ht => by cases ht⟩, fun p hp => by cases hp⟩, by walk_at "mlook", by walk_at "mlook", by walk_at "mlook"⟩
  · rintro i m h h' ⟨a1, a2, a3, a4, a5, a6⟩ hkk
    refine ⟨fun b o e => hkk b o ?_ ?_ (a1 b o e), a2.at (fun b o hb e => hkk b o ?_ ?_ e) fun a _ _ ha _ => ha, a3, a4, a5, a6⟩
    · exact Nat.ne_of_lt (Nat.lt_trans (Heap.lt_size e) hLI)
    · exact Nat.ne_of_lt (Heap.lt_size e)
    · rcases hb with rfl | hb
      · exact Nat.ne_of_lt hcI
      · exact fun e => hb (Nat.le_of_eq e)
    · rcases hb with rfl | hb
      · exact Nat.ne_of_gt hcL
      · exact fun e => hb (e ▸ Nat.le_of_lt hLI)
  · rintro i v m h tk' hlt hP hSt ⟨a1, a2, a3, a4, a5, a6⟩ hns
    obtain ⟨r, t, rfl, hr⟩ := hI.at i v (by simpa using hP)
    have hrm : r ∈ ms.map (·.1) := hperm'.mem_iff.mp (List.mem_of_getElem? hr)
    obtain ⟨n, tn, hv1, hv2, hv3⟩ := hi.look hrm
    have hn1 := hb _ hv3
    obtain ⟨n, rfl⟩ : ∃ n' : Nat, n = n' := ⟨n.toNat, by have := hn1.1; omega⟩
    have F := (⟨hns, a1, Nat.le_refl _⟩ : Fr s.heap s.heap.objs.size h _)
    have N : News s.heap s.heap.objs.size h [] := News.nil
    have hLh : s.heap.objs.size < h.objs.size := hns.lt
    have hmask : maskOf ms r = n := by unfold maskOf; rw [hv2]; rfl
    refine wpAny_execs_cons (For_raw (L := s.heap.objs.size) rfl rfl rfl (fun _ => rfl) ?_)
    iterate 2 walk1
    refine callWith_fn W.bits ?_ rfl
    iterate 4 walk1
    refine id_item (hk.keep a1) hv1 ?_ (by with_unfolding_all rfl)
    walk1
    refine ⟨a1, ?_⟩
    refine bits_spec (W.keeps a1) (R.deeper.less (by omega)) (n := n) (by have := hn1.2; omega) fun D cD h₄ tk₄ vb k4 hD0 hDo hIb => ?_
    have hLD : s.heap.objs.size ≠ D := ns_ne hns hD0
    have hcD' : c ≠ D := by
      obtain ⟨_, _, hid, _⟩ := a2.ex
      obtain ⟨o, ho, _⟩ := hid.there
      intro q; rw [q, hD0] at ho; cases ho
    have hDI : D < h₄.objs.size := Heap.lt_size hDo
    have hLI4 : s.heap.objs.size < h₄.objs.size := (hns.keeps k4).lt
    have hcI4 : c < h₄.objs.size := by
      obtain ⟨_, _, hid, _⟩ := a2.ex
      exact (hid.keep k4).lt
    refine wpAny_pyIter_list (items := vb.toArray) ⟨_, hDo, rfl, _, rfl⟩ ?_
    have up : ∀ b o, h.get? b = some o → (h₄.push { cls := .type "list_iterator", data := .fields #[.ref D, .int 0 0] }).get? b = some o := fun b o e => Heap.get?_push_of_some _ (k4 b o e)
    refine ⟨h₄.objs.size, [h₄.objs.size, D], vb.toArray.size, _, _, rfl, Walks.list rfl h₄.objs.size D (Nat.ne_of_lt hDI) vb.toArray, ⟨⟨_, Heap.get?_push_size _ rfl, rfl, rfl⟩, Heap.IsList.push ⟨_, hDo, rfl, _, rfl⟩ _⟩, ?_,
      fun j m h' => InnerJ w s c dm dk h₃.objs.size B D h₄.objs.size h r t (10 * i + j) (stepRule (claimsOf ms (ns.take i)) r ((bitsGo 10 0 n).take j)) m h', _, hns.keeps up, ?_, ?_, ?_, ?_⟩
    · intro hmem
      rcases List.mem_cons.mp hmem with e | hmem
      · exact absurd hLI4 (e ▸ Nat.lt_irrefl _)
      · exact hLD (List.mem_singleton.mp hmem)
    · refine ⟨fun b o e => up b o (a1 b o e), a2.at (fun b o _ e => up b o e) (fun a its n' ha e => ?_), a3, by walk_at "mlook", by walk_at "mlook", by walk_at "mlook", by walk_at "mlook", fun b o _ e => up b o e⟩
      rintro (q | q | q)
      · exact ha q
      · rw [q, hD0] at e; cases e
      · exact absurd (Heap.lt_size (k4 _ _ e)) (by rw [q]; exact Nat.lt_irrefl _)
    · rintro j m' h' h'' ⟨b1, b2, b3, b4, b5, b6, b7, b8⟩ hkk
      refine ⟨fun b o e => hkk b o ?_ ?_ (b1 b o e), b2.at (fun b o hb e => hkk b o ?_ ?_ e) fun a _ _ ha _ => ha, b3, b4, b5, b6, b7, fun b o hb e => hkk b o ?_ ?_ (b8 b o hb e)⟩
      · exact Nat.ne_of_lt (Nat.lt_trans (Heap.lt_size e) hLI4)
      · exact Nat.ne_of_lt (Heap.lt_size e)
      · rcases hb with rfl | hb
        · exact Nat.ne_of_lt hcI4
        · exact fun e => hb (.inr (.inr e))
      · rcases hb with rfl | hb
        · exact Nat.ne_of_gt hcL
        · exact fun e => hb (.inl (e ▸ Nat.le_of_lt hLI))
      · exact Nat.ne_of_lt (Heap.lt_size (k4 _ _ e))
      · rcases List.mem_cons.mp hb with rfl | hb
        · exact Nat.ne_of_gt hLI
        · rw [List.mem_singleton.mp hb]; exact Ne.symm hLB
    · rintro j v m' h' tk'' hlt' hP' hSt' ⟨b1, b2, b3, b4, b5, b6, b7, b8⟩ hns'
      obtain ⟨tm, ut, rfl, htm⟩ := hIb.at j v (by simpa using hP')
      have F := (⟨hns', b1, Nat.le_refl _⟩ : Fr s.heap s.heap.objs.size h' _)
      obtain ⟨Rl, NR, hR⟩ := all_news s.heap h' s.heap.objs.size
      obtain ⟨kvs, as, c1, c2, c3, c4⟩ := b2.ex
      iterate 5 walk1
      refine id_method PySem.F.slot_dict_setdefault PySem.F.type_dict_setdefault c1 ?_
      iterate 8 walk1
      rename Fr _ _ _ _ => F5
      rename News _ _ _ _ => N5
      have kk := all_kept F5 N5 hR (fun p hp => .tail _ hp) b1
      have hlnew := (N5 _ (.head _)).1
      have hi10 : 10 * i + j ≤ 1000 := by
        have h1 : i < vs.length := by simpa using hlt
        have h2 : j < vb.length := by simpa using hlt'
        have h3 := hIb.length
        have h4 := bitsGo_len 10 0 n
        have h5 := hperm'.length_eq
        rw [List.length_map] at h5
        omega
      have hcl10 := b3.len
      obtain ⟨⟨oI, hoI, _⟩, _⟩ := hSt
      obtain ⟨⟨oI', hoI', _⟩, ⟨oD, hoD, _⟩⟩ := hSt'
      have hI1 : h₃.objs.size < h'.objs.size := Heap.lt_size (b8 _ _ (.head _) hoI)
      have hI2 : h₄.objs.size < h'.objs.size := Heap.lt_size hoI'
      have hD2 : D < h'.objs.size := Heap.lt_size hoD
      refine claims_setdefault (av := fun a => a ≤ h₃.objs.size ∨ a = D ∨ a = h₄.objs.size) (c1.at (kk c · (Nat.ne_of_gt hcL))) (c2.at fun a ha o e => kk a o (fun q => c4 a ha (.inl (by rw [q]; exact Nat.le_of_lt hLI))) e) c3 (fun a ha => ⟨c4 a ha, fun e => c4 a ha (by rw [e]; exact .inl (Nat.le_of_lt hcI))⟩) hlnew ⟨?_, Nat.ne_of_gt c1.lt⟩ (fun q => absurd (c2.lt _ q) (Nat.lt_irrefl _)) (by omega) (fun a h₆ clX kvs' as' vs' cx d1 d2 d3 d4 d5 d6 d7 d8 d9 d10 => ?_) (fun p hp => Nat.le_trans (b3.2 p hp) hi10)
      · rintro (q | q | q)
        · exact absurd (Nat.lt_of_lt_of_le hI1 q) (Nat.lt_irrefl _)
        · exact absurd hD2 (by rw [← q]; exact Nat.lt_irrefl _)
        · exact absurd hI2 (by rw [← q]; exact Nat.lt_irrefl _)
      have hc0 : s.heap.get? c = none := none_at_big (Nat.le_of_lt hcL)
      have F6 := fr_upd F5 hc0 (Nat.ne_of_lt hcL) d10
      refine lst_method PySem.F.slot_list_append PySem.F.type_list_append d7 ?_
      iterate 4 walk1
      refine append_at (hsz := by rw [List.size_toArray, sizeLine_eq]; omega) d7 fun h₇ hs7 ho7 => ?_
      walk1
      have k7 := keeps_of_same hs7
      have haL : ∀ b ∈ as', b ≠ s.heap.objs.size := fun b hb q => (d4 b hb).1 (.inl (by rw [q]; exact Nat.le_of_lt hLI))
      have e1 : stepRule (claimsOf ms (ns.take i)) r ((bitsGo 10 0 n).take (j + 1)) = addClaim (stepRule (claimsOf ms (ns.take i)) r ((bitsGo 10 0 n).take j)) tm r := by
        unfold stepRule; rw [take_snoc htm, List.foldl_append]; rfl
      have KK : ∀ b o, b ≠ s.heap.objs.size → b ≠ c → b ∉ as' → h'.get? b = some o → h₇.get? b = some o := fun b o q1 q2 q3 e => k7 b o (fun q => q3 (q ▸ d6)) (d10 b o q2 (kk b o q1 e))
      refine ⟨h₇, _, _, rfl, F6.ns.at' (fun o e => k7 _ o (fun q => haL a d6 q.symm) e), fun b o hb e => ?_, fun b o e => ?_, ⟨kvs', as', d1.at (fun o e => k7 _ o (fun q => (d4 a d6).2 q.symm) e), ?_, d3, fun a ha => (d4 a ha).1⟩, ?_, by walk_at "mlook", by walk_at "mlook", by walk_at "mlook", by walk_at "mlook", fun b o hb e => ?_⟩
      · rcases List.mem_cons.mp hb with rfl | hb
        · exact KK _ _ (Nat.ne_of_gt hLI4) (Nat.ne_of_gt hcI4) (fun q => (d4 _ q).1 (.inr (.inr rfl))) e
        · obtain rfl := List.mem_singleton.mp hb
          exact KK _ _ (Ne.symm hLD) (Ne.symm hcD') (fun q => (d4 _ q).1 (.inr (.inl rfl))) e
      · refine k7 b o (fun q => (d4 a d6).1 (.inl ?_)) (F6.keep b o e)
        rw [← q]; exact Nat.le_of_lt (Nat.lt_trans (Heap.lt_size e) hLI)
      · rw [e1, ← d9 r]; exact d2.grow d3 d5 d7 ho7 k7
      · rw [e1]
        have hin := bitsGo_in 10 0 n tm (List.mem_of_getElem? htm)
        exact b3.add (by omega) (by omega) r
      · have e' := b8 b o hb e
        rcases List.mem_cons.mp hb with rfl | hb
        · exact KK _ _ (Nat.ne_of_gt hLI) (Nat.ne_of_gt hcI) (fun q => (d4 _ q).1 (.inl (Nat.le_refl _))) e'
        · obtain rfl := List.mem_singleton.mp hb
          exact KK _ _ (Ne.symm hLB) (Ne.symm hcB) (fun q => (d4 _ q).1 (.inl (Nat.le_of_lt hBI))) e'
    · rintro m' h' tk'' ⟨b1, b2, b3, b4, b5, b6, b7, b8⟩ hns'
      walk1
      have hall : (bitsGo 10 0 n).take vb.toArray.size = bitsGo 10 0 n := List.take_of_length_le (by rw [List.size_toArray, hIb.length]; exact Nat.le_refl _)
      rw [hall] at b2 b3
      have e1 : claimsOf ms (ns.take (i + 1)) = stepRule (claimsOf ms (ns.take i)) r (bitsGo 10 0 n) := by rw [take_snoc hr, claimsOf_snoc, hmask]
      refine ⟨h', _, _, rfl, hns', b8, b1, ?_, ?_, b4, b5, b6⟩
      · rw [e1]; exact b2.at (fun _ _ _ e => e) fun a _ _ ha _ q => ha (.inl q)
      · rw [e1]
        refine b3.mono ?_
        have h3 := hIb.length
        have h4 := bitsGo_len 10 0 n
        rw [List.size_toArray]; omega
  · rintro m h tk' ⟨a1, a2, a3, a4, a5, a6⟩ hns
    walk1
    have hall : ns.take vs.toArray.size = ns := List.take_of_length_le (by rw [List.size_toArray, hlens]; exact Nat.le_refl _)
    rw [hall] at a2 a3
    have F := (⟨hns, a1, Nat.le_refl _⟩ : Fr s.heap s.heap.objs.size h _)
    obtain ⟨Rl, NR, hR⟩ := all_news s.heap h s.heap.objs.size
    have hLh : s.heap.objs.size < h.objs.size := hns.lt
    refine wpAny_Assign_Name (wpAny_Dict_empty ?_)
    refine stN (F.push _) (News.push F NR _) (fun h₅ F5 N5 => ?_) rfl rfl
    have kk := all_kept F5 N5 hR (fun p hp => .tail _ hp) a1
    have hfd : ID w h₅ h.objs.size [] := ID.of_empty (N5 _ (.head _)).1 (Nat.lt_trans (Nat.lt_trans (by decide) hbig) hLh)
    generalize hfdd : h.objs.size = fd at *
    obtain ⟨kvs, as, c1, c2, c3, c4⟩ := a2.ex
    have hlen2 : kvs.length ≤ 10 := by rw [c2.len]; exact a3.len
    have c1' := c1.at (kk c · (Nat.ne_of_gt hcL))
    have c2' := c2.at fun a ha o e => kk a o (fun q => c4 a ha (by rw [q]; exact Nat.le_of_lt hLI)) e
    have asL : ∀ a ∈ as, a < fd := fun a ha => by rw [← hfdd]; exact c2.lt a ha
    have cfd : c < fd := by rw [← hfdd]; exact c1.lt
    refine wpAny_execs_cons (For_raw (L := s.heap.objs.size) rfl rfl rfl (fun _ => rfl) ?_)
    iterate 6 walk1
    refine id_sorted rfl c1' (by omega) fun B2 cB h₆ tk₆ vt ts hk6 hB2 hB2o hIt hpermt hsortt => ?_
    have F6 := F5.keeps hk6
    have hB2L : s.heap.objs.size ≠ B2 := ns_ne F5.ns hB2
    have hB2I : B2 < h₆.objs.size := Heap.lt_size hB2o
    have hLI6 : s.heap.objs.size < h₆.objs.size := F6.ns.lt
    have hpermt' : ts.Perm ((claimsOf ms ns).map (·.1)) := c2.keys ▸ hpermt
    have hnodupt : ts.Nodup := hpermt'.nodup_iff.mpr a3.1.1
    have hfd6 := hfd.keep hk6
    have hfdI : fd < h₆.objs.size := hfd6.lt
    have hfdB : fd ≠ B2 := by
      obtain ⟨o, ho, _⟩ := hfd.there
      intro q; rw [q, hB2] at ho; cases ho
    refine wpAny_pyIter_list (items := vt.toArray) ⟨_, hB2o, rfl, _, rfl⟩ ?_
    refine ⟨h₆.objs.size, [h₆.objs.size, B2], vt.toArray.size, _, _, rfl, Walks.list rfl h₆.objs.size B2 (Nat.ne_of_lt hB2I) vt.toArray, ⟨⟨_, Heap.get?_push_size _ rfl, rfl, rfl⟩, Heap.IsList.push ⟨_, hB2o, rfl, _, rfl⟩ _⟩, ?_,
      fun i m h => (∀ b o, s.heap.get? b = some o → h.get? b = some o) ∧ ID w h c kvs ∧ CLs h (claimsOf ms ns) kvs as ∧ m "claims" = some (.ref c) ∧ m "moves" = some (.ref dm) ∧ m "found" = some (.ref fd) ∧
        ∃ kvf, ID w h fd kvf ∧ TVals h h₆.objs.size kvf (foundOf (fun t => (valueAt kvm t).isSome) (claimsOf ms ns) (ts.take i)), _, (F6.push _).ns, ?_, ?_, ?_, ?_⟩
    · intro hmem
      rcases List.mem_cons.mp hmem with e | hmem
      · exact absurd hLI6 (e ▸ Nat.lt_irrefl _)
      · exact hB2L (List.mem_singleton.mp hmem)
    · exact ⟨(F6.push _).keep, (c1'.keep hk6).keep fun b o e => Heap.get?_push_of_some _ e, (c2'.at fun a _ o e => Heap.get?_push_of_some _ (hk6 a o e)), by walk_at "mlook", by walk_at "mlook", by walk_at "mlook", [], hfd6.keep (fun b o e => Heap.get?_push_of_some _ e), .nil⟩
    · rintro i m h h' ⟨b1, b2, b3, b4, b5, b6, kvf, b7, b8⟩ hkk
      refine ⟨fun b o e => hkk b o ?_ ?_ (b1 b o e), b2.at fun o e => hkk _ o ?_ ?_ e, b3.at fun a ha o e => hkk a o ?_ ?_ e, b4, b5, b6, kvf, b7.at fun o e => hkk _ o ?_ ?_ e, b8.at fun a o ha _ e => hkk a o ?_ ?_ e⟩
      · exact Nat.ne_of_lt (Nat.lt_trans (Heap.lt_size e) hLI6)
      · exact Nat.ne_of_lt (Heap.lt_size e)
      · exact Nat.ne_of_lt (Nat.lt_trans cfd hfdI)
      · exact Nat.ne_of_gt hcL
      · exact Nat.ne_of_lt (Nat.lt_trans (asL a ha) hfdI)
      · exact fun q => c4 a ha (by rw [q]; exact Nat.le_of_lt hLI)
      · exact Nat.ne_of_lt hfdI
      · exact Nat.ne_of_gt hLh
      · exact Nat.ne_of_gt ha
      · exact Nat.ne_of_gt (Nat.lt_trans hLI6 ha)
    · rintro i v m h tk' hlt hP hSt ⟨b1, b2, b3, b4, b5, b6, kvf, b7, b8⟩ hns
      obtain ⟨tm, ut, rfl, htm⟩ := hIt.at i v (by simpa using hP)
      have F := (⟨hns, b1, Nat.le_refl _⟩ : Fr s.heap s.heap.objs.size h _)
      obtain ⟨Rl, NR, hR⟩ := all_news s.heap h s.heap.objs.size
      have htk : tm ∈ (claimsOf ms ns).map (·.1) := hpermt'.mem_iff.mp (List.mem_of_getElem? htm)
      obtain ⟨a, vr, cr, e1, ha, ho, hir⟩ := b3.look htk
      iterate 5 walk1
      refine id_item b2 e1 ?_ (by with_unfolding_all rfl)
      walk1
      rename Fr _ _ _ _ => F7
      rename Heap => h7
      rename News _ _ _ _ => N7
      have kk := all_kept F7 N7 hR (fun p hp => hp) b1
      have hoa := kk a _ (fun q => c4 a ha (by rw [q]; exact Nat.le_of_lt hLI)) ho
      have hlr : vr.length = (lookL (claimsOf ms ns) tm).length := hir.length
      have hlr2 : vr.length ≤ 1000 := by
        have h1 := a3.2 _ (lookL_mem htk)
        have h5 := hperm'.length_eq
        rw [List.length_map] at h5
        rw [hlr]; rw [List.size_toArray] at h1; dsimp only at h1; omega
      iterate 2 walk1
      refine wpAny_mono (Q := fun b s₂ => b = decide (1 < (lookL (claimsOf ms ns) tm).length ∨ (valueAt kvm tm).isSome = true) ∧ ∃ tk, s₂ = { s with heap := h7, toks := tk }) ?_ ?_ (fun _ _ e => e)
      · iterate 8 walk1
        refine len_list ⟨_, hoa, rfl, _, rfl⟩ (by rw [List.size_toArray]; omega) ?_
        iterate 4 walk1
        · rename_i hlong
          refine ⟨?_, _, rfl⟩
          rw [List.size_toArray, hlr] at hlong
          exact (decide_eq_true (Or.inl (by omega))).symm
        · rename_i hlong
          rw [List.size_toArray, hlr] at hlong
          iterate 4 walk1
          refine id_in (hm.keep F7.keep) ?_
          iterate 2 walk1
          · rename_i hin
            exact ⟨(decide_eq_true (Or.inr hin)).symm, _, rfl⟩
          · rename_i hin
            walk1
            refine ⟨(decide_eq_false ?_).symm, _, rfl⟩
            rintro (q | q)
            · exact hlong (by omega)
            · rw [hin] at q; cases q
      · rintro b s₂ ⟨rfl, tk9, rfl⟩
        by_cases hP : 1 < (lookL (claimsOf ms ns) tm).length ∨ (valueAt kvm tm).isSome = true
        · rw [decide_eq_true hP, if_pos rfl]
          iterate 8 walk1
          refine call_tuple_list (items := vr.toArray) ⟨_, hoa, rfl, _, rfl⟩ (fun h8 k8 => ?_) (by rw [List.size_toArray, sizeLine_eq]; omega)
          have F8 := (F7.keeps k8).push { cls := .type "tuple", data := .seq vr.toArray }
          iterate 2 walk1
          have KK8 : ∀ b o, b ≠ s.heap.objs.size → h.get? b = some o → (h8.push { cls := .type "tuple", data := .seq vr.toArray }).get? b = some o := fun b o q e => Heap.get?_push_of_some _ (k8 b o (kk b o q e))
          have hkeysf := b8.keys
          have hlenf : kvf.length ≤ 1000 := by
            have h1 := congrArg List.length hkeysf
            have h2 := foundOf_len (fun t => (valueAt kvm t).isSome) (claimsOf ms ns) (ts.take i)
            have h3 : (ts.take i).length ≤ ts.length := by rw [List.length_take]; omega
            have h4 := hpermt.length_eq
            rw [List.length_map, List.length_map] at h1
            rw [List.length_map] at h4
            omega
          have hmissf : valueAt kvf tm = none := valueAt_absent (by rw [hkeysf]; exact fun q => nodup_take hnodupt htm (foundOf_keys _ _ _ _ q))
          refine id_setItem (b7.at (KK8 fd · (Nat.ne_of_gt hLh))) hlenf fun h9 d9 k9 => ?_
          rw [stored_miss hmissf] at d9
          iterate 2 walk1
          have hI8 : h₆.objs.size < h8.objs.size := Heap.lt_size (k8 _ _ (kk _ _ (Nat.ne_of_gt hLI6) hSt.1.choose_spec.1))
          have KK : ∀ b o, b ≠ s.heap.objs.size → b ≠ fd → h.get? b = some o → h9.get? b = some o := fun b o q1 q2 e => k9 b o q2 (KK8 b o q1 e)
          have e9 : foundOf (fun t => (valueAt kvm t).isSome) (claimsOf ms ns) (ts.take (i + 1)) = foundOf (fun t => (valueAt kvm t).isSome) (claimsOf ms ns) (ts.take i) ++ [(tm, lookL (claimsOf ms ns) tm)] := by
            rw [take_snoc htm, foundOf_snoc, if_pos hP]
          refine ⟨h9, _, _, rfl, F8.ns.at' (fun o e => k9 _ o (Nat.ne_of_lt hLh) e), fun b o hb e => ?_, fun b o e => k9 b o (Nat.ne_of_lt (Nat.lt_trans (Heap.lt_size e) hLh)) (F8.keep b o e), b2.at (KK c · (Nat.ne_of_gt hcL) (Nat.ne_of_lt cfd)), b3.at fun a ha o e => KK a o (fun q => c4 a ha (by rw [q]; exact Nat.le_of_lt hLI)) (Nat.ne_of_lt (asL a ha)) e, by walk_at "mlook", by walk_at "mlook", by walk_at "mlook", _, d9, ?_⟩
          · rcases List.mem_cons.mp hb with rfl | hb
            · exact KK _ _ (Nat.ne_of_gt hLI6) (Nat.ne_of_gt hfdI) e
            · obtain rfl := List.mem_singleton.mp hb
              exact KK _ _ (Ne.symm hB2L) (Ne.symm hfdB) e
          · rw [e9]
            refine (b8.at fun a o ha _ e => KK a o (Nat.ne_of_gt (Nat.lt_trans hLI6 ha)) (Nat.ne_of_gt (Nat.lt_trans hfdI ha)) e).snoc hI8 (k9 _ _ (Nat.ne_of_gt (Nat.lt_trans hfdI hI8)) (Heap.get?_push_size _ rfl)) hir
        · rw [decide_eq_false hP, if_neg (by decide)]
          iterate 2 walk1
          have e9 : foundOf (fun t => (valueAt kvm t).isSome) (claimsOf ms ns) (ts.take (i + 1)) = foundOf (fun t => (valueAt kvm t).isSome) (claimsOf ms ns) (ts.take i) := by
            rw [take_snoc htm, foundOf_snoc, if_neg hP, List.append_nil]
          refine ⟨h7, _, _, rfl, F7.ns, fun b o hb e => kk b o ?_ e, F7.keep, b2.at (kk c · (Nat.ne_of_gt hcL)), b3.at fun a ha o e => kk a o (fun q => c4 a ha (by rw [q]; exact Nat.le_of_lt hLI)) e, by walk_at "mlook", by walk_at "mlook", by walk_at "mlook", kvf, b7.at (kk fd · (Nat.ne_of_gt hLh)), ?_⟩
          · rcases List.mem_cons.mp hb with rfl | hb
            · exact Nat.ne_of_gt hLI6
            · rw [List.mem_singleton.mp hb]; exact Ne.symm hB2L
          · rw [e9]
            exact b8.at fun a o ha _ e => kk a o (Nat.ne_of_gt (Nat.lt_trans hLI6 ha)) e
    · rintro m h tk' ⟨b1, b2, b3, b4, b5, b6, kvf, b7, b8⟩ hns
      have F := (⟨hns, b1, Nat.le_refl _⟩ : Fr s.heap s.heap.objs.size h _)
      have hall2 : ts.take vt.toArray.size = ts := List.take_of_length_le (by rw [List.size_toArray, hIt.length]; exact Nat.le_refl _)
      rw [hall2] at b8
      iterate 3 walk1
      exact hQ fd h _ kvf ns ts b1 (none_at_big (Nat.le_of_lt hLh)) b7 (b8.low (Nat.le_of_lt hLI6)) hperm' hsort hpermt' hsortt
end

end Mine
end

section
open PySem PySem.W PyProof.Rows PySem.Calls
namespace Mine
theorem ReadsAll_ints {h : Heap} {vs : List Value} {ns : List Int} (x : IntsAre vs ns) : ReadsAll h vs (ns.map .int) [] := by
  induction x with
  | nil => exact .nil
  | cons _ _ _ ih => exact ReadsAll.cons (as := []) (.int _ _) ih
theorem ReadsAll_len {h : Heap} : ∀ {vs : List Value} {ds : List PyData} {as : List Addr}, ReadsAll h vs ds as → vs.length = ds.length
  | _, _, _, .nil => rfl
  | _, _, _, .cons _ b => by simp [ReadsAll_len b]

/-- a sorted list without repetition is told by what it holds -/
theorem sorted_eq : ∀ {l l' : List Int}, l.Perm l' → l.Pairwise (· ≤ ·) → l'.Pairwise (· ≤ ·) → l = l'
  | [], l', p, _, _ => (List.Perm.nil_eq p).symm ▸ rfl
  | x :: l, [], p, _, _ => absurd p.length_eq (by simp)
  | x :: l, y :: l', p, h, h' => by
    have h1 := List.pairwise_cons.mp h
    have h2 := List.pairwise_cons.mp h'
    have e : x = y := by
      have a1 : x ∈ y :: l' := p.mem_iff.mp (.head _)
      have a2 : y ∈ x :: l := p.mem_iff.mpr (.head _)
      rcases List.mem_cons.mp a1 with q | q
      · exact q
      · rcases List.mem_cons.mp a2 with q' | q'
        · exact q'.symm
        · exact Int.le_antisymm (h1.1 y q') (h2.1 x q)
    subst e
    rw [sorted_eq (List.Perm.cons_inv p) h1.2 h2.2]
def srt (l : List Int) : List Int := l.mergeSort (fun a b => decide (a ≤ b))
theorem srt_perm (l : List Int) : (srt l).Perm l := List.mergeSort_perm _ _
theorem srt_sorted (l : List Int) : (srt l).Pairwise (· ≤ ·) := by
  have := List.pairwise_mergeSort (le := fun (a b : Int) => decide (a ≤ b)) (by intro a b c h1 h2; simp at *; omega) (by intro a b; simp; omega) l
  exact this.imp fun h => by simpa using h
theorem eq_srt {l ns : List Int} (p : ns.Perm l) (h : ns.Pairwise (· ≤ ·)) : ns = srt l := sorted_eq (p.trans (srt_perm l).symm) h (srt_sorted l)

def dPair (p : Int × List Int) : PyData := .tuple [.int p.1, .tuple (p.2.map .int)]

-- data of ints and tuples, all tuples at addresses of a kind
mutual
inductive RL (h : Heap) (P : Addr → Prop) : Value → PyData → Prop
  | int (i t) : RL h P (.int i t) (.int i)
  | tuple {a : Addr} {vs : List Value} {n : Nat} {xs : List PyData} : P a → h.get? a = some { cls := .type "tuple", data := .seq vs.toArray n } → RLs h P vs xs → RL h P (.ref a) (.tuple xs)
inductive RLs (h : Heap) (P : Addr → Prop) : List Value → List PyData → Prop
  | nil : RLs h P [] []
  | cons {v : Value} {vs : List Value} {d : PyData} {ds : List PyData} : RL h P v d → RLs h P vs ds → RLs h P (v :: vs) (d :: ds)
end
mutual
theorem RL_at {h h' : Heap} {P P' : Addr → Prop} : ∀ {v : Value} {d : PyData}, (∀ a o, P a → o.cls = .type "tuple" → h.get? a = some o → h'.get? a = some o) → (∀ a o, P a → o.cls = .type "tuple" → h.get? a = some o → P' a) → RL h P v d → RL h' P' v d
  | _, _, _, _, .int i t => .int i t
  | _, _, k, l, .tuple h1 h2 h3 => .tuple (l _ _ h1 rfl h2) (k _ _ h1 rfl h2) (RLs_at k l h3)
theorem RLs_at {h h' : Heap} {P P' : Addr → Prop} : ∀ {v : List Value} {d : List PyData}, (∀ a o, P a → o.cls = .type "tuple" → h.get? a = some o → h'.get? a = some o) → (∀ a o, P a → o.cls = .type "tuple" → h.get? a = some o → P' a) → RLs h P v d → RLs h' P' v d
  | _, _, _, _, .nil => .nil
  | _, _, k, l, .cons a b => .cons (RL_at k l a) (RLs_at k l b)
end
mutual
theorem RL_reads {h : Heap} {P : Addr → Prop} : ∀ {v : Value} {d : PyData}, RL h P v d → Reads h v d []
  | _, _, .int i t => .int i t
  | _, _, .tuple _ h2 h3 => .tuple h2 rfl rfl (RLs_reads h3)
theorem RLs_reads {h : Heap} {P : Addr → Prop} : ∀ {v : List Value} {d : List PyData}, RLs h P v d → ReadsAll h v d []
  | _, _, .nil => .nil
  | _, _, .cons a b => ReadsAll.cons (as := []) (RL_reads a) (RLs_reads b)
end
theorem RLs_snoc {h : Heap} {P : Addr → Prop} : ∀ {vs : List Value} {ds : List PyData} {v : Value} {d : PyData}, RLs h P vs ds → RL h P v d → RLs h P (vs ++ [v]) (ds ++ [d])
  | _, _, _, _, .nil, y => .cons y .nil
  | _, _, _, _, .cons a b, y => .cons a (RLs_snoc b y)
theorem RLs_len {h : Heap} {P : Addr → Prop} : ∀ {vs : List Value} {ds : List PyData}, RLs h P vs ds → vs.length = ds.length
  | _, _, .nil => rfl
  | _, _, .cons _ b => by simp [RLs_len b]
theorem RLs_ints {h : Heap} {P : Addr → Prop} {vs : List Value} {ns : List Int} (x : IntsAre vs ns) : RLs h P vs (ns.map .int) := by
  induction x with
  | nil => exact .nil
  | cons _ _ _ ih => exact .cons (.int _ _) ih

end Mine
end

section
open PySem PySem.W PyProof.Rows PySem.Calls PySem.Spec PySem.SeqAt
namespace Mine
/-- ints, and tuples and lists of such, to a depth -/
def PL : Nat → PyData → Prop
  | 0, d => ∃ i, d = .int i
  | k + 1, d => (∃ i, d = .int i) ∨ (∃ xs, d = .tuple xs ∧ ∀ x ∈ xs, PL k x) ∨ (∃ xs, d = .list xs ∧ ∀ x ∈ xs, PL k x)

theorem PL_lays {k : Nat} (ih : ∀ d, PL k d → d.canLay0 = true ∧ d.depth ≤ k) : ∀ xs : List PyData, (∀ x ∈ xs, PL k x) → PyData.canLayAll0 xs = true ∧ PyData.depthAll xs ≤ k
  | [], _ => ⟨rfl, Nat.zero_le _⟩
  | x :: xs, h => by
    have h1 := ih x (h x (.head _))
    have h2 := PL_lays ih xs fun y hy => h y (.tail _ hy)
    refine ⟨?_, ?_⟩
    · rw [PyData.canLayAll0, h1.1, h2.1]; rfl
    · rw [PyData.depthAll]; exact Nat.max_le.mpr ⟨h1.2, h2.2⟩
theorem PL_lay : ∀ (k : Nat) (d : PyData), PL k d → d.canLay0 = true ∧ d.depth ≤ k
  | 0, _, ⟨i, rfl⟩ => ⟨rfl, Nat.le_refl _⟩
  | k + 1, _, .inl ⟨i, rfl⟩ => ⟨rfl, Nat.zero_le _⟩
  | k + 1, _, .inr (.inl ⟨xs, rfl, h⟩) => by
    have := PL_lays (PL_lay k) xs h
    exact ⟨by rw [PyData.canLay0]; exact this.1, by rw [PyData.depth]; omega⟩
  | k + 1, _, .inr (.inr ⟨xs, rfl, h⟩) => by
    have := PL_lays (PL_lay k) xs h
    exact ⟨by rw [PyData.canLay0]; exact this.1, by rw [PyData.depth]; omega⟩
theorem PL_eqs {k : Nat} (ih : ∀ j d d', PL k d → PL j d' → (PyData.eqv d d' = true ↔ d = d')) : ∀ (j : Nat) (xs ys : List PyData), (∀ x ∈ xs, PL k x) → (∀ y ∈ ys, PL j y) → (PyData.eqvAll xs ys = true ↔ xs = ys)
  | _, [], [], _, _ => by simp [PyData.eqvAll]
  | _, [], _ :: _, _, _ => by simp [PyData.eqvAll]
  | _, _ :: _, [], _, _ => by simp [PyData.eqvAll]
  | j, x :: xs, y :: ys, h, h' => by
    have h1 := ih j x y (h x (.head _)) (h' y (.head _))
    have h2 := PL_eqs ih j xs ys (fun z hz => h z (.tail _ hz)) fun z hz => h' z (.tail _ hz)
    rw [PyData.eqvAll, Bool.and_eq_true, h1, h2, List.cons.injEq]
theorem PL_eq : ∀ (k j : Nat) (d d' : PyData), PL k d → PL j d' → (PyData.eqv d d' = true ↔ d = d') := by
  intro k
  induction k with
  | zero =>
    rintro j _ d' ⟨i, rfl⟩ h
    cases j with
    | zero => obtain ⟨i', rfl⟩ := h; simp [PyData.eqv]
    | succ j => rcases h with ⟨i', rfl⟩ | ⟨ys, rfl, _⟩ | ⟨ys, rfl, _⟩ <;> simp [PyData.eqv]
  | succ k ih =>
    rintro j d d' h h'
    rcases h with ⟨i, rfl⟩ | ⟨xs, rfl, h⟩ | ⟨xs, rfl, h⟩
    · cases j with
      | zero => obtain ⟨i', rfl⟩ := h'; simp [PyData.eqv]
      | succ j => rcases h' with ⟨i', rfl⟩ | ⟨ys, rfl, _⟩ | ⟨ys, rfl, _⟩ <;> simp [PyData.eqv]
    · cases j with
      | zero => obtain ⟨i', rfl⟩ := h'; simp [PyData.eqv]
      | succ j =>
        rcases h' with ⟨i', rfl⟩ | ⟨ys, rfl, h'⟩ | ⟨ys, rfl, _⟩
        · simp [PyData.eqv]
        · rw [PyData.eqv, PL_eqs ih j xs ys h h', PyData.tuple.injEq]
        · simp [PyData.eqv]
    · cases j with
      | zero => obtain ⟨i', rfl⟩ := h'; simp [PyData.eqv]
      | succ j =>
        rcases h' with ⟨i', rfl⟩ | ⟨ys, rfl, _⟩ | ⟨ys, rfl, h'⟩
        · simp [PyData.eqv]
        · simp [PyData.eqv]
        · rw [PyData.eqv, PL_eqs ih j xs ys h h', PyData.list.injEq]
theorem PL_shaped {k : Nat} {d : PyData} (h : PL k d) (hk : k ≤ 64) : shaped d = true := by
  have := PL_lay k d h
  unfold shaped
  rw [this.1, decide_eq_true (Nat.le_trans this.2 hk)]; rfl

section
variable {w : World} {A : Around} {E : Value → Shared → Prop} {s : Shared} {a b : Value} {da db : PyData} {as bs : List Addr} {k j : Nat} {Q : Value → Shared → Prop}
open Classical in
theorem cmp_ne (ra : Reads s.heap a da as) (rb : Reads s.heap b db bs) (ha : PL k da) (hb : PL j db) (hk : k ≤ 64) (hj : j ≤ 64) (hu : A.units + 64 < cLine) (h1 : da = db → Q (.bool false) s) (h2 : da ≠ db → Q (.bool true) s) :
    wpAny (model PP w) A (compareOp .NotEq a b) Q E s := by
  refine ne_dataH ra rb (PL_shaped ha hk) (PL_shaped hb hj) hu ?_
  by_cases e : da = db
  · rw [(PL_eq k j da db ha hb).mpr e]; exact h1 e
  · rw [show PyData.eqv da db = false from by cases q : PyData.eqv da db with | false => rfl | true => exact absurd ((PL_eq k j da db ha hb).mp q) e]; exact h2 e
open Classical in
theorem cmp_eq (ra : Reads s.heap a da as) (rb : Reads s.heap b db bs) (ha : PL k da) (hb : PL j db) (hk : k ≤ 64) (hj : j ≤ 64) (hu : A.units + 64 < cLine) (h1 : da = db → Q (.bool true) s) (h2 : da ≠ db → Q (.bool false) s) :
    wpAny (model PP w) A (compareOp .Eq a b) Q E s := by
  refine eq_dataH ra rb (PL_shaped ha hk) (PL_shaped hb hj) hu ?_
  by_cases e : da = db
  · rw [(PL_eq k j da db ha hb).mpr e]; exact h1 e
  · rw [show PyData.eqv da db = false from by cases q : PyData.eqv da db with | false => rfl | true => exact absurd ((PL_eq k j da db ha hb).mp q) e]; exact h2 e
end
theorem PL_ints (ns : List Int) : ∀ x ∈ ns.map PyData.int, PL 0 x := by
  intro x hx
  obtain ⟨n, _, rfl⟩ := List.mem_map.mp hx
  exact ⟨n, rfl⟩
theorem PL_pair (p : Int × List Int) : PL 2 (dPair p) := .inr (.inl ⟨_, rfl, fun x hx => by
  rcases List.mem_cons.mp hx with rfl | hx
  · exact .inl ⟨_, rfl⟩
  · rw [List.mem_singleton.mp hx]; exact .inr (.inl ⟨_, rfl, PL_ints _⟩)⟩)

end Mine
end

section
open PySem PySem.W PyProof.Rows PySem.Calls
namespace Mine
local macro_rules | `(tactic| walk_at "idle") => `(tactic| fail "idle")
local macro_rules | `(tactic| walk_at "mlook") => `(tactic| first | assumption | exact if_pos rfl | (refine Eq.trans (if_neg (by decide)) ?_; walk_at "mlook") | rfl)
local macro_rules | `(tactic| walk_at "memb") => `(tactic| first | exact List.Mem.head _ | (refine List.Mem.tail _ ?_; walk_at "memb"))
local macro_rules | `(tactic| walk_at "eval Name") => `(tactic| with_unfolding_all (first | refine ev_builtE (by assumption) (by assumption) (by walk_at "memb") ?_ rfl rfl rfl rfl (by decide) | refine ev_globE (by assumption) (by assumption) (by walk_at "memb") ?_ rfl rfl rfl (by decide) | refine ev_cell rfl (by assumption) ?_ rfl rfl (by decide)))
local macro_rules | `(tactic| walk_at "eval Name") => `(tactic| refine ev_loc (by assumption) (by first | rfl | walk_at "mlook") ?_ rfl rfl (by decide))

def someOf (ch : List (Int × List Int)) (ns : List Int) (t : Int) : List Int := ns.filter fun r => decide (t ∈ lookL ch r)
def dueStep (mv : Int → Bool) (ch : List (Int × List Int)) (ns : List Int) (t : Int) : List (Int × List Int) :=
  if 1 < (someOf ch ns t).length ∨ (someOf ch ns t ≠ [] ∧ mv t = true) then [(t, someOf ch ns t)] else []
def dueTo (mv : Int → Bool) (ch : List (Int × List Int)) (ns : List Int) : Nat → List (Int × List Int)
  | 0 => []
  | n + 1 => dueTo mv ch ns n ++ dueStep mv ch ns (n : Int)

section
variable {w : World} {A : Around} {s : Shared} {K : Frag} {env : Env}

theorem tests_one {c : Expr} {Q : Bool → Shared → Prop} {E : Value → Shared → Prop} (h : wpAny (model PP w) A (isTrue c env (eval c env)) Q E s) : wpAny (model PP w) A (tests [c] env) Q E s := by
  unfold tests
  rw [List.forIn_cons]
  refine wpAny_bind (wpAny_bind (wpAny_mono h (fun ok s' hq => wpAny_pure ?_) fun _ _ e => e))
  show wpAny _ A (forIn [] ok _) _ _ _
  rw [List.forIn_nil]
  exact wpAny_pure hq
theorem tests_nil {Q : Bool → Shared → Prop} {E : Value → Shared → Prop} (h : Q true s) : wpAny (model PP w) A (tests [] env) Q E s := by
  unfold tests
  rw [List.forIn_nil]
  exact wpAny_pure h

theorem someOf_snoc (ch : List (Int × List Int)) (l : List Int) (r t : Int) : someOf ch (l ++ [r]) t = someOf ch l t ++ if t ∈ lookL ch r then [r] else [] := by
  unfold someOf
  rw [List.filter_append]
  congr 1
  by_cases e : t ∈ lookL ch r
  · rw [if_pos e]; simp [e]
  · rw [if_neg e]; simp [e]
theorem ints_snoc {vs : List Value} {ns : List Int} (x : IntsAre vs ns) (r : Int) (t : Tok) : IntsAre (vs ++ [.int r t]) (ns ++ [r]) := by
  induction x with
  | nil => exact .cons r t .nil
  | cons a b _ ih => exact .cons a b ih

theorem dueTo_len (mv : Int → Bool) (ch : List (Int × List Int)) (ns : List Int) : ∀ n, (dueTo mv ch ns n).length ≤ n
  | 0 => Nat.le_refl _
  | n + 1 => by
    have := dueTo_len mv ch ns n
    have h2 : (dueStep mv ch ns n).length ≤ 1 := by unfold dueStep; split <;> simp
    show (dueTo mv ch ns n ++ dueStep mv ch ns n).length ≤ _
    rw [List.length_append]; omega

set_option maxHeartbeats 4000000 in
theorem due_spec (W : W0 K w s.heap) (R : Rm A 4) {dm dc : Addr} {kvm kvc : List (Int × Value)} {ch : List (Int × List Int)} {as : List Addr} (hm : ID w s.heap dm kvm) (hc : ID w s.heap dc kvc) (hcl : CLs s.heap ch kvc as) (hn : ch.length < 60) {Q : Value → Shared → Prop}
    (hQ : ∀ D h' tk vs cn, (∀ b o, s.heap.get? b = some o → h'.get? b = some o) → s.heap.get? D = none → h'.get? D = some (listOf vs.toArray cn) → RLs h' (fun a => s.heap.objs.size < a) vs ((dueTo (fun t => (valueAt kvm t).isSome) ch (srt (ch.map (·.1))) 9).map dPair) → Q (.ref D) { s with heap := h', toks := tk }) :
    wpAny (model PP w) A (call (.ref 134) [.ref dm, .ref dc]) Q NoE s := by
  obtain ⟨hd0, dp, frs, gds, un⟩ := A
  obtain rfl : hd0 = none := R.hh
  refine call_fnC (binds := [("moves", .ref dm), ("chosen", .ref dc)]) W.due W.lim (by have := R.depth; omega) (fun _ _ _ _ _ => rfl) (by intro x hx; rcases List.mem_cons.mp hx with rfl | hx; exact .inl rfl; rw [List.mem_singleton.mp hx]; exact .inr ⟨rfl, rfl⟩) (fun cdv h₁ tk F hcells => ?_) (by rfl) (by rfl) (by rfl)
  have hc1 : h₁.IsCell (s.heap.objs.size + 1) (some (.ref dc)) := hcells "chosen" _ rfl
  have hc2 : ∃ v, h₁.IsCell (s.heap.objs.size + 2) v := ⟨_, hcells "terminal" _ rfl⟩
  have hmv : (bindL (envOfC "_law_due" dDue.scope s.heap.objs.size 134 cdv).kindOf [("moves", .ref dm), ("chosen", .ref dc)] fun _ => none) "moves" = some (.ref dm) := rfl
  have hlen := hcl.len
  have hkeys := hcl.keys
  have hL : s.heap.objs.size < h₁.objs.size := F.ns.lt
  have hmv2 := hmv
  generalize (bindL (envOfC "_law_due" dDue.scope s.heap.objs.size 134 cdv).kindOf [("moves", .ref dm), ("chosen", .ref dc)] fun _ => none) = m₁ at F hmv2 hmv
  obtain ⟨Rl, NR, hR⟩ := all_news s.heap h₁ s.heap.objs.size
  refine wpAny_execs_cons ?_
  iterate 3 walk1
  refine wpAny_newObj_type (stLocN (F.push _) (News.push F NR _) (fun h₂ F2 N2 => ?_) rfl rfl)
  have hbig := big_of W
  have k12 := all_kept F2 N2 hR (fun p hp => .tail _ hp) F.keep
  have B2 := F2.keep
  have hfd := (N2 _ (.head _)).1
  have hfdL := (N2 _ (.head _)).2.1
  have hfd0 := (N2 _ (.head _)).2.2
  have hc1' : h₂.IsCell (s.heap.objs.size + 1) (some (.ref dc)) := cell_at hc1 fun o e => k12 _ o (Nat.succ_ne_self _) e
  have hc2' : ∃ v, h₂.IsCell (s.heap.objs.size + 2) v := let ⟨v, x⟩ := hc2; ⟨v, cell_at x fun o e => k12 _ o (Nat.ne_of_gt (Nat.lt_add_of_pos_right (by decide))) e⟩
  have hcs1 : s.heap.objs.size + 1 < h₁.objs.size := hc1.lt
  have hcs2 : s.heap.objs.size + 2 < h₁.objs.size := let ⟨_, x⟩ := hc2; x.lt
  have hfdlt : h₁.objs.size < h₂.objs.size := Heap.lt_size hfd
  generalize h₁.objs.size = fd at *
  have hns := srt_perm (ch.map (·.1))
  have hns2 : (srt (ch.map (·.1))).length = ch.length := by rw [hns.length_eq, List.length_map]
  generalize hnsd : srt (ch.map (·.1)) = ns at *
  refine wpAny_execs_cons (For_cell (c := s.heap.objs.size + 2) rfl rfl rfl (fun _ => rfl) ?_)
  iterate 6 walk1
  refine call_range_1 ?_
  refine wpAny_pyIter_range (IsRange.new _ 0 9 1 _ _ _) rfl ?_
  dsimp only
  generalize hH3 : h₂.push _ = h₃
  have k23 : ∀ b o, h₂.get? b = some o → h₃.get? b = some o := fun b o e => by rw [← hH3]; exact Heap.get?_push_of_some _ e
  have h3s : h₂.objs.size < h₃.objs.size := by rw [← hH3, Heap.size_push]; exact Nat.lt_succ_self _
  have hfd3 : fd < h₃.objs.size := Nat.lt_trans hfdlt h3s
  have hL3 : s.heap.objs.size < h₃.objs.size := Nat.lt_trans (Nat.lt_of_succ_lt hcs1) hfd3
  refine ⟨h₃.objs.size, [h₃.objs.size], 9, _, _, rfl, LCg.range_walks rfl 0 9, Heap.get?_push_size _ rfl, ?_,
    fun i h => (∀ b o, s.heap.get? b = some o → h.get? b = some o) ∧ h.IsCell (s.heap.objs.size + 1) (some (.ref dc)) ∧
      ∃ m vs c, h.Ns s.heap.objs.size m ∧ m "moves" = some (.ref dm) ∧ m "found" = some (.ref fd) ∧ h.get? fd = some (listOf vs.toArray c) ∧
        RLs h (fun a => h₃.objs.size < a) vs ((dueTo (fun t => (valueAt kvm t).isSome) ch ns i).map dPair), ?_, ?_, ?_, ?_, ?_⟩
  · intro hmem
    have : s.heap.objs.size + 2 = h₃.objs.size := List.mem_singleton.mp hmem
    omega
  · refine ⟨fun b o e => Heap.get?_push_of_some _ (k23 _ _ (B2 b o e)), cell_at hc1' fun o e => Heap.get?_push_of_some _ (k23 _ _ e), _, [], _, F2.ns.keeps fun b o e => Heap.get?_push_of_some _ (k23 _ _ e), ?_, ?_, Heap.get?_push_of_some _ (k23 _ _ hfd), .nil⟩
    · walk_at "mlook"
    · walk_at "mlook"
  · obtain ⟨v, x⟩ := hc2'
    exact ⟨v, cell_at x fun o e => Heap.get?_push_of_some _ (k23 _ _ e)⟩
  · rintro i h h' ⟨a1, a2, m, vs, c, a3, a4, a5, a6, a7⟩ hkk
    refine ⟨fun b o e => hkk b o ?_ ?_ (a1 b o e), cell_at a2 fun o e => hkk _ o ?_ ?_ e, m, vs, c, a3.at' fun o e => hkk _ o ?_ ?_ e, a4, a5, hkk _ _ ?_ ?_ a6, RLs_at (fun b o hb _ e => hkk b o ?_ ?_ e) (fun _ _ h _ _ => h) a7⟩
    · exact Nat.ne_of_lt (Nat.lt_trans (Heap.lt_size e) hL3)
    · exact Nat.ne_of_lt (Nat.lt_trans (Heap.lt_size e) (Nat.lt_add_of_pos_right (by decide)))
    · exact Nat.ne_of_lt (Nat.lt_trans hcs1 hfd3)
    · exact Nat.ne_of_lt (Nat.lt_succ_self _)
    · exact Nat.ne_of_lt hL3
    · exact Nat.ne_of_lt (Nat.lt_add_of_pos_right (by decide))
    · exact Nat.ne_of_lt hfd3
    · exact Nat.ne_of_gt hcs2
    · exact Nat.ne_of_gt hb
    · exact Nat.ne_of_gt (Nat.lt_trans (Nat.lt_trans hcs2 hfd3) hb)
  · rintro i v h tk' hlt ⟨ti, rfl⟩ hSt ⟨a1, a2, m, vs, c, a3, a4, a5, a6, a7⟩ hct
    have e0 : (0 : Int) + (i : Nat) = (i : Int) := Int.zero_add _
    rw [e0] at hct
    refine wpAny_execs_cons (Assign_ListComp_raw (L := s.heap.objs.size) (m := m) rfl rfl rfl (by decide +kernel) rfl (by decide +kernel) rfl (fun _ => rfl) rfl rfl ?_)
    iterate 6 walk1
    refine id_sorted rfl (hc.keep a1) (by omega) fun B c' h₄ tk₄ vn ns' k4 hB hBo hI hperm hsort => ?_
    obtain rfl : ns' = ns := by rw [← hnsd]; exact eq_srt (hkeys ▸ hperm) hsort
    refine wpAny_pyIter_list (items := vn.toArray) ⟨_, hBo, rfl, _, rfl⟩ ?_
    have hL4 : s.heap.objs.size < h₄.objs.size := (a3.keeps k4).lt
    have hBI : B < h₄.objs.size := Heap.lt_size hBo
    have hvn : vn.length = ns'.length := hI.length
    have kp : ∀ b o, h.get? b = some o → (h₄.push { cls := .type "list_iterator", data := .fields #[.ref B, .int 0 0] }).get? b = some o := fun b o e => Heap.get?_push_of_some _ (k4 b o e)
    have hps : (h₄.push { cls := .type "list_iterator", data := .fields #[.ref B, .int 0 0] }).objs.size = h₄.objs.size + 1 := Heap.size_push ..
    have hlts : ∀ b o, h.get? b = some o → b < h₄.objs.size := fun b o e => Heap.lt_size (k4 b o e)
    refine ⟨?_, h₄.objs.size, [h₄.objs.size, B], vn.toArray.size, _, _, rfl, Walks.list rfl h₄.objs.size B (Nat.ne_of_lt hBI) vn.toArray, ?_, ⟨⟨_, Heap.get?_push_size _ rfl, rfl, rfl⟩, Heap.IsList.push ⟨_, hBo, rfl, _, rfl⟩ _⟩, ?_,
      fun k ys h' => (∀ b o, h.get? b = some o → h'.get? b = some o) ∧ IntsAre ys (someOf ch (ns'.take k) i), ?_, ?_, ?_, ?_⟩
    · dsimp only; rw [hps]; exact Nat.lt_succ_of_lt hL4
    · rw [List.size_toArray, sizeLine_eq]; omega
    · dsimp only; rw [hps]
      intro b hb
      rcases List.mem_cons.mp hb with rfl | hb
      · exact Nat.lt_succ_self _
      · rw [List.mem_singleton.mp hb]; exact Nat.lt_succ_of_lt hBI
    · exact ⟨kp, .nil⟩
    · dsimp only; rw [hps]
      rintro k ys h' h'' ⟨b1, b2⟩ hkk
      refine ⟨fun b o e => hkk b o ?_ ?_ ?_ (b1 b o e), b2⟩
      · exact Nat.ne_of_lt (hlts _ _ e)
      · exact Nat.ne_of_lt (Nat.lt_succ_of_lt (hlts _ _ e))
      · exact Nat.ne_of_lt (Nat.lt_succ_of_lt (Nat.lt_succ_of_lt (hlts _ _ e)))
    · dsimp only
      generalize hC : (h₄.push { cls := .type "list_iterator", data := .fields #[.ref B, .int 0 0] }).objs.size + 1 = C
      rintro k v ys h' tk5 m2 hk hP hSt5 ⟨b1, b2⟩ hn2 hm2 hsz
      obtain ⟨r, t, rfl, hr⟩ := hI.at k v (by simpa using hP)
      have c1 := cell_at a2 fun o e => b1 _ o e
      have c2 := cell_at hct fun o e => b1 _ o e
      have hrk : r ∈ ch.map (·.1) := hns.mem_iff.mp (List.mem_of_getElem? hr)
      obtain ⟨a, vr, cr, e1, ha, ho, hir⟩ := hcl.look hrk
      have ho' := b1 _ _ (a1 _ _ ho)
      have hc' := (hc.keep a1).keep b1
      refine tests_one ?_
      iterate 5 walk1
      refine id_item hc' e1 ?_ (by with_unfolding_all rfl)
      refine in_list_ints ⟨_, ho', rfl, _, rfl⟩ hir ?_
      have eb : (lookL ch r).any (· == (i : Int)) = decide ((i : Int) ∈ lookL ch r) := by
        rw [Bool.eq_iff_iff]; simp [List.any_eq_true]
      rw [eb]
      by_cases hin : (i : Int) ∈ lookL ch r
      · rw [decide_eq_true hin]
        iterate 3 walk1
        refine ⟨h', _, rfl, fun _ _ _ e => e, b1, ?_⟩
        rw [take_snoc hr, someOf_snoc, if_pos hin]
        exact ints_snoc b2 r t
      · rw [decide_eq_false hin]
        iterate 2 walk1
        refine ⟨h', _, rfl, fun _ _ _ e => e, b1, ?_⟩
        rw [take_snoc hr, someOf_snoc, if_neg hin, List.append_nil]
        exact b2
    · dsimp only
      rw [hps]
      rintro h' tk5 ys ⟨b1, b2⟩ hD
      refine ⟨a3.keeps b1, fun h₆ hn6 hk6 => ?_⟩
      have hall : ns'.take vn.toArray.size = ns' := List.take_of_length_le (by rw [List.size_toArray, hvn]; exact Nat.le_refl _)
      rw [hall] at b2
      have kk : ∀ b o, b ≠ s.heap.objs.size → h.get? b = some o → h₆.get? b = some o := fun b o hb e => hk6 b o hb (Nat.ne_of_lt (Nat.lt_succ_of_lt (Nat.lt_succ_of_lt (hlts _ _ e)))) (b1 _ _ e)
      have F := (⟨hn6, fun b o e => kk b o (Nat.ne_of_lt (Heap.lt_size e)) (a1 b o e), Nat.le_refl _⟩ : Fr s.heap s.heap.objs.size h₆ _)
      have hD6 : h₆.get? (h₄.objs.size + 1) = some (lst ys) := hk6 _ _ (Nat.ne_of_gt (Nat.lt_succ_of_lt hL4)) (Nat.ne_of_lt (Nat.lt_succ_self _)) hD
      have c1 := cell_at a2 fun o e => kk _ o (Nat.succ_ne_self _) e
      have c2 := cell_at hct fun o e => kk _ o (Nat.ne_of_gt (Nat.lt_add_of_pos_right (by decide))) e
      have hfd6 := kk _ _ hfdL a6
      have hr6 := RLs_at (fun b o hb _ e => kk b o (Nat.ne_of_gt (Nat.lt_trans hL3 hb)) e) (fun _ _ h _ _ => h) a7
      have hm6 := hm.keep F.keep
      have b6 := F.keep
      have hI6 : h₃.objs.size < h₆.objs.size := Heap.lt_size (kk _ _ (Nat.ne_of_gt hL3) hSt)
      generalize h₄.objs.size + 1 = D at *
      obtain ⟨Rl6, NR6, hR6⟩ := all_news s.heap h₆ s.heap.objs.size
      clear hk6 hps
      refine wpAny_execs_cons ?_
      walk1
      have hys : ys.length = (someOf ch ns' i).length := b2.length
      have hle : (someOf ch ns' i).length ≤ ns'.length := List.length_filter_le _ _
      refine wpAny_mono (Q := fun b s₂ => b = decide (1 < (someOf ch ns' i).length ∨ (someOf ch ns' i ≠ [] ∧ (valueAt kvm i).isSome = true)) ∧ ∃ h7 tk, s₂ = { s with heap := h7, toks := tk } ∧ ∀ b o, h₆.get? b = some o → h7.get? b = some o) ?_ ?_ (fun _ _ e => e)
      · iterate 8 walk1
        refine len_list ⟨_, hD6, rfl, _, rfl⟩ (by rw [List.size_toArray]; omega) ?_
        iterate 4 walk1
        · rename_i hlong
          refine ⟨?_, h₆, _, rfl, fun _ _ e => e⟩
          rw [List.size_toArray, hys] at hlong
          exact (decide_eq_true (Or.inl (by omega))).symm
        · rename_i hlong
          rw [List.size_toArray, hys] at hlong
          iterate 6 walk1
          refine wpAny_newObj_type ?_
          dsimp only
          have k67 : ∀ b o, h₆.get? b = some o → (h₆.push { cls := .type "list", data := .seq ([] : List Value).toArray }).get? b = some o := fun b o e => Heap.get?_push_of_some _ e
          have hnew : (h₆.push { cls := .type "list", data := .seq ([] : List Value).toArray }).get? h₆.objs.size = some { cls := .type "list", data := .seq ([] : List Value).toArray } := Heap.get?_push_size _ rfl
          generalize h₆.push { cls := .type "list", data := .seq ([] : List Value).toArray } = h₇ at *
          have hu : Around.units (Around.deeper ⟨none, dp, frs, gds, un⟩ (envOfC "_law_due" dDue.scope s.heap.objs.size 134 cdv)) + 64 < cLine := by have := R.deeper (env := envOfC "_law_due" dDue.scope s.heap.objs.size 134 cdv) |>.units; omega
          have rd1 : Reads h₇ (.ref D) (.list ((someOf ch ns' i).map .int)) [D] := .list (k67 _ _ hD6) rfl rfl (ReadsAll_ints b2)
          have rd2 : Reads h₇ (.ref h₆.objs.size) (.list []) [h₆.objs.size] := .list hnew rfl rfl .nil
          refine cmp_ne (k := 1) (j := 1) rd1 rd2 (.inr (.inr ⟨_, rfl, PL_ints _⟩)) (.inr (.inr ⟨_, rfl, fun x hx => by cases hx⟩)) (by decide) (by decide) hu (fun e0 => ?_) fun e0 => ?_
          · have e1 : someOf ch ns' i = [] := by
              injection e0 with e1
              exact List.map_eq_nil_iff.mp e1
            repeat' (first | (fail_if_success (with_reducible show _ ∧ _)); walk1)
            refine ⟨(decide_eq_false ?_).symm, h₇, _, rfl, k67⟩
            rintro (q | q)
            · rw [e1] at q; exact absurd q (by decide)
            · exact q.1 e1
          · have e1 : someOf ch ns' i ≠ [] := fun q => e0 (by rw [q]; rfl)
            have hn7 := hn6.keeps k67
            have c27 := c2.keeps k67
            iterate 6 walk1
            refine id_in (hm6.keep k67) ?_
            cases hin : (valueAt kvm (i : Int)).isSome with
            | true =>
              repeat' (first | (fail_if_success (with_reducible show _ ∧ _)); walk1)
              exact ⟨(decide_eq_true (Or.inr ⟨e1, rfl⟩)).symm, h₇, _, rfl, k67⟩
            | false =>
              repeat' (first | (fail_if_success (with_reducible show _ ∧ _)); walk1)
              refine ⟨(decide_eq_false ?_).symm, h₇, _, rfl, k67⟩
              rintro (q | q)
              · exact hlong (by omega)
              · exact absurd q.2 (by decide)
      · rintro b s₂ ⟨rfl, h₇, tk9, rfl, k67⟩
        have hn7 := hn6.keeps k67
        have c17 := c1.keeps k67
        have c27 := c2.keeps k67
        have b7 : ∀ b o, s.heap.get? b = some o → h₇.get? b = some o := fun b o e => k67 _ _ (b6 _ _ e)
        have hfd7 := k67 _ _ hfd6
        have hr7 := RLs_at (fun b o _ _ e => k67 b o e) (fun _ _ h _ _ => h) hr6
        have kk7 : ∀ b o, b ≠ s.heap.objs.size → h.get? b = some o → h₇.get? b = some o := fun b o hb e => k67 _ _ (kk b o hb e)
        have hI7 : h₃.objs.size < h₇.objs.size := Heap.lt_size (k67 _ _ (kk _ _ (Nat.ne_of_gt hL3) hSt))
        by_cases hP : 1 < (someOf ch ns' i).length ∨ (someOf ch ns' i ≠ [] ∧ (valueAt kvm i).isSome = true)
        · rw [decide_eq_true hP, if_pos rfl]
          iterate 4 walk1
          refine lst_method PySem.F.slot_list_append PySem.F.type_list_append hfd7 ?_
          iterate 12 walk1
          refine call_tuple_list (items := ys.toArray) ⟨_, k67 _ _ hD6, rfl, _, rfl⟩ (fun h₈ k8 => ?_) (by rw [List.size_toArray, sizeLine_eq]; omega)
          iterate 1 walk1
          refine wpAny_newTuple ?_ (by show 2 ≤ sizeLine; decide)
          walk1
          have o1 : (h₈.push { cls := .type "tuple", data := .seq ys.toArray }).get? h₈.objs.size = some { cls := .type "tuple", data := .seq ys.toArray } := Heap.get?_push_size _ rfl
          have k78 : ∀ b o, h₇.get? b = some o → (h₈.push { cls := .type "tuple", data := .seq ys.toArray }).get? b = some o := fun b o e => Heap.get?_push_of_some _ (k8 b o e)
          have hI8 : h₃.objs.size < h₈.objs.size := Heap.lt_size (k8 _ _ (k67 _ _ (kk _ _ (Nat.ne_of_gt hL3) hSt)))
          have hI8b : h₃.objs.size < (h₈.push { cls := .type "tuple", data := .seq ys.toArray }).objs.size := Heap.lt_size (Heap.get?_push_of_some _ (k8 _ _ (k67 _ _ (kk _ _ (Nat.ne_of_gt hL3) hSt))))
          generalize h₈.push { cls := .type "tuple", data := .seq ys.toArray } = g₈ at *
          have o2 := Heap.get?_push_size g₈ (o := { cls := .type "tuple", data := .seq [.int (i : Int) ti, .ref h₈.objs.size].toArray }) rfl
          have k79 : ∀ b o, h₇.get? b = some o → (g₈.push { cls := .type "tuple", data := .seq [.int (i : Int) ti, .ref h₈.objs.size].toArray }).get? b = some o := fun b o e => Heap.get?_push_of_some _ (k78 b o e)
          have o1' := Heap.get?_push_of_some { cls := .type "tuple", data := .seq [.int (i : Int) ti, .ref h₈.objs.size].toArray } o1
          generalize g₈.push { cls := .type "tuple", data := .seq [.int (i : Int) ti, .ref h₈.objs.size].toArray } = h₉ at *
          have hvl : vs.length ≤ 1000 := by
            have h1 := RLs_len a7
            have h2 := dueTo_len (fun t => (valueAt kvm t).isSome) ch ns' i
            rw [List.length_map] at h1; omega
          refine append_at (hsz := by rw [List.size_toArray, sizeLine_eq]; omega) (k79 _ _ hfd7) fun h₁₀ hs10 ho10 => ?_
          have k10 := keeps_of_same hs10
          iterate 2 walk1
          have KK : ∀ b o, b ≠ s.heap.objs.size → b ≠ fd → h.get? b = some o → h₁₀.get? b = some o := fun b o q1 q2 e => k10 b o q2 (k79 _ _ (kk7 b o q1 e))
          have e9 : dueTo (fun t => (valueAt kvm t).isSome) ch ns' (i + 1) = dueTo (fun t => (valueAt kvm t).isSome) ch ns' i ++ [((i : Int), someOf ch ns' i)] := by
            show _ ++ dueStep _ _ _ _ = _
            unfold dueStep
            rw [if_pos hP]
          have hfdlo : ∀ b : Addr, h₃.objs.size < b → b ≠ fd := fun b hb => Nat.ne_of_gt (Nat.lt_trans hfd3 hb)
          refine ⟨h₁₀, _, rfl, ⟨_, cell_at c27 fun o e => k10 _ o (Nat.ne_of_lt hcs2) (k79 _ _ e)⟩, fun b o hb e => KK b o ?_ ?_ e, fun b o e => k10 b o ?_ (k79 _ _ (b7 _ _ e)), cell_at c17 fun o e => k10 _ o (Nat.ne_of_lt hcs1) (k79 _ _ e), _, vs ++ [.ref g₈.objs.size], c + 1, hn7.at' fun o e => k10 _ o (Ne.symm hfdL) (k79 _ _ e), by walk_at "mlook", by walk_at "mlook", ?_, ?_⟩
          · rw [List.mem_singleton.mp hb]; exact Nat.ne_of_gt hL3
          · rw [List.mem_singleton.mp hb]; exact Nat.ne_of_gt hfd3
          · intro q; rw [q] at e; rw [hfd0] at e; cases e
          · rw [ho10, List.push_toArray]
          · rw [e9, List.map_append]
            refine RLs_snoc (RLs_at (fun b o hb _ e => KK b o (Nat.ne_of_gt (Nat.lt_trans hL3 hb)) (hfdlo b hb) e) (fun _ _ h _ _ => h) a7) (.tuple hI8b (k10 _ _ (hfdlo _ hI8b) o2) (.cons (.int _ _) (.cons (.tuple hI8 (k10 _ _ (hfdlo _ hI8) o1') (RLs_ints b2)) .nil)))
        · rw [decide_eq_false hP, if_neg (by decide)]
          iterate 2 walk1
          have e9 : dueTo (fun t => (valueAt kvm t).isSome) ch ns' (i + 1) = dueTo (fun t => (valueAt kvm t).isSome) ch ns' i := by
            show _ ++ dueStep _ _ _ _ = _
            unfold dueStep
            rw [if_neg hP, List.append_nil]
          refine ⟨h₇, _, rfl, ⟨_, c27⟩, fun b o hb e => kk7 b o ?_ e, b7, c17, _, vs, c, hn7, by walk_at "mlook", by walk_at "mlook", hfd7, ?_⟩
          · rw [List.mem_singleton.mp hb]; exact Nat.ne_of_gt hL3
          · rw [e9]; exact hr7
  · rintro h tk' ⟨a1, a2, m, vs, c, a3, a4, a5, a6, a7⟩ _
    have F := (⟨a3, a1, Nat.le_refl _⟩ : Fr s.heap s.heap.objs.size h _)
    iterate 3 walk1
    exact hQ fd h _ vs c a1 hfd0 a6 (RLs_at (fun _ _ _ _ e => e) (fun _ _ h _ _ => Nat.lt_trans hL3 h) a7)
end

end Mine
end

section
open PySem PySem.W PyProof.Rows PySem.Calls
namespace Mine
/-- what the fragment tells of the two classes -/
structure KF (K : Frag) : Prop where
  mS : makesIn K 50 = true
  iS : findIn K (.ref 50) "__init__" = some (some (.ref 40))
  fS : isFn K (.ref 40) = true
  sS : findIn K (.ref 50) "__setattr__" = some (some (.builtin "object.__setattr__"))
  pS : plainOver K 50 = true
  dS : hasDictIn K 50 = true
  gS : plainGet K 50 "" = true
  t1 : takerIn K 50 "number" = some none
  t2 : takerIn K 50 "kernel" = some none
  t3 : takerIn K 50 "core" = some none
  t4 : takerIn K 50 "symbol" = some none
  t5 : takerIn K 50 "items" = some none
  t6 : takerIn K 50 "moves" = some none
  t7 : takerIn K 50 "reductions" = some none
  t8 : takerIn K 50 "masks" = some none
  n1 : findIn K (.ref 50) "number" = some none
  n2 : findIn K (.ref 50) "moves" = some none
  n3 : findIn K (.ref 50) "masks" = some none
  mA : makesIn K 92 = true
  iA : findIn K (.ref 92) "__init__" = some (some (.ref 68))
  fA : isFn K (.ref 68) = true
  sA : findIn K (.ref 92) "__setattr__" = some (some (.builtin "object.__setattr__"))
  pA : plainOver K 92 = true
  dA : hasDictIn K 92 = true
  gA : plainGet K 92 "" = true
  t9 : takerIn K 92 "grammar" = some none
  t10 : takerIn K 92 "states" = some none
  n4 : findIn K (.ref 92) "states" = some none
  kS : keepIn K (.ref 50) = true
  kA : keepIn K (.ref 92) = true
  kG : keepIn K (.ref 82) = true
  n5 : findIn K (.ref 92) "goto" = some (some (.ref 82))
  f5 : isFn K (.ref 82) = true

/-- an object with attributes -/
def Inst (k : Nat) (h : Heap) (x dx C : Addr) (vals : List (Str × Value)) : Prop :=
  ∃ es n, h.get? x = some (instObj C dx) ∧ h.get? dx = some (dictOf es n) ∧ (∀ p ∈ vals, getL p.1 es = some (some p.2)) ∧ (es.any (·.refKey)) = false ∧ es.length ≤ k ∧ getL "goto" es = some none

theorem Inst.at {k : Nat} {h h' : Heap} {x dx C : Addr} {vals} (I : Inst k h x dx C vals) (k1 : ∀ o, h.get? x = some o → h'.get? x = some o) (k2 : ∀ o, h.get? dx = some o → h'.get? dx = some o)   : Inst k h' x dx C vals := by
  obtain ⟨es, n, a, b, c⟩ := I
  exact ⟨es, n, k1 _ a, k2 _ b, c⟩

theorem getL_cons (name : Str) (e : DictEntry) (r : List DictEntry) (h1 : e.refKey = false) (h2 : (r.any (·.refKey)) = false) : getL name (e :: r) = if e.key.isStr name = true then some (some e.val) else getL name r := by
  unfold getL
  rw [List.find?_cons, List.any_cons, h1, h2]
  cases e.key.isStr name with
  | true => rfl
  | false => rfl
theorem isStr_two {v : Value} {a b : Str} (h1 : v.isStr a = true) (h2 : v.isStr b = true) : a = b := by
  cases v with
  | str s t =>
    have e1 : s = a := eq_of_beq h1
    have e2 : s = b := eq_of_beq h2
    rw [← e1, ← e2]
  | _ => cases h1
theorem put_ref (name : Str) (hsh : Int) (tok : Tok) (v : Value) : ∀ es : List DictEntry, (es.any (·.refKey)) = false → ((putL name hsh (.str name tok) v es).any (·.refKey)) = false
  | [], _ => rfl
  | e :: r, h => by
    rw [List.any_cons, Bool.or_eq_false_iff] at h
    unfold putL
    split
    · rw [List.any_cons, Bool.or_eq_false_iff]; exact ⟨h.1, h.2⟩
    · rw [List.any_cons, Bool.or_eq_false_iff]; exact ⟨h.1, put_ref name hsh tok v r h.2⟩
theorem put_len (name : Str) (hsh : Int) (tok : Tok) (v : Value) : ∀ es : List DictEntry, (putL name hsh (.str name tok) v es).length ≤ es.length + 1
  | [] => Nat.le_refl _
  | e :: r => by
    unfold putL
    split
    · simp
    · have := put_len name hsh tok v r
      simp only [List.length_cons]; omega
theorem getL_put (name name' : Str) (hsh : Int) (tok : Tok) (v : Value) : ∀ es : List DictEntry, (es.any (·.refKey)) = false →
    getL name' (putL name hsh (.str name tok) v es) = if name' = name then some (some v) else getL name' es
  | [], _ => by
    show getL name' [⟨hsh, .str name tok, v⟩] = _
    rw [getL_cons _ _ _ rfl rfl]
    by_cases e : name' = name
    · rw [if_pos e]; exact if_pos (show (name == name') = true by rw [e]; exact beq_self_eq_true _)
    · rw [if_neg e]; exact if_neg (show ¬ (name == name') = true from fun q => e (eq_of_beq q).symm)
  | en :: r, h => by
    have h' := h
    rw [List.any_cons, Bool.or_eq_false_iff] at h
    unfold putL
    by_cases hk : en.key.isStr name = true
    · rw [if_pos hk, getL_cons name' ⟨en.hash, en.key, v⟩ r h.1 h.2, getL_cons name' en r h.1 h.2]
      by_cases e : name' = name
      · rw [if_pos e, if_pos (e ▸ hk)]
      · rw [if_neg e, if_neg (fun q => e (isStr_two q hk)), if_neg (fun q => e (isStr_two q hk))]
    · rw [if_neg hk, getL_cons _ _ _ h.1 (put_ref _ _ _ _ _ h.2), getL_cons _ _ _ h.1 h.2, getL_put name name' hsh tok v r h.2]
      by_cases e : name' = name
      · rw [if_pos e, if_pos e, if_neg (e ▸ hk)]
      · rw [if_neg e, if_neg e]
theorem getL_there (name : Str) (es : List DictEntry) (h : (es.any (·.refKey)) = false) : (getL name es).isSome = true := by
  unfold getL
  cases es.find? (·.key.isStr name) with
  | some e => rfl
  | none => show (if _ then _ else _ : Option (Option Value)).isSome = true; rw [if_neg (by rw [h]; decide)]; rfl

section
variable {w : World} {A : Around} {E : Value → Shared → Prop} {s : Shared} {K : Frag} {x dx C : Addr} {vals : List (Str × Value)} {name : Str} {v : Value}

theorem inst_get {j : Nat} {h₀ : Heap} {expr : Bool} {Q : Value → Shared → Prop} (X : K.In h₀) (k : ∀ b o, h₀.get? b = some o → s.heap.get? b = some o) (I : Inst j s.heap x dx C vals) (hm : (name, v) ∈ vals) (hg : plainGet K C "" = true) (hh : hasDictIn K C = true)
    (ha : findIn K (.ref C) name = some none) (hv : handedIn v = true) (h : Q v { s with toks := s.toks + 1 }) :
    wpAny (model PP w) A (getAttr (.ref x) name expr) Q E s := by
  obtain ⟨es, n, h1, h2, h3, h4, h5, h6⟩ := I
  exact get_value (X.keeps k) ⟨h1, rfl, rfl, h2⟩ (plainGet_of (name := "") hg).1 (findObj_own (od := dictOf es n) hh ha rfl (by rw [lookIn_dict]; exact h3 _ hm)) hv h

theorem inst_set {j : Nat} {h₀ : Heap} {L : Addr} {m : Str → Option Value} {Q : Unit → Shared → Prop} (X : K.In h₀) (F : Fr h₀ L s.heap m) (I : Inst j s.heap x dx C vals) (h0 : h₀.get? dx = none) (hL : dx ≠ L) (hxd : x ≠ dx)
    (hs : findIn K (.ref C) "__setattr__" = some (some (.builtin "object.__setattr__"))) (hp : plainOver K C = true) (ht : takerIn K C name = some none) (hh : hasDictIn K C = true) (hlen : j ≤ 900) (hgo : ("goto" : Str) ≠ name)
    (h : ∀ h', Fr h₀ L h' m → (∀ a o, a ≠ L → a ≠ dx → s.heap.get? a = some o → h'.get? a = some o) → (∀ vals', (∀ p ∈ vals', (p.1 = name ∧ p.2 = v) ∨ (p.1 ≠ name ∧ p ∈ vals)) → x ≠ L → Inst (j + 1) h' x dx C vals') → Q () { s with heap := h', toks := s.toks + 2 }) :
    wpAny (model PP w) A (setAttr (.ref x) name v) Q E s := by
  obtain ⟨es, n, h1, h2, h3, h4, h5, h6⟩ := I
  obtain ⟨R, NR, hR⟩ := all_news h₀ s.heap L
  have N : News h₀ L s.heap ((dx, dictOf es n) :: R.filter fun p => decide (p.1 ≠ dx)) := by
    intro p hp
    rcases List.mem_cons.mp hp with rfl | hp
    · exact ⟨h2, hL, h0⟩
    · exact NR _ (List.mem_filter.mp hp).1
  refine set_dict F X N (I := ⟨h1, rfl, rfl, h2⟩) rfl hs hp ht hh (getL_there _ _ h4) rfl (.head fun p hp => by simpa using (List.mem_filter.mp hp).2) (by have := put_len name (PyData.keyHash w.params name) (s.toks + 1) v es; omega) fun h' F' N' => h h' F' (fun a o ha hd e => ?_) fun vals' hv hxL => ?_
  · cases q : h₀.get? a with
    | some o' => have := F.keep a o' q; rw [e] at this; cases this; exact F'.keep a o q
    | none => exact (N' (a, o) (.tail _ (List.mem_filter.mpr ⟨hR _ _ ha q e, by simpa using hd⟩))).1
  · have kx : h'.get? x = some (instObj C dx) := by
      cases q : h₀.get? x with
      | some o' => have := F.keep x o' q; rw [h1] at this; cases this; exact F'.keep x _ q
      | none => exact (N' (x, _) (.tail _ (List.mem_filter.mpr ⟨hR _ _ hxL q h1, by simpa using hxd⟩))).1
    refine ⟨_, _, kx, (N' _ (.head _)).1, fun p hp => ?_, put_ref _ _ _ _ _ h4, by have := put_len name (PyData.keyHash w.params name) (s.toks + 1) v es; omega, (getL_put _ _ _ _ _ _ h4).trans ((if_neg hgo).trans h6)⟩
    rw [getL_put _ _ _ _ _ _ h4]
    rcases hv p hp with ⟨e1, e2⟩ | ⟨e1, e2⟩
    · rw [if_pos e1, e2]
    · rw [if_neg e1]; exact h3 _ e2
theorem inst_goto {j : Nat} {h₀ : Heap} {pl : Sem Bool} {Q : Value × List Value → Shared → Prop} (X : K.In h₀) (k : ∀ b o, h₀.get? b = some o → s.heap.get? b = some o) (I : Inst j s.heap x dx 92 vals) (kf : KF K) (h : Q (.ref 82, [.ref x]) s) :
    wpAny (model PP w) A (getMethod (.ref x) "goto" pl) Q E s := by
  obtain ⟨es, n, h1, h2, h3, h4, h5, h6⟩ := I
  exact method_fn (X.keeps k) (show InstAt s.heap x (instObj 92 dx) 92 (some (dictOf es n)) from ⟨h1, rfl, rfl, h2⟩) (plainGet_of (name := "") kf.gA).1 (plainGet_of (name := "") kf.gA).2 kf.n5 (beq_iff_eq.mp kf.f5) (by show (lookIn "goto" (dictOf es n)).map _ = _; rw [lookIn_dict, h6]; rfl) h
end

end Mine
end

section
open PySem PySem.W PyProof.Rows PySem.Calls
namespace Mine
local macro_rules | `(tactic| walk_at "idle") => `(tactic| fail "idle")
local macro_rules | `(tactic| walk_at "mlook") => `(tactic| first | assumption | exact if_pos rfl | (refine Eq.trans (if_neg (by decide)) ?_; walk_at "mlook") | rfl)
local macro_rules | `(tactic| walk_at "memb") => `(tactic| first | exact List.Mem.head _ | (refine List.Mem.tail _ ?_; walk_at "memb"))
local macro_rules | `(tactic| walk_at "eval Name") => `(tactic| with_unfolding_all (first | refine ev_builtE (by assumption) (by assumption) (by walk_at "memb") ?_ rfl rfl rfl rfl (by decide) | refine ev_globE (by assumption) (by assumption) (by walk_at "memb") ?_ rfl rfl rfl (by decide) | refine ev_cell rfl (by assumption) ?_ rfl rfl (by decide)))
local macro_rules | `(tactic| walk_at "eval Name") => `(tactic| refine ev_loc (Fr.ns (by assumption)) (by first | rfl | walk_at "mlook") ?_ rfl rfl (by decide))
local macro_rules | `(tactic| walk_at "eval Name") => `(tactic| refine ev_loc (by assumption) (by first | rfl | walk_at "mlook") ?_ rfl rfl (by decide))

section
variable {w : World} {A : Around} {E : Value → Shared → Prop} {s : Shared} {K : Frag}

theorem code_fn {f : Addr} {q : Str} {d : DefD} {args : List Value} {binds : List (Str × Value)} {R : Result → Shared → Prop}
    (hf : IsFn s.heap f q d) (hlim : s.heap.NoLimit) (hroom : A.depth < recursionLimit)
    (hbind : ∀ doc pm an cdv ct, bindArgs (fnOf d.name q d.params d.body d.scope .none .none doc pm an cdv ct) ⟨args, []⟩ = pure binds)
    (hloc : ∀ x ∈ binds, d.scope.names.lookup x.1 = some .local)
    (h : ∀ cdv h₁, Fr s.heap s.heap.objs.size h₁ (fun x => binds.reverse.lookup x) →
      wpAny (model PP w) (A.deeper (envOf q d.scope s.heap.objs.size f cdv)) (execs d.body (envOf q d.scope s.heap.objs.size f cdv))
        (fun fl s' => R (.ok (.ret (match fl with | .ret v => v | _ => .none))) s') (fun _ _ => False) { s with heap := h₁, toks := s.toks + binds.length })
    (hcell : ∀ x ∈ d.scope.names, x.2 ≠ .cell) (hco : d.scope.isCoroutine = false) (hgen : d.scope.isGenerator = false) (hk : d.scope.kind = .function) :
    codeAny (model PP w) A (.call (.ref f) ⟨args, []⟩) R s := by
  obtain ⟨oc, od, osl, doc, pm, an, cdv, ct, ho, hc⟩ := hf
  refine codeAny_call_def (fd := fnOf d.name q d.params d.body d.scope .none .none doc pm an cdv ct) (body := d.body) (binds := binds) hroom ho rfl hlim hc rfl (BindsTo.of_eq (hbind _ _ _ _ _)) hcell hloc (fun h₁ hns hk₁ => ?_) hco hgen hk
  exact wpAny_mono (h cdv h₁ ⟨hns, hk₁, Nat.le_refl _⟩) (fun _ _ x => x) (fun _ _ x => x.elim)

theorem rm_make {n : Nat} {C : Addr} {c : List Value} (R : Rm A (n + 1)) : Rm (A.under (.builtin "type.__call__" ⟨.ref C :: c, []⟩)) n :=
  ⟨R.hh, by have h1 : (A.under (.builtin "type.__call__" ⟨.ref C :: c, []⟩)).depth = A.depth + 1 := rfl; have := R.depth; omega,
    by have h1 : (A.under (.builtin "type.__call__" ⟨.ref C :: c, []⟩)).units = A.units + 1 := rfl; have := R.units; omega⟩

set_option maxHeartbeats 4000000 in
theorem state_spec {Hb : Heap} {L : Addr} {m : Str → Option Value} (W : W0 K w Hb) (kf : KF K) (F : Fr Hb L s.heap m) (R : Rm A 5) {kt kp : Addr} {tp tn t7 t1 : Tok} {place : Int} {n1 n2 : Nat}
    (hkt : s.heap.get? kt = some { cls := .type "tuple", data := .seq [Value.ref kp].toArray n1 }) (hkp : s.heap.get? kp = some { cls := .type "tuple", data := .seq [Value.int 7 t7, .int 1 t1].toArray n2 }) {Q : Value → Shared → Prop}
    (hQ : ∀ x dx dm dk h' tk tp', Fr Hb L h' m → (∀ b o, b ≠ L → s.heap.get? b = some o → h'.get? b = some o) → s.heap.get? x = none → s.heap.get? dx = none → s.heap.get? dm = none → s.heap.get? dk = none → dx ≠ dm → dx ≠ dk → dm ≠ dk → (∀ a o, a ≠ L → Hb.get? a = none → s.heap.get? a = some o → a < dx) → dx < x → dx < dm → dx < dk →
      Inst 20 h' x dx 50 [("number", .int place tp'), ("moves", .ref dm), ("masks", .ref dk)] → ID w h' dm [] → ID w h' dk [] → Q (.ref x) { s with heap := h', toks := tk }) :
    wpAny (model PP w) A (call (.ref 50) [.int place tp, .ref kt, .int (-1) tn]) Q NoE s := by
  obtain ⟨hd0, dp, frs, gds, un⟩ := A
  obtain rfl : hd0 = none := R.hh
  obtain ⟨Rl, NR, hR⟩ := all_news Hb s.heap L
  refine call_cls F W.X NR kf.mS kf.iS kf.fS (fun x dx h₁ F1 N1 hlo hlt => ?_)
  have k1 := all_kept F1 N1 hR (fun p hp => .tail _ (.tail _ hp)) F.keep
  have hx := (N1 _ (.head _)).1
  have hdx := (N1 _ (.tail _ (.head _))).1
  have R2 := rm_make (C := 50) (c := [.int place tp, .ref kt, .int (-1) tn]) R
  have W1 := W.keeps F1.keep
  refine code_fn (binds := [("self", .ref x), ("number", .int place tp), ("kernel", .ref kt), ("symbol", .int (-1) tn)]) W1.state W1.lim (by have := R2.depth; exact Nat.lt_of_lt_of_le (Nat.lt_add_of_pos_right (by decide)) this) (fun _ _ _ _ _ => rfl) (by
    intro y hy
    rcases List.mem_cons.mp hy with rfl | hy
    · rfl
    rcases List.mem_cons.mp hy with rfl | hy
    · rfl
    rcases List.mem_cons.mp hy with rfl | hy
    · rfl
    rw [List.mem_singleton.mp hy]; rfl) (fun cdv h₂ F2' => ?_) (by decide +kernel) (by rfl) (by rfl) (by rfl)
  dsimp only at F2' ⊢
  have F2 : Fr Hb h₁.objs.size h₂ _ := ⟨F2'.ns, fun b o e => F2'.keep b o (F1.keep b o e), Nat.le_of_lt (Nat.lt_of_le_of_lt F1.above F1.ns.lt)⟩
  have k2 := F2'.keep
  have hxL : x ≠ h₁.objs.size := Nat.ne_of_lt (Heap.lt_size hx)
  have hdL : dx ≠ h₁.objs.size := Nat.ne_of_lt (Heap.lt_size hdx)
  have hd0 : Hb.get? dx = none := (N1 _ (.tail _ (.head _))).2.2
  have I0 : Inst 0 h₂ x dx 50 [] := ⟨[], 0, k2 _ _ hx, k2 _ _ hdx, (fun p hp => by cases hp), rfl, Nat.le_refl _, rfl⟩
  have hxd : x ≠ dx := Nat.ne_of_gt hlt
  generalize hLd : h₁.objs.size = L' at *
  have KX := W.X
  clear W1 F2'
  -- number
  refine wpAny_execs_cons (plainObj_wpAny_Assign_Attribute ?_ rfl)
  iterate 2 walk1
  refine inst_set W.X F2 I0 hd0 hdL hxd kf.sS kf.pS kf.t1 kf.dS (by decide) (by decide) (fun h₃ F3 k3 I3 => ?_)
  replace I3 := I3 [("number", .int place tp)] (fun p hp => .inl (by rw [List.mem_singleton.mp hp]; exact ⟨rfl, rfl⟩)) hxL
  have ktL : ∀ (b : Addr) (its : Array Value) (c : Nat), s.heap.get? b = some { cls := .type "tuple", data := .seq its c } → b ≠ L := fun b its c e q => by
    obtain ⟨o, es, ep, ho, hd, _⟩ := F.ns
    rw [← q, e] at ho; cases ho; cases hd
  have ktd : ∀ (b : Addr) (its : Array Value) (c : Nat), h₁.get? b = some { cls := .type "tuple", data := .seq its c } → b ≠ dx := fun b its c e q => by
    exact ne_of_two e hdx (by intro h; injection h with h; exact absurd h (by decide)) q
  have hkt1 := k1 _ _ (ktL _ _ _ hkt) hkt
  have hkp1 := k1 _ _ (ktL _ _ _ hkp) hkp
  have ltL : ∀ (b : Addr) o, h₁.get? b = some o → b ≠ L' := fun b o e => by
    have := Heap.lt_size e
    exact Nat.ne_of_lt (by rw [← hLd]; exact this)
  have kk3 : ∀ b o, b ≠ L' → b ≠ dx → h₂.get? b = some o → h₃.get? b = some o := k3
  -- kernel
  refine wpAny_execs_cons (plainObj_wpAny_Assign_Attribute ?_ rfl)
  iterate 2 walk1
  refine inst_set W.X F3 I3 hd0 hdL hxd kf.sS kf.pS kf.t2 kf.dS (by decide) (by decide) (fun h₄ F4 k4 I4 => ?_)
  replace I4 := I4 [("number", .int place tp)] (fun p hp => .inr (by rw [List.mem_singleton.mp hp]; exact ⟨show ("number" : Str) ≠ "kernel" by decide, .head _⟩)) hxL
  have kk4 : ∀ b o, b ≠ L' → b ≠ dx → h₂.get? b = some o → h₄.get? b = some o := fun b o q1 q2 e => k4 b o q1 q2 (kk3 b o q1 q2 e)
  have hkt4 := kk4 _ _ (ltL _ _ hkt1) (ktd _ _ _ hkt1) (k2 _ _ hkt1)
  have hkp4 := kk4 _ _ (ltL _ _ hkp1) (ktd _ _ _ hkp1) (k2 _ _ hkp1)
  -- core
  have B4 := F4.keep
  refine wpAny_execs_cons (plainObj_wpAny_Assign_Attribute ?_ rfl)
  iterate 4 walk1
  refine ListComp_raw rfl (by decide +kernel) rfl (by decide +kernel) rfl (fun _ => rfl) ?_
  iterate 1 walk1
  refine wpAny_pyIter_tuple (items := [Value.ref kp].toArray) ⟨_, hkt4, rfl, _, rfl⟩ ?_
  dsimp only
  have kI : ∀ b o, h₄.get? b = some o → (h₄.push { cls := .type "tuple_iterator", data := .fields #[.ref kt, .int 0 0] }).get? b = some o := fun b o e => Heap.get?_push_of_some _ e
  have hps : (h₄.push { cls := .type "tuple_iterator", data := .fields #[.ref kt, .int 0 0] }).objs.size = h₄.objs.size + 1 := Heap.size_push ..
  have hktI : kt < h₄.objs.size := Heap.lt_size hkt4
  refine ⟨h₄.objs.size, [h₄.objs.size, kt], 1, _, _, rfl, Walks.tuple rfl h₄.objs.size kt (Nat.ne_of_lt hktI) [Value.ref kp].toArray, by decide, ⟨⟨_, Heap.get?_push_size _ rfl, rfl, rfl⟩, ⟨_, kI _ _ hkt4, rfl, _, rfl⟩⟩, ?_,
      fun k ys h' => (∀ b o, h₄.get? b = some o → h'.get? b = some o) ∧ ys.length = k, ?_, ?_, ?_, ?_⟩
  · dsimp only; rw [hps]
    intro b hb
    rcases List.mem_cons.mp hb with rfl | hb
    · exact Nat.lt_succ_self _
    · rw [List.mem_singleton.mp hb]; exact Nat.lt_succ_of_lt hktI
  · exact ⟨kI, rfl⟩
  · dsimp only; rw [hps]
    rintro k ys h' h'' ⟨b1, b2⟩ hkk
    refine ⟨fun b o e => hkk b o ?_ ?_ ?_ (b1 b o e), b2⟩
    · exact Nat.ne_of_lt (Heap.lt_size e)
    · exact Nat.ne_of_lt (Nat.lt_succ_of_lt (Heap.lt_size e))
    · exact Nat.ne_of_lt (Nat.lt_succ_of_lt (Nat.lt_succ_of_lt (Heap.lt_size e)))
  · dsimp only
    generalize hC : (h₄.push { cls := .type "tuple_iterator", data := .fields #[.ref kt, .int 0 0] }).objs.size + 1 = C
    rintro k v ys h' tk5 m2 hk hP hSt5 ⟨b1, b2⟩ hn2 hm2 hsz
    obtain rfl : k = 0 := Nat.lt_one_iff.mp hk
    obtain rfl : v = .ref kp := by simpa using hP.symm
    refine tests_nil ?_
    rw [if_pos rfl]
    iterate 3 walk1
    refine item_tuple (items := [Value.int 7 t7, .int 1 t1].toArray) (j := 0) (x := .int 7 t7) ⟨_, b1 _ _ hkp4, rfl, _, rfl⟩ (by decide) (by decide) rfl rfl ?_
    exact ⟨h', _, rfl, fun _ _ _ e => e, b1, by rw [List.length_append, b2]; rfl⟩
  · dsimp only
    rw [hps]
    rintro h' tk5 ys ⟨b1, b2⟩ hD h₅ hk5
    have k45 : ∀ b o, h₄.get? b = some o → h₅.get? b = some o := fun b o e => hk5 b o (Nat.ne_of_lt (Nat.lt_succ_of_lt (Nat.lt_succ_of_lt (Heap.lt_size e)))) (b1 b o e)
    have hD5 := hk5 _ _ (Nat.ne_of_lt (Nat.lt_succ_self _)) hD
    have F5 := F4.keeps k45
    have B5 := F5.keep
    iterate 1 walk1
    refine call_tuple_list (items := ys.toArray) ⟨_, hD5, rfl, _, rfl⟩ (fun h₆ k6 => ?_) (by rw [List.size_toArray, sizeLine_eq]; omega)
    have k46 : ∀ b o, h₄.get? b = some o → (h₆.push { cls := .type "tuple", data := .seq ys.toArray }).get? b = some o := fun b o e => Heap.get?_push_of_some _ (k6 b o (k45 b o e))
    have F6 := F4.keeps k46
    generalize h₆.push { cls := .type "tuple", data := .seq ys.toArray } = h₇ at *
    have I7 : Inst 2 h₇ x dx 50 _ := I4.at (k46 x) (k46 dx)
    have B7 := F6.keep
    clear B5 F5
    iterate 1 walk1
    refine inst_set W.X F6 I7 hd0 hdL hxd kf.sS kf.pS kf.t3 kf.dS (by decide) (by decide) (fun h₈ F8 k8 I8 => ?_)
    replace I8 := I8 [("number", .int place tp)] (fun p hp => .inr (by rw [List.mem_singleton.mp hp]; exact ⟨show ("number" : Str) ≠ "core" by decide, .head _⟩)) hxL
    have kk8 : ∀ b o, b ≠ L' → b ≠ dx → h₂.get? b = some o → h₈.get? b = some o := fun b o q1 q2 e => k8 b o q1 q2 (k46 _ _ (kk4 b o q1 q2 e))
    clear B7 B4
    -- symbol
    refine wpAny_execs_cons (plainObj_wpAny_Assign_Attribute ?_ rfl)
    iterate 2 walk1
    refine inst_set W.X F8 I8 hd0 hdL hxd kf.sS kf.pS kf.t4 kf.dS (by decide) (by decide) (fun h₉ F9 k9 I9 => ?_)
    replace I9 := I9 [("number", .int place tp)] (fun p hp => .inr (by rw [List.mem_singleton.mp hp]; exact ⟨show ("number" : Str) ≠ "symbol" by decide, .head _⟩)) hxL
    have kk9 : ∀ b o, b ≠ L' → b ≠ dx → h₂.get? b = some o → h₉.get? b = some o := fun b o q1 q2 e => k9 b o q1 q2 (kk8 b o q1 q2 e)
    -- items
    refine wpAny_execs_cons (plainObj_wpAny_Assign_Attribute (wpAny_Dict_empty ?_) rfl)
    have F9' := F9.push { cls := .type "dict", data := .dict #[] }
    iterate 1 walk1
    refine inst_set W.X F9' (I9.at (fun o e => Heap.get?_push_of_some _ e) fun o e => Heap.get?_push_of_some _ e) hd0 hdL hxd kf.sS kf.pS kf.t5 kf.dS (by decide) (by decide) (fun ha Fa ka Ia => ?_)
    replace Ia := Ia [("number", .int place tp)] (fun p hp => .inr (by rw [List.mem_singleton.mp hp]; exact ⟨show ("number" : Str) ≠ "items" by decide, .head _⟩)) hxL
    have kka : ∀ b o, b ≠ L' → b ≠ dx → h₂.get? b = some o → ha.get? b = some o := fun b o q1 q2 e => ka b o q1 q2 (Heap.get?_push_of_some _ (kk9 b o q1 q2 e))
    clear F9'
    -- moves
    refine wpAny_execs_cons (plainObj_wpAny_Assign_Attribute (wpAny_Dict_empty ?_) rfl)
    have Fa' := Fa.push { cls := .type "dict", data := .dict #[] }
    iterate 1 walk1
    refine inst_set W.X Fa' (Ia.at (fun o e => Heap.get?_push_of_some _ e) fun o e => Heap.get?_push_of_some _ e) hd0 hdL hxd kf.sS kf.pS kf.t6 kf.dS (by decide) (by decide) (fun hb Fb kb Ib => ?_)
    replace Ib := Ib [("number", .int place tp), ("moves", .ref ha.objs.size)] (fun p hp => by
      rcases List.mem_cons.mp hp with rfl | hp
      · exact .inr ⟨show ("number" : Str) ≠ "moves" by decide, .head _⟩
      · rw [List.mem_singleton.mp hp]; exact .inl ⟨rfl, rfl⟩) hxL
    have kkb : ∀ b o, b ≠ L' → b ≠ dx → h₂.get? b = some o → hb.get? b = some o := fun b o q1 q2 e => kb b o q1 q2 (Heap.get?_push_of_some _ (kka b o q1 q2 e))
    have hL'a : L' < ha.objs.size := Fa.ns.lt
    have hdxa : dx < ha.objs.size := by obtain ⟨_, _, _, e, _⟩ := Ia; exact Heap.lt_size e
    have hdMb := kb _ _ (Nat.ne_of_gt hL'a) (Nat.ne_of_gt hdxa) (Heap.get?_push_size ha (o := { cls := .type "dict", data := .dict #[] }) rfl)
    have hnone : ∀ b : Addr, L' < b → s.heap.get? b = none := fun b hb => by
      cases q : s.heap.get? b with
      | none => rfl
      | some o =>
        have hLb : b ≠ L := fun e => by
          have h1 : L < h₁.objs.size := F1.ns.lt
          rw [hLd] at h1
          rw [e] at hb
          exact absurd (Nat.lt_trans h1 hb) (Nat.lt_irrefl _)
        have h2 := Heap.lt_size (k1 _ _ hLb q)
        rw [hLd] at h2
        exact absurd (Nat.lt_trans h2 hb) (Nat.lt_irrefl _)
    have hdMs := hnone _ hL'a
    clear Fa'
    generalize ha.objs.size = dM at *
    -- reductions
    refine wpAny_execs_cons (plainObj_wpAny_Assign_Attribute ?_ rfl)
    iterate 2 walk1
    refine wpAny_newObj_type ?_
    dsimp only
    have Fb' := Fb.push { cls := .type "list", data := .seq ([] : List Value).toArray }
    iterate 1 walk1
    refine inst_set W.X Fb' (Ib.at (fun o e => Heap.get?_push_of_some _ e) fun o e => Heap.get?_push_of_some _ e) hd0 hdL hxd kf.sS kf.pS kf.t7 kf.dS (by decide) (by decide) (fun hc Fc kc Ic => ?_)
    replace Ic := Ic [("number", .int place tp), ("moves", .ref dM)] (fun p hp => by
      rcases List.mem_cons.mp hp with rfl | hp
      · exact .inr ⟨show ("number" : Str) ≠ "reductions" by decide, .head _⟩
      · rw [List.mem_singleton.mp hp]; exact .inr ⟨show ("moves" : Str) ≠ "reductions" by decide, .tail _ (.head _)⟩) hxL
    have kkc : ∀ b o, b ≠ L' → b ≠ dx → h₂.get? b = some o → hc.get? b = some o := fun b o q1 q2 e => kc b o q1 q2 (Heap.get?_push_of_some _ (kkb b o q1 q2 e))
    have hdMc := kc _ _ (Nat.ne_of_gt hL'a) (Nat.ne_of_gt hdxa) (Heap.get?_push_of_some _ hdMb)
    clear Fb'
    -- masks
    refine wpAny_execs_cons (plainObj_wpAny_Assign_Attribute (wpAny_Dict_empty ?_) rfl)
    have Fc' := Fc.push { cls := .type "dict", data := .dict #[] }
    iterate 1 walk1
    refine inst_set W.X Fc' (Ic.at (fun o e => Heap.get?_push_of_some _ e) fun o e => Heap.get?_push_of_some _ e) hd0 hdL hxd kf.sS kf.pS kf.t8 kf.dS (by decide) (by decide) (fun he Fe ke Ie => ?_)
    replace Ie := Ie [("number", .int place tp), ("moves", .ref dM), ("masks", .ref hc.objs.size)] (fun p hp => by
      rcases List.mem_cons.mp hp with rfl | hp
      · exact .inr ⟨show ("number" : Str) ≠ "masks" by decide, .head _⟩
      rcases List.mem_cons.mp hp with rfl | hp
      · exact .inr ⟨show ("moves" : Str) ≠ "masks" by decide, .tail _ (.head _)⟩
      · rw [List.mem_singleton.mp hp]; exact .inl ⟨rfl, rfl⟩) hxL
    have kke : ∀ b o, b ≠ L' → b ≠ dx → h₂.get? b = some o → he.get? b = some o := fun b o q1 q2 e => ke b o q1 q2 (Heap.get?_push_of_some _ (kkc b o q1 q2 e))
    have hL'c : L' < hc.objs.size := Fc.ns.lt
    have hdxc : dx < hc.objs.size := by obtain ⟨_, _, _, e, _⟩ := Ic; exact Heap.lt_size e
    have hdMe := ke _ _ (Nat.ne_of_gt hL'a) (Nat.ne_of_gt hdxa) (Heap.get?_push_of_some _ hdMc)
    have hdKe := ke _ _ (Nat.ne_of_gt hL'c) (Nat.ne_of_gt hdxc) (Heap.get?_push_size hc (o := { cls := .type "dict", data := .dict #[] }) rfl)
    have hMK : dM < hc.objs.size := Heap.lt_size hdMc
    iterate 1 walk1
    have hdKs := hnone _ hL'c
    have hbig : 1 < L' := Nat.lt_trans (by decide) (Nat.lt_of_lt_of_le (big_of W) F2.above)
    have hxs : s.heap.get? x = none := by
      cases q : s.heap.get? x with
      | none => rfl
      | some o => exact absurd (Nat.lt_trans (hlo _ (hR _ _ (N1 _ (.head _)).2.1 (N1 _ (.head _)).2.2 q)) hlt) (Nat.lt_irrefl _)
    have hdxs : s.heap.get? dx = none := by
      cases q : s.heap.get? dx with
      | none => rfl
      | some o => exact absurd (hlo _ (hR _ _ (N1 _ (.tail _ (.head _))).2.1 (N1 _ (.tail _ (.head _))).2.2 q)) (Nat.lt_irrefl _)
    have hLL : L ≠ L' := by rw [← hLd]; exact Nat.ne_of_lt F1.ns.lt
    have hLdx : L ≠ dx := Ne.symm (N1 _ (.tail _ (.head _))).2.1
    refine ⟨rfl, hQ x dx dM hc.objs.size he _ tp ⟨F1.ns.at' fun o e => kke L o hLL hLdx (k2 _ _ e), Fe.keep, F.above⟩ (fun b o hb e => kke b o (ltL _ _ (k1 _ _ hb e)) ?_ (k2 _ _ (k1 _ _ hb e))) hxs hdxs hdMs hdKs (Nat.ne_of_lt hdxa) (Nat.ne_of_lt hdxc) (Nat.ne_of_lt hMK) (fun a o h1 h2 h3 => hlo _ (hR a o h1 h2 h3)) hlt hdxa hdxc ?_ (ID.of_empty hdMe (Nat.lt_trans hbig hL'a)) (ID.of_empty hdKe (Nat.lt_trans hbig hL'c))⟩
    · intro q; rw [q, hdxs] at e; cases e
    · obtain ⟨es, n, q1, q2, q3, q4, q5, q6⟩ := Ie
      exact ⟨es, n, q1, q2, q3, q4, by omega, q6⟩
end

section
variable {w : World} {A : Around} {E : Value → Shared → Prop} {s : Shared} {K : Frag}

set_option maxHeartbeats 4000000 in
theorem auto_spec {Hb : Heap} {L : Addr} {m : Str → Option Value} (W : W0 K w Hb) (kf : KF K) (F : Fr Hb L s.heap m) (R : Rm A 5) {ls : Addr} {Q : Value → Shared → Prop}
    (hQ : ∀ x dx h' tk, Fr Hb L h' m → (∀ b o, b ≠ L → s.heap.get? b = some o → h'.get? b = some o) → s.heap.get? x = none → s.heap.get? dx = none →
      Inst 20 h' x dx 92 [("states", .ref ls)] → Q (.ref x) { s with heap := h', toks := tk }) :
    wpAny (model PP w) A (call (.ref 92) [.none, .ref ls]) Q NoE s := by
  obtain ⟨hd0, dp, frs, gds, un⟩ := A
  obtain rfl : hd0 = none := R.hh
  obtain ⟨Rl, NR, hR⟩ := all_news Hb s.heap L
  refine call_cls F W.X NR kf.mA kf.iA kf.fA (fun x dx h₁ F1 N1 hlo hlt => ?_)
  have k1 := all_kept F1 N1 hR (fun p hp => .tail _ (.tail _ hp)) F.keep
  have hx := (N1 _ (.head _)).1
  have hdx := (N1 _ (.tail _ (.head _))).1
  have R2 := rm_make (C := 92) (c := [.none, .ref ls]) R
  have W1 := W.keeps F1.keep
  refine code_fn (binds := [("self", .ref x), ("grammar", .none), ("states", .ref ls)]) W1.auto W1.lim (by have := R2.depth; exact Nat.lt_of_lt_of_le (Nat.lt_add_of_pos_right (by decide)) this) (fun _ _ _ _ _ => rfl) (by
    intro y hy
    rcases List.mem_cons.mp hy with rfl | hy
    · rfl
    rcases List.mem_cons.mp hy with rfl | hy
    · rfl
    rw [List.mem_singleton.mp hy]; rfl) (fun cdv h₂ F2' => ?_) (by decide +kernel) (by rfl) (by rfl) (by rfl)
  dsimp only at F2' ⊢
  have F2 : Fr Hb h₁.objs.size h₂ _ := ⟨F2'.ns, fun b o e => F2'.keep b o (F1.keep b o e), Nat.le_of_lt (Nat.lt_of_le_of_lt F1.above F1.ns.lt)⟩
  have k2 := F2'.keep
  have hxL : x ≠ h₁.objs.size := Nat.ne_of_lt (Heap.lt_size hx)
  have hdL : dx ≠ h₁.objs.size := Nat.ne_of_lt (Heap.lt_size hdx)
  have hd0 : Hb.get? dx = none := (N1 _ (.tail _ (.head _))).2.2
  have I0 : Inst 0 h₂ x dx 92 [] := ⟨[], 0, k2 _ _ hx, k2 _ _ hdx, (fun p hp => by cases hp), rfl, Nat.le_refl _, rfl⟩
  have hxd : x ≠ dx := Nat.ne_of_gt hlt
  generalize hLd : h₁.objs.size = L' at *
  have KX := W.X
  clear W1 F2'
  refine wpAny_execs_cons (plainObj_wpAny_Assign_Attribute ?_ rfl)
  iterate 2 walk1
  refine inst_set W.X F2 I0 hd0 hdL hxd kf.sA kf.pA kf.t9 kf.dA (by decide) (by decide) (fun h₃ F3 k3 I3 => ?_)
  replace I3 := I3 [] (fun p hp => by cases hp) hxL
  refine wpAny_execs_cons (plainObj_wpAny_Assign_Attribute ?_ rfl)
  iterate 2 walk1
  refine inst_set W.X F3 I3 hd0 hdL hxd kf.sA kf.pA kf.t10 kf.dA (by decide) (by decide) (fun h₄ F4 k4 I4 => ?_)
  replace I4 := I4 [("states", .ref ls)] (fun p hp => .inl (by rw [List.mem_singleton.mp hp]; exact ⟨rfl, rfl⟩)) hxL
  have ltL : ∀ (b : Addr) o, h₁.get? b = some o → b ≠ L' := fun b o e => by
    have := Heap.lt_size e
    exact Nat.ne_of_lt (by rw [← hLd]; exact this)
  have kke : ∀ b o, b ≠ L' → b ≠ dx → h₂.get? b = some o → h₄.get? b = some o := fun b o q1 q2 e => k4 b o q1 q2 (k3 b o q1 q2 e)
  iterate 1 walk1
  have hxs : s.heap.get? x = none := by
    cases q : s.heap.get? x with
    | none => rfl
    | some o => exact absurd (Nat.lt_trans (hlo _ (hR _ _ (N1 _ (.head _)).2.1 (N1 _ (.head _)).2.2 q)) hlt) (Nat.lt_irrefl _)
  have hdxs : s.heap.get? dx = none := by
    cases q : s.heap.get? dx with
    | none => rfl
    | some o => exact absurd (hlo _ (hR _ _ (N1 _ (.tail _ (.head _))).2.1 (N1 _ (.tail _ (.head _))).2.2 q)) (Nat.lt_irrefl _)
  have hLL : L ≠ L' := by rw [← hLd]; exact Nat.ne_of_lt F1.ns.lt
  have hLdx : L ≠ dx := Ne.symm (N1 _ (.tail _ (.head _))).2.1
  refine ⟨rfl, hQ x dx h₄ _ ⟨F1.ns.at' fun o e => kke L o hLL hLdx (k2 _ _ e), F4.keep, F.above⟩ (fun b o hb e => kke b o (ltL _ _ (k1 _ _ hb e)) ?_ (k2 _ _ (k1 _ _ hb e))) hxs hdxs ?_⟩
  · intro q; rw [q, hdxs] at e; cases e
  · obtain ⟨es, n, q1, q2, q3, q4, q5, q6⟩ := I4
    exact ⟨es, n, q1, q2, q3, q4, by omega, q6⟩
end

section
variable {w : World} {A : Around} {E : Value → Shared → Prop} {s : Shared} {K : Frag}

theorem id_get {d : Addr} {kvs : List (Int × Value)} {k : Int} {t : Tok} {dflt : Value} {Q : Value → Shared → Prop} (hm : ID w s.heap d kvs) (h : Q ((valueAt kvs k).getD dflt) { s with toks := s.toks + 1 }) :
    wpAny (model PP w) A (call (.builtin "dict.get") [.ref d, .int k t, dflt]) Q E s :=
  call_meetsIn PySem.F.slot_dict_get hm.1.typeIs PySem.F.entry_dict_get (PySem.F.args_dict_get_3 _ _ _) (meets_dict_get_default (intKind PP w) d (intKind_is PP w k t) hm.2 dflt) ⟨valueAt kvs, hm.1.mapOf, h⟩

theorem lst_item {value slice : Expr} {a : Addr} {l : List Value} {k : Int} {u : Tok} {x : Value} {Q : Value → Shared → Prop} (hl : s.heap.IsList a l.toArray)
    (h0 : 0 ≤ k) (hfit : k < 2 ^ 63) (hx : l[k.toNat]? = some x) (h : Q x s)
    (hs : subscripted slice false (.ref a) (.int k u) = operate [.ref a, .int k u] (getItem (.ref a) (.int k u))) :
    wpAny (model PP w) A (subscriptTail value slice (.ref a) (.int k u)) Q E s :=
  tail_any hl.typeIs slot_list_getitem.lookup (wpAny_getItem_list hl h0 hfit (by simpa using hx) h) hs

set_option maxHeartbeats 4000000 in
theorem goto_spec (W : W0 K w s.heap) (kf : KF K) (R : Rm A 3) {j j' : Nat} {x dx ls sx dsx dm : Addr} {vals : List (Str × Value)} {vs : List Value} {cn : Nat} {ti tk' : Tok} {i : Nat} {k : Int} {kvm : List (Int × Value)}
    (I : Inst j s.heap x dx 92 [("states", .ref ls)]) (hls : s.heap.get? ls = some (listOf vs.toArray cn)) (hi : vs[i]? = some (.ref sx)) (hi2 : i < 1000) (I2 : Inst j' s.heap sx dsx 50 vals) (hv : (("moves" : Str), Value.ref dm) ∈ vals) (hm : ID w s.heap dm kvm) {Q : Value → Shared → Prop}
    (hQ : ∀ h' tk t', (∀ b o, s.heap.get? b = some o → h'.get? b = some o) → Q ((valueAt kvm k).getD (.int (-1) t')) { s with heap := h', toks := tk }) :
    wpAny (model PP w) A (call (.ref 82) [.ref x, .int i ti, .int k tk']) Q NoE s := by
  obtain ⟨hd0, dp, frs, gds, un⟩ := A
  obtain rfl : hd0 = none := R.hh
  refine call_fn (binds := [("self", .ref x), ("state", .int i ti), ("symbol", .int k tk')]) W.goto W.lim (by have := R.depth; omega) (fun _ _ _ _ _ => rfl) (by
    intro y hy
    rcases List.mem_cons.mp hy with rfl | hy
    · rfl
    rcases List.mem_cons.mp hy with rfl | hy
    · rfl
    rw [List.mem_singleton.mp hy]; rfl) (fun cdv h₁ F => ?_) (by decide +kernel) (by rfl) (by rfl) (by rfl)
  have KX := W.X
  have k1 := F.keep
  refine wpAny_execs_cons ?_
  iterate 6 walk1
  refine inst_get W.X k1 (I.at (k1 _) (k1 _)) (.head _) kf.gA kf.dA kf.n4 rfl ?_
  iterate 1 walk1
  refine lst_item (l := vs) (x := .ref sx) ⟨_, k1 _ _ hls, rfl, _, rfl⟩ (by omega) (by omega) (by simpa using hi) ?_ (by with_unfolding_all rfl)
  refine inst_get W.X k1 (I2.at (k1 _) (k1 _)) hv kf.gS kf.dS kf.n2 rfl ?_
  refine id_method PySem.F.slot_dict_get PySem.F.type_dict_get (hm.keep k1) ?_
  iterate 8 walk1
  refine id_get (hm.keep k1) ?_
  exact hQ h₁ _ _ k1
end

structure SD where
  num : Int
  kvm : List (Int × Value)
  ms : List (Int × Int)

def clOf (kvm : List (Int × Value)) (ms : List (Int × Int)) : List (Int × List Int) :=
  foundOf (fun t => (valueAt kvm t).isSome) (claimsOf ms (srt (ms.map (·.1)))) (srt ((claimsOf ms (srt (ms.map (·.1)))).map (·.1)))
def dTrip (n : Int) (p : Int × List Int) : PyData := .tuple [.int n, .int p.1, .tuple (p.2.map .int)]
def tripsOf (d : SD) : List PyData := (clOf d.kvm d.ms).map (dTrip d.num)
def tripsUp (ds : List SD) : Nat → List PyData
  | 0 => []
  | n + 1 => tripsUp ds n ++ (match ds[n]? with | some d => tripsOf d | none => [])

theorem step_small : ∀ (ts : List Int) (K : Nat) (cl : List (Int × List Int)) (r : Int), Small K cl → (∀ t ∈ ts, (0 : Int) ≤ t ∧ t < 10) → Small (K + ts.length) (stepRule cl r ts)
  | [], K, cl, r, h, _ => h
  | t :: ts, K, cl, r, h, ht => by
    have h1 := ht t (.head _)
    have := step_small ts (K + 1) (addClaim cl t r) r (h.add h1.1 h1.2 r) fun u hu => ht u (.tail _ hu)
    show Small (K + (ts.length + 1)) (stepRule (addClaim cl t r) r ts)
    exact this.mono (by omega)
theorem claims_small (ms : List (Int × Int)) : ∀ (rules : List Int) (K : Nat) (cl : List (Int × List Int)), Small K cl → Small (K + 10 * rules.length) (rules.foldl (fun cl r => (bitsGo 10 0 (maskOf ms r)).foldl (fun cl t => addClaim cl t r) cl) cl)
  | [], K, cl, h => h
  | r :: rules, K, cl, h => by
    have h1 := step_small (bitsGo 10 0 (maskOf ms r)) K cl r h fun t ht => by have := bitsGo_in 10 0 _ t ht; omega
    have h2 := claims_small ms rules _ _ (h1.mono (K' := K + 10) (by have := bitsGo_len 10 0 (maskOf ms r); omega))
    show Small _ (rules.foldl _ (stepRule cl r (bitsGo 10 0 (maskOf ms r))))
    refine h2.mono ?_
    rw [List.length_cons]; omega
theorem clOf_len (kvm : List (Int × Value)) (ms : List (Int × Int)) : (clOf kvm ms).length ≤ 10 := by
  have h1 : Small _ (claimsOf ms (srt (ms.map (·.1)))) := claims_small ms (srt (ms.map (·.1))) 0 [] ⟨⟨.nil, fun t ht => by cases ht⟩, fun p hp => by cases hp⟩
  have h2 := h1.len
  have h3 := foundOf_len (fun t => (valueAt kvm t).isSome) (claimsOf ms (srt (ms.map (·.1)))) (srt ((claimsOf ms (srt (ms.map (·.1)))).map (·.1)))
  have h4 := (srt_perm ((claimsOf ms (srt (ms.map (·.1)))).map (·.1))).length_eq
  rw [List.length_map] at h4
  unfold clOf; omega
theorem tripsUp_len (ds : List SD) : ∀ n, (tripsUp ds n).length ≤ 10 * n
  | 0 => Nat.le_refl _
  | n + 1 => by
    have h1 := tripsUp_len ds n
    show (tripsUp ds n ++ _).length ≤ _
    rw [List.length_append]
    split
    · rename_i d _
      have h2 := clOf_len d.kvm d.ms
      unfold tripsOf
      rw [List.length_map]; omega
    · simp; omega

theorem TVals.get {h : Heap} {lo : Addr} {kvs fl} (x : TVals h lo kvs fl) : ∀ {i : Nat} {k : Int} {v : Value}, kvs[i]? = some (k, v) → ∃ rs a vs n, v = .ref a ∧ fl[i]? = some (k, rs) ∧ lo < a ∧ h.get? a = some { cls := .type "tuple", data := .seq vs.toArray n } ∧ IntsAre vs rs := by
  induction x with
  | nil => intro i k v e; simp at e
  | @cons t rs kvs fl a vs n h1 h2 h3 _ ih =>
    intro i k v e
    cases i with
    | zero =>
      simp only [List.getElem?_cons_zero, Option.some.injEq, Prod.mk.injEq] at e
      obtain ⟨rfl, rfl⟩ := e
      exact ⟨rs, a, vs, n, rfl, rfl, h1, h2, h3⟩
    | succ i => simpa using ih (by simpa using e)
theorem TVals.len {h : Heap} {lo : Addr} {kvs fl} (x : TVals h lo kvs fl) : kvs.length = fl.length := by
  induction x with
  | nil => rfl
  | cons _ _ _ _ ih => simp [ih]
theorem valueAt_get {kvs : List (Int × Value)} (hn : (kvs.map (·.1)).Nodup) : ∀ {i : Nat} {k : Int} {v : Value}, kvs[i]? = some (k, v) → valueAt kvs k = some v := by
  induction kvs with
  | nil => intro i k v e; simp at e
  | cons p r ih =>
    intro i k v e
    rw [List.map_cons, List.nodup_cons] at hn
    rw [valueAt_cons]
    cases i with
    | zero =>
      simp only [List.getElem?_cons_zero, Option.some.injEq] at e
      subst e; exact if_pos rfl
    | succ i =>
      have e' : r[i]? = some (k, v) := by simpa using e
      rw [if_neg]
      · exact ih hn.2 e'
      · intro q
        exact hn.1 (q ▸ List.mem_map.mpr ⟨(k, v), List.mem_of_getElem? e', rfl⟩)

section
variable {w : World} {A : Around} {E : Value → Shared → Prop} {s : Shared} {K : Frag}

theorem clashes_cl (W : W0 K w s.heap) (R : Rm A 4) {dm dk : Addr} {kvm kvk : List (Int × Value)} {ms : List (Int × Int)} (hm : ID w s.heap dm kvm) (hk : ID w s.heap dk kvk) (hi : Ints kvk ms) (hb : ∀ p ∈ ms, 0 ≤ p.2 ∧ p.2 < 512) (hn : ms.length < 60) {Q : Value → Shared → Prop}
    (hQ : ∀ D h' tk kvf, (∀ b o, s.heap.get? b = some o → h'.get? b = some o) → s.heap.get? D = none → ID w h' D kvf → TVals h' s.heap.objs.size kvf (clOf kvm ms) → Q (.ref D) { s with heap := h', toks := tk }) :
    wpAny (model PP w) A (call (.ref 103) [.ref dm, .ref dk]) Q E s := by
  refine clashes_spec W R hm hk hi hb hn fun D h' tk kvf ns ts h1 h2 h3 h4 p1 s1 p2 s2 => hQ D h' tk kvf h1 h2 h3 ?_
  obtain rfl := eq_srt p1 s1
  obtain rfl := eq_srt p2 s2
  exact h4

def TGet (h : Heap) (P : Addr → Prop) (kvs : List (Int × Value)) (fl : List (Int × List Int)) : Prop :=
  ∀ (i : Nat) (k : Int) (v : Value), kvs[i]? = some (k, v) → ∃ rs a vs n, v = .ref a ∧ fl[i]? = some (k, rs) ∧ P a ∧ h.get? a = some { cls := .type "tuple", data := .seq vs.toArray n } ∧ IntsAre vs rs
theorem TGet.at {h h' : Heap} {P P' : Addr → Prop} {kvs fl} (x : TGet h P kvs fl) (k : ∀ a o, P a → o.cls = .type "tuple" → h.get? a = some o → h'.get? a = some o) (l : ∀ a o, P a → o.cls = .type "tuple" → h.get? a = some o → P' a) : TGet h' P' kvs fl := by
  intro i kk v e
  obtain ⟨rs, a, vs, n, h1, h2, h3, h4, h5⟩ := x i kk v e
  exact ⟨rs, a, vs, n, h1, h2, l _ _ h3 rfl h4, k _ _ h3 rfl h4, h5⟩

def StOk (w : World) (h : Heap) (v : Value) (d : SD) : Prop :=
  ∃ sx dsx dm dk kvk j tn, v = .ref sx ∧ Inst j h sx dsx 50 [("number", .int d.num tn), ("moves", .ref dm), ("masks", .ref dk)] ∧ ID w h dm d.kvm ∧ ID w h dk kvk ∧ Ints kvk d.ms ∧ (∀ p ∈ d.ms, 0 ≤ p.2 ∧ p.2 < 512) ∧ d.ms.length < 60
theorem StOk.keep {h h' : Heap} {v : Value} {d : SD} (x : StOk w h v d) (k : ∀ b o, h.get? b = some o → h'.get? b = some o) : StOk w h' v d := by
  obtain ⟨sx, dsx, dm, dk, kvk, j, tn, a, b, c, e, f⟩ := x
  exact ⟨sx, dsx, dm, dk, kvk, j, tn, a, b.at (k _) (k _), c.keep k, e.keep k, f⟩
def StsOk (w : World) (h : Heap) (vs : List Value) (ds : List SD) : Prop := vs.length = ds.length ∧ ∀ (i : Nat) (v : Value) (d : SD), vs[i]? = some v → ds[i]? = some d → StOk w h v d
theorem StsOk.keep {h h' : Heap} {vs ds} (x : StsOk w h vs ds) (k : ∀ b o, h.get? b = some o → h'.get? b = some o) : StsOk w h' vs ds := ⟨x.1, fun i v d a b => (x.2 i v d a b).keep k⟩

set_option maxHeartbeats 4000000 in
theorem canon_spec (W : W0 K w s.heap) (kf : KF K) (R : Rm A 5) {j : Nat} {x dx ls : Addr} {vs : List Value} {ds : List SD} {cn : Nat}
    (I : Inst j s.heap x dx 92 [("states", .ref ls)]) (hls : s.heap.get? ls = some (listOf vs.toArray cn)) (hst : StsOk w s.heap vs ds) (hlen : ds.length ≤ 20) {Q : Value → Shared → Prop}
    (hQ : ∀ D h' tk, (∀ b o, s.heap.get? b = some o → h'.get? b = some o) → s.heap.get? D = none → Reads h' (.ref D) (.list (tripsUp ds ds.length)) [D] → Q (.ref D) { s with heap := h', toks := tk }) :
    wpAny (model PP w) A (call (.ref 110) [.ref x]) Q NoE s := by
  obtain ⟨hd0, dp, frs, gds, un⟩ := A
  obtain rfl : hd0 = none := R.hh
  refine call_fn (binds := [("canonical", .ref x)]) W.canon W.lim (by have := R.depth; omega) (fun _ _ _ _ _ => rfl) (by
    intro y hy
    rw [List.mem_singleton.mp hy]; rfl) (fun cdv h₁ F => ?_) (by decide +kernel) (by rfl) (by rfl) (by rfl)
  have KX := W.X
  obtain ⟨Rl, NR, hR⟩ := all_news s.heap h₁ s.heap.objs.size
  refine wpAny_execs_cons ?_
  iterate 3 walk1
  refine wpAny_newObj_type (stN (F.push _) (News.push F NR _) (fun h₂ F2 N2 => ?_) rfl rfl)
  have hbig := big_of W
  have hfd := (N2 _ (.head _)).1
  have hfdL := (N2 _ (.head _)).2.1
  have hfd0 := (N2 _ (.head _)).2.2
  have B2 := F2.keep
  have hL1 : s.heap.objs.size < h₁.objs.size := F.ns.lt
  have hfdlt : h₁.objs.size < h₂.objs.size := Heap.lt_size hfd
  generalize h₁.objs.size = fd at *
  refine wpAny_execs_cons (For_raw (L := s.heap.objs.size) rfl rfl rfl (fun _ => rfl) ?_)
  iterate 2 walk1
  refine inst_get W.X B2 (I.at (B2 _) (B2 _)) (.head _) kf.gA kf.dA kf.n4 rfl ?_
  have hls2 := B2 _ _ hls
  refine wpAny_pyIter_list (items := vs.toArray) ⟨_, hls2, rfl, _, rfl⟩ ?_
  dsimp only
  have hlsI : ls < h₂.objs.size := Heap.lt_size hls2
  have hLI : s.heap.objs.size < h₂.objs.size := F2.ns.lt
  have hvl := hst.1
  refine ⟨h₂.objs.size, [h₂.objs.size, ls], vs.toArray.size, _, _, rfl, Walks.list rfl h₂.objs.size ls (Nat.ne_of_lt hlsI) vs.toArray, ⟨⟨_, Heap.get?_push_size _ rfl, rfl, rfl⟩, Heap.IsList.push ⟨_, hls2, rfl, _, rfl⟩ _⟩, ?_,
    fun i m h => (∀ b o, s.heap.get? b = some o → h.get? b = some o) ∧ m "found" = some (.ref fd) ∧ ∃ rs c, h.get? fd = some (listOf rs.toArray c) ∧ RLs h (fun a => h₂.objs.size < a) rs (tripsUp ds i), _, (F2.push _).ns, ?_, ?_, ?_, ?_⟩
  · intro hmem
    rcases List.mem_cons.mp hmem with e | hmem
    · exact absurd hLI (e ▸ Nat.lt_irrefl _)
    · have := List.mem_singleton.mp hmem
      rw [← this] at hls
      exact absurd (Heap.lt_size hls) (Nat.lt_irrefl _)
  · exact ⟨(F2.push _).keep, by walk_at "mlook", [], _, Heap.get?_push_of_some _ hfd, .nil⟩
  · rintro i m h h' ⟨a1, a2, rs, c, a3, a4⟩ hkk
    refine ⟨fun b o e => hkk b o ?_ ?_ (a1 b o e), a2, rs, c, hkk _ _ ?_ ?_ a3, RLs_at (fun b o hb _ e => hkk b o ?_ ?_ e) (fun _ _ h _ _ => h) a4⟩
    · exact Nat.ne_of_lt (Nat.lt_trans (Heap.lt_size e) hLI)
    · exact Nat.ne_of_lt (Heap.lt_size e)
    · exact Nat.ne_of_lt hfdlt
    · exact hfdL
    · exact Nat.ne_of_gt hb
    · exact Nat.ne_of_gt (Nat.lt_trans hLI hb)
  · rintro i v m h tk' hlt hP hSt ⟨a1, a2, rs, c, a3, a4⟩ hns
    have hil : i < vs.length := by simpa using hlt
    have hvi : vs[i]? = some v := by simpa using hP
    obtain ⟨d, hd⟩ : ∃ d, ds[i]? = some d := ⟨ds[i]'(by omega), by simp [show i < ds.length by omega]⟩
    obtain ⟨sx, dsx, dm, dk, kvk, jj, tn, rfl, i1, i2, i3, i4, i5, i6⟩ := hst.2 i v d hvi hd
    have F := (⟨hns, a1, Nat.le_refl _⟩ : Fr s.heap s.heap.objs.size h _)
    have hLh : s.heap.objs.size < h.objs.size := hns.lt
    have hIh : h₂.objs.size < h.objs.size := Heap.lt_size hSt.1.choose_spec.1
    obtain ⟨Rl3, NR3, hR3⟩ := all_news s.heap h s.heap.objs.size
    refine wpAny_execs_cons ?_
    iterate 3 walk1
    refine callWith_fn W.clashes ?_ rfl
    iterate 3 walk1
    refine inst_get W.X a1 (i1.at (a1 _) (a1 _)) (.tail _ (.head _)) kf.gS kf.dS kf.n2 rfl ?_
    iterate 3 walk1
    refine inst_get W.X a1 (i1.at (a1 _) (a1 _)) (.tail _ (.tail _ (.head _))) kf.gS kf.dS kf.n3 rfl ?_
    iterate 1 walk1
    refine ⟨a1, ?_⟩
    refine clashes_cl (W.keeps a1) (R.deeper.less (by omega)) (i2.keep a1) (i3.keep a1) i4 i5 i6 fun D h₄ tk₄ kvf k4 hD0 hID hT => ?_
    dsimp only at hT hD0
    have hLD : s.heap.objs.size ≠ D := ns_ne hns hD0
    have hfdD : fd ≠ D := fun q => by rw [q, hD0] at a3; cases a3
    have hID' : h₂.objs.size ≠ D := fun q => by
      obtain ⟨o, ho, _⟩ := hSt.1
      rw [q, hD0] at ho; cases ho
    have hT1 : TGet h₄ (fun a => h.objs.size < a) kvf (clOf d.kvm d.ms) := fun i k v e => hT.get e
    refine wpAny_storeName_local rfl (hns.keeps k4) (fun h₅ hn5 hs5 => ?_) rfl
    have k5 : ∀ b o, b ≠ s.heap.objs.size → h₄.get? b = some o → h₅.get? b = some o := fun b o hb e => hs5.extBut b o hb e
    have k45 : ∀ b o, b ≠ s.heap.objs.size → h.get? b = some o → h₅.get? b = some o := fun b o hb e => k5 b o hb (k4 b o e)
    have hLh4 : s.heap.objs.size < h₄.objs.size := (hns.keeps k4).lt
    have a15 : ∀ b o, s.heap.get? b = some o → h₅.get? b = some o := fun b o e => k45 b o (Nat.ne_of_lt (Heap.lt_size e)) (a1 b o e)
    have hID5 : ID w h₅ D kvf := hID.at (k5 D · (Ne.symm hLD))
    have hT5 : TGet h₅ (fun a => h₂.objs.size < a) kvf (clOf d.kvm d.ms) := hT1.at (fun a o ha _ e => k5 a o (Nat.ne_of_gt (Nat.lt_trans hLh ha)) e) fun a o ha _ _ => Nat.lt_trans hIh ha
    have hr5 : RLs h₅ (fun a => h₂.objs.size < a) rs (tripsUp ds i) := RLs_at (fun b o hb _ e => k45 b o (Nat.ne_of_gt (Nat.lt_trans hLI hb)) e) (fun _ _ h _ _ => h) a4
    have hfd5 := k45 _ _ hfdL a3
    have hI5 : h₂.objs.size < h₅.objs.size := Heap.lt_size (k45 _ _ (Nat.ne_of_gt hLI) hSt.1.choose_spec.1)
    have hD5 : D < h₅.objs.size := hID5.lt
    have hfl5 : fd < h₅.objs.size := Heap.lt_size hfd5
    have hL5 : s.heap.objs.size < h₅.objs.size := hn5.lt
    refine wpAny_execs_cons (For_raw (L := s.heap.objs.size) rfl rfl rfl (fun _ => rfl) ?_)
    iterate 1 walk1
    obtain ⟨ep, hat⟩ := hID5.1.dictAt
    refine wpAny_pyIter_dict hID5.2 hat ?_
    dsimp only
    have hcl := clOf_len d.kvm d.ms
    have up : ∀ b o, h₅.get? b = some o → (h₅.push { cls := .type "dict_keyiterator", data := .fields #[.ref D, .int 0 0, .int kvf.length 0, .int ep 0] }).get? b = some o := fun b o e => Heap.get?_push_of_some _ e
    refine ⟨h₅.objs.size, [h₅.objs.size, D], kvf.length, _, _, rfl, Walks.dictKeys (knd := intKind PP w) rfl h₅.objs.size D (Nat.ne_of_lt hD5) kvf ep, ⟨?_, ?_⟩, ?_,
      fun j m h' => (∀ b o, s.heap.get? b = some o → h'.get? b = some o) ∧ m "found" = some (.ref fd) ∧ m "here" = some (.ref D) ∧ m "state" = some (.ref sx) ∧ ID w h' D kvf ∧ TGet h' (fun a => h₂.objs.size < a ∧ a ≠ h₅.objs.size) kvf (clOf d.kvm d.ms) ∧
        (∀ o, h₅.get? h₂.objs.size = some o → h'.get? h₂.objs.size = some o) ∧ ∃ rs c, h'.get? fd = some (listOf rs.toArray c) ∧ RLs h' (fun a => h₂.objs.size < a ∧ a ≠ h₅.objs.size) rs (tripsUp ds i ++ ((clOf d.kvm d.ms).take j).map (dTrip d.num)), _, hn5.keeps up, ?_, ?_, ?_, ?_⟩
    · exact ⟨_, Heap.get?_push_size _ rfl, rfl, rfl⟩
    · exact hat.push _
    · intro hmem
      rcases List.mem_cons.mp hmem with e | hmem
      · exact absurd hL5 (e ▸ Nat.lt_irrefl _)
      · exact hLD (List.mem_singleton.mp hmem)
    · refine ⟨fun b o e => up _ _ (a15 b o e), by walk_at "mlook", by walk_at "mlook", by walk_at "mlook", hID5.keep up, hT5.at (fun a o _ _ e => up _ _ e) (fun a o ha _ e => ⟨ha, Nat.ne_of_lt (Heap.lt_size e)⟩), fun o e => up _ _ e, rs, c, up _ _ hfd5, ?_⟩
      rw [List.take_zero, List.map_nil, List.append_nil]
      exact RLs_at (fun a o _ _ e => up _ _ e) (fun a o ha _ e => ⟨ha, Nat.ne_of_lt (Heap.lt_size e)⟩) hr5
    · rintro j' m' h' h'' ⟨b1, b2, b3, b4, b5, b6, b7, rs', c', b8, b9⟩ hkk
      refine ⟨fun b o e => hkk b o ?_ ?_ (b1 b o e), b2, b3, b4, b5.at fun o e => hkk _ o ?_ ?_ e, b6.at (fun a o ha _ e => hkk a o ha.2 ?_ e) (fun _ _ h _ _ => h), fun o e => hkk _ o ?_ ?_ (b7 o e), rs', c', hkk _ _ ?_ ?_ b8, RLs_at (fun a o ha _ e => hkk a o ha.2 ?_ e) (fun _ _ h _ _ => h) b9⟩
      · exact Nat.ne_of_lt (Nat.lt_trans (Heap.lt_size e) hL5)
      · exact Nat.ne_of_lt (Heap.lt_size e)
      · exact Nat.ne_of_lt hD5
      · exact Ne.symm hLD
      · exact Nat.ne_of_gt (Nat.lt_trans hLI ha.1)
      · exact Nat.ne_of_lt hI5
      · exact Nat.ne_of_gt hLI
      · exact Nat.ne_of_lt hfl5
      · exact hfdL
      · exact Nat.ne_of_gt (Nat.lt_trans hLI ha.1)
    · rintro j' v' m' h' tk'' hlt' ⟨k, x', hkx, his⟩ hSt' ⟨b1, b2, b3, b4, b5, b6, b7, rs', c', b8, b9⟩ hns'
      obtain ⟨ut, rfl⟩ := Value.isInt_shape his
      obtain ⟨tr, a, vr, nr, rfl, hfl, hPa, hao, hir⟩ := b6 _ _ _ hkx
      have hva := valueAt_get hID.nodup hkx
      have F := (⟨hns', b1, Nat.le_refl _⟩ : Fr s.heap s.heap.objs.size h' _)
      have hLh' : s.heap.objs.size < h'.objs.size := hns'.lt
      refine wpAny_execs_cons ?_
      iterate 3 walk1
      refine lst_method PySem.F.slot_list_append PySem.F.type_list_append b8 ?_
      iterate 6 walk1
      refine inst_get W.X b1 (i1.at (b1 _) (b1 _)) (.head _) kf.gS kf.dS kf.n1 rfl ?_
      iterate 6 walk1
      refine id_item b5 hva ?_ (by with_unfolding_all rfl)
      iterate 1 walk1
      refine wpAny_newTuple ?_ (by show 3 ≤ sizeLine; decide)
      iterate 1 walk1
      have hIo := b7 _ (k45 _ _ (Nat.ne_of_gt hLI) hSt.1.choose_spec.1)
      have hI6 : h₂.objs.size < h'.objs.size := Heap.lt_size hIo
      have hI6' : h₅.objs.size < h'.objs.size := Heap.lt_size hSt'.1.choose_spec.1
      have otp := Heap.get?_push_size h' (o := { cls := .type "tuple", data := .seq [.int d.num tn, .int k ut, .ref a].toArray }) rfl
      have k67 : ∀ b o, h'.get? b = some o → (h'.push { cls := .type "tuple", data := .seq [.int d.num tn, .int k ut, .ref a].toArray }).get? b = some o := fun b o e => Heap.get?_push_of_some _ e
      generalize h'.push { cls := .type "tuple", data := .seq [.int d.num tn, .int k ut, .ref a].toArray } = h₇ at *
      have hrl : rs'.length ≤ 1000 := by
        have h1 := RLs_len b9
        have h2 := tripsUp_len ds i
        rw [List.length_append, List.length_map, List.length_take] at h1
        omega
      refine append_at (hsz := by rw [List.size_toArray, sizeLine_eq]; omega) (k67 _ _ b8) fun h₈ hs8 ho8 => ?_
      have k8 := keeps_of_same hs8
      iterate 1 walk1
      have KK : ∀ b o, b ≠ fd → h'.get? b = some o → h₈.get? b = some o := fun b o q e => k8 b o q (k67 _ _ e)
      have hfdI2 : ∀ b, h₂.objs.size < b → b ≠ fd := fun b hb => Nat.ne_of_gt (Nat.lt_trans hfdlt hb)
      refine ⟨h₈, _, _, rfl, hns'.at' (fun o e => KK _ o (Ne.symm hfdL) e), fun b o hb e => KK b o ?_ e, fun b o e => KK b o ?_ (b1 b o e), by walk_at "mlook", by walk_at "mlook", by walk_at "mlook", b5.at (KK D · (Ne.symm hfdD)), b6.at (fun a o ha _ e => KK a o (hfdI2 _ ha.1) e) (fun _ _ h _ _ => h), fun o e => KK _ o (Nat.ne_of_gt hfdlt) (b7 o e), rs' ++ [.ref h'.objs.size], c' + 1, ?_, ?_⟩
      · rcases List.mem_cons.mp hb with rfl | hb
        · exact Nat.ne_of_gt hfl5
        · rw [List.mem_singleton.mp hb]; exact Ne.symm hfdD
      · intro q; rw [q, hfd0] at e; cases e
      · rw [ho8, List.push_toArray]
      · have e9 : ((clOf d.kvm d.ms).take (j' + 1)).map (dTrip d.num) = ((clOf d.kvm d.ms).take j').map (dTrip d.num) ++ [dTrip d.num (k, tr)] := by
          rw [take_snoc hfl, List.map_append]; rfl
        rw [e9, ← List.append_assoc]
        refine RLs_snoc (RLs_at (fun a o ha _ e => KK a o (hfdI2 _ ha.1) e) (fun _ _ h _ _ => h) b9) (.tuple ⟨hI6, Nat.ne_of_gt hI6'⟩ (k8 _ _ (hfdI2 _ hI6) otp) (.cons (.int _ _) (.cons (.int _ _) (.cons (.tuple hPa (KK _ _ (hfdI2 _ hPa.1) hao) (RLs_ints hir)) .nil))))
    · rintro m' h' tk'' ⟨b1, b2, b3, b4, b5, b6, b7, rs', c', b8, b9⟩ hns'
      have e9 : tripsUp ds (i + 1) = tripsUp ds i ++ ((clOf d.kvm d.ms).take kvf.length).map (dTrip d.num) := by
        have h1 := TVals.len hT
        show tripsUp ds i ++ (match ds[i]? with | some d => tripsOf d | none => []) = _
        rw [hd, List.take_of_length_le (by omega)]
        rfl
      iterate 1 walk1
      refine ⟨h', _, _, rfl, hns', fun b o hb e => ?_, b1, b2, rs', c', b8, ?_⟩
      · rcases List.mem_cons.mp hb with rfl | hb
        · exact b7 _ (k45 _ _ (Nat.ne_of_gt hLI) e)
        · rw [List.mem_singleton.mp hb] at e ⊢
          have e' := a1 _ _ hls
          rw [e] at e'; cases e'
          exact b1 _ _ hls
      · rw [e9]; exact RLs_at (fun _ _ _ _ e => e) (fun _ _ h _ _ => h.1) b9
  · rintro m h tk' ⟨a1, a2, rs, c, a3, a4⟩ hns
    have F := (⟨hns, a1, Nat.le_refl _⟩ : Fr s.heap s.heap.objs.size h _)
    iterate 3 walk1
    have e9 : vs.toArray.size = ds.length := by rw [List.size_toArray]; exact hvl
    rw [e9] at a4
    exact hQ fd h _ a1 hfd0 (.list a3 rfl rfl (RLs_reads a4))
end

section
variable {w : World} {A : Around} {E : Value → Shared → Prop} {s : Shared} {K : Frag}

set_option maxHeartbeats 4000000 in
theorem lrone_spec (W : W0 K w s.heap) (kf : KF K) (R : Rm A 6) {j : Nat} {x dx ls : Addr} {vs : List Value} {ds : List SD} {cn : Nat}
    (I : Inst j s.heap x dx 92 [("states", .ref ls)]) (hls : s.heap.get? ls = some (listOf vs.toArray cn)) (hst : StsOk w s.heap vs ds) (hlen : ds.length ≤ 20) {Q : Value → Shared → Prop}
    (hQ : ∀ h' tk, (∀ b o, s.heap.get? b = some o → h'.get? b = some o) → Q (.bool (tripsUp ds ds.length).isEmpty) { s with heap := h', toks := tk }) :
    wpAny (model PP w) A (call (.ref 117) [.ref x]) Q NoE s := by
  obtain ⟨hd0, dp, frs, gds, un⟩ := A
  obtain rfl : hd0 = none := R.hh
  refine call_fn (binds := [("canonical", .ref x)]) W.lrone W.lim (by have := R.depth; omega) (fun _ _ _ _ _ => rfl) (by
    intro y hy
    rw [List.mem_singleton.mp hy]; rfl) (fun cdv h₁ F => ?_) (by decide +kernel) (by rfl) (by rfl) (by rfl)
  have KX := W.X
  have B1 := F.keep
  refine wpAny_execs_cons ?_
  iterate 4 walk1
  refine callWith_fn W.canon ?_ rfl
  iterate 3 walk1
  refine ⟨B1, ?_⟩
  refine canon_spec (W.keeps B1) kf (R.deeper.less (by omega)) (I.at (B1 _) (B1 _)) (B1 _ _ hls) (hst.keep B1) hlen fun D h₂ tk₂ k2 hD0 hRd => ?_
  have hlen2 := tripsUp_len ds ds.length
  obtain ⟨o, rs, n, ho, hc, hd, hr⟩ : ∃ o rs n, h₂.get? D = some o ∧ o.cls = .type "list" ∧ o.data = .seq rs n ∧ ReadsAll h₂ rs.toList (tripsUp ds ds.length) [] := by
    cases hRd with
    | list a b c d => exact ⟨_, _, _, a, b, c, d⟩
  have hrl := ReadsAll_len hr
  rw [Array.length_toList] at hrl
  refine not_of (wpAny_truthy_list (items := rs) ⟨o, ho, hc, n, hd⟩ (by omega) ?_)
  have e1 : (!(tripsUp ds ds.length).isEmpty) = !(rs.isEmpty) := by
    congr 1
    cases q : tripsUp ds ds.length with
    | nil => rw [q] at hrl; simp at hrl; simp [hrl]
    | cons a b => rw [q] at hrl; simp at hrl; cases rs with | mk l => cases l with | nil => simp at hrl | cons _ _ => rfl
  rw [← e1, Bool.not_not]
  exact hQ h₂ _ fun b o e => k2 b o (B1 b o e)
end

end Mine
end

section
open PySem PySem.W PyProof.Rows PySem.Calls
namespace Mine
theorem list_no_keys : typeLookup (.type "list") "keys" = pure none := by rw [typeLookup_type, builtinLookup_eq_fast]; kernel_rfl

set_option maxHeartbeats 2000000 in
theorem keys_miss {prog : Program} {w : World} {A : Around} {E : Value → Shared → Prop} {s : Shared} {a : Addr} {xs : Array Value} {k : Nat} {Q : Option Value → Shared → Prop}
    (hx : s.heap.get? a = some (listOf xs k)) (hA : A.handled = none)
    (h : ∀ h' tk e, Heap.NewExcOf s.heap h' e "AttributeError" → Q none { s with heap := h', toks := tk }) :
    wpAny (model prog w) A (getAttr? (.ref a) "keys") Q E s := by
  obtain ⟨hp, g, d, tk, os⟩ := s
  have hT : ∀ tk', (⟨hp, g, d, tk', os⟩ : Shared).TypeIs (.ref a) "list" := fun _ => ⟨_, hx, rfl⟩
  have f1 := sub_AttributeError
  have f3 := F.slot_list_getattribute.lookup
  have f4 := F.slot_list_getattribute.bind (.ref a)
  have f5 := am_list_getattr_none
  have hmiss := list_no_keys
  unfold getAttr? getAttrBy? getAttrBy
  repeat (any_goals (first | assumption | exact hT _ | ((with_reducible show wpAny _ _ (call (Value.builtin "list.__getattribute__") _ _) _ _ _); refine call_meets F.slot_list_getattribute (hT _) am_entry_list_getattribute (F.args_list_getattribute_2 _ _) (meets_getattribute_miss_list a xs k #[] "keys" _ hmiss (by decide +kernel)) ⟨hx, hA, fun h' tk' e hx' => ?_⟩) | wp_step))
  obtain ⟨t', u', he⟩ := hx'.there
  show wpAny _ _ (getattributeRaised _ _ _ _ _ _ _) _ _ _
  unfold getattributeRaised
  repeat (any_goals (first | assumption | wp_step))
  exact h _ _ _ hx'.of

/-- a list of pairs -/
def Prs (h : Heap) (vs : List Value) (kvs : List (Int × Value)) : Prop :=
  vs.length = kvs.length ∧ ∀ (i : Nat) (v : Value), vs[i]? = some v → ∃ a k t x n, v = .ref a ∧ kvs[i]? = some (k, x) ∧ h.get? a = some { cls := .type "tuple", data := .seq [Value.int k t, x].toArray n }
theorem Prs.at {h h' : Heap} {vs kvs} (x : Prs h vs kvs) (k : ∀ a o, o.cls = .type "tuple" → h.get? a = some o → h'.get? a = some o) : Prs h' vs kvs := by
  refine ⟨x.1, fun i v e => ?_⟩
  obtain ⟨a, kk, t, y, n, h1, h2, h3⟩ := x.2 i v e
  exact ⟨a, kk, t, y, n, h1, h2, k _ _ rfl h3⟩

theorem plain_update_loop : plainId "dict.update.loop" = true := by decide +kernel
theorem entry_update_loop : entryFor table "dict.update.loop" = some Builtin.«dict.update.loop» := entryFor_of_tree (by kernel_rfl)

set_option maxHeartbeats 2000000 in
theorem update_loop {w : World} {A : Around} {R : Result → Shared → Prop} (hh : A.handled = none) {I l d : Addr} {vs : List Value} {kvs : List (Int × Value)} (hlI : l ≠ I) (hdI : d ≠ I) (hdl : d ≠ l) (hn : (kvs.map (·.1)).Nodup) (hsz : kvs.length ≤ 1000) :
    ∀ (k i : Nat) (s : Shared), vs.length - i = k → i ≤ vs.length → (s.heap.IsListIter I l i ∧ s.heap.IsList l vs.toArray) → ID w s.heap d (kvs.take i) → Prs s.heap vs kvs →
      (∀ h' tk, (∀ b o, b ≠ I → b ≠ d → s.heap.get? b = some o → h'.get? b = some o) → ID w h' d kvs → R (.ok (.ret .none)) { s with heap := h', toks := tk }) →
      codeAny (model PP w) A (.builtin "dict.update.loop" ⟨[.ref d, .ref I, rawInt i, .none], []⟩) R s := by
  have W := Walks.list (prog := PP) (w := w) (A := A.in1) (by exact hh) I l hlI vs.toArray
  have hvsz : vs.toArray.size = vs.length := List.size_toArray ..
  intro k
  induction k with
  | zero =>
    intro i s hk hi hst hd hp hR
    have hin : i = vs.toArray.size := by omega
    subst hin
    refine codeAny_builtin entry_update_loop ?_
    rw [Around.under_plainId plain_update_loop _]
    show wpAny _ A.in1 (pyNext (.ref I) >>= _) _ _ s
    refine wpAny_bind (W.done s _ _ hst fun h' tk hk' => ?_)
    show wpAny _ A.in1 (Builtin.Dict.addKeywords d [] >>= _) _ _ _
    have e1 : kvs.take vs.toArray.size = kvs := List.take_of_length_le (by rw [hvsz, hp.1]; exact Nat.le_refl _)
    rw [e1] at hd
    refine wpAny_bind (wpAny_pure (wpAny_pure (hR h' tk (fun b o h1 _ e => hk' b o (by simpa using h1) e) (hd.at fun o e => hk' d o (by simpa using hdI) e))))
  | succ k ih =>
    intro i s hk hi hst hd hp hR
    have hlt : i < vs.length := by omega
    refine codeAny_builtin entry_update_loop ?_
    rw [Around.under_plainId plain_update_loop _]
    show wpAny _ A.in1 (pyNext (.ref I) >>= _) _ _ s
    refine wpAny_bind (W.item i s _ _ (by omega) hst fun v h₁ tk hP hst' hk' => ?_)
    have k1 : ∀ b o, b ≠ I → s.heap.get? b = some o → h₁.get? b = some o := fun b o h1 e => hk' b o (by simpa using h1) e
    obtain ⟨a, kk, t, x, n, rfl, hkx, ho⟩ := hp.2 i v (by simpa using hP)
    have haI : a ≠ I := fun q => by
      obtain ⟨oI, hoI, hcI, _⟩ := hst.1
      rw [q, hoI] at ho; cases ho
      exact absurd hcI (show ¬ (Value.type "tuple" = Value.type "list_iterator") by decide)
    have ho1 := k1 _ _ haI ho
    have hd1 : ID w h₁ d (kvs.take i) := hd.at (k1 d · hdI)
    dsimp only
    refine wpAny_bind (wpAny_holding (wpAny_bind (wpAny_tryCatch ?_)))
    unfold Builtin.Dict.pairItems
    refine wpAny_bind (wpAny_typeOf (T := "tuple") ⟨_, ho1, rfl⟩ ?_)
    rw [if_pos (by decide)]
    refine wpAny_bind (wpAny_seqItems ho1 rfl (wpAny_pure ?_))
    show wpAny _ A.in1 (holding [_, _] (dictSet d (.int kk t) x)) _ _ _
    refine wpAny_holding (wpAny_dictSet_pairs (knd := intKind PP w) (intKind_is PP w kk t) hd1.1 (fun h₂ hd2 hs2 => ?_) (by rw [sizeLine_eq, List.length_take]; omega))
    have hmiss : valueAt (kvs.take i) kk = none := by
      refine valueAt_absent ?_
      rw [List.map_take]
      refine nodup_take hn ?_
      rw [List.getElem?_map, hkx]; rfl
    rw [stored_miss hmiss] at hd2
    have e1 : kvs.take i ++ [(kk, x)] = kvs.take (i + 1) := by
      rw [List.take_add_one, hkx]; rfl
    rw [e1] at hd2
    have k2 := keeps_of_same hs2
    refine wpAny_pure ⟨plainId_quiet plain_update_loop _, ih (i + 1) _ (by omega) hlt ⟨hst'.1.at fun o e => k2 _ o (Ne.symm hdI) e, hst'.2.at fun o e => k2 _ o (Ne.symm hdl) e⟩ ⟨hd2, hd.2⟩ ?_ fun h' tk' hk3 hd3 => ?_⟩
    · refine hp.at fun b o hb e => k2 b o ?_ (k1 b o ?_ e)
      · intro q
        obtain ⟨od, hod, hcd⟩ := hd.there
        rw [q, hod] at e; cases e
        rw [hcd] at hb; exact absurd hb (show ¬ (Value.type "dict" = Value.type "tuple") by decide)
      · intro q
        obtain ⟨oI, hoI, hcI, _⟩ := hst.1
        rw [q, hoI] at e; cases e
        rw [hcI] at hb; exact absurd hb (show ¬ (Value.type "list_iterator" = Value.type "tuple") by decide)
    · exact hR h' tk' (fun b o h1 h2 e => hk3 b o h1 h2 (k2 b o h2 (k1 b o h1 e))) hd3

set_option maxHeartbeats 2000000 in
theorem call_dict_pairs {w : World} {A : Around} {E : Value → Shared → Prop} {s : Shared} (hh : A.handled = none) {l : Addr} {vs : List Value} {c : Nat} {kvs : List (Int × Value)} (hl : s.heap.get? l = some (listOf vs.toArray c)) (hp : Prs s.heap vs kvs) (hn : (kvs.map (·.1)).Nodup) (hsz : kvs.length ≤ 1000) (hbig : 1 < s.heap.objs.size)
    {Q : Value → Shared → Prop} (h : ∀ d h' tk, (∀ b o, s.heap.get? b = some o → h'.get? b = some o) → s.heap.get? d = none → ID w h' d kvs → Q (.ref d) { s with heap := h', toks := tk }) :
    wpAny (model PP w) A (call (.type "dict") [.ref l]) Q E s := by
  refine callType_codes (Q₁ := fun obj s₁ => obj = .ref s.heap.objs.size ∧ s₁ = { s with heap := s.heap.push { cls := .type "dict", data := .dict #[] } }) F.kt_called_dict (F.kt_typeCall_dict_1 _) F.entry_dict_init (kt_code_dict_new _ ⟨rfl, rfl⟩) ?_
  rintro obj s₁ ⟨rfl, rfl⟩
  have hnew : ID w (s.heap.push { cls := .type "dict", data := .dict #[] }) s.heap.objs.size [] := ID.new hbig
  have hl' := Heap.get?_push_of_some { cls := .type "dict", data := .dict #[] } hl
  have hp' : Prs (s.heap.push { cls := .type "dict", data := .dict #[] }) vs kvs := hp.at fun b o _ e => Heap.get?_push_of_some _ e
  have hld : l ≠ s.heap.objs.size := Nat.ne_of_lt (Heap.lt_size hl)
  have kd : ∀ b o, s.heap.get? b = some o → (s.heap.push { cls := .type "dict", data := .dict #[] }).get? b = some o := fun b o e => Heap.get?_push_of_some _ e
  generalize s.heap.push { cls := .type "dict", data := .dict #[] } = h₁ at *
  refine ⟨hnew.1.typeIs, F.args_dict_init_2 _ _, ?_⟩
  unfold Builtin.«dict.__init__»
  refine wpAny_bind ?_
  unfold Builtin.Dict.selfAndRest
  refine wpAny_bind (wpAny_notOrdered_dict hnew.1.typeIs ?_)
  show wpAny _ _ (pure (s.heap.objs.size, [Value.ref l])) _ _ _
  refine wpAny_pure ?_
  show wpAny _ _ (Builtin.Dict.updateFrom "dict.__init__" s.heap.objs.size (.ref l) [] .none) _ _ _
  unfold Builtin.Dict.updateFrom
  refine wpAny_bind (wpAny_typeOf (T := "list") ⟨_, hl', rfl⟩ ?_)
  rw [if_pos (by decide)]
  refine wpAny_bind (keys_miss hl' ?_ fun h₂ tk₂ e hx => ?_)
  · exact hh
  dsimp only at hx ⊢
  have k2 := hx.keeps
  have hl2 := k2 _ _ hl'
  have hlI : l < h₂.objs.size := Heap.lt_size hl2
  rw [if_pos (show (Option.isNone (none : Option Value)) = true from rfl)]
  show wpAny _ _ (pyIter (.ref l) >>= _) _ _ _
  refine wpAny_bind (wpAny_pyIter_list (items := vs.toArray) ⟨_, hl2, rfl, _, rfl⟩ ?_)
  dsimp only
  have hd2 : ID w h₂ s.heap.objs.size [] := hnew.keep k2
  have hdI : s.heap.objs.size < h₂.objs.size := hd2.lt
  refine wpAny_pure ⟨plainId_quiet plain_update_loop _, update_loop (A := A.in1) hh (I := h₂.objs.size) (l := l) (d := s.heap.objs.size) (vs := vs) (kvs := kvs) (Nat.ne_of_lt hlI) (Nat.ne_of_lt hdI) (Ne.symm hld) hn hsz vs.length 0 _ (by omega) (Nat.zero_le _) ⟨⟨_, Heap.get?_push_size _ rfl, rfl, rfl⟩, Heap.IsList.push ⟨_, hl2, rfl, _, rfl⟩ _⟩ (hd2.keep fun b o e => Heap.get?_push_of_some _ e) (hp'.at fun b o _ e => Heap.get?_push_of_some _ (k2 _ _ e)) fun h' tk hk hd => ⟨rfl, h _ h' tk (fun b o e => ?_) (none_at_big (Nat.le_refl _)) hd⟩⟩
  have e1 := k2 _ _ (kd _ _ e)
  exact hk b o (Nat.ne_of_lt (Heap.lt_size e1)) (Nat.ne_of_lt (Heap.lt_size e)) (Heap.get?_push_of_some _ e1)

end Mine
end

section
open PySem PySem.W PyProof.Rows PySem.Calls PyProof.V PySem.Spec
namespace Mine
/-- a list of pairs, the pairs at addresses of a kind -/
def PrsP (h : Heap) (P : Addr → Prop) (vs : List Value) (kvs : List (Int × Value)) : Prop :=
  vs.length = kvs.length ∧ ∀ (i : Nat) (v : Value), vs[i]? = some v → ∃ a k t x n, v = .ref a ∧ P a ∧ kvs[i]? = some (k, x) ∧ h.get? a = some { cls := .type "tuple", data := .seq [Value.int k t, x].toArray n }
theorem PrsP.plain {h : Heap} {P : Addr → Prop} {vs kvs} (x : PrsP h P vs kvs) : Prs h vs kvs := by
  refine ⟨x.1, fun i v e => ?_⟩
  obtain ⟨a, k, t, y, n, h1, _, h2, h3⟩ := x.2 i v e
  exact ⟨a, k, t, y, n, h1, h2, h3⟩

section
variable {w : World} {A : Around} {E : Value → Shared → Prop} {s : Shared}

theorem id_items {d : Addr} {kvs : List (Int × Value)} {Q : Value → Shared → Prop} (hm : ID w s.heap d kvs)
    (h : Q (.ref s.heap.objs.size) { s with heap := s.heap.push { cls := .type "dict_items", data := .fields #[.ref d] } }) :
    wpAny (model PP w) A (call (.builtin "dict.items") [.ref d]) Q E s :=
  call_meetsIn PySem.F.slot_dict_items hm.1.typeIs PySem.F.entry_dict_items (PySem.F.args_dict_items_1 _) (meets_dict_items (intKind PP w) d hm.2) ⟨⟨kvs, hm.1⟩, h⟩

theorem items_list {v d : Addr} {kvs : List (Int × Value)} {Q : Value → Shared → Prop} (hh : A.handled = none) (hm : ID w s.heap d kvs) (hv : s.heap.get? v = some { cls := .type "dict_items", data := .fields #[.ref d] }) (hn : kvs.length ≤ 1000)
    (h : ∀ h' tk vs c, (∀ b o, s.heap.get? b = some o → h'.get? b = some o) → h'.get? s.heap.objs.size = some (listOf vs.toArray c) → PrsP h' (fun a => s.heap.objs.size < a) vs kvs → Q (.ref s.heap.objs.size) { s with heap := h', toks := tk }) :
    wpAny (model PP w) A (call (.type "list") [.ref v]) Q E s := by
  obtain ⟨ep, hat⟩ := hm.1.dictAt
  refine kdx_call (knd := intKind PP w) (kvs := kvs) (ep := ep) hh ⟨_, hv, rfl, rfl⟩ hat (by rw [sizeLine_eq]; omega) fun h' tk acc c as hk hS hl hG hacc => ?_
  refine h h' tk acc.toList c hk (by rw [Array.toArray_toList]; exact hS) ⟨by rw [hacc, List.length_map, hl], fun i u e => ?_⟩
  rw [hacc, List.getElem?_map] at e
  obtain ⟨a, ha, rfl⟩ := Option.map_eq_some_iff.mp e
  obtain ⟨key, k, x, e1, e2, e3⟩ := hG.pairs i a ha
  obtain ⟨t, rfl⟩ := Value.isInt_shape e2
  exact ⟨a, k, t, x, _, rfl, hG.above a (List.mem_of_getElem? ha), e1, e3⟩

theorem id_copy {d : Addr} {kvs : List (Int × Value)} {Q : Value → Shared → Prop} (hm : ID w s.heap d kvs) (hn : kvs.length ≤ 1000) (hbig : 1 < s.heap.objs.size)
    (h : ∀ D h', (∀ b o, s.heap.get? b = some o → h'.get? b = some o) → s.heap.get? D = none → ID w h' D kvs → Q (.ref D) { s with heap := h' }) :
    wpAny (model PP w) A (call (.type "dict") [.ref d]) Q E s := by
  refine kt_call_dict hm.2 hm.1 (by rw [sizeLine_eq]; omega) fun h' hd hs => ?_
  refine h _ h' (fun b o e => ?_) (none_at_big (Nat.le_refl _)) ⟨hd, not_mods hbig⟩
  exact (hs.2 b (Nat.ne_of_lt (Heap.lt_size e))).trans (Heap.get?_push_of_some _ e)

theorem preSum_take (ns : List Int) : ∀ k, k ≤ ns.length → preSum (fun j => ns.getD j 0) k = (ns.take k).sum
  | 0, _ => rfl
  | k + 1, h => by
    have ih := preSum_take ns k (by omega)
    show preSum _ k + ns.getD k 0 = _
    rw [ih, List.take_add_one, List.getElem?_eq_getElem (by omega), List.sum_append]
    simp [List.getD, List.getElem?_eq_getElem (show k < ns.length by omega)]
theorem sum_ints {l : Addr} {vs : List Value} {c : Nat} {ns : List Int} {Q : Value → Shared → Prop} (hh : A.handled = none) (hl : s.heap.get? l = some (listOf vs.toArray c)) (hI : IntsAre vs ns)
    (h : ∀ h' tk t', (∀ b o, s.heap.get? b = some o → h'.get? b = some o) → Q (.int ns.sum t') { s with heap := h', toks := tk }) :
    wpAny (model PP w) A (call (.builtin "sum") [.ref l]) Q E s := by
  have hvl := hI.length
  refine call_sum_walkG (wpAny_pyIter_list (items := vs.toArray) ⟨_, hl, rfl, _, rfl⟩ ?_)
  have hlI : l < s.heap.objs.size := Heap.lt_size hl
  refine ⟨s.heap.objs.size, [s.heap.objs.size, l], [s.heap.objs.size], vs.toArray.size, _, _, fun j => ns.getD j 0, rfl, Walks.list (A := A.in1) hh s.heap.objs.size l (Nat.ne_of_lt hlI) vs.toArray, ⟨⟨_, Heap.get?_push_size _ rfl, rfl, rfl⟩, Heap.IsList.push ⟨_, hl, rfl, _, rfl⟩ _⟩, ?_, ?_, ?_⟩
  · dsimp only
    intro b hb
    rw [Heap.size_push]
    rcases List.mem_cons.mp hb with rfl | hb
    · exact Nat.lt_succ_self _
    · rw [List.mem_singleton.mp hb]; exact Nat.lt_succ_of_lt hlI
  · intro i v hP
    obtain ⟨r, t, rfl, hr⟩ := hI.at i v (by simpa using hP)
    exact ⟨t, by simp [List.getD, hr]⟩
  · intro h' tk t' hk
    have e1 : preSum (fun j => ns.getD j 0) vs.toArray.size = ns.sum := by
      rw [List.size_toArray, hvl, preSum_take ns _ (Nat.le_refl _), List.take_length]
    rw [e1]
    exact h h' tk t' fun b o e => hk b o (by simpa using Nat.ne_of_lt (Heap.lt_size e)) (Heap.get?_push_of_some _ e)
end

end Mine
end

section
open PySem PySem.W PyProof.Rows PySem.Calls
namespace Mine
abbrev LE (L f : Addr) (cd : Value) : Env := envOfC "law" dLaw.scope L f cd
def lawStm (i : Nat) : Stmt := (nth dLaw.body i).getD (.Pass { line := 0, col := 0, endLine := 0, endCol := 0 })

def Far (L p a : Addr) : Prop := a ≠ L ∧ a ≠ L + 1 ∧ a ≠ L + 2 ∧ a ≠ L + 3 ∧ a ≠ p

structure LG (Hb : Heap) (L p q : Addr) (h : Heap) (v2 v3 : Option Value) (b : Nat) : Prop where
  keep : ∀ a o, Hb.get? a = some o → h.get? a = some o
  above : Hb.objs.size ≤ L
  c1 : h.IsCell (L + 1) (some (.ref p))
  c2 : h.IsCell (L + 2) v2
  c3 : h.IsCell (L + 3) v3
  pool : PoolQ h p q b
  fresh : Hb.get? p = none
  pL : p ≠ L ∧ p ≠ L + 1 ∧ p ≠ L + 2 ∧ p ≠ L + 3
  qL : q ≠ L ∧ q ≠ L + 1 ∧ q ≠ L + 2 ∧ q ≠ L + 3 ∧ q ≠ p

/-- the law's frame as it stands -/
structure LF (w : World) (Hb : Heap) (L p q : Addr) (h : Heap) (m : Str → Option Value) (v2 v3 : Option Value) (b : Nat) : Prop where
  ns : h.Ns L m
  lg : LG Hb L p q h v2 v3 b

theorem ne_none {h : Heap} {a b : Addr} {o : Obj} (e : h.get? a = none) (hb : h.get? b = some o) : a ≠ b := by
  rintro rfl; rw [e] at hb; cases hb
theorem list_ne_ns {h : Heap} {a L : Addr} {its : Array Value} {m : Str → Option Value} (x : h.IsList a its) (y : h.Ns L m) : a ≠ L := by
  obtain ⟨o, ho, hc, n, hd⟩ := x
  obtain ⟨o', es, ep, ho', hd', _⟩ := y
  rintro rfl
  rw [ho] at ho'; cases ho'; rw [hd] at hd'; cases hd'
theorem list_ne_cell {h : Heap} {a c : Addr} {its : Array Value} {v : Option Value} (x : h.IsList a its) (y : h.IsCell c v) : a ≠ c := by
  obtain ⟨o, ho, hc, n, hd⟩ := x
  obtain ⟨o', ho', hd'⟩ := y
  rintro rfl
  rw [ho] at ho'; cases ho'; rw [hd] at hd'; cases hd'
theorem PoolQ.at {h h' : Heap} {p q : Addr} {b : Nat} (x : PoolQ h p q b) (hp : ∀ o, h.get? p = some o → h'.get? p = some o) (hq : ∀ o, h.get? q = some o → h'.get? q = some o) : PoolQ h' p q b := by
  obtain ⟨g, st, pl, tg, ts, tp, n, vs, ns, hpo, hcl, r⟩ := x
  exact ⟨g, st, pl, tg, ts, tp, n, vs, ns, hp _ hpo, hcl.at fun o e => hq o e, r⟩

section
variable {w : World} {Hb h h' : Heap} {L p q : Addr} {m m' : Str → Option Value} {v2 v3 : Option Value} {b b' : Nat}

theorem LF.fr (x : LF w Hb L p q h m v2 v3 b) : Fr Hb L h m := ⟨x.ns, x.lg.keep, x.lg.above⟩
theorem LF.pool (x : LF w Hb L p q h m v2 v3 b) : PoolQ h p q b := x.lg.pool
theorem LF.fresh (x : LF w Hb L p q h m v2 v3 b) : Hb.get? p = none := x.lg.fresh
theorem LF.c1 (x : LF w Hb L p q h m v2 v3 b) : h.IsCell (L + 1) (some (.ref p)) := x.lg.c1
theorem LF.c2 (x : LF w Hb L p q h m v2 v3 b) : h.IsCell (L + 2) v2 := x.lg.c2
theorem LF.c3 (x : LF w Hb L p q h m v2 v3 b) : h.IsCell (L + 3) v3 := x.lg.c3
theorem LG.pex (x : LG Hb L p q h v2 v3 b) : ∃ o, h.get? p = some o := by
  obtain ⟨g, st, pl, tg, ts, tp, n, vs, ns, hpo, _⟩ := x.pool
  exact ⟨_, hpo⟩
theorem LG.qex (x : LG Hb L p q h v2 v3 b) : ∃ o, h.get? q = some o := by
  obtain ⟨g, st, pl, tg, ts, tp, n, vs, ns, hpo, ⟨o, ho, _⟩, _⟩ := x.pool
  exact ⟨_, ho⟩
theorem LG.psz (x : LG Hb L p q h v2 v3 b) : p < h.objs.size := let ⟨_, e⟩ := x.pex; Heap.lt_size e
theorem LG.qsz (x : LG Hb L p q h v2 v3 b) : q < h.objs.size := let ⟨_, e⟩ := x.qex; Heap.lt_size e
theorem LG.lsz (x : LG Hb L p q h v2 v3 b) : L + 3 < h.objs.size := x.c3.lt
theorem LF.lsz (x : LF w Hb L p q h m v2 v3 b) : L < h.objs.size := x.ns.lt
theorem LG.far_of_ge (x : LG Hb L p q h v2 v3 b) {a : Addr} (e : h.objs.size ≤ a) : Far L p a := by
  have h1 := Nat.lt_of_lt_of_le x.lsz e
  have h2 := Nat.lt_of_lt_of_le x.psz e
  exact ⟨Nat.ne_of_gt (Nat.lt_trans (Nat.lt_add_of_pos_right (by decide)) h1), Nat.ne_of_gt (Nat.lt_trans (Nat.add_lt_add_left (by decide) L) h1), Nat.ne_of_gt (Nat.lt_trans (Nat.add_lt_add_left (by decide) L) h1), Nat.ne_of_gt h1, Nat.ne_of_gt h2⟩
theorem LF.far_of_none (x : LF w Hb L p q h m v2 v3 b) {a : Addr} (e : h.get? a = none) : Far L p a := by
  obtain ⟨o, es, ep, ho, _⟩ := x.ns
  obtain ⟨o1, h1, _⟩ := x.c1
  obtain ⟨o2, h2, _⟩ := x.c2
  obtain ⟨o3, h3, _⟩ := x.c3
  obtain ⟨o4, h4⟩ := x.lg.pex
  exact ⟨ne_none e ho, ne_none e h1, ne_none e h2, ne_none e h3, ne_none e h4⟩
theorem LF.far_of_ge (x : LF w Hb L p q h m v2 v3 b) {a : Addr} (e : h.objs.size ≤ a) : Far L p a := x.lg.far_of_ge e

/-- off the frame's own place all that counts stays -/
theorem LG.at (x : LG Hb L p q h v2 v3 b) (k : ∀ a o, a < h.objs.size → a ≠ L → a ∈ [L + 1, L + 2, L + 3, p, q] ∨ Hb.get? a = some o → h.get? a = some o → h'.get? a = some o) : LG Hb L p q h' v2 v3 b where
  keep := fun a o e => k a o (Heap.lt_size (x.keep a o e)) (Nat.ne_of_lt (Nat.lt_of_lt_of_le (Heap.lt_size e) x.above)) (.inr e) (x.keep a o e)
  above := x.above
  c1 := cell_at x.c1 fun o e => k _ o (Heap.lt_size e) (Nat.succ_ne_self _) (.inl (by simp)) e
  c2 := cell_at x.c2 fun o e => k _ o (Heap.lt_size e) (Nat.ne_of_gt (Nat.lt_add_of_pos_right (by decide))) (.inl (by simp)) e
  c3 := cell_at x.c3 fun o e => k _ o (Heap.lt_size e) (Nat.ne_of_gt (Nat.lt_add_of_pos_right (by decide))) (.inl (by simp)) e
  pool := x.pool.at (fun o e => k _ o (Heap.lt_size e) x.pL.1 (.inl (by simp)) e) fun o e => k _ o (Heap.lt_size e) x.qL.1 (.inl (by simp)) e
  fresh := x.fresh
  pL := x.pL
  qL := x.qL
theorem LG.upd (x : LG Hb L p q h v2 v3 b) (k : ∀ a o, a ≠ L → h.get? a = some o → h'.get? a = some o) : LG Hb L p q h' v2 v3 b := x.at fun a o _ h1 _ e => k a o h1 e
theorem LF.upd (x : LF w Hb L p q h m v2 v3 b) (hn : h'.Ns L m') (k : ∀ a o, a ≠ L → h.get? a = some o → h'.get? a = some o) : LF w Hb L p q h' m' v2 v3 b := ⟨hn, x.lg.upd k⟩
theorem LF.keeps (x : LF w Hb L p q h m v2 v3 b) (k : ∀ a o, h.get? a = some o → h'.get? a = some o) : LF w Hb L p q h' m v2 v3 b := x.upd (x.ns.keeps k) fun a o _ e => k a o e
theorem LG.drawn (x : LG Hb L p q h v2 v3 b) (hp : PoolQ h' p q b') (k : ∀ a o, a ≠ p → h.get? a = some o → h'.get? a = some o) : LG Hb L p q h' v2 v3 b' where
  keep := fun a o e => k a o (fun q' => by rw [q', x.fresh] at e; cases e) (x.keep a o e)
  above := x.above
  c1 := cell_at x.c1 fun o e => k _ o (Ne.symm x.pL.2.1) e
  c2 := cell_at x.c2 fun o e => k _ o (Ne.symm x.pL.2.2.1) e
  c3 := cell_at x.c3 fun o e => k _ o (Ne.symm x.pL.2.2.2) e
  pool := hp
  fresh := x.fresh
  pL := x.pL
  qL := x.qL
theorem LF.drawn (x : LF w Hb L p q h m v2 v3 b) (hp : PoolQ h' p q b') (k : ∀ a o, a ≠ p → h.get? a = some o → h'.get? a = some o) : LF w Hb L p q h' m v2 v3 b' :=
  ⟨x.ns.at' fun o e => k _ o (Ne.symm x.lg.pL.1) e, x.lg.drawn hp k⟩
theorem LF.set2 (x : LF w Hb L p q h m v2 v3 b) {v : Option Value} (hv : h'.IsCell (L + 2) v) (k : ∀ a o, a ≠ L + 2 → h.get? a = some o → h'.get? a = some o) : LF w Hb L p q h' m v v3 b where
  ns := x.ns.at' fun o e => k _ o (Nat.ne_of_lt (Nat.lt_add_of_pos_right (by decide))) e
  lg := {
    keep := fun a o e => k a o (Nat.ne_of_lt (Nat.lt_trans (Nat.lt_of_lt_of_le (Heap.lt_size e) x.lg.above) (Nat.lt_add_of_pos_right (by decide)))) (x.lg.keep a o e)
    above := x.lg.above
    c1 := cell_at x.c1 fun o e => k _ o (Nat.ne_of_lt (Nat.add_lt_add_left (by decide) L)) e
    c2 := hv
    c3 := cell_at x.c3 fun o e => k _ o (Nat.ne_of_gt (Nat.add_lt_add_left (by decide) L)) e
    pool := x.pool.at (fun o e => k _ o x.lg.pL.2.2.1 e) fun o e => k _ o x.lg.qL.2.2.1 e
    fresh := x.fresh
    pL := x.lg.pL
    qL := x.lg.qL }
theorem LF.set3 (x : LF w Hb L p q h m v2 v3 b) {v : Option Value} (hv : h'.IsCell (L + 3) v) (k : ∀ a o, a ≠ L + 3 → h.get? a = some o → h'.get? a = some o) : LF w Hb L p q h' m v2 v b where
  ns := x.ns.at' fun o e => k _ o (Nat.ne_of_lt (Nat.lt_add_of_pos_right (by decide))) e
  lg := {
    keep := fun a o e => k a o (Nat.ne_of_lt (Nat.lt_trans (Nat.lt_of_lt_of_le (Heap.lt_size e) x.lg.above) (Nat.lt_add_of_pos_right (by decide)))) (x.lg.keep a o e)
    above := x.lg.above
    c1 := cell_at x.c1 fun o e => k _ o (Nat.ne_of_lt (Nat.add_lt_add_left (by decide) L)) e
    c2 := cell_at x.c2 fun o e => k _ o (Nat.ne_of_lt (Nat.add_lt_add_left (by decide) L)) e
    c3 := hv
    pool := x.pool.at (fun o e => k _ o x.lg.pL.2.2.2 e) fun o e => k _ o x.lg.qL.2.2.2.1 e
    fresh := x.fresh
    pL := x.lg.pL
    qL := x.lg.qL }
/-- a dict of the law's own changes -/
theorem LF.dict (x : LF w Hb L p q h m v2 v3 b) {d : Addr} {od : Obj} (hd : h.get? d = some od) (hc : od.cls = .type "dict") (hf : Far L p d) (h0 : Hb.get? d = none) (k : ∀ a o, a ≠ d → h.get? a = some o → h'.get? a = some o) : LF w Hb L p q h' m v2 v3 b := by
  refine ⟨x.ns.at' fun o e => k _ o (Ne.symm hf.1) e, x.lg.at fun a o _ _ hm e => k a o ?_ e⟩
  rintro rfl
  rcases hm with hm | hm
  · simp only [List.mem_cons, List.not_mem_nil, or_false] at hm
    rcases hm with q1 | q1 | q1 | q1 | q1
    · exact hf.2.1 q1
    · exact hf.2.2.1 q1
    · exact hf.2.2.2.1 q1
    · exact hf.2.2.2.2 q1
    · obtain ⟨g, st, pl, tg, ts, tp, n, vs, ns, hpo, ⟨o', ho', hco, _⟩, _⟩ := x.pool
      rw [← q1, hd] at ho'; cases ho'
      rw [hc] at hco; exact absurd hco (by decide)
  · rw [h0] at hm; cases hm
end
def KpF (L p : Addr) (h h' : Heap) : Prop := ∀ a o, Far L p a → h.get? a = some o → h'.get? a = some o

end Mine
end

section
open PySem PySem.W PyProof.Rows PySem.Calls
namespace Mine
local macro_rules | `(tactic| walk_at "mlook") => `(tactic| first | assumption | exact if_pos rfl | (refine Eq.trans (if_neg (by decide)) ?_; walk_at "mlook") | rfl)
local macro_rules | `(tactic| walk_at "memb") => `(tactic| first | exact List.Mem.head _ | (refine List.Mem.tail _ ?_; walk_at "memb"))
local macro_rules | `(tactic| walk_at "eval Name") => `(tactic| with_unfolding_all (first | refine ev_builtE (by assumption) (by assumption) (by walk_at "memb") ?_ rfl rfl rfl rfl (by decide) | refine ev_globE (by assumption) (by assumption) (by walk_at "memb") ?_ rfl rfl rfl (by decide) | refine ev_cell rfl (by assumption) ?_ rfl rfl (by decide)))
local macro_rules | `(tactic| walk_at "eval Name") => `(tactic| refine ev_loc (by assumption) (by first | rfl | walk_at "mlook") ?_ rfl rfl (by decide))

section
variable {w : World} {A : Around} {s : Shared} {K : Frag}


set_option maxHeartbeats 4000000 in
theorem st0 {Hb : Heap} {L f : Addr} {cd : Value} {m : Str → Option Value} (W : W0 K w Hb) (R : Rm A 8) (F : Fr Hb L s.heap m) (c1 : s.heap.IsCell (L + 1) none) (c2 : s.heap.IsCell (L + 2) none) (c3 : s.heap.IsCell (L + 3) none)
    {l : Addr} {vs : List Value} {ns : List Int} (hm : m "script" = some (.ref l)) (hl : Hb.IsList l vs.toArray) (hI : IntsAre vs ns) (hlen : ns.length ≤ 63) {Q : Flow → Shared → Prop}
    (hQ : ∀ p q h' tk, LF w Hb L p q h' m none none 0 → Q .next { s with heap := h', toks := tk }) :
    wpAny (model PP w) A (exec (lawStm 0) (LE L f cd)) Q NoE s := by
  obtain ⟨hd0, dp, frs, gds, un⟩ := A
  obtain rfl : hd0 = none := R.hh
  have KX := W.X
  have hn := F.ns
  have B1 := F.keep
  refine wpAny_Assign_Name ?_
  iterate 2 walk1
  refine callWith_fn W.box ?_ rfl
  iterate 3 walk1
  refine ⟨B1, ?_⟩
  refine wpAny_mono (box_spec (W.keeps B1) (R.less (by decide)) (hl.at (B1 _)) hI hlen (Q := fun v s' => ∃ p h' tk, v = .ref p ∧ s' = { s with heap := h', toks := tk } ∧ (∀ b o, s.heap.get? b = some o → h'.get? b = some o) ∧ s.heap.get? p = none ∧ Pool h' p 0) fun p h' tk k0 hp0 hp => ⟨p, h', tk, rfl, rfl, k0, hp0, hp⟩) (fun v s' hv => ?_) (fun _ _ e => e)
  obtain ⟨p, h', tk, rfl, rfl, k0, hp0, hp⟩ := hv
  refine wpAny_storeName_cell rfl rfl rfl (c1.keeps k0) fun h2 hc hs => ?_
  have ks := keeps_of_same hs
  have ksz : L + 1 ≠ L := Nat.succ_ne_self _
  have hpn : p ≠ L ∧ p ≠ L + 1 ∧ p ≠ L + 2 ∧ p ≠ L + 3 := by
    obtain ⟨o, es, ep, ho, _⟩ := hn
    obtain ⟨o1, h1, _⟩ := c1
    obtain ⟨o2, h2, _⟩ := c2
    obtain ⟨o3, h3, _⟩ := c3
    exact ⟨ne_none hp0 ho, ne_none hp0 h1, ne_none hp0 h2, ne_none hp0 h3⟩
  obtain ⟨q, hp⟩ := hp
  have hpq := hp
  obtain ⟨g, st, pl, tg, ts, tp, n, vs', ns', hpo, hcl, _, _, _, hqp⟩ := hpq
  have hc1 := c1.keeps k0
  have hql : q ≠ L ∧ q ≠ L + 1 ∧ q ≠ L + 2 ∧ q ≠ L + 3 ∧ q ≠ p := ⟨list_ne_ns hcl (hn.keeps k0), list_ne_cell hcl (c1.keeps k0), list_ne_cell hcl (c2.keeps k0), list_ne_cell hcl (c3.keeps k0), hqp⟩
  refine hQ p q h2 _ ⟨(hn.keeps k0).at' fun o e => ks _ o (Ne.symm ksz) e, { keep := fun b o e => ks b o (Nat.ne_of_lt (Nat.lt_of_lt_of_le (Heap.lt_size e) (Nat.le_succ_of_le F.above))) (k0 _ _ (B1 _ _ e)), above := F.above, c1 := hc, c2 := cell_at (c2.keeps k0) fun o e => ks _ o (Nat.ne_of_gt (Nat.add_lt_add_left (by decide) L)) e, c3 := cell_at (c3.keeps k0) fun o e => ks _ o (Nat.ne_of_gt (Nat.add_lt_add_left (by decide) L)) e, pool := hp.at (fun o e => ks _ o hpn.2.1 e) fun o e => ks _ o hql.2.1 e, fresh := ?_, pL := hpn, qL := hql }⟩
  cases q' : Hb.get? p with
  | none => rfl
  | some o => rw [B1 _ _ q'] at hp0; cases hp0
end

section
variable {w : World} {A : Around} {s : Shared} {K : Frag}


set_option maxHeartbeats 4000000 in
theorem st1 {Hb : Heap} {L f p q : Addr} {cd : Value} {m : Str → Option Value} {v2 v3 : Option Value} {b : Nat} (W : W0 K w Hb) (R : Rm A 8) (x : LF w Hb L p q s.heap m v2 v3 b) (hb : b ≤ 1000) {Q : Flow → Shared → Prop}
    (hQ : ∀ n t h' tk, 0 ≤ n → n < 5 → LF w Hb L p q h' (fun y => if y = "many" then some (.int n t) else m y) v2 v3 (b + 1) → KpF L p s.heap h' → Q .next { s with heap := h', toks := tk }) :
    wpAny (model PP w) A (exec (lawStm 1) (LE L f cd)) Q NoE s := by
  obtain ⟨hd0, dp, frs, gds, un⟩ := A
  obtain rfl : hd0 = none := R.hh
  have KX := W.X
  have hn := x.fr.ns
  have B1 := x.fr.keep
  have c1 := x.c1
  refine wpAny_Assign_Name ?_
  iterate 2 walk1
  refine callWith_fn W.draw ?_ rfl
  iterate 5 walk1
  refine ⟨B1, ?_⟩
  generalize hH : s.heap = H at *
  refine draw_spec (most := 5) W B1 (R.less (by decide)) x.pool x.fresh (by omega) (by decide) (by decide) fun n t h' tk h0 h5 hp k1 => ?_
  have x1 := x.drawn hp k1
  refine wpAny_storeName_local rfl x1.fr.ns (fun h2 hn2 hs2 => ?_) rfl
  have k2 : ∀ a o, a ≠ L → h'.get? a = some o → h2.get? a = some o := fun a o ha e => hs2.extBut a o ha e
  exact hQ n t h2 _ h0 h5 (x1.upd hn2 k2) fun a o ha e => k2 a o ha.1 (k1 a o ha.2.2.2.2 e)

set_option maxHeartbeats 4000000 in
theorem st2 {Hb : Heap} {L f p q : Addr} {cd : Value} {m : Str → Option Value} {v2 v3 : Option Value} {b : Nat} (W : W0 K w Hb) (x : LF w Hb L p q s.heap m v2 v3 b) {Q : Flow → Shared → Prop}
    (hQ : ∀ c h' tk, LF w Hb L p q h' m (some (.ref c)) v3 b → KpF L p s.heap h' → s.heap.get? c = none → ID w h' c [] → Q .next { s with heap := h', toks := tk }) :
    wpAny (model PP w) A (exec (lawStm 2) (LE L f cd)) Q NoE s := by
  refine wpAny_Assign_Name (wpAny_Dict_empty ?_)
  have k1 : ∀ a o, s.heap.get? a = some o → (s.heap.push { cls := .type "dict", data := .dict #[] }).get? a = some o := fun a o e => Heap.get?_push_of_some _ e
  have hnew := Heap.get?_push_size s.heap (o := { cls := .type "dict", data := .dict #[] }) rfl
  have x1 := x.keeps k1
  have hc0 := none_at_big (Nat.le_refl s.heap.objs.size)
  have hbig : 1 < s.heap.objs.size := Nat.lt_trans (by decide) (Nat.lt_of_lt_of_le (big_of W) (Nat.le_trans x.lg.above (Nat.le_of_lt x.lsz)))
  generalize s.heap.push { cls := .type "dict", data := .dict #[] } = h1 at *
  generalize s.heap.objs.size = c at *
  refine wpAny_storeName_cell rfl rfl rfl x1.c2 fun h2 hc hs => ?_
  have k2 : ∀ a o, a ≠ L + 2 → h1.get? a = some o → h2.get? a = some o := keeps_of_same hs
  have hcf := x.far_of_none hc0
  exact hQ c h2 _ (x1.set2 hc k2) (fun a o ha e => k2 a o ha.2.2.1 (k1 a o e)) hc0 (ID.of_empty (k2 _ _ hcf.2.2.1 hnew) hbig)
end

section
variable {w : World} {A : Around} {s : Shared} {K : Frag}


theorem LG.off {Hb h h' : Heap} {L p q I : Addr} {v2 v3 : Option Value} {b : Nat} (x : LG Hb L p q h v2 v3 b) (hI : L + 3 < I ∧ p < I ∧ q < I) (k : ∀ a o, a < I → h.get? a = some o → h'.get? a = some o) : LG Hb L p q h' v2 v3 b := by
  refine x.at fun a o _ _ hm e => k a o ?_ e
  rcases hm with hm | hm
  · simp only [List.mem_cons, List.not_mem_nil, or_false] at hm
    rcases hm with rfl | rfl | rfl | rfl | rfl
    · exact Nat.lt_trans (Nat.add_lt_add_left (by decide) L) hI.1
    · exact Nat.lt_trans (Nat.add_lt_add_left (by decide) L) hI.1
    · exact hI.1
    · exact hI.2.1
    · exact hI.2.2
  · exact Nat.lt_trans (Nat.lt_of_lt_of_le (Heap.lt_size hm) x.above) (Nat.lt_trans (Nat.lt_add_of_pos_right (by decide)) hI.1)

def Asc (n : Nat) (l : List Int) : Prop := l.Pairwise (· < ·) ∧ ∀ t ∈ l, 0 ≤ t ∧ t < (n : Int)
theorem Asc.up {n : Nat} {l : List Int} (x : Asc n l) : Asc (n + 1) l := ⟨x.1, fun t ht => by have := x.2 t ht; omega⟩
theorem Asc.snoc {n : Nat} {l : List Int} (x : Asc n l) : Asc (n + 1) (l ++ [(n : Int)]) := by
  refine ⟨List.pairwise_append.mpr ⟨x.1, by simp, fun a ha b hb => by rw [List.mem_singleton.mp hb]; exact (x.2 a ha).2⟩, fun t ht => ?_⟩
  rcases List.mem_append.mp ht with ht | ht
  · have := x.2 t ht; omega
  · rw [List.mem_singleton.mp ht]; omega

theorem comp_draw {Hb H : Heap} {L p q : Addr} {m : Str → Option Value} {v2 v3 : Option Value} {b n : Nat} {env : Env} {elt : Expr} {x : Str} {ifs : List Expr} {scope : Scope} {cl : List (Str × Addr)} {Fin : Shared → List Value → Heap → Nat → Prop} {tk0 : Nat}
    (hh : A.handled = none) (g0 : LG Hb L p q H v2 v3 b) (hn : H.Ns L m) (hns : n ≤ 1000)
    (R : Heap → List Value → List Int → Prop) (hR0 : ∀ h, R h [] []) (hRst : ∀ h h' ys ts, R h ys ts → (∀ a o, H.objs.size + 2 < a → h.get? a = some o → h'.get? a = some o) → R h' ys ts)
    (htest : ∀ (i : Nat) t h tk b' m2, b' ≤ b + n → LG Hb L p q h v2 v3 b' → h.Ns L m → h.Ns (H.objs.size + 2) m2 → m2 x = some (.int i t) →
      wpAny (model PP w) A (tests ifs (compEnvC scope cl (H.objs.size + 2) env)) (fun _ s' => ∃ h' tk', s' = { s with heap := h', toks := tk' } ∧ PoolQ h' p q (b' + 1) ∧ ∀ a o, a ≠ p → h.get? a = some o → h'.get? a = some o) NoE { s with heap := h, toks := tk })
    (helt : ∀ (i : Nat) t h tk b' m2 ys ts, LG Hb L p q h v2 v3 b' → h.Ns L m → h.Ns (H.objs.size + 2) m2 → m2 x = some (.int i t) → R h ys ts → H.objs.size + 2 < h.objs.size →
      wpAny (model PP w) A (eval elt (compEnvC scope cl (H.objs.size + 2) env)) (fun y s' => ∃ h' tk', s' = { s with heap := h', toks := tk' } ∧ (∀ a o, h.get? a = some o → h'.get? a = some o) ∧ R h' (ys ++ [y]) (ts ++ [(i : Int)])) NoE { s with heap := h, toks := tk })
    (hfin : ∀ h tk ys ts, LG Hb L p q h v2 v3 (b + n) → h.Ns L m → (∀ a o, a ≠ p → H.get? a = some o → h.get? a = some o) → R h ys ts → Asc n ts → h.get? (H.objs.size + 1) = some (lst ys) →
      Fin { s with heap := H.push { cls := .type "range_iterator", data := .fields #[rawInt 0, rawInt n, rawInt 1] }, toks := tk0 } ys h tk) :
    CompOn w A env elt x ifs scope cl Fin (.ref H.objs.size) { s with heap := H.push { cls := .type "range_iterator", data := .fields #[rawInt 0, rawInt n, rawInt 1] }, toks := tk0 } := by
  have hps : (H.push { cls := .type "range_iterator", data := .fields #[rawInt 0, rawInt n, rawInt 1] }).objs.size = H.objs.size + 1 := Heap.size_push ..
  have up : ∀ a o, H.get? a = some o → (H.push { cls := .type "range_iterator", data := .fields #[rawInt 0, rawInt n, rawInt 1] }).get? a = some o := fun a o e => Heap.get?_push_of_some _ e
  have low : L + 3 < H.objs.size ∧ p < H.objs.size ∧ q < H.objs.size := ⟨g0.lsz, g0.psz, g0.qsz⟩
  have hL : L < H.objs.size := hn.lt
  refine ⟨H.objs.size, [H.objs.size], n, _, _, rfl, LCg.range_walks hh 0 n, by rw [sizeLine_eq]; omega, ?_, ?_, fun i ys h => LG Hb L p q h v2 v3 (b + i) ∧ h.Ns L m ∧ (∀ a o, a ≠ p → H.get? a = some o → h.get? a = some o) ∧ ∃ ts, R h ys ts ∧ Asc i ts, ?_, ?_, ?_, ?_⟩
  · show _ = _
    rw [Heap.get?_push_size _ rfl]; simp
  · intro a ha
    rw [List.mem_singleton.mp ha]
    show _ < (H.push _).objs.size
    rw [hps]; exact Nat.lt_succ_self _
  · exact ⟨g0.upd fun a o _ e => up a o e, hn.keeps up, fun a o _ e => up a o e, [], hR0 _, ⟨.nil, fun t ht => by cases ht⟩⟩
  · dsimp only
    rw [hps]
    rintro i ys h h' ⟨a1, a2, a3, ts, a4, a5⟩ hkk
    have kl : ∀ a o, a < H.objs.size → h.get? a = some o → h'.get? a = some o := fun a o ha e => hkk a o (Nat.ne_of_lt ha) (Nat.ne_of_lt (Nat.lt_succ_of_lt ha)) (Nat.ne_of_lt (Nat.lt_succ_of_lt (Nat.lt_succ_of_lt ha))) e
    refine ⟨a1.off low kl, a2.at' fun o e => kl _ o hL e, fun a o h1 e => kl a o (Heap.lt_size e) (a3 a o h1 e), ts, hRst _ _ _ _ a4 fun a o ha e => hkk a o ?_ ?_ ?_ e, a5⟩
    · exact Nat.ne_of_gt (Nat.lt_trans (Nat.lt_add_of_pos_right (by decide)) ha)
    · exact Nat.ne_of_gt (Nat.lt_trans (Nat.lt_succ_self _) ha)
    · exact Nat.ne_of_gt ha
  · dsimp only
    rw [hps]
    rintro i v ys h tk m2 hlt ⟨t, rfl⟩ hSt ⟨a1, a2, a3, ts, a4, a5⟩ hn2 hm2 hsz
    have e0 : (0 : Int) + (i : Nat) = (i : Int) := Int.zero_add _
    rw [e0] at hm2
    refine wpAny_mono (htest i t h tk (b + i) m2 (by omega) a1 a2 hn2 hm2) (fun ok s₃ h₃ => ?_) (fun _ _ e => e)
    obtain ⟨h₃, tk₃, rfl, hp3, k3⟩ := h₃
    have g3 := a1.drawn hp3 k3
    have hLp : L ≠ p := Ne.symm a1.pL.1
    have n3 := a2.at' fun o e => k3 _ o hLp e
    have pI : p ≠ H.objs.size + 2 := Nat.ne_of_lt (Nat.lt_succ_of_lt (Nat.lt_succ_of_lt low.2.1))
    have n3' := hn2.at' fun o e => k3 _ o (Ne.symm pI) e
    have r3 : R h₃ ys ts := hRst _ _ _ _ a4 fun a o ha e => k3 a o (Nat.ne_of_gt (Nat.lt_trans (Nat.lt_succ_of_lt (Nat.lt_succ_of_lt low.2.1)) ha)) e
    have kb : ∀ a o, a ≠ p → H.get? a = some o → h₃.get? a = some o := fun a o h1 e => k3 a o h1 (a3 a o h1 e)
    have own : ∀ a o, (a = H.objs.size + 1 + 1 ∨ a = H.objs.size + 1 ∨ a ∈ [H.objs.size]) → h.get? a = some o → h₃.get? a = some o := fun a o ha e => by
      refine k3 a o ?_ e
      rcases ha with rfl | rfl | ha
      · exact Ne.symm pI
      · exact Nat.ne_of_gt (Nat.lt_succ_of_lt low.2.1)
      · rw [List.mem_singleton.mp ha]; exact Nat.ne_of_gt low.2.1
    cases ok with
    | false =>
      rw [if_neg (by decide)]
      exact ⟨h₃, _, rfl, own, g3, n3, kb, ts, r3, a5.up⟩
    | true =>
      rw [if_pos rfl]
      refine wpAny_mono (helt i t h₃ tk₃ (b + i + 1) m2 ys ts g3 n3 n3' hm2 r3 n3'.lt) (fun y s₄ h₄ => ?_) (fun _ _ e => e)
      obtain ⟨h₄, tk₄, rfl, k4, r4⟩ := h₄
      exact ⟨h₄, _, rfl, fun a o ha e => k4 a o (own a o ha e), g3.upd fun a o _ e => k4 a o e, n3.keeps k4, fun a o h1 e => k4 a o (kb a o h1 e), ts ++ [(i : Int)], r4, a5.snoc⟩
  · dsimp only
    rw [hps]
    rintro h tk ys ⟨a1, a2, a3, ts, a4, a5⟩ hD
    exact hfin h tk ys ts a1 a2 a3 a4 a5 hD
end

section
variable {w : World} {A : Around} {s : Shared} {K : Frag}


/-- what chosen holds after some turns -/
def ChOk (i : Nat) (ch : List (Int × List Int)) : Prop := ch.map (·.1) = ((List.range i).map fun (j : Nat) => 1 + 2 * (j : Int)) ∧ ∀ p ∈ ch, Asc 9 p.2

set_option maxHeartbeats 4000000 in
theorem st3 {Hb : Heap} {L f p q c : Addr} {cd : Value} {m : Str → Option Value} {v3 : Option Value} {b N : Nat} {tn : Tok} (W : W0 K w Hb) (R : Rm A 8) (x : LF w Hb L p q s.heap m (some (.ref c)) v3 b) (hb : b ≤ 1000) (hN : N < 5) (hm : m "many" = some (.int N tn))
    (hc : ID w s.heap c []) (hcF : Far L p c) (hc0 : Hb.get? c = none) {Q : Flow → Shared → Prop}
    (hQ : ∀ h' tk m' kvc ch as, LF w Hb L p q h' m' (some (.ref c)) v3 (b + 9 * N) → (∀ y : Str, y ≠ "turn" → m' y = m y) → (∀ a o, Far L p a → a ≠ c → s.heap.get? a = some o → h'.get? a = some o) → ID w h' c kvc → CLs h' ch kvc as → (∀ a ∈ as, Far L p a ∧ a ≠ c) → ChOk N ch → Q .next { s with heap := h', toks := tk }) :
    wpAny (model PP w) A (exec (lawStm 3) (LE L f cd)) Q NoE s := by
  obtain ⟨hd0, dp, frs, gds, un⟩ := A
  obtain rfl : hd0 = none := R.hh
  have KX := W.X
  have hn := x.ns
  have B1 := x.lg.keep
  refine For_raw (L := L) rfl rfl rfl (fun _ => rfl) ?_
  iterate 6 walk1
  refine call_range_1 ?_
  have hsm : Builtin.Range.small 0 (N : Int) 1 = true := by
    have : N = 0 ∨ N = 1 ∨ N = 2 ∨ N = 3 ∨ N = 4 := by omega
    rcases this with rfl | rfl | rfl | rfl | rfl <;> decide
  have hrs : Builtin.Range.rangeSize 0 (N : Int) 1 = N := by
    rw [rangeSize_one]; split <;> omega
  refine wpAny_pyIter_range (IsRange.new _ 0 (N : Int) 1 _ _ _) hsm ?_
  rw [hrs]
  dsimp only
  have k01 : ∀ a o, s.heap.get? a = some o → (s.heap.push { cls := .type "range", data := .fields #[.int 0 s.toks, .int N tn, .int 1 (s.toks + 1)] }).get? a = some o := fun a o e => Heap.get?_push_of_some _ e
  generalize s.heap.push { cls := .type "range", data := .fields #[.int 0 s.toks, .int N tn, .int 1 (s.toks + 1)] } = h₁ at *
  have x1 := x.keeps k01
  have hc1 : ID w h₁ c [] := hc.keep k01
  have hLI : L < h₁.objs.size := x1.ns.lt
  have hcI : c < h₁.objs.size := hc1.lt
  have low : L + 3 < h₁.objs.size ∧ p < h₁.objs.size ∧ q < h₁.objs.size := ⟨x1.lg.lsz, x1.lg.psz, x1.lg.qsz⟩
  have up : ∀ a o, h₁.get? a = some o → (h₁.push { cls := .type "range_iterator", data := .fields #[rawInt 0, rawInt N, rawInt 1] }).get? a = some o := fun a o e => Heap.get?_push_of_some _ e
  refine ⟨h₁.objs.size, [h₁.objs.size], N, _, _, rfl, LCg.range_walks rfl 0 N, ?_, ?_,
    fun i m' h => (∃ kvc ch as, LG Hb L p q h (some (.ref c)) v3 (b + 9 * i) ∧ ID w h c kvc ∧ CLs h ch kvc as ∧ (∀ a ∈ as, Far L p a ∧ a ≠ c ∧ a ≠ h₁.objs.size) ∧ ChOk i ch) ∧ (∀ a o, Far L p a → a ≠ c → s.heap.get? a = some o → h.get? a = some o) ∧ (∀ y : Str, y ≠ "turn" → m' y = m y), _, x1.ns.keeps up, ?_, ?_, ?_, ?_⟩
  · show _ = _
    rw [Heap.get?_push_size _ rfl]; simp
  · intro hmem
    exact Nat.ne_of_lt hLI (List.mem_singleton.mp hmem)
  · exact ⟨⟨[], [], [], x1.lg.upd fun a o _ e => up a o e, hc1.keep up, .nil, (fun a ha => by cases ha), rfl, fun p hp => by cases hp⟩, fun a o _ _ e => up _ _ (k01 _ _ e), fun _ _ => rfl⟩
  · rintro i m' h h' ⟨⟨kvc, ch, as, a1, a2, a3, a4, a5⟩, a6, a7⟩ hkk
    have kl : ∀ a o, a < h₁.objs.size → a ≠ L → h.get? a = some o → h'.get? a = some o := fun a o h1 h2 e => hkk a o (Nat.ne_of_lt h1) h2 e
    refine ⟨⟨kvc, ch, as, a1.at fun a o _ h2 hm' e => ?_, a2.at fun o e => kl _ o hcI hcF.1 e, a3.at fun a ha o e => hkk a o (a4 a ha).2.2 (a4 a ha).1.1 e, a4, a5⟩, fun a o h1 h2 e => kl a o (Heap.lt_size (k01 _ _ e)) h1.1 (a6 a o h1 h2 e), a7⟩
    refine kl a o ?_ h2 e
    rcases hm' with hm' | hm'
    · simp only [List.mem_cons, List.not_mem_nil, or_false] at hm'
      rcases hm' with rfl | rfl | rfl | rfl | rfl
      · exact Nat.lt_trans (Nat.add_lt_add_left (by decide) L) low.1
      · exact Nat.lt_trans (Nat.add_lt_add_left (by decide) L) low.1
      · exact low.1
      · exact low.2.1
      · exact low.2.2
    · exact Nat.lt_trans (Nat.lt_of_lt_of_le (Heap.lt_size hm') x.lg.above) hLI
  · rintro i v m' h tk hlt ⟨ti, rfl⟩ hSt ⟨⟨kvc, ch, as, a1, a2, a3, a4, a5⟩, a6, a7⟩ hns
    have e0 : (0 : Int) + (i : Nat) = (i : Int) := Int.zero_add _
    rw [e0] at hns
    have B2 := a1.keep
    have c1 := a1.c1
    have c2 := a1.c2
    refine wpAny_execs_cons ?_
    walk1
    refine ListComp_raw rfl (by decide +kernel) rfl (by decide +kernel) rfl (fun _ => rfl) ?_
    iterate 6 walk1
    refine call_range_1 ?_
    refine wpAny_pyIter_range (IsRange.new _ 0 9 1 _ _ _) rfl ?_
    rw [show Builtin.Range.rangeSize 0 9 1 = ((9 : Nat) : Int) from rfl]
    dsimp only
    have hIh : h₁.objs.size < h.objs.size := Heap.lt_size hSt
    have k12 : ∀ a o, h.get? a = some o → (h.push { cls := .type "range", data := .fields #[.int 0 (tk + 1), .int 9 tk, .int 1 (tk + 1 + 1)] }).get? a = some o := fun a o e => Heap.get?_push_of_some _ e
    generalize h.push { cls := .type "range", data := .fields #[.int 0 (tk + 1), .int 9 tk, .int 1 (tk + 1 + 1)] } = H at *
    have g2 := a1.upd fun a o _ e => k12 a o e
    have n2 := hns.keeps k12
    have hIH : h₁.objs.size < H.objs.size := Heap.lt_size (k12 _ _ hSt)
    refine comp_draw (s := s) (H := H) (n := 9) rfl g2 n2 (by decide) (fun _ ys ts => IntsAre ys ts) (fun _ => .nil) (fun _ _ _ _ r _ => r) ?_ ?_ ?_
    · intro j t h₃ tk₃ b' m2 hb' g3 n3 n3' hx
      have c13 := g3.c1
      have B3 := g3.keep
      refine tests_one ?_
      iterate 3 walk1
      refine callWith_fn W.draw ?_ rfl
      iterate 5 walk1
      refine ⟨B3, ?_⟩
      refine draw_spec (most := 3) W B3 (R.less (by decide)) g3.pool g3.fresh (by omega) (by decide) (by decide) fun z tz h₄ tk₄ h0 h5 hp k4 => ?_
      repeat' (first | (fail_if_success (with_reducible show Exists _)); walk1)
      all_goals exact ⟨h₄, _, rfl, hp, k4⟩
    · intro j t h₃ tk₃ b' m2 ys ts g3 n3 n3' hx hr hz
      iterate 1 walk1
      exact ⟨h₃, _, rfl, fun _ _ e => e, ints_snoc hr j t⟩
    · intro h₃ tk₃ ys ts g3 n3 k3 hr hasc hD h₄ k4
      have hps : (H.push { cls := .type "range_iterator", data := .fields #[rawInt 0, rawInt (9 : Nat), rawInt 1] }).objs.size = H.objs.size + 1 := Heap.size_push ..
      dsimp only at k4 ⊢
      rw [hps] at k4 ⊢
      have lowH : L + 3 < H.objs.size + 2 ∧ p < H.objs.size + 2 ∧ q < H.objs.size + 2 := ⟨Nat.lt_succ_of_lt (Nat.lt_succ_of_lt g2.lsz), Nat.lt_succ_of_lt (Nat.lt_succ_of_lt g2.psz), Nat.lt_succ_of_lt (Nat.lt_succ_of_lt g2.qsz)⟩
      have k4l : ∀ a o, a < H.objs.size + 2 → h₃.get? a = some o → h₄.get? a = some o := fun a o ha e => k4 a o (Nat.ne_of_lt ha) e
      have g4 := g3.off lowH k4l
      have n4 := n3.at' fun o e => k4l L o (Nat.lt_trans (Nat.lt_add_of_pos_right (by decide)) lowH.1) e
      have hD4 := k4l _ _ (Nat.lt_succ_self _) hD
      have kHh : ∀ a o, a ≠ p → h.get? a = some o → h₄.get? a = some o := fun a o hp e => k4l a o (Nat.lt_succ_of_lt (Nat.lt_succ_of_lt (Heap.lt_size (k12 _ _ e)))) (k3 a o hp (k12 _ _ e))
      have hc4 : ID w h₄ c kvc := a2.at (kHh c · hcF.2.2.2.2)
      have hcl4 : CLs h₄ ch kvc as := a3.at fun a ha o e => kHh a o (a4 a ha).1.2.2.2.2 e
      have c24 := g4.c2
      clear c1 c2 B2
      have hkl : kvc.length ≤ 1000 := by
        have h1 := a3.len
        have h2 := congrArg List.length a5.1
        simp only [List.length_map, List.length_range] at h2
        omega
      have hmiss : valueAt kvc (1 + 2 * (i : Int)) = none := by
        refine valueAt_absent ?_
        rw [a3.keys, a5.1]
        intro q'
        obtain ⟨j, hj, e⟩ := List.mem_map.mp q'
        have := List.mem_range.mp hj
        omega
      obtain ⟨oc, hoc, hocc⟩ := hc4.there
      have hDc : H.objs.size + 1 ≠ c := Nat.ne_of_gt (Nat.lt_succ_of_lt (Nat.lt_trans hcI hIH))
      iterate 8 walk1
      refine id_setItem hc4 hkl fun h₅ hc5 k5 => ?_
      rw [stored_miss hmiss] at hc5
      have x5 := (LF.mk (w := w) n4 g4).dict hoc hocc hcF hc0 k5
      iterate 1 walk1
      have eb : b + 9 * (i + 1) = b + 9 * i + 9 := by omega
      refine ⟨h₅, _, _, rfl, x5.ns, fun a o ha e => ?_, ⟨_, ch ++ [(1 + 2 * (i : Int), ts)], as ++ [H.objs.size + 1], by rw [eb]; exact x5.lg, hc5, (hcl4.at fun a ha o e => k5 a o (a4 a ha).2.1 e).snoc (k5 _ _ hDc hD4) hr, fun a ha => ?_, ?_, fun p' hp' => ?_⟩, fun a o h1 h2 e => k5 a o h2 (kHh a o h1.2.2.2.2 (a6 a o h1 h2 e)), fun y hy => ?_⟩
      · rw [List.mem_singleton.mp ha] at e ⊢
        exact k5 _ o (Nat.ne_of_gt hcI) (kHh _ o (Nat.ne_of_gt low.2.1) e)
      · rcases List.mem_append.mp ha with ha | ha
        · exact a4 a ha
        · rw [List.mem_singleton.mp ha]
          exact ⟨g2.far_of_ge (Nat.le_succ _), hDc, Nat.ne_of_gt (Nat.lt_succ_of_lt hIH)⟩
      · rw [List.map_append, a5.1, List.range_succ, List.map_append]; rfl
      · rcases List.mem_append.mp hp' with hp' | hp'
        · exact a5.2 _ hp'
        · rw [List.mem_singleton.mp hp']; exact hasc
      · exact (if_neg hy).trans (a7 y hy)
  · rintro m' h tk ⟨⟨kvc, ch, as, a1, a2, a3, a4, a5⟩, a6, a7⟩ hns
    exact hQ h tk m' kvc ch as ⟨hns, a1⟩ a7 a6 a2 a3 (fun a ha => ⟨(a4 a ha).1, (a4 a ha).2.1⟩) a5
end

section
variable {w : World} {A : Around} {s : Shared} {K : Frag}


theorem PrsP.nil {h : Heap} {P : Addr → Prop} : PrsP h P [] [] := ⟨rfl, fun i v e => by simp at e⟩
theorem PrsP.at {h h' : Heap} {P P' : Addr → Prop} {vs kvs} (x : PrsP h P vs kvs) (k : ∀ a o, P a → o.cls = .type "tuple" → h.get? a = some o → h'.get? a = some o) (l : ∀ a o, P a → o.cls = .type "tuple" → h.get? a = some o → P' a) : PrsP h' P' vs kvs := by
  refine ⟨x.1, fun i v e => ?_⟩
  obtain ⟨a, kk, t, y, n, h1, h2, h3, h4⟩ := x.2 i v e
  exact ⟨a, kk, t, y, n, h1, l _ _ h2 rfl h4, h3, k _ _ h2 rfl h4⟩
theorem PrsP.snoc {h : Heap} {P : Addr → Prop} {vs kvs} (x : PrsP h P vs kvs) {a : Addr} {k : Int} {t : Tok} {y : Value} {n : Nat} (hP : P a) (ho : h.get? a = some { cls := .type "tuple", data := .seq [Value.int k t, y].toArray n }) :
    PrsP h P (vs ++ [.ref a]) (kvs ++ [(k, y)]) := by
  refine ⟨by simp [x.1], fun i v e => ?_⟩
  by_cases hi : i < vs.length
  · rw [List.getElem?_append_left hi] at e
    obtain ⟨a', kk, t', y', n', h1, h2, h3, h4⟩ := x.2 i v e
    exact ⟨a', kk, t', y', n', h1, h2, by rw [List.getElem?_append_left (by rw [← x.1]; exact hi)]; exact h3, h4⟩
  · have hi' : vs.length ≤ i := Nat.not_lt.mp hi
    rw [List.getElem?_append_right hi'] at e
    have e0 : i - vs.length = 0 := by
      cases q : i - vs.length with
      | zero => rfl
      | succ j => rw [q] at e; simp at e
    rw [e0] at e
    simp only [List.getElem?_cons_zero, Option.some.injEq] at e
    have e1 : i = vs.length := by omega
    subst e1
    exact ⟨a, k, t, y, n, e.symm, hP, by rw [x.1, List.getElem?_append_right (Nat.le_refl _)]; simp, ho⟩
theorem Ints.snoc {kvs ms} (x : Ints kvs ms) (k n : Int) (t : Tok) : Ints (kvs ++ [(k, .int n t)]) (ms ++ [(k, n)]) := by
  induction x with
  | nil => exact .cons k n t .nil
  | cons a b c _ ih => exact .cons a b c ih
theorem Asc.nodup {n : Nat} {l : List Int} (x : Asc n l) : l.Nodup := x.1.imp fun h => by omega
theorem Asc.len {n : Nat} {l : List Int} (x : Asc n l) : l.length ≤ n := by
  have := len_of_sub (S := (List.range n).map fun (j : Nat) => (j : Int)) x.nodup fun t ht => by
    have h := x.2 t ht
    exact List.mem_map.mpr ⟨t.toNat, List.mem_range.mpr (by omega), by omega⟩
  simpa using this

set_option maxHeartbeats 4000000 in
theorem st4 {Hb : Heap} {L f p q : Addr} {cd : Value} {m : Str → Option Value} {v2 v3 : Option Value} {b : Nat} (W : W0 K w Hb) (R : Rm A 8) (x : LF w Hb L p q s.heap m v2 v3 b) (hb : b ≤ 1000) {Q : Flow → Shared → Prop}
    (hQ : ∀ dm h' tk kvm mm ts, LF w Hb L p q h' (fun y => if y = "moves" then some (.ref dm) else m y) v2 v3 (b + 9) → KpF L p s.heap h' → s.heap.get? dm = none → ID w h' dm kvm → Ints kvm mm → mm.map (·.1) = ts → Asc 9 ts → Q .next { s with heap := h', toks := tk }) :
    wpAny (model PP w) A (exec (lawStm 4) (LE L f cd)) Q NoE s := by
  obtain ⟨hd0, dp, frs, gds, un⟩ := A
  obtain rfl : hd0 = none := R.hh
  have KX := W.X
  have hn := x.ns
  have B1 := x.lg.keep
  refine wpAny_Assign_Name ?_
  iterate 4 walk1
  refine ListComp_raw rfl (by decide +kernel) rfl (by decide +kernel) rfl (fun _ => rfl) ?_
  iterate 6 walk1
  refine call_range_1 ?_
  refine wpAny_pyIter_range (IsRange.new _ 0 9 1 _ _ _) rfl ?_
  rw [show Builtin.Range.rangeSize 0 9 1 = ((9 : Nat) : Int) from rfl]
  dsimp only
  have k12 : ∀ a o, s.heap.get? a = some o → (s.heap.push { cls := .type "range", data := .fields #[.int 0 (s.toks + 1), .int 9 s.toks, .int 1 (s.toks + 1 + 1)] }).get? a = some o := fun a o e => Heap.get?_push_of_some _ e
  generalize s.heap.push { cls := .type "range", data := .fields #[.int 0 (s.toks + 1), .int 9 s.toks, .int 1 (s.toks + 1 + 1)] } = H at *
  have g2 := x.lg.upd fun a o _ e => k12 a o e
  have n2 := hn.keeps k12
  have low := g2.lsz
  refine comp_draw (s := s) (H := H) (n := 9) rfl g2 n2 (by decide) (fun h ys ts => ∃ kvm mm, PrsP h (fun a => H.objs.size + 2 < a) ys kvm ∧ Ints kvm mm ∧ mm.map (·.1) = ts) (fun _ => ⟨[], [], .nil, .nil, rfl⟩) (fun h h' ys ts => ?_) ?_ ?_ ?_
  · rintro ⟨kvm, mm, r1, r2, r3⟩ k
    exact ⟨kvm, mm, r1.at (fun a o ha _ e => k a o ha e) (fun _ _ h _ _ => h), r2, r3⟩
  · intro j t h₃ tk₃ b' m2 hb' g3 n3 n3' hx
    have c13 := g3.c1
    have B3 := g3.keep
    refine tests_one ?_
    iterate 3 walk1
    refine callWith_fn W.draw ?_ rfl
    iterate 5 walk1
    refine ⟨B3, ?_⟩
    refine draw_spec (most := 4) W B3 (R.less (by decide)) g3.pool g3.fresh (by omega) (by decide) (by decide) fun z tz h₄ tk₄ h0 h5 hp k4 => ?_
    repeat' (first | (fail_if_success (with_reducible show Exists _)); walk1)
    all_goals exact ⟨h₄, _, rfl, hp, k4⟩
  · rintro j t h₃ tk₃ b' m2 ys ts g3 n3 n3' hx ⟨kvm, mm, r1, r2, r3⟩ hz
    iterate 9 walk1
    refine wpAny_newTuple ?_ (by show 2 ≤ sizeLine; decide)
    refine ⟨_, _, rfl, fun a o e => Heap.get?_push_of_some _ e, kvm ++ [((j : Int), .int (40 + (j : Int)) _)], mm ++ [((j : Int), 40 + (j : Int))], (r1.at (fun a o _ _ e => Heap.get?_push_of_some _ e) (fun _ _ h _ _ => h)).snoc hz (Heap.get?_push_size _ rfl), r2.snoc _ _ _, ?_⟩
    rw [List.map_append, r3]; rfl
  · rintro h₃ tk₃ ys ts g3 n3 k3 ⟨kvm, mm, r1, r2, r3⟩ hasc hD h₄ k4
    have hps : (H.push { cls := .type "range_iterator", data := .fields #[rawInt 0, rawInt (9 : Nat), rawInt 1] }).objs.size = H.objs.size + 1 := Heap.size_push ..
    dsimp only at k4 ⊢
    rw [hps] at k4 ⊢
    have lowH : L + 3 < H.objs.size + 2 ∧ p < H.objs.size + 2 ∧ q < H.objs.size + 2 := ⟨Nat.lt_succ_of_lt (Nat.lt_succ_of_lt g2.lsz), Nat.lt_succ_of_lt (Nat.lt_succ_of_lt g2.psz), Nat.lt_succ_of_lt (Nat.lt_succ_of_lt g2.qsz)⟩
    have k4l : ∀ a o, a < H.objs.size + 2 → h₃.get? a = some o → h₄.get? a = some o := fun a o ha e => k4 a o (Nat.ne_of_lt ha) e
    have g4 := g3.off lowH k4l
    have n4 := n3.at' fun o e => k4l L o (Nat.lt_trans (Nat.lt_add_of_pos_right (by decide)) lowH.1) e
    have hD4 := k4l _ _ (Nat.lt_succ_self _) hD
    have r4 : PrsP h₄ (fun a => H.objs.size + 2 < a) ys kvm := r1.at (fun a o ha _ e => k4 a o (Nat.ne_of_gt ha) e) (fun _ _ h _ _ => h)
    have kHh : ∀ a o, a ≠ p → s.heap.get? a = some o → h₄.get? a = some o := fun a o hp e => k4l a o (Nat.lt_succ_of_lt (Nat.lt_succ_of_lt (Heap.lt_size (k12 _ _ e)))) (k3 a o hp (k12 _ _ e))
    have hkeys : kvm.map (·.1) = ts := r2.keys.trans r3
    have hklen : kvm.length ≤ 1000 := by
      have h1 := congrArg List.length hkeys
      have h2 := hasc.len
      rw [List.length_map] at h1; omega
    have hbig : 1 < h₄.objs.size := Nat.lt_trans (Nat.lt_of_lt_of_le (by decide) (Nat.le_add_left 3 L)) g4.lsz
    iterate 1 walk1
    refine call_dict_pairs rfl hD4 r4.plain (by rw [hkeys]; exact hasc.nodup) hklen hbig fun dm h₅ tk₅ k5 hdm0 hID => ?_
    have g5 := g4.upd fun a o _ e => k5 a o e
    refine wpAny_storeName_local rfl (n4.keeps k5) (fun h₆ hn6 hs6 => ?_) rfl
    have k6 : ∀ a o, a ≠ L → h₅.get? a = some o → h₆.get? a = some o := fun a o ha e => hs6.extBut a o ha e
    have x5 : LF w Hb L p q h₅ _ v2 v3 (b + 9) := ⟨n4.keeps k5, g5⟩
    have hdF : Far L p dm := (LF.mk (w := w) n4 g4).far_of_none hdm0
    have hdm0' : s.heap.get? dm = none := by
      cases q' : s.heap.get? dm with
      | none => rfl
      | some o => have := kHh _ _ hdF.2.2.2.2 q'; dsimp only at hdm0; rw [this] at hdm0; cases hdm0
    exact hQ dm h₆ _ kvm mm ts (x5.upd hn6 k6) (fun a o ha e => k6 a o ha.1 (k5 _ _ (kHh a o ha.2.2.2.2 e))) hdm0' (hID.at (k6 dm · hdF.1)) r2 r3 hasc
end

section
variable {w : World} {A : Around} {s : Shared} {K : Frag}


def maskSum (ch : List (Int × List Int)) (r : Int) : Int := ((lookL ch r).map fun t => (2 : Int) ^ t.toNat).sum

set_option maxHeartbeats 4000000 in
theorem st5 {Hb : Heap} {L f p q c : Addr} {cd : Value} {m : Str → Option Value} {v3 : Option Value} {b : Nat} (W : W0 K w Hb) (R : Rm A 8) (x : LF w Hb L p q s.heap m (some (.ref c)) v3 b) (hb : b ≤ 1000)
    {kvc : List (Int × Value)} {ch : List (Int × List Int)} {as : List Addr} {N : Nat} (hc : ID w s.heap c kvc) (hcF : Far L p c) (hcl : CLs s.heap ch kvc as) (has : ∀ a ∈ as, Far L p a) (hch : ChOk N ch) (hN : N < 5) {Q : Flow → Shared → Prop}
    (hQ : ∀ dk h' tk kvk (ms : List (Int × Int)) (rs : List Int), LF w Hb L p q h' (fun y => if y = "masks" then some (.ref dk) else m y) (some (.ref c)) v3 (b + 1) → KpF L p s.heap h' → s.heap.get? dk = none → ID w h' dk kvk → Ints kvk ms → ms = rs.map (fun r => (r, maskSum ch r)) → rs.Perm (ch.map (·.1)) → Q .next { s with heap := h', toks := tk }) :
    wpAny (model PP w) A (exec (lawStm 5) (LE L f cd)) Q NoE s := by
  obtain ⟨hd0, dp, frs, gds, un⟩ := A
  obtain rfl : hd0 = none := R.hh
  have KX := W.X
  have hn := x.ns
  have B1 := x.lg.keep
  have c1 := x.c1
  have c2 := x.c2
  have hkl : kvc.length < 64 := by
    have h1 := hcl.len
    have h2 := congrArg List.length hch.1
    simp only [List.length_map, List.length_range] at h2
    omega
  refine wpAny_Assign_Name ?_
  iterate 4 walk1
  refine ListComp_raw rfl (by decide +kernel) rfl (by decide +kernel) rfl (fun _ => rfl) ?_
  iterate 10 walk1
  refine callWith_fn W.draw ?_ rfl
  iterate 5 walk1
  refine ⟨B1, ?_⟩
  generalize hH : s.heap = H₀ at *
  refine draw_spec (most := 2) W B1 (R.less (by decide)) x.pool x.fresh (by omega) (by decide) (by decide) fun z tz h₁ tk₁ h0 h5 hp k1 => ?_
  iterate 3 walk1
  show wpAny _ _ (call (.builtin "sorted") [.ref c] [(Str.ofString "reverse", .bool _)]) _ _ _
  dsimp only
  have x1 := x.drawn hp k1
  have hc1 : ID w h₁ c kvc := hc.at (k1 c · hcF.2.2.2.2)
  have hcl1 : CLs h₁ ch kvc as := hcl.at fun a ha o e => k1 a o (has a ha).2.2.2.2 e
  refine id_sorted_rev rfl hc1 hkl fun B cB h₂ tk₂ vn rs k2 hB0 hBo hI hperm => ?_
  dsimp only at k2 hB0 ⊢
  have x2 := x1.keeps k2
  have hc2 := hc1.keep k2
  have hcl2 := hcl1.at fun a _ o e => k2 a o e
  rw [hcl.keys] at hperm
  have hBI : B < h₂.objs.size := Heap.lt_size hBo
  have hvl := hI.length
  have hrl : rs.length = N := by
    have h2 := congrArg List.length hch.1
    have h3 := hperm.length_eq
    simp only [List.length_map, List.length_range] at h2 h3
    omega
  have hrn : rs.Nodup := by
    have h1 := hc.nodup
    rw [hcl.keys] at h1
    exact hperm.nodup_iff.mpr h1
  clear c1 c2 B1
  refine wpAny_pyIter_list (items := vn.toArray) ⟨_, hBo, rfl, _, rfl⟩ ?_
  dsimp only
  have hps : (h₂.push { cls := .type "list_iterator", data := .fields #[.ref B, .int 0 0] }).objs.size = h₂.objs.size + 1 := Heap.size_push ..
  have up : ∀ a o, h₂.get? a = some o → (h₂.push { cls := .type "list_iterator", data := .fields #[.ref B, .int 0 0] }).get? a = some o := fun a o e => Heap.get?_push_of_some _ e
  refine ⟨h₂.objs.size, [h₂.objs.size, B], vn.toArray.size, _, _, rfl, Walks.list rfl h₂.objs.size B (Nat.ne_of_lt hBI) vn.toArray, by rw [List.size_toArray, sizeLine_eq]; omega, ⟨⟨_, Heap.get?_push_size _ rfl, rfl, rfl⟩, Heap.IsList.push ⟨_, hBo, rfl, _, rfl⟩ _⟩, ?_,
    fun i ys h => (∀ b o, h₂.get? b = some o → h.get? b = some o) ∧ ∃ kvk, PrsP h (fun a => h₂.objs.size + 2 < a) ys kvk ∧ Ints kvk ((rs.take i).map fun r => (r, maskSum ch r)), ?_, ?_, ?_, ?_⟩
  · dsimp only; rw [hps]
    intro a ha
    rcases List.mem_cons.mp ha with rfl | ha
    · exact Nat.lt_succ_self _
    · rw [List.mem_singleton.mp ha]; exact Nat.lt_succ_of_lt hBI
  · exact ⟨up, [], .nil, .nil⟩
  · dsimp only; rw [hps]
    rintro i ys h h' ⟨a1, kvk, a2, a3⟩ hkk
    refine ⟨fun a o e => hkk a o ?_ ?_ ?_ (a1 a o e), kvk, a2.at (fun a o ha _ e => hkk a o ?_ ?_ ?_ e) (fun _ _ h _ _ => h), a3⟩
    · exact Nat.ne_of_lt (Heap.lt_size e)
    · exact Nat.ne_of_lt (Nat.lt_succ_of_lt (Heap.lt_size e))
    · exact Nat.ne_of_lt (Nat.lt_succ_of_lt (Nat.lt_succ_of_lt (Heap.lt_size e)))
    · exact Nat.ne_of_gt (Nat.lt_trans (Nat.lt_add_of_pos_right (by decide)) ha)
    · exact Nat.ne_of_gt (Nat.lt_trans (Nat.lt_succ_self _) ha)
    · exact Nat.ne_of_gt ha
  · dsimp only; rw [hps]
    rintro i v ys h tk m2 hlt hP hSt ⟨a1, kvk, a2, a3⟩ hn2 hm2 hsz
    obtain ⟨r, t, rfl, hr⟩ := hI.at i v (by simpa using hP)
    have hrk : r ∈ ch.map (·.1) := hperm.mem_iff.mp (List.mem_of_getElem? hr)
    obtain ⟨a, vr, cr, e1, ha, ho, hir⟩ := hcl2.look hrk
    have hoh := a1 _ _ ho
    have hch' := hc2.keep a1
    have x3 := x2.keeps a1
    have c23 := x3.c2
    have B3 := x3.lg.keep
    refine tests_nil ?_
    rw [if_pos rfl]
    iterate 8 walk1
    have hahi : a < h.objs.size := Heap.lt_size hoh
    refine ListComp_raw rfl (by decide +kernel) rfl (by decide +kernel) rfl (fun _ => rfl) ?_
    iterate 3 walk1
    refine id_item hch' e1 ?_ (by with_unfolding_all rfl)
    refine wpAny_pyIter_list (items := vr.toArray) ⟨_, hoh, rfl, _, rfl⟩ ?_
    dsimp only
    have hps2 : (h.push { cls := .type "list_iterator", data := .fields #[.ref a, .int 0 0] }).objs.size = h.objs.size + 1 := Heap.size_push ..
    have up2 : ∀ b o, h.get? b = some o → (h.push { cls := .type "list_iterator", data := .fields #[.ref a, .int 0 0] }).get? b = some o := fun b o e => Heap.get?_push_of_some _ e
    have hvr := hir.length
    have hasc : Asc 9 (lookL ch r) := hch.2 _ (lookL_mem hrk)
    have hvr2 := hasc.len
    refine ⟨h.objs.size, [h.objs.size, a], vr.toArray.size, _, _, rfl, Walks.list rfl h.objs.size a (Nat.ne_of_lt hahi) vr.toArray, by rw [List.size_toArray, sizeLine_eq]; omega, ⟨⟨_, Heap.get?_push_size _ rfl, rfl, rfl⟩, Heap.IsList.push ⟨_, hoh, rfl, _, rfl⟩ _⟩, ?_,
      fun k zs h' => (∀ b o, h.get? b = some o → h'.get? b = some o) ∧ IntsAre zs (((lookL ch r).take k).map fun t => (2 : Int) ^ t.toNat), ?_, ?_, ?_, ?_⟩
    · dsimp only; rw [hps2]
      intro b hb
      rcases List.mem_cons.mp hb with rfl | hb
      · exact Nat.lt_succ_self _
      · rw [List.mem_singleton.mp hb]; exact Nat.lt_succ_of_lt hahi
    · exact ⟨up2, .nil⟩
    · dsimp only; rw [hps2]
      rintro k zs h' h'' ⟨b1, b2⟩ hkk
      refine ⟨fun b o e => hkk b o ?_ ?_ ?_ (b1 b o e), b2⟩
      · exact Nat.ne_of_lt (Heap.lt_size e)
      · exact Nat.ne_of_lt (Nat.lt_succ_of_lt (Heap.lt_size e))
      · exact Nat.ne_of_lt (Nat.lt_succ_of_lt (Nat.lt_succ_of_lt (Heap.lt_size e)))
    · dsimp only; rw [hps2]
      rintro k v zs h' tk5 m3 hlt3 hP3 hSt3 ⟨b1, b2⟩ hn3 hm3 hsz3
      obtain ⟨u, tu, rfl, hu⟩ := hir.at k v (by simpa using hP3)
      have hu2 := hasc.2 u (List.mem_of_getElem? hu)
      refine tests_nil ?_
      rw [if_pos rfl]
      iterate 3 walk1
      refine pow_int_small (by omega) (by omega) (by decide) ?_
      refine ⟨h', _, rfl, fun _ _ _ e => e, b1, ?_⟩
      rw [take_snoc hu, List.map_append]
      exact ints_snoc b2 _ _
    · dsimp only
      rw [hps2]
      rintro h' tk5 zs ⟨b1, b2⟩ hD h₅ k5
      have hall : (lookL ch r).take vr.toArray.size = lookL ch r := List.take_of_length_le (by rw [List.size_toArray, hvr]; exact Nat.le_refl _)
      rw [hall] at b2
      have k15 : ∀ b o, h.get? b = some o → h₅.get? b = some o := fun b o e => k5 b o (Nat.ne_of_lt (Nat.lt_succ_of_lt (Nat.lt_succ_of_lt (Heap.lt_size e)))) (b1 b o e)
      have hD5 := k5 _ _ (Nat.ne_of_lt (Nat.lt_succ_self _)) hD
      iterate 1 walk1
      refine sum_ints rfl hD5 b2 fun h₆ tk₆ t₆ k6 => ?_
      iterate 1 walk1
      refine wpAny_newTuple ?_ (by show 2 ≤ sizeLine; decide)
      have k16 : ∀ b o, h.get? b = some o → h₆.get? b = some o := fun b o e => k6 b o (k15 b o e)
      have hz6 : h₂.objs.size + 2 < h₆.objs.size := by
        obtain ⟨oC, _, _, eC, _⟩ := hn2
        exact Heap.lt_size (k16 _ _ eC)
      refine ⟨_, _, rfl, fun b o _ e => Heap.get?_push_of_some _ (k16 b o e), fun b o e => Heap.get?_push_of_some _ (k16 b o (a1 b o e)), kvk ++ [(r, .int _ _)], (a2.at (fun b o _ _ e => Heap.get?_push_of_some _ (k16 b o e)) (fun _ _ h _ _ => h)).snoc hz6 (Heap.get?_push_size _ rfl), ?_⟩
      rw [take_snoc hr, List.map_append]
      exact a3.snoc _ _ _
  · dsimp only
    rw [hps]
    rintro h tk ys ⟨a1, kvk, a2, a3⟩ hD h₃ k3
    have hall : rs.take vn.toArray.size = rs := List.take_of_length_le (by rw [List.size_toArray, hvl]; exact Nat.le_refl _)
    rw [hall] at a3
    have k23 : ∀ b o, h₂.get? b = some o → h₃.get? b = some o := fun b o e => k3 b o (Nat.ne_of_lt (Nat.lt_succ_of_lt (Nat.lt_succ_of_lt (Heap.lt_size e)))) (a1 b o e)
    have hD3 := k3 _ _ (Nat.ne_of_lt (Nat.lt_succ_self _)) hD
    have r3 : PrsP h₃ (fun a => h₂.objs.size + 2 < a) ys kvk := a2.at (fun a o ha _ e => k3 a o (Nat.ne_of_gt ha) e) (fun _ _ h _ _ => h)
    have x3 := x2.keeps k23
    have kHh : ∀ a o, a ≠ p → H₀.get? a = some o → h₃.get? a = some o := fun a o hp e => k23 _ _ (k2 _ _ (k1 a o hp e))
    have hkeys : kvk.map (·.1) = rs := by rw [a3.keys, List.map_map]; exact List.map_id' rs
    have hklen : kvk.length ≤ 1000 := by
      have h1 := congrArg List.length hkeys
      rw [List.length_map] at h1; omega
    have hbig : 1 < h₃.objs.size := Nat.lt_trans (Nat.lt_of_lt_of_le (by decide) (Nat.le_add_left 3 L)) x3.lg.lsz
    iterate 1 walk1
    refine call_dict_pairs rfl hD3 r3.plain (by rw [hkeys]; exact hrn) hklen hbig fun dk h₅ tk₅ k5 hdk0 hID => ?_
    have x5 := x3.keeps k5
    refine wpAny_storeName_local rfl x5.ns (fun h₆ hn6 hs6 => ?_) rfl
    have k6 : ∀ a o, a ≠ L → h₅.get? a = some o → h₆.get? a = some o := fun a o ha e => hs6.extBut a o ha e
    have hdF : Far L p dk := x3.far_of_none hdk0
    have hdk0' : H₀.get? dk = none := by
      cases q' : H₀.get? dk with
      | none => rfl
      | some o => have := kHh _ _ hdF.2.2.2.2 q'; dsimp only at hdk0; rw [this] at hdk0; cases hdk0
    exact hQ dk h₆ _ kvk _ rs (x5.upd hn6 k6) (fun a o ha e => k6 a o ha.1 (k5 _ _ (kHh a o ha.2.2.2.2 e))) hdk0' (hID.at (k6 dk · hdF.1)) a3 rfl hperm
end

section
variable {w : World} {A : Around} {s : Shared} {K : Frag}


structure HeldAt (h : Heap) (P : Addr → Prop) (T : Addr) (kvm kvk : List (Int × Value)) : Prop where
  ex : ∃ a1 a2 vs1 c1 vs2 c2 n, P a1 ∧ P a2 ∧ h.get? T = some { cls := .type "tuple", data := .seq [Value.ref a1, .ref a2].toArray n } ∧ h.get? a1 = some (listOf vs1.toArray c1) ∧ h.get? a2 = some (listOf vs2.toArray c2) ∧ PrsP h P vs1 kvm ∧ PrsP h P vs2 kvk
  T : P T
theorem HeldAt.at {h h' : Heap} {P P' : Addr → Prop} {T : Addr} {kvm kvk} (x : HeldAt h P T kvm kvk) (k : ∀ a o, P a → h.get? a = some o → h'.get? a = some o) (l : ∀ a o, P a → h.get? a = some o → P' a) : HeldAt h' P' T kvm kvk := by
  obtain ⟨⟨a1, a2, vs1, c1, vs2, c2, n, p1, p2, h1, h2, h3, h4, h5⟩, p3⟩ := x
  exact ⟨⟨a1, a2, vs1, c1, vs2, c2, n, l _ _ p1 h2, l _ _ p2 h3, k _ _ p3 h1, k _ _ p1 h2, k _ _ p2 h3, h4.at (fun a o ha _ e => k a o ha e) fun a o ha _ e => l a o ha e, h5.at (fun a o ha _ e => k a o ha e) fun a o ha _ e => l a o ha e⟩, l _ _ p3 h1⟩

set_option maxHeartbeats 4000000 in
theorem st6 {Hb : Heap} {L f p q : Addr} {cd : Value} {m : Str → Option Value} {v2 v3 : Option Value} {b : Nat} (W : W0 K w Hb) (R : Rm A 8) (x : LF w Hb L p q s.heap m v2 v3 b)
    {dm dk : Addr} {kvm kvk : List (Int × Value)} (hmm : m "moves" = some (.ref dm)) (hmk : m "masks" = some (.ref dk)) (hm : ID w s.heap dm kvm) (hk : ID w s.heap dk kvk) (hl1 : kvm.length ≤ 1000) (hl2 : kvk.length ≤ 1000) {Q : Flow → Shared → Prop}
    (hQ : ∀ T h' tk, LF w Hb L p q h' (fun y => if y = "held" then some (.ref T) else m y) v2 v3 b → KpF L p s.heap h' → HeldAt h' (Far L p) T kvm kvk → Q .next { s with heap := h', toks := tk }) :
    wpAny (model PP w) A (exec (lawStm 6) (LE L f cd)) Q NoE s := by
  obtain ⟨hd0, dp, frs, gds, un⟩ := A
  obtain rfl : hd0 = none := R.hh
  have KX := W.X
  have hn := x.ns
  have B1 := x.lg.keep
  refine wpAny_Assign_Name ?_
  iterate 8 walk1
  refine id_method PySem.F.slot_dict_items PySem.F.type_dict_items hm ?_
  iterate 1 walk1
  refine id_items hm ?_
  iterate 1 walk1
  have kv1 : ∀ a o, s.heap.get? a = some o → (s.heap.push { cls := .type "dict_items", data := .fields #[.ref dm] }).get? a = some o := fun a o e => Heap.get?_push_of_some _ e
  have hv1 := Heap.get?_push_size s.heap (o := { cls := .type "dict_items", data := .fields #[.ref dm] }) rfl
  generalize hg1 : s.heap.push { cls := .type "dict_items", data := .fields #[.ref dm] } = h₁ at *
  refine items_list rfl (hm.keep kv1) hv1 hl1 fun h₂ tk₂ vs1 c1 k2 ho1 hp1 => ?_
  dsimp only at k2 ho1 hp1 ⊢
  have k02 : ∀ a o, s.heap.get? a = some o → h₂.get? a = some o := fun a o e => k2 a o (kv1 a o e)
  have x2 := x.keeps k02
  have hn2 := x2.ns
  have B2 := x2.lg.keep
  have fa1 : Far L p h₁.objs.size := (x.keeps kv1).far_of_ge (Nat.le_refl _)
  have hp1' : PrsP h₂ (Far L p) vs1 kvm := hp1.at (fun _ _ _ _ e => e) fun a o ha _ _ => (x.keeps kv1).far_of_ge (Nat.le_of_lt ha)
  generalize h₁.objs.size = a1 at *
  iterate 7 walk1
  refine id_method PySem.F.slot_dict_items PySem.F.type_dict_items (hk.keep k02) ?_
  iterate 1 walk1
  refine id_items (hk.keep k02) ?_
  iterate 1 walk1
  have kv3 : ∀ a o, h₂.get? a = some o → (h₂.push { cls := .type "dict_items", data := .fields #[.ref dk] }).get? a = some o := fun a o e => Heap.get?_push_of_some _ e
  have hv3 := Heap.get?_push_size h₂ (o := { cls := .type "dict_items", data := .fields #[.ref dk] }) rfl
  generalize hg3 : h₂.push { cls := .type "dict_items", data := .fields #[.ref dk] } = h₃ at *
  refine items_list rfl ((hk.keep k02).keep kv3) hv3 hl2 fun h₄ tk₄ vs2 c2 k4 ho2 hp2 => ?_
  dsimp only at k4 ho2 hp2 ⊢
  have x3 := x2.keeps kv3
  have k24 : ∀ a o, h₂.get? a = some o → h₄.get? a = some o := fun a o e => k4 a o (kv3 a o e)
  have x4 := x3.keeps k4
  have fa2 : Far L p h₃.objs.size := x3.far_of_ge (Nat.le_refl _)
  have hp2' : PrsP h₄ (Far L p) vs2 kvk := hp2.at (fun _ _ _ _ e => e) fun a o ha _ _ => x3.far_of_ge (Nat.le_of_lt ha)
  generalize h₃.objs.size = a2 at *
  iterate 1 walk1
  refine wpAny_newTuple ?_ (by show 2 ≤ sizeLine; decide)
  have k45 : ∀ a o, h₄.get? a = some o → (h₄.push { cls := .type "tuple", data := .seq [Value.ref a1, .ref a2].toArray }).get? a = some o := fun a o e => Heap.get?_push_of_some _ e
  have hT := Heap.get?_push_size h₄ (o := { cls := .type "tuple", data := .seq [Value.ref a1, .ref a2].toArray }) rfl
  have fT : Far L p h₄.objs.size := x4.far_of_ge (Nat.le_refl _)
  generalize hg5 : h₄.push { cls := .type "tuple", data := .seq [Value.ref a1, .ref a2].toArray } = h₅ at *
  have x5 := x4.keeps k45
  refine wpAny_storeName_local rfl x5.ns (fun h₆ hn6 hs6 => ?_) rfl
  have k6 : ∀ a o, a ≠ L → h₅.get? a = some o → h₆.get? a = some o := fun a o ha e => hs6.extBut a o ha e
  have k26 : ∀ a o, Far L p a → h₂.get? a = some o → h₆.get? a = some o := fun a o ha e => k6 a o ha.1 (k45 _ _ (k24 a o e))
  refine hQ _ h₆ _ (x5.upd hn6 k6) (fun a o ha e => k26 a o ha (k02 _ _ e)) ⟨⟨a1, a2, vs1, c1, vs2, c2, _, fa1, fa2, k6 _ _ fT.1 hT, k26 _ _ fa1 ho1, k6 _ _ fa2.1 (k45 _ _ ho2), hp1'.at (fun a o ha _ e => k26 a o ha e) (fun _ _ h _ _ => h), hp2'.at (fun a o ha _ e => k6 a o ha.1 (k45 _ _ e)) (fun _ _ h _ _ => h)⟩, fT⟩
end

section
variable {w : World} {A : Around} {s : Shared} {K : Frag}


set_option maxHeartbeats 2000000 in
theorem st7 {Hb : Heap} {L f p q : Addr} {cd : Value} {m : Str → Option Value} {v2 v3 : Option Value} {b : Nat} (W : W0 K w Hb) (R : Rm A 8) (x : LF w Hb L p q s.heap m v2 v3 b)
    {dm dk : Addr} {kvm kvk : List (Int × Value)} {ms : List (Int × Int)} (hmm : m "moves" = some (.ref dm)) (hmk : m "masks" = some (.ref dk)) (hm : ID w s.heap dm kvm) (hk : ID w s.heap dk kvk) (hi : Ints kvk ms) (hb : ∀ p ∈ ms, 0 ≤ p.2 ∧ p.2 < 512) (hlen : ms.length < 60) {Q : Flow → Shared → Prop}
    (hQ : ∀ fd h' tk kvf, LF w Hb L p q h' (fun y => if y = "found" then some (.ref fd) else m y) v2 v3 b → KpF L p s.heap h' → s.heap.get? fd = none → ID w h' fd kvf → TGet h' (Far L p) kvf (clOf kvm ms) → kvf.length = (clOf kvm ms).length → Q .next { s with heap := h', toks := tk }) :
    wpAny (model PP w) A (exec (lawStm 7) (LE L f cd)) Q NoE s := by
  obtain ⟨hd0, dp, frs, gds, un⟩ := A
  obtain rfl : hd0 = none := R.hh
  have KX := W.X
  have hn := x.ns
  have B1 := x.lg.keep
  refine wpAny_Assign_Name ?_
  iterate 2 walk1
  refine callWith_fn W.clashes ?_ rfl
  iterate 5 walk1
  refine ⟨B1, ?_⟩
  refine clashes_cl (W.keeps B1) (R.less (by decide)) hm hk hi hb hlen fun fd h₁ tk₁ kvf k1 hD0 hID hT => ?_
  have x1 := x.keeps k1
  refine wpAny_storeName_local rfl x1.ns (fun h₂ hn2 hs2 => ?_) rfl
  have k2 : ∀ a o, a ≠ L → h₁.get? a = some o → h₂.get? a = some o := fun a o ha e => hs2.extBut a o ha e
  have hdF : Far L p fd := x.far_of_none hD0
  refine hQ fd h₂ _ kvf (x1.upd hn2 k2) (fun a o ha e => k2 a o ha.1 (k1 _ _ e)) hD0 (hID.at (k2 fd · hdF.1)) ?_ hT.len
  have hT1 : TGet h₁ (fun a => s.heap.objs.size < a) kvf (clOf kvm ms) := fun i k v e => hT.get e
  have hF : ∀ a, s.heap.objs.size < a → Far L p a := fun a ha => x.far_of_ge (Nat.le_of_lt ha)
  exact hT1.at (fun a o ha _ e => k2 a o (hF a ha).1 e) fun a o ha _ _ => hF a ha
end

section
variable {w : World} {A : Around} {s : Shared} {K : Frag}


theorem ReadsAll_of {h : Heap} : ∀ {vs : List Value} {ds : List PyData}, vs.length = ds.length → (∀ (i : Nat) (v : Value), vs[i]? = some v → ∃ d, ds[i]? = some d ∧ Reads h v d []) → ReadsAll h vs ds []
  | [], [], _, _ => .nil
  | [], _ :: _, e, _ => by simp at e
  | _ :: _, [], e, _ => by simp at e
  | v :: vs, d :: ds, e, k => by
    obtain ⟨d', h1, h2⟩ := k 0 v rfl
    simp only [List.getElem?_cons_zero, Option.some.injEq] at h1
    subst h1
    exact ReadsAll.cons (as := []) h2 (ReadsAll_of (by simpa using e) fun i u hu => by simpa using k (i + 1) u (by simpa using hu))
theorem Ints.get {kvs ms} (x : Ints kvs ms) : ∀ {i : Nat} {k : Int} {v : Value}, kvs[i]? = some (k, v) → ∃ n t, v = .int n t ∧ ms[i]? = some (k, n) := by
  induction x with
  | nil => intro i k v e; simp at e
  | cons k' n t _ ih =>
    intro i k v e
    cases i with
    | zero =>
      simp only [List.getElem?_cons_zero, Option.some.injEq, Prod.mk.injEq] at e
      obtain ⟨rfl, rfl⟩ := e
      exact ⟨n, t, rfl, rfl⟩
    | succ i => simpa using ih (by simpa using e)
theorem Ints.length {kvs ms} (x : Ints kvs ms) : kvs.length = ms.length := by
  have := congrArg List.length x.keys; simpa using this
def dIt (p : Int × Int) : PyData := .tuple [.int p.1, .int p.2]
theorem PL_it (p : Int × Int) : PL 2 (dIt p) := .inr (.inl ⟨_, rfl, fun x hx => by
  rcases List.mem_cons.mp hx with rfl | hx
  · exact .inl ⟨_, rfl⟩
  · rw [List.mem_singleton.mp hx]; exact .inl ⟨_, rfl⟩⟩)
theorem PrsP.ints {h : Heap} {P : Addr → Prop} {vs kvs ms} (x : PrsP h P vs kvs) (y : Ints kvs ms) : ReadsAll h vs (ms.map dIt) [] := by
  refine ReadsAll_of (by rw [List.length_map, x.1, y.length]) fun i v e => ?_
  obtain ⟨a, k, t, u, n, rfl, _, h1, h2⟩ := x.2 i v e
  obtain ⟨n', t', rfl, h3⟩ := y.get h1
  exact ⟨dIt (k, n'), by rw [List.getElem?_map, h3]; rfl, .tuple h2 rfl rfl (ReadsAll.cons (as := []) (.int _ _) (ReadsAll.cons (as := []) (.int _ _) .nil))⟩
theorem PrsP.tups {h : Heap} {P P' : Addr → Prop} {vs kvs fl} (x : PrsP h P vs kvs) (y : TGet h P' kvs fl) (e : kvs.length = fl.length) : ReadsAll h vs (fl.map dPair) [] := by
  refine ReadsAll_of (by rw [List.length_map, x.1, e]) fun i v e => ?_
  obtain ⟨a, k, t, u, n, rfl, _, h1, h2⟩ := x.2 i v e
  obtain ⟨rs, a', vs', n', rfl, h3, _, h4, h5⟩ := y _ _ _ h1
  exact ⟨dPair (k, rs), by rw [List.getElem?_map, h3]; rfl, .tuple h2 rfl rfl (ReadsAll.cons (as := []) (.int _ _) (ReadsAll.cons (as := []) (.tuple h4 rfl rfl (ReadsAll_ints h5)) .nil))⟩
theorem PL_list {k : Nat} {xs : List PyData} (h : ∀ x ∈ xs, PL k x) : PL (k + 1) (.list xs) := .inr (.inr ⟨xs, rfl, h⟩)
theorem PL_map {α : Type} {k : Nat} {f : α → PyData} (h : ∀ a, PL k (f a)) (l : List α) : ∀ x ∈ l.map f, PL k x := by
  intro x hx
  obtain ⟨a, _, rfl⟩ := List.mem_map.mp hx
  exact h a

set_option maxHeartbeats 4000000 in
theorem st8 {Hb : Heap} {L f p q c fd T : Addr} {cd : Value} {m : Str → Option Value} {v3 : Option Value} {b N : Nat} (W : W0 K w Hb) (R : Rm A 8) (x : LF w Hb L p q s.heap m (some (.ref c)) v3 b)
    {dm dk : Addr} {kvm kvk kvf kvc : List (Int × Value)} {ms mm : List (Int × Int)} {ch : List (Int × List Int)} {as : List Addr} (hmm : m "moves" = some (.ref dm)) (hmk : m "masks" = some (.ref dk)) (hmf : m "found" = some (.ref fd)) (hmh : m "held" = some (.ref T))
    (hm : ID w s.heap dm kvm) (hk : ID w s.heap dk kvk) (him : Ints kvm mm) (hik : Ints kvk ms) (hf : ID w s.heap fd kvf) (hft : TGet s.heap (Far L p) kvf (clOf kvm ms)) (hfl : kvf.length = (clOf kvm ms).length) (hh : HeldAt s.heap (Far L p) T kvm kvk)
    (hc : ID w s.heap c kvc) (hcl : CLs s.heap ch kvc as) (hch : ChOk N ch) (hN : N < 5) (hl1 : kvm.length ≤ 1000) (hl2 : kvk.length ≤ 1000)
    (hlaw : clOf kvm ms = dueTo (fun t => (valueAt kvm t).isSome) ch (srt (ch.map (·.1))) 9) {Q : Flow → Shared → Prop}
    (hQ : ∀ h' tk, LF w Hb L p q h' m (some (.ref c)) v3 b → (∀ a o, s.heap.get? a = some o → h'.get? a = some o) → Q .next { s with heap := h', toks := tk }) :
    wpAny (model PP w) A (exec (lawStm 8) (LE L f cd)) Q NoE s := by
  obtain ⟨hd0, dp, frs, gds, un⟩ := A
  obtain rfl : hd0 = none := R.hh
  have KX := W.X
  have hn := x.ns
  have B1 := x.lg.keep
  have c2 := x.c2
  refine wpAny_If (wpAny_mono (Q := fun b s₂ => b = false ∧ ∃ h' tk, s₂ = { s with heap := h', toks := tk } ∧ ∀ a o, s.heap.get? a = some o → h'.get? a = some o) ?_ ?_ (fun _ _ e => e))
  · iterate 8 walk1
    refine id_method PySem.F.slot_dict_items PySem.F.type_dict_items hf ?_
    iterate 1 walk1
    refine id_items hf ?_
    iterate 1 walk1
    have kv1 : ∀ a o, s.heap.get? a = some o → (s.heap.push { cls := .type "dict_items", data := .fields #[.ref fd] }).get? a = some o := fun a o e => Heap.get?_push_of_some _ e
    have hv1 := Heap.get?_push_size s.heap (o := { cls := .type "dict_items", data := .fields #[.ref fd] }) rfl
    generalize hg1 : s.heap.push { cls := .type "dict_items", data := .fields #[.ref fd] } = h₁ at *
    refine items_list rfl (hf.keep kv1) hv1 (by have := clOf_len kvm ms; omega) fun h₂ tk₂ vs1 c1 k2 ho1 hp1 => ?_
    dsimp only at k2 ho1 hp1 ⊢
    have k02 : ∀ a o, s.heap.get? a = some o → h₂.get? a = some o := fun a o e => k2 a o (kv1 a o e)
    have x2 := x.keeps k02
    have hn2 := x2.ns
    have B2 := x2.lg.keep
    have c22 := x2.c2
    clear c2 B1 hn
    generalize h₁.objs.size = a1 at *
    iterate 2 walk1
    refine callWith_fn W.due ?_ rfl
    iterate 5 walk1
    refine ⟨B2, ?_⟩
    have hcl2 : CLs h₂ ch kvc as := hcl.at fun a _ o e => k02 a o e
    refine due_spec (W.keeps B2) (R.less (by decide)) (hm.keep k02) (hc.keep k02) hcl2 (by have := congrArg List.length hch.1; simp only [List.length_map, List.length_range] at this; omega) fun D h₃ tk₃ vsD cnD k3 hD0 hDo hRl => ?_
    dsimp only at k3 hD0 ⊢
    have hRd := Reads.list hDo rfl rfl (RLs_reads hRl)
    have k03 : ∀ a o, s.heap.get? a = some o → h₃.get? a = some o := fun a o e => k3 a o (k02 a o e)
    have x3 := x.keeps k03
    have hn3 := x3.ns
    have B3 := x3.lg.keep
    have c23 := x3.c2
    clear c22 B2 hn2
    have hp1' := hp1.at (P' := fun _ => True) (fun a o _ _ e => k3 a o e) fun _ _ _ _ _ => trivial
    have rd1 : Reads h₃ (.ref a1) (.list ((clOf kvm ms).map dPair)) [a1] := .list (k3 _ _ ho1) rfl rfl (hp1'.tups (hft.at (fun a o _ _ e => k03 a o e) (fun _ _ h _ _ => h)) hfl)
    have hu : Around.units ⟨none, dp, frs, gds, un⟩ + 64 < cLine := by have := R.units; omega
    refine cmp_ne (k := 3) (j := 3) rd1 hRd (PL_list (PL_map PL_pair _)) (PL_list (PL_map PL_pair _)) (by decide) (by decide) hu (fun e0 => ?_) fun e0 => absurd (by rw [hlaw]) e0
    iterate 4 walk1
    iterate 8 walk1
    refine id_method PySem.F.slot_dict_items PySem.F.type_dict_items (hm.keep k03) ?_
    iterate 1 walk1
    refine id_items (hm.keep k03) ?_
    iterate 1 walk1
    have kv4 : ∀ a o, h₃.get? a = some o → (h₃.push { cls := .type "dict_items", data := .fields #[.ref dm] }).get? a = some o := fun a o e => Heap.get?_push_of_some _ e
    have hv4 := Heap.get?_push_size h₃ (o := { cls := .type "dict_items", data := .fields #[.ref dm] }) rfl
    generalize hg4 : h₃.push { cls := .type "dict_items", data := .fields #[.ref dm] } = h₄ at *
    refine items_list rfl ((hm.keep k03).keep kv4) hv4 hl1 fun h₅ tk₅ vs3 cn3 k5 ho3 hp3 => ?_
    dsimp only at k5 ho3 hp3 ⊢
    have k05 : ∀ a o, s.heap.get? a = some o → h₅.get? a = some o := fun a o e => k5 a o (kv4 a o (k03 a o e))
    have x5 := x.keeps k05
    have hn5 := x5.ns
    have B5 := x5.lg.keep
    clear c23 B3 hn3
    generalize h₄.objs.size = a3 at *
    iterate 7 walk1
    refine id_method PySem.F.slot_dict_items PySem.F.type_dict_items (hk.keep k05) ?_
    iterate 1 walk1
    refine id_items (hk.keep k05) ?_
    iterate 1 walk1
    have kv6 : ∀ a o, h₅.get? a = some o → (h₅.push { cls := .type "dict_items", data := .fields #[.ref dk] }).get? a = some o := fun a o e => Heap.get?_push_of_some _ e
    have hv6 := Heap.get?_push_size h₅ (o := { cls := .type "dict_items", data := .fields #[.ref dk] }) rfl
    generalize hg6 : h₅.push { cls := .type "dict_items", data := .fields #[.ref dk] } = h₆ at *
    refine items_list rfl ((hk.keep k05).keep kv6) hv6 hl2 fun h₇ tk₇ vs4 cn4 k7 ho4 hp4 => ?_
    dsimp only at k7 ho4 hp4 ⊢
    have k57 : ∀ a o, h₅.get? a = some o → h₇.get? a = some o := fun a o e => k7 a o (kv6 a o e)
    generalize h₆.objs.size = a4 at *
    iterate 1 walk1
    refine wpAny_newTuple ?_ (by show 2 ≤ sizeLine; decide)
    have k78 : ∀ a o, h₇.get? a = some o → (h₇.push { cls := .type "tuple", data := .seq [Value.ref a3, .ref a4].toArray }).get? a = some o := fun a o e => Heap.get?_push_of_some _ e
    have hT8 := Heap.get?_push_size h₇ (o := { cls := .type "tuple", data := .seq [Value.ref a3, .ref a4].toArray }) rfl
    generalize hg8 : h₇.push { cls := .type "tuple", data := .seq [Value.ref a3, .ref a4].toArray } = h₈ at *
    have k58 : ∀ a o, h₅.get? a = some o → h₈.get? a = some o := fun a o e => k78 _ _ (k57 a o e)
    have k08 : ∀ a o, s.heap.get? a = some o → h₈.get? a = some o := fun a o e => k58 _ _ (k05 a o e)
    have x8 := x.keeps k08
    have hn8 := x8.ns
    iterate 1 walk1
    obtain ⟨⟨b1, b2, ws1, d1, ws2, d2, nn, _, _, g1, g2, g3, g4, g5⟩, _⟩ := hh
    have rA : ReadsAll h₈ vs3 (mm.map dIt) [] := (hp3.at (P' := fun _ => True) (fun a o _ _ e => k58 a o e) fun _ _ _ _ _ => trivial).ints him
    have rB : ReadsAll h₈ vs4 (ms.map dIt) [] := (hp4.at (P' := fun _ => True) (fun a o _ _ e => k78 a o e) fun _ _ _ _ _ => trivial).ints hik
    have rC : ReadsAll h₈ ws1 (mm.map dIt) [] := (g4.at (P' := fun _ => True) (fun a o _ _ e => k08 a o e) fun _ _ _ _ _ => trivial).ints him
    have rD : ReadsAll h₈ ws2 (ms.map dIt) [] := (g5.at (P' := fun _ => True) (fun a o _ _ e => k08 a o e) fun _ _ _ _ _ => trivial).ints hik
    have rdX : Reads h₈ (.ref h₇.objs.size) (.tuple [.list (mm.map dIt), .list (ms.map dIt)]) ([a3] ++ ([a4] ++ [])) := .tuple hT8 rfl rfl (ReadsAll.cons (.list (k58 _ _ ho3) rfl rfl rA) (ReadsAll.cons (.list (k78 _ _ ho4) rfl rfl rB) .nil))
    have rdY : Reads h₈ (.ref T) (.tuple [.list (mm.map dIt), .list (ms.map dIt)]) ([b1] ++ ([b2] ++ [])) := .tuple (k08 _ _ g1) rfl rfl (ReadsAll.cons (.list (k08 _ _ g2) rfl rfl rC) (ReadsAll.cons (.list (k08 _ _ g3) rfl rfl rD) .nil))
    have pl : PL 4 (.tuple [.list (mm.map dIt), .list (ms.map dIt)]) := .inr (.inl ⟨_, rfl, fun y hy => by
      rcases List.mem_cons.mp hy with rfl | hy
      · exact PL_list (PL_map PL_it _)
      · rw [List.mem_singleton.mp hy]; exact PL_list (PL_map PL_it _)⟩)
    refine cmp_ne (k := 4) (j := 4) rdX rdY pl pl (by decide) (by decide) hu (fun _ => ?_) fun e0 => absurd rfl e0
    iterate 3 walk1
    exact ⟨rfl, h₈, _, rfl, k08⟩
  · rintro b s₂ ⟨rfl, h', tk, rfl, k⟩
    rw [if_neg (by decide)]
    exact wpAny_execs_nil (hQ h' tk (x.keeps k) k)
end

section
variable {w : World} {A : Around} {s : Shared} {K : Frag}


structure T4 where
  x : Addr
  dx : Addr
  dm : Addr
  dk : Addr
def T4.us (t : T4) : List Addr := [t.dx, t.dm, t.dk]
def StF (w : World) (h : Heap) (P : Addr → Prop) (j : Nat) (t : T4) : Prop :=
  (∃ tn, Inst 20 h t.x t.dx 50 [("number", .int j tn), ("moves", .ref t.dm), ("masks", .ref t.dk)]) ∧ ID w h t.dm [] ∧ ID w h t.dk [] ∧ P t.x ∧ P t.dx ∧ P t.dm ∧ P t.dk
theorem StF.at {h h' : Heap} {P P' : Addr → Prop} {j : Nat} {t : T4} (y : StF w h P j t) (k : ∀ a o, P a → h.get? a = some o → h'.get? a = some o) (l : ∀ a, P a → P' a) : StF w h' P' j t := by
  obtain ⟨⟨tn, a⟩, b, c, d, e, f, g⟩ := y
  exact ⟨⟨tn, a.at (fun o => k _ o d) (fun o => k _ o e)⟩, b.at (fun o => k _ o f), c.at (fun o => k _ o g), l _ d, l _ e, l _ f, l _ g⟩
def StL (w : World) (h : Heap) (P : Addr → Prop) (ys : List Value) (tr : List T4) : Prop :=
  ys = tr.map (fun t => Value.ref t.x) ∧ (∀ (j : Nat) (t : T4), tr[j]? = some t → StF w h P j t) ∧ (tr.flatMap T4.us).Nodup

set_option maxHeartbeats 4000000 in
theorem st9 {Hb : Heap} {L f p q : Addr} {cd : Value} {m : Str → Option Value} {v2 v3 : Option Value} {b : Nat} (W : W0 K w Hb) (kf : KF K) (R : Rm A 8) (x : LF w Hb L p q s.heap m v2 v3 b) {Q : Flow → Shared → Prop}
    (hQ : ∀ ls h' tk vs cn tr, LF w Hb L p q h' (fun y => if y = "states" then some (.ref ls) else m y) v2 v3 b → KpF L p s.heap h' → Far L p ls → h'.get? ls = some (listOf vs.toArray cn) → StL w h' (fun a => Far L p a ∧ s.heap.get? a = none) vs tr → tr.length = 3 → Q .next { s with heap := h', toks := tk }) :
    wpAny (model PP w) A (exec (lawStm 9) (LE L f cd)) Q NoE s := by
  obtain ⟨hd0, dp, frs, gds, un⟩ := A
  obtain rfl : hd0 = none := R.hh
  have KX := W.X
  have hn := x.ns
  have B1 := x.lg.keep
  refine Assign_ListComp_raw (L := L) (m := m) rfl rfl rfl (by decide +kernel) rfl (by decide +kernel) rfl (fun _ => rfl) rfl rfl ?_
  iterate 6 walk1
  refine call_range_1 ?_
  refine wpAny_pyIter_range (IsRange.new _ 0 3 1 _ _ _) rfl ?_
  rw [show Builtin.Range.rangeSize 0 3 1 = ((3 : Nat) : Int) from rfl]
  dsimp only
  have k12 : ∀ a o, s.heap.get? a = some o → (s.heap.push { cls := .type "range", data := .fields #[.int 0 (s.toks + 1), .int 3 s.toks, .int 1 (s.toks + 1 + 1)] }).get? a = some o := fun a o e => Heap.get?_push_of_some _ e
  generalize s.heap.push { cls := .type "range", data := .fields #[.int 0 (s.toks + 1), .int 3 s.toks, .int 1 (s.toks + 1 + 1)] } = H at *
  have x2 := x.keeps k12
  have low : L + 3 < H.objs.size ∧ p < H.objs.size ∧ q < H.objs.size := ⟨x2.lg.lsz, x2.lg.psz, x2.lg.qsz⟩
  have hLH : L < H.objs.size := x2.ns.lt
  have hps : (H.push { cls := .type "range_iterator", data := .fields #[rawInt 0, rawInt (3 : Nat), rawInt 1] }).objs.size = H.objs.size + 1 := Heap.size_push ..
  have up : ∀ a o, H.get? a = some o → (H.push { cls := .type "range_iterator", data := .fields #[rawInt 0, rawInt (3 : Nat), rawInt 1] }).get? a = some o := fun a o e => Heap.get?_push_of_some _ e
  refine ⟨?_, H.objs.size, [H.objs.size], 3, _, _, rfl, LCg.range_walks rfl 0 3, by decide, ?_, ?_,
    fun i ys h => LG Hb L p q h v2 v3 b ∧ h.Ns L m ∧ (∀ a o, a ≠ L → H.get? a = some o → h.get? a = some o) ∧ ∃ tr, StL w h (fun a => H.objs.size + 2 < a) ys tr ∧ tr.length = i, ?_, ?_, ?_, ?_⟩
  · rw [hps]; exact Nat.lt_succ_of_lt hLH
  · show _ = _
    rw [Heap.get?_push_size _ rfl]; simp
  · rw [hps]
    intro a ha
    rw [List.mem_singleton.mp ha]; exact Nat.lt_succ_self _
  · exact ⟨x2.lg.upd fun a o _ e => up a o e, x2.ns.keeps up, fun a o _ e => up a o e, [], ⟨rfl, (fun j t e => by simp at e), .nil⟩, rfl⟩
  · dsimp only; rw [hps]
    rintro i ys h h' ⟨a1, a2, a3, tr, ⟨a4, a5, a6⟩, a7⟩ hkk
    have kl : ∀ a o, a < H.objs.size → h.get? a = some o → h'.get? a = some o := fun a o ha e => hkk a o (Nat.ne_of_lt ha) (Nat.ne_of_lt (Nat.lt_succ_of_lt ha)) (Nat.ne_of_lt (Nat.lt_succ_of_lt (Nat.lt_succ_of_lt ha))) e
    refine ⟨a1.off low kl, a2.at' fun o e => kl _ o hLH e, fun a o h1 e => kl a o (Heap.lt_size e) (a3 a o h1 e), tr, ⟨a4, fun j t e => (a5 j t e).at (fun a o ha e => hkk a o ?_ ?_ ?_ e) fun _ h => h, a6⟩, a7⟩
    · exact Nat.ne_of_gt (Nat.lt_trans (Nat.lt_add_of_pos_right (by decide)) ha)
    · exact Nat.ne_of_gt (Nat.lt_trans (Nat.lt_succ_self _) ha)
    · exact Nat.ne_of_gt ha
  · dsimp only; rw [hps]
    rintro i v ys h tk m2 hlt ⟨ti, rfl⟩ hSt ⟨a1, a2, a3, tr, ⟨a4, a5, a6⟩, a7⟩ hn2 hm2 hsz
    have e0 : (0 : Int) + (i : Nat) = (i : Int) := Int.zero_add _
    rw [e0] at hm2
    have B3 := a1.keep
    clear B1
    refine tests_nil ?_
    rw [if_pos rfl]
    iterate 2 walk1
    refine callWith_K W.X kf.kS ?_
    iterate 11 walk1
    refine wpAny_newTuple ?_ (by show 2 ≤ sizeLine; decide)
    iterate 1 walk1
    refine wpAny_newTuple ?_ (by show 1 ≤ sizeLine; decide)
    iterate 5 walk1
    have kA : ∀ a o, h.get? a = some o → (h.push { cls := .type "tuple", data := .seq [Value.int 7 tk, .int 1 (tk + 1)].toArray }).get? a = some o := fun a o e => Heap.get?_push_of_some _ e
    have oA := Heap.get?_push_size h (o := { cls := .type "tuple", data := .seq [Value.int 7 tk, .int 1 (tk + 1)].toArray }) rfl
    generalize hhA : h.push { cls := .type "tuple", data := .seq [Value.int 7 tk, .int 1 (tk + 1)].toArray } = hA at *
    have kB : ∀ a o, hA.get? a = some o → (hA.push { cls := .type "tuple", data := .seq [Value.ref h.objs.size].toArray }).get? a = some o := fun a o e => Heap.get?_push_of_some _ e
    have oB := Heap.get?_push_size hA (o := { cls := .type "tuple", data := .seq [Value.ref h.objs.size].toArray }) rfl
    generalize hhB : hA.push { cls := .type "tuple", data := .seq [Value.ref h.objs.size].toArray } = hB at *
    have k0B : ∀ a o, h.get? a = some o → hB.get? a = some o := fun a o e => kB _ _ (kA _ _ e)
    refine ⟨W.X.keeps fun a o e => k0B _ _ (B3 _ _ e), ?_⟩
    refine state_spec W kf ⟨a2.keeps k0B, fun a o e => k0B _ _ (B3 _ _ e), a1.above⟩ (R.less (by decide)) oB (kB _ _ oA) fun xx dx dm dk h' tk' tp' F' k' hx hdx hdm hdk ne1 ne2 ne3 hab l1 l2 l3 I hm hk => ?_
    dsimp only at k' hx hdx hdm hdk hab ⊢
    have kT : ∀ a o, a ≠ L → h.get? a = some o → h'.get? a = some o := fun a o ha e => k' a o ha (k0B _ _ e)
    have hCL : H.objs.size + 1 + 1 ≠ L := Nat.ne_of_gt (Nat.lt_succ_of_lt (Nat.lt_succ_of_lt hLH))
    have hlt2 : H.objs.size + 2 < dx := by
      obtain ⟨oC, _, _, eC, _⟩ := hn2
      refine hab (H.objs.size + 2) oC hCL (none_at_big ?_) (k0B _ _ eC)
      exact Nat.le_of_lt (Nat.lt_of_le_of_lt a1.above (Nat.lt_succ_of_lt (Nat.lt_succ_of_lt hLH)))
    have hPL : ∀ a, H.objs.size + 2 < a → a ≠ L := fun a ha => Nat.ne_of_gt (Nat.lt_trans (Nat.lt_succ_of_lt (Nat.lt_succ_of_lt hLH)) ha)
    refine ⟨h', _, rfl, fun a o ha e => kT a o ?_ e, a1.upd kT, F'.ns, fun a o h1 e => kT a o h1 (a3 a o h1 e), tr ++ [⟨xx, dx, dm, dk⟩], ⟨by rw [a4, List.map_append]; rfl, fun j t e => ?_, ?_⟩, by simp [a7]⟩
    · rcases ha with rfl | rfl | ha
      · exact hCL
      · exact Nat.ne_of_gt (Nat.lt_succ_of_lt hLH)
      · rw [List.mem_singleton.mp ha]; exact Nat.ne_of_gt hLH
    · by_cases hj : j < tr.length
      · rw [List.getElem?_append_left hj] at e
        exact (a5 j t e).at (fun a o ha e => kT a o (hPL a ha) e) fun _ h => h
      · rw [List.getElem?_append_right (Nat.not_lt.mp hj)] at e
        have e0 : j - tr.length = 0 := by
          cases q' : j - tr.length with
          | zero => rfl
          | succ n => rw [q'] at e; simp at e
        rw [e0] at e
        simp only [List.getElem?_cons_zero, Option.some.injEq] at e
        have e1 : j = i := by omega
        subst e e1
        exact ⟨⟨tp', I⟩, hm, hk, Nat.lt_trans hlt2 l1, hlt2, Nat.lt_trans hlt2 l2, Nat.lt_trans hlt2 l3⟩
    · rw [List.flatMap_append]
      refine List.nodup_append.mpr ⟨a6, ?_, ?_⟩
      · simp [T4.us, ne1, ne2, ne3]
      · intro a ha a' ha' e
        obtain ⟨t, ht, hta⟩ := List.mem_flatMap.mp ha
        obtain ⟨j, hj⟩ := List.mem_iff_getElem?.mp ht
        obtain ⟨⟨tn, f1⟩, f2, f3, f4, f5, f6, f7⟩ := a5 j t hj
        have hex : ∃ o, h.get? a = some o := by
          simp only [T4.us, List.mem_cons, List.not_mem_nil, or_false] at hta
          rcases hta with rfl | rfl | rfl
          · obtain ⟨_, _, _, q2, _⟩ := f1; exact ⟨_, q2⟩
          · obtain ⟨o, q1, _⟩ := f2.there; exact ⟨o, q1⟩
          · obtain ⟨o, q1, _⟩ := f3.there; exact ⟨o, q1⟩
        obtain ⟨o, ho⟩ := hex
        have hoB := k0B _ _ ho
        simp only [T4.us, List.flatMap_cons, List.flatMap_nil, List.append_nil, List.mem_cons, List.not_mem_nil, or_false] at ha'
        rcases ha' with rfl | rfl | rfl
        · rw [e, hdx] at hoB; cases hoB
        · rw [e, hdm] at hoB; cases hoB
        · rw [e, hdk] at hoB; cases hoB
  · dsimp only
    rw [hps]
    rintro h tk ys ⟨a1, a2, a3, tr, ⟨a4, a5, a6⟩, a7⟩ hD
    refine ⟨a2, fun h₂ hn2 k2 => ?_⟩
    have kk : ∀ a o, a < H.objs.size → a ≠ L → h.get? a = some o → h₂.get? a = some o := fun a o h1 h2 e => k2 a o h2 (Nat.ne_of_lt (Nat.lt_succ_of_lt (Nat.lt_succ_of_lt h1))) e
    have g2 : LG Hb L p q h₂ v2 v3 b := a1.at fun a o _ h2 hm' e => kk a o (by
      rcases hm' with hm' | hm'
      · simp only [List.mem_cons, List.not_mem_nil, or_false] at hm'
        rcases hm' with rfl | rfl | rfl | rfl | rfl
        · exact Nat.lt_trans (Nat.add_lt_add_left (by decide) L) low.1
        · exact Nat.lt_trans (Nat.add_lt_add_left (by decide) L) low.1
        · exact low.1
        · exact low.2.1
        · exact low.2.2
      · exact Nat.lt_trans (Nat.lt_of_lt_of_le (Heap.lt_size hm') a1.above) hLH) h2 e
    have hfr : ∀ a, H.objs.size + 2 < a → Far L p a ∧ s.heap.get? a = none := fun a ha => by
      refine ⟨x2.far_of_ge (Nat.le_of_lt (Nat.lt_trans (Nat.lt_add_of_pos_right (by decide)) ha)), ?_⟩
      cases q' : s.heap.get? a with
      | none => rfl
      | some o => exact absurd (Nat.lt_trans (Nat.lt_trans (Heap.lt_size (k12 _ _ q')) (Nat.lt_add_of_pos_right (by decide))) ha) (Nat.lt_irrefl _)
    refine hQ (H.objs.size + 1) h₂ _ ys _ tr ⟨hn2, g2⟩ (fun a o ha e => kk a o (Heap.lt_size (k12 _ _ e)) ha.1 (a3 a o ha.1 (k12 _ _ e))) (x2.far_of_ge (Nat.le_succ _)) (k2 _ _ (Nat.ne_of_gt (Nat.lt_succ_of_lt hLH)) (Nat.ne_of_lt (Nat.lt_succ_self _)) hD) ⟨a4, fun j t e => (a5 j t e).at (fun a o ha e => k2 a o (hfr a ha).1.1 (Nat.ne_of_gt ha) e) hfr, a6⟩ a7
end

section
variable {w : World} {A : Around} {s : Shared} {K : Frag}


theorem w_assign_attr {env : Env} {o : Expr} {attr : Str} {pos : Pos} {v : Value} {E : Value → Shared → Prop} {Q : Unit → Shared → Prop} (h : wpAny (model PP w) A (eval o env) (fun ov s₂ => wpAny (model PP w) A (setAttr ov attr v) Q E s₂) E s) : wpAny (model PP w) A (assign (.Attribute o attr pos) env v) Q E s := fun Γ p hΓ => by
  simp only [assign_Attribute, Sem.wp_bind', Sem.wp_holding, Sem.wp_cmd_standAt, Sem.wp_release]
  exact Sem.wp_mono (model PP w) Γ _ (fun ov _ s₂ h₂ => h₂ Γ _ hΓ) (fun _ _ _ h' => h') _ _ (h Γ _ hΓ)

theorem LF.dict' {Hb h h' : Heap} {L p q : Addr} {m m' : Str → Option Value} {v2 v3 : Option Value} {b : Nat} (x : LF w Hb L p q h m v2 v3 b) {d : Addr} {od : Obj} (hd : h.get? d = some od) (hc : od.cls = .type "dict") (hf : Far L p d) (h0 : Hb.get? d = none) (hn : h'.Ns L m') (k : ∀ a o, a ≠ L → a ≠ d → h.get? a = some o → h'.get? a = some o) : LF w Hb L p q h' m' v2 v3 b := by
  refine ⟨hn, x.lg.at fun a o _ h1 hm e => k a o h1 ?_ e⟩
  rintro rfl
  rcases hm with hm | hm
  · simp only [List.mem_cons, List.not_mem_nil, or_false] at hm
    rcases hm with q1 | q1 | q1 | q1 | q1
    · exact hf.2.1 q1
    · exact hf.2.2.1 q1
    · exact hf.2.2.2.1 q1
    · exact hf.2.2.2.2 q1
    · obtain ⟨g, st, pl, tg, ts, tp, n, vs, ns, hpo, ⟨o', ho', hco, _⟩, _⟩ := x.pool
      rw [← q1, hd] at ho'; cases ho'
      rw [hc] at hco; exact absurd hco (by decide)
  · rw [h0] at hm; cases hm

set_option maxHeartbeats 4000000 in
theorem set_pair {Hb : Heap} {L f p q : Addr} {cd : Value} {m : Str → Option Value} {v2 v3 : Option Value} {b j : Nat} (W : W0 K w Hb) (kf : KF K) (x : LF w Hb L p q s.heap m v2 v3 b) {ls sx sdx : Addr} {vs : List Value} {cn : Nat} {i : Nat} {nv w1 w2 v1 v2' : Value} {p1 p2 p3 p4 p5 p6 p7 p8 : Pos}
    (hms : m "states" = some (.ref ls)) (hls : s.heap.get? ls = some (listOf vs.toArray cn)) (hi : vs[i]? = some (.ref sx)) (hi2 : i < 100) (hj : j ≤ 100) (I : Inst j s.heap sx sdx 50 [("number", nv), ("moves", w1), ("masks", w2)]) (hF : Far L p sdx) (hFx : Far L p sx) (h0 : Hb.get? sdx = none) (hls2 : ls ≠ sdx) {Q : Unit → Shared → Prop}
    (hQ : ∀ h' tk, LF w Hb L p q h' m v2 v3 b → (∀ a o, a ≠ L → a ≠ sdx → s.heap.get? a = some o → h'.get? a = some o) → Inst (j + 2) h' sx sdx 50 [("number", nv), ("moves", v1), ("masks", v2')] → Q () { s with heap := h', toks := tk }) :
    wpAny (model PP w) A (assignInOrder ((assignEach [.Attribute (.Subscript (.Name "states" p1) (.Constant (.int i) 0 p2) p3) "moves" p4, .Attribute (.Subscript (.Name "states" p5) (.Constant (.int i) 0 p6) p7) "masks" p8] (LE L f cd)).map (·.2)) [v1, v2']) Q NoE s := by
  have hxd : sx ≠ sdx := by
    obtain ⟨es, n, e1, e2, _⟩ := I
    exact ne_of_two e1 e2 (by intro h; cases h)
  have KX := W.X
  have hn := x.ns
  have B1 := x.lg.keep
  show wpAny _ A (assignInOrder [assign _ (LE L f cd), assign _ (LE L f cd)] [v1, v2']) _ _ _
  refine assignInOrder_cons (w_assign_attr ?_)
  iterate 3 walk1
  refine lst_item (l := vs) (x := .ref sx) ⟨_, hls, rfl, _, rfl⟩ (by omega) (by omega) (by simpa using hi) ?_ (by with_unfolding_all rfl)
  refine inst_set W.X x.fr I h0 hF.1 hxd kf.sS kf.pS kf.t6 kf.dS (by omega) (by decide) (fun h₁ F1 k1 I1 => ?_)
  replace I1 := I1 [("number", nv), ("moves", v1), ("masks", w2)] (fun p hp => by
    rcases List.mem_cons.mp hp with rfl | hp
    · exact .inr ⟨show ("number" : Str) ≠ "moves" by decide, .head _⟩
    rcases List.mem_cons.mp hp with rfl | hp
    · exact .inl ⟨rfl, rfl⟩
    · rw [List.mem_singleton.mp hp]; exact .inr ⟨show ("masks" : Str) ≠ "moves" by decide, .tail _ (.tail _ (.head _))⟩) hFx.1
  obtain ⟨es, n, e1, e2, _⟩ := id I
  have x1 : LF w Hb L p q h₁ m v2 v3 b := x.dict' e2 rfl hF h0 F1.ns k1
  have hlsL : ls ≠ L := by
    obtain ⟨o, es', ep, ho, hd, _⟩ := x.ns
    rintro rfl
    rw [hls] at ho; cases ho; cases hd
  have hls1 := k1 _ _ hlsL hls2 hls
  have hn1 := x1.ns
  have B11 := x1.lg.keep
  clear hn B1
  refine assignInOrder_cons (w_assign_attr ?_)
  iterate 3 walk1
  refine lst_item (l := vs) (x := .ref sx) ⟨_, hls1, rfl, _, rfl⟩ (by omega) (by omega) (by simpa using hi) ?_ (by with_unfolding_all rfl)
  refine inst_set W.X x1.fr I1 h0 hF.1 hxd kf.sS kf.pS kf.t8 kf.dS (by omega) (by decide) (fun h₂ F2 k2 I2 => ?_)
  replace I2 := I2 [("number", nv), ("moves", v1), ("masks", v2')] (fun p hp => by
    rcases List.mem_cons.mp hp with rfl | hp
    · exact .inr ⟨show ("number" : Str) ≠ "masks" by decide, .head _⟩
    rcases List.mem_cons.mp hp with rfl | hp
    · exact .inr ⟨show ("moves" : Str) ≠ "masks" by decide, .tail _ (.head _)⟩
    · rw [List.mem_singleton.mp hp]; exact .inl ⟨rfl, rfl⟩) hFx.1
  obtain ⟨es', n', e1', e2', _⟩ := id I1
  have x2 : LF w Hb L p q h₂ m v2 v3 b := x1.dict' e2' rfl hF h0 F2.ns k2
  refine assignInOrder_nil ?_
  exact hQ h₂ _ x2 (fun a o q1 q2 e => k2 a o q1 q2 (k1 a o q1 q2 e)) I2

set_option maxHeartbeats 4000000 in
theorem st10 {Hb : Heap} {L f p q : Addr} {cd : Value} {m : Str → Option Value} {v2 v3 : Option Value} {b j : Nat} (W : W0 K w Hb) (kf : KF K) (R : Rm A 8) (x : LF w Hb L p q s.heap m v2 v3 b) {ls sx sdx dm dk : Addr} {vs : List Value} {cn : Nat} {nv w1 w2 : Value}
    (hmm : m "moves" = some (.ref dm)) (hmk : m "masks" = some (.ref dk)) (hms : m "states" = some (.ref ls)) (hls : s.heap.get? ls = some (listOf vs.toArray cn)) (hi : vs[1]? = some (.ref sx)) (hj : j ≤ 100) (I : Inst j s.heap sx sdx 50 [("number", nv), ("moves", w1), ("masks", w2)]) (hF : Far L p sdx) (hFx : Far L p sx) (h0 : Hb.get? sdx = none) {Q : Flow → Shared → Prop}
    (hQ : ∀ h' tk, LF w Hb L p q h' m v2 v3 b → (∀ a o, Far L p a → a ≠ sdx → s.heap.get? a = some o → h'.get? a = some o) → Inst (j + 2) h' sx sdx 50 [("number", nv), ("moves", .ref dm), ("masks", .ref dk)] → Q .next { s with heap := h', toks := tk }) :
    wpAny (model PP w) A (exec (lawStm 10) (LE L f cd)) Q NoE s := by
  obtain ⟨hd0, dp, frs, gds, un⟩ := A
  obtain rfl : hd0 = none := R.hh
  have KX := W.X
  have hn := x.ns
  have B1 := x.lg.keep
  have hls2 : ls ≠ sdx := by
    obtain ⟨es, n, e1, e2, _⟩ := I
    exact ne_of_two hls e2 (by intro h; injection h with h; exact absurd h (by decide))
  refine Assign_Tuple ?_ rfl rfl
  iterate 6 walk1
  refine wpAny_newTuple ?_ (by show 2 ≤ sizeLine; decide)
  have kA : ∀ a o, s.heap.get? a = some o → (s.heap.push { cls := .type "tuple", data := .seq [Value.ref dm, .ref dk].toArray }).get? a = some o := fun a o e => Heap.get?_push_of_some _ e
  have oA := Heap.get?_push_size s.heap (o := { cls := .type "tuple", data := .seq [Value.ref dm, .ref dk].toArray }) rfl
  generalize hhA : s.heap.push { cls := .type "tuple", data := .seq [Value.ref dm, .ref dk].toArray } = hA at *
  refine assign_Tuple_tuple rfl (items := [Value.ref dm, .ref dk].toArray) ⟨_, oA, rfl, _, rfl⟩ rfl rfl fun hB kB => ?_
  dsimp only at kB
  have k0 : ∀ a o, s.heap.get? a = some o → hB.get? a = some o := fun a o e => kB a o (Nat.ne_of_lt (Heap.lt_size (kA _ _ e))) (kA _ _ e)
  refine set_pair (s := { s with heap := hB }) W kf (x.keeps k0) hms (k0 _ _ hls) hi (by decide) hj (I.at (k0 _) (k0 _)) hF hFx h0 hls2 fun h' tk x' k' I' => ?_
  exact hQ h' tk x' (fun a o h1 h2 e => k' a o h1.1 h2 (k0 _ _ e)) I'
end

section
variable {w : World} {A : Around} {s : Shared} {K : Frag}


set_option maxHeartbeats 4000000 in
theorem st11 {Hb : Heap} {L f p q : Addr} {cd : Value} {m : Str → Option Value} {v2 v3 : Option Value} {b j : Nat} (W : W0 K w Hb) (kf : KF K) (R : Rm A 8) (x : LF w Hb L p q s.heap m v2 v3 b) {ls sx sdx dm dk : Addr} {vs : List Value} {cn : Nat} {nv w1 w2 : Value} {kvm kvk : List (Int × Value)} {ms : List (Int × Int)}
    (hmm : m "moves" = some (.ref dm)) (hmk : m "masks" = some (.ref dk)) (hms : m "states" = some (.ref ls)) (hls : s.heap.get? ls = some (listOf vs.toArray cn)) (hi : vs[2]? = some (.ref sx)) (hj : j ≤ 100) (I : Inst j s.heap sx sdx 50 [("number", nv), ("moves", w1), ("masks", w2)]) (hF : Far L p sdx) (hFx : Far L p sx) (h0 : Hb.get? sdx = none)
    (hm : ID w s.heap dm kvm) (hk : ID w s.heap dk kvk) (hik : Ints kvk ms) (hl1 : kvm.length ≤ 1000) (hl2 : kvk.length ≤ 1000) {Q : Flow → Shared → Prop}
    (hQ : ∀ h' tk dm2 dk2 kvk2, LF w Hb L p q h' m v2 v3 b → (∀ a o, Far L p a → a ≠ sdx → s.heap.get? a = some o → h'.get? a = some o) → Inst (j + 2) h' sx sdx 50 [("number", nv), ("moves", .ref dm2), ("masks", .ref dk2)] →
      ID w h' dm2 kvm → ID w h' dk2 kvk2 → Ints kvk2 (ms.map fun p => (p.1, 256)) → s.heap.get? dm2 = none → s.heap.get? dk2 = none → Q .next { s with heap := h', toks := tk }) :
    wpAny (model PP w) A (exec (lawStm 11) (LE L f cd)) Q NoE s := by
  obtain ⟨hd0, dp, frs, gds, un⟩ := A
  obtain rfl : hd0 = none := R.hh
  have KX := W.X
  have hn := x.ns
  have B1 := x.lg.keep
  have hls2 : ls ≠ sdx := by
    obtain ⟨es, n, e1, e2, _⟩ := I
    exact ne_of_two hls e2 (by intro h; injection h with h; exact absurd h (by decide))
  refine Assign_Tuple ?_ rfl rfl
  iterate 8 walk1
  have hbig : 1 < s.heap.objs.size := Nat.lt_trans (Nat.lt_of_lt_of_le (by decide) (Nat.le_add_left 3 L)) x.lg.lsz
  refine id_copy hm hl1 hbig fun dm2 h₁ k1 hdm2 hm2 => ?_
  have x1 := x.keeps k1
  have hn1 := x1.ns
  have B11 := x1.lg.keep
  have hk1 := hk.keep k1
  clear hn B1
  iterate 5 walk1
  refine ListComp_raw rfl (by decide +kernel) rfl (by decide +kernel) rfl (fun _ => rfl) ?_
  iterate 1 walk1
  obtain ⟨ep, hat⟩ := hk1.1.dictAt
  refine wpAny_pyIter_dict hk1.2 hat ?_
  dsimp only
  have hdkI : dk < h₁.objs.size := hk1.lt
  have hps : (h₁.push { cls := .type "dict_keyiterator", data := .fields #[.ref dk, .int 0 0, .int kvk.length 0, .int ep 0] }).objs.size = h₁.objs.size + 1 := Heap.size_push ..
  have up : ∀ a o, h₁.get? a = some o → (h₁.push { cls := .type "dict_keyiterator", data := .fields #[.ref dk, .int 0 0, .int kvk.length 0, .int ep 0] }).get? a = some o := fun a o e => Heap.get?_push_of_some _ e
  refine ⟨h₁.objs.size, [h₁.objs.size, dk], kvk.length, _, _, rfl, Walks.dictKeys (knd := intKind PP w) rfl h₁.objs.size dk (Nat.ne_of_lt hdkI) kvk ep, by rw [sizeLine_eq]; omega, ⟨⟨_, Heap.get?_push_size _ rfl, rfl, rfl⟩, hat.push _⟩, ?_,
    fun i ys h => (∀ b o, h₁.get? b = some o → h.get? b = some o) ∧ ∃ kv, PrsP h (fun a => h₁.objs.size + 2 < a) ys kv ∧ Ints kv ((ms.take i).map fun p => (p.1, 256)), ?_, ?_, ?_, ?_⟩
  · dsimp only; rw [hps]
    intro a ha
    rcases List.mem_cons.mp ha with rfl | ha
    · exact Nat.lt_succ_self _
    · rw [List.mem_singleton.mp ha]; exact Nat.lt_succ_of_lt hdkI
  · exact ⟨up, [], .nil, .nil⟩
  · dsimp only; rw [hps]
    rintro i ys h h' ⟨a1, kv, a2, a3⟩ hkk
    refine ⟨fun a o e => hkk a o ?_ ?_ ?_ (a1 a o e), kv, a2.at (fun a o ha _ e => hkk a o ?_ ?_ ?_ e) (fun _ _ h _ _ => h), a3⟩
    · exact Nat.ne_of_lt (Heap.lt_size e)
    · exact Nat.ne_of_lt (Nat.lt_succ_of_lt (Heap.lt_size e))
    · exact Nat.ne_of_lt (Nat.lt_succ_of_lt (Nat.lt_succ_of_lt (Heap.lt_size e)))
    · exact Nat.ne_of_gt (Nat.lt_trans (Nat.lt_add_of_pos_right (by decide)) ha)
    · exact Nat.ne_of_gt (Nat.lt_trans (Nat.lt_succ_self _) ha)
    · exact Nat.ne_of_gt ha
  · dsimp only; rw [hps]
    rintro i v ys h tk m2 hlt ⟨k, y, hky, his⟩ hSt ⟨a1, kv, a2, a3⟩ hn2 hm2' hsz
    obtain ⟨ut, rfl⟩ := Value.isInt_shape his
    obtain ⟨n, tn, rfl, hms'⟩ := hik.get hky
    have hz : h₁.objs.size + 2 < h.objs.size := hsz
    refine tests_nil ?_
    rw [if_pos rfl]
    iterate 7 walk1
    refine pow_int_small (by decide) (by decide) (by decide) ?_
    iterate 1 walk1
    refine wpAny_newTuple ?_ (by show 2 ≤ sizeLine; decide)
    refine ⟨_, _, rfl, fun b o _ e => Heap.get?_push_of_some _ e, fun b o e => Heap.get?_push_of_some _ (a1 b o e), kv ++ [(k, .int _ _)], (a2.at (fun b o _ _ e => Heap.get?_push_of_some _ e) (fun _ _ h _ _ => h)).snoc hz (Heap.get?_push_size _ rfl), ?_⟩
    rw [take_snoc hms', List.map_append]
    exact a3.snoc _ _ _
  · dsimp only
    rw [hps]
    rintro h tk ys ⟨a1, kv, a2, a3⟩ hD h₃ k3
    have hall : ms.take kvk.length = ms := List.take_of_length_le (by rw [hik.length]; exact Nat.le_refl _)
    rw [hall] at a3
    have k13 : ∀ b o, h₁.get? b = some o → h₃.get? b = some o := fun b o e => k3 b o (Nat.ne_of_lt (Nat.lt_succ_of_lt (Nat.lt_succ_of_lt (Heap.lt_size e)))) (a1 b o e)
    have hD3 := k3 _ _ (Nat.ne_of_lt (Nat.lt_succ_self _)) hD
    have r3 : PrsP h₃ (fun a => h₁.objs.size + 2 < a) ys kv := a2.at (fun a o ha _ e => k3 a o (Nat.ne_of_gt ha) e) (fun _ _ h _ _ => h)
    have x3 := x1.keeps k13
    have hkeys : kv.map (·.1) = kvk.map (·.1) := by rw [a3.keys, hik.keys, List.map_map]; rfl
    have hklen : kv.length ≤ 1000 := by
      have h1 := congrArg List.length hkeys
      rw [List.length_map, List.length_map] at h1; omega
    have hbig3 : 1 < h₃.objs.size := Nat.lt_trans (Nat.lt_of_lt_of_le (by decide) (Nat.le_add_left 3 L)) x3.lg.lsz
    iterate 1 walk1
    refine call_dict_pairs rfl hD3 r3.plain (by rw [hkeys]; exact hk.nodup) hklen hbig3 fun dk2 h₅ tk₅ k5 hdk0 hID => ?_
    dsimp only at hdk0 k5 ⊢
    have x5 := x3.keeps k5
    have k05 : ∀ a o, s.heap.get? a = some o → h₅.get? a = some o := fun a o e => k5 _ _ (k13 _ _ (k1 _ _ e))
    iterate 1 walk1
    refine wpAny_newTuple ?_ (by show 2 ≤ sizeLine; decide)
    have kA : ∀ a o, h₅.get? a = some o → (h₅.push { cls := .type "tuple", data := .seq [Value.ref dm2, .ref dk2].toArray }).get? a = some o := fun a o e => Heap.get?_push_of_some _ e
    have oA := Heap.get?_push_size h₅ (o := { cls := .type "tuple", data := .seq [Value.ref dm2, .ref dk2].toArray }) rfl
    generalize hhA : h₅.push { cls := .type "tuple", data := .seq [Value.ref dm2, .ref dk2].toArray } = hA at *
    refine assign_Tuple_tuple rfl (items := [Value.ref dm2, .ref dk2].toArray) ⟨_, oA, rfl, _, rfl⟩ rfl rfl fun hB kB => ?_
    dsimp only at kB
    have k5B : ∀ a o, h₅.get? a = some o → hB.get? a = some o := fun a o e => kB a o (Nat.ne_of_lt (Heap.lt_size (kA _ _ e))) (kA _ _ e)
    have k0 : ∀ a o, s.heap.get? a = some o → hB.get? a = some o := fun a o e => k5B _ _ (k05 _ _ e)
    have hdk20 : s.heap.get? dk2 = none := by
      cases q' : s.heap.get? dk2 with
      | none => rfl
      | some o => have := k13 _ _ (k1 _ _ q'); rw [this] at hdk0; cases hdk0
    have hsd : ∃ o, s.heap.get? sdx = some o := by obtain ⟨es, n, e1, e2, _⟩ := I; exact ⟨_, e2⟩
    obtain ⟨osd, hosd⟩ := hsd
    have nd1 : dm2 ≠ sdx := fun q' => by rw [q', hosd] at hdm2; cases hdm2
    have nd2 : dk2 ≠ sdx := fun q' => by rw [q', hosd] at hdk20; cases hdk20
    have fd1 : Far L p dm2 := x.far_of_none hdm2
    have fd2 : Far L p dk2 := x.far_of_none hdk20
    refine set_pair (s := { s with heap := hB, toks := tk₅ }) W kf (x5.keeps k5B) hms (k0 _ _ hls) hi (by decide) hj (I.at (k0 _) (k0 _)) hF hFx h0 hls2 fun h' tk x' k' I' => ?_
    exact hQ h' tk dm2 dk2 kv x' (fun a o h1 h2 e => k' a o h1.1 h2 (k0 _ _ e)) I' ((hm2.keep fun a o e => k5B _ _ (k5 _ _ (k13 _ _ e))).at (k' dm2 · fd1.1 nd1)) ((hID.keep k5B).at (k' dk2 · fd2.1 nd2)) a3 hdm2 hdk20
end

section
variable {w : World} {A : Around} {s : Shared} {K : Frag}


theorem RLs_get {h : Heap} {P : Addr → Prop} : ∀ {vs : List Value} {ds : List PyData}, RLs h P vs ds → ∀ {i : Nat} {v : Value}, vs[i]? = some v → ∃ d, ds[i]? = some d ∧ RL h P v d
  | _, _, .nil, i, v, e => by simp at e
  | _, _, .cons (v := v0) (d := d0) a b, i, v, e => by
    cases i with
    | zero =>
      simp only [List.getElem?_cons_zero, Option.some.injEq] at e
      subst e; exact ⟨d0, rfl, a⟩
    | succ i => simpa using RLs_get b (by simpa using e)
theorem RL_pair {h : Heap} {P : Addr → Prop} {v : Value} {p : Int × List Int} (x : RL h P v (dPair p)) : ∃ a t b n, v = .ref a ∧ P a ∧ h.get? a = some { cls := .type "tuple", data := .seq [Value.int p.1 t, .ref b].toArray n } ∧ RL h P (.ref b) (.tuple (p.2.map .int)) := by
  obtain ⟨p1, p2⟩ := p
  unfold dPair at x
  cases x with
  | @tuple a vs n xs h1 h2 h3 =>
    cases h3 with
    | @cons v1 vs1 d1 ds1 e1 e2 =>
      cases e2 with
      | @cons v2 vs2 d2 ds2 e3 e4 =>
        cases e4 with
        | nil =>
          cases e1 with
          | int i t =>
            cases e3 with
            | @tuple b ws k ys f1 f2 f3 => exact ⟨a, t, b, n, rfl, h1, h2, .tuple f1 f2 f3⟩

theorem LG.off' {Hb h h' : Heap} {L p q I : Addr} {v2 v3 : Option Value} {b : Nat} (x : LG Hb L p q h v2 v3 b) (hI : L + 3 < I ∧ p < I ∧ q < I) (k : ∀ a o, a < I → a ≠ L → h.get? a = some o → h'.get? a = some o) : LG Hb L p q h' v2 v3 b := by
  refine x.at fun a o _ hL hm e => k a o ?_ hL e
  rcases hm with hm | hm
  · simp only [List.mem_cons, List.not_mem_nil, or_false] at hm
    rcases hm with rfl | rfl | rfl | rfl | rfl
    · exact Nat.lt_trans (Nat.add_lt_add_left (by decide) L) hI.1
    · exact Nat.lt_trans (Nat.add_lt_add_left (by decide) L) hI.1
    · exact hI.1
    · exact hI.2.1
    · exact hI.2.2
  · exact Nat.lt_trans (Nat.lt_of_lt_of_le (Heap.lt_size hm) x.above) (Nat.lt_trans (Nat.lt_add_of_pos_right (by decide)) hI.1)

theorem due_comp {H : Heap} {env : Env} {elt : Expr} {scope : Scope} {cl : List (Str × Addr)} {Fin : Shared → List Value → Heap → Nat → Prop} {tk0 : Nat} {D : Addr} {cn : Nat} {vs : List Value} {l : List (Int × List Int)} {P : Addr → Prop} {n : Int}
    (hD : H.get? D = some (listOf vs.toArray cn)) (hr : RLs H P vs (l.map dPair)) (hlen : l.length ≤ 1000)
    (helt : ∀ h tk m₂ t u b, h.Ns (H.objs.size + 2) m₂ → m₂ "terminal" = some (.int t u) → m₂ "some" = some (.ref b) →
      wpAny (model PP w) A (eval elt (compEnvC scope cl (H.objs.size + 2) env)) (fun y s' => ∃ tk' tq, y = .ref h.objs.size ∧ s' = { s with heap := h.push { cls := .type "tuple", data := .seq [Value.int n tq, .int t u, .ref b].toArray }, toks := tk' }) NoE { s with heap := h, toks := tk })
    (hfin : ∀ h tk ys, (∀ b o, H.get? b = some o → h.get? b = some o) → RLs h (fun a => (P a ∨ H.objs.size ≤ a) ∧ a ≠ H.objs.size ∧ a ≠ H.objs.size + 1 ∧ a ≠ H.objs.size + 2) ys (l.map (dTrip n)) → h.get? (H.objs.size + 1) = some (lst ys) →
      Fin { s with heap := H.push { cls := .type "list_iterator", data := .fields #[.ref D, .int 0 0] }, toks := tk0 } ys h tk) :
    PairOn w A env elt "terminal" "some" scope cl Fin (.ref H.objs.size) { s with heap := H.push { cls := .type "list_iterator", data := .fields #[.ref D, .int 0 0] }, toks := tk0 } := by
  have hps : (H.push { cls := .type "list_iterator", data := .fields #[.ref D, .int 0 0] }).objs.size = H.objs.size + 1 := Heap.size_push ..
  have up : ∀ a o, H.get? a = some o → (H.push { cls := .type "list_iterator", data := .fields #[.ref D, .int 0 0] }).get? a = some o := fun a o e => Heap.get?_push_of_some _ e
  have hDI : D < H.objs.size := Heap.lt_size hD
  have hvl := RLs_len hr
  rw [List.length_map] at hvl
  have hr' : RLs H (fun a => (P a ∨ H.objs.size ≤ a) ∧ a ≠ H.objs.size ∧ a ≠ H.objs.size + 1 ∧ a ≠ H.objs.size + 2) vs (l.map dPair) := RLs_at (fun _ _ _ _ e => e) (fun a o h1 _ e => ⟨.inl h1, Nat.ne_of_lt (Heap.lt_size e), Nat.ne_of_lt (Nat.lt_succ_of_lt (Heap.lt_size e)), Nat.ne_of_lt (Nat.lt_succ_of_lt (Nat.lt_succ_of_lt (Heap.lt_size e)))⟩) hr
  refine ⟨H.objs.size, D, vs, rfl, Nat.ne_of_lt hDI, by omega, ⟨⟨_, Heap.get?_push_size _ rfl, rfl, rfl⟩, Heap.IsList.push ⟨_, hD, rfl, _, rfl⟩ _⟩,
    fun i ys h => (∀ b o, H.get? b = some o → h.get? b = some o) ∧ RLs h (fun a => (P a ∨ H.objs.size ≤ a) ∧ a ≠ H.objs.size ∧ a ≠ H.objs.size + 1 ∧ a ≠ H.objs.size + 2) ys ((l.take i).map (dTrip n)), ?_, ?_, ?_, ?_, ?_⟩
  · exact ⟨up, .nil⟩
  · dsimp only; rw [hps]
    rintro i ys h h' ⟨a1, a2⟩ hkk
    refine ⟨fun a o e => hkk a o ?_ ?_ ?_ (a1 a o e), RLs_at (fun a o ha _ e => hkk a o ha.2.1 ha.2.2.1 ha.2.2.2 e) (fun _ _ h _ _ => h) a2⟩
    · exact Nat.ne_of_lt (Heap.lt_size e)
    · exact Nat.ne_of_lt (Nat.lt_succ_of_lt (Heap.lt_size e))
    · exact Nat.ne_of_lt (Nat.lt_succ_of_lt (Nat.lt_succ_of_lt (Heap.lt_size e)))
  · rintro i v ys h hv ⟨a1, a2⟩
    obtain ⟨d, hd, hrl⟩ := RLs_get hr hv
    obtain ⟨p, hp, rfl⟩ : ∃ p, l[i]? = some p ∧ dPair p = d := by
      rw [List.getElem?_map] at hd
      obtain ⟨p, h1, h2⟩ := Option.map_eq_some_iff.mp hd
      exact ⟨p, h1, h2⟩
    obtain ⟨a, t, b, nn, rfl, _, ho, _⟩ := RL_pair hrl
    exact ⟨a, _, _, nn, rfl, a1 _ _ ho⟩
  · dsimp only; rw [hps]
    rintro i a x1 x2 nn ys h tk m₂ hv hao ⟨a1, a2⟩ hn2 hm1 hm2
    obtain ⟨d, hd, hrl⟩ := RLs_get hr' hv
    obtain ⟨p, hp, rfl⟩ : ∃ p, l[i]? = some p ∧ dPair p = d := by
      rw [List.getElem?_map] at hd
      obtain ⟨p, h1, h2⟩ := Option.map_eq_some_iff.mp hd
      exact ⟨p, h1, h2⟩
    obtain ⟨a', t, b, nn', e1, _, ho, hrb⟩ := RL_pair hrl
    cases e1
    have := a1 _ _ ho
    rw [hao] at this
    obtain ⟨rfl, rfl⟩ : x1 = .int p.1 t ∧ x2 = .ref b := by
      simp only [Option.some.injEq, Obj.mk.injEq, Data.seq.injEq] at this
      have h1 := congrArg Array.toList this.2.2.1.1
      simp at h1
      exact h1
    have hzC : H.objs.size + 2 < h.objs.size := hn2.lt
    refine wpAny_mono (helt h tk m₂ p.1 t b hn2 hm1 hm2) (fun y s' hy => ?_) (fun _ _ e => e)
    obtain ⟨tk', tq, rfl, rfl⟩ := hy
    refine ⟨_, tk', rfl, fun b' o _ e => Heap.get?_push_of_some _ e, fun b' o e => Heap.get?_push_of_some _ (a1 _ _ e), ?_⟩
    rw [take_snoc hp, List.map_append]
    refine RLs_snoc (RLs_at (fun _ _ _ _ e => Heap.get?_push_of_some _ e) (fun _ _ h _ _ => h) a2) (.tuple ⟨.inr (Nat.le_of_lt (Nat.lt_trans (Nat.lt_add_of_pos_right (by decide)) hzC)), Nat.ne_of_gt (Nat.lt_trans (Nat.lt_add_of_pos_right (by decide)) hzC), Nat.ne_of_gt (Nat.lt_trans (Nat.lt_succ_self _) hzC), Nat.ne_of_gt hzC⟩ (Heap.get?_push_size _ rfl) (.cons (.int _ _) (.cons (.int _ _) (.cons (RL_at (fun a o _ _ e => Heap.get?_push_of_some _ (a1 _ _ e)) (fun _ _ h _ _ => h) hrb) .nil))))
  · dsimp only; rw [hps]
    rintro h tk ys ⟨a1, a2⟩ hD'
    have hall : l.take vs.length = l := List.take_of_length_le (by omega)
    rw [hall] at a2
    exact hfin h tk ys a1 a2 hD'

set_option maxHeartbeats 4000000 in
theorem st12 {Hb : Heap} {L f p q c : Addr} {cd : Value} {m : Str → Option Value} {v3 : Option Value} {b N : Nat} (W : W0 K w Hb) (R : Rm A 8) (x : LF w Hb L p q s.heap m (some (.ref c)) v3 b)
    {dm : Addr} {kvm kvc : List (Int × Value)} {ch : List (Int × List Int)} {as : List Addr} (hmm : m "moves" = some (.ref dm)) (hm : ID w s.heap dm kvm) (hc : ID w s.heap c kvc) (hcl : CLs s.heap ch kvc as) (hch : ChOk N ch) (hN : N < 5) {Q : Flow → Shared → Prop}
    (hQ : ∀ D h' tk vs cn, LF w Hb L p q h' (fun y => if y = "due" then some (.ref D) else m y) (some (.ref c)) v3 b → KpF L p s.heap h' → Far L p D → h'.get? D = some (listOf vs.toArray cn) →
      RLs h' (Far L p) vs ((dueTo (fun t => (valueAt kvm t).isSome) ch (srt (ch.map (·.1))) 9).map (dTrip 1)) → Q .next { s with heap := h', toks := tk }) :
    wpAny (model PP w) A (exec (lawStm 12) (LE L f cd)) Q NoE s := by
  obtain ⟨hd0, dp, frs, gds, un⟩ := A
  obtain rfl : hd0 = none := R.hh
  have KX := W.X
  have hn := x.ns
  have B1 := x.lg.keep
  have c2 := x.c2
  refine Assign_PairComp_raw (L := L) (m := m) rfl rfl rfl rfl (by decide +kernel) rfl (by decide +kernel) rfl rfl (by decide) (fun _ => rfl) rfl rfl ?_
  iterate 2 walk1
  refine callWith_fn W.due ?_ rfl
  iterate 5 walk1
  refine ⟨B1, ?_⟩
  refine due_spec (W.keeps B1) (R.less (by decide)) hm hc hcl (by have := congrArg List.length hch.1; simp only [List.length_map, List.length_range] at this; omega) fun D h₁ tk₁ vs cn k1 hD0 hDo hrl => ?_
  refine wpAny_pyIter_list (items := vs.toArray) ⟨_, hDo, rfl, _, rfl⟩ ?_
  dsimp only
  have x1 := x.keeps k1
  have hps : (h₁.push { cls := .type "list_iterator", data := .fields #[.ref D, .int 0 0] }).objs.size = h₁.objs.size + 1 := Heap.size_push ..
  refine ⟨by rw [hps]; exact Nat.lt_succ_of_lt x1.ns.lt, due_comp (s := s) (n := 1) hDo hrl (by have := dueTo_len (fun t => (valueAt kvm t).isSome) ch (srt (ch.map (·.1))) 9; omega) ?_ ?_⟩
  · intro h tk m₂ t u b' hn2 hm1 hm2
    iterate 8 walk1
    refine wpAny_newTuple ?_ (by show 3 ≤ sizeLine; decide)
    exact ⟨_, _, rfl, rfl⟩
  · intro h tk ys a1 a2 hD'
    dsimp only
    rw [hps]
    refine ⟨x1.ns.keeps a1, fun h' hn' k' => ?_⟩
    have low : L + 3 < h₁.objs.size ∧ p < h₁.objs.size ∧ q < h₁.objs.size := ⟨x1.lg.lsz, x1.lg.psz, x1.lg.qsz⟩
    have kk : ∀ a o, a < h₁.objs.size → a ≠ L → h.get? a = some o → h'.get? a = some o := fun a o h1 h2 e => k' a o h2 (Nat.ne_of_lt (Nat.lt_succ_of_lt (Nat.lt_succ_of_lt h1))) e
    have g' := ((x1.keeps a1).lg).off' low kk
    have hPF : ∀ a, (s.heap.objs.size < a ∨ h₁.objs.size ≤ a) → Far L p a := fun a ha => by
      rcases ha with ha | ha
      · exact x.far_of_ge (Nat.le_of_lt ha)
      · exact x1.far_of_ge ha
    refine hQ (h₁.objs.size + 1) h' _ ys _ ⟨hn', g'⟩ (fun a o ha e => kk a o (Heap.lt_size (k1 _ _ e)) ha.1 (a1 _ _ (k1 _ _ e))) (x1.far_of_ge (Nat.le_succ _)) (k' _ _ (Nat.ne_of_gt (Nat.lt_succ_of_lt x1.ns.lt)) (Nat.ne_of_lt (Nat.lt_succ_self _)) hD') (RLs_at (fun a o ha _ e => k' a o (hPF a ha.1).1 ha.2.2.2 e) (fun a _ ha _ _ => hPF a ha.1) a2)
end

section
variable {w : World} {A : Around} {s : Shared} {K : Frag}


theorem RLs_app {h : Heap} {P : Addr → Prop} : ∀ {vs ws : List Value} {ds es : List PyData}, RLs h P vs ds → RLs h P ws es → RLs h P (vs ++ ws) (ds ++ es)
  | _, _, _, _, .nil, y => y
  | _, _, _, _, .cons a b, y => .cons a (RLs_app b y)

set_option maxHeartbeats 4000000 in
theorem st13 {Hb : Heap} {L f p q D0 : Addr} {cd : Value} {m : Str → Option Value} {v2 v3 : Option Value} {b : Nat} (W : W0 K w Hb) (R : Rm A 8) (x : LF w Hb L p q s.heap m v2 v3 b)
    {dm dk : Addr} {kvm kvk : List (Int × Value)} {ms : List (Int × Int)} {vs0 : List Value} {cn0 : Nat} {ds0 : List PyData} (hmm : m "moves" = some (.ref dm)) (hmk : m "masks" = some (.ref dk)) (hmd : m "due" = some (.ref D0)) (hm : ID w s.heap dm kvm) (hk : ID w s.heap dk kvk) (hik : Ints kvk ms) (hl2 : ms.length < 60)
    (hD0 : s.heap.get? D0 = some (listOf vs0.toArray cn0)) (hr0 : RLs s.heap (Far L p) vs0 ds0) (hds0 : ds0.length ≤ 1000) {Q : Flow → Shared → Prop}
    (hQ : ∀ D h' tk vs cn, LF w Hb L p q h' (fun y => if y = "due" then some (.ref D) else m y) v2 v3 b → KpF L p s.heap h' → Far L p D → h'.get? D = some (listOf vs.toArray cn) →
      RLs h' (Far L p) vs (ds0 ++ (dueTo (fun t => (valueAt kvm t).isSome) (ms.map fun p => (p.1, [8])) (srt (ms.map (·.1))) 9).map (dTrip 2)) → Q .next { s with heap := h', toks := tk }) :
    wpAny (model PP w) A (exec (lawStm 13) (LE L f cd)) Q NoE s := by
  obtain ⟨hd0, dp, frs, gds, un⟩ := A
  obtain rfl : hd0 = none := R.hh
  have KX := W.X
  have hn := x.ns
  have B1 := x.lg.keep
  refine wpAny_Assign_Name ?_
  iterate 2 walk1
  refine PairComp_raw rfl rfl (by decide +kernel) rfl (by decide +kernel) rfl rfl (by decide) (fun _ => rfl) ?_
  iterate 2 walk1
  refine callWith_fn W.due ?_ rfl
  iterate 7 walk1
  refine ListComp_raw rfl (by decide +kernel) rfl (by decide +kernel) rfl (fun _ => rfl) ?_
  iterate 1 walk1
  obtain ⟨ep, hat⟩ := hk.1.dictAt
  refine wpAny_pyIter_dict hk.2 hat ?_
  generalize hH : s.heap = H at *
  have hkl := hik.length
  have hdkI : dk < H.objs.size := hk.lt
  have hps : (H.push { cls := .type "dict_keyiterator", data := .fields #[.ref dk, .int 0 0, .int kvk.length 0, .int ep 0] }).objs.size = H.objs.size + 1 := Heap.size_push ..
  have up : ∀ a o, H.get? a = some o → (H.push { cls := .type "dict_keyiterator", data := .fields #[.ref dk, .int 0 0, .int kvk.length 0, .int ep 0] }).get? a = some o := fun a o e => Heap.get?_push_of_some _ e
  refine ⟨H.objs.size, [H.objs.size, dk], kvk.length, _, _, rfl, Walks.dictKeys (knd := intKind PP w) rfl H.objs.size dk (Nat.ne_of_lt hdkI) kvk ep, by rw [sizeLine_eq]; omega, ⟨⟨_, Heap.get?_push_size _ rfl, rfl, rfl⟩, hat.push _⟩, ?_,
    fun i ys h => (∀ b o, H.get? b = some o → h.get? b = some o) ∧ ∃ kv as, PrsP h (fun a => H.objs.size + 2 < a) ys kv ∧ CLs h ((ms.take i).map fun p => (p.1, [8])) kv as ∧ ∀ a ∈ as, H.objs.size + 2 < a, ?_, ?_, ?_, ?_⟩
  · dsimp only; rw [hps]
    intro a ha
    rcases List.mem_cons.mp ha with rfl | ha
    · exact Nat.lt_succ_self _
    · rw [List.mem_singleton.mp ha]; exact Nat.lt_succ_of_lt hdkI
  · exact ⟨up, [], [], .nil, .nil, fun a ha => by cases ha⟩
  · dsimp only; rw [hps]
    rintro i ys h h' ⟨a1, kv, as, a2, a3, a4⟩ hkk
    have kP : ∀ a o, H.objs.size + 2 < a → h.get? a = some o → h'.get? a = some o := fun a o ha e => hkk a o (Nat.ne_of_gt (Nat.lt_trans (Nat.lt_add_of_pos_right (by decide)) ha)) (Nat.ne_of_gt (Nat.lt_trans (Nat.lt_succ_self _) ha)) (Nat.ne_of_gt ha) e
    refine ⟨fun a o e => hkk a o ?_ ?_ ?_ (a1 a o e), kv, as, a2.at (fun a o ha _ e => kP a o ha e) (fun _ _ h _ _ => h), a3.at fun a ha o e => kP a o (a4 a ha) e, a4⟩
    · exact Nat.ne_of_lt (Heap.lt_size e)
    · exact Nat.ne_of_lt (Nat.lt_succ_of_lt (Heap.lt_size e))
    · exact Nat.ne_of_lt (Nat.lt_succ_of_lt (Nat.lt_succ_of_lt (Heap.lt_size e)))
  · dsimp only; rw [hps]
    rintro i v ys h tk m2 hlt ⟨k, y, hky, his⟩ hSt ⟨a1, kv, as, a2, a3, a4⟩ hn2 hm2' hsz
    obtain ⟨ut, rfl⟩ := Value.isInt_shape his
    obtain ⟨n, tn, rfl, hms'⟩ := hik.get hky
    have hz : H.objs.size + 2 < h.objs.size := hsz
    refine tests_nil ?_
    rw [if_pos rfl]
    iterate 8 walk1
    refine wpAny_newList ?_ (by show 1 ≤ sizeLine; decide)
    iterate 1 walk1
    refine wpAny_newTuple ?_ (by show 2 ≤ sizeLine; decide)
    have kA : ∀ a o, h.get? a = some o → (h.push { cls := .type "list", data := .seq [Value.int 8 tk].toArray }).get? a = some o := fun a o e => Heap.get?_push_of_some _ e
    have oA := Heap.get?_push_size h (o := { cls := .type "list", data := .seq [Value.int 8 tk].toArray }) rfl
    have zA : H.objs.size + 2 < (h.push { cls := .type "list", data := .seq [Value.int 8 tk].toArray }).objs.size := by rw [Heap.size_push]; exact Nat.lt_succ_of_lt hz
    refine ⟨_, _, rfl, fun b o _ e => Heap.get?_push_of_some _ (kA _ _ e), fun b o e => Heap.get?_push_of_some _ (kA _ _ (a1 b o e)), kv ++ [(k, .ref h.objs.size)], as ++ [h.objs.size], (a2.at (fun b o _ _ e => Heap.get?_push_of_some _ (kA _ _ e)) (fun _ _ h _ _ => h)).snoc zA (Heap.get?_push_size _ rfl), ?_, ?_⟩
    · rw [take_snoc hms', List.map_append]
      exact (a3.at fun a _ o e => Heap.get?_push_of_some _ (kA _ _ e)).snoc (vs := [Value.int 8 tk]) (Heap.get?_push_of_some _ oA) (.cons 8 tk .nil)
    · intro a ha
      rcases List.mem_append.mp ha with ha | ha
      · exact a4 a ha
      · rw [List.mem_singleton.mp ha]; exact hz
  · dsimp only
    rw [hps]
    rintro h tk ys ⟨a1, kv, as, a2, a3, a4⟩ hD h₃ k3
    have hall : ms.take kvk.length = ms := List.take_of_length_le (by omega)
    rw [hall] at a3
    have k13 : ∀ b o, H.get? b = some o → h₃.get? b = some o := fun b o e => k3 b o (Nat.ne_of_lt (Nat.lt_succ_of_lt (Nat.lt_succ_of_lt (Heap.lt_size e)))) (a1 b o e)
    have hD3 := k3 _ _ (Nat.ne_of_lt (Nat.lt_succ_self _)) hD
    have r3 : PrsP h₃ (fun a => H.objs.size + 2 < a) ys kv := a2.at (fun a o ha _ e => k3 a o (Nat.ne_of_gt ha) e) (fun _ _ h _ _ => h)
    have c3 : CLs h₃ (ms.map fun p => (p.1, [8])) kv as := a3.at fun a ha o e => k3 a o (Nat.ne_of_gt (a4 a ha)) e
    have x3 := x.keeps k13
    have hkeys : kv.map (·.1) = kvk.map (·.1) := by rw [c3.keys, hik.keys, List.map_map]; rfl
    have hklen : kv.length ≤ 1000 := by
      have h1 := congrArg List.length hkeys
      rw [List.length_map, List.length_map] at h1; omega
    have hbig3 : 1 < h₃.objs.size := Nat.lt_trans (Nat.lt_of_lt_of_le (by decide) (Nat.le_add_left 3 L)) x3.lg.lsz
    iterate 1 walk1
    refine call_dict_pairs rfl hD3 r3.plain (by rw [hkeys]; exact hk.nodup) hklen hbig3 fun d2 h₅ tk₅ k5 hd20 hID => ?_
    dsimp only at hd20 k5 ⊢
    have x5 := x3.keeps k5
    have B5 := x5.lg.keep
    have k05 : ∀ a o, H.get? a = some o → h₅.get? a = some o := fun a o e => k5 _ _ (k13 _ _ e)
    iterate 1 walk1
    refine ⟨B5, ?_⟩
    refine due_spec (W.keeps B5) (R.less (by decide)) (hm.keep k05) hID (c3.at fun a _ o e => k5 a o e) (by rw [List.length_map]; exact hl2) fun D h₆ tk₆ vs cn k6 hDn hDo hrl => ?_
    dsimp only at k6 hrl ⊢
    have x6 := x5.keeps k6
    refine wpAny_pyIter_list (items := vs.toArray) ⟨_, hDo, rfl, _, rfl⟩ ?_
    have hps6 : (h₆.push { cls := .type "list_iterator", data := .fields #[.ref D, .int 0 0] }).objs.size = h₆.objs.size + 1 := Heap.size_push ..
    have hk8 : (ms.map fun p => (p.1, [(8 : Int)])).map (·.1) = ms.map (·.1) := by rw [List.map_map]; rfl
    rw [hk8] at hrl
    have hdl := dueTo_len (fun t => (valueAt kvm t).isSome) (ms.map fun p => (p.1, [(8 : Int)])) (srt (ms.map (·.1))) 9
    refine due_comp (s := s) (n := 2) hDo hrl (by omega) ?_ ?_
    · intro h tk m₂ t u b' hn2 hm1 hm2
      iterate 8 walk1
      refine wpAny_newTuple ?_ (by show 3 ≤ sizeLine; decide)
      exact ⟨_, _, rfl, rfl⟩
    · intro h7 tk7 zs b1 b2 hD7
      dsimp only
      rw [hps6]
      intro h8 k8
      have kk : ∀ a o, a < h₆.objs.size → h7.get? a = some o → h8.get? a = some o := fun a o h1 e => k8 a o (Nat.ne_of_lt (Nat.lt_succ_of_lt (Nat.lt_succ_of_lt h1))) e
      have low : L + 3 < h₆.objs.size ∧ p < h₆.objs.size ∧ q < h₆.objs.size := ⟨x6.lg.lsz, x6.lg.psz, x6.lg.qsz⟩
      have x7 := x6.keeps b1
      have x8 : LF w Hb L p q h8 m v2 v3 b := ⟨x7.ns.at' fun o e => kk _ o x6.ns.lt e, x7.lg.off' low fun a o h1 _ e => kk a o h1 e⟩
      have k68 : ∀ a o, h₆.get? a = some o → h8.get? a = some o := fun a o e => kk a o (Heap.lt_size e) (b1 _ _ e)
      have k08 : ∀ a o, H.get? a = some o → h8.get? a = some o := fun a o e => k68 _ _ (k6 _ _ (k05 _ _ e))
      have hD8 := k8 _ _ (Nat.ne_of_lt (Nat.lt_succ_self _)) hD7
      obtain ⟨Rl, NR, hR⟩ := all_news Hb h8 L
      have hl0 := RLs_len hr0
      have hl7 := RLs_len b2
      rw [List.length_map] at hl7
      refine add_lists (vs := vs0) (ws := zs) x8.fr NR ⟨_, k08 _ _ hD0, rfl, _, rfl⟩ ⟨_, hD8, rfl, _, rfl⟩ (fun h9 F9 N9 => ?_) (by rw [sizeLine_eq]; omega)
      have k9 := all_kept F9 N9 hR (fun p hp => .tail _ hp) x8.lg.keep
      have hnew := (N9 _ (.head _)).1
      have x9 := x8.upd F9.ns k9
      refine wpAny_storeName_local rfl x9.ns (fun h10 hn10 hs10 => ?_) rfl
      have k10 : ∀ a o, a ≠ L → h9.get? a = some o → h10.get? a = some o := fun a o ha e => hs10.extBut a o ha e
      have hDF : Far L p h8.objs.size := x8.far_of_ge (Nat.le_refl _)
      have hPF : ∀ a, (h₅.objs.size < a ∨ h₆.objs.size ≤ a) → Far L p a := fun a ha => by
        rcases ha with ha | ha
        · exact x5.far_of_ge (Nat.le_of_lt ha)
        · exact x6.far_of_ge ha
      have r0' : RLs h10 (Far L p) vs0 ds0 := RLs_at (fun a o ha _ e => k10 a o ha.1 (k9 a o ha.1 (k08 _ _ e))) (fun _ _ h _ _ => h) hr0
      have r1' := RLs_at (h' := h10) (P' := Far L p) (fun a o ha _ e => k10 a o (hPF a ha.1).1 (k9 a o (hPF a ha.1).1 (k8 a o ha.2.2.2 e))) (fun a _ ha _ _ => hPF a ha.1) b2
      exact hQ _ h10 _ (vs0 ++ zs) _ (x9.upd hn10 k10) (fun a o ha e => k10 a o ha.1 (k9 a o ha.1 (k08 _ _ e))) hDF (k10 _ _ hDF.1 hnew) (RLs_app r0' r1')
end

section
variable {w : World} {A : Around} {s : Shared} {K : Frag}


set_option maxHeartbeats 2000000 in
theorem st14 {Hb : Heap} {L f p q ls : Addr} {cd : Value} {m : Str → Option Value} {v2 v3 : Option Value} {b : Nat} (W : W0 K w Hb) (kf : KF K) (R : Rm A 8) (x : LF w Hb L p q s.heap m v2 v3 b) (hms : m "states" = some (.ref ls)) {Q : Flow → Shared → Prop}
    (hQ : ∀ xa dxa h' tk, LF w Hb L p q h' (fun y => if y = "machine" then some (.ref xa) else m y) v2 v3 b → KpF L p s.heap h' → Far L p xa → Far L p dxa → s.heap.get? xa = none → s.heap.get? dxa = none → Inst 20 h' xa dxa 92 [("states", .ref ls)] → Q .next { s with heap := h', toks := tk }) :
    wpAny (model PP w) A (exec (lawStm 14) (LE L f cd)) Q NoE s := by
  obtain ⟨hd0, dp, frs, gds, un⟩ := A
  obtain rfl : hd0 = none := R.hh
  have KX := W.X
  have hn := x.ns
  have B1 := x.lg.keep
  refine wpAny_Assign_Name ?_
  iterate 2 walk1
  refine callWith_K W.X kf.kA ?_
  iterate 5 walk1
  refine ⟨W.X.keeps B1, ?_⟩
  refine auto_spec W kf x.fr (R.less (by decide)) fun xa dxa h₁ tk₁ F1 k1 hx hdx I => ?_
  have x1 := x.upd F1.ns k1
  refine wpAny_storeName_local rfl x1.ns (fun h₂ hn2 hs2 => ?_) rfl
  have k2 : ∀ a o, a ≠ L → h₁.get? a = some o → h₂.get? a = some o := fun a o ha e => hs2.extBut a o ha e
  have f1 := x.far_of_none hx
  have f2 := x.far_of_none hdx
  exact hQ xa dxa h₂ _ (x1.upd hn2 k2) (fun a o ha e => k2 a o ha.1 (k1 a o ha.1 e)) f1 f2 hx hdx (I.at (k2 xa · f1.1) (k2 dxa · f2.1))
end

section
variable {w : World} {A : Around} {s : Shared} {K : Frag}


theorem PL_trip (n : Int) (p : Int × List Int) : PL 2 (dTrip n p) := .inr (.inl ⟨_, rfl, fun x hx => by
  rcases List.mem_cons.mp hx with rfl | hx
  · exact .inl ⟨_, rfl⟩
  rcases List.mem_cons.mp hx with rfl | hx
  · exact .inl ⟨_, rfl⟩
  · rw [List.mem_singleton.mp hx]; exact .inr (.inl ⟨_, rfl, PL_ints _⟩)⟩)
theorem PL_trips (ds : List SD) : ∀ n, ∀ x ∈ tripsUp ds n, PL 2 x
  | 0, x, hx => by cases hx
  | n + 1, x, hx => by
    rcases List.mem_append.mp hx with hx | hx
    · exact PL_trips ds n x hx
    · split at hx
      · exact PL_map (PL_trip _) _ x hx
      · cases hx

theorem Ints.val {kvs ms} (x : Ints kvs ms) {k : Int} {v : Value} (e : valueAt kvs k = some v) : ∃ n t, v = .int n t := by
  induction x with
  | nil => cases e
  | cons k' n t _ ih =>
    rw [valueAt_cons] at e
    split at e
    · cases e; exact ⟨n, t, rfl⟩
    · exact ih e

set_option maxHeartbeats 4000000 in
theorem st15 {Hb : Heap} {L f p q D xa dxa ls dm : Addr} {cd : Value} {m : Str → Option Value} {v2 v3 : Option Value} {b j : Nat} (W : W0 K w Hb) (kf : KF K) (R : Rm A 8) (x : LF w Hb L p q s.heap m v2 v3 b)
    {vs vsD : List Value} {cn cnD : Nat} {ds : List SD} {dd : List PyData} {kvm : List (Int × Value)} {mm : List (Int × Int)} {sx : Addr}
    (hma : m "machine" = some (.ref xa)) (hmd : m "due" = some (.ref D)) (hmm : m "moves" = some (.ref dm)) (I : Inst j s.heap xa dxa 92 [("states", .ref ls)]) (hls : s.heap.get? ls = some (listOf vs.toArray cn)) (hst : StsOk w s.heap vs ds) (hds : ds.length ≤ 20)
    (hD : s.heap.get? D = some (listOf vsD.toArray cnD)) (hrD : ReadsAll s.heap vsD dd []) (hdd : tripsUp ds ds.length = dd) (hm : ID w s.heap dm kvm) (him : Ints kvm mm)
    (hs1 : vs[1]? = some (.ref sx)) {jj : Nat} {dsx : Addr} {vals : List (Str × Value)} (I1 : Inst jj s.heap sx dsx 50 vals) (hv1 : (("moves" : Str), Value.ref dm) ∈ vals) {Q : Flow → Shared → Prop}
    (hQ : ∀ h' tk, LF w Hb L p q h' m v2 v3 b → (∀ a o, s.heap.get? a = some o → h'.get? a = some o) → Q .next { s with heap := h', toks := tk }) :
    wpAny (model PP w) A (exec (lawStm 15) (LE L f cd)) Q NoE s := by
  obtain ⟨hd0, dp, frs, gds, un⟩ := A
  obtain rfl : hd0 = none := R.hh
  have KX := W.X
  have hn := x.ns
  have B1 := x.lg.keep
  have hu : Around.units ⟨none, dp, frs, gds, un⟩ + 64 < cLine := by have := R.units; omega
  refine wpAny_If (wpAny_mono (Q := fun b s₂ => b = false ∧ ∃ h' tk, s₂ = { s with heap := h', toks := tk } ∧ ∀ a o, s.heap.get? a = some o → h'.get? a = some o) ?_ ?_ (fun _ _ e => e))
  · iterate 4 walk1
    refine callWith_fn W.canon ?_ rfl
    iterate 3 walk1
    refine ⟨B1, ?_⟩
    refine canon_spec (W.keeps B1) kf (R.less (by decide)) I hls hst hds fun D2 h₁ tk₁ k1 hD0 hRd => ?_
    have x1 := x.keeps k1
    have hn1 := x1.ns
    have B2 := x1.lg.keep
    clear hn B1
    iterate 1 walk1
    have rdD : Reads h₁ (.ref D) (.list dd) [D] := .list (k1 _ _ hD) rfl rfl (ReadsAll.keeps k1 hrD)
    refine cmp_ne (k := 3) (j := 3) hRd rdD (PL_list (PL_trips ds _)) (PL_list (hdd ▸ PL_trips ds _)) (by decide) (by decide) hu (fun _ => ?_) fun e0 => absurd (by rw [hdd]) e0
    iterate 6 walk1
    refine callWith_fn W.lrone ?_ rfl
    iterate 3 walk1
    refine ⟨B2, ?_⟩
    refine lrone_spec (W.keeps B2) kf (R.less (by decide)) (I.at (k1 _) (k1 _)) (k1 _ _ hls) (hst.keep k1) hds fun h₂ tk₂ k2 => ?_
    dsimp only at k2 ⊢
    have k02 : ∀ a o, s.heap.get? a = some o → h₂.get? a = some o := fun a o e => k2 _ _ (k1 _ _ e)
    have x2 := x.keeps k02
    have hn2 := x2.ns
    have B3 := x2.lg.keep
    clear hn1 B2
    rw [hdd]
    iterate 4 walk1
    refine wpAny_newObj_type ?_
    dsimp only
    have kA : ∀ a o, h₂.get? a = some o → (h₂.push { cls := .type "list", data := .seq ([] : List Value).toArray }).get? a = some o := fun a o e => Heap.get?_push_of_some _ e
    have oA := Heap.get?_push_size h₂ (o := { cls := .type "list", data := .seq ([] : List Value).toArray }) rfl
    generalize h₂.push { cls := .type "list", data := .seq ([] : List Value).toArray } = h₃ at *
    have k03 : ∀ a o, s.heap.get? a = some o → h₃.get? a = some o := fun a o e => kA _ _ (k02 _ _ e)
    have x3 := x.keeps k03
    have hn3 := x3.ns
    have B4 := x3.lg.keep
    clear hn2 B3
    have rdE : Reads h₃ (.ref D) (.list dd) [D] := .list (k03 _ _ hD) rfl rfl (ReadsAll.keeps k03 hrD)
    have rdN : Reads h₃ (.ref h₂.objs.size) (.list []) [h₂.objs.size] := .list oA rfl rfl .nil
    refine wpAny_mono (Q := fun v s' => v = .bool dd.isEmpty ∧ s' = { s with heap := h₃, toks := tk₂ }) (cmp_eq (k := 3) (j := 3) rdE rdN (PL_list (hdd ▸ PL_trips ds _)) (PL_list (fun y hy => by cases hy)) (by decide) (by decide) hu (fun e0 => ?_) fun e0 => ?_) (fun v s' hv => ?_) (fun _ _ e => e)
    · injection e0 with e1
      exact ⟨by rw [e1]; rfl, rfl⟩
    · refine ⟨?_, rfl⟩
      cases dd with
      | nil => exact absurd rfl e0
      | cons a l => rfl
    obtain ⟨rfl, rfl⟩ := hv
    refine ne_dataH (.bool dd.isEmpty) (.bool dd.isEmpty) rfl rfl hu ?_
    rw [show (!PyData.eqv (.bool dd.isEmpty) (.bool dd.isEmpty)) = false by simp [PyData.eqv]]
    iterate 6 walk1
    refine inst_goto W.X B4 (I.at (k03 _) (k03 _)) kf ?_
    refine callWith_K W.X kf.kG ?_
    iterate 5 walk1
    refine ⟨W.X.keeps B4, ?_⟩
    refine goto_spec (i := 1) (k := 3) (W.keeps B4) kf (R.less (by decide)) (I.at (k03 _) (k03 _)) (k03 _ _ hls) hs1 (by decide) (I1.at (k03 _) (k03 _)) hv1 (hm.keep k03) fun h₄ tk₄ t4 k4 => ?_
    dsimp only at k4 ⊢
    have k04 : ∀ a o, s.heap.get? a = some o → h₄.get? a = some o := fun a o e => k4 _ _ (k03 _ _ e)
    have hn4 := (x.keeps k04).ns
    have B5 := (x.keeps k04).lg.keep
    clear hn3 B4
    iterate 2 walk1
    refine id_method PySem.F.slot_dict_get PySem.F.type_dict_get (hm.keep k04) ?_
    iterate 8 walk1
    refine id_get (hm.keep k04) ?_
    generalize hw1 : (valueAt kvm 3).getD (Value.int (-1) t4) = u1
    generalize hw2 : (valueAt kvm 3).getD _ = u2
    obtain ⟨n, ta, tb, rfl, rfl⟩ : ∃ n ta tb, u1 = .int n ta ∧ u2 = .int n tb := by
      subst hw1 hw2
      cases hv : valueAt kvm 3 with
      | none => exact ⟨-1, _, _, rfl, rfl⟩
      | some v =>
        obtain ⟨n, t, e⟩ := him.val hv
        exact ⟨n, t, t, e, e⟩
    refine ne_dataH (.int n ta) (.int n tb) rfl rfl hu ?_
    rw [show (!PyData.eqv (.int n) (.int n)) = false by simp [PyData.eqv]]
    iterate 3 walk1
    exact ⟨rfl, h₄, _, rfl, k04⟩
  · rintro b s₂ ⟨rfl, h', tk, rfl, k⟩
    rw [if_neg (by decide)]
    exact wpAny_execs_nil (hQ h' tk (x.keeps k) k)
end

section
variable {w : World} {A : Around} {E : Value → Shared → Prop} {s : Shared}
theorem id_ne_nil {a b : Addr} {ka : List (Int × Value)} {Q : Value → Shared → Prop} (ha : ID w s.heap a ka) (hb : ID w s.heap b []) (hu : A.units < cLine) (h : Q (.bool (!ka.isEmpty)) s) :
    wpAny (model PP w) A (compareOp .NotEq (.ref a) (.ref b)) Q E s := by
  refine keq_ne (knd := intKind PP w) (r := true) ha.2 hb.2 ha.1 hb.1 hu (fun e => ?_) ?_
  · cases ka with
    | nil => exact .nil
    | cons p r => simp at e
  · have : (!(ka.length == ([] : List (Int × Value)).length && true)) = !ka.isEmpty := by cases ka <;> simp
    rw [this]; exact h
theorem id_eq_nil {a b : Addr} {ka : List (Int × Value)} {Q : Value → Shared → Prop} (ha : ID w s.heap a ka) (hb : ID w s.heap b []) (hu : A.units < cLine) (h : Q (.bool ka.isEmpty) s) :
    wpAny (model PP w) A (compareOp .Eq (.ref a) (.ref b)) Q E s := by
  refine keq_eq (knd := intKind PP w) (r := true) ha.2 hb.2 ha.1 hb.1 hu (fun e => ?_) ?_
  · cases ka with
    | nil => exact .nil
    | cons p r => simp at e
  · have : (ka.length == ([] : List (Int × Value)).length && true) = ka.isEmpty := by cases ka <;> simp
    rw [this]; exact h
/-- one key each, the same, the values the same data -/
theorem id_eq_one {a b : Addr} {k : Int} {v y : Value} {d : PyData} {as bs : List Addr} {j : Nat} {Q : Value → Shared → Prop} (ha : ID w s.heap a [(k, v)]) (hb : ID w s.heap b [(k, y)]) (ra : Reads s.heap v d as) (rb : Reads s.heap y d bs) (hp : PL j d) (hj : j ≤ 64) (hu : A.units + 80 < cLine) (h : Q (.bool true) s) :
    wpAny (model PP w) A (compareOp .Eq (.ref a) (.ref b)) Q E s := by
  refine keq_eq (knd := intKind PP w) (r := true && true) ha.2 hb.2 ha.1 hb.1 (by omega) (fun _ => ?_) h
  refine .hit (y := y) (by rw [valueAt_cons, if_pos rfl]) ?_ .nil
  have h1 : SeqAt.EqAt A.in1 s v y (PyData.eqv d d) := keq_at ra rb (PL_shaped hp hj) (PL_shaped hp hj) (by show A.units + 1 + 64 < cLine; omega)
  rw [(PL_eq j j d d hp hp).mpr rfl] at h1
  exact h1
end

section
variable {w : World} {A : Around} {E : Value → Shared → Prop} {s : Shared} {env : Env}
/-- a dict display of one int key -/
theorem id_dict1 {ke ve : Expr} {pos : Pos} {Q : Value → Shared → Prop} (hbig : 1 < s.heap.objs.size)
    (h : wpAny (model PP w) A (eval ke env) (fun kv s₁ => wpAny (model PP w) A (eval ve env) (fun vv s₂ => ∃ k t, kv = .int k t ∧ ID w s₂.heap s.heap.objs.size [] ∧
      ∀ h', ID w h' s.heap.objs.size [(k, vv)] → (∀ a o, a ≠ s.heap.objs.size → s₂.heap.get? a = some o → h'.get? a = some o) → Q (.ref s.heap.objs.size) { s₂ with heap := h', toks := s₂.toks + 1 }) E s₁) E
      { s with heap := s.heap.push { cls := .type "dict", data := .dict #[] } }) :
    wpAny (model PP w) A (eval (.Dict [some ke] [ve] pos) env) Q E s := by
  refine wpAny_Dict_walk (knd := intKind PP w) rfl rfl (by simp) (by show 1 ≤ 15; decide) (pairTrees_cons_walk (wpAny_mono h (fun kv s₁ h₁ => wpAny_mono h₁ (fun vv s₂ h₂ => pairTrees_nil_walk ?_) fun _ _ e => e) fun _ _ e => e))
  obtain ⟨k, t, rfl, hd, hQ⟩ := h₂
  refine ⟨[(k, vv)], ?_, hd.1, fun h' hm hs => hQ h' ⟨hm, hd.2⟩ (keeps_of_same hs)⟩
  exact ⟨intKind_is PP w k t, rfl, trivial⟩
end

section
variable {w : World} {A : Around} {s : Shared} {K : Frag}


def updI (ms : List (Int × Int)) (r v : Int) : List (Int × Int) := ms.map fun p => if p.1 = r then (p.1, v) else p

theorem Ints.upd {kvs ms} (x : Ints kvs ms) {r : Int} (hr : r ∈ ms.map (·.1)) (v : Int) (t : Tok) : Ints (stored kvs r (.int v t)) (updI ms r v) := by
  have h1 : kvs.any (fun kv => kv.1 = r) = true := by
    rw [← x.keys] at hr
    obtain ⟨p, hp, e⟩ := List.mem_map.mp hr
    exact List.any_eq_true.mpr ⟨p, hp, by simpa using e⟩
  unfold stored updI
  rw [if_pos h1]
  clear hr h1
  induction x with
  | nil => exact .nil
  | cons k n tt _ ih =>
    simp only [List.map_cons]
    by_cases e : k = r
    · rw [if_pos e, if_pos e]; exact .cons k v t ih
    · rw [if_neg e, if_neg e]; exact .cons k n tt ih
theorem LF.le {Hb h : Heap} {L p q : Addr} {m : Str → Option Value} {v2 v3 : Option Value} {b b' : Nat} (x : LF w Hb L p q h m v2 v3 b) (hb : b ≤ b') : LF w Hb L p q h m v2 v3 b' := by
  obtain ⟨g, st, pl, tg, ts, tp, n, vs', ns', q1, q2, q3, q4, q5, q6⟩ := x.pool
  exact ⟨x.ns, ⟨x.lg.keep, x.lg.above, x.lg.c1, x.lg.c2, x.lg.c3, ⟨g, st, pl, tg, ts, tp, n, vs', ns', q1, q2, q3, q4, Nat.le_trans q5 hb, q6⟩, x.lg.fresh, x.lg.pL, x.lg.qL⟩⟩

set_option maxHeartbeats 4000000 in
theorem st16 {Hb : Heap} {L f p q c dk : Addr} {cd : Value} {m : Str → Option Value} {v3 : Option Value} {b N : Nat} {tn : Tok} (W : W0 K w Hb) (R : Rm A 8) (x : LF w Hb L p q s.heap m (some (.ref c)) v3 b) (hb : b ≤ 1000) (hN : N < 5) (hmn : m "many" = some (.int N tn)) (hmk : m "masks" = some (.ref dk))
    {kvc kvk : List (Int × Value)} {ch : List (Int × List Int)} {as : List Addr} {ms : List (Int × Int)} (hc : ID w s.heap c kvc) (hcl : CLs s.heap ch kvc as) (hch : ChOk N ch) (hk : ID w s.heap dk kvk) (hik : Ints kvk ms) (hl : kvk.length ≤ 1000) (hF : Far L p dk) (h0 : Hb.get? dk = none) (hkeys : ∀ k, k ∈ ms.map (·.1) ↔ k ∈ ch.map (·.1)) {Q : Flow → Shared → Prop}
    (hQ : ∀ h' tk m' kvk' ms', LF w Hb L p q h' m' (some (.ref c)) v3 (b + 2) → (∀ y : Str, y ≠ "rule" → m' y = m y) → (∀ a o, Far L p a → a ≠ dk → s.heap.get? a = some o → h'.get? a = some o) → ID w h' dk kvk' → Ints kvk' ms' →
      (ms' = ms ∨ ∃ r n t : Int, lookI ms r = some n ∧ r ∈ ms.map (·.1) ∧ 0 ≤ t ∧ t < 9 ∧ ms' = updI ms r (Builtin.bitOr n ((2 : Int) ^ t.toNat))) → Q .next { s with heap := h', toks := tk }) :
    wpAny (model PP w) A (exec (lawStm 16) (LE L f cd)) Q NoE s := by
  obtain ⟨hd0, dp, frs, gds, un⟩ := A
  obtain rfl : hd0 = none := R.hh
  have KX := W.X
  have hn := x.ns
  have B1 := x.lg.keep
  have c1 := x.c1
  have c2 := x.c2
  have hbig : 1 < s.heap.objs.size := Nat.lt_trans (Nat.lt_of_lt_of_le (by decide) (Nat.le_add_left 3 L)) x.lg.lsz
  have hchl : ch.length = N := by have := congrArg List.length hch.1; simpa using this
  have hkvl := hcl.len
  refine wpAny_If (wpAny_mono (Q := fun b s₂ => b = decide (N ≠ 0) ∧ ∃ h' tk, s₂ = { s with heap := h', toks := tk } ∧ ∀ a o, s.heap.get? a = some o → h'.get? a = some o) ?_ ?_ (fun _ _ e => e))
  · iterate 2 walk1
    refine wpAny_Dict_empty ?_
    have k1 : ∀ a o, s.heap.get? a = some o → (s.heap.push { cls := .type "dict", data := .dict #[] }).get? a = some o := fun a o e => Heap.get?_push_of_some _ e
    refine id_ne_nil (hc.keep k1) (ID.new hbig) (by have := R.units; omega) ?_
    have e1 : (!kvc.isEmpty) = decide (N ≠ 0) := by
      cases kvc with
      | nil => simp at hkvl; simp; omega
      | cons a l => simp at hkvl; simp; omega
    rw [e1]
    iterate 1 walk1
    exact ⟨rfl, _, _, rfl, k1⟩
  · rintro b₁ s₂ ⟨rfl, h₁, tk₁, rfl, k1⟩
    have x1 := x.keeps k1
    by_cases hN0 : N = 0
    · rw [if_neg (by simp [hN0])]
      exact wpAny_execs_nil (hQ h₁ tk₁ m kvk ms (x1.le (by omega)) (fun _ _ => rfl) (fun a o _ _ e => k1 a o e) (hk.keep k1) hik (.inl rfl))
    · rw [if_pos (by simp [hN0])]
      have hn1 := x1.ns
      have B2 := x1.lg.keep
      have c11 := x1.c1
      clear hn B1 c1 c2
      refine wpAny_execs_cons (wpAny_Assign_Name ?_)
      iterate 6 walk1
      refine callWith_fn W.draw ?_ rfl
      iterate 5 walk1
      refine ⟨B2, ?_⟩
      refine draw_spec (most := (N : Int)) W B2 (R.less (by decide)) x1.pool x1.fresh (by omega) (by omega) (by omega) fun z tz h₂ tk₂ hz0 hzN hp2 k2 => ?_
      dsimp only at k2 ⊢
      have x2 := x1.drawn hp2 k2
      iterate 2 walk1
      refine wpAny_storeName_local rfl x2.ns (fun h₃ hn3 hs3 => ?_) rfl
      have k3 : ∀ a o, a ≠ L → h₂.get? a = some o → h₃.get? a = some o := fun a o ha e => hs3.extBut a o ha e
      have x3 := x2.upd hn3 k3
      have k03 : ∀ a o, Far L p a → s.heap.get? a = some o → h₃.get? a = some o := fun a o ha e => k3 a o ha.1 (k2 a o ha.2.2.2.2 (k1 _ _ e))
      have hk3 : ID w h₃ dk kvk := hk.at (k03 dk · hF)
      have B3 := x3.lg.keep
      have c13 := x3.c1
      have hrk : (1 + 2 * z) ∈ ms.map (·.1) := by
        rw [hkeys, hch.1]
        exact List.mem_map.mpr ⟨z.toNat, List.mem_range.mpr (by omega), by omega⟩
      obtain ⟨n, tq, hv, hlk, hmem⟩ := hik.look hrk
      clear hn1 B2 c11
      refine wpAny_execs_cons (wpAny_Assign_Subscript ?_ rfl)
      iterate 4 walk1
      refine id_item hk3 hv ?_ (by with_unfolding_all rfl)
      iterate 4 walk1
      refine callWith_fn W.draw ?_ rfl
      iterate 5 walk1
      refine ⟨B3, ?_⟩
      refine draw_spec (most := 9) W B3 (R.less (by decide)) x3.pool x3.fresh (by omega) (by decide) (by decide) fun t tt h₄ tk₄ ht0 ht9 hp4 k4 => ?_
      dsimp only at k4 ⊢
      have x4 := x3.drawn hp4 k4
      have hn4 := x4.ns
      have hk4 : ID w h₄ dk kvk := hk3.at (k4 dk · hF.2.2.2.2)
      refine pow_int_small (by omega) (by omega) (by decide) ?_
      refine or_int ?_
      iterate 2 walk1
      refine id_setItem hk4 hl fun h₅ hk5 k5 => ?_
      obtain ⟨od, hod, hoc⟩ := hk4.there
      have x5 := x4.dict hod hoc hF h0 k5
      refine wpAny_execs_nil ?_
      refine hQ h₅ _ _ _ (updI ms (1 + 2 * z) (Builtin.bitOr n ((2 : Int) ^ t.toNat))) x5 (fun y hy => if_neg hy) (fun a o h1 h2 e => k5 a o h2 (k4 a o h1.2.2.2.2 (k03 a o h1 e))) hk5 ?_ (.inr ⟨1 + 2 * z, n, t, hlk, hrk, ht0, ht9, rfl⟩)
      exact hik.upd hrk _ _
end

section
variable {w : World} {A : Around} {s : Shared} {K : Frag}


set_option maxHeartbeats 4000000 in
theorem st17 {Hb : Heap} {L f p q dm : Addr} {cd : Value} {m : Str → Option Value} {v2 v3 : Option Value} {b : Nat} (W : W0 K w Hb) (R : Rm A 8) (x : LF w Hb L p q s.heap m v2 v3 b) (hb : b ≤ 1000) {kvm : List (Int × Value)} (hmm : m "moves" = some (.ref dm)) (hm : ID w s.heap dm kvm) (hl1 : kvm.length ≤ 1000) (hF : Far L p dm) (h0 : Hb.get? dm = none) {Q : Flow → Shared → Prop}
    (hQ : ∀ h' tk k t, LF w Hb L p q h' m v2 v3 (b + 1) → (∀ a o, Far L p a → a ≠ dm → s.heap.get? a = some o → h'.get? a = some o) → 0 ≤ k → k < 9 → ID w h' dm (stored kvm k (.int 7 t)) → Q .next { s with heap := h', toks := tk }) :
    wpAny (model PP w) A (exec (lawStm 17) (LE L f cd)) Q NoE s := by
  obtain ⟨hd0, dp, frs, gds, un⟩ := A
  obtain rfl : hd0 = none := R.hh
  have KX := W.X
  have hn := x.ns
  have B1 := x.lg.keep
  have c1 := x.c1
  refine wpAny_Assign_Subscript ?_ rfl
  iterate 4 walk1
  refine callWith_fn W.draw ?_ rfl
  iterate 5 walk1
  refine ⟨B1, ?_⟩
  generalize hH : s.heap = H at *
  refine draw_spec (most := 9) W B1 (R.less (by decide)) x.pool x.fresh (by omega) (by decide) (by decide) fun k t h₁ tk₁ h0k h9 hp k1 => ?_
  have x1 := x.drawn hp k1
  have hm1 : ID w h₁ dm kvm := hm.at (k1 dm · hF.2.2.2.2)
  refine id_setItem hm1 hl1 fun h₂ hm2 k2 => ?_
  obtain ⟨od, hod, hoc⟩ := hm1.there
  have x2 := x1.dict hod hoc hF h0 k2
  exact hQ h₂ _ k _ x2 (fun a o h1 h2 e => k2 a o h2 (k1 a o h1.2.2.2.2 e)) h0k h9 hm2
end

section
variable {w : World} {A : Around} {s : Shared} {K : Frag}


set_option maxHeartbeats 2000000 in
theorem st18 {Hb : Heap} {L f p q : Addr} {cd : Value} {m : Str → Option Value} {v2 v3 : Option Value} {b : Nat} (W : W0 K w Hb) (R : Rm A 8) (x : LF w Hb L p q s.heap m v2 v3 b)
    {dm dk : Addr} {kvm kvk : List (Int × Value)} {ms : List (Int × Int)} (hmm : m "moves" = some (.ref dm)) (hmk : m "masks" = some (.ref dk)) (hm : ID w s.heap dm kvm) (hk : ID w s.heap dk kvk) (hi : Ints kvk ms) (hb : ∀ p ∈ ms, 0 ≤ p.2 ∧ p.2 < 512) (hlen : ms.length < 60) {Q : Flow → Shared → Prop}
    (hQ : ∀ fd h' tk kvf, LF w Hb L p q h' m v2 (some (.ref fd)) b → KpF L p s.heap h' → s.heap.get? fd = none → ID w h' fd kvf → kvf.map (·.1) = (clOf kvm ms).map (·.1) → Q .next { s with heap := h', toks := tk }) :
    wpAny (model PP w) A (exec (lawStm 18) (LE L f cd)) Q NoE s := by
  obtain ⟨hd0, dp, frs, gds, un⟩ := A
  obtain rfl : hd0 = none := R.hh
  have KX := W.X
  have hn := x.ns
  have B1 := x.lg.keep
  refine wpAny_Assign_Name ?_
  iterate 2 walk1
  refine callWith_fn W.clashes ?_ rfl
  iterate 5 walk1
  refine ⟨B1, ?_⟩
  refine clashes_cl (W.keeps B1) (R.less (by decide)) hm hk hi hb hlen fun fd h₁ tk₁ kvf k1 hD0 hID hT => ?_
  have x1 := x.keeps k1
  refine wpAny_storeName_cell rfl rfl rfl x1.c3 fun h₂ hc hs => ?_
  have k2 : ∀ a o, a ≠ L + 3 → h₁.get? a = some o → h₂.get? a = some o := keeps_of_same hs
  have hdF : Far L p fd := x.far_of_none hD0
  exact hQ fd h₂ _ kvf (x1.set3 hc k2) (fun a o ha e => k2 a o ha.2.2.2.1 (k1 _ _ e)) hD0 (hID.at (k2 fd · hdF.2.2.2.1)) hT.keys
end

section
variable {w : World} {A : Around} {s : Shared} {K : Frag}


set_option maxHeartbeats 4000000 in
theorem st19 {Hb : Heap} {L f p q fd fm : Addr} {cd : Value} {m : Str → Option Value} {v2 : Option Value} {b : Nat} (W : W0 K w Hb) (R : Rm A 8) (x : LF w Hb L p q s.heap m v2 (some (.ref fm)) b) {kvf kvg : List (Int × Value)} (hmf : m "found" = some (.ref fd)) (hf : ID w s.heap fd kvf) (hg : ID w s.heap fm kvg) (hl : kvf.length ≤ 1000)
    (hsub : ∀ k ∈ kvf.map (·.1), (valueAt kvg k).isSome = true) {Q : Flow → Shared → Prop}
    (hQ : ∀ h' tk, LF w Hb L p q h' m v2 (some (.ref fm)) b → (∀ a o, s.heap.get? a = some o → h'.get? a = some o) → Q .next { s with heap := h', toks := tk }) :
    wpAny (model PP w) A (exec (lawStm 19) (LE L f cd)) Q NoE s := by
  obtain ⟨hd0, dp, frs, gds, un⟩ := A
  obtain rfl : hd0 = none := R.hh
  have KX := W.X
  have hn := x.ns
  have B1 := x.lg.keep
  have hu : Around.units ⟨none, dp, frs, gds, un⟩ + 64 < cLine := by have := R.units; omega
  refine wpAny_If (wpAny_mono (Q := fun b s₂ => b = false ∧ ∃ h' tk, s₂ = { s with heap := h', toks := tk } ∧ ∀ a o, s.heap.get? a = some o → h'.get? a = some o) ?_ ?_ (fun _ _ e => e))
  · iterate 1 walk1
    refine ListComp_raw rfl (by decide +kernel) rfl (by decide +kernel) rfl (fun _ => rfl) ?_
    iterate 1 walk1
    obtain ⟨ep, hat⟩ := hf.1.dictAt
    refine wpAny_pyIter_dict hf.2 hat ?_
    generalize hH : s.heap = H at *
    have hfI : fd < H.objs.size := hf.lt
    have hps : (H.push { cls := .type "dict_keyiterator", data := .fields #[.ref fd, .int 0 0, .int kvf.length 0, .int ep 0] }).objs.size = H.objs.size + 1 := Heap.size_push ..
    have up : ∀ a o, H.get? a = some o → (H.push { cls := .type "dict_keyiterator", data := .fields #[.ref fd, .int 0 0, .int kvf.length 0, .int ep 0] }).get? a = some o := fun a o e => Heap.get?_push_of_some _ e
    refine ⟨H.objs.size, [H.objs.size, fd], kvf.length, _, _, rfl, Walks.dictKeys (knd := intKind PP w) rfl H.objs.size fd (Nat.ne_of_lt hfI) kvf ep, by rw [sizeLine_eq]; omega, ⟨⟨_, Heap.get?_push_size _ rfl, rfl, rfl⟩, hat.push _⟩, ?_,
      fun i ys h => (∀ b o, H.get? b = some o → h.get? b = some o) ∧ ys = [], ?_, ?_, ?_, ?_⟩
    · dsimp only; rw [hps]
      intro a ha
      rcases List.mem_cons.mp ha with rfl | ha
      · exact Nat.lt_succ_self _
      · rw [List.mem_singleton.mp ha]; exact Nat.lt_succ_of_lt hfI
    · exact ⟨up, rfl⟩
    · dsimp only; rw [hps]
      rintro i ys h h' ⟨a1, a2⟩ hkk
      refine ⟨fun a o e => hkk a o ?_ ?_ ?_ (a1 a o e), a2⟩
      · exact Nat.ne_of_lt (Heap.lt_size e)
      · exact Nat.ne_of_lt (Nat.lt_succ_of_lt (Heap.lt_size e))
      · exact Nat.ne_of_lt (Nat.lt_succ_of_lt (Nat.lt_succ_of_lt (Heap.lt_size e)))
    · dsimp only; rw [hps]
      rintro i v ys h tk m2 hlt ⟨k, y, hky, his⟩ hSt ⟨a1, rfl⟩ hn2 hm2' hsz
      obtain ⟨ut, rfl⟩ := Value.isInt_shape his
      have c33 := (x.keeps a1).c3
      have hin : (valueAt kvg k).isSome = true := hsub k (List.mem_map.mpr ⟨(k, y), List.mem_of_getElem? hky, rfl⟩)
      refine tests_one ?_
      iterate 3 walk1
      refine id_notIn (hg.keep a1) ?_
      rw [hin]
      iterate 2 walk1
      exact ⟨h, _, rfl, fun _ _ _ e => e, a1, rfl⟩
    · dsimp only
      rw [hps]
      rintro h tk ys ⟨a1, rfl⟩ hD h₃ k3
      have k03 : ∀ a o, H.get? a = some o → h₃.get? a = some o := fun a o e => k3 a o (Nat.ne_of_lt (Nat.lt_succ_of_lt (Nat.lt_succ_of_lt (Heap.lt_size e)))) (a1 a o e)
      have hD3 := k3 _ _ (Nat.ne_of_lt (Nat.lt_succ_self _)) hD
      iterate 2 walk1
      refine wpAny_newObj_type ?_
      have kA : ∀ a o, h₃.get? a = some o → (h₃.push { cls := .type "list", data := .seq ([] : List Value).toArray }).get? a = some o := fun a o e => Heap.get?_push_of_some _ e
      have oA := Heap.get?_push_size h₃ (o := { cls := .type "list", data := .seq ([] : List Value).toArray }) rfl
      have pn : PL 1 (.list []) := PL_list (fun y hy => by cases hy)
      refine cmp_ne (k := 1) (j := 1) (.list (kA _ _ hD3) rfl rfl .nil) (.list oA rfl rfl .nil) pn pn (by decide) (by decide) hu (fun _ => ?_) fun e0 => absurd rfl e0
      iterate 1 walk1
      exact ⟨rfl, _, _, rfl, fun a o e => kA _ _ (k03 a o e)⟩
  · rintro b s₂ ⟨rfl, h', tk, rfl, k⟩
    rw [if_neg (by decide)]
    exact wpAny_execs_nil (hQ h' tk (x.keeps k) k)
end

theorem lookL_add (cl : List (Int × List Int)) (t r u : Int) : lookL (addClaim cl t r) u = if u = t then lookL cl u ++ [r] else lookL cl u := by
  induction cl with
  | nil =>
    show lookL [(t, [r])] u = _
    rw [lookL_cons]
    by_cases e : t = u
    · rw [if_pos e, if_pos e.symm]; rfl
    · rw [if_neg e, if_neg (fun q => e q.symm)]
  | cons q l ih =>
    show lookL (if q.1 = t then (q.1, q.2 ++ [r]) :: l else q :: addClaim l t r) u = _
    by_cases e : q.1 = t
    · rw [if_pos e, lookL_cons, lookL_cons]
      by_cases c : q.1 = u
      · rw [if_pos c, if_pos c, if_pos (by omega)]
      · rw [if_neg c, if_neg c, if_neg (by omega)]
    · rw [if_neg e, lookL_cons, lookL_cons, ih]
      by_cases c : q.1 = u
      · rw [if_pos c, if_pos c, if_neg (by omega)]
      · rw [if_neg c, if_neg c]
theorem lookL_step (r u : Int) : ∀ (ts : List Int) (cl : List (Int × List Int)), ts.Nodup → lookL (ts.foldl (fun cl t => addClaim cl t r) cl) u = if u ∈ ts then lookL cl u ++ [r] else lookL cl u
  | [], cl, _ => by simp
  | t :: ts, cl, h => by
    have hn := List.nodup_cons.mp h
    show lookL (ts.foldl _ (addClaim cl t r)) u = _
    rw [lookL_step r u ts _ hn.2, lookL_add]
    by_cases e : u = t
    · subst e; rw [if_neg hn.1, if_pos rfl, if_pos (.head _)]
    · rw [if_neg e]; simp [e]
theorem mem_addKeys (cl : List (Int × List Int)) (t r u : Int) : u ∈ (addClaim cl t r).map (·.1) ↔ u ∈ cl.map (·.1) ∨ u = t := by
  rw [addClaim_keys]
  by_cases e : t ∈ cl.map (·.1)
  · rw [if_pos e]
    exact ⟨.inl, fun h => h.elim id fun q => q ▸ e⟩
  · rw [if_neg e, List.mem_append, List.mem_singleton]
theorem keys_step (r u : Int) : ∀ (ts : List Int) (cl : List (Int × List Int)), u ∈ (ts.foldl (fun cl t => addClaim cl t r) cl).map (·.1) ↔ u ∈ cl.map (·.1) ∨ u ∈ ts
  | [], cl => by simp
  | t :: ts, cl => by
    show u ∈ (ts.foldl _ (addClaim cl t r)).map (·.1) ↔ _
    rw [keys_step r u ts, mem_addKeys, List.mem_cons, or_assoc]
theorem bitsGo_asc : ∀ (f a l : Nat), (bitsGo f a l).Pairwise (· < ·)
  | 0, _, _ => .nil
  | f + 1, a, l => by
    unfold bitsGo
    split
    · exact .nil
    · split
      · exact List.Pairwise.cons (fun t ht => by have := bitsGo_in f (a + 1) (l / 2) t ht; omega) (bitsGo_asc f (a + 1) (l / 2))
      · exact bitsGo_asc f (a + 1) (l / 2)
theorem bitsGo_nodup (f a l : Nat) : (bitsGo f a l).Nodup := (bitsGo_asc f a l).imp fun h => by omega
theorem bitsGo_mem : ∀ (f a l : Nat) (k : Nat), ((a + k : Nat) : Int) ∈ bitsGo f a l ↔ k < f ∧ l.testBit k = true
  | 0, a, l, k => by simp [bitsGo]
  | f + 1, a, l, k => by
    unfold bitsGo
    by_cases h0 : l = 0
    · rw [if_pos h0, h0]; simp
    · rw [if_neg h0, List.mem_append]
      cases k with
      | zero =>
        have h1 : ¬ ((a + 0 : Nat) : Int) ∈ bitsGo f (a + 1) (l / 2) := fun h => by have := bitsGo_in f (a + 1) (l / 2) _ h; omega
        rw [Nat.testBit_zero]
        by_cases c : l % 2 = 1
        · simp [c]
        · simp [c]; simpa using h1
      | succ k =>
        have ih := bitsGo_mem f (a + 1) (l / 2) k
        rw [show a + (k + 1) = a + 1 + k by omega, ih, Nat.testBit_succ]
        have h1 : ¬ (((a + 1 + k : Nat) : Int) ∈ (if l % 2 = 1 then [(a : Int)] else [])) := by
          split
          · intro h; have := List.mem_singleton.mp h; omega
          · intro h; cases h
        constructor
        · rintro (h | h)
          · exact absurd h h1
          · exact ⟨by omega, h.2⟩
        · rintro ⟨h, h'⟩
          exact .inr ⟨by omega, h'⟩
/-- a bit of a mask -/
theorem bits_mem (n k : Nat) : (k : Int) ∈ bitsGo 10 0 n ↔ k < 10 ∧ n.testBit k = true := by
  have := bitsGo_mem 10 0 n k
  rwa [Nat.zero_add] at this

theorem claims_look (ms : List (Int × Int)) (u : Int) : ∀ (rules : List Int) (cl : List (Int × List Int)), lookL (rules.foldl (fun cl r => (bitsGo 10 0 (maskOf ms r)).foldl (fun cl t => addClaim cl t r) cl) cl) u = lookL cl u ++ rules.filter fun r => decide (u ∈ bitsGo 10 0 (maskOf ms r))
  | [], cl => by simp
  | r :: rules, cl => by
    show lookL (rules.foldl _ ((bitsGo 10 0 (maskOf ms r)).foldl _ cl)) u = _
    rw [claims_look ms u rules, lookL_step r u _ _ (bitsGo_nodup ..)]
    by_cases c : u ∈ bitsGo 10 0 (maskOf ms r)
    · rw [if_pos c, List.filter_cons_of_pos (by simpa using c)]; simp
    · rw [if_neg c, List.filter_cons_of_neg (by simpa using c)]
theorem claims_keys (ms : List (Int × Int)) (u : Int) : ∀ (rules : List Int) (cl : List (Int × List Int)), u ∈ (rules.foldl (fun cl r => (bitsGo 10 0 (maskOf ms r)).foldl (fun cl t => addClaim cl t r) cl) cl).map (·.1) ↔ u ∈ cl.map (·.1) ∨ ∃ r ∈ rules, u ∈ bitsGo 10 0 (maskOf ms r)
  | [], cl => by simp
  | r :: rules, cl => by
    show u ∈ (rules.foldl _ ((bitsGo 10 0 (maskOf ms r)).foldl _ cl)).map (·.1) ↔ _
    rw [claims_keys ms u rules, keys_step]
    simp [or_assoc]
theorem claimsOf_look (ms : List (Int × Int)) (rules : List Int) (u : Int) : lookL (claimsOf ms rules) u = rules.filter fun r => decide (u ∈ bitsGo 10 0 (maskOf ms r)) := by
  have := claims_look ms u rules []
  rw [show lookL [] u = [] from rfl, List.nil_append] at this
  exact this
theorem claimsOf_keys (ms : List (Int × Int)) (rules : List Int) (u : Int) : u ∈ (claimsOf ms rules).map (·.1) ↔ ∃ r ∈ rules, u ∈ bitsGo 10 0 (maskOf ms r) := by
  have := claims_keys ms u rules []
  rw [List.map_nil] at this
  exact this.trans ⟨fun h => h.elim (fun h => by cases h) id, .inr⟩

theorem srt_range (l : List Int) (hn : l.Nodup) (N : Nat) (hb : ∀ t ∈ l, 0 ≤ t ∧ t < (N : Int)) : srt l = ((List.range N).map fun (n : Nat) => (n : Int)).filter fun t => decide (t ∈ l) := by
  have hp : ((List.range N).map fun (n : Nat) => (n : Int)).Pairwise (· < ·) := List.pairwise_map.mpr (List.pairwise_lt_range.imp fun h => by omega)
  symm
  refine eq_srt ?_ (List.Pairwise.filter _ (hp.imp fun h => by omega))
  refine (List.perm_ext_iff_of_nodup (List.Pairwise.filter _ (hp.imp fun h => by omega)) hn).mpr fun t => ?_
  rw [List.mem_filter]
  constructor
  · rintro ⟨_, h⟩; simpa using h
  · intro h
    refine ⟨?_, by simpa using h⟩
    have := hb t h
    exact List.mem_map.mpr ⟨t.toNat, List.mem_range.mpr (by omega), by omega⟩
theorem foundOf_mem (mv : Int → Bool) (cl : List (Int × List Int)) (ts : List Int) (t : Int) : t ∈ (foundOf mv cl ts).map (·.1) ↔ t ∈ ts ∧ (1 < (lookL cl t).length ∨ mv t = true) := by
  unfold foundOf
  constructor
  · intro h
    obtain ⟨p, hp, rfl⟩ := List.mem_map.mp h
    obtain ⟨u, hu, e⟩ := List.mem_filterMap.mp hp
    split at e
    · rename_i c; cases e; exact ⟨hu, c⟩
    · cases e
  · rintro ⟨h, c⟩
    exact List.mem_map.mpr ⟨(t, lookL cl t), List.mem_filterMap.mpr ⟨t, h, by rw [if_pos c]⟩, rfl⟩

theorem due_found (mv : Int → Bool) (ms : List (Int × Int)) (ch : List (Int × List Int)) (ns : List Int) (hb : ∀ r ∈ ns, ∀ t : Nat, t < 9 → ((t : Int) ∈ bitsGo 10 0 (maskOf ms r) ↔ (t : Int) ∈ lookL ch r)) :
    ∀ n : Nat, n ≤ 9 → foundOf mv (claimsOf ms ns) (((List.range n).map fun (n : Nat) => (n : Int)).filter fun t => decide (t ∈ (claimsOf ms ns).map (·.1))) = dueTo mv ch ns n
  | 0, _ => rfl
  | n + 1, hn => by
    have ih := due_found mv ms ch ns hb n (by omega)
    have hl : lookL (claimsOf ms ns) (n : Int) = someOf ch ns (n : Int) := by
      rw [claimsOf_look]
      refine List.filter_congr fun r hr => ?_
      have := hb r hr n (by omega)
      simp only [this]
    have hk : ((n : Int) ∈ (claimsOf ms ns).map (·.1)) ↔ someOf ch ns (n : Int) ≠ [] := by
      rw [← hl, claimsOf_look, claimsOf_keys, Ne, List.filter_eq_nil_iff]
      constructor
      · rintro ⟨r, hr, h⟩ q
        exact q r hr (by simpa using h)
      · intro h
        apply Classical.byContradiction
        intro q
        exact h fun r hr c => q ⟨r, hr, by simpa using c⟩
    show _ = dueTo mv ch ns n ++ dueStep mv ch ns (n : Int)
    rw [List.range_succ, List.map_append, List.filter_append, ← ih]
    by_cases c : (n : Int) ∈ (claimsOf ms ns).map (·.1)
    · have e : List.filter (fun t => decide (t ∈ (claimsOf ms ns).map (·.1))) (List.map (fun (n : Nat) => (n : Int)) [n]) = [(n : Int)] := by
        rw [List.map_singleton, List.filter_cons_of_pos (by simpa using c)]; rfl
      rw [e, foundOf_snoc]
      congr 1
      unfold dueStep
      have c' := hk.mp c
      rw [hl]
      by_cases d : 1 < (someOf ch ns (n : Int)).length ∨ mv (n : Int) = true
      · rw [if_pos d, if_pos (d.imp id fun h => ⟨c', h⟩)]
      · rw [if_neg d, if_neg (fun h => d (h.imp id fun h => h.2))]
    · have e : List.filter (fun t => decide (t ∈ (claimsOf ms ns).map (·.1))) (List.map (fun (n : Nat) => (n : Int)) [n]) = [] := by
        rw [List.map_singleton, List.filter_cons_of_neg (by simpa using c)]; rfl
      have c' : someOf ch ns (n : Int) = [] := Classical.byContradiction fun q => c (hk.mpr q)
      rw [e, List.append_nil]
      unfold dueStep
      rw [c', if_neg (by simp), List.append_nil]

theorem filter_le {α : Type} {p q : α → Bool} : ∀ (l : List α), (∀ x ∈ l, p x = true → q x = true) → (l.filter p).length ≤ (l.filter q).length := fun l h => by
  rw [← List.countP_eq_length_filter, ← List.countP_eq_length_filter]
  exact List.countP_mono_left h

/-- more moves, more terminals: no clash is taken away -/
theorem found_mono (mv mv' : Int → Bool) (ms ms' : List (Int × Int)) (ns : List Int) (hmv : ∀ t, mv t = true → mv' t = true) (hb : ∀ r ∈ ns, ∀ t : Int, t ∈ bitsGo 10 0 (maskOf ms r) → t ∈ bitsGo 10 0 (maskOf ms' r)) (t : Int)
    (h : t ∈ (foundOf mv (claimsOf ms ns) (srt ((claimsOf ms ns).map (·.1)))).map (·.1)) : t ∈ (foundOf mv' (claimsOf ms' ns) (srt ((claimsOf ms' ns).map (·.1)))).map (·.1) := by
  rw [foundOf_mem, (srt_perm _).mem_iff, claimsOf_keys, claimsOf_look] at h ⊢
  obtain ⟨⟨r, hr, h1⟩, h2⟩ := h
  refine ⟨⟨r, hr, hb r hr t h1⟩, ?_⟩
  rcases h2 with h2 | h2
  · refine .inl (Nat.lt_of_lt_of_le h2 (filter_le ns fun r hr c => ?_))
    simpa using hb r hr t (by simpa using c)
  · exact .inr (hmv t h2)

-- sums of powers
theorem pow_sum : ∀ (l : List Int), l.Pairwise (· < ·) → (∀ t ∈ l, 0 ≤ t) → ∃ M : Nat, (l.map fun t => (2 : Int) ^ t.toNat).sum = (M : Int) ∧ (∀ y : Nat, (∀ t ∈ l, (y : Int) ≤ t) → ∃ a, M = 2 ^ y * a) ∧ ∀ k : Nat, M.testBit k = true ↔ (k : Int) ∈ l
  | [], _, _ => ⟨0, rfl, fun _ _ => ⟨0, rfl⟩, fun k => by simp⟩
  | t :: l, hp, h0 => by
    have hc := List.pairwise_cons.mp hp
    obtain ⟨M, h1, h2, h3⟩ := pow_sum l hc.2 fun u hu => h0 u (.tail _ hu)
    obtain ⟨x, rfl⟩ : ∃ x : Nat, t = x := ⟨t.toNat, by have := h0 t (.head _); omega⟩
    obtain ⟨a, rfl⟩ := h2 (x + 1) fun u hu => by have := hc.1 u hu; omega
    have hor : 2 ^ (x + 1) * a + 2 ^ x = 2 ^ (x + 1) * a ||| 2 ^ x := Nat.two_pow_add_eq_or_of_lt (Nat.pow_lt_pow_right (by decide) (Nat.lt_succ_self x)) a
    refine ⟨2 ^ (x + 1) * a + 2 ^ x, ?_, ?_, ?_⟩
    · rw [List.map_cons, List.sum_cons, h1, Int.toNat_natCast]
      push_cast
      omega
    · intro y hy
      have := hy _ (.head _)
      obtain ⟨d, rfl⟩ : ∃ d, x = y + d := ⟨x - y, by omega⟩
      refine ⟨2 ^ (d + 1) * a + 2 ^ d, ?_⟩
      rw [Nat.mul_add, ← Nat.mul_assoc, ← Nat.pow_add, ← Nat.pow_add]; rfl
    · intro k
      rw [hor, Nat.testBit_or, Nat.testBit_two_pow, Bool.or_eq_true, h3, List.mem_cons]
      constructor
      · rintro (h | h)
        · exact .inr h
        · have := of_decide_eq_true h
          exact .inl (by omega)
      · rintro (h | h)
        · exact .inr (decide_eq_true (by omega))
        · exact .inl h
theorem pow_sum9 {l : List Int} (hp : l.Pairwise (· < ·)) (h9 : ∀ t ∈ l, 0 ≤ t ∧ t < 9) : ∃ M : Nat, (l.map fun t => (2 : Int) ^ t.toNat).sum = (M : Int) ∧ M < 512 ∧ ∀ k : Nat, M.testBit k = true ↔ (k : Int) ∈ l := by
  obtain ⟨M, h1, _, h3⟩ := pow_sum l hp fun t ht => (h9 t ht).1
  refine ⟨M, h1, ?_, h3⟩
  refine Nat.lt_pow_two_of_testBit (n := 9) M fun i hi => ?_
  rw [← Bool.not_eq_true, h3]
  intro h; have := h9 _ h; omega
theorem bitOr_nat (n m : Nat) : Builtin.bitOr (n : Int) (m : Int) = ((n ||| m : Nat) : Int) := by
  rw [bitOr_and, bitAnd_pp (by omega) (by omega), Int.toNat_natCast, Int.toNat_natCast]
  have := nat_or_add_and n m
  omega

theorem srt_congr {l l' : List Int} (p : l.Perm l') : srt l = srt l' := eq_srt ((srt_perm l).trans p) (srt_sorted l)
theorem lookI_some {ms : List (Int × Int)} {r n : Int} (h : lookI ms r = some n) : (r, n) ∈ ms := by
  induction ms with
  | nil => cases h
  | cons q l ih =>
    rw [lookI_cons] at h
    by_cases e : q.1 = r
    · rw [if_pos e] at h; cases h; subst e; exact .head _
    · rw [if_neg e] at h; exact .tail _ (ih h)
theorem maskOf_lt {ms : List (Int × Int)} (h : ∀ p ∈ ms, 0 ≤ p.2 ∧ p.2 < 512) (r : Int) : maskOf ms r < 512 := by
  unfold maskOf
  cases e : lookI ms r with
  | none => decide
  | some n =>
    have := h _ (lookI_some e)
    show n.toNat < 512
    have h2 := this.2
    dsimp only at h2
    omega
theorem bits_nine {n : Nat} (h : n < 512) {t : Int} (ht : t ∈ bitsGo 10 0 n) : 0 ≤ t ∧ t < 9 := by
  have h1 := bitsGo_in 10 0 n t ht
  obtain ⟨k, rfl⟩ : ∃ k : Nat, t = k := ⟨t.toNat, by omega⟩
  have h2 := ((bits_mem n k).mp ht).2
  refine ⟨by omega, ?_⟩
  apply Classical.byContradiction
  intro q
  rw [Nat.testBit_lt_two_pow (Nat.lt_of_lt_of_le h (Nat.pow_le_pow_right (n := 2) (by decide) (show 9 ≤ k by omega)))] at h2
  cases h2
theorem claimsOf_nodup (ms : List (Int × Int)) (rules : List Int) : ((claimsOf ms rules).map (·.1)).Nodup := by
  have h1 : Small _ (claimsOf ms rules) := claims_small ms rules 0 [] ⟨⟨.nil, fun t ht => by cases ht⟩, fun p hp => by cases hp⟩
  exact h1.1.1

/-- what clashes tells is what is due -/
theorem clOf_due (kvm : List (Int × Value)) (ms : List (Int × Int)) (ch : List (Int × List Int)) (h5 : ∀ p ∈ ms, 0 ≤ p.2 ∧ p.2 < 512)
    (hb : ∀ r ∈ ms.map (·.1), ∀ t : Nat, t < 9 → ((t : Int) ∈ bitsGo 10 0 (maskOf ms r) ↔ (t : Int) ∈ lookL ch r)) :
    clOf kvm ms = dueTo (fun t => (valueAt kvm t).isSome) ch (srt (ms.map (·.1))) 9 := by
  unfold clOf
  rw [srt_range _ (claimsOf_nodup ms _) 9 ?_]
  · refine due_found _ ms ch _ (fun r hr => hb r ((srt_perm _).mem_iff.mp hr)) 9 (Nat.le_refl _)
  · intro t ht
    obtain ⟨r, _, h⟩ := (claimsOf_keys ms _ t).mp ht
    exact bits_nine (maskOf_lt h5 r) h

theorem lookI_map {f : Int → Int} {rs : List Int} {r : Int} (h : r ∈ rs) : lookI (rs.map fun r => (r, f r)) r = some (f r) := by
  induction rs with
  | nil => cases h
  | cons x l ih =>
    rw [List.map_cons, lookI_cons]
    by_cases e : x = r
    · subst e; exact if_pos rfl
    · rw [if_neg e]
      rcases List.mem_cons.mp h with q | q
      · exact absurd q.symm e
      · exact ih q

theorem ch_asc {N : Nat} {ch : List (Int × List Int)} (hch : ChOk N ch) {r : Int} (hr : r ∈ ch.map (·.1)) : Asc 9 (lookL ch r) := hch.2 _ (lookL_mem hr)

section
variable {N : Nat} {ch : List (Int × List Int)} {ms : List (Int × Int)} {rs : List Int}

theorem law_keys (hms : ms = rs.map fun r => (r, maskSum ch r)) : ms.map (·.1) = rs := by
  subst hms; rw [List.map_map]; exact (List.map_congr_left fun _ _ => rfl).trans (List.map_id _)
theorem law_bounds (hch : ChOk N ch) (hms : ms = rs.map fun r => (r, maskSum ch r)) (hrs : rs.Perm (ch.map (·.1))) : ∀ p ∈ ms, 0 ≤ p.2 ∧ p.2 < 512 := by
  intro p hp
  subst hms
  obtain ⟨r, hr, rfl⟩ := List.mem_map.mp hp
  obtain ⟨M, h1, h2, _⟩ := pow_sum9 (ch_asc hch (hrs.mem_iff.mp hr)).1 (ch_asc hch (hrs.mem_iff.mp hr)).2
  show 0 ≤ maskSum ch r ∧ maskSum ch r < 512
  unfold maskSum
  rw [h1]; omega
theorem law_len (hch : ChOk N ch) (hms : ms = rs.map fun r => (r, maskSum ch r)) (hrs : rs.Perm (ch.map (·.1))) : ms.length = N := by
  have h1 := hrs.length_eq
  have h2 := congrArg List.length hch.1
  simp only [List.length_map, List.length_range] at h1 h2
  rw [hms, List.length_map]; omega
theorem law_one (hch : ChOk N ch) (hms : ms = rs.map fun r => (r, maskSum ch r)) (hrs : rs.Perm (ch.map (·.1))) (kvm : List (Int × Value)) :
    clOf kvm ms = dueTo (fun t => (valueAt kvm t).isSome) ch (srt (ch.map (·.1))) 9 := by
  have hk := law_keys hms
  rw [clOf_due kvm ms ch (law_bounds hch hms hrs) ?_, hk, srt_congr hrs]
  intro r hr t ht
  rw [hk] at hr
  obtain ⟨M, h1, h2, h3⟩ := pow_sum9 (ch_asc hch (hrs.mem_iff.mp hr)).1 (ch_asc hch (hrs.mem_iff.mp hr)).2
  have hm : maskOf ms r = M := by
    unfold maskOf
    rw [hms, lookI_map hr]
    show (maskSum ch r).toNat = M
    unfold maskSum
    rw [h1]; rfl
  rw [hm, bits_mem, h3]
  exact ⟨fun h => h.2, fun h => ⟨by omega, h⟩⟩

theorem lookI_256 {ms : List (Int × Int)} {r : Int} (h : r ∈ ms.map (·.1)) : lookI (ms.map fun p => (p.1, 256)) r = some 256 := by
  induction ms with
  | nil => cases h
  | cons q l ih =>
    rw [List.map_cons, lookI_cons]
    by_cases e : q.1 = r
    · exact if_pos e
    · rw [if_neg e]
      rcases List.mem_cons.mp h with c | c
      · exact absurd c.symm e
      · exact ih c
theorem lookL_8 {ms : List (Int × Int)} {r : Int} (h : r ∈ ms.map (·.1)) : lookL (ms.map fun p => (p.1, [(8 : Int)])) r = [8] := by
  induction ms with
  | nil => cases h
  | cons q l ih =>
    rw [List.map_cons, lookL_cons]
    by_cases e : q.1 = r
    · exact if_pos e
    · rw [if_neg e]
      rcases List.mem_cons.mp h with c | c
      · exact absurd c.symm e
      · exact ih c
theorem keys_256 (ms : List (Int × Int)) (v : Int) : (ms.map fun p => (p.1, v)).map (·.1) = ms.map (·.1) := by
  rw [List.map_map]; rfl
theorem law_two (ms : List (Int × Int)) (kvm : List (Int × Value)) :
    clOf kvm (ms.map fun p => (p.1, 256)) = dueTo (fun t => (valueAt kvm t).isSome) (ms.map fun p => (p.1, [8])) (srt (ms.map (·.1))) 9 := by
  rw [clOf_due kvm (ms.map fun p => (p.1, 256)) (ms.map fun p => (p.1, [8])) ?_ ?_, keys_256]
  · intro p hp
    obtain ⟨q, _, rfl⟩ := List.mem_map.mp hp
    show (0 : Int) ≤ 256 ∧ (256 : Int) < 512
    decide
  · intro r hr t ht
    rw [keys_256] at hr
    rw [lookL_8 hr]
    have hm : maskOf (ms.map fun p => (p.1, 256)) r = 256 := by
      unfold maskOf; rw [lookI_256 hr]; rfl
    rw [hm, show bitsGo 10 0 256 = [8] by decide]
theorem clOf_nil (kvm : List (Int × Value)) : clOf kvm [] = [] := by
  have h := clOf_due kvm [] [] (fun p hp => by cases hp) (fun r hr => by cases hr)
  rw [h]
  have hs : srt (([] : List (Int × Int)).map (·.1)) = [] := List.Perm.eq_nil (srt_perm _)
  rw [hs]; rfl

theorem updI_keys (ms : List (Int × Int)) (r v : Int) : (updI ms r v).map (·.1) = ms.map (·.1) := by
  unfold updI
  rw [List.map_map]
  refine List.map_congr_left fun p _ => ?_
  show (if p.1 = r then (p.1, v) else p).1 = p.1
  split <;> rfl
theorem lookI_upd (ms : List (Int × Int)) (r v x : Int) : lookI (updI ms r v) x = if x = r then (lookI ms x).map (fun _ => v) else lookI ms x := by
  induction ms with
  | nil => unfold updI lookI; simp
  | cons q l ih =>
    show lookI ((if q.1 = r then (q.1, v) else q) :: updI l r v) x = _
    rw [lookI_cons, lookI_cons, ih]
    by_cases e : q.1 = r <;> by_cases c : q.1 = x <;> by_cases d : x = r <;> simp_all <;> omega
theorem bits_or {n : Int} (hn : 0 ≤ n ∧ n < 512) {t : Int} (ht : 0 ≤ t ∧ t < 9) : ∃ M : Nat, Builtin.bitOr n ((2 : Int) ^ t.toNat) = (M : Int) ∧ M < 512 ∧ ∀ u : Int, u ∈ bitsGo 10 0 n.toNat → u ∈ bitsGo 10 0 M := by
  obtain ⟨a, rfl⟩ : ∃ a : Nat, n = a := ⟨n.toNat, by omega⟩
  obtain ⟨k, rfl⟩ : ∃ k : Nat, t = k := ⟨t.toNat, by omega⟩
  refine ⟨a ||| 2 ^ k, ?_, ?_, ?_⟩
  · rw [Int.toNat_natCast, ← bitOr_nat]; push_cast; rfl
  · exact Nat.or_lt_two_pow (n := 9) (by omega) (Nat.pow_lt_pow_right (by decide) (by omega))
  · intro u hu
    have h1 := bitsGo_in 10 0 _ u hu
    obtain ⟨j, rfl⟩ : ∃ j : Nat, u = j := ⟨u.toNat, by omega⟩
    rw [Int.toNat_natCast, bits_mem] at hu
    rw [bits_mem, Nat.testBit_or, hu.2, Bool.true_or]
    exact ⟨hu.1, rfl⟩

/-- the grown masks -/
def Grown (ms ms' : List (Int × Int)) : Prop := ms' = ms ∨ ∃ r n t : Int, lookI ms r = some n ∧ r ∈ ms.map (·.1) ∧ 0 ≤ t ∧ t < 9 ∧ ms' = updI ms r (Builtin.bitOr n ((2 : Int) ^ t.toNat))
theorem Grown.keys {ms ms' : List (Int × Int)} (x : Grown ms ms') : ms'.map (·.1) = ms.map (·.1) := by
  rcases x with rfl | ⟨r, n, t, _, _, _, _, rfl⟩
  · rfl
  · exact updI_keys ..
theorem Grown.len {ms ms' : List (Int × Int)} (x : Grown ms ms') : ms'.length = ms.length := by
  have := congrArg List.length x.keys
  simpa using this
theorem Grown.bounds {ms ms' : List (Int × Int)} (x : Grown ms ms') (h : ∀ p ∈ ms, 0 ≤ p.2 ∧ p.2 < 512) : ∀ p ∈ ms', 0 ≤ p.2 ∧ p.2 < 512 := by
  rcases x with rfl | ⟨r, n, t, h1, h2, h3, h4, rfl⟩
  · exact h
  · intro p hp
    obtain ⟨q, hq, rfl⟩ := List.mem_map.mp hp
    obtain ⟨M, e, hM, _⟩ := bits_or (h _ (lookI_some h1)) ⟨h3, h4⟩
    by_cases c : q.1 = r
    · rw [if_pos c, e]
      show (0 : Int) ≤ (M : Int) ∧ (M : Int) < 512
      omega
    · rw [if_neg c]; exact h q hq
theorem Grown.bits {ms ms' : List (Int × Int)} (x : Grown ms ms') (h : ∀ p ∈ ms, 0 ≤ p.2 ∧ p.2 < 512) (y : Int) (u : Int) (hu : u ∈ bitsGo 10 0 (maskOf ms y)) : u ∈ bitsGo 10 0 (maskOf ms' y) := by
  rcases x with rfl | ⟨r, n, t, h1, h2, h3, h4, rfl⟩
  · exact hu
  · obtain ⟨M, e, hM, hk⟩ := bits_or (h _ (lookI_some h1)) ⟨h3, h4⟩
    unfold maskOf at hu ⊢
    rw [lookI_upd]
    by_cases c : y = r
    · subst c
      rw [if_pos rfl, h1, e]
      rw [h1] at hu
      exact hk u hu
    · rw [if_neg c]; exact hu
theorem clOf_mono {ms ms' : List (Int × Int)} (x : Grown ms ms') (h : ∀ p ∈ ms, 0 ≤ p.2 ∧ p.2 < 512) {kvm kvm' : List (Int × Value)} (hkv : ∀ t, (valueAt kvm t).isSome = true → (valueAt kvm' t).isSome = true) :
    ∀ k ∈ (clOf kvm ms).map (·.1), k ∈ (clOf kvm' ms').map (·.1) := by
  intro k hk
  unfold clOf at hk ⊢
  rw [x.keys]
  exact found_mono _ _ ms ms' _ hkv (fun r _ => x.bits h r) k hk
theorem isSome_of_key {kvs : List (Int × Value)} {k : Int} (h : k ∈ kvs.map (·.1)) : (valueAt kvs k).isSome = true := by
  cases e : valueAt kvs k with
  | some _ => rfl
  | none => exact absurd h (valueAt_none e)
theorem stored_grows (kvm : List (Int × Value)) (k : Int) (v : Value) (t : Int) (h : (valueAt kvm t).isSome = true) : (valueAt (stored kvm k v) t).isSome = true := by
  have hk : t ∈ kvm.map (·.1) := Classical.byContradiction fun q => by rw [valueAt_absent q] at h; cases h
  refine isSome_of_key ?_
  unfold stored
  obtain ⟨p, hp, rfl⟩ := List.mem_map.mp hk
  split
  · refine List.mem_map.mpr ⟨if p.1 = k then (p.1, v) else p, List.mem_map.mpr ⟨p, hp, rfl⟩, ?_⟩
    split <;> rfl
  · exact List.mem_map.mpr ⟨p, List.mem_append.mpr (.inl hp), rfl⟩
end

theorem srt_one (x : Int) : srt [x] = [x] := (eq_srt (.refl _) (by simp)).symm
theorem cl_full (kvm : List (Int × Value)) : clOf kvm [(3, 511)] = dueTo (fun t => (valueAt kvm t).isSome) [(3, [0, 1, 2, 3, 4, 5, 6, 7, 8])] [3] 9 := by
  rw [clOf_due kvm [(3, 511)] [(3, [0, 1, 2, 3, 4, 5, 6, 7, 8])] (by decide) (by decide +kernel)]
  show dueTo _ _ (srt [3]) 9 = _
  rw [srt_one]
theorem cl_none : clOf [] [(3, 511)] = [] := by
  rw [cl_full, show (fun (t : Int) => (valueAt ([] : List (Int × Value)) t).isSome) = fun _ => false from funext fun _ => rfl]
  decide +kernel
theorem cl_four (v : Value) : clOf [(4, v)] [(3, 511)] = [(4, [3])] := by
  rw [cl_full, show (fun (t : Int) => (valueAt [((4 : Int), v)] t).isSome) = fun t => decide (4 = t) from funext fun t => by
    rw [valueAt_cons]
    by_cases e : (4 : Int) = t
    · rw [if_pos e]; simp [e]
    · rw [if_neg e, decide_eq_false e]; rfl]
  decide +kernel
theorem TVals.nil_of {h : Heap} {lo : Addr} {kvs} (x : TVals h lo kvs []) : kvs = [] := List.eq_nil_of_length_eq_zero x.len
theorem TVals.one_of {h : Heap} {lo : Addr} {kvs t rs} (x : TVals h lo kvs [(t, rs)]) : ∃ a vs n, kvs = [(t, .ref a)] ∧ h.get? a = some { cls := .type "tuple", data := .seq vs.toArray n } ∧ IntsAre vs rs := by
  cases x with
  | cons _ h2 h3 h4 => exact ⟨_, _, _, by rw [h4.nil_of], h2, h3⟩

theorem star_dict {k : List (Option Expr)} {v : List Expr} {pos : Pos} {rest : List Expr} {env : Env} : starEach (.Dict k v pos :: rest) env = (false, eval (.Dict k v pos) env) :: starEach rest env := rfl
section
variable {w : World} {A : Around} {E : Value → Shared → Prop} {s : Shared} {env : Env}
theorem callWith_fnD {h₀ : Heap} {f : Addr} {q : Str} {d : DefD} {pos pd : Pos} {k : List (Option Expr)} {v : List Expr} {rest : List Expr} {T : List (Bool × Sem Value)} {Q : Value → Shared → Prop} (hf : IsFn h₀ f q d) (hT : starEach (.Dict k v pd :: rest) env = T)
    (h : wpAny (model PP w) A (spliced (backTo pos T)) (fun vs s₁ => (∀ b o, h₀.get? b = some o → s₁.heap.get? b = some o) ∧ wpAny (model PP w) A (call (.ref f) vs) Q E s₁) E s) :
    wpAny (model PP w) A (callWith pos (.ref f) [] (backTo pos T) []) Q E s := by
  subst hT
  exact callWith_fn hf h star_dict
theorem mk0 {T : Sem Value} {pos : Pos} {Q : Value → Shared → Prop} (hT : eval (.Dict [] [] pos) env = T) (hb : 1 < s.heap.objs.size)
    (h : ∀ D h₁, ID w h₁ D [] → (∀ a o, s.heap.get? a = some o → h₁.get? a = some o) → 1 < h₁.objs.size → Q (.ref D) { s with heap := h₁ }) :
    wpAny (model PP w) A T Q E s := by
  subst hT
  exact wpAny_Dict_empty (h _ _ (ID.new hb) (fun _ _ e => Heap.get?_push_of_some _ e) (Nat.lt_trans hb (ID.new (w := w) hb).lt))
theorem mk1 {T : Sem Value} {k v : Int} {kp vp pos : Pos} {Q : Value → Shared → Prop} (hT : eval (.Dict [some (.Constant (.int k) 0 kp)] [.Constant (.int v) 0 vp] pos) env = T) (hb : 1 < s.heap.objs.size)
    (h : ∀ D h₁ tk t, ID w h₁ D [(k, .int v t)] → (∀ a o, s.heap.get? a = some o → h₁.get? a = some o) → 1 < h₁.objs.size → Q (.ref D) { s with heap := h₁, toks := tk }) :
    wpAny (model PP w) A T Q E s := by
  subst hT
  generalize hve : Expr.Constant (.int v) 0 vp = ve
  generalize hke : Expr.Constant (.int k) 0 kp = ke
  refine id_dict1 hb ?_
  subst hke
  refine wpAny_Constant_int ?_
  subst hve
  refine wpAny_Constant_int ?_
  refine ⟨_, _, rfl, ID.new hb, fun h₁ d1 k1' => ?_⟩
  have k1 : ∀ a o, s.heap.get? a = some o → h₁.get? a = some o := fun a o e => k1' a o (Nat.ne_of_lt (Heap.lt_size e)) (Heap.get?_push_of_some _ e)
  exact h _ _ _ _ d1 k1 (Nat.lt_trans hb d1.lt)
theorem star_const {i : Int} {kp : Pos} {rest : List Expr} : starEach (.Constant (.int i) 0 kp :: rest) env = (false, eval (.Constant (.int i) 0 kp) env) :: starEach rest env := rfl
theorem tup1 {v : Int} {vp tp : Pos} {Q : Value → Shared → Prop} (h : Q (.ref s.heap.objs.size) { s with heap := s.heap.push { cls := .type "tuple", data := .seq [Value.int v s.toks].toArray }, toks := s.toks + 1 }) :
    wpAny (model PP w) A (eval (.Tuple [.Constant (.int v) 0 vp] 0 tp) env) Q E s := by
  refine Tuple_ ?_
  refine spliced_more ?_ star_const
  refine wpAny_Constant_int ?_
  refine spliced_none ?_
  exact wpAny_newTuple h (by show 1 ≤ sizeLine; decide)
theorem mk1t {T : Sem Value} {k v : Int} {kp vp tp pos : Pos} {Q : Value → Shared → Prop} (hT : eval (.Dict [some (.Constant (.int k) 0 kp)] [.Tuple [.Constant (.int v) 0 vp] 0 tp] pos) env = T) (hb : 1 < s.heap.objs.size)
    (h : ∀ D h₁ tk ta vs n, ID w h₁ D [(k, .ref ta)] → h₁.get? ta = some { cls := .type "tuple", data := .seq vs.toArray n } → IntsAre vs [v] → (∀ a o, s.heap.get? a = some o → h₁.get? a = some o) → Q (.ref D) { s with heap := h₁, toks := tk }) :
    wpAny (model PP w) A T Q E s := by
  subst hT
  generalize hve : Expr.Tuple [.Constant (.int v) 0 vp] 0 tp = ve
  generalize hke : Expr.Constant (.int k) 0 kp = ke
  refine id_dict1 hb ?_
  subst hke
  refine wpAny_Constant_int ?_
  subst hve
  refine tup1 ?_
  dsimp only
  have d0 : ID w (s.heap.push { cls := .type "dict", data := .dict #[] }) s.heap.objs.size [] := ID.new hb
  have k0 : ∀ a o, s.heap.get? a = some o → (s.heap.push { cls := .type "dict", data := .dict #[] }).get? a = some o := fun _ _ e => Heap.get?_push_of_some _ e
  generalize s.heap.push { cls := .type "dict", data := .dict #[] } = g at *
  have oT := Heap.get?_push_size g (o := { cls := .type "tuple", data := .seq [Value.int v (s.toks + 1)].toArray }) rfl
  have kT : ∀ a o, g.get? a = some o → (g.push { cls := .type "tuple", data := .seq [Value.int v (s.toks + 1)].toArray }).get? a = some o := fun _ _ e => Heap.get?_push_of_some _ e
  have hDg : s.heap.objs.size < g.objs.size := d0.lt
  refine ⟨_, _, rfl, d0.keep kT, fun h' d1 k1 => ?_⟩
  refine h _ _ _ _ _ _ d1 (k1 _ _ (Nat.ne_of_gt hDg) oT) (.cons v _ .nil) fun a o e => k1 a o (Nat.ne_of_lt (Heap.lt_size e)) (kT a o (k0 a o e))
end

section
variable {w : World} {A : Around} {s : Shared} {K : Frag}

set_option maxHeartbeats 4000000 in
theorem st20 {Hb : Heap} {L f p q dm : Addr} {cd : Value} {m : Str → Option Value} {v2 v3 : Option Value} {b : Nat} (W : W0 K w Hb) (R : Rm A 8) (x : LF w Hb L p q s.heap m v2 v3 b) {kvm : List (Int × Value)} (hmm : m "moves" = some (.ref dm)) (hm : ID w s.heap dm kvm) {Q : Flow → Shared → Prop}
    (hQ : ∀ h' tk, (∀ a o, Hb.get? a = some o → h'.get? a = some o) → Q (.ret (.bool true)) { s with heap := h', toks := tk }) :
    wpAny (model PP w) A (exec (lawStm 20) (LE L f cd)) Q NoE s := by
  obtain ⟨hd0, dp, frs, gds, un⟩ := A
  obtain rfl : hd0 = none := R.hh
  have KX := W.X
  have hn := x.ns
  have B1 := x.lg.keep
  have hu : Around.units ⟨none, dp, frs, gds, un⟩ + 80 < cLine := by have := R.units; omega
  have hbig : 1 < s.heap.objs.size := Nat.lt_trans (Nat.lt_of_lt_of_le (by decide) (Nat.le_add_left 3 L)) x.lg.lsz
  refine wpAny_Return_some ?_
  iterate 4 walk1
  generalize hT : starEach _ (LE L f cd) = T
  refine callWith_fnD W.clashes hT ?_
  subst hT
  iterate 1 walk1
  generalize hT : eval _ (LE L f cd) = T
  refine mk0 hT hbig fun D1 h₁ d1 k1 z1 => ?_
  clear hT T
  iterate 1 walk1
  generalize hT : eval _ (LE L f cd) = T
  refine mk1 hT z1 fun D2 h₂ tk₂ t₂ d2 k2 z2 => ?_
  clear hT T
  iterate 1 walk1
  have k02 : ∀ a o, s.heap.get? a = some o → h₂.get? a = some o := fun a o e => k2 a o (k1 a o e)
  have B2 : ∀ a o, Hb.get? a = some o → h₂.get? a = some o := fun a o e => k02 a o (B1 a o e)
  refine ⟨B2, ?_⟩
  refine clashes_cl (W.keeps B2) (R.less (by decide)) (d1.keep k2) d2 (.cons 3 511 _ .nil) (by decide) (by decide) fun fd h₃ tk₃ kvf k3 hD0 hID hT => ?_
  rw [cl_none] at hT
  obtain rfl := hT.nil_of
  have k03 : ∀ a o, s.heap.get? a = some o → h₃.get? a = some o := fun a o e => k3 a o (k02 a o e)
  have z3 : 1 < h₃.objs.size := Nat.lt_trans (by decide) (big_of (W.keeps fun a o e => k03 a o (B1 a o e)))
  dsimp only
  generalize hT : eval _ (LE L f cd) = T
  refine mk0 hT z3 fun D3 g d3 k4 _ => ?_
  clear hT T
  refine id_eq_nil (hID.keep k4) d3 (by omega) ?_
  iterate 2 walk1
  have k1g : ∀ a o, s.heap.get? a = some o → g.get? a = some o := fun a o e => k4 a o (k03 a o e)
  dsimp only
  clear d3 hID hD0 hT k4 z3 k03 k3 d2 B2 k02 d1 z2 k2 z1 k1
  have Bg : ∀ a o, Hb.get? a = some o → g.get? a = some o := fun a o e => k1g a o (B1 a o e)
  have zg : 1 < g.objs.size := Nat.lt_trans (by decide) (big_of (W.keeps Bg))
  clear D1 h₁ D2 h₂ tk₂ t₂ fd h₃ D3
  iterate 4 walk1
  generalize hT : starEach _ (LE L f cd) = T
  refine callWith_fnD W.clashes hT ?_
  subst hT
  iterate 1 walk1
  generalize hT : eval _ (LE L f cd) = T
  refine mk1 hT zg fun D1 h₁ tk₁ t₁ d1 k1 z1 => ?_
  clear hT T
  iterate 1 walk1
  generalize hT : eval _ (LE L f cd) = T
  refine mk1 hT z1 fun D2 h₂ tk₂ t₂ d2 k2 z2 => ?_
  clear hT T
  iterate 1 walk1
  have k02 : ∀ a o, g.get? a = some o → h₂.get? a = some o := fun a o e => k2 a o (k1 a o e)
  have B2 : ∀ a o, Hb.get? a = some o → h₂.get? a = some o := fun a o e => k02 a o (Bg a o e)
  refine ⟨B2, ?_⟩
  refine clashes_cl (W.keeps B2) (R.less (by decide)) (d1.keep k2) d2 (.cons 3 511 _ .nil) (by decide) (by decide) fun fd h₃ tk₃ kvf k3 hD0 hID hT => ?_
  rw [cl_four] at hT
  obtain ⟨ta, tvs, tn, rfl, hto, hti⟩ := hT.one_of
  have k03 : ∀ a o, g.get? a = some o → h₃.get? a = some o := fun a o e => k3 a o (k02 a o e)
  have z3 : 1 < h₃.objs.size := Nat.lt_trans (by decide) (big_of (W.keeps fun a o e => k03 a o (Bg a o e)))
  dsimp only
  generalize hT : eval _ (LE L f cd) = T
  refine mk1t hT z3 fun D3 g' tk₄ tb us un' d3 hto' hti' k4 => ?_
  clear hT T
  have ra : Reads g' (.ref ta) (.tuple [.int 3]) [] := .tuple (k4 _ _ hto) rfl rfl (RLs_reads (RLs_ints (h := g') (P := fun _ => True) hti))
  have rb : Reads g' (.ref tb) (.tuple [.int 3]) [] := .tuple hto' rfl rfl (RLs_reads (RLs_ints (h := g') (P := fun _ => True) hti'))
  refine id_eq_one (hID.keep k4) d3 ra rb (j := 1) (.inr (.inl ⟨_, rfl, PL_ints [3]⟩)) (by decide) hu ?_
  iterate 2 walk1
  dsimp only
  have kg : ∀ a o, s.heap.get? a = some o → g'.get? a = some o := fun a o e => k4 a o (k03 a o (k1g a o e))
  have x5 := x.keeps kg
  have hn := x5.ns
  have B5 : ∀ a o, Hb.get? a = some o → g'.get? a = some o := fun a o e => kg a o (B1 a o e)
  have hm5 := hm.keep kg
  have z5 : 1 < g'.objs.size := Nat.lt_trans (by decide) (big_of (W.keeps B5))
  clear ra rb d3 hti' hto' hti hto hID hD0 hT k4 z3 k03 k3 d2 B2 k02 d1 z2 k2 z1 k1 zg Bg k1g kg
  iterate 4 walk1
  refine callWith_fn W.clashes ?_ rfl
  iterate 3 walk1
  generalize hT : eval _ (LE L f cd) = T
  refine mk0 hT z5 fun D1 h₁ d1 k1 z1 => ?_
  clear hT T
  iterate 1 walk1
  have B6 : ∀ a o, Hb.get? a = some o → h₁.get? a = some o := fun a o e => k1 a o (B5 a o e)
  refine ⟨B6, ?_⟩
  refine clashes_cl (W.keeps B6) (R.less (by decide)) (hm5.keep k1) d1 .nil (fun _ h => by cases h) (by decide) fun fd h₃ tk₃ kvf k3 hD0 hID hT => ?_
  rw [clOf_nil] at hT
  obtain rfl := hT.nil_of
  have z3 : 1 < h₃.objs.size := Nat.lt_trans (by decide) (big_of (W.keeps fun a o e => k3 a o (B6 a o e)))
  dsimp only
  generalize hT : eval _ (LE L f cd) = T
  refine mk0 hT z3 fun D3 g'' d3 k4 _ => ?_
  clear hT T
  refine id_eq_nil (hID.keep k4) d3 (by omega) ?_
  exact hQ _ _ fun a o e => k4 a o (k3 a o (B6 a o e))
end

end Mine
end

section
open PySem PySem.W PyProof.Rows PySem.Calls
namespace Mine
section
variable {w : World} {A : Around} {s : Shared} {K : Frag}


theorem seq {i : Nat} {rest : List Stmt} {L f : Addr} {cd : Value} {Q : Flow → Shared → Prop}
    (h : wpAny (model PP w) A (exec (lawStm i) (LE L f cd)) (fun fl s' => match fl with | .next => wpAny (model PP w) A (execs rest (LE L f cd)) Q NoE s' | fl => Q fl s') NoE s) :
    wpAny (model PP w) A (execs (lawStm i :: rest) (LE L f cd)) Q NoE s := wpAny_execs_cons h

/-- the three dicts of the law as they stand -/
structure Core (w : World) (Hb : Heap) (L p c dm dk N : Nat) (kvc : List (Int × Value)) (ch : List (Int × List Int)) (as : List Addr) (kvm kvk : List (Int × Value)) (h : Heap) (m : Str → Option Value) : Prop where
  many : ∃ tn, m "many" = some (.int N tn)
  mm : m "moves" = some (.ref dm)
  mkk : m "masks" = some (.ref dk)
  hc : ID w h c kvc
  hcF : Far L p c
  hcl : CLs h ch kvc as
  has : ∀ a ∈ as, Far L p a
  hm : ID w h dm kvm
  hmF : Far L p dm
  hm0 : Hb.get? dm = none
  hk : ID w h dk kvk
  hkF : Far L p dk
  hk0 : Hb.get? dk = none

theorem Core.kp {w : World} {Hb h h' : Heap} {L p c dm dk N : Nat} {kvc : List (Int × Value)} {ch : List (Int × List Int)} {as : List Addr} {kvm kvk : List (Int × Value)} {m m' : Str → Option Value} (x : Core w Hb L p c dm dk N kvc ch as kvm kvk h m)
    (k : KpF L p h h') (h1 : m' "many" = m "many") (h2 : m' "moves" = m "moves") (h3 : m' "masks" = m "masks") : Core w Hb L p c dm dk N kvc ch as kvm kvk h' m' where
  many := h1 ▸ x.many
  mm := h2.trans x.mm
  mkk := h3.trans x.mkk
  hc := x.hc.at (k c · x.hcF)
  hcF := x.hcF
  hcl := x.hcl.at fun a ha o => k a o (x.has a ha)
  has := x.has
  hm := x.hm.at (k dm · x.hmF)
  hmF := x.hmF
  hm0 := x.hm0
  hk := x.hk.at (k dk · x.hkF)
  hkF := x.hkF
  hk0 := x.hk0

set_option maxHeartbeats 4000000 in
theorem partC {Hb : Heap} {L f p q c dm dk fd : Addr} {N : Nat} {cd : Value} {m : Str → Option Value} {v3 : Option Value} {b : Nat} {kvc kvm kvk kvf : List (Int × Value)} {ch : List (Int × List Int)} {as : List Addr} {ms : List (Int × Int)} {rs : List Int}
    (W : W0 K w Hb) (R : Rm A 8) (x : LF w Hb L p q s.heap m (some (.ref c)) v3 b) (hb : b ≤ 500) (hN : N < 5) (C : Core w Hb L p c dm dk N kvc ch as kvm kvk s.heap m) (hch : ChOk N ch) (hik : Ints kvk ms) (hms : ms = rs.map fun r => (r, maskSum ch r)) (hrs : rs.Perm (ch.map (·.1)))
    (hl1 : kvm.length ≤ 900) (hmf : m "found" = some (.ref fd)) (hf : ID w s.heap fd kvf) (hfF : Far L p fd) (hfk : kvf.map (·.1) = (clOf kvm ms).map (·.1)) (n1 : dm ≠ dk) (n2 : fd ≠ dk) (n3 : fd ≠ dm) {Q : Flow → Shared → Prop}
    (hQ : ∀ h' tk, (∀ a o, Hb.get? a = some o → h'.get? a = some o) → Q (.ret (.bool true)) { s with heap := h', toks := tk }) :
    wpAny (model PP w) A (execs (lawStm 16 :: lawStm 17 :: lawStm 18 :: lawStm 19 :: [lawStm 20]) (LE L f cd)) Q NoE s := by
  obtain ⟨tn, hmn⟩ := C.many
  have hbd := law_bounds hch hms hrs
  have hln := law_len hch hms hrs
  have hkl : kvk.length = ms.length := hik.length
  have hkeys : ∀ k, k ∈ ms.map (·.1) ↔ k ∈ ch.map (·.1) := fun k => by rw [law_keys hms]; exact hrs.mem_iff
  refine seq (st16 W R x (by omega) hN hmn C.mkk C.hc C.hcl hch C.hk hik (by omega) C.hkF C.hk0 hkeys fun h1 tk1 m1 kvk' ms' x1 hm1 k1 hk1 hik1 hgr => ?_)
  have G : Grown ms ms' := hgr
  have hmm1 : m1 "moves" = some (.ref dm) := (hm1 _ (by decide)).trans C.mm
  have hmk1 : m1 "masks" = some (.ref dk) := (hm1 _ (by decide)).trans C.mkk
  have hmf1 : m1 "found" = some (.ref fd) := (hm1 _ (by decide)).trans hmf
  have hm1' : ID w h1 dm kvm := C.hm.at (k1 dm · C.hmF n1)
  have hf1 : ID w h1 fd kvf := hf.at (k1 fd · hfF n2)
  dsimp only
  refine seq (st17 W R x1 (by omega) hmm1 hm1' (by omega) C.hmF C.hm0 fun h2 tk2 k t x2 k2 _ _ hm2 => ?_)
  have hk2 : ID w h2 dk kvk' := hk1.at (k2 dk · C.hkF (Ne.symm n1))
  have hf2 : ID w h2 fd kvf := hf1.at (k2 fd · hfF n3)
  dsimp only
  refine seq (st18 W R x2 hmm1 hmk1 hm2 hk2 hik1 (G.bounds hbd) (by rw [G.len]; omega) fun fm h3 tk3 kvg x3 k3 hfm0 hg hgk => ?_)
  have hf3 : ID w h3 fd kvf := hf2.at (k3 fd · hfF)
  have hm3 : ID w h3 dm (stored kvm k (.int 7 t)) := hm2.at (k3 dm · C.hmF)
  have hsub : ∀ k ∈ kvf.map (·.1), (valueAt kvg k).isSome = true := fun y hy => by
    refine isSome_of_key ?_
    rw [hgk]
    rw [hfk] at hy
    exact clOf_mono G hbd (stored_grows kvm k _) y hy
  have hfl : kvf.length ≤ 1000 := by
    have h1 := congrArg List.length hfk
    simp only [List.length_map] at h1
    have h2 := clOf_len kvm ms
    omega
  dsimp only
  refine seq (st19 W R x3 hmf1 hf3 hg hfl hsub fun h4 tk4 x4 k4 => ?_)
  dsimp only
  refine seq (st20 W R x4 hmm1 (hm3.keep k4) fun h5 tk5 B5 => ?_)
  exact hQ h5 tk5 B5
end

section
variable {w : World} {A : Around} {s : Shared} {K : Frag}



theorem inst_ne {j j' : Nat} {h : Heap} {x dx y dy C C' : Addr} {vals vals'} (I : Inst j h x dx C vals) (J : Inst j' h y dy C' vals') : x ≠ dy := by
  obtain ⟨es, n, a, b, _⟩ := I
  obtain ⟨es', n', a', b', _⟩ := J
  exact ne_of_two a b' (by show Value.ref C ≠ Value.type "dict"; exact fun e => by cases e)
theorem list_ne_inst {j : Nat} {h : Heap} {ls y dy C : Addr} {vs : List Value} {cn : Nat} {vals} (hls : h.get? ls = some (listOf vs.toArray cn)) (J : Inst j h y dy C vals) : ls ≠ dy := by
  obtain ⟨es', n', a', b', _⟩ := J
  exact ne_of_two hls b' (by show Value.type "list" ≠ Value.type "dict"; decide)

theorem fresh_ne {h : Heap} {a b : Addr} {o : Obj} (ha : h.get? a = none) (hb : h.get? b = some o) : b ≠ a := by
  rintro rfl; rw [ha] at hb; cases hb

theorem Core.off {w : World} {Hb h h' h0 : Heap} {L p c dm dk N d : Nat} {kvc : List (Int × Value)} {ch : List (Int × List Int)} {as : List Addr} {kvm kvk : List (Int × Value)} {m m' m0 : Str → Option Value} (x : Core w Hb L p c dm dk N kvc ch as kvm kvk h m)
    (y : Core w Hb L p c dm dk N kvc ch as kvm kvk h0 m0) (hd : h0.get? d = none)
    (k : ∀ a o, Far L p a → a ≠ d → h.get? a = some o → h'.get? a = some o) (h1 : m' "many" = m "many") (h2 : m' "moves" = m "moves") (h3 : m' "masks" = m "masks") : Core w Hb L p c dm dk N kvc ch as kvm kvk h' m' := by
  obtain ⟨o1, e1, _⟩ := y.hc.there
  obtain ⟨o2, e2, _⟩ := y.hm.there
  obtain ⟨o3, e3, _⟩ := y.hk.there
  exact {
    many := h1 ▸ x.many
    mm := h2.trans x.mm
    mkk := h3.trans x.mkk
    hc := x.hc.at (k c · x.hcF (fresh_ne hd e1))
    hcF := x.hcF
    hcl := x.hcl.at fun a ha o => k a o (x.has a ha) (by obtain ⟨_, _, e⟩ := y.hcl.there a ha; exact fresh_ne hd e)
    has := x.has
    hm := x.hm.at (k dm · x.hmF (fresh_ne hd e2))
    hmF := x.hmF
    hm0 := x.hm0
    hk := x.hk.at (k dk · x.hkF (fresh_ne hd e3))
    hkF := x.hkF
    hk0 := x.hk0 }

structure Sts (w : World) (L p ls : Nat) (t0 t1 t2 : T4) (dm dk dm2 dk2 fd : Addr) (kvm kvk2 kvf : List (Int × Value)) (vs : List Value) (cn : Nat) (h : Heap) : Prop where
  I0 : ∃ u, Inst 20 h t0.x t0.dx 50 [("number", .int 0 u), ("moves", .ref t0.dm), ("masks", .ref t0.dk)]
  e0m : ID w h t0.dm []
  e0k : ID w h t0.dk []
  F0 : Far L p t0.x ∧ Far L p t0.dx ∧ Far L p t0.dm ∧ Far L p t0.dk
  I1 : ∃ u, Inst 22 h t1.x t1.dx 50 [("number", .int 1 u), ("moves", .ref dm), ("masks", .ref dk)]
  F1 : Far L p t1.x ∧ Far L p t1.dx
  I2 : ∃ u, Inst 22 h t2.x t2.dx 50 [("number", .int 2 u), ("moves", .ref dm2), ("masks", .ref dk2)]
  F2 : Far L p t2.x ∧ Far L p t2.dx
  m2 : ID w h dm2 kvm
  k2 : ID w h dk2 kvk2
  F3 : Far L p dm2 ∧ Far L p dk2
  hf : ID w h fd kvf
  hfF : Far L p fd
  hls : h.get? ls = some (listOf vs.toArray cn)
  hlsF : Far L p ls
theorem Sts.kp {w : World} {L p ls : Nat} {t0 t1 t2 : T4} {dm dk dm2 dk2 fd : Addr} {kvm kvk2 kvf : List (Int × Value)} {vs : List Value} {cn : Nat} {h h' : Heap} (x : Sts w L p ls t0 t1 t2 dm dk dm2 dk2 fd kvm kvk2 kvf vs cn h) (k : KpF L p h h') : Sts w L p ls t0 t1 t2 dm dk dm2 dk2 fd kvm kvk2 kvf vs cn h' where
  I0 := let ⟨u, I⟩ := x.I0; ⟨u, I.at (k _ · x.F0.1) (k _ · x.F0.2.1)⟩
  e0m := x.e0m.at (k _ · x.F0.2.2.1)
  e0k := x.e0k.at (k _ · x.F0.2.2.2)
  F0 := x.F0
  I1 := let ⟨u, I⟩ := x.I1; ⟨u, I.at (k _ · x.F1.1) (k _ · x.F1.2)⟩
  F1 := x.F1
  I2 := let ⟨u, I⟩ := x.I2; ⟨u, I.at (k _ · x.F2.1) (k _ · x.F2.2)⟩
  F2 := x.F2
  m2 := x.m2.at (k _ · x.F3.1)
  k2 := x.k2.at (k _ · x.F3.2)
  F3 := x.F3
  hf := x.hf.at (k _ · x.hfF)
  hfF := x.hfF
  hls := k _ _ x.hlsF x.hls
  hlsF := x.hlsF

set_option maxHeartbeats 4000000 in
theorem partB {Hb : Heap} {L f p q c dm dk : Addr} {N : Nat} {cd : Value} {m : Str → Option Value} {v3 : Option Value} {b : Nat} {kvc kvm kvk : List (Int × Value)} {ch : List (Int × List Int)} {as : List Addr} {ms mm : List (Int × Int)} {rs : List Int}
    (W : W0 K w Hb) (kf : KF K) (R : Rm A 8) (x : LF w Hb L p q s.heap m (some (.ref c)) v3 b) (hb : b ≤ 500) (hN : N < 5) (C : Core w Hb L p c dm dk N kvc ch as kvm kvk s.heap m) (hch : ChOk N ch) (him : Ints kvm mm) (hik : Ints kvk ms) (hms : ms = rs.map fun r => (r, maskSum ch r)) (hrs : rs.Perm (ch.map (·.1)))
    (hl1 : kvm.length ≤ 900) (n1 : dm ≠ dk) {Q : Flow → Shared → Prop}
    (hQ : ∀ h' tk, (∀ a o, Hb.get? a = some o → h'.get? a = some o) → Q (.ret (.bool true)) { s with heap := h', toks := tk }) :
    wpAny (model PP w) A (execs (lawStm 6 :: lawStm 7 :: lawStm 8 :: lawStm 9 :: lawStm 10 :: lawStm 11 :: lawStm 12 :: lawStm 13 :: lawStm 14 :: lawStm 15 :: lawStm 16 :: lawStm 17 :: lawStm 18 :: lawStm 19 :: [lawStm 20]) (LE L f cd)) Q NoE s := by
  have hbd := law_bounds hch hms hrs
  have hln := law_len hch hms hrs
  have hkl : kvk.length = ms.length := hik.length
  -- held
  refine seq (st6 W R x C.mm C.mkk C.hm C.hk (by omega) (by omega) fun T h6 tk6 x6 k6 hh6 => ?_)
  have C6 := C.kp k6 (if_neg (by decide)) (if_neg (by decide)) (if_neg (by decide)) (m' := fun y => if y = "held" then some (.ref T) else m y)
  generalize hm6 : (fun y : Str => if y = "held" then some (.ref T) else m y) = m6 at *
  have hT6 : m6 "held" = some (.ref T) := by rw [← hm6]; exact if_pos rfl
  clear hm6
  dsimp only
  -- found
  refine seq (st7 W R x6 C6.mm C6.mkk C6.hm C6.hk hik hbd (by omega) fun fd h7 tk7 kvf x7 k7 hfd0 hf hft hfl => ?_)
  have C7 := C6.kp k7 (if_neg (by decide)) (if_neg (by decide)) (if_neg (by decide)) (m' := fun y => if y = "found" then some (.ref fd) else m6 y)
  generalize hm7 : (fun y : Str => if y = "found" then some (.ref fd) else m6 y) = m7 at *
  have hT7 : m7 "held" = some (.ref T) := by rw [← hm7]; exact (if_neg (by decide)).trans hT6
  have hf7 : m7 "found" = some (.ref fd) := by rw [← hm7]; exact if_pos rfl
  clear hm7
  have hfF : Far L p fd := x6.far_of_none hfd0
  have hh7 : HeldAt h7 (Far L p) T kvm kvk := hh6.at (fun a o ha e => k7 a o ha e) fun _ _ ha _ => ha
  have n2 : fd ≠ dk := by rintro rfl; obtain ⟨o, ho, _⟩ := C6.hk.there; rw [hfd0] at ho; cases ho
  have n3 : fd ≠ dm := by rintro rfl; obtain ⟨o, ho, _⟩ := C6.hm.there; rw [hfd0] at ho; cases ho
  dsimp only
  refine seq (st8 W R x7 C7.mm C7.mkk hf7 hT7 C7.hm C7.hk him hik hf hft hfl hh7 C7.hc C7.hcl hch hN (by omega) (by omega) (law_one hch hms hrs kvm) fun h8 tk8 x8 k8 => ?_)
  have C8 := C7.kp (fun a o _ e => k8 a o e) rfl rfl rfl
  have hf8 : ID w h8 fd kvf := hf.keep k8
  have hfk : kvf.map (·.1) = (clOf kvm ms).map (·.1) := by
    have hle : kvf.length = (clOf kvm ms).length := hfl
    refine List.ext_getElem? fun i => ?_
    rw [List.getElem?_map, List.getElem?_map]
    cases e : kvf[i]? with
    | none =>
      rw [List.getElem?_eq_none (by rw [← hle]; exact List.getElem?_eq_none_iff.mp e)]; rfl
    | some pv =>
      obtain ⟨rs', a, vs, n, _, h2, _⟩ := hft i pv.1 pv.2 e
      rw [h2]; rfl
  clear hft hh7 hh6
  dsimp only
  -- states
  refine seq (st9 W kf R x8 fun ls h9 tk9 vs cn tr x9 k9 hlsF hls hst htr => ?_)
  have C9 := C8.kp k9 (if_neg (by decide)) (if_neg (by decide)) (if_neg (by decide)) (m' := fun y => if y = "states" then some (.ref ls) else m7 y)
  generalize hm9 : (fun y : Str => if y = "states" then some (.ref ls) else m7 y) = m9 at *
  have hf9 : m9 "found" = some (.ref fd) := by rw [← hm9]; exact (if_neg (by decide)).trans hf7
  have hs9 : m9 "states" = some (.ref ls) := by rw [← hm9]; exact if_pos rfl
  clear hm9
  obtain ⟨t0, t1, t2, rfl⟩ : ∃ t0 t1 t2, tr = [t0, t1, t2] := by
    match tr, htr with
    | [a, b, c], _ => exact ⟨a, b, c, rfl⟩
  obtain ⟨rfl, hSt, hnd⟩ := hst
  obtain ⟨⟨u0, I0⟩, e0m, e0k, P0x, P0d, P0m, P0k⟩ := hSt 0 t0 rfl
  obtain ⟨⟨u1, I1⟩, -, -, P1x, P1d, -, -⟩ := hSt 1 t1 rfl
  obtain ⟨⟨u2, I2⟩, -, -, P2x, P2d, -, -⟩ := hSt 2 t2 rfl
  clear hSt
  simp only [List.flatMap_cons, List.flatMap_nil, T4.us, List.cons_append, List.nil_append, List.nodup_cons, List.mem_cons, List.not_mem_nil, not_or, or_false] at hnd
  have q01 : t0.dx ≠ t1.dx := hnd.1.2.2.1
  have q02 : t0.dx ≠ t2.dx := hnd.1.2.2.2.2.2.1
  have q12 : t1.dx ≠ t2.dx := hnd.2.2.2.1.2.2.1
  have q0m1 : t0.dm ≠ t1.dx := hnd.2.1.2.1
  have q0m2 : t0.dm ≠ t2.dx := hnd.2.1.2.2.2.2.1
  have q0k1 : t0.dk ≠ t1.dx := hnd.2.2.1.1
  have q0k2 : t0.dk ≠ t2.dx := hnd.2.2.1.2.2.2.1
  have B8 := x8.lg.keep
  have hb1 : Hb.get? t1.dx = none := by
    cases e : Hb.get? t1.dx with
    | none => rfl
    | some o => exact absurd rfl (fresh_ne P1d.2 (B8 _ _ e))
  have hb2 : Hb.get? t2.dx = none := by
    cases e : Hb.get? t2.dx with
    | none => rfl
    | some o => exact absurd rfl (fresh_ne P2d.2 (B8 _ _ e))
  have hf9' : ID w h9 fd kvf := hf8.at (k9 fd · hfF)
  obtain ⟨of, hof, _⟩ := hf8.there
  dsimp only
  refine seq (st10 W kf R x9 C9.mm C9.mkk hs9 hls rfl (by decide) I1 P1d.1 P1x.1 hb1 fun h10 tk10 x10 k10 J1 => ?_)
  have C10 := C9.off C8 P1d.2 k10 rfl rfl rfl
  have hls10 := k10 ls _ hlsF (list_ne_inst hls I1) hls
  have hf10 : ID w h10 fd kvf := hf9'.at (k10 fd · hfF (fresh_ne P1d.2 hof))
  have I0' := I0.at (k10 t0.x · P0x.1 (inst_ne I0 I1)) (k10 t0.dx · P0d.1 q01)
  have I2' := I2.at (k10 t2.x · P2x.1 (inst_ne I2 I1)) (k10 t2.dx · P2d.1 (Ne.symm q12))
  have e0m' : ID w h10 t0.dm [] := e0m.at (k10 t0.dm · P0m.1 q0m1)
  have e0k' : ID w h10 t0.dk [] := e0k.at (k10 t0.dk · P0k.1 q0k1)
  dsimp only
  refine seq (st11 W kf R x10 C10.mm C10.mkk hs9 hls10 rfl (by decide) I2' P2d.1 P2x.1 hb2 C10.hm C10.hk hik (by omega) (by omega) fun h11 tk11 dm2 dk2 kvk2 x11 k11 J2 hm2 hk2 hik2 hdm2 hdk2 => ?_)
  have C11 := C10.off C8 P2d.2 k11 rfl rfl rfl
  have S11 : Sts w L p ls t0 t1 t2 dm dk dm2 dk2 fd kvm kvk2 kvf _ cn h11 := {
    I0 := ⟨u0, I0'.at (k11 t0.x · P0x.1 (inst_ne I0' I2')) (k11 t0.dx · P0d.1 q02)⟩
    e0m := e0m'.at (k11 t0.dm · P0m.1 q0m2)
    e0k := e0k'.at (k11 t0.dk · P0k.1 q0k2)
    F0 := ⟨P0x.1, P0d.1, P0m.1, P0k.1⟩
    I1 := ⟨u1, J1.at (k11 t1.x · P1x.1 (inst_ne J1 I2')) (k11 t1.dx · P1d.1 q12)⟩
    F1 := ⟨P1x.1, P1d.1⟩
    I2 := ⟨u2, J2⟩
    F2 := ⟨P2x.1, P2d.1⟩
    m2 := hm2
    k2 := hk2
    F3 := ⟨x10.far_of_none hdm2, x10.far_of_none hdk2⟩
    hf := hf10.at (k11 fd · hfF (fresh_ne P2d.2 hof))
    hfF := hfF
    hls := k11 ls _ hlsF (list_ne_inst hls10 I2') hls10
    hlsF := hlsF }
  clear I0' I2' e0m' e0k' hls10 hf10 hf9' hb1 hb2 q01 q02 q12 q0m1 q0m2 q0k1 q0k2 I0 I1 I2 e0m e0k P0x P0d P0m P0k P1x P1d P2x P2d J1 J2 hm2 hk2 hdm2 hdk2 hof k11 k10 k9 k8 C10 C9 C8 C7 C6 C x10 x9 x8 x7 x6 x hf hf8
  clear hlsF hls hnd k6 k7 hfd0 hT6 hT7 hf7 B8
  dsimp only
  have hd1 := law_one hch hms hrs kvm
  have hd2 := law_two ms kvm
  have hl2 := clOf_len kvm ms
  -- due
  refine seq (st12 W R x11 C11.mm C11.hm C11.hc C11.hcl hch hN fun D h12 tk12 vd1 cd1 x12 k12 hDF hD hr => ?_)
  rw [← hd1] at hr
  have C12 := C11.kp k12 (if_neg (by decide)) (if_neg (by decide)) (if_neg (by decide)) (m' := fun y => if y = "due" then some (.ref D) else m9 y)
  have S12 := S11.kp k12
  generalize hm12 : (fun y : Str => if y = "due" then some (.ref D) else m9 y) = m12 at *
  have hf12 : m12 "found" = some (.ref fd) := by rw [← hm12]; exact (if_neg (by decide)).trans hf9
  have hs12 : m12 "states" = some (.ref ls) := by rw [← hm12]; exact (if_neg (by decide)).trans hs9
  have hd12 : m12 "due" = some (.ref D) := by rw [← hm12]; exact if_pos rfl
  clear hm12
  dsimp only
  refine seq (st13 W R x12 C12.mm C12.mkk hd12 C12.hm C12.hk hik (by omega) hD hr (by rw [List.length_map]; omega) fun D' h13 tk13 vd2 cd2 x13 k13 hDF' hD' hr' => ?_)
  rw [← hd2] at hr'
  have C13 := C12.kp k13 (if_neg (by decide)) (if_neg (by decide)) (if_neg (by decide)) (m' := fun y => if y = "due" then some (.ref D') else m12 y)
  have S13 := S12.kp k13
  generalize hm13 : (fun y : Str => if y = "due" then some (.ref D') else m12 y) = m13 at *
  have hf13 : m13 "found" = some (.ref fd) := by rw [← hm13]; exact (if_neg (by decide)).trans hf12
  have hs13 : m13 "states" = some (.ref ls) := by rw [← hm13]; exact (if_neg (by decide)).trans hs12
  have hd13 : m13 "due" = some (.ref D') := by rw [← hm13]; exact if_pos rfl
  clear hm13
  dsimp only
  refine seq (st14 W kf R x13 hs13 fun xa dxa h14 tk14 x14 k14 _ _ _ _ IA => ?_)
  have C14 := C13.kp k14 (if_neg (by decide)) (if_neg (by decide)) (if_neg (by decide)) (m' := fun y => if y = "machine" then some (.ref xa) else m13 y)
  have S14 := S13.kp k14
  have hD14 := k14 _ _ hDF' hD'
  have hr14 := RLs_reads (RLs_at (fun a o ha _ e => k14 a o ha e) (fun _ _ ha _ _ => ha) hr')
  generalize hm14 : (fun y : Str => if y = "machine" then some (.ref xa) else m13 y) = m14 at *
  have hf14 : m14 "found" = some (.ref fd) := by rw [← hm14]; exact (if_neg (by decide)).trans hf13
  have hd14 : m14 "due" = some (.ref D') := by rw [← hm14]; exact (if_neg (by decide)).trans hd13
  have ha14 : m14 "machine" = some (.ref xa) := by rw [← hm14]; exact if_pos rfl
  clear hm14
  dsimp only
  have hst : StsOk w h14 ([t0, t1, t2].map fun t => Value.ref t.x) [⟨0, [], []⟩, ⟨1, kvm, ms⟩, ⟨2, kvm, ms.map fun p => (p.1, 256)⟩] := by
    refine ⟨rfl, fun i v d hv hd => ?_⟩
    obtain ⟨z0, I0⟩ := S14.I0
    obtain ⟨z1, I1⟩ := S14.I1
    obtain ⟨z2, I2⟩ := S14.I2
    match i, hv, hd with
    | 0, hv, hd =>
      cases hv; cases hd
      exact ⟨_, _, _, _, [], _, _, rfl, I0, S14.e0m, S14.e0k, .nil, (fun p hp => by cases hp), by decide⟩
    | 1, hv, hd =>
      cases hv; cases hd
      exact ⟨_, _, _, _, kvk, _, _, rfl, I1, C14.hm, C14.hk, hik, hbd, by show ms.length < 60; omega⟩
    | 2, hv, hd =>
      cases hv; cases hd
      refine ⟨_, _, _, _, kvk2, _, _, rfl, I2, S14.m2, S14.k2, hik2, fun p hp => ?_, by show (ms.map _).length < 60; rw [List.length_map]; omega⟩
      obtain ⟨q, _, rfl⟩ := List.mem_map.mp hp
      show (0 : Int) ≤ 256 ∧ (256 : Int) < 512
      decide
    | n + 3, hv, hd => simp at hv
  have hdd : tripsUp [⟨0, [], []⟩, ⟨1, kvm, ms⟩, ⟨2, kvm, ms.map fun p => (p.1, 256)⟩] 3 = (clOf kvm ms).map (dTrip 1) ++ (clOf kvm (ms.map fun p => (p.1, 256))).map (dTrip 2) := by
    show (([] ++ (clOf [] []).map (dTrip 0)) ++ (clOf kvm ms).map (dTrip 1)) ++ (clOf kvm (ms.map fun p => (p.1, 256))).map (dTrip 2) = _
    rw [clOf_nil, List.map_nil, List.nil_append, List.nil_append]
  obtain ⟨z1, I1⟩ := S14.I1
  refine seq (st15 W kf R x14 ha14 hd14 C14.mm IA S14.hls hst (by show 3 ≤ 20; decide) hD14 hr14 hdd C14.hm him rfl I1 (.tail _ (.head _)) fun h15 tk15 x15 k15 => ?_)
  have C15 := C14.kp (fun a o _ e => k15 a o e) rfl rfl rfl
  dsimp only
  exact partC W R x15 hb hN C15 hch hik hms hrs hl1 hf14 (S14.hf.keep k15) S14.hfF hfk n1 n2 n3 fun h' tk B => hQ h' tk B
end

section
variable {w : World} {A : Around} {s : Shared} {K : Frag}



theorem none_of {h0 h : Heap} {a : Addr} (k : ∀ b o, h0.get? b = some o → h.get? b = some o) (e : h.get? a = none) : h0.get? a = none := by
  cases e' : h0.get? a with
  | none => rfl
  | some o => rw [k _ _ e'] at e; cases e

set_option maxHeartbeats 4000000 in
theorem law_walk {Hb : Heap} {L f l : Addr} {cd : Value} {m : Str → Option Value} {vs : List Value} {ns : List Int}
    (W : W0 K w Hb) (kf : KF K) (R : Rm A 8) (F : Fr Hb L s.heap m) (c1 : s.heap.IsCell (L + 1) none) (c2 : s.heap.IsCell (L + 2) none) (c3 : s.heap.IsCell (L + 3) none)
    (hm : m "script" = some (.ref l)) (hl : Hb.IsList l vs.toArray) (hI : IntsAre vs ns) (hlen : ns.length ≤ 63) {Q : Flow → Shared → Prop}
    (hQ : ∀ h' tk, (∀ a o, Hb.get? a = some o → h'.get? a = some o) → Q (.ret (.bool true)) { s with heap := h', toks := tk }) :
    wpAny (model PP w) A (execs dLaw.body (LE L f cd)) Q NoE s := by
  have hb : dLaw.body = lawStm 0 :: lawStm 1 :: lawStm 2 :: lawStm 3 :: lawStm 4 :: lawStm 5 :: lawStm 6 :: lawStm 7 :: lawStm 8 :: lawStm 9 :: lawStm 10 :: lawStm 11 :: lawStm 12 :: lawStm 13 :: lawStm 14 :: lawStm 15 :: lawStm 16 :: lawStm 17 :: lawStm 18 :: lawStm 19 :: [lawStm 20] := by rfl
  rw [hb]
  clear hb
  refine seq (st0 W R F c1 c2 c3 hm hl hI hlen fun p q h0 tk0 x0 => ?_)
  dsimp only
  refine seq (st1 W R x0 (by decide) fun n t h1 tk1 n0 n5 x1 k1 => ?_)
  obtain ⟨N, rfl⟩ : ∃ N : Nat, n = N := ⟨n.toNat, by omega⟩
  have hN : N < 5 := by omega
  generalize hm1 : (fun y : Str => if y = "many" then some (Value.int (N : Int) t) else m y) = m1 at *
  have many1 : m1 "many" = some (.int N t) := by rw [← hm1]; exact if_pos rfl
  clear hm1
  dsimp only
  refine seq (st2 W x1 fun c h2 tk2 x2 k2 hc0 hc2 => ?_)
  have hcF : Far L p c := x1.far_of_none hc0
  have hcb : Hb.get? c = none := none_of x1.lg.keep hc0
  dsimp only
  refine seq (st3 W R x2 (by decide) hN many1 hc2 hcF hcb fun h3 tk3 m3 kvc ch as x3 hm3 k3 hc3 hcl3 has hch => ?_)
  have many3 : m3 "many" = some (.int N t) := (hm3 _ (by decide)).trans many1
  dsimp only
  refine seq (st4 W R x3 (by omega) fun dm h4 tk4 kvm mm ts x4 k4 hdm0 hdm him hts hasc => ?_)
  have hdmF : Far L p dm := x3.far_of_none hdm0
  have hdmb : Hb.get? dm = none := none_of x3.lg.keep hdm0
  have hml : kvm.length ≤ 9 := by
    rw [him.length]
    have h1 := congrArg List.length hts
    rw [List.length_map] at h1
    have h2 := hasc.len
    omega
  have hc4 : ID w h4 c kvc := hc3.at (k4 c · hcF)
  have hcl4 : CLs h4 ch kvc as := hcl3.at fun a ha o => k4 a o (has a ha).1
  generalize hm4 : (fun y : Str => if y = "moves" then some (Value.ref dm) else m3 y) = m4 at *
  have many4 : m4 "many" = some (.int N t) := by rw [← hm4]; exact (if_neg (by decide)).trans many3
  have mm4 : m4 "moves" = some (.ref dm) := by rw [← hm4]; exact if_pos rfl
  clear hm4
  dsimp only
  refine seq (st5 W R x4 (by omega) hc4 hcF hcl4 (fun a ha => (has a ha).1) hch hN fun dk h5 tk5 kvk ms rs x5 k5 hdk0 hdk hik hms hrs => ?_)
  have hdkF : Far L p dk := x4.far_of_none hdk0
  have hdkb : Hb.get? dk = none := none_of x4.lg.keep hdk0
  have n1 : dm ≠ dk := by
    obtain ⟨o, ho, _⟩ := hdm.there
    exact fresh_ne hdk0 ho
  generalize hm5 : (fun y : Str => if y = "masks" then some (Value.ref dk) else m4 y) = m5 at *
  have C5 : Core w Hb L p c dm dk N kvc ch as kvm kvk h5 m5 := {
    many := ⟨t, by rw [← hm5]; exact (if_neg (by decide)).trans many4⟩
    mm := by rw [← hm5]; exact (if_neg (by decide)).trans mm4
    mkk := by rw [← hm5]; exact if_pos rfl
    hc := hc4.at (k5 c · hcF)
    hcF := hcF
    hcl := hcl4.at fun a ha o => k5 a o (has a ha).1
    has := fun a ha => (has a ha).1
    hm := hdm.at (k5 dm · hdmF)
    hmF := hdmF
    hm0 := hdmb
    hk := hdk
    hkF := hdkF
    hk0 := hdkb }
  clear hm5
  dsimp only
  exact partB W kf R x5 (by omega) hN C5 hch him hik hms hrs (by omega) n1 fun h' tk B => hQ h' tk B
end

theorem isFn_of {K : Frag} {h : Heap} (X : K.In h) {f : Addr} {q : Str} {d : DefD} {oc doc pm cdv ct : Value} {od an : Option Addr} {osl : Array (Option Value)}
    (ho : K.lookup f = some ⟨oc, od, .func (fnOf d.name q d.params d.body d.scope .none .none doc pm an cdv ct), osl⟩) (hcd : codeIn K cdv q = true) : IsFn h f q d := ⟨_, _, _, _, _, _, _, _, X _ _ ho, codeRec_of X hcd⟩
theorem names_of {K : Frag} {h : Heap} {mg mb : Str → Option Value} {p : Program} {loose : List Str} (X : K.In h) (T : TopRead p loose mg mb h)
    (h1 : ∀ x ∈ globs, nsIn K mainGlobals x.1 = some (some x.2)) (h2 : ∀ x ∈ built, nsIn K mainGlobals x.1 = some none) (h3 : ∀ x ∈ built, x.1 ≠ "__name__" ∧ bootBuiltins x.1 = some x.2) :
    ∃ mg mb, h.Ns mainGlobals mg ∧ h.Ns builtinsNs mb ∧ (∀ p ∈ globs, mg p.1 = some p.2) ∧ (∀ p ∈ built, mg p.1 = none ∧ mb p.1 = some p.2) :=
  ⟨mg, mb, T.g, T.b, fun x hx => mg_of X T.g (h1 x hx), fun x hx => ⟨mg_none_of X T.g (h2 x hx), (T.builtins _ (h3 x hx).1).trans (h3 x hx).2⟩⟩
theorem cell_of {h0 h : Heap} {L c : Addr} {o : Obj} {v : Option Value} {news : List (Addr × Obj)} (N : News h0 L h news) (hm : (c, o) ∈ news) (hd : o.data = .cell v) : h.IsCell c v := ⟨o, (N _ hm).1, hd⟩
theorem built_boot : ∀ x ∈ built, x.1 ≠ "__name__" ∧ bootBuiltins x.1 = some x.2 := by
  intro x hx
  simp only [built, List.mem_cons, List.not_mem_nil, or_false] at hx
  rcases hx with rfl | rfl | rfl | rfl | rfl | rfl | rfl | rfl | rfl <;> exact ⟨by decide, by dsimp only; boot_by_name⟩

end Mine
end

open PySem PySem.W PyProof.Rows PySem.Calls
set_option maxHeartbeats 8000000 in
theorem PySem.Challenge.cw_on0157_01_holds : PySem.Challenge.rw_on0157_01.Holds := by
  w_on; o_law; k_head; (case hw => w_witness2); w_strict (
    k_go0
    rename Frag.In _ _ => KX
    rename Top _ _ _ _ _ _ => TT
    rename Fr _ _ _ _ => FF
    rename News _ _ _ _ => N0
    rename CellsAre _ _ _ => X0
    rename Heap.IsList _ _ _ => hL
    rename IntsAre _ _ => hI
    have TR := topRead_of TT
    refine wpAny_mono (Mine.law_walk (Mine.W0.mk KX TR.nolimit (Mine.names_of KX TR ?g1 ?g2 Mine.built_boot) ?b1 ?b2 ?b3 ?b4 ?b5 ?b6 ?b7 ?b8 ?b9 ?b10) ?kf ?rm FF ?c1 ?c2 ?c3 ?hs hL hI ?hlen ?hQ) (fun _ _ x => x) (fun _ _ x => x.elim)
    case g1 =>
      intro x hx
      simp only [Mine.globs, List.mem_cons, List.not_mem_nil, or_false] at hx
      rcases hx with rfl | rfl | rfl | rfl | rfl | rfl | rfl | rfl | rfl <;> (dsimp only; k_is)
    case g2 =>
      intro x hx
      simp only [Mine.built, List.mem_cons, List.not_mem_nil, or_false] at hx
      rcases hx with rfl | rfl | rfl | rfl | rfl | rfl | rfl | rfl | rfl <;> (dsimp only; k_is)
    case b1 => exact Mine.isFn_of KX (by k_is) (by k_is)
    case b2 => exact Mine.isFn_of KX (by k_is) (by k_is)
    case b3 => exact Mine.isFn_of KX (by k_is) (by k_is)
    case b4 => exact Mine.isFn_of KX (by k_is) (by k_is)
    case b5 => exact Mine.isFn_of KX (by k_is) (by k_is)
    case b6 => exact Mine.isFn_of KX (by k_is) (by k_is)
    case b7 => exact Mine.isFn_of KX (by k_is) (by k_is)
    case b8 => exact Mine.isFn_of KX (by k_is) (by k_is)
    case b9 => exact Mine.isFn_of KX (by k_is) (by k_is)
    case b10 => exact Mine.isFn_of KX (by k_is) (by k_is)
    case kf => constructor <;> k_is
    case rm => exact Mine.Rm.deeper (d := 8) ⟨rfl, by decide +kernel, by decide +kernel⟩
    case hlen => omega
    case hs => rfl
    case c1 => exact Mine.cell_of N0 (.tail _ (.tail _ (.head _))) (by assumption)
    case c2 => exact Mine.cell_of N0 (.tail _ (.head _)) (by assumption)
    case c3 => exact Mine.cell_of N0 (.head _) (by assumption)
    case hQ =>
      intro h' tk hk
      refine ⟨.inl ⟨.bool true, .bool true, [], rfl, fun _ => rfl, ReadsW.bool _, ?r3, fun _ => ⟨.nil, fun _ ha => by cases ha⟩⟩, hk, rfl, ?r5⟩
      case r5 => assumption
      case r3 => exact postW_of (X := (true == true)) (by first | rfl | (simp [WShape.has]; done) | decide +kernel) (w_eq_bool rfl rfl) rfl)
