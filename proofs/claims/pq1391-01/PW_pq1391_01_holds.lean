import PyProof.Rows.All
import Wide.All
import OpenK.AllK
import Wide.FinOn
import PySem.Challenge.RW_pq1391_01
open PySem PySem.W PySem.Calls PyProof.Rows
set_option Elab.async false
set_option rowWalk.seconds 0
set_option compiler.extract_closed false
namespace Mine
/-- the statements that the view keeps: all but the four that stand for names alone -/
noncomputable def kept {a0 a1 a2 a3 a4 a5 a6 a7 a8 a9 a10 a11 a12 a13 a14 a15 a16 a17 a18 a19 a20 a21 a22 a23 : Stmt} (_ : PySem.Challenge.rw_pq1391_01.row.toRowW.1.main.body = [a0, a1, a2, a3, a4, a5, a6, a7, a8, a9, a10, a11, a12, a13, a14, a15, a16, a17, a18, a19, a20, a21, a22, a23]) : List Stmt := [a0, a2, a3, a4, a5, a6, a7, a8, a9, a11, a12, a13, a15, a16, a17, a19, a20, a21, a22, a23]
noncomputable def hd.view_39 : Program := { PySem.Challenge.rw_pq1391_01.row.toRowW.1 with main := { PySem.Challenge.rw_pq1391_01.row.toRowW.1.main with body := kept rfl } }
/-- the opening is the library's own boot; what is left is the run of the text's top, and the looks at its end -/
theorem left_run {p q : Program} {loose : List Str} {Xt : Shared → Bool} {α : Type} {Yf : Shared → α} {Ya : World → α} {N : Nat} {g0 : Bool} (e : opening p = plainProg p.main.scope.names) (hN : Nat.ble 600 N = true) (f : ∀ s, fenceModules? p s = some s)
    (z : ∀ w : World, ((boot_heap w.params).isNs mainGlobals && (Array.mk [] : Array GenState).size == 0) = true)
    (h : ∀ (w : World) (os : OsState), ((topRun treeTable p w (boot_heap w.params).objs.size ((boot_heap w.params).nsMap mainGlobals "__annotations__") N ⟨boot_heap w.params, Array.mk [], boot_drawn, boot_toks, os⟩ (topStub p)).bind fun s₁ =>
        match staticsOk (importedModules p.main.body) (boot_heap w.params) s₁.heap && namesBound p s₁.heap && gensDone s₁ && laidKept (boot_heap w.params) s₁.heap with | true => some s₁ | false => none).map
      (fun s => (openSeen q loose (importedModules p.main.body) Xt g0 s, Yf s)) = some (openGood q loose, Ya w)) : LeftO p q loose Xt Yf Ya N g0 := fun w => by
  obtain ⟨⟨hh, gs, d, k, os⟩, e1, e2⟩ := Option.map_eq_some_iff.mp (boot_open e hN f w)
  obtain ⟨rfl, rfl, rfl, rfl⟩ : hh = boot_heap w.params ∧ gs = Array.mk [] ∧ d = boot_drawn ∧ k = boot_toks := by simpa using e2
  unfold openEnds
  rw [e1]
  show (topFrom treeTable p w N _).map _ = _
  unfold topFrom
  dsimp only
  rw [z w]
  exact h w os
theorem rows_0 : True := by
  k_with_none
  (k_with "my head" => (rw [PySem.W.Fast.te14082659384304107361, PySem.W.Fast.te14364793385576792824, PySem.W.Fast.te4187177175401517315, PySem.W.Fast.te5923862056798008813, PySem.W.Fast.te8920871248978507458, PySem.W.Fast.te2368527892694137696, PySem.W.Fast.te13978168961389856944]; kernel_rfl))
  exact trivial
local macro_rules | `(tactic| o_head $H:term) => `(tactic| refine holds_open (q := hd.view_39) (loose := [PySem.Str.ofString "list_of"]) (Xt := fun s => xlAt hd.view_39 [] s && recOk (RowW.records PySem.Challenge.rw_pq1391_01.row.toRowW) s) (XP := XL hd.view_39 []) (Yf := Hook.obs $H) (Ya := Hook.val $H) (YP := Hook.says $H) (N := 3048) (left_run (by kernel_rfl) (by decide +kernel) (fun _ => by kernel_rfl) (fun _ => by kernel_rfl) (fun w os => by k_extra "my head")) (Hook.of $H) (Hook.keeps $H) (fun s e => xl_of s (Bool.and_eq_true_iff.mp e).1) XL.keeps (by rfl) (by rfl) (by rfl) (fun s e => recFacts_of (Bool.and_eq_true_iff.mp e).2) (by rfl) (by first | assumption | decide +kernel) (by decide +kernel) ⟨rfl, rfl, rfl, rfl, rfl, by decide +kernel⟩ ?hw ?hc)
set_option maxRecDepth 100000 in
set_option maxHeartbeats 8000000 in
open_top hd for PySem.Challenge.rw_pq1391_01
end Mine
local macro_rules | `(tactic| k_inst) => `(tactic| k_extra "my k_inst")
local macro_rules | `(tactic| ktr_enter) => `(tactic| k_extra "my ktr_enter")
local macro_rules | `(tactic| ktr_room) => `(tactic| k_extra "my ktr_room")
local macro_rules | `(tactic| ktr_units) => `(tactic| k_extra "my ktr_units")
local macro_rules | `(tactic| walk_at "call builtin:len") => `(tactic| k_extra "my call builtin:len")
local macro_rules | `(tactic| walk_at "subscriptTail") => `(tactic| k_extra "my subscriptTail")
local macro_rules | `(tactic| walk_at "call builtin:sorted") => `(tactic| k_extra "my call builtin:sorted")
local macro_rules | `(tactic| walk_at "call ref") => `(tactic| k_extra "my call ref")
local macro_rules | `(tactic| walk_at "ite") => `(tactic| k_extra "my ite")
local macro_rules | `(tactic| walk_at "compareOp Eq ref ref") => `(tactic| k_extra "my compareOp Eq ref ref")
local macro_rules | `(tactic| k_all) => `(tactic| k_extra "my k_all")
local macro_rules | `(tactic| ktr_rel) => `(tactic| k_extra "my ktr_rel")
local macro_rules | `(tactic| walk_at "CompSrc") => `(tactic| k_extra "my CompSrc")
local macro_rules | `(tactic| k_room) => `(tactic| k_extra "my k_room")
local macro_rules | `(tactic| k_mem) => `(tactic| k_extra "my k_mem")
local macro_rules | `(tactic| k_enter) => `(tactic| k_extra "my k_enter")
local macro_rules | `(tactic| walk_at "subscriptTail List") => `(tactic| k_extra "my subscriptTail List")
local macro_rules | `(tactic| walk_at "subscriptTail Name Constant ref int") => `(tactic| k_extra "my subscriptTail Name Constant ref int")
local macro_rules | `(tactic| walk_at "subscriptTail Name") => `(tactic| k_extra "my subscriptTail Name")
local macro_rules | `(tactic| ktn_open) => `(tactic| k_extra "my ktn_open")
local macro_rules | `(tactic| walk_at "setAttr ref") => `(tactic| k_extra "my setAttr ref")
local macro_rules | `(tactic| walk_at "CompEnd") => `(tactic| k_extra "my CompEnd")
local macro_rules | `(tactic| walk_at "binaryOp Add ref ref") => `(tactic| k_extra "my binaryOp Add ref ref")
local macro_rules | `(tactic| walk_at "subscriptTail Name Name ref int") => `(tactic| k_extra "my subscriptTail Name Name ref int")
local macro_rules | `(tactic| walk_at "binaryOp Mult ref int") => `(tactic| k_extra "my binaryOp Mult ref int")
local macro_rules | `(tactic| ktr_unf) => `(tactic| k_extra "my ktr_unf")
local macro_rules | `(tactic| walk_at "UnrEnd") => `(tactic| k_extra "my UnrEnd")
namespace Mine

/-! ## plain data -/

/-- values of the language -/
inductive Va where
  | sym (s : Str)
  | nul
  | dbl (d : Option (Int × Int))
  | chr (x : Option Str) (ats : List Str)
  | call (tags : List (Option Str)) (items : List Va)
  | lst (items : List Va)
  | exp (items : List Va)

/-- plans -/
inductive Pl where
  | leaf (k p q : Int)
  | node (k s : Int) (tags : List Int) (parts : List Pl)

noncomputable def eqvs (f : Va → Va → Bool) : List Va → List Va → Bool
  | [], [] => true
  | x :: xs, y :: ys => f x y && eqvs f xs ys
  | _, _ => false

noncomputable def eqv : Nat → Va → Va → Bool
  | _, .sym s, .sym t => s == t
  | _, .nul, .nul => true
  | _, .dbl a, .dbl b => a == b
  | _, .chr x as, .chr y bs => as.length == bs.length && x == y
  | n + 1, .call tg xs, .call tg' ys => tg == tg' && eqvs (eqv n) xs ys
  | n + 1, .lst xs, .lst ys => eqvs (eqv n) xs ys
  | n + 1, .exp xs, .exp ys => eqvs (eqv n) xs ys
  | _, _, _ => false

def AtsOk (ats : List Str) : Prop := ats = [] ∨ ats = [Str.ofString "unit"] ∨ ats = [Str.ofString "unit", Str.ofString "names"] ∨ ats = [Str.ofString "names", Str.ofString "unit"]

/-! ## how the heap bears it -/

abbrev ent (P : Params) (x : Str) (t : Tok) (v : Value) : DictEntry := ⟨PyData.keyHash P x, .str x t, v⟩
abbrev tupOf (its : Array Value) (n : Nat) : Obj := { cls := .type "tuple", data := .seq its n }

inductive OptV : Value → Option Str → Prop
  | none : OptV .none none
  | some {s t} : PyData.strOk s = true → OptV (.str s t) (some s)

abbrev vecD (P : Params) (k : Str) (t0 t1 t2 t3 t4 t5 : Tok) (items attrs : Value) (sh : Bool) (e : Nat) : Obj :=
  dictOf [ent P "kind" t1 (.str k t0), ent P "items" t2 items, ent P "attrs" t3 attrs, ent P "shared" t4 (.bool sh), ent P "loose" t5 (.bool false)] e

/-- the attributes, from a value and the names -/
inductive AtsR (w : World) (R : Addr → Obj → Prop) : Value → List Str → Prop
  | none : AtsR w R .none []
  | some {a o} {kvs : List (Str × Value)} : R a o → o.IsDictOf (PySem.strKind PySem.Challenge.rw_pq1391_01.row.prog w) kvs → (a == sysModules) = false → kvs ≠ [] →
      (∀ p ∈ kvs, ∃ x dx li e1 e2 t0 t1 t2 t3 t4 t5 t6 sh, p.2 = .ref x ∧ R x (instObj 67 dx) ∧ R dx (vecD w.params "character" t0 t1 t2 t3 t4 t5 (.ref li) .none sh e1) ∧ R li (listOf #[.str p.1 t6] e2)) →
      AtsR w R (.ref a) (kvs.map fun p => p.1)

inductive VaR (w : World) (R : Addr → Obj → Prop) : Nat → Value → Va → Prop
  | sym {n a dx e s t0 t1 t2 t3 t4} : R a (instObj 88 dx) → R dx (dictOf [ent w.params "kind" t1 (.str "symbol" t0), ent w.params "name" t2 (.str s t4), ent w.params "attrs" t3 .none] e) → VaR w R n (.ref a) (.sym s)
  | nul {n a dx e t0 t1 t2} : R a (instObj 38 dx) → R dx (dictOf [ent w.params "kind" t1 (.str "NULL" t0), ent w.params "attrs" t2 .none] e) → VaR w R n (.ref a) .nul
  | dblN {n a dx li e e1 t0 t1 t2 t3 t4 t5 sh} : R a (instObj 67 dx) → R dx (vecD w.params "double" t0 t1 t2 t3 t4 t5 (.ref li) .none sh e) → R li (listOf #[.none] e1) → VaR w R n (.ref a) (.dbl none)
  | dblT {n a dx li ti e e1 e2 t0 t1 t2 t3 t4 t5 t6 t7 sh i j} : R a (instObj 67 dx) → R dx (vecD w.params "double" t0 t1 t2 t3 t4 t5 (.ref li) .none sh e) → R li (listOf #[.ref ti] e1) → R ti (tupOf #[.int i t6, .int j t7] e2) →
      VaR w R n (.ref a) (.dbl (some (i, j)))
  | chr {n a dx li e e1 t0 t1 t2 t3 t4 t5 sh x xv at' ats} : R a (instObj 67 dx) → R dx (vecD w.params "character" t0 t1 t2 t3 t4 t5 (.ref li) at' sh e) → R li (listOf #[xv] e1) → OptV xv x → AtsR w R at' ats → AtsOk ats → VaR w R n (.ref a) (.chr x ats)
  | call {n a dx li lt e e1 e2 t0 t1 t2 t3 t4 t5 at' tvs tags vs} {items : List Va} : R a (instObj 110 dx) →
      R dx (dictOf [ent w.params "kind" t1 (.str "language" t0), ent w.params "items" t2 (.ref li), ent w.params "tags" t3 (.ref lt), ent w.params "attrs" t4 at', ent w.params "code" t5 .none] e) →
      R li (listOf (List.toArray vs) e1) → R lt (listOf (List.toArray tvs) e2) → tvs.length = tags.length → tags.length ≤ 4 → (∀ (i : Nat) v d, tvs[i]? = some v → tags[i]? = some d → OptV v d) →
      vs.length = items.length → items.length ≤ 4 → (∀ (i : Nat) v d, vs[i]? = some v → items[i]? = some d → VaR w R n v d) → VaR w R (n + 1) (.ref a) (.call tags items)
  | lst {n a dx li e e1 t0 t1 t2 t3 t4 t5 sh vs} {items : List Va} : R a (instObj 67 dx) → R dx (vecD w.params "list" t0 t1 t2 t3 t4 t5 (.ref li) .none sh e) → R li (listOf (List.toArray vs) e1) →
      vs.length = items.length → items.length ≤ 4 → (∀ (i : Nat) v d, vs[i]? = some v → items[i]? = some d → VaR w R n v d) → VaR w R (n + 1) (.ref a) (.lst items)
  | exp {n a dx li e e1 t0 t1 t2 t3 t4 t5 sh vs} {items : List Va} : R a (instObj 67 dx) → R dx (vecD w.params "expression" t0 t1 t2 t3 t4 t5 (.ref li) .none sh e) → R li (listOf (List.toArray vs) e1) →
      vs.length = items.length → items.length ≤ 4 → (∀ (i : Nat) v d, vs[i]? = some v → items[i]? = some d → VaR w R n v d) → VaR w R (n + 1) (.ref a) (.exp items)

abbrev AtH (h : Heap) : Addr → Obj → Prop := fun a o => h.get? a = some o

theorem AtsR.mono {w : World} {R R' : Addr → Obj → Prop} (k : ∀ a o, R a o → R' a o) {v ats} (h : AtsR w R v ats) : AtsR w R' v ats := by
  cases h with
  | none => exact .none
  | some h1 h2 h3 h4 h5 =>
    refine .some (k _ _ h1) h2 h3 h4 (fun p hp => ?_)
    obtain ⟨x, dx, li, e1, e2, t0, t1, t2, t3, t4, t5, t6, sh, q0, q1, q2, q3⟩ := h5 p hp
    exact ⟨x, dx, li, e1, e2, t0, t1, t2, t3, t4, t5, t6, sh, q0, k _ _ q1, k _ _ q2, k _ _ q3⟩

theorem VaR.mono {w : World} {R R' : Addr → Obj → Prop} (k : ∀ a o, R a o → R' a o) {n v d} (h : VaR w R n v d) : VaR w R' n v d := by
  induction h with
  | sym h1 h2 => exact .sym (k _ _ h1) (k _ _ h2)
  | nul h1 h2 => exact .nul (k _ _ h1) (k _ _ h2)
  | dblN h1 h2 h3 => exact .dblN (k _ _ h1) (k _ _ h2) (k _ _ h3)
  | dblT h1 h2 h3 h4 => exact .dblT (k _ _ h1) (k _ _ h2) (k _ _ h3) (k _ _ h4)
  | chr h1 h2 h3 h4 h5 h6 => exact .chr (k _ _ h1) (k _ _ h2) (k _ _ h3) h4 (h5.mono k) h6
  | call h1 h2 h3 h4 h5 h5' h6 h7 h8 _ ih => exact .call (k _ _ h1) (k _ _ h2) (k _ _ h3) (k _ _ h4) h5 h5' h6 h7 h8 ih
  | lst h1 h2 h3 h4 h5 _ ih => exact .lst (k _ _ h1) (k _ _ h2) (k _ _ h3) h4 h5 ih
  | exp h1 h2 h3 h4 h5 _ ih => exact .exp (k _ _ h1) (k _ _ h2) (k _ _ h3) h4 h5 ih

theorem VaR.le {w : World} {R : Addr → Obj → Prop} {n n' v d} (h : VaR w R n v d) (hn : n ≤ n') : VaR w R n' v d := by
  induction h generalizing n' with
  | sym h1 h2 => exact .sym h1 h2
  | nul h1 h2 => exact .nul h1 h2
  | dblN h1 h2 h3 => exact .dblN h1 h2 h3
  | dblT h1 h2 h3 h4 => exact .dblT h1 h2 h3 h4
  | chr h1 h2 h3 h4 h5 h6 => exact .chr h1 h2 h3 h4 h5 h6
  | call h1 h2 h3 h4 h5 h5' h6 h7 h8 _ ih =>
    obtain ⟨m, rfl⟩ : ∃ m, n' = m + 1 := ⟨n' - 1, by omega⟩
    exact .call h1 h2 h3 h4 h5 h5' h6 h7 h8 fun i v d a b => ih i v d a b (by omega)
  | lst h1 h2 h3 h4 h5 _ ih =>
    obtain ⟨m, rfl⟩ : ∃ m, n' = m + 1 := ⟨n' - 1, by omega⟩
    exact .lst h1 h2 h3 h4 h5 fun i v d a b => ih i v d a b (by omega)
  | exp h1 h2 h3 h4 h5 _ ih =>
    obtain ⟨m, rfl⟩ : ∃ m, n' = m + 1 := ⟨n' - 1, by omega⟩
    exact .exp h1 h2 h3 h4 h5 fun i v d a b => ih i v d a b (by omega)

/-- the list of values at a list's address -/
structure VasR (w : World) (R : Addr → Obj → Prop) (n : Nat) (vs : List Value) (ds : List Va) : Prop where
  len : vs.length = ds.length
  le : ds.length ≤ 4
  at' : ∀ (i : Nat) v d, vs[i]? = some v → ds[i]? = some d → VaR w R n v d

inductive PlR (R : Addr → Obj → Prop) : Nat → Value → Pl → Prop
  | leaf {n a e k p q t0 t1 t2} : R a (listOf #[.int k t0, .int p t1, .int q t2] e) → 0 ≤ k → k < 4 → 0 ≤ p → p < 5 → 0 ≤ q → q < 3 → PlR R n (.ref a) (.leaf k p q)
  | node {n a b c e e1 e2 k s t0 t1 tvs vs} {tags : List Int} {parts : List Pl} : R a (listOf #[.int k t0, .int s t1, .ref b, .ref c] e) → R b (listOf (List.toArray tvs) e1) → R c (listOf (List.toArray vs) e2) →
      4 ≤ k → k < 7 → 0 ≤ s → s < 3 → IntsAre tvs tags → tags.length = parts.length → (∀ t ∈ tags, 0 ≤ t ∧ t < 2) → vs.length = parts.length → parts.length ≤ 3 →
      (∀ (i : Nat) v d, vs[i]? = some v → parts[i]? = some d → PlR R n v d) → PlR R (n + 1) (.ref a) (.node k s tags parts)

theorem PlR.mono {R R' : Addr → Obj → Prop} (k : ∀ a o, R a o → R' a o) {n v d} (h : PlR R n v d) : PlR R' n v d := by
  induction h with
  | leaf h1 a b c d e f => exact .leaf (k _ _ h1) a b c d e f
  | node h1 h2 h3 a b c d e f g h i _ ih => exact .node (k _ _ h1) (k _ _ h2) (k _ _ h3) a b c d e f g h i ih

theorem inst_of {h h' : Heap} {x dx C : Addr} {od : Obj} (k : ∀ b o, h.get? b = some o → h'.get? b = some o) (h1 : h.get? x = some (instObj C dx)) (h2 : h.get? dx = some od) :
    InstAt h' x (instObj C dx) C (some od) := ⟨k _ _ h1, rfl, rfl, k _ _ h2⟩


/-- a def called with nothing of the caller's to be changed: the callee's ground is the heap itself -/
theorem code_ro {prog : Program} {w : World} {A₀ A : Around} {s : Shared} {base h₀ : Heap} {outer : List Env} {L : Addr} {m : Str → Option Value} {env : Env} {K : Frag} {p : Program} {loose : List Str} {mean : ExcName → Option Value} {mg mb : Str → Option Value}
    {R : Result → Shared → Prop} {name qual : Str} {params : Arguments} {body : List Stmt} {scope : Scope} {dV kV doc pm cdv ct oc : Value} {an od : Option Addr} {osl : Array (Option Value)} {f : Addr} {args : Args} {binds : List (Str × Value)}
    (B : Below A₀ base outer h₀) (F : Fr h₀ L s.heap m) (X₀ : K.In h₀) (T : Top p loose mean mg mb h₀) (hA : A.frames = some (env :: outer)) (hf : env.frame = some L) (hke : env.scope.kind = .function)
    (ho : K.lookup f = some ⟨oc, od, .func (fnOf name qual params body scope dV kV doc pm an cdv ct), osl⟩) (hcd : codeIn K cdv qual = true) (hroom : A.depth < recursionLimit)
    (hbind : BindsTo s (fnOf name qual params body scope dV kV doc pm an cdv ct) args binds) (hloc : ∀ y ∈ binds, scope.names.lookup y.1 = some .local)
    (h : ∀ L' h₁, Fr s.heap L' h₁ (fun y => binds.reverse.lookup y) → News s.heap L' h₁ [] → Below A base (env :: outer) s.heap → K.In s.heap → Top p loose mean mg mb s.heap →
      wpAny (model prog w) (A.deeper (envOf qual scope L' f cdv)) (execs body (envOf qual scope L' f cdv))
        (fun fl s' => LeaveK h₀ L m s.heap R (match fl with | .ret v => v | _ => .none) s')
        (fun e s' => wpAny (model prog w) (A.deeper (envOf qual scope L' f cdv)) (leaving (envOf qual scope L' f cdv) e) (fun _ s'' => R (.error e) s'') (fun e' s'' => R (.error e') s'') s')
        { s with heap := h₁, toks := s.toks + binds.length })
    (hco : scope.isCoroutine = false) (hgen : scope.isGenerator = false) (hk : scope.kind = .function)
    (hcell : ∀ x ∈ scope.names, x.2 ≠ .cell) : codeAny (model prog w) A (.call (.ref f) args) R s := by
  have N : News h₀ L s.heap [] := News.nil
  obtain ⟨FG, BG, st, lv⟩ := groundX (R := R) B F N hA hf hke
  refine codeAny_call_def (fd := fnX name qual params body scope [] dV kV doc pm an cdv ct) (body := body) (binds := binds) hroom ((X₀.keeps F.keep) _ _ ho) rfl (T.nolimit.keeps F.keep) (codeRec_of (X₀.keeps F.keep) hcd) rfl hbind hcell hloc (fun h₁ hns hk₁ => ?_) hco hgen hk
  exact wpAny_mono (h s.heap.objs.size h₁ ⟨hns, fun b o e => hk₁ b o e, Nat.le_refl _⟩
    News.nil BG (X₀.keeps st) (T.keeps st)) (fun fl s' hl => lv _ _ hl) fun _ _ y => y

/-- a call that changes nothing that stands and hands back a bool -/
def RoB (w : World) (cost : Nat) (h : Heap) (f : Addr) (vs : List Value) (b : Bool) : Prop :=
  ∀ (mean : ExcName → Option Value) (mg mb : Str → Option Value) (dp un : Nat) (gd : Option (List Code)) (cn : Str) (cs : Scope) (a : Addr) (ccd : Value) (cl : List (Str × Addr)) (outer : List Env) (A₀ : Around) (base h₀ : Heap) (L : Addr) (m : Str → Option Value) (s : Shared) (Q E : Value → Shared → Prop),
    s.heap = h → Below A₀ base outer h₀ → Fr h₀ L s.heap m → (hd.heap_39 w.params).In h₀ → Top hd.view_39 (looseW hd.view_39 [Str.ofString "list_of"]) mean mg mb h₀ → cs.kind = .function → dp + cost < recursionLimit → un + 20 * cost < cLine →
    (∀ h' tk', s.heap.StaysIn h' → Q (.bool b) { s with heap := h', toks := tk' }) →
    wpAny (model PySem.Challenge.rw_pq1391_01.row.prog w) (ktrTop dp un gd cn cs L a ccd cl outer) (call (.ref f) vs) Q E s



theorem rows_1 : True := by
  k_with_none
  (k_with "my k_inst" => (refine' inst_of ?k ?a ?b; (case k => exact Fr.keep (by k_asm)); (case a => assumption); (case b => assumption)))
  (k_with "my ktr_enter" => (refine' code_ro ?k1 ?k2 ?k3 ?k5 ?kA ?kF ?kK ?k6 ?k7 ?k8 ?k9 ?kB ?_ ?c2 ?c3 ?c4 ?c5; (case kA => exact rfl); (case kF => exact rfl); (case kK => assumption); (case k1 => k_asm); (case k2 => k_asm); (case k3 => k_asm); (case k5 => k_asm); (case k6 => k_is); (case k7 => k_is); (case k8 => ktr_room); (case k9 => first | exact BindsTo.of_eq rfl | exact binds_K (by k_in) rfl (by k_is) rfl rfl rfl | fail "k_enter: no rule for these arguments"); (case c5 => decide); (case kB => exact locs rfl); (case c2 => exact rfl); (case c3 => exact rfl); (case c4 => exact rfl); k_whole))
  exact trivial
noncomputable def optD : Option Str → PyData
  | none => .none
  | some s => .str s
theorem reads_opt {h : Heap} {v : Value} {x : Option Str} (p : OptV v x) : Reads h v (optD x) [] := by
  cases p with
  | none => exact .none
  | some _ => exact .str _ _
theorem eqv_opt (x y : Option Str) : PyData.eqv (optD x) (optD y) = (x == y) := by
  cases x <;> cases y <;> simp [optD, PyData.eqv]
theorem readsAll_opts {h : Heap} : ∀ {vs : List Value} {ds : List (Option Str)}, vs.length = ds.length → (∀ (i : Nat) v d, vs[i]? = some v → ds[i]? = some d → OptV v d) → ReadsAll h vs (ds.map optD) []
  | [], [], _, _ => .nil
  | [], _ :: _, e, _ => nomatch e
  | _ :: _, [], e, _ => nomatch e
  | v :: vs, d :: ds, e, k => by
    have h1 := reads_opt (h := h) (k 0 v d rfl rfl)
    have h2 := readsAll_opts (h := h) (vs := vs) (ds := ds) (by simpa using e) (fun i v d a b => k (i + 1) v d (by simpa using a) (by simpa using b))
    simpa using ReadsAll.cons h1 h2
theorem eqvAll_opts : ∀ as bs : List (Option Str), PyData.eqvAll (as.map optD) (bs.map optD) = (as == bs)
  | [], [] => by simp [PyData.eqvAll]
  | [], _ :: _ => by simp [PyData.eqvAll]
  | _ :: _, [] => by simp [PyData.eqvAll]
  | a :: r, b :: t => by
    simp only [List.map_cons, PyData.eqvAll, eqv_opt, eqvAll_opts r t]
    rfl
noncomputable def optOk : Option Str → Bool
  | none => true
  | some s => PyData.strOk s
theorem OptV.ok {v : Value} {x : Option Str} (p : OptV v x) : optOk x = true := by
  cases p with
  | none => rfl
  | some h => exact h
theorem opts_ok {vs : List Value} {ds : List (Option Str)} (e : vs.length = ds.length) (k : ∀ (i : Nat) v d, vs[i]? = some v → ds[i]? = some d → OptV v d) : ds.all optOk = true := by
  rw [List.all_eq_true]
  intro d hd
  obtain ⟨i, hi, rfl⟩ := List.getElem_of_mem hd
  exact (k i (vs[i]'(by omega)) ds[i] (List.getElem?_eq_getElem _) (List.getElem?_eq_getElem _)).ok
theorem canLayAll_opts : ∀ ds : List (Option Str), ds.all optOk = true → PyData.canLayAll0 (ds.map optD) = true
  | [], _ => by simp [PyData.canLayAll0]
  | none :: r, h => by
    have := canLayAll_opts r (by simpa [optOk] using h)
    simp [PyData.canLayAll0, PyData.canLay0, optD, this]
  | some s :: r, h => by
    have h' : PyData.strOk s = true ∧ r.all optOk = true := by simpa [optOk] using h
    have := canLayAll_opts r h'.2
    simp [PyData.canLayAll0, PyData.canLay0, optD, this, h'.1]
theorem depthAll_opts : ∀ ds : List (Option Str), PyData.depthAll (ds.map optD) = 0
  | [] => rfl
  | none :: r => by simp [PyData.depthAll, PyData.depth, optD, depthAll_opts r]
  | some _ :: r => by simp [PyData.depthAll, PyData.depth, optD, depthAll_opts r]
theorem shaped_opts (ds : List (Option Str)) (h : ds.all optOk = true) : PySem.SeqAt.shaped (.list (ds.map optD)) = true := by
  simp [PySem.SeqAt.shaped, PyData.canLay0, PyData.depth, canLayAll_opts ds h, depthAll_opts]
section
variable {prog : Program} {w : World} {A : Around} {E : Value → Shared → Prop} {s : Shared} {a b : Addr} {Q : Value → Shared → Prop}
theorem eq_opts {vs us : List Value} {ds es : List (Option Str)} {n k : Nat} (p : s.heap.get? a = some (listOf vs.toArray n)) (q : s.heap.get? b = some (listOf us.toArray k))
    (h1 : vs.length = ds.length) (h2 : ∀ (i : Nat) v d, vs[i]? = some v → ds[i]? = some d → OptV v d) (h3 : us.length = es.length) (h4 : ∀ (i : Nat) v d, us[i]? = some v → es[i]? = some d → OptV v d)
    (hu : A.units + 64 < cLine) (h : Q (.bool (ds == es)) s) : wpAny (model prog w) A (compareOp .Eq (.ref a) (.ref b)) Q E s :=
  eq_dataH (reads_list_at p rfl rfl (readsAll_opts (vs := vs) h1 h2)) (reads_list_at q rfl rfl (readsAll_opts (vs := us) h3 h4)) (shaped_opts ds (opts_ok h1 h2)) (shaped_opts es (opts_ok h3 h4)) hu (by rw [PyData.eqv, eqvAll_opts]; exact h)
theorem eq_opt1 {v u : Value} {x y : Option Str} {n k : Nat} (p : s.heap.get? a = some (listOf #[v] n)) (q : s.heap.get? b = some (listOf #[u] k)) (h1 : OptV v x) (h2 : OptV u y)
    (hu : A.units + 64 < cLine) (h : Q (.bool (x == y)) s) : wpAny (model prog w) A (compareOp .Eq (.ref a) (.ref b)) Q E s :=
  eq_opts (vs := [v]) (us := [u]) (ds := [x]) (es := [y]) p q rfl (fun i v' d e1 e2 => by cases i with | zero => cases e1; cases e2; exact h1 | succ i => simp at e1)
    rfl (fun i v' d e1 e2 => by cases i with | zero => cases e1; cases e2; exact h2 | succ i => simp at e1) hu (by rw [show ([x] == [y]) = (x == y) from by cases h9 : (x == y) <;> simp_all]; exact h)
end

theorem rows_2 : True := by
  k_with_none
  (k_with "my k_inst" => (refine' inst_of ?k ?a ?b; (case k => exact Fr.keep (by k_asm)); (case a => assumption); (case b => assumption)))
  (k_with "my ktr_enter" => (refine' code_ro ?k1 ?k2 ?k3 ?k5 ?kA ?kF ?kK ?k6 ?k7 ?k8 ?k9 ?kB ?_ ?c2 ?c3 ?c4 ?c5; (case kA => exact rfl); (case kF => exact rfl); (case kK => assumption); (case k1 => k_asm); (case k2 => k_asm); (case k3 => k_asm); (case k5 => k_asm); (case k6 => k_is); (case k7 => k_is); (case k8 => ktr_room); (case k9 => first | exact BindsTo.of_eq rfl | exact binds_K (by k_in) rfl (by k_is) rfl rfl rfl | fail "k_enter: no rule for these arguments"); (case c5 => decide); (case kB => exact locs rfl); (case c2 => exact rfl); (case c3 => exact rfl); (case c4 => exact rfl); k_whole))
  exact trivial
theorem isList_of {h : Heap} {l : Addr} {its : Array Value} {n : Nat} (p : h.get? l = some (listOf its n)) : h.IsList l its := ⟨_, p, rfl, _, rfl⟩

theorem RoB.use {w : World} {cost : Nat} {f : Addr} {vs : List Value} {b : Bool} {mean : ExcName → Option Value} {mg mb : Str → Option Value} {dp un : Nat} {gd : Option (List Code)} {cn : Str} {cs : Scope} {a : Addr} {ccd : Value} {cl : List (Str × Addr)} {outer : List Env} {A₀ : Around} {base h₀ : Heap} {L : Addr} {m : Str → Option Value} {s : Shared} {news : List (Addr × Obj)} {Q E : Value → Shared → Prop}
    (C : RoB w cost s.heap f vs b) (B : Below A₀ base outer h₀) (F : Fr h₀ L s.heap m) (X : (hd.heap_39 w.params).In h₀) (N : News h₀ L s.heap news) (T : Top hd.view_39 (looseW hd.view_39 [Str.ofString "list_of"]) mean mg mb h₀) (hk : cs.kind = .function) (hd : dp + cost < recursionLimit) (hu : un + 20 * cost < cLine)
    (ret : ∀ h' tk', s.heap.StaysIn h' → Fr h₀ L h' m → News h₀ L h' news → Q (.bool b) { s with heap := h', toks := tk' }) :
    wpAny (model PySem.Challenge.rw_pq1391_01.row.prog w) (ktrTop dp un gd cn cs L a ccd cl outer) (call (.ref f) vs) Q E s :=
  C mean mg mb dp un gd cn cs a ccd cl outer A₀ base h₀ L m s Q E rfl B F X T hk hd hu fun h' tk' k => ret h' tk' k (F.keeps k) (N.grown k)


theorem rows_3 : True := by
  k_with_none
  (k_with "my k_inst" => (refine' inst_of ?k ?a ?b; (case k => exact Fr.keep (by k_asm)); (case a => assumption); (case b => assumption)))
  (k_with "my ktr_enter" => (refine' code_ro ?k1 ?k2 ?k3 ?k5 ?kA ?kF ?kK ?k6 ?k7 ?k8 ?k9 ?kB ?_ ?c2 ?c3 ?c4 ?c5; (case kA => exact rfl); (case kF => exact rfl); (case kK => assumption); (case k1 => k_asm); (case k2 => k_asm); (case k3 => k_asm); (case k5 => k_asm); (case k6 => k_is); (case k7 => k_is); (case k8 => ktr_room); (case k9 => first | exact BindsTo.of_eq rfl | exact binds_K (by k_in) rfl (by k_is) rfl rfl rfl | fail "k_enter: no rule for these arguments"); (case c5 => decide); (case kB => exact locs rfl); (case c2 => exact rfl); (case c3 => exact rfl); (case c4 => exact rfl); k_whole))
  (k_with "my ktr_room" => ((simp only [depth_under_make, depth_under_kw, depth_in1, depth_deeper, depth_caller, recursionLimit] at *); omega))
  (k_with "my ktr_units" => ((simp only [units_in1, units_deeper, Around.mark_units, units_caller, cLine] at *); omega))
  exact trivial
set_option maxRecDepth 100000 in
set_option maxHeartbeats 8000000 in
/-- the attributes of two vectors without any -/
theorem sa_none {w : World} {h : Heap} {C a dx k li e t0 t1 t2 t3 t4 t5 sh C' a' dx' k' li' e' t0' t1' t2' t3' t4' t5' sh'}
    (hC : C = 67) (hC' : C' = 67)
    (p1 : h.get? a = some (instObj C dx)) (p2 : h.get? dx = some (vecD w.params k t0 t1 t2 t3 t4 t5 li .none sh e))
    (q1 : h.get? a' = some (instObj C' dx')) (q2 : h.get? dx' = some (vecD w.params k' t0' t1' t2' t3' t4' t5' li' .none sh' e')) :
    RoB w 4 h 176 [.ref a, .ref a'] true := by
  subst hC hC'
  intro mean mg mb dp un gd cn cs ca ccd cl outer A₀ base h₀ L m s Q E hs B F X T hk hd hu hret
  subst hs
  w_on
  revert X T
  k_fill
  intro X T
  refine wpAny_call ?_
  k_dflt ktr_enter
  intro L' h' F' N' B' X' T'
  (try dsimp only)
  k_fold
  k_steps
  refine hret _ _ ?_
  exact Fr.keep (by assumption)

set_option maxRecDepth 100000 in
set_option maxHeartbeats 8000000 in
/-- two texts without attributes -/
theorem le_text {w : World} {h : Heap} {a dx li e e1 t0 t1 t2 t3 t4 t5 sh xv x a' dx' li' e' e1' t0' t1' t2' t3' t4' t5' sh' xv' x'}
    (p1 : h.get? a = some (instObj 67 dx)) (p2 : h.get? dx = some (vecD w.params "character" t0 t1 t2 t3 t4 t5 (.ref li) .none sh e)) (p3 : h.get? li = some (listOf #[xv] e1)) (p4 : OptV xv x)
    (q1 : h.get? a' = some (instObj 67 dx')) (q2 : h.get? dx' = some (vecD w.params "character" t0' t1' t2' t3' t4' t5' (.ref li') .none sh' e')) (q3 : h.get? li' = some (listOf #[xv'] e1')) (q4 : OptV xv' x') :
    RoB w 10 h 183 [.ref a, .ref a'] (x == x') := by
  intro mean mg mb dp un gd cn cs ca ccd cl outer A₀ base h₀ L m s Q E hs B F X T hk hd hu hret
  subst hs
  w_on
  revert X T
  k_fill
  intro X T
  refine wpAny_call ?_
  k_dflt ktr_enter
  intro L' h' F' N' B' X' T'
  (try dsimp only)
  k_fold
  k_steps
  refine' RoB.use (sa_none rfl rfl (Fr.keep ‹_› _ _ p1) (Fr.keep ‹_› _ _ p2) (Fr.keep ‹_› _ _ q1) (Fr.keep ‹_› _ _ q2)) ?k1 ?k2 ?k3 ?k4 ?k5 ?k6 ?k7 ?k8 ?_
  (case k1 => k_asm); (case k2 => k_asm); (case k3 => k_asm); (case k4 => k_asm); (case k5 => k_asm); (case k6 => first | exact rfl | assumption); (case k7 => ktr_room); (case k8 => ktr_units)
  intro h2 tk2 st2 F2 N2
  (try k_sweep)
  k_steps
  refine eq_opt1 (Fr.keep (by k_asm) _ _ p3) (Fr.keep (by k_asm) _ _ q3) p4 q4 (by ktr_units) ?_
  k_steps
  refine hret _ _ ?_
  exact Fr.keep (by assumption)
section
variable {prog : Program} {w : World} {A : Around} {E : Value → Shared → Prop} {s : Shared}
/-- sorted of a dict keyed by texts -/
theorem sorted_dict {h₀ : Heap} {L d : Addr} {m : Str → Option Value} {news : List (Addr × Obj)} {kvs : List (Str × Value)} {Q : Value → Shared → Prop} (lo : (d == sysModules) = false) (hD : s.heap.DictOf (PySem.strKind prog w) d kvs) (h64 : kvs.length < 64)
    (hh : A.handled = none) (F : Fr h₀ L s.heap m) (N : News h₀ L s.heap news)
    (h : ∀ (D : Addr) (h' : Heap) (tk : Nat) (vs' : List Value) (ss' : List Str) (e : Nat), Fr h₀ L h' m → News h₀ L h' ((D, listOf vs'.toArray e) :: news) → (∀ q ∈ news, q.1 < D) → StrsAre vs' ss' → ss'.Perm (kvs.map (·.1)) → sortedS ss' = true →
      Q (.ref D) { s with heap := h', toks := tk }) :
    wpAny (model prog w) A (call (.builtin "sorted") [.ref d]) Q E s := by
  obtain ⟨ep, hat⟩ := hD.dictAt
  refine kdu_sorted (kdl_dict (knd := PySem.strKind prog w) (kvs := kvs) (ep := ep) lo) hh F N hat (kdl_size (by omega)) fun D h' tk vs F' N' l1 hl hv => ?_
  have hS : StrsAre vs (kvs.map (·.1)) := by
    clear F' N' l1 hD hat h
    induction vs generalizing kvs with
    | nil => cases kvs with
      | nil => exact .nil
      | cons _ _ => simp at hl
    | cons v r ih => cases kvs with
      | nil => simp at hl
      | cons p q =>
        obtain ⟨k, x, hx, hk⟩ := hv 0 v rfl
        cases hx
        obtain ⟨t, rfl⟩ : ∃ t, v = .str k t := by
          simp only [PySem.strKind, Value.isStrOf] at hk
          split at hk <;> first | (rw [beq_iff_eq] at hk; subst hk; exact ⟨_, rfl⟩) | cases hk
        exact .cons _ _ (ih (by simp at h64; omega) (by simpa using hl) fun j v e => hv (j + 1) v (by simpa using e))
  have hoL : h'.get? D = some (seqObj "list" vs.toArray 0) := (N' _ (.head _)).1
  refine wpAny_call_entry slot_list_sort ⟨_, hoL, rfl⟩ entry_list_sort (list_sort_treeK strKind_oneLt hoL hS.keysOf (fun v₁ v₂ rest e => keyKind_strs (by rw [← e]; exact hS)) (by omega) fun st' hp hs => ⟨_, rfl, ?_⟩) (args_list_sort _)
  obtain ⟨ss', h1, h2, h3⟩ := sorted_out_str hS hp hs
  obtain ⟨e, he⟩ := sortedHeap_at (out := (arrOf st').map (·.2)) hoL
  have old : ∀ b o, b ≠ D → h'.get? b = some o → (sortedHeap h' D vs ((arrOf st').map (·.2))).get? b = some o := fun b o hb ho => (sortedHeap_old hb (Heap.lt_size ho)).trans ho
  have hDn := (N' _ (.head _)).2
  refine h D _ tk _ ss' e ⟨F'.ns.at' fun o eo => old _ _ (Ne.symm hDn.1) eo, fun b o eo => old _ _ (fun q => ?_) (F'.keep b o eo), F'.above⟩ (fun p hp => ?_) l1 h1 h2 h3
  · rw [q, hDn.2] at eo; cases eo
  · rcases List.mem_cons.mp hp with rfl | hp
    · exact ⟨by rw [he], hDn⟩
    · have z := N' _ (.tail _ hp)
      exact ⟨old _ _ (Nat.ne_of_lt (l1 _ hp)) z.1, z.2⟩

theorem dictOf_at {h₀ : Heap} {L d : Addr} {m : Str → Option Value} {o : Obj} {kvs : List (Str × Value)} {h : Heap} (F : Fr h₀ L h m) (hd : h₀.get? d = some o) (ho : o.IsDictOf (PySem.strKind prog w) kvs) : h.DictOf (PySem.strKind prog w) d kvs :=
  Heap.dictOf_iff.mpr ⟨o, F.keep _ _ hd, ho⟩
theorem dict_item {h₀ : Heap} {L d : Addr} {m : Str → Option Value} {o : Obj} {kvs : List (Str × Value)} {x : Str} {t : Tok} {v : Value} {value slice : PySem.Expr} {Q : Value → Shared → Prop} (F : Fr h₀ L s.heap m) (hd : h₀.get? d = some o) (ho : o.IsDictOf (PySem.strKind prog w) kvs)
    (hl : valueAt kvs x = some v) (h : Q v { s with toks := s.toks + 1 })
    (hs : subscripted slice false (.ref d) (.str x t) = operate [.ref d, .str x t] (getItem (.ref d) (.str x t)) := by with_unfolding_all rfl) (hg : ∀ r, letTemporaryGo value (.ref d) r = pure () := by intro _; with_unfolding_all rfl) :
    wpAny (model prog w) A (subscriptTail value slice (.ref d) (.str x t)) Q E s :=
  have hD := dictOf_at F hd ho
  subscriptTail_builtin hD.typeIs slot_dict_getitem.lookup (wpAny_getItem_of (strKind_is _ _ _ _) hD.mapOf hl h) hs hg
end
abbrev sUnit : Str := Str.ofString "unit"
abbrev sNames : Str := Str.ofString "names"
theorem perm_two {α : Type} {x y a b : α} (h : [x, y].Perm [a, b]) : (x = a ∧ y = b) ∨ (x = b ∧ y = a) := by
  have hx : x ∈ [a, b] := h.subset (List.mem_cons_self ..)
  rcases List.mem_cons.mp hx with rfl | hx
  · exact .inl ⟨rfl, by have := (List.perm_cons _).mp h; simpa using List.perm_singleton.mp this⟩
  · have hx := List.mem_singleton.mp hx
    subst hx
    have := (List.perm_cons _).mp (h.trans (List.Perm.swap ..))
    exact .inr ⟨rfl, by simpa using List.perm_singleton.mp this⟩
theorem sorted_one {vs : List Value} {ss : List Str} {a : Str} (h : StrsAre vs ss) (p : ss.Perm [a]) : ∃ t, vs = [.str a t] := by
  rw [List.perm_singleton] at p
  subst p
  cases h with
  | cons _ t r => cases r; exact ⟨t, rfl⟩
theorem sorted_two {vs : List Value} {ss : List Str} (h : StrsAre vs ss) (p : ss.Perm [sUnit, sNames] ∨ ss.Perm [sNames, sUnit]) (k : sortedS ss = true) : ∃ t t', vs = [.str sNames t, .str sUnit t'] := by
  have p : ss.Perm [sUnit, sNames] := p.elim id fun q => q.trans (List.Perm.swap ..)
  have hl := p.length_eq
  match ss, hl, h with
  | [x, y], _, .cons _ t (.cons _ t' .nil) =>
    rcases perm_two p with ⟨rfl, rfl⟩ | ⟨rfl, rfl⟩
    · exact absurd k (by decide)
    · exact ⟨t, t', rfl⟩

theorem len_dict1 {prog : Program} {w : World} {A : Around} {E : Value → Shared → Prop} {s : Shared} {d : Addr} {p : Str × Value} {Q : Value → Shared → Prop} (lo : (d == sysModules) = false) (hD : s.heap.DictOf (PySem.strKind prog w) d [p])
    (h : Q (.int 1 (s.toks + 1)) { s with toks := s.toks + 1 + 1 }) : wpAny (model prog w) A (call (.builtin "len") [.ref d]) Q E s := call_len_dict lo hD (by simp) h
theorem len_dict2 {prog : Program} {w : World} {A : Around} {E : Value → Shared → Prop} {s : Shared} {d : Addr} {p q : Str × Value} {Q : Value → Shared → Prop} (lo : (d == sysModules) = false) (hD : s.heap.DictOf (PySem.strKind prog w) d [p, q])
    (h : Q (.int 2 (s.toks + 1)) { s with toks := s.toks + 1 + 1 }) : wpAny (model prog w) A (call (.builtin "len") [.ref d]) Q E s := call_len_dict lo hD (by simp) h


theorem rows_4 : True := by
  k_with_none
  (k_with "my k_inst" => (refine' inst_of ?k ?a ?b; (case k => exact Fr.keep (by k_asm)); (case a => assumption); (case b => assumption)))
  (k_with "my ktr_enter" => (refine' code_ro ?k1 ?k2 ?k3 ?k5 ?kA ?kF ?kK ?k6 ?k7 ?k8 ?k9 ?kB ?_ ?c2 ?c3 ?c4 ?c5; (case kA => exact rfl); (case kF => exact rfl); (case kK => assumption); (case k1 => k_asm); (case k2 => k_asm); (case k3 => k_asm); (case k5 => k_asm); (case k6 => k_is); (case k7 => k_is); (case k8 => ktr_room); (case k9 => first | exact BindsTo.of_eq rfl | exact binds_K (by k_in) rfl (by k_is) rfl rfl rfl | fail "k_enter: no rule for these arguments"); (case c5 => decide); (case kB => exact locs rfl); (case c2 => exact rfl); (case c3 => exact rfl); (case c4 => exact rfl); k_whole))
  (k_with "my ktr_room" => ((simp only [depth_under_make, depth_under_kw, depth_in1, depth_deeper, depth_caller, recursionLimit] at *); omega))
  (k_with "my ktr_units" => ((simp only [units_in1, units_deeper, Around.mark_units, units_caller, cLine] at *); omega))
  (k_with "my call builtin:len" => (k_here; k_dflt (first | refine len_dict1 (by assumption) (dictOf_at (by k_asm) (by assumption) (by assumption)) ?_ | refine len_dict2 (by assumption) (dictOf_at (by k_asm) (by assumption) (by assumption)) ?_)))
  (k_with "my subscriptTail" => (k_here; k_dflt (refine dict_item (by k_asm) (by assumption) (by assumption) (by rfl) ?_)))
  (k_with "my call builtin:sorted" => (k_here; k_dflt (refine sorted_dict (by assumption) (dictOf_at (by k_asm) (by assumption) (by assumption)) (by simp only [List.length_cons, List.length_nil]; decide) rfl (by k_asm) (by k_asm) ?_); intro D' h' tk' vs' ss' e' F' N' l1 hS' hP' hO'; (try k_lt l1); (first | (have hV' := sorted_one hS' hP'; obtain ⟨t1', hV'⟩ := hV'; subst hV'; clear hS' hP' hO') | (have hV' := sorted_two hS' (Or.inl hP') hO'; obtain ⟨t1', t2', hV'⟩ := hV'; subst hV'; clear hS' hP' hO') | (have hV' := sorted_two hS' (Or.inr hP') hO'; obtain ⟨t1', t2', hV'⟩ := hV'; subst hV'; clear hS' hP' hO')); (try k_sweep)))
  exact trivial
/-- a text without attributes -/
def IsTxt (w : World) (h : Heap) (v : Value) (x : Str) : Prop := ∃ a dx li e1 e2 t0 t1 t2 t3 t4 t5 t6 sh, v = .ref a ∧ h.get? a = some (instObj 67 dx) ∧ h.get? dx = some (vecD w.params "character" t0 t1 t2 t3 t4 t5 (.ref li) .none sh e1) ∧ h.get? li = some (listOf #[.str x t6] e2)
theorem IsTxt.keep {w : World} {h h' : Heap} {v : Value} {x : Str} (t : IsTxt w h v x) (k : ∀ b o, h.get? b = some o → h'.get? b = some o) : IsTxt w h' v x := by
  obtain ⟨a, dx, li, e1, e2, t0, t1, t2, t3, t4, t5, t6, sh, q0, q1, q2, q3⟩ := t
  exact ⟨a, dx, li, e1, e2, t0, t1, t2, t3, t4, t5, t6, sh, q0, k _ _ q1, k _ _ q2, k _ _ q3⟩
theorem le_txt {w : World} {h : Heap} {v v' : Value} {x : Str} (hx : PyData.strOk x = true) (p : IsTxt w h v x) (q : IsTxt w h v' x) : RoB w 10 h 183 [v, v'] true := by
  obtain ⟨a, dx, li, e1, e2, t0, t1, t2, t3, t4, t5, t6, sh, rfl, p1, p2, p3⟩ := p
  obtain ⟨a', dx', li', e1', e2', t0', t1', t2', t3', t4', t5', t6', sh', rfl, q1, q2, q3⟩ := q
  have := le_text p1 p2 p3 (.some hx) q1 q2 q3 (.some hx)
  simpa using this


theorem rows_5 : True := by
  k_with_none
  (k_with "my k_inst" => (refine' inst_of ?k ?a ?b; (case k => exact Fr.keep (by k_asm)); (case a => assumption); (case b => assumption)))
  (k_with "my ktr_enter" => (refine' code_ro ?k1 ?k2 ?k3 ?k5 ?kA ?kF ?kK ?k6 ?k7 ?k8 ?k9 ?kB ?_ ?c2 ?c3 ?c4 ?c5; (case kA => exact rfl); (case kF => exact rfl); (case kK => assumption); (case k1 => k_asm); (case k2 => k_asm); (case k3 => k_asm); (case k5 => k_asm); (case k6 => k_is); (case k7 => k_is); (case k8 => ktr_room); (case k9 => first | exact BindsTo.of_eq rfl | exact binds_K (by k_in) rfl (by k_is) rfl rfl rfl | fail "k_enter: no rule for these arguments"); (case c5 => decide); (case kB => exact locs rfl); (case c2 => exact rfl); (case c3 => exact rfl); (case c4 => exact rfl); k_whole))
  (k_with "my ktr_room" => ((simp only [depth_under_make, depth_under_kw, depth_in1, depth_deeper, depth_caller, recursionLimit] at *); omega))
  (k_with "my ktr_units" => ((simp only [units_in1, units_deeper, Around.mark_units, units_caller, cLine] at *); omega))
  (k_with "my call builtin:len" => (k_here; k_dflt (first | refine len_dict1 (by assumption) (dictOf_at (by k_asm) (by assumption) (by assumption)) ?_ | refine len_dict2 (by assumption) (dictOf_at (by k_asm) (by assumption) (by assumption)) ?_)))
  (k_with "my subscriptTail" => (k_here; k_dflt (refine dict_item (by k_asm) (by assumption) (by assumption) (by rfl) ?_)))
  (k_with "my call builtin:sorted" => (k_here; k_dflt (refine sorted_dict (by assumption) (dictOf_at (by k_asm) (by assumption) (by assumption)) (by simp only [List.length_cons, List.length_nil]; decide) rfl (by k_asm) (by k_asm) ?_); intro D' h' tk' vs' ss' e' F' N' l1 hS' hP' hO'; (try k_lt l1); (first | (have hV' := sorted_one hS' hP'; obtain ⟨t1', hV'⟩ := hV'; subst hV'; clear hS' hP' hO') | (have hV' := sorted_two hS' (Or.inl hP') hO'; obtain ⟨t1', t2', hV'⟩ := hV'; subst hV'; clear hS' hP' hO') | (have hV' := sorted_two hS' (Or.inr hP') hO'; obtain ⟨t1', t2', hV'⟩ := hV'; subst hV'; clear hS' hP' hO')); (try k_sweep)))
  (k_with "my call ref" => (k_here; k_dflt (refine' RoB.use (le_txt ?c (IsTxt.keep ?a (Fr.keep (by k_asm))) (IsTxt.keep ?b (Fr.keep (by k_asm)))) ?k1 ?k2 ?k3 ?k4 ?k5 ?k6 ?k7 ?k8 ?_; (case a => assumption); (case b => assumption); (case c => decide +kernel); (case k1 => k_asm); (case k2 => k_asm); (case k3 => k_asm); (case k4 => k_asm); (case k5 => k_asm); (case k6 => first | exact rfl | assumption); (case k7 => ktr_room); (case k8 => ktr_units)); intro h2' tk2' st2' F2' N2'; (try k_sweep)))
  exact trivial
theorem kvs_cases {w : World} {h : Heap} {kvs : List (Str × Value)} (hne : kvs ≠ []) (ho : AtsOk (kvs.map fun p => p.1))
    (ht : ∀ p ∈ kvs, ∃ x dx li e1 e2 t0 t1 t2 t3 t4 t5 t6 sh, p.2 = .ref x ∧ AtH h x (instObj 67 dx) ∧ AtH h dx (vecD w.params "character" t0 t1 t2 t3 t4 t5 (.ref li) .none sh e1) ∧ AtH h li (listOf #[.str p.1 t6] e2)) :
    (∃ v, kvs = [(sUnit, v)] ∧ IsTxt w h v sUnit) ∨ (∃ v v', kvs = [(sUnit, v), (sNames, v')] ∧ IsTxt w h v sUnit ∧ IsTxt w h v' sNames) ∨ (∃ v v', kvs = [(sNames, v), (sUnit, v')] ∧ IsTxt w h v sNames ∧ IsTxt w h v' sUnit) := by
  have one : ∀ p ∈ kvs, IsTxt w h p.2 p.1 := fun p hp => ht p hp
  rcases ho with e | e | e | e
  · exact absurd (List.map_eq_nil_iff.mp e) hne
  · match kvs, e, one with
    | [(k, v)], e, one => simp at e; subst e; exact .inl ⟨v, rfl, one _ (.head _)⟩
  · match kvs, e, one with
    | [(k, v), (k', v')], e, one => simp at e; obtain ⟨rfl, rfl⟩ := e; exact .inr (.inl ⟨v, v', rfl, one _ (.head _), one _ (.tail _ (.head _))⟩)
  · match kvs, e, one with
    | [(k, v), (k', v')], e, one => simp at e; obtain ⟨rfl, rfl⟩ := e; exact .inr (.inr ⟨v, v', rfl, one _ (.head _), one _ (.tail _ (.head _))⟩)

set_option maxRecDepth 100000 in
set_option maxHeartbeats 80000000 in
/-- the attributes of two vectors -/
theorem sa_ats {w : World} {h : Heap} {a dx k li e t0 t1 t2 t3 t4 t5 sh a' dx' k' li' e' t0' t1' t2' t3' t4' t5' sh' at1 ats at2 ats'}
    (p1 : h.get? a = some (instObj 67 dx)) (p2 : h.get? dx = some (vecD w.params k t0 t1 t2 t3 t4 t5 li at1 sh e)) (p3 : AtsR w (AtH h) at1 ats) (p4 : AtsOk ats)
    (q1 : h.get? a' = some (instObj 67 dx')) (q2 : h.get? dx' = some (vecD w.params k' t0' t1' t2' t3' t4' t5' li' at2 sh' e')) (q3 : AtsR w (AtH h) at2 ats') (q4 : AtsOk ats') :
    RoB w 30 h 176 [.ref a, .ref a'] (ats.length == ats'.length) := by
  intro mean mg mb dp un gd cn cs ca ccd cl outer A₀ base h₀ L m s Q E hs B F X T hk hd hu hret
  subst hs
  w_on
  revert X T
  k_fill
  intro X T
  refine wpAny_call ?_
  k_dflt ktr_enter
  intro L' h' F' N' B' X' T'
  (try dsimp only)
  k_fold
  cases p3 with
  | none =>
    cases q3 with
    | none =>
      k_steps
      exact hret _ _ (Fr.keep (by assumption))
    | some v1 v2 v3 v4 v5 =>
      unfold AtH at v1
      rcases kvs_cases v4 q4 v5 with ⟨y, rfl, yt⟩ | ⟨y, y', rfl, yt, yt'⟩ | ⟨y, y', rfl, yt, yt'⟩
      all_goals (k_steps; exact hret _ _ (Fr.keep (by assumption)))
  | some u1 u2 u3 u4 u5 =>
    unfold AtH at u1
    cases q3 with
    | none =>
      rcases kvs_cases u4 p4 u5 with ⟨y, rfl, yt⟩ | ⟨y, y', rfl, yt, yt'⟩ | ⟨y, y', rfl, yt, yt'⟩
      all_goals (k_steps; exact hret _ _ (Fr.keep (by assumption)))
    | some v1 v2 v3 v4 v5 =>
      unfold AtH at v1
      rcases kvs_cases u4 p4 u5 with ⟨y, rfl, yt⟩ | ⟨y, y', rfl, yt, yt'⟩ | ⟨y, y', rfl, yt, yt'⟩
      all_goals rcases kvs_cases v4 q4 v5 with ⟨z, rfl, zt⟩ | ⟨z, z', rfl, zt, zt'⟩ | ⟨z, z', rfl, zt, zt'⟩
      all_goals (k_steps; exact hret _ _ (Fr.keep (by assumption)))

noncomputable def kindOf : Va → Str
  | .sym _ => "symbol"
  | .nul => "NULL"
  | .dbl _ => "double"
  | .chr _ _ => "character"
  | .call _ _ => "language"
  | .lst _ => "list"
  | .exp _ => "expression"
theorem VaR.isRef {w : World} {R : Addr → Obj → Prop} {n v d} (h : VaR w R n v d) : ∃ a, v = .ref a := by
  cases h <;> exact ⟨_, rfl⟩
theorem eqv_ne (n : Nat) (U V : Va) (h : kindOf U ≠ kindOf V) : eqv n U V = false := by
  cases n <;> cases U <;> cases V <;> first | rfl | exact absurd rfl h


theorem rows_6 : True := by
  k_with_none
  (k_with "my k_inst" => (refine' inst_of ?k ?a ?b; (case k => exact Fr.keep (by k_asm)); (case a => assumption); (case b => assumption)))
  (k_with "my ktr_enter" => (refine' code_ro ?k1 ?k2 ?k3 ?k5 ?kA ?kF ?kK ?k6 ?k7 ?k8 ?k9 ?kB ?_ ?c2 ?c3 ?c4 ?c5; (case kA => exact rfl); (case kF => exact rfl); (case kK => assumption); (case k1 => k_asm); (case k2 => k_asm); (case k3 => k_asm); (case k5 => k_asm); (case k6 => k_is); (case k7 => k_is); (case k8 => ktr_room); (case k9 => first | exact BindsTo.of_eq rfl | exact binds_K (by k_in) rfl (by k_is) rfl rfl rfl | fail "k_enter: no rule for these arguments"); (case c5 => decide); (case kB => exact locs rfl); (case c2 => exact rfl); (case c3 => exact rfl); (case c4 => exact rfl); k_whole))
  (k_with "my ktr_room" => ((simp only [depth_under_make, depth_under_kw, depth_in1, depth_deeper, depth_caller, recursionLimit] at *); omega))
  (k_with "my ktr_units" => ((simp only [units_in1, units_deeper, Around.mark_units, units_caller, cLine] at *); omega))
  (k_with "my ite" => (k_closed; first | (with_reducible refine ite_pos ?c ?_; (case c => decide +kernel)) | (with_reducible refine ite_neg ?c ?_; (case c => decide +kernel))))
  exact trivial
theorem get_kind {w : World} {A : Around} {E : Value → Shared → Prop} {s : Shared} {h₀ : Heap} {L a : Addr} {m : Str → Option Value} {n : Nat} {U : Va} {ex : Bool} {Q : Value → Shared → Prop} (F : Fr h₀ L s.heap m) (X : (hd.heap_39 w.params).In h₀) (hU : VaR w (AtH h₀) n (.ref a) U)
    (h : ∀ t, Q (.str (kindOf U) t) { s with toks := s.toks + 1 }) : wpAny (model PySem.Challenge.rw_pq1391_01.row.prog w) A (getAttr (.ref a) "kind" ex) Q E s := by
  revert X
  k_fill
  intro X
  cases hU
  all_goals
    k_dflt (refine' get_own ?k1 ?k2 ?k3 ?k4 ?k5 ?k6 ?k7 ?k8 ?k9 ?_; (case k1 => k_asm); (case k2 => k_asm); (case k3 => k_inst); (case k4 => k_is); (case k5 => k_is); (case k6 => k_is); (case k7 => k_is); (case k8 => k_get); (case k9 => k_handed))
    exact h _

/-- a comparison of two standing objects that changes nothing -/
def EqB (w : World) (h : Heap) (a b : Addr) (r : Bool) : Prop := ∀ (A : Around) (Q E : Value → Shared → Prop) (s : Shared), h.StaysIn s.heap → A.units + 64 < cLine → Q (.bool r) s → wpAny (model PySem.Challenge.rw_pq1391_01.row.prog w) A (compareOp .Eq (.ref a) (.ref b)) Q E s
theorem EqB.use {w : World} {h₀ : Heap} {a b : Addr} {r : Bool} {A : Around} {Q E : Value → Shared → Prop} {s : Shared} {L : Addr} {m : Str → Option Value} (C : EqB w h₀ a b r) (F : Fr h₀ L s.heap m) (hu : A.units + 64 < cLine) (h : Q (.bool r) s) :
    wpAny (model PySem.Challenge.rw_pq1391_01.row.prog w) A (compareOp .Eq (.ref a) (.ref b)) Q E s := C A Q E s F.keep hu h
def RoS (w : World) (cost : Nat) (h : Heap) (f : Addr) (vs : List Value) (b : Bool) : Prop := ∀ h', h.StaysIn h' → RoB w cost h' f vs b
theorem RoS.use {w : World} {cost : Nat} {f : Addr} {vs : List Value} {b : Bool} {mean : ExcName → Option Value} {mg mb : Str → Option Value} {dp un : Nat} {gd : Option (List Code)} {cn : Str} {cs : Scope} {a : Addr} {ccd : Value} {cl : List (Str × Addr)} {outer : List Env} {A₀ : Around} {base h₀ : Heap} {L : Addr} {m : Str → Option Value} {s : Shared} {news : List (Addr × Obj)} {Q E : Value → Shared → Prop}
    (C : RoS w cost h₀ f vs b) (B : Below A₀ base outer h₀) (F : Fr h₀ L s.heap m) (X : (hd.heap_39 w.params).In h₀) (N : News h₀ L s.heap news) (T : Top hd.view_39 (looseW hd.view_39 [Str.ofString "list_of"]) mean mg mb h₀) (hk : cs.kind = .function) (hd : dp + cost < recursionLimit) (hu : un + 20 * cost < cLine)
    (ret : ∀ h' tk', s.heap.StaysIn h' → Fr h₀ L h' m → News h₀ L h' news → Q (.bool b) { s with heap := h', toks := tk' }) :
    wpAny (model PySem.Challenge.rw_pq1391_01.row.prog w) (ktrTop dp un gd cn cs L a ccd cl outer) (call (.ref f) vs) Q E s :=
  RoB.use (C _ F.keep) B F X N T hk hd hu ret


section
set_option maxRecDepth 100000
set_option maxHeartbeats 80000000

theorem rows_7 : True := by
  k_with_none
  (k_with "my k_inst" => (refine' inst_of ?k ?a ?b; (case k => exact Fr.keep (by k_asm)); (case a => assumption); (case b => assumption)))
  (k_with "my ktr_enter" => (refine' code_ro ?k1 ?k2 ?k3 ?k5 ?kA ?kF ?kK ?k6 ?k7 ?k8 ?k9 ?kB ?_ ?c2 ?c3 ?c4 ?c5; (case kA => exact rfl); (case kF => exact rfl); (case kK => assumption); (case k1 => k_asm); (case k2 => k_asm); (case k3 => k_asm); (case k5 => k_asm); (case k6 => k_is); (case k7 => k_is); (case k8 => ktr_room); (case k9 => first | exact BindsTo.of_eq rfl | exact binds_K (by k_in) rfl (by k_is) rfl rfl rfl | fail "k_enter: no rule for these arguments"); (case c5 => decide); (case kB => exact locs rfl); (case c2 => exact rfl); (case c3 => exact rfl); (case c4 => exact rfl); k_whole))
  (k_with "my ktr_room" => ((simp only [depth_under_make, depth_under_kw, depth_in1, depth_deeper, depth_caller, recursionLimit] at *); omega))
  (k_with "my ktr_units" => ((simp only [units_in1, units_deeper, Around.mark_units, units_caller, cLine] at *); omega))
  (k_with "my ite" => (k_closed; first | (with_reducible refine ite_pos ?c ?_; (case c => decide +kernel)) | (with_reducible refine ite_neg ?c ?_; (case c => decide +kernel))))
  (k_with "my call ref" => (k_here; k_dflt (refine' RoS.use ?c ?k1 ?k2 ?k3 ?k4 ?k5 ?k6 ?k7 ?k8 ?_; (case c => assumption); (case k1 => k_asm); (case k2 => k_asm); (case k3 => k_asm); (case k4 => k_asm); (case k5 => k_asm); (case k6 => first | exact rfl | assumption); (case k7 => ktr_room); (case k8 => ktr_units)); intro h2' tk2' st2' F2' N2'; (try k_sweep)))
  (k_with "my compareOp Eq ref ref" => (k_here; k_dflt (refine EqB.use (by assumption) (by k_asm) (by ktr_units) ?_)))
  exact trivial
/-- two values of other kinds -/
theorem le_ne {w : World} {h : Heap} {a a' : Addr} {n n' : Nat} {U V : Va} (hU : VaR w (AtH h) n (.ref a) U) (hV : VaR w (AtH h) n' (.ref a') V) (hne : (kindOf U != kindOf V) = true) : RoB w 10 h 183 [.ref a, .ref a'] false := by
  intro mean mg mb dp un gd cn cs ca ccd cl outer A₀ base h₀ L m s Q E hs B F X T hk hd hu hret
  subst hs
  w_on
  revert X T
  k_fill
  intro X T
  refine wpAny_call ?_
  k_dflt ktr_enter
  intro L' h' F' N' B' X' T'
  (try dsimp only)
  k_fold
  refine wpAny_execs_cons (wpAny_If (wpAny_isTrue_Compare1 ?_))
  walk1
  walk1
  refine get_kind (by k_asm) (by k_asm) (by assumption) fun t => ?_
  walk1
  walk1
  refine get_kind (by k_asm) (by k_asm) (by assumption) fun t => ?_
  walk1
  walk1
  refine ite_pos hne ?_
  k_steps
  exact hret _ _ (Fr.keep (by assumption))

theorem le_sym {w : World} {h : Heap} {a dx e x t0 t1 t2 t3 t4 a' dx' e' x' t0' t1' t2' t3' t4'}
    (p1 : h.get? a = some (instObj 88 dx)) (p2 : h.get? dx = some (dictOf [ent w.params "kind" t1 (.str "symbol" t0), ent w.params "name" t2 (.str x t4), ent w.params "attrs" t3 .none] e))
    (q1 : h.get? a' = some (instObj 88 dx')) (q2 : h.get? dx' = some (dictOf [ent w.params "kind" t1' (.str "symbol" t0'), ent w.params "name" t2' (.str x' t4'), ent w.params "attrs" t3' .none] e')) :
    RoB w 10 h 183 [.ref a, .ref a'] (x == x') := by
  intro mean mg mb dp un gd cn cs ca ccd cl outer A₀ base h₀ L m s Q E hs B F X T hk hd hu hret
  subst hs
  w_on
  revert X T
  k_fill
  intro X T
  refine wpAny_call ?_
  k_dflt ktr_enter
  intro L' h' F' N' B' X' T'
  (try dsimp only)
  k_fold
  k_steps
  exact hret _ _ (Fr.keep (by assumption))

theorem le_nul {w : World} {h : Heap} {a dx e t0 t1 t2 a' dx' e' t0' t1' t2'}
    (p1 : h.get? a = some (instObj 38 dx)) (p2 : h.get? dx = some (dictOf [ent w.params "kind" t1 (.str "NULL" t0), ent w.params "attrs" t2 .none] e))
    (q1 : h.get? a' = some (instObj 38 dx')) (q2 : h.get? dx' = some (dictOf [ent w.params "kind" t1' (.str "NULL" t0'), ent w.params "attrs" t2' .none] e')) :
    RoB w 10 h 183 [.ref a, .ref a'] true := by
  intro mean mg mb dp un gd cn cs ca ccd cl outer A₀ base h₀ L m s Q E hs B F X T hk hd hu hret
  subst hs
  w_on
  revert X T
  k_fill
  intro X T
  refine wpAny_call ?_
  k_dflt ktr_enter
  intro L' h' F' N' B' X' T'
  (try dsimp only)
  k_fold
  k_steps
  exact hret _ _ (Fr.keep (by assumption))

theorem le_call {w : World} {h : Heap} {c : Nat} {a dx li lt e at1 t0 t1 t2 t3 t4 t5 a' dx' li' lt' e' at2 t0' t1' t2' t3' t4' t5'} {b b' : Bool}
    (p1 : h.get? a = some (instObj 110 dx)) (p2 : h.get? dx = some (dictOf [ent w.params "kind" t1 (.str "language" t0), ent w.params "items" t2 (.ref li), ent w.params "tags" t3 (.ref lt), ent w.params "attrs" t4 at1, ent w.params "code" t5 .none] e))
    (q1 : h.get? a' = some (instObj 110 dx')) (q2 : h.get? dx' = some (dictOf [ent w.params "kind" t1' (.str "language" t0'), ent w.params "items" t2' (.ref li'), ent w.params "tags" t3' (.ref lt'), ent w.params "attrs" t4' at2, ent w.params "code" t5' .none] e'))
    (hT : EqB w h lt lt' b) (hA : RoS w c h 190 [.ref li, .ref li'] b') : RoB w (c + 10) h 183 [.ref a, .ref a'] (b && b') := by
  intro mean mg mb dp un gd cn cs ca ccd cl outer A₀ base h₀ L m s Q E hs B F X T hk hd hu hret
  subst hs
  w_on
  revert X T
  k_fill
  intro X T
  refine wpAny_call ?_
  k_dflt ktr_enter
  intro L' h' F' N' B' X' T'
  (try dsimp only)
  k_fold
  cases b
  all_goals (k_steps; exact hret _ _ (Fr.keep (by assumption)))

theorem le_dbl {w : World} {h : Heap} {a dx li e t0 t1 t2 t3 t4 t5 sh a' dx' li' e' t0' t1' t2' t3' t4' t5' sh' at1 at2} {b : Bool}
    (p1 : h.get? a = some (instObj 67 dx)) (p2 : h.get? dx = some (vecD w.params "double" t0 t1 t2 t3 t4 t5 (.ref li) at1 sh e))
    (q1 : h.get? a' = some (instObj 67 dx')) (q2 : h.get? dx' = some (vecD w.params "double" t0' t1' t2' t3' t4' t5' (.ref li') at2 sh' e'))
    (hS : RoS w 4 h 176 [.ref a, .ref a'] true) (hI : EqB w h li li' b) : RoB w 10 h 183 [.ref a, .ref a'] b := by
  intro mean mg mb dp un gd cn cs ca ccd cl outer A₀ base h₀ L m s Q E hs B F X T hk hd hu hret
  subst hs
  w_on
  revert X T
  k_fill
  intro X T
  refine wpAny_call ?_
  k_dflt ktr_enter
  intro L' h' F' N' B' X' T'
  (try dsimp only)
  k_fold
  k_steps
  exact hret _ _ (Fr.keep (by assumption))

theorem le_chr {w : World} {h : Heap} {a dx li e t0 t1 t2 t3 t4 t5 sh a' dx' li' e' t0' t1' t2' t3' t4' t5' sh' at1 at2} {b c : Bool}
    (p1 : h.get? a = some (instObj 67 dx)) (p2 : h.get? dx = some (vecD w.params "character" t0 t1 t2 t3 t4 t5 (.ref li) at1 sh e))
    (q1 : h.get? a' = some (instObj 67 dx')) (q2 : h.get? dx' = some (vecD w.params "character" t0' t1' t2' t3' t4' t5' (.ref li') at2 sh' e'))
    (hS : RoS w 30 h 176 [.ref a, .ref a'] c) (hI : EqB w h li li' b) : RoB w 36 h 183 [.ref a, .ref a'] (c && b) := by
  intro mean mg mb dp un gd cn cs ca ccd cl outer A₀ base h₀ L m s Q E hs B F X T hk hd hu hret
  subst hs
  w_on
  revert X T
  k_fill
  intro X T
  refine wpAny_call ?_
  k_dflt ktr_enter
  intro L' h' F' N' B' X' T'
  (try dsimp only)
  k_fold
  cases c
  all_goals (k_steps; exact hret _ _ (Fr.keep (by assumption)))

theorem le_lst {w : World} {h : Heap} {a dx li e t0 t1 t2 t3 t4 t5 sh a' dx' li' e' t0' t1' t2' t3' t4' t5' sh' at1 at2} {b : Bool} {k : Nat}
    (p1 : h.get? a = some (instObj 67 dx)) (p2 : h.get? dx = some (vecD w.params "list" t0 t1 t2 t3 t4 t5 (.ref li) at1 sh e))
    (q1 : h.get? a' = some (instObj 67 dx')) (q2 : h.get? dx' = some (vecD w.params "list" t0' t1' t2' t3' t4' t5' (.ref li') at2 sh' e'))
    (hS : RoS w 4 h 176 [.ref a, .ref a'] true) (hI : RoS w k h 190 [.ref li, .ref li'] b) : RoB w (k + 10) h 183 [.ref a, .ref a'] b := by
  intro mean mg mb dp un gd cn cs ca ccd cl outer A₀ base h₀ L m s Q E hs B F X T hk hd hu hret
  subst hs
  w_on
  revert X T
  k_fill
  intro X T
  refine wpAny_call ?_
  k_dflt ktr_enter
  intro L' h' F' N' B' X' T'
  (try dsimp only)
  k_fold
  k_steps
  exact hret _ _ (Fr.keep (by assumption))

theorem le_exp {w : World} {h : Heap} {a dx li e t0 t1 t2 t3 t4 t5 sh a' dx' li' e' t0' t1' t2' t3' t4' t5' sh' at1 at2} {b : Bool} {k : Nat}
    (p1 : h.get? a = some (instObj 67 dx)) (p2 : h.get? dx = some (vecD w.params "expression" t0 t1 t2 t3 t4 t5 (.ref li) at1 sh e))
    (q1 : h.get? a' = some (instObj 67 dx')) (q2 : h.get? dx' = some (vecD w.params "expression" t0' t1' t2' t3' t4' t5' (.ref li') at2 sh' e'))
    (hS : RoS w 4 h 176 [.ref a, .ref a'] true) (hI : RoS w k h 190 [.ref li, .ref li'] b) : RoB w (k + 10) h 183 [.ref a, .ref a'] b := by
  intro mean mg mb dp un gd cn cs ca ccd cl outer A₀ base h₀ L m s Q E hs B F X T hk hd hu hret
  subst hs
  w_on
  revert X T
  k_fill
  intro X T
  refine wpAny_call ?_
  k_dflt ktr_enter
  intro L' h' F' N' B' X' T'
  (try dsimp only)
  k_fold
  k_steps
  exact hret _ _ (Fr.keep (by assumption))
end



theorem rows_8 : True := by
  k_with_none
  (k_with "my k_inst" => (refine' inst_of ?k ?a ?b; (case k => exact Fr.keep (by k_asm)); (case a => assumption); (case b => assumption)))
  (k_with "my ktr_enter" => (refine' code_ro ?k1 ?k2 ?k3 ?k5 ?kA ?kF ?kK ?k6 ?k7 ?k8 ?k9 ?kB ?_ ?c2 ?c3 ?c4 ?c5; (case kA => exact rfl); (case kF => exact rfl); (case kK => assumption); (case k1 => k_asm); (case k2 => k_asm); (case k3 => k_asm); (case k5 => k_asm); (case k6 => k_is); (case k7 => k_is); (case k8 => ktr_room); (case k9 => first | exact BindsTo.of_eq rfl | exact binds_K (by k_in) rfl (by k_is) rfl rfl rfl | fail "k_enter: no rule for these arguments"); (case c5 => decide); (case kB => exact locs rfl); (case c2 => exact rfl); (case c3 => exact rfl); (case c4 => exact rfl); k_whole))
  (k_with "my ktr_room" => ((simp only [depth_under_make, depth_under_kw, depth_in1, depth_deeper, depth_caller, recursionLimit] at *); omega))
  (k_with "my ktr_units" => ((simp only [units_in1, units_deeper, Around.mark_units, units_caller, cLine] at *); omega))
  (k_with "my ite" => (k_closed; first | (with_reducible refine ite_pos ?c ?_; (case c => decide +kernel)) | (with_reducible refine ite_neg ?c ?_; (case c => decide +kernel))))
  (k_with "my call ref" => (k_here; k_dflt (refine' RoS.use ?c ?k1 ?k2 ?k3 ?k4 ?k5 ?k6 ?k7 ?k8 ?_; (case c => assumption); (case k1 => k_asm); (case k2 => k_asm); (case k3 => k_asm); (case k4 => k_asm); (case k5 => k_asm); (case k6 => first | exact rfl | assumption); (case k7 => ktr_room); (case k8 => ktr_units)); intro h2' tk2' st2' F2' N2'; (try k_sweep)))
  (k_with "my compareOp Eq ref ref" => (k_here; k_dflt (refine EqB.use (by assumption) (by k_asm) (by ktr_units) ?_)))
  exact trivial
def LEs (w : World) (n : Nat) : Prop := ∀ (h : Heap) (u v : Value) (U V : Va), VaR w (AtH h) n u U → VaR w (AtH h) n v V → RoB w (40 + 12 * n) h 183 [u, v] (eqv n U V)
def AEs (w : World) (n : Nat) : Prop := ∀ (h : Heap) (a b : Addr) (vs us : List Value) (ds es : List Va) (e e' : Nat), h.get? a = some (listOf (List.toArray vs) e) → h.get? b = some (listOf (List.toArray us) e') → VasR w (AtH h) n vs ds → VasR w (AtH h) n us es →
  RoB w (42 + 12 * n) h 190 [.ref a, .ref b] (eqvs (eqv n) ds es)

theorem LEs.ros {w : World} {n : Nat} (C : LEs w n) {h : Heap} {u v : Value} {U V : Va} (hU : VaR w (AtH h) n u U) (hV : VaR w (AtH h) n v V) : RoS w (40 + 12 * n) h 183 [u, v] (eqv n U V) :=
  fun h' k => C h' u v U V (hU.mono fun a o e => k a o e) (hV.mono fun a o e => k a o e)
theorem eqvs_len {f : Va → Va → Bool} : ∀ {ds es : List Va}, ds.length ≠ es.length → eqvs f ds es = false
  | [], [], h => absurd rfl h
  | [], _ :: _, _ => rfl
  | _ :: _, [], _ => rfl
  | x :: xs, y :: ys, h => by
    have := eqvs_len (f := f) (ds := xs) (es := ys) (by simpa using h)
    simp [eqvs, this]
theorem len_at {prog : Program} {w : World} {A : Around} {E : Value → Shared → Prop} {s : Shared} {h₀ : Heap} {L l : Addr} {m : Str → Option Value} {vs : List Value} {n : Int} {Q : Value → Shared → Prop} (F : Fr h₀ L s.heap m) (hl : h₀.IsList l (List.toArray vs)) (hn : (vs.length : Int) = n) (h4 : n ≤ 4)
    (h : Q (.int n (s.toks + 1)) { s with toks := s.toks + 1 + 1 }) : wpAny (model prog w) A (call (.builtin "len") [.ref l]) Q E s := by
  refine len_list (Fr.lst F hl) ?_ ?_
  · rw [List.size_toArray, hn]; omega
  · rw [List.size_toArray, hn]; exact h

theorem rows_9 : True := by
  k_with_none
  (k_with "my k_inst" => (refine' inst_of ?k ?a ?b; (case k => exact Fr.keep (by k_asm)); (case a => assumption); (case b => assumption)))
  (k_with "my ktr_enter" => (refine' code_ro ?k1 ?k2 ?k3 ?k5 ?kA ?kF ?kK ?k6 ?k7 ?k8 ?k9 ?kB ?_ ?c2 ?c3 ?c4 ?c5; (case kA => exact rfl); (case kF => exact rfl); (case kK => assumption); (case k1 => k_asm); (case k2 => k_asm); (case k3 => k_asm); (case k5 => k_asm); (case k6 => k_is); (case k7 => k_is); (case k8 => ktr_room); (case k9 => first | exact BindsTo.of_eq rfl | exact binds_K (by k_in) rfl (by k_is) rfl rfl rfl | fail "k_enter: no rule for these arguments"); (case c5 => decide); (case kB => exact locs rfl); (case c2 => exact rfl); (case c3 => exact rfl); (case c4 => exact rfl); k_whole))
  (k_with "my ktr_room" => ((simp only [depth_under_make, depth_under_kw, depth_in1, depth_deeper, depth_caller, recursionLimit] at *); omega))
  (k_with "my ktr_units" => ((simp only [units_in1, units_deeper, Around.mark_units, units_caller, cLine] at *); omega))
  (k_with "my ite" => (k_closed; first | (with_reducible refine ite_pos ?c ?_; (case c => decide +kernel)) | (with_reducible refine ite_neg ?c ?_; (case c => decide +kernel))))
  (k_with "my call ref" => (k_here; k_dflt (refine' RoS.use ?c ?k1 ?k2 ?k3 ?k4 ?k5 ?k6 ?k7 ?k8 ?_; (case c => assumption); (case k1 => k_asm); (case k2 => k_asm); (case k3 => k_asm); (case k4 => k_asm); (case k5 => k_asm); (case k6 => first | exact rfl | assumption); (case k7 => ktr_room); (case k8 => ktr_units)); intro h2' tk2' st2' F2' N2'; (try k_sweep)))
  (k_with "my compareOp Eq ref ref" => (k_here; k_dflt (refine EqB.use (by assumption) (by k_asm) (by ktr_units) ?_)))
  (k_with "my call builtin:len" => (k_here; k_dflt (refine len_at (by k_asm) (by assumption) (by assumption) (by assumption) ?_)))
  exact trivial
set_option maxRecDepth 100000 in
set_option maxHeartbeats 80000000 in
theorem ae_len {w : World} {h : Heap} {a b : Addr} {vs us : List Value} {e e' : Nat} (p : h.get? a = some (listOf (List.toArray vs) e)) (q : h.get? b = some (listOf (List.toArray us) e')) {k k' : Int} (l1 : (vs.length : Int) = k) (l2 : (us.length : Int) = k') (hn : k ≠ k') (h1 : k ≤ 4) (h2 : k' ≤ 4) :
    RoB w 10 h 190 [.ref a, .ref b] false := by
  intro mean mg mb dp un gd cn cs ca ccd cl outer A₀ base h₀ L m s Q E hs B F X T hk hd hu hret
  subst hs
  w_on
  revert X T
  k_fill
  intro X T
  refine wpAny_call ?_
  k_dflt ktr_enter
  intro L' h' F' N' B' X' T'
  (try dsimp only)
  k_fold
  have i1 := isList_of p
  have i2 := isList_of q
  have hn' : ((k != k') = true) := by simpa using hn
  iterate 19 walk1
  refine ite_pos hn' ?_
  k_steps
  exact hret _ _ (Fr.keep (by assumption))

theorem item_at {prog : Program} {w : World} {A : Around} {E : Value → Shared → Prop} {s : Shared} {h₀ : Heap} {L l : Addr} {m : Str → Option Value} {vs : List Value} {k : Int} {u : Tok} {x : Value} {value slice : PySem.Expr} {Q : Value → Shared → Prop} (F : Fr h₀ L s.heap m) (hl : h₀.IsList l (List.toArray vs))
    (h0 : 0 ≤ k) (h1 : k < 8) (hx : vs[k.toNat]? = some x) (h : Q x s)
    (hs : subscripted slice false (.ref l) (.int k u) = operate [.ref l, .int k u] (getItem (.ref l) (.int k u)) := by with_unfolding_all rfl) (hg : ∀ r, letTemporaryGo value (.ref l) r = pure () := by intro _; with_unfolding_all rfl) :
    wpAny (model prog w) A (subscriptTail value slice (.ref l) (.int k u)) Q E s :=
  item_list (Fr.lst F hl) h0 (by omega) (by rw [List.getElem?_toArray]; exact hx) h hs hg

theorem rows_10 : True := by
  k_with_none
  (k_with "my k_inst" => (refine' inst_of ?k ?a ?b; (case k => exact Fr.keep (by k_asm)); (case a => assumption); (case b => assumption)))
  (k_with "my ktr_enter" => (refine' code_ro ?k1 ?k2 ?k3 ?k5 ?kA ?kF ?kK ?k6 ?k7 ?k8 ?k9 ?kB ?_ ?c2 ?c3 ?c4 ?c5; (case kA => exact rfl); (case kF => exact rfl); (case kK => assumption); (case k1 => k_asm); (case k2 => k_asm); (case k3 => k_asm); (case k5 => k_asm); (case k6 => k_is); (case k7 => k_is); (case k8 => ktr_room); (case k9 => first | exact BindsTo.of_eq rfl | exact binds_K (by k_in) rfl (by k_is) rfl rfl rfl | fail "k_enter: no rule for these arguments"); (case c5 => decide); (case kB => exact locs rfl); (case c2 => exact rfl); (case c3 => exact rfl); (case c4 => exact rfl); k_whole))
  (k_with "my ktr_room" => ((simp only [depth_under_make, depth_under_kw, depth_in1, depth_deeper, depth_caller, recursionLimit] at *); omega))
  (k_with "my ktr_units" => ((simp only [units_in1, units_deeper, Around.mark_units, units_caller, cLine] at *); omega))
  (k_with "my ite" => (k_closed; first | (with_reducible refine ite_pos ?c ?_; (case c => decide +kernel)) | (with_reducible refine ite_neg ?c ?_; (case c => decide +kernel))))
  (k_with "my call ref" => (k_here; k_dflt (refine' RoS.use ?c ?k1 ?k2 ?k3 ?k4 ?k5 ?k6 ?k7 ?k8 ?_; (case c => assumption); (case k1 => k_asm); (case k2 => k_asm); (case k3 => k_asm); (case k4 => k_asm); (case k5 => k_asm); (case k6 => first | exact rfl | assumption); (case k7 => ktr_room); (case k8 => ktr_units)); intro h2' tk2' st2' F2' N2'; (try k_sweep)))
  (k_with "my compareOp Eq ref ref" => (k_here; k_dflt (refine EqB.use (by assumption) (by k_asm) (by ktr_units) ?_)))
  (k_with "my call builtin:len" => (k_here; k_dflt (refine len_at (by k_asm) (by assumption) (by assumption) (by assumption) ?_)))
  (k_with "my subscriptTail" => (k_here; k_dflt (refine item_at (by k_asm) (by assumption) (by decide) (by decide) (by rfl) ?_)))
  exact trivial
set_option maxRecDepth 100000 in
set_option maxHeartbeats 80000000 in
theorem ae0 {w : World} {h : Heap} {a b : Addr} {e e' : Nat} (p : h.get? a = some (listOf #[] e)) (q : h.get? b = some (listOf #[] e'))  :
    RoB w 10 h 190 [.ref a, .ref b] true := by
  intro mean mg mb dp un gd cn cs ca ccd cl outer A₀ base h₀ L m s Q E hs B F X T hk hd hu hret
  subst hs
  w_on
  revert X T
  k_fill
  intro X T
  refine wpAny_call ?_
  k_dflt ktr_enter
  intro L' h' F' N' B' X' T'
  (try dsimp only)
  k_fold
  have i1 : Heap.IsList _ _ (List.toArray []) := isList_of p
  have i2 : Heap.IsList _ _ (List.toArray []) := isList_of q
  have l1 : (([] : List Value).length : Int) = 0 := rfl
  have l2 : (([] : List Value).length : Int) = 0 := rfl
  have b1' : (0 : Int) ≤ 4 := by decide
  k_steps
  all_goals (subst_vars; exact hret _ _ (Fr.keep (by assumption)))

set_option maxRecDepth 100000 in
set_option maxHeartbeats 80000000 in
theorem ae1 {w : World} {h : Heap} {a b : Addr} {x1 y1 : Value} {b1 : Bool} {c : Nat} {e e' : Nat} (p : h.get? a = some (listOf #[x1] e)) (q : h.get? b = some (listOf #[y1] e')) (hc : 8 ≤ c) (c1 : RoS w c h 183 [x1, y1] b1) :
    RoB w (c + 2) h 190 [.ref a, .ref b] b1 := by
  intro mean mg mb dp un gd cn cs ca ccd cl outer A₀ base h₀ L m s Q E hs B F X T hk hd hu hret
  subst hs
  w_on
  revert X T
  k_fill
  intro X T
  refine wpAny_call ?_
  k_dflt ktr_enter
  intro L' h' F' N' B' X' T'
  (try dsimp only)
  k_fold
  have i1 : Heap.IsList _ _ (List.toArray [x1]) := isList_of p
  have i2 : Heap.IsList _ _ (List.toArray [y1]) := isList_of q
  have l1 : (([x1] : List Value).length : Int) = 1 := rfl
  have l2 : (([y1] : List Value).length : Int) = 1 := rfl
  have b1' : (1 : Int) ≤ 4 := by decide
  k_steps
  all_goals (subst_vars; exact hret _ _ (Fr.keep (by assumption)))

set_option maxRecDepth 100000 in
set_option maxHeartbeats 80000000 in
theorem ae2 {w : World} {h : Heap} {a b : Addr} {x1 x2 y1 y2 : Value} {b1 b2 : Bool} {c : Nat} {e e' : Nat} (p : h.get? a = some (listOf #[x1, x2] e)) (q : h.get? b = some (listOf #[y1, y2] e')) (hc : 8 ≤ c) (c1 : RoS w c h 183 [x1, y1] b1) (c2 : RoS w c h 183 [x2, y2] b2) :
    RoB w (c + 2) h 190 [.ref a, .ref b] (b1 && b2) := by
  intro mean mg mb dp un gd cn cs ca ccd cl outer A₀ base h₀ L m s Q E hs B F X T hk hd hu hret
  subst hs
  w_on
  revert X T
  k_fill
  intro X T
  refine wpAny_call ?_
  k_dflt ktr_enter
  intro L' h' F' N' B' X' T'
  (try dsimp only)
  k_fold
  have i1 : Heap.IsList _ _ (List.toArray [x1, x2]) := isList_of p
  have i2 : Heap.IsList _ _ (List.toArray [y1, y2]) := isList_of q
  have l1 : (([x1, x2] : List Value).length : Int) = 2 := rfl
  have l2 : (([y1, y2] : List Value).length : Int) = 2 := rfl
  have b1' : (2 : Int) ≤ 4 := by decide
  k_steps
  all_goals (subst_vars; exact hret _ _ (Fr.keep (by assumption)))

set_option maxRecDepth 100000 in
set_option maxHeartbeats 80000000 in
theorem ae3 {w : World} {h : Heap} {a b : Addr} {x1 x2 x3 y1 y2 y3 : Value} {b1 b2 b3 : Bool} {c : Nat} {e e' : Nat} (p : h.get? a = some (listOf #[x1, x2, x3] e)) (q : h.get? b = some (listOf #[y1, y2, y3] e')) (hc : 8 ≤ c) (c1 : RoS w c h 183 [x1, y1] b1) (c2 : RoS w c h 183 [x2, y2] b2) (c3 : RoS w c h 183 [x3, y3] b3) :
    RoB w (c + 2) h 190 [.ref a, .ref b] (b1 && (b2 && b3)) := by
  intro mean mg mb dp un gd cn cs ca ccd cl outer A₀ base h₀ L m s Q E hs B F X T hk hd hu hret
  subst hs
  w_on
  revert X T
  k_fill
  intro X T
  refine wpAny_call ?_
  k_dflt ktr_enter
  intro L' h' F' N' B' X' T'
  (try dsimp only)
  k_fold
  have i1 : Heap.IsList _ _ (List.toArray [x1, x2, x3]) := isList_of p
  have i2 : Heap.IsList _ _ (List.toArray [y1, y2, y3]) := isList_of q
  have l1 : (([x1, x2, x3] : List Value).length : Int) = 3 := rfl
  have l2 : (([y1, y2, y3] : List Value).length : Int) = 3 := rfl
  have b1' : (3 : Int) ≤ 4 := by decide
  k_steps
  all_goals (subst_vars; exact hret _ _ (Fr.keep (by assumption)))

set_option maxRecDepth 100000 in
set_option maxHeartbeats 80000000 in
theorem ae4 {w : World} {h : Heap} {a b : Addr} {x1 x2 x3 x4 y1 y2 y3 y4 : Value} {b1 b2 b3 b4 : Bool} {c : Nat} {e e' : Nat} (p : h.get? a = some (listOf #[x1, x2, x3, x4] e)) (q : h.get? b = some (listOf #[y1, y2, y3, y4] e')) (hc : 8 ≤ c) (c1 : RoS w c h 183 [x1, y1] b1) (c2 : RoS w c h 183 [x2, y2] b2) (c3 : RoS w c h 183 [x3, y3] b3) (c4 : RoS w c h 183 [x4, y4] b4) :
    RoB w (c + 2) h 190 [.ref a, .ref b] (b1 && (b2 && (b3 && b4))) := by
  intro mean mg mb dp un gd cn cs ca ccd cl outer A₀ base h₀ L m s Q E hs B F X T hk hd hu hret
  subst hs
  w_on
  revert X T
  k_fill
  intro X T
  refine wpAny_call ?_
  k_dflt ktr_enter
  intro L' h' F' N' B' X' T'
  (try dsimp only)
  k_fold
  have i1 : Heap.IsList _ _ (List.toArray [x1, x2, x3, x4]) := isList_of p
  have i2 : Heap.IsList _ _ (List.toArray [y1, y2, y3, y4]) := isList_of q
  have l1 : (([x1, x2, x3, x4] : List Value).length : Int) = 4 := rfl
  have l2 : (([y1, y2, y3, y4] : List Value).length : Int) = 4 := rfl
  have b1' : (4 : Int) ≤ 4 := by decide
  k_steps
  all_goals (subst_vars; exact hret _ _ (Fr.keep (by assumption)))

theorem RoB.more {w : World} {c c' : Nat} {h : Heap} {f : Addr} {vs : List Value} {b : Bool} (C : RoB w c h f vs b) (hc : c ≤ c') : RoB w c' h f vs b :=
  fun mean mg mb dp un gd cn cs a ccd cl outer A₀ base h₀ L m s Q E hs B F X T hk hd hu hret => C mean mg mb dp un gd cn cs a ccd cl outer A₀ base h₀ L m s Q E hs B F X T hk (by omega) (by omega) hret
theorem RoB.eq {w : World} {c : Nat} {h : Heap} {f : Addr} {vs : List Value} {b b' : Bool} (C : RoB w c h f vs b) (hb : b = b') : RoB w c h f vs b' := hb ▸ C

theorem lenOf0 {α : Type} : ∀ {l : List α}, l.length = 0 → l = [] | [], _ => rfl
theorem lenOf1 {α : Type} : ∀ {l : List α}, l.length = 1 → ∃ a, l = [a] | [a], _ => ⟨a, rfl⟩
theorem lenOf2 {α : Type} : ∀ {l : List α}, l.length = 2 → ∃ a b, l = [a, b] | [a, b], _ => ⟨a, b, rfl⟩
theorem lenOf3 {α : Type} : ∀ {l : List α}, l.length = 3 → ∃ a b c, l = [a, b, c] | [a, b, c], _ => ⟨a, b, c, rfl⟩
theorem lenOf4 {α : Type} : ∀ {l : List α}, l.length = 4 → ∃ a b c d, l = [a, b, c, d] | [a, b, c, d], _ => ⟨a, b, c, d, rfl⟩
theorem ae_all {w : World} {n : Nat} (C : LEs w n) : AEs w n := by
  intro h a b vs us ds es e e' p q V U
  obtain ⟨V1, V2, V3⟩ := V
  obtain ⟨U1, U2, U3⟩ := U
  by_cases hn : ds.length = es.length
  · have hd : ∀ (i : Nat) x y d f, vs[i]? = some x → us[i]? = some y → ds[i]? = some d → es[i]? = some f → RoS w (40 + 12 * n) h 183 [x, y] (eqv n d f) := fun i x y d f h1 h2 h3 h4 => C.ros (V3 i x d h1 h3) (U3 i y f h2 h4)
    have h5 : ds.length = 0 ∨ ds.length = 1 ∨ ds.length = 2 ∨ ds.length = 3 ∨ ds.length = 4 := by omega
    rcases h5 with h5 | h5 | h5 | h5 | h5
    · obtain rfl := lenOf0 h5; obtain rfl := lenOf0 (hn.symm.trans h5); obtain rfl := lenOf0 (V1.trans h5); obtain rfl := lenOf0 (U1.trans (hn.symm.trans h5))
      exact (ae0 p q).more (by omega)
    · obtain ⟨d, rfl⟩ := lenOf1 h5; obtain ⟨f, rfl⟩ := lenOf1 (hn.symm.trans h5); obtain ⟨x, rfl⟩ := lenOf1 (V1.trans h5); obtain ⟨y, rfl⟩ := lenOf1 (U1.trans (hn.symm.trans h5))
      exact ((ae1 p q (by omega) (hd 0 _ _ _ _ rfl rfl rfl rfl)).more (by omega)).eq (by simp [eqvs])
    · obtain ⟨d, d2, rfl⟩ := lenOf2 h5; obtain ⟨f, f2, rfl⟩ := lenOf2 (hn.symm.trans h5); obtain ⟨x, x2, rfl⟩ := lenOf2 (V1.trans h5); obtain ⟨y, y2, rfl⟩ := lenOf2 (U1.trans (hn.symm.trans h5))
      exact ((ae2 p q (by omega) (hd 0 _ _ _ _ rfl rfl rfl rfl) (hd 1 _ _ _ _ rfl rfl rfl rfl)).more (by omega)).eq (by simp [eqvs])
    · obtain ⟨d, d2, d3, rfl⟩ := lenOf3 h5; obtain ⟨f, f2, f3, rfl⟩ := lenOf3 (hn.symm.trans h5); obtain ⟨x, x2, x3, rfl⟩ := lenOf3 (V1.trans h5); obtain ⟨y, y2, y3, rfl⟩ := lenOf3 (U1.trans (hn.symm.trans h5))
      exact ((ae3 p q (by omega) (hd 0 _ _ _ _ rfl rfl rfl rfl) (hd 1 _ _ _ _ rfl rfl rfl rfl) (hd 2 _ _ _ _ rfl rfl rfl rfl)).more (by omega)).eq (by simp [eqvs])
    · obtain ⟨d, d2, d3, d4, rfl⟩ := lenOf4 h5; obtain ⟨f, f2, f3, f4, rfl⟩ := lenOf4 (hn.symm.trans h5); obtain ⟨x, x2, x3, x4, rfl⟩ := lenOf4 (V1.trans h5); obtain ⟨y, y2, y3, y4, rfl⟩ := lenOf4 (U1.trans (hn.symm.trans h5))
      exact ((ae4 p q (by omega) (hd 0 _ _ _ _ rfl rfl rfl rfl) (hd 1 _ _ _ _ rfl rfl rfl rfl) (hd 2 _ _ _ _ rfl rfl rfl rfl) (hd 3 _ _ _ _ rfl rfl rfl rfl)).more (by omega)).eq (by simp [eqvs])
  · rw [eqvs_len hn]
    exact (ae_len p q rfl rfl (by omega) (by omega) (by omega)).more (by omega)

theorem dbl_eq {w : World} {h : Heap} {li li' : Addr} {v v' : Value} {x x' : PyData} {e e' : Nat} (p : h.get? li = some (listOf #[v] e)) (q : h.get? li' = some (listOf #[v'] e')) (hx : ∀ h' : Heap, h.StaysIn h' → Reads h' v x []) (hx' : ∀ h' : Heap, h.StaysIn h' → Reads h' v' x' [])
    (s1 : PySem.SeqAt.shaped (.list [x]) = true) (s2 : PySem.SeqAt.shaped (.list [x']) = true) : EqB w h li li' (PyData.eqv (.list [x]) (.list [x'])) := by
  intro A Q E s k hu hQ
  refine eq_dataH (as := [li]) (bs := [li']) (reads_list_at (k _ _ p) rfl rfl ?_) (reads_list_at (k _ _ q) rfl rfl ?_) s1 s2 hu hQ
  · exact ReadsAll.cons (as := []) (bs := []) (hx _ k) .nil
  · exact ReadsAll.cons (as := []) (bs := []) (hx' _ k) .nil
theorem tup_reads {h h' : Heap} {ti : Addr} {i j : Int} {t t' : Tok} {e : Nat} (p : h.get? ti = some (tupOf #[.int i t, .int j t'] e)) (k : h.StaysIn h') : Reads h' (.ref ti) (.tuple [.int i, .int j]) [] :=
  reads_tuple_at (k _ _ p) rfl rfl (ReadsAll.cons (as := []) (bs := []) (.int _ _) (ReadsAll.cons (as := []) (bs := []) (.int _ _) .nil))

theorem le_step {w : World} {n : Nat} (hA : ∀ k, n = k + 1 → AEs w k) : LEs w n := by
  intro h u v U V hU hV
  obtain ⟨a, rfl⟩ := hU.isRef
  obtain ⟨a', rfl⟩ := hV.isRef
  by_cases hk : kindOf U = kindOf V
  · cases hU with
    | sym p1 p2 => cases hV with
      | sym q1 q2 => exact ((le_sym p1 p2 q1 q2).more (by omega)).eq (by cases n <;> rfl)
      | _ => exact absurd hk (by simp only [kindOf]; decide +kernel)
    | nul p1 p2 => cases hV with
      | nul q1 q2 => exact ((le_nul p1 p2 q1 q2).more (by omega)).eq (by cases n <;> rfl)
      | _ => exact absurd hk (by simp only [kindOf]; decide +kernel)
    | dblN p1 p2 p3 => cases hV with
      | dblN q1 q2 q3 =>
        exact ((le_dbl p1 p2 q1 q2 (fun h' k => sa_none rfl rfl (k _ _ p1) (k _ _ p2) (k _ _ q1) (k _ _ q2)) (dbl_eq p3 q3 (fun _ _ => .none) (fun _ _ => .none) (by decide) (by decide))).more (by omega)).eq (by cases n <;> simp [eqv, PyData.eqv, PyData.eqvAll])
      | dblT q1 q2 q3 q4 =>
        exact ((le_dbl p1 p2 q1 q2 (fun h' k => sa_none rfl rfl (k _ _ p1) (k _ _ p2) (k _ _ q1) (k _ _ q2)) (dbl_eq p3 q3 (fun _ _ => .none) (fun _ k => tup_reads q4 k) (by decide) (by rfl))).more (by omega)).eq (by cases n <;> simp [eqv, PyData.eqv, PyData.eqvAll])
      | _ => exact absurd hk (by simp only [kindOf]; decide +kernel)
    | dblT p1 p2 p3 p4 => cases hV with
      | dblN q1 q2 q3 =>
        exact ((le_dbl p1 p2 q1 q2 (fun h' k => sa_none rfl rfl (k _ _ p1) (k _ _ p2) (k _ _ q1) (k _ _ q2)) (dbl_eq p3 q3 (fun _ k => tup_reads p4 k) (fun _ _ => .none) (by rfl) (by decide))).more (by omega)).eq (by cases n <;> simp [eqv, PyData.eqv, PyData.eqvAll])
      | dblT q1 q2 q3 q4 =>
        refine ((le_dbl p1 p2 q1 q2 (fun h' k => sa_none rfl rfl (k _ _ p1) (k _ _ p2) (k _ _ q1) (k _ _ q2)) (dbl_eq p3 q3 (fun _ k => tup_reads p4 k) (fun _ k => tup_reads q4 k) (by rfl) (by rfl))).more (by omega)).eq ?_
        cases n <;> simp [eqv, PyData.eqv, PyData.eqvAll] <;> rfl
      | _ => exact absurd hk (by simp only [kindOf]; decide +kernel)
    | chr p1 p2 p3 p4 p5 p6 => cases hV with
      | chr q1 q2 q3 q4 q5 q6 =>
        refine ((le_chr p1 p2 q1 q2 (fun h' k => sa_ats (k _ _ p1) (k _ _ p2) (p5.mono fun a o e => k a o e) p6 (k _ _ q1) (k _ _ q2) (q5.mono fun a o e => k a o e) q6) (fun A Q E s k hu hQ => eq_opt1 (k _ _ p3) (k _ _ q3) p4 q4 hu hQ)).more (by omega)).eq ?_
        cases n <;> rfl
      | _ => exact absurd hk (by simp only [kindOf]; decide +kernel)
    | call p1 p2 p3 p4 p5 p6 p7 p8 p9 p10 => cases hV with
      | call q1 q2 q3 q4 q5 q6 q7 q8 q9 q10 =>
        refine (le_call p1 p2 q1 q2 (fun A Q E s k hu hQ => eq_opts (k _ _ p4) (k _ _ q4) p5 p7 q5 q7 hu hQ) (fun h' k => hA _ rfl h' _ _ _ _ _ _ _ _ (k _ _ p3) (k _ _ q3) ⟨p8, p9, fun i v d a b => (p10 i v d a b).mono fun a o e => k a o e⟩ ⟨q8, q9, fun i v d a b => (q10 i v d a b).mono fun a o e => k a o e⟩)).more (by omega)
      | _ => exact absurd hk (by simp only [kindOf]; decide +kernel)
    | lst p1 p2 p3 p4 p5 p6 => cases hV with
      | lst q1 q2 q3 q4 q5 q6 =>
        refine (le_lst p1 p2 q1 q2 (fun h' k => sa_none rfl rfl (k _ _ p1) (k _ _ p2) (k _ _ q1) (k _ _ q2)) (fun h' k => hA _ rfl h' _ _ _ _ _ _ _ _ (k _ _ p3) (k _ _ q3) ⟨p4, p5, fun i v d a b => (p6 i v d a b).mono fun a o e => k a o e⟩ ⟨q4, q5, fun i v d a b => (q6 i v d a b).mono fun a o e => k a o e⟩)).more (by omega)
      | _ => exact absurd hk (by simp only [kindOf]; decide +kernel)
    | exp p1 p2 p3 p4 p5 p6 => cases hV with
      | exp q1 q2 q3 q4 q5 q6 =>
        refine (le_exp p1 p2 q1 q2 (fun h' k => sa_none rfl rfl (k _ _ p1) (k _ _ p2) (k _ _ q1) (k _ _ q2)) (fun h' k => hA _ rfl h' _ _ _ _ _ _ _ _ (k _ _ p3) (k _ _ q3) ⟨p4, p5, fun i v d a b => (p6 i v d a b).mono fun a o e => k a o e⟩ ⟨q4, q5, fun i v d a b => (q6 i v d a b).mono fun a o e => k a o e⟩)).more (by omega)
      | _ => exact absurd hk (by simp only [kindOf]; decide +kernel)
  · rw [eqv_ne n U V hk]
    exact (le_ne hU hV (by simpa using hk)).more (by omega)

theorem le_all {w : World} : ∀ n, LEs w n
  | 0 => le_step fun _ h => nomatch h
  | n + 1 => le_step fun k h => by cases h; exact ae_all (le_all n)
theorem aes_all {w : World} (n : Nat) : AEs w n := ae_all (le_all n)
/-- everything but one object stays -/
def StaysBut (a : Addr) (h h' : Heap) : Prop := ∀ b o, b ≠ a → h.get? b = some o → h'.get? b = some o

abbrev hObj (aS : Addr) (i : Int) (t : Tok) (e : Nat) : Obj := listOf #[.ref aS, .int i t] e
/-- the script's copy -/
structure HS (h : Heap) (aS : Addr) (ns : List Int) : Prop where
  ex : ∃ vs e, h.get? aS = some (listOf (List.toArray vs) e) ∧ IntsAre vs ns
  room : ns.length ≤ 70

theorem Fr.but {h₀ h h' : Heap} {L a : Addr} {m : Str → Option Value} {o : Obj} (F : Fr h₀ L h m) (N : News h₀ L h [(a, o)]) (k : StaysBut a h h') : Fr h₀ L h' m :=
  have z := (N _ (.head _)).2
  ⟨F.ns.at' fun o e => k _ _ (Ne.symm z.1) e, fun b o e => k _ _ (fun q => by rw [q, z.2] at e; cases e) (F.keep b o e), F.above⟩
theorem News.but {h₀ h h' : Heap} {L a : Addr} {news : List (Addr × Obj)} (N : News h₀ L h news) (k : StaysBut a h h') (hn : ∀ p ∈ news, p.1 ≠ a) : News h₀ L h' news :=
  fun p hp => ⟨k _ _ (hn p hp) (N p hp).1, (N p hp).2⟩


theorem rows_11 : True := by
  k_with_none
  (k_with "my ktr_room" => ((simp only [depth_under_make, depth_under_kw, depth_in1, depth_deeper, depth_caller, recursionLimit] at *); omega))
  (k_with "my ktr_units" => ((simp only [units_in1, units_deeper, Around.mark_units, units_caller, cLine] at *); omega))
  (k_with "my ite" => (k_closed; first | (with_reducible refine ite_pos ?c ?_; (case c => decide +kernel)) | (with_reducible refine ite_neg ?c ?_; (case c => decide +kernel))))
  (k_with "my ktr_enter" => (refine' code_defG ?k1 ?k2 ?k3 ?k4 ?k5 ?kA ?kF ?kK ?k6 ?k7 ?k8 ?k9 ?kB ?_ ?c2 ?c3 ?c4 ?c5; (case kA => exact rfl); (case kF => exact rfl); (case kK => assumption); (case k1 => k_asm); (case k2 => k_asm); (case k3 => k_asm); (case k4 => k_asm); (case k5 => k_asm); (case k6 => k_is); (case k7 => k_is); (case k8 => ktr_room); (case k9 => first | exact BindsTo.of_eq rfl | exact binds_K (by k_in) rfl (by k_is) rfl rfl rfl | fail "k_enter: no rule for these arguments"); (case c5 => decide); (case kB => exact locs rfl); (case c2 => exact rfl); (case c3 => exact rfl); (case c4 => exact rfl); k_whole))
  exact trivial
/-- what a call that draws leaves: the heap of figures moved, all else as it stood -/
def Drew (aH aS : Addr) (ns : List Int) (h h' : Heap) : Prop := StaysBut aH h h' ∧ ∃ i t e, h'.get? aH = some (hObj aS i t e) ∧ 0 ≤ i ∧ i ≤ (ns.length : Int)

set_option maxRecDepth 100000 in
set_option maxHeartbeats 80000000 in
theorem scoop {w : World} {mean : ExcName → Option Value} {mg mb : Str → Option Value} {dp un : Nat} {gd : Option (List Code)} {cn : Str} {cs : Scope} {ca : Addr} {ccd : Value} {cl : List (Str × Addr)} {outer : List Env} {A₀ : Around} {base h₀ : Heap} {L : Addr} {m : Str → Option Value} {s : Shared} {Q E : Value → Shared → Prop}
    {aH aS : Addr} {ns : List Int} {i k : Int} {t tk : Tok} {e : Nat}
    (B : Below A₀ base outer h₀) (F : Fr h₀ L s.heap m) (X : (hd.heap_39 w.params).In h₀) (T : Top hd.view_39 (looseW hd.view_39 [Str.ofString "list_of"]) mean mg mb h₀) (hk : cs.kind = .function) (hd : dp + 10 < recursionLimit) (hu : un + 200 < cLine)
    (N : News h₀ L s.heap [(aH, hObj aS i t e)]) (hS : HS s.heap aS ns) (hne : aS ≠ aH) (h0 : 0 ≤ i) (h1 : i ≤ (ns.length : Int)) (hk0 : 0 < k)
    (hret : ∀ r tr h' tk', 0 ≤ r → r < k → Drew aH aS ns s.heap h' → Q (.int r tr) { s with heap := h', toks := tk' }) :
    wpAny (model PySem.Challenge.rw_pq1391_01.row.prog w) (ktrTop dp un gd cn cs L ca ccd cl outer) (call (.ref 197) [.ref aH, .int k tk]) Q E s := by
  w_on
  revert X T
  k_fill
  intro X T
  obtain ⟨⟨vs, e', hS1, hI⟩, hr⟩ := hS
  refine wpAny_call ?_
  k_dflt ktr_enter
  intro g' L' h' FG' F' N' B' X' T' kG'
  (try dsimp only)
  k_fold
  have i1 : g'.IsList aS (List.toArray vs) := isList_of (kG' _ _ hS1 (by simpa using hne))
  have hl := IntsAre.length hI
  k_steps
  · refine hret _ _ _ _ (by omega) (by omega) ⟨fun b o hb he => Fr.keep (by assumption) b o (kG' b o he (by simpa using hb)), _, _, _, ((by assumption : News g' _ _ [(aH, _)]) _ (.head _)).1, by omega, by omega⟩
  · refine hret _ _ _ _ (Int.fmod_nonneg_of_pos _ hk0) (Int.fmod_lt_of_pos _ hk0) ⟨fun b o hb he => Fr.keep (by assumption) b o (kG' b o he (by simpa using hb)), _, _, _, ((by assumption : News g' _ _ [(aH, _)]) _ (.head _)).1, by omega, by omega⟩

theorem updF_mem {d : Addr} {o : Obj} {l : List (Addr × Obj)} {g : Obj → List (Addr × Obj)} (U : UpdF d o l g) : (d, o) ∈ l := by
  obtain ⟨pre, post, rfl, _⟩ := U.split
  exact List.mem_append_right _ (.head _)
theorem News.sub {h₀ h : Heap} {L : Addr} {l l' : List (Addr × Obj)} (N : News h₀ L h l) (s : ∀ p ∈ l', p ∈ l) : News h₀ L h l' := fun p hp => N p (s p hp)
theorem updF_news {h₀ h h' : Heap} {L d : Addr} {o o' : Obj} {l : List (Addr × Obj)} {g : Obj → List (Addr × Obj)} (U : UpdF d o l g) (N : News h₀ L h l) (k : StaysBut d h h') (e : h'.get? d = some o') : News h₀ L h' (g o') := by
  obtain ⟨pre, post, rfl, hg, h1, h2⟩ := U.split
  rw [hg]
  intro p hp
  rcases List.mem_append.mp hp with hp | hp
  · exact ⟨k _ _ (h1 p hp) (N p (List.mem_append_left _ hp)).1, (N p (List.mem_append_left _ hp)).2⟩
  · rcases List.mem_cons.mp hp with rfl | hp
    · exact ⟨e, (N (d, o) (List.mem_append_right _ (.head _))).2⟩
    · exact ⟨k _ _ (h2 p hp) (N p (List.mem_append_right _ (.tail _ hp))).1, (N p (List.mem_append_right _ (.tail _ hp))).2⟩

/-- the figures: the script's copy stands in the ledger -/
structure Scr (aH aS : Addr) (ns : List Int) (l : List (Addr × Obj)) : Prop where
  ex : ∃ vs e, (aS, listOf (List.toArray vs) e) ∈ l ∧ IntsAre vs ns
  room : ns.length ≤ 70
  ne : aS ≠ aH
theorem Scr.mono {aH aS : Addr} {ns : List Int} {l l' : List (Addr × Obj)} (S : Scr aH aS ns l) (s : ∀ p ∈ l, p ∈ l') : Scr aH aS ns l' := by
  obtain ⟨⟨vs, e, h1, h2⟩, h3, h4⟩ := S
  exact ⟨⟨vs, e, s _ h1, h2⟩, h3, h4⟩

theorem scoop_led {w : World} {mean : ExcName → Option Value} {mg mb : Str → Option Value} {dp un : Nat} {gd : Option (List Code)} {cn : Str} {cs : Scope} {ca : Addr} {ccd : Value} {cl : List (Str × Addr)} {outer : List Env} {A₀ : Around} {base h₀ : Heap} {L : Addr} {m : Str → Option Value} {s : Shared} {Q E : Value → Shared → Prop}
    {aH aS : Addr} {ns : List Int} {i k : Int} {t tk : Tok} {e : Nat} {news all : List (Addr × Obj)} {g : Obj → List (Addr × Obj)}
    (S : Scr aH aS ns news) (B : Below A₀ base outer h₀) (F : Fr h₀ L s.heap m) (X : (hd.heap_39 w.params).In h₀) (T : Top hd.view_39 (looseW hd.view_39 [Str.ofString "list_of"]) mean mg mb h₀) (hk : cs.kind = .function) (hd : dp + 10 < recursionLimit) (hu : un + 200 < cLine)
    (N : News h₀ L s.heap all) (U : UpdF aH (hObj aS i t e) all g) (hs : ∀ p ∈ news, p ∈ all) (h0 : 0 ≤ i) (h1 : i ≤ (ns.length : Int)) (hk0 : 0 < k)
    (hret : ∀ r tr i' t' e' h' tk', 0 ≤ r → r < k → 0 ≤ i' → i' ≤ (ns.length : Int) → Fr h₀ L h' m → News h₀ L h' (g (hObj aS i' t' e')) → Q (.int r tr) { s with heap := h', toks := tk' }) :
    wpAny (model PySem.Challenge.rw_pq1391_01.row.prog w) (ktrTop dp un gd cn cs L ca ccd cl outer) (call (.ref 197) [.ref aH, .int k tk]) Q E s := by
  have N1 : News h₀ L s.heap [(aH, hObj aS i t e)] := News.sub N fun p hp => by rw [List.mem_singleton.mp hp]; exact updF_mem U
  obtain ⟨⟨vs, e', hS1, hI⟩, hr, hne⟩ := S
  refine scoop B F X T hk hd hu N1 (ns := ns) ⟨⟨vs, e', (N _ (hs _ hS1)).1, hI⟩, hr⟩ hne h0 h1 hk0 fun r tr h' tk' r0 r1 D => ?_
  obtain ⟨D1, i', t', e2, D2, D3, D4⟩ := D
  exact hret r tr i' t' e2 h' tk' r0 r1 D3 D4 (Fr.but F N1 D1) (updF_news U N D1 D2)

/-- the turns of a comprehension by an invariant -/
theorem compRest_inv {prog : Program} {w : World} {A : Around} {h₀ : Heap} {L : Addr} {m : Str → Option Value} {env : Env} {elt : PySem.Expr} {x : Str} {scope : Scope} {cl : List (Str × Addr)} {s : Shared} {S : List (Addr × Obj) → Prop} {P : Nat → Value → Prop}
    {Fin : List Value → List (Addr × Obj) → Prop} {n : Nat} (J : Nat → List Value → List (Addr × Obj) → Prop)
    (turn : ∀ i ys news, i < n → J i ys news → ∀ v I oI C oC D m₂ h tk (E' : Value → Shared → Prop), P i v → LCg.NsObj oC m₂ → m₂ x = some v → Fr h₀ L h m → News h₀ L h ((I, oI) :: (C, oC) :: (D, LCg.lst ys) :: news) → LCg.Off3 I C D news → ((@Ne Nat I C) ∧ (@Ne Nat I D) ∧ (@Ne Nat C D)) →
      wpAny (model prog w) A (eval elt (compEnvC scope cl C env)) (LCg.CompEnd h₀ L m { s with heap := h, toks := tk } I oI C oC D (LCg.lst ys) S (fun y news' => J (i + 1) (ys ++ [y]) news')) E' { s with heap := h, toks := tk })
    (fin : ∀ ys news, J n ys news → Fin ys news) : ∀ k i ys news, i + k = n → J i ys news → LCg.CompRest prog w A h₀ L m env elt x scope cl s S P Fin k i ys news
  | 0, i, ys, news, e, j => .zero (fin _ _ (by rw [← e]; exact j))
  | k + 1, i, ys, news, e, j => .succ fun v I oI C oC D m₂ h tk E' hP hC hx F N off ne =>
    wpAny_mono (turn i ys news (by omega) j v I oI C oC D m₂ h tk E' hP hC hx F N off ne) (fun y s₂ hh => by
      obtain ⟨h', tk', news', e1, F', N', o', S', J'⟩ := hh
      exact ⟨h', tk', news', e1, F', N', o', S', compRest_inv J turn fin k (i + 1) _ _ (by omega) J'⟩) fun _ _ q => q

def Disj (tl news : List (Addr × Obj)) : Prop := ∀ p ∈ tl, ∀ q ∈ news, p.1 ≠ q.1
abbrev InL (l : List (Addr × Obj)) : Addr → Obj → Prop := fun a o => (a, o) ∈ l

/-- no node has more than two parts -/
inductive Sm : Pl → Prop where
  | leaf {k p q} : Sm (.leaf k p q)
  | node {k q tags} {parts : List Pl} : parts.length ≤ 2 → (∀ p ∈ parts, Sm p) → Sm (.node k q tags parts)

def PlanC (w : World) (n : Nat) : Prop :=
  ∀ (mean : ExcName → Option Value) (mg mb : Str → Option Value) (dp un : Nat) (gd : Option (List Code)) (cn : Str) (cs : Scope) (ca : Addr) (ccd : Value) (cl : List (Str × Addr)) (outer : List Env) (A₀ : Around) (base h₀ : Heap) (L : Addr) (m : Str → Option Value) (s : Shared) (Q E : Value → Shared → Prop)
    (aH aS : Addr) (ns : List Int) (i d : Int) (t tk : Tok) (e : Nat) (news : List (Addr × Obj)),
    d = (n : Int) → Scr aH aS ns news → (∀ p ∈ news, p.1 ≠ aH) → Below A₀ base outer h₀ → Fr h₀ L s.heap m → (hd.heap_39 w.params).In h₀ → Top hd.view_39 (looseW hd.view_39 [Str.ofString "list_of"]) mean mg mb h₀ → cs.kind = .function → dp + 12 * (n + 2) < recursionLimit → un + 240 * (n + 2) < cLine →
    News h₀ L s.heap ((aH, hObj aS i t e) :: news) → 0 ≤ i → i ≤ (ns.length : Int) →
    (∀ r pl tl i' t' e' h' tk', PlR (InL tl) n r pl → Sm pl → Disj tl ((aH, hObj aS i t e) :: news) → 0 ≤ i' → i' ≤ (ns.length : Int) → Fr h₀ L h' m → News h₀ L h' ((aH, hObj aS i' t' e') :: (tl ++ news)) → Q r { s with heap := h', toks := tk' }) →
    wpAny (model PySem.Challenge.rw_pq1391_01.row.prog w) (ktrTop dp un gd cn cs L ca ccd cl outer) (call (.ref 202) [.ref aH, .int d tk]) Q E s


theorem rows_12 : True := by
  k_with_none
  (k_with "my ktr_room" => ((simp only [depth_under_make, depth_under_kw, depth_in1, depth_deeper, depth_caller, recursionLimit] at *); omega))
  (k_with "my ktr_units" => ((simp only [units_in1, units_deeper, Around.mark_units, units_caller, cLine] at *); omega))
  (k_with "my k_all" => assumption)
  (k_with "my ite" => (k_closed; first | (with_reducible refine ite_pos ?c ?_; (case c => decide +kernel)) | (with_reducible refine ite_neg ?c ?_; (case c => decide +kernel))))
  (k_with "my ktr_enter" => (refine' code_defC ?k1 ?k2 ?k3 ?k4 ?k5 ?kA ?kF ?kK ?k6 ?k7 ?k8 ?k9 ?kB ?kD ?_ ?c2 ?c3 ?c4; (case kA => exact rfl); (case kF => exact rfl); (case kK => assumption); (case k1 => k_asm); (case k2 => k_asm); (case k3 => k_asm); (case k4 => k_asm); (case k5 => k_asm); (case k6 => k_is); (case k7 => k_is); (case k8 => ktr_room); (case k9 => first | exact BindsTo.of_eq rfl | exact binds_K (by k_in) rfl (by k_is) rfl rfl rfl | fail "k_enter: no rule for these arguments"); (case kB => exact rfl); (case kD => decide +kernel); (case c2 => exact rfl); (case c3 => exact rfl); (case c4 => exact rfl); k_whole; intro g' L' h' tk' cells' FG' F' N' Y' B' X' T' l1; (try k_lt l1); k_cells Y'; (try simp only [List.cons_append, List.nil_append] at N'); (try dsimp only)))
  (k_with "my ktr_rel" => (intro p9 h9; simp only [List.mem_cons, List.mem_append] at h9 ⊢; simp only [h9, true_or, or_true]))
  (k_with "my call ref" => (k_here; k_dflt (refine' scoop_led ?S ?k1 ?k2 ?k3 ?k5 ?k6 ?k7 ?k8 ?k4 ?U ?hs ?i0 ?i1 ?kk ?_; (case S => assumption); (case k1 => k_asm); (case k2 => k_asm); (case k3 => k_asm); (case k5 => k_asm); (case k6 => first | exact rfl | assumption); (case k7 => ktr_room); (case k8 => ktr_units); (case k4 => k_asm); (case U => k_updF); (case hs => ktr_rel); (case i0 => assumption); (case i1 => assumption); (case kk => first | decide | omega)); intro r' tr' i' t' e' h2' tk2' r0' r1' i0' i1' F2' N2'; (try dsimp only at N2'); (try k_sweep)))
  exact trivial
theorem disj_cons {D : Addr} {o : Obj} {tl news : List (Addr × Obj)} (h : AllLt D news) (k : Disj tl news) : Disj ((D, o) :: tl) news := by
  intro p hp q hq
  rcases List.mem_cons.mp hp with rfl | hp
  · exact Ne.symm (Nat.ne_of_lt (ktn_ltOf h q hq))
  · exact k p hp q hq
theorem disj_nil {news : List (Addr × Obj)} : Disj [] news := fun _ h => nomatch h
theorem plan_leaf {h₀ : Heap} {L D aH aS c1 c2 : Addr} {o1 o2 : Obj} {h' : Heap} {k p q i i' : Int} {t0 t1 t2 t t' : Tok} {e e' e2 n : Nat} {news : List (Addr × Obj)} {G : Prop}
    (N : News h₀ L h' ((D, listOf #[.int k t0, .int p t1, .int q t2] e2) :: (c1, o1) :: (c2, o2) :: (aH, hObj aS i' t' e') :: news)) (l1 : @LT.lt Nat _ c1 D ∧ @LT.lt Nat _ c2 D ∧ @LT.lt Nat _ aH D ∧ AllLt D news)
    (b1 : 0 ≤ k) (b2 : k < 4) (b3 : 0 ≤ p) (b4 : p < 5) (b5 : 0 ≤ q) (b6 : q < 3)
    (hret : ∀ r pl tl, PlR (InL tl) n r pl → Sm pl → Disj tl ((aH, hObj aS i t e) :: news) → News h₀ L h' ((aH, hObj aS i' t' e') :: (tl ++ news)) → r = .ref D → G) : G :=
  hret (.ref D) (.leaf k p q) [(D, listOf #[.int k t0, .int p t1, .int q t2] e2)] (.leaf (.head _) b1 b2 b3 b4 b5 b6) .leaf (disj_cons ⟨l1.2.2.1, l1.2.2.2⟩ disj_nil) (News.sub N (by
    intro p9 h9; simp only [List.mem_cons, List.mem_append] at h9 ⊢; rcases h9 with h9 | (h9 | h9) | h9
    · exact .inr (.inr (.inr (.inl h9)))
    · exact .inl h9
    · exact nomatch h9
    · exact .inr (.inr (.inr (.inr h9))))) rfl
set_option maxRecDepth 100000 in
set_option maxHeartbeats 8000000 in
theorem plan_zero {w : World} : PlanC w 0 := by
  intro mean mg mb dp un gd cn cs ca ccd cl outer A₀ base h₀ L m s Q E aH aS ns i d t tk e news hdn hS hoff B F X T hk hdp hun N i0 i1 hret
  w_on
  revert X T
  k_fill
  intro X T
  refine wpAny_call ?_
  k_dflt ktr_enter
  show wpAny _ _ _ _ _ _
  k_fold
  k_steps
  refine plan_leaf (n := 0) (i := i) (t := t) (e := e) (by k_asm : News h₀ L _ _) (by assumption) ?a1 ?a2 ?a3 ?a4 ?a5 ?a6 fun r pl tl q1 qs q2 q3 q4 => ?_
  (case a1 => assumption); (case a2 => assumption); (case a3 => assumption); (case a4 => assumption); (case a5 => assumption); (case a6 => assumption)
  subst q4
  exact hret _ pl tl _ _ _ _ _ q1 qs q2 (by assumption) (by assumption) (by k_asm) q3

theorem Disj.of {tl news : List (Addr × Obj)} (h : Disj tl news) {p q : Addr × Obj} (hp : p ∈ tl) (hq : q ∈ news) : p.1 ≠ q.1 := h p hp q hq
theorem Disj.app {tl tl' news : List (Addr × Obj)} (h : Disj tl news) (k : Disj tl' news) : Disj (tl ++ tl') news := fun p hp q hq => (List.mem_append.mp hp).elim (fun x => h p x q hq) fun x => k p x q hq
theorem Disj.sub {tl news news' : List (Addr × Obj)} (h : Disj tl news) (s : ∀ p ∈ news', p ∈ news) : Disj tl news' := fun p hp q hq => h p hp q (s q hq)

/-- the parts drawn so far -/
structure PJ (n : Nat) (c1 : Addr) (o1 : Obj) (c2 : Addr) (o2 : Obj) (aH aS : Addr) (ns : List Int) (news : List (Addr × Obj)) (j : Nat) (ys : List Value) (nw : List (Addr × Obj)) : Prop where
  ex : ∃ (i : Int) (t : Tok) (e : Nat) (tl : List (Addr × Obj)) (pls : List Pl), nw = (c1, o1) :: (c2, o2) :: (aH, hObj aS i t e) :: (tl ++ news) ∧ 0 ≤ i ∧ i ≤ (ns.length : Int) ∧ Disj tl ((c1, o1) :: (c2, o2) :: (aH, hObj aS i t e) :: news) ∧
    ys.length = j ∧ pls.length = j ∧ ∀ (k : Nat) v p, ys[k]? = some v → pls[k]? = some p → PlR (InL tl) n v p ∧ Sm p
theorem PJ.start {n : Nat} {c1 : Addr} {o1 : Obj} {c2 : Addr} {o2 : Obj} {aH aS : Addr} {ns : List Int} {news : List (Addr × Obj)} {i : Int} {t : Tok} {e : Nat} (h0 : 0 ≤ i) (h1 : i ≤ (ns.length : Int)) :
    PJ n c1 o1 c2 o2 aH aS ns news 0 [] ((c1, o1) :: (c2, o2) :: (aH, hObj aS i t e) :: news) :=
  ⟨i, t, e, [], [], rfl, h0, h1, disj_nil, rfl, rfl, fun k v p h => by simp at h⟩

theorem rel_snoc {α β : Type} {P : α → β → Prop} {P' : α → β → Prop} {xs : List α} {ys : List β} {x : α} {y : β} (hl : xs.length = ys.length) (h : ∀ (k : Nat) v p, xs[k]? = some v → ys[k]? = some p → P v p) (m : ∀ v p, P v p → P' v p) (hx : P' x y) :
    ∀ (k : Nat) v p, (xs ++ [x])[k]? = some v → (ys ++ [y])[k]? = some p → P' v p := by
  intro k v p h1 h2
  by_cases hk : k < xs.length
  · rw [List.getElem?_append_left hk] at h1
    rw [List.getElem?_append_left (hl ▸ hk)] at h2
    exact m _ _ (h k v p h1 h2)
  · have hk' : k = xs.length := by
      have := (List.getElem?_eq_some_iff.mp h1).1
      simp at this; omega
    subst hk'
    simp at h1
    rw [hl] at h2
    simp at h2
    subst h1 h2
    exact hx

theorem plan_turn {w : World} {n : Nat} (IH : PlanC w n) {mean : ExcName → Option Value} {mg mb : Str → Option Value} {dp un : Nat} {gd : Option (List Code)} {cn : Str} {cs : Scope} {ca : Addr} {ccd : Value} {cl : List (Str × Addr)} {outer : List Env} {A₀ : Around} {base h₀ : Heap} {L : Addr} {m : Str → Option Value} {s s₁ : Shared} {E : Value → Shared → Prop}
    {aH aS c1 c2 I C D : Addr} {o1 o2 oI oC : Obj} {ns : List Int} {d : Int} {tk : Tok} {news nw : List (Addr × Obj)} {j : Nat} {ys : List Value}
    (J : PJ n c1 o1 c2 o2 aH aS ns news j ys nw) (hdn : d = (n : Int)) (S : Scr aH aS ns news) (hoff : ∀ p ∈ news, p.1 ≠ aH) (hc1 : @Ne Nat c1 aH) (hc2 : @Ne Nat c2 aH)
    (B : Below A₀ base outer h₀) (F : Fr h₀ L s.heap m) (X : (hd.heap_39 w.params).In h₀) (T : Top hd.view_39 (looseW hd.view_39 [Str.ofString "list_of"]) mean mg mb h₀) (hk : cs.kind = .function) (hdp : dp + 12 * (n + 2) < recursionLimit) (hun : un + 240 * (n + 2) < cLine)
    (N : News h₀ L s.heap ((I, oI) :: (C, oC) :: (D, LCg.lst ys) :: nw)) (off : LCg.Off3 I C D nw) (hs : ∀ (h : Heap) (tk : Nat), ({ s with heap := h, toks := tk } : Shared) = { s₁ with heap := h, toks := tk }) :
    wpAny (model PySem.Challenge.rw_pq1391_01.row.prog w) (ktrTop dp un gd cn cs L ca ccd cl outer) (call (.ref 202) [.ref aH, .int d tk])
      (LCg.CompEnd h₀ L m s₁ I oI C oC D (LCg.lst ys) (fun _ => True) (fun y news' => PJ n c1 o1 c2 o2 aH aS ns news (j + 1) (ys ++ [y]) news')) E s := by
  obtain ⟨i, t, e, tl, pls, rfl, i0, i1, hD, hy, hp, hR⟩ := J
  have off' := off.mem
  have oH := off' (aH, hObj aS i t e) (by simp)
  refine IH mean mg mb dp un gd cn cs ca ccd cl outer A₀ base h₀ L m s _ E aH aS ns i d t tk e ((I, oI) :: (C, oC) :: (D, LCg.lst ys) :: (c1, o1) :: (c2, o2) :: (tl ++ news)) hdn (S.mono fun p hp => by simp [hp]) ?_ B F X T hk hdp hun (News.sub N ?_) i0 i1 ?_
  · intro p hp
    simp only [List.mem_cons, List.mem_append] at hp
    rcases hp with rfl | rfl | rfl | rfl | rfl | hp | hp
    · exact Ne.symm oH.1
    · exact Ne.symm oH.2.1
    · exact Ne.symm oH.2.2
    · exact hc1
    · exact hc2
    · exact hD p hp (aH, hObj aS i t e) (by simp)
    · exact hoff p hp
  · intro p hp
    simp only [List.mem_cons, List.mem_append] at hp ⊢
    rcases hp with h | h | h | h | h | h | h | h <;> simp [h]
  · intro r pl tl' i' t' e' h' tk' hr hsm hd' j0 j1 F' N'
    rw [hs]
    refine LCg.CompEnd.intro F' N' ((c1, o1) :: (c2, o2) :: (aH, hObj aS i' t' e') :: ((tl' ++ tl) ++ news)) ?_ (LCg.Off3.of ?_) trivial ?_
    · intro p hp
      simp only [List.mem_cons, List.mem_append] at hp ⊢
      rcases hp with h | h | h | h | h | h | (h | h) | h <;> simp [h]
    · intro p hp
      simp only [List.mem_cons, List.mem_append] at hp
      rcases hp with rfl | rfl | rfl | (hp | hp) | hp
      · exact off' _ (by simp)
      · exact off' _ (by simp)
      · exact oH
      · exact ⟨hd' p hp (I, oI) (by simp), hd' p hp (C, oC) (by simp), hd' p hp (D, LCg.lst ys) (by simp)⟩
      · exact off' _ (by simp [hp])
      · exact off' _ (by simp [hp])
    · refine ⟨i', t', e', tl' ++ tl, pls ++ [pl], rfl, j0, j1, ?_, by simp [hy], by simp [hp], ?_⟩
      · intro p hp q hq
        simp only [List.mem_cons] at hq
        rcases List.mem_append.mp hp with hp | hp
        · rcases hq with rfl | rfl | rfl | hq
          · exact hd' p hp (c1, o1) (by simp)
          · exact hd' p hp (c2, o2) (by simp)
          · exact hd' p hp (aH, hObj aS i t e) (by simp)
          · exact hd' p hp q (by simp [hq])
        · rcases hq with rfl | rfl | rfl | hq
          · exact hD p hp (c1, o1) (by simp)
          · exact hD p hp (c2, o2) (by simp)
          · exact hD p hp (aH, hObj aS i t e) (by simp)
          · exact hD p hp q (by simp [hq])
      · exact rel_snoc (by rw [hy, hp]) hR (fun v p h => ⟨h.1.mono fun a o q => List.mem_append_right _ q, h.2⟩) ⟨hr.mono fun a o q => List.mem_append_left _ q, hsm⟩

/-- the tags drawn so far -/
structure PK (D : Addr) (c1 : Addr) (o1 : Obj) (c2 : Addr) (o2 : Obj) (aH aS : Addr) (ns : List Int) (rest : List (Addr × Obj)) (ys : List Value) (j : Nat) (zs : List Value) (nw : List (Addr × Obj)) : Prop where
  ex : ∃ (i : Int) (t : Tok) (e : Nat) (tags : List Int), nw = (D, LCg.lst ys) :: (c1, o1) :: (c2, o2) :: (aH, hObj aS i t e) :: rest ∧ 0 ≤ i ∧ i ≤ (ns.length : Int) ∧ IntsAre zs tags ∧ tags.length = j ∧ ∀ t ∈ tags, 0 ≤ t ∧ t < 2
theorem PK.start {D c1 : Addr} {o1 : Obj} {c2 : Addr} {o2 : Obj} {aH aS : Addr} {ns : List Int} {rest : List (Addr × Obj)} {ys : List Value} {i : Int} {t : Tok} {e : Nat} (h0 : 0 ≤ i) (h1 : i ≤ (ns.length : Int)) :
    PK D c1 o1 c2 o2 aH aS ns rest ys 0 [] ((D, LCg.lst ys) :: (c1, o1) :: (c2, o2) :: (aH, hObj aS i t e) :: rest) :=
  ⟨i, t, e, [], rfl, h0, h1, .nil, rfl, fun _ h => nomatch h⟩
theorem ints_snoc {xs : List Value} {ns : List Int} {k : Int} {t : Tok} (h : IntsAre xs ns) : IntsAre (xs ++ [.int k t]) (ns ++ [k]) := by
  induction h with
  | nil => exact .cons _ _ .nil
  | cons _ _ _ ih => exact .cons _ _ ih


theorem tag_turn {w : World} {mean : ExcName → Option Value} {mg mb : Str → Option Value} {dp un : Nat} {gd : Option (List Code)} {cn : Str} {cs : Scope} {ca : Addr} {ccd : Value} {cl : List (Str × Addr)} {outer : List Env} {A₀ : Around} {base h₀ : Heap} {L : Addr} {m : Str → Option Value} {s s₁ : Shared} {E : Value → Shared → Prop}
    {aH aS c1 c2 I C D D0 : Addr} {o1 o2 oI oC : Obj} {ns : List Int} {tk : Tok} {rest nw : List (Addr × Obj)} {j : Nat} {ys zs : List Value}
    (J : PK D0 c1 o1 c2 o2 aH aS ns rest ys j zs nw) (S : Scr aH aS ns rest) (hoff : ∀ p ∈ rest, p.1 ≠ aH) (hc1 : @Ne Nat c1 aH) (hc2 : @Ne Nat c2 aH) (hD0 : @Ne Nat D0 aH)
    (B : Below A₀ base outer h₀) (F : Fr h₀ L s.heap m) (X : (hd.heap_39 w.params).In h₀) (T : Top hd.view_39 (looseW hd.view_39 [Str.ofString "list_of"]) mean mg mb h₀) (hk : cs.kind = .function) (hdp : dp + 10 < recursionLimit) (hun : un + 200 < cLine)
    (N : News h₀ L s.heap ((I, oI) :: (C, oC) :: (D, LCg.lst zs) :: nw)) (off : LCg.Off3 I C D nw) (hs : ∀ (h : Heap) (tk : Nat), ({ s with heap := h, toks := tk } : Shared) = { s₁ with heap := h, toks := tk }) :
    wpAny (model PySem.Challenge.rw_pq1391_01.row.prog w) (ktrTop dp un gd cn cs L ca ccd cl outer) (call (.ref 197) [.ref aH, .int 2 tk])
      (LCg.CompEnd h₀ L m s₁ I oI C oC D (LCg.lst zs) (LCg.SrcAt h₀ D0 ys.toArray) (fun y news' => PK D0 c1 o1 c2 o2 aH aS ns rest ys (j + 1) (zs ++ [y]) news')) E s := by
  obtain ⟨i, t, e, tags, rfl, i0, i1, hz, hj, hR⟩ := J
  have off' := off.mem
  have oH := off' (aH, hObj aS i t e) (by simp)
  refine scoop_led (all := (I, oI) :: (C, oC) :: (D, LCg.lst zs) :: (D0, LCg.lst ys) :: (c1, o1) :: (c2, o2) :: (aH, hObj aS i t e) :: rest) S B F X T hk hdp hun N
    (.tail (Ne.symm oH.1) (.tail (Ne.symm oH.2.1) (.tail (Ne.symm oH.2.2) (.tail hD0 (.tail hc1 (.tail hc2 (.head hoff))))))) (fun p hp => by simp [hp]) i0 i1 (by decide) fun r tr i' t' e' h' tk' r0 r1 j0 j1 F' N' => ?_
  rw [hs]
  refine LCg.CompEnd.intro F' N' ((D0, LCg.lst ys) :: (c1, o1) :: (c2, o2) :: (aH, hObj aS i' t' e') :: rest) (fun p hp => hp) (LCg.Off3.of ?_) (.inr ⟨_, .head _, rfl, _, rfl⟩) ?_
  · intro p hp
    simp only [List.mem_cons] at hp
    rcases hp with rfl | rfl | rfl | rfl | hp
    · exact off' _ (by simp)
    · exact off' _ (by simp)
    · exact off' _ (by simp)
    · exact oH
    · exact off' _ (by simp [hp])
  · refine ⟨i', t', e', tags ++ [r], rfl, j0, j1, ints_snoc hz, by simp [hj], ?_⟩
    intro x hx
    rcases List.mem_append.mp hx with hx | hx
    · exact hR x hx
    · rw [List.mem_singleton.mp hx]; exact ⟨r0, r1⟩

theorem off1_mem {D : Addr} : ∀ {l : List (Addr × Obj)}, LCg.Off1 D l → ∀ p ∈ l, p.1 ≠ D
  | [], _, _, h => nomatch h
  | _ :: _, x, p, h => by
    rcases List.mem_cons.mp h with rfl | h
    · exact x.1
    · exact off1_mem x.2 p h
theorem plan_node {h₀ : Heap} {L l D1 D2 aH aS c1 c2 : Addr} {o1 o2 : Obj} {h' : Heap} {k q i i' : Int} {t0 t1 t t' : Tok} {e e' e0 n r : Nat} {news tl : List (Addr × Obj)} {ys zs : List Value} {tags : List Int} {pls : List Pl} {G : Prop}
    (N : News h₀ L h' ((l, listOf #[.int k t0, .int q t1, .ref D2, .ref D1] e0) :: (D2, LCg.lst zs) :: (D1, LCg.lst ys) :: (c1, o1) :: (c2, o2) :: (aH, hObj aS i' t' e') :: (tl ++ news)))
    (l1 : @LT.lt Nat _ D2 l ∧ @LT.lt Nat _ D1 l ∧ @LT.lt Nat _ c1 l ∧ @LT.lt Nat _ c2 l ∧ @LT.lt Nat _ aH l ∧ AllLt l (tl ++ news))
    (f1 : @Ne Nat c1 D1 ∧ @Ne Nat c2 D1 ∧ @Ne Nat aH D1 ∧ LCg.Off1 D1 (tl ++ news)) (f2 : @Ne Nat D1 D2 ∧ @Ne Nat c1 D2 ∧ @Ne Nat c2 D2 ∧ @Ne Nat aH D2 ∧ LCg.Off1 D2 (tl ++ news))
    {x1 x2 : Addr × Obj} {i2 : Int} {t2 : Tok} {e2 : Nat} (hD : Disj tl (x1 :: x2 :: (aH, hObj aS i2 t2 e2) :: news)) (b1 : 4 ≤ k) (b2 : k < 7) (b3 : 0 ≤ q) (b4 : q < 3) (hz : IntsAre zs tags) (ht : tags.length = ys.toArray.size) (hy : ys.length = r) (hp : pls.length = r) (hr : r ≤ 2) (htags : ∀ t ∈ tags, 0 ≤ t ∧ t < 2)
    (hR : ∀ (k : Nat) v p, ys[k]? = some v → pls[k]? = some p → PlR (InL tl) n v p ∧ Sm p)
    (hret : ∀ r pl tl, PlR (InL tl) (n + 1) r pl → Sm pl → Disj tl ((aH, hObj aS i t e) :: news) → News h₀ L h' ((aH, hObj aS i' t' e') :: (tl ++ news)) → r = .ref l → G) : G := by
  refine hret (.ref l) (.node k q tags pls) ((l, listOf #[.int k t0, .int q t1, .ref D2, .ref D1] e0) :: (D2, LCg.lst zs) :: (D1, LCg.lst ys) :: tl) ?_ ?_ ?_ (News.sub N ?_) rfl
  · refine .node (e := e0) (e1 := zs.length) (e2 := ys.length) (tvs := zs) (vs := ys) (.head _) (.tail _ (.head _)) (.tail _ (.tail _ (.head _))) b1 b2 b3 b4 hz ?_ htags ?_ ?_ fun j v p h1 h2 => (hR j v p h1 h2).1.mono fun a o x => .tail _ (.tail _ (.tail _ x))
    · rw [ht, List.size_toArray, hy, hp]
    · rw [hy, hp]
    · omega
  · refine .node (by omega) fun p hm => ?_
    obtain ⟨j, hj, rfl⟩ := List.getElem_of_mem hm
    exact (hR j (ys[j]'(by omega)) pls[j] (List.getElem?_eq_getElem _) (List.getElem?_eq_getElem _)).2
  · intro p hp q hq
    have la := fun p hp => ktn_ltOf l1.2.2.2.2.2 p (List.mem_append_right tl hp)
    rcases List.mem_cons.mp hp with rfl | hp
    · rcases List.mem_cons.mp hq with rfl | hq
      · exact Ne.symm (Nat.ne_of_lt l1.2.2.2.2.1)
      · exact Ne.symm (Nat.ne_of_lt (la q hq))
    · rcases List.mem_cons.mp hp with rfl | hp
      · rcases List.mem_cons.mp hq with rfl | hq
        · exact Ne.symm f2.2.2.2.1
        · exact Ne.symm (off1_mem f2.2.2.2.2 q (List.mem_append_right _ hq))
      · rcases List.mem_cons.mp hp with rfl | hp
        · rcases List.mem_cons.mp hq with rfl | hq
          · exact Ne.symm f1.2.2.1
          · exact Ne.symm (off1_mem f1.2.2.2 q (List.mem_append_right _ hq))
        · rcases List.mem_cons.mp hq with rfl | hq
          · exact hD p hp (aH, hObj aS i2 t2 e2) (by simp)
          · exact hD p hp q (by simp [hq])
  · intro p hp
    simp only [List.mem_cons, List.mem_append] at hp ⊢
    rcases hp with h | (h | h | h | h) | h <;> simp [h]


theorem rows_13 : True := by
  k_with_none
  (k_with "my ktr_room" => ((simp only [depth_under_make, depth_under_kw, depth_in1, depth_deeper, depth_caller, recursionLimit] at *); omega))
  (k_with "my ktr_units" => ((simp only [units_in1, units_deeper, Around.mark_units, units_caller, cLine] at *); omega))
  (k_with "my k_all" => assumption)
  (k_with "my ite" => (k_closed; first | (with_reducible refine ite_pos ?c ?_; (case c => decide +kernel)) | (with_reducible refine ite_neg ?c ?_; (case c => decide +kernel))))
  (k_with "my ktr_enter" => (refine' code_defC ?k1 ?k2 ?k3 ?k4 ?k5 ?kA ?kF ?kK ?k6 ?k7 ?k8 ?k9 ?kB ?kD ?_ ?c2 ?c3 ?c4; (case kA => exact rfl); (case kF => exact rfl); (case kK => assumption); (case k1 => k_asm); (case k2 => k_asm); (case k3 => k_asm); (case k4 => k_asm); (case k5 => k_asm); (case k6 => k_is); (case k7 => k_is); (case k8 => ktr_room); (case k9 => first | exact BindsTo.of_eq rfl | exact binds_K (by k_in) rfl (by k_is) rfl rfl rfl | fail "k_enter: no rule for these arguments"); (case kB => exact rfl); (case kD => decide +kernel); (case c2 => exact rfl); (case c3 => exact rfl); (case c4 => exact rfl); k_whole; intro g' L' h' tk' cells' FG' F' N' Y' B' X' T' l1; (try k_lt l1); k_cells Y'; (try simp only [List.cons_append, List.nil_append] at N'); (try dsimp only)))
  (k_with "my ktr_rel" => (intro p9 h9; simp only [List.mem_cons, List.mem_append] at h9 ⊢; simp only [h9, true_or, or_true]))
  (k_with "my call ref" => (k_here; k_dflt (refine' scoop_led ?S ?k1 ?k2 ?k3 ?k5 ?k6 ?k7 ?k8 ?k4 ?U ?hs ?i0 ?i1 ?kk ?_; (case S => assumption); (case k1 => k_asm); (case k2 => k_asm); (case k3 => k_asm); (case k5 => k_asm); (case k6 => first | exact rfl | assumption); (case k7 => ktr_room); (case k8 => ktr_units); (case k4 => k_asm); (case U => k_updF); (case hs => ktr_rel); (case i0 => assumption); (case i1 => assumption); (case kk => first | decide | omega)); intro r' tr' i' t' e' h2' tk2' r0' r1' i0' i1' F2' N2'; (try dsimp only at N2'); (try k_sweep)))
  exact trivial
def Stop (p : Prop) : Prop := p
theorem stop_at {p : Prop} (h : Stop p) : p := h
theorem stop_go {p : Prop} (h : p) : Stop p := h

theorem rows_14 : True := by
  k_with_none
  (k_with "my ktr_room" => ((simp only [depth_under_make, depth_under_kw, depth_in1, depth_deeper, depth_caller, recursionLimit] at *); omega))
  (k_with "my ktr_units" => ((simp only [units_in1, units_deeper, Around.mark_units, units_caller, cLine] at *); omega))
  (k_with "my k_all" => assumption)
  (k_with "my ite" => (k_closed; first | (with_reducible refine ite_pos ?c ?_; (case c => decide +kernel)) | (with_reducible refine ite_neg ?c ?_; (case c => decide +kernel))))
  (k_with "my ktr_enter" => (refine' code_defC ?k1 ?k2 ?k3 ?k4 ?k5 ?kA ?kF ?kK ?k6 ?k7 ?k8 ?k9 ?kB ?kD ?_ ?c2 ?c3 ?c4; (case kA => exact rfl); (case kF => exact rfl); (case kK => assumption); (case k1 => k_asm); (case k2 => k_asm); (case k3 => k_asm); (case k4 => k_asm); (case k5 => k_asm); (case k6 => k_is); (case k7 => k_is); (case k8 => ktr_room); (case k9 => first | exact BindsTo.of_eq rfl | exact binds_K (by k_in) rfl (by k_is) rfl rfl rfl | fail "k_enter: no rule for these arguments"); (case kB => exact rfl); (case kD => decide +kernel); (case c2 => exact rfl); (case c3 => exact rfl); (case c4 => exact rfl); k_whole; intro g' L' h' tk' cells' FG' F' N' Y' B' X' T' l1; (try k_lt l1); k_cells Y'; (try simp only [List.cons_append, List.nil_append] at N'); (try dsimp only)))
  (k_with "my ktr_rel" => (intro p9 h9; simp only [List.mem_cons, List.mem_append] at h9 ⊢; simp only [h9, true_or, or_true]))
  (k_with "my call ref" => (k_here; k_dflt (refine' scoop_led ?S ?k1 ?k2 ?k3 ?k5 ?k6 ?k7 ?k8 ?k4 ?U ?hs ?i0 ?i1 ?kk ?_; (case S => assumption); (case k1 => k_asm); (case k2 => k_asm); (case k3 => k_asm); (case k5 => k_asm); (case k6 => first | exact rfl | assumption); (case k7 => ktr_room); (case k8 => ktr_units); (case k4 => k_asm); (case U => k_updF); (case hs => ktr_rel); (case i0 => assumption); (case i1 => assumption); (case kk => first | decide | omega)); intro r' tr' i' t' e' h2' tk2' r0' r1' i0' i1' F2' N2'; (try dsimp only at N2'); (try k_sweep)))
  (k_with "my CompSrc" => refine stop_at ?_)
  (k_with "my call ref" => (k_here; k_dflt (refine' plan_turn (by assumption) ?J ?d ?S ?off ?c1 ?c2 ?k1 ?k2 ?k3 ?k4 ?k5 ?k6 ?k7 ?k8 ?k9 ?k10; (case J => assumption); (case d => omega); (case S => assumption); (case off => assumption); (case c1 => k_ne); (case c2 => k_ne); (case k1 => k_asm); (case k2 => k_asm); (case k3 => k_asm); (case k4 => k_asm); (case k5 => first | exact rfl | assumption); (case k6 => ktr_room); (case k7 => ktr_units); (case k8 => k_asm); (case k9 => assumption); (case k10 => exact fun _ _ => rfl))))
  (k_with "my call ref" => (k_here; k_dflt (refine' tag_turn ?J ?S ?off ?c1 ?c2 ?c3 ?k1 ?k2 ?k3 ?k4 ?k5 ?k6 ?k7 ?k8 ?k9 ?k10; (case J => assumption); (case S => assumption); (case off => assumption); (case c1 => k_ne); (case c2 => k_ne); (case c3 => k_ne); (case k1 => k_asm); (case k2 => k_asm); (case k3 => k_asm); (case k4 => k_asm); (case k5 => first | exact rfl | assumption); (case k6 => ktr_room); (case k7 => ktr_units); (case k8 => k_asm); (case k9 => assumption); (case k10 => exact fun _ _ => rfl))))
  exact trivial
theorem small3 {r : Int} (h0 : 0 ≤ r) (h1 : r < 3) : Builtin.Range.small 0 r 1 = true ∧ Builtin.Range.rangeSize 0 r 1 = ((r.toNat : Nat) : Int) ∧ r.toNat ≤ sizeLine := by
  have h : r = 0 ∨ r = 1 ∨ r = 2 := by omega
  rcases h with rfl | rfl | rfl
  · exact ⟨by decide, by rfl, Nat.le_of_ble_eq_true rfl⟩
  · exact ⟨by decide, by rfl, Nat.le_of_ble_eq_true rfl⟩
  · exact ⟨by decide, by rfl, Nat.le_of_ble_eq_true rfl⟩

set_option maxRecDepth 100000 in
set_option maxHeartbeats 8000000 in
theorem plan_succ {w : World} {n : Nat} (IH : PlanC w n) : PlanC w (n + 1) := by
  intro mean mg mb dp un gd cn cs ca ccd cl outer A₀ base h₀ L m s Q E aH aS ns i d t tk e news hdn hS hoff B F X T hk hdp hun N i0 i1 hret
  have hd1 : 0 < d := by omega
  w_on
  revert X T
  k_fill
  intro X T
  refine wpAny_call ?_
  k_dflt ktr_enter
  show wpAny _ _ _ _ _ _
  k_fold
  k_steps
  · refine plan_leaf (n := n + 1) (i := i) (t := t) (e := e) (by k_asm : News h₀ L _ _) (by assumption) ?a1 ?a2 ?a3 ?a4 ?a5 ?a6 fun r pl tl q1 qs q2 q3 q4 => ?_
    (case a1 => assumption); (case a2 => assumption); (case a3 => assumption); (case a4 => assumption); (case a5 => assumption); (case a6 => assumption)
    subst q4
    exact hret _ pl tl _ _ _ _ _ q1 qs q2 (by assumption) (by assumption) (by k_asm) q3
  refine stop_go ?_
  refine' LCg.CompSrc.range ?q1 ?q2 ?q3 ?q4 ?q5 ?q6 ?q7 (fun g => ?_)
  (case q1 => rfl); (case q2 => k_asm); (case q3 => k_asm); (case q4 => assumption)
  (case q5 => exact (small3 (by assumption) (by assumption)).1); (case q6 => exact (small3 (by assumption) (by assumption)).2.1); (case q7 => exact (small3 (by assumption) (by assumption)).2.2)
  refine' compRest_inv (PJ n _ _ _ _ aH aS ns news) ?turn ?fin _ 0 [] _ (Nat.zero_add _) (PJ.start ?s1 ?s2)
  case s1 => assumption
  case s2 => assumption
  case turn =>
    intro j ys nw hj J v I oI C oC D m₂ h tk E' hP hC hx F N off ne
    have J2 := J
    obtain ⟨i2, t2, e2, tl2, pls2, rfl, -⟩ := J2
    k_steps
  case fin =>
    intro ys nw J
    obtain ⟨i2, t2, e2, tl2, pls2, rfl, i0', i1', hD2, hy2, hp2, hR2⟩ := J
    unfold LCg.FinA
    intro D' h' tk' F' N' o1'
    (try simp only [LCg.Off1, and_true] at o1')
    (try dsimp only)
    have hoff2 : ∀ p ∈ tl2 ++ news, p.1 ≠ aH := fun p hp => (List.mem_append.mp hp).elim (fun q => hD2 p q _ (.tail _ (.tail _ (.head _)))) fun q => hoff p q
    have hS2 : Scr aH aS ns (tl2 ++ news) := hS.mono fun p hp => List.mem_append_right _ hp
    k_steps
    refine stop_go ?_
    refine' LCg.CompSrc.ledger ?q1 ?q2 ?q3 (List.Mem.head _) ?q5 (fun g => ?_)
    (case q1 => rfl); (case q2 => k_asm); (case q3 => k_asm)
    (case q5 => (rw [List.size_toArray, hy2]; exact (small3 (by assumption) (by assumption)).2.2))
    refine' compRest_inv (PK _ _ _ _ _ aH aS ns (tl2 ++ news) ys) ?turn ?fin _ 0 [] _ (Nat.zero_add _) (PK.start ?s1 ?s2)
    case s1 => assumption
    case s2 => assumption
    case turn =>
      intro j zs nw hj J v I oI C oC D m₂ h tk E' hP hC hx F N off ne
      have J2 := J
      obtain ⟨i3, t3, e3, tags3, rfl, -⟩ := J2
      k_steps
    case fin =>
      intro zs nw J
      obtain ⟨i3, t3, e3, tags3, rfl, i0', i1', hz3, ht3, hR3⟩ := J
      unfold LCg.FinE
      intro D2' h' tk' F' N' o2'
      (try simp only [LCg.Off1, and_true] at o2')
      (try dsimp only)
      k_steps
      refine plan_node (n := n) (i := i) (t := t) (e := e) (by k_asm : News h₀ L _ _) (by assumption) o1' o2' hD2 ?a1 ?a2 ?a3 ?a4 hz3 ht3 hy2 hp2 ?a5 hR3 hR2 fun r pl tl q1 qs q2 q3 q4 => ?_
      (case a1 => omega); (case a2 => assumption); (case a3 => assumption); (case a4 => assumption); (case a5 => omega)
      subst q4
      exact hret _ pl tl _ _ _ _ _ q1 qs q2 (by assumption) (by assumption) (by k_asm) q3

theorem plan_all {w : World} : ∀ n, PlanC w n
  | 0 => plan_zero
  | n + 1 => plan_succ (plan_all n)
theorem item_led {prog : Program} {w : World} {A : Around} {E : Value → Shared → Prop} {s : Shared} {h₀ : Heap} {L l : Addr} {vs : List Value} {e : Nat} {news : List (Addr × Obj)} {k : Int} {u : Tok} {x : Value} {value slice : PySem.Expr} {Q : Value → Shared → Prop} (N : News h₀ L s.heap news) (hm : (l, listOf (List.toArray vs) e) ∈ news)
    (h0 : 0 ≤ k) (h1 : k < 8) (hx : vs[k.toNat]? = some x) (h : Q x s)
    (hs : subscripted slice false (.ref l) (.int k u) = operate [.ref l, .int k u] (getItem (.ref l) (.int k u)) := by with_unfolding_all rfl) (hg : ∀ r, letTemporaryGo value (.ref l) r = pure () := by intro _; with_unfolding_all rfl) :
    wpAny (model prog w) A (subscriptTail value slice (.ref l) (.int k u)) Q E s :=
  item_list (isList_of (N _ hm).1) h0 (by omega) (by rw [List.getElem?_toArray]; exact hx) h hs hg
/-- an item at a place that is not written -/
theorem item_op {prog : Program} {w : World} {A : Around} {E : Value → Shared → Prop} {s : Shared} {h₀ : Heap} {L l : Addr} {vs : List Value} {e : Nat} {news : List (Addr × Obj)} {k : Int} {u : Tok} {value slice : PySem.Expr} {Q : Value → Shared → Prop} (N : News h₀ L s.heap news) (hm : (l, listOf (List.toArray vs) e) ∈ news)
    (h0 : 0 ≤ k) (h1 : k < (vs.length : Nat)) (h2 : vs.length ≤ 8) (h : ∀ x, vs[k.toNat]? = some x → Q x s)
    (hs : subscripted slice false (.ref l) (.int k u) = operate [.ref l, .int k u] (getItem (.ref l) (.int k u)) := by with_unfolding_all rfl) (hg : ∀ r, letTemporaryGo value (.ref l) r = pure () := by intro _; with_unfolding_all rfl) :
    wpAny (model prog w) A (subscriptTail value slice (.ref l) (.int k u)) Q E s := by
  have hx : vs[k.toNat]? = some (vs[k.toNat]'(by omega)) := List.getElem?_eq_getElem _
  exact item_list (isList_of (N _ hm).1) h0 (by omega) (by rw [List.getElem?_toArray]; exact hx) (h _ hx) hs hg



theorem rows_15 : True := by
  k_with_none
  (k_with "my ktr_room" => ((simp only [depth_under_make, depth_under_kw, depth_in1, depth_deeper, depth_caller, recursionLimit] at *); omega))
  (k_with "my ktr_units" => ((simp only [units_in1, units_deeper, Around.mark_units, units_caller, cLine] at *); omega))
  (k_with "my k_room" => ktr_room)
  (k_with "my ite" => (k_closed; first | (with_reducible refine ite_pos ?c ?_; (case c => decide +kernel)) | (with_reducible refine ite_neg ?c ?_; (case c => decide +kernel))))
  (k_with "my ktr_enter" => (refine' code_defC ?k1 ?k2 ?k3 ?k4 ?k5 ?kA ?kF ?kK ?k6 ?k7 ?k8 ?k9 ?kB ?kD ?_ ?c2 ?c3 ?c4; (case kA => exact rfl); (case kF => exact rfl); (case kK => assumption); (case k1 => k_asm); (case k2 => k_asm); (case k3 => k_asm); (case k4 => k_asm); (case k5 => k_asm); (case k6 => k_is); (case k7 => k_is); (case k8 => ktr_room); (case k9 => first | exact BindsTo.of_eq rfl | exact binds_K (by k_in) rfl (by k_is) rfl rfl rfl | fail "k_enter: no rule for these arguments"); (case kB => exact rfl); (case kD => decide +kernel); (case c2 => exact rfl); (case c3 => exact rfl); (case c4 => exact rfl); k_whole; intro g' L' h' tk' cells' FG' F' N' Y' B' X' T' l1; (try k_lt l1); k_cells Y'; (try simp only [List.cons_append, List.nil_append] at N'); (try dsimp only)))
  (k_with "my ktr_rel" => (intro p9 h9; simp only [List.mem_cons, List.mem_append] at h9 ⊢; simp only [h9, true_or, or_true]))
  (k_with "my k_mem" => ((repeat (refine List.mem_cons_of_mem _ ?_)); assumption))
  (k_with "my subscriptTail" => (k_here; k_dflt (first | (refine' item_led ?N ?m ?a ?b ?x ?_; (case N => k_asm); (case m => k_mem); (case a => decide); (case b => decide); (case x => rfl); k_whole) | (refine' item_op ?N ?m ?a ?b ?c ?_; (case N => k_asm); (case m => k_mem); (case a => assumption); (case b => (simp only [List.length_cons, List.length_nil]; omega)); (case c => exact Nat.le_of_ble_eq_true rfl); k_whole; intro v' hv'))))
  (k_with "my k_enter" => (refine' code_def ?k1 ?k2 ?k3 ?k4 ?k5 ?kA ?kF ?kK ?k6 ?k7 ?k8 ?k9 ?kB ?_ ?c2 ?c3 ?c4 ?c5; (case kA => exact rfl); (case kF => exact rfl); (case kK => first | exact rfl | assumption); (case k1 => k_asm); (case k2 => k_asm); (case k3 => k_asm); (case k4 => k_asm); (case k5 => k_asm); (case k6 => k_is); (case k7 => k_is); (case k8 => ktr_room); (case k9 => first | exact BindsTo.of_eq rfl | exact binds_K (by k_in) rfl (by k_is) rfl rfl rfl | fail "k_enter: no rule for these arguments"); (case c5 => decide); (case kB => exact locs rfl); (case c2 => exact rfl); (case c3 => exact rfl); (case c4 => exact rfl); k_whole; intro g' L' h' FG' F' N' B' X' T'; (try dsimp only); (try k_fold)))
  exact trivial
set_option maxRecDepth 100000 in
set_option maxHeartbeats 8000000 in
theorem mk_text {w : World} {mean : ExcName → Option Value} {mg mb : Str → Option Value} {dp un : Nat} {gd : Option (List Code)} {cn : Str} {cs : Scope} {ca : Addr} {ccd : Value} {cl : List (Str × Addr)} {outer : List Env} {A₀ : Around} {base h₀ : Heap} {L : Addr} {m : Str → Option Value} {s : Shared} {Q E : Value → Shared → Prop} {news : List (Addr × Obj)} {v : Value}
    (B : Below A₀ base outer h₀) (F : Fr h₀ L s.heap m) (X : (hd.heap_39 w.params).In h₀) (T : Top hd.view_39 (looseW hd.view_39 [Str.ofString "list_of"]) mean mg mb h₀) (hk : cs.kind = .function) (hdp : dp + 8 < recursionLimit) (N : News h₀ L s.heap news)
    (hret : ∀ a d li t0 t1 t2 t3 t4 t5 e1 h' tk', Fr h₀ L h' m → News h₀ L h' ((a, instObj 67 d) :: (d, vecD w.params "character" t0 t1 t2 t3 t4 t5 (.ref li) .none false 5) :: (li, listOf #[v] e1) :: news) → AllLt li news → AllLt d news → @LT.lt Nat _ li d → @LT.lt Nat _ d a → Q (.ref a) { s with heap := h', toks := tk' }) :
    wpAny (model PySem.Challenge.rw_pq1391_01.row.prog w) (ktrTop dp un gd cn cs L ca ccd cl outer) (call (.ref 155) [v]) Q E s := by
  w_on
  revert X T
  k_fill
  intro X T
  k_steps
  refine' hret _ _ _ _ _ _ _ _ _ _ _ _ ?e1 (show News h₀ L _ _ by k_asm) ?e2 ?e3 ?e4 ?e5
  (case e1 => k_asm); (case e2 => first | tbn_find | exact allLt_of (by assumption)); (case e3 => first | tbn_find | exact allLt_of (by assumption)); (case e4 => omega); (case e5 => omega)

set_option maxRecDepth 100000 in
set_option maxHeartbeats 8000000 in
theorem mk_char {w : World} {mean : ExcName → Option Value} {mg mb : Str → Option Value} {dp un : Nat} {gd : Option (List Code)} {cn : Str} {cs : Scope} {ca : Addr} {ccd : Value} {cl : List (Str × Addr)} {outer : List Env} {A₀ : Around} {base h₀ : Heap} {L : Addr} {m : Str → Option Value} {s : Shared} {Q E : Value → Shared → Prop} {news : List (Addr × Obj)} {v : Value} {l0 : Addr} {e0 : Nat}
    (B : Below A₀ base outer h₀) (F : Fr h₀ L s.heap m) (X : (hd.heap_39 w.params).In h₀) (T : Top hd.view_39 (looseW hd.view_39 [Str.ofString "list_of"]) mean mg mb h₀) (hk : cs.kind = .function) (hdp : dp + 8 < recursionLimit) (N : News h₀ L s.heap news) (hl : (l0, listOf #[v] e0) ∈ news)
    (hret : ∀ a d li t0 t1 t2 t3 t4 t5 e1 h' tk', Fr h₀ L h' m → News h₀ L h' ((a, instObj 67 d) :: (d, vecD w.params "character" t0 t1 t2 t3 t4 t5 (.ref li) .none false 5) :: (li, listOf #[v] e1) :: news) → AllLt li news → AllLt d news → @LT.lt Nat _ li d → @LT.lt Nat _ d a → Q (.ref a) { s with heap := h', toks := tk' }) :
    wpAny (model PySem.Challenge.rw_pq1391_01.row.prog w) (ktrTop dp un gd cn cs L ca ccd cl outer) (call (.ref 135) [.ref l0]) Q E s := by
  w_on
  revert X T
  k_fill
  intro X T
  k_steps
  refine' hret _ _ _ _ _ _ _ _ _ _ _ _ ?e1 (show News h₀ L _ _ by k_asm) ?e2 ?e3 ?e4 ?e5
  (case e1 => k_asm); (case e2 => first | tbn_find | exact allLt_of (by assumption)); (case e3 => first | tbn_find | exact allLt_of (by assumption)); (case e4 => omega); (case e5 => omega)

set_option maxRecDepth 100000 in
set_option maxHeartbeats 8000000 in
theorem mk_sym {w : World} {mean : ExcName → Option Value} {mg mb : Str → Option Value} {dp un : Nat} {gd : Option (List Code)} {cn : Str} {cs : Scope} {ca : Addr} {ccd : Value} {cl : List (Str × Addr)} {outer : List Env} {A₀ : Around} {base h₀ : Heap} {L : Addr} {m : Str → Option Value} {s : Shared} {Q E : Value → Shared → Prop} {news : List (Addr × Obj)} {v : Value}
    (B : Below A₀ base outer h₀) (F : Fr h₀ L s.heap m) (X : (hd.heap_39 w.params).In h₀) (T : Top hd.view_39 (looseW hd.view_39 [Str.ofString "list_of"]) mean mg mb h₀) (hk : cs.kind = .function) (hdp : dp + 8 < recursionLimit) (N : News h₀ L s.heap news)
    (hret : ∀ a d t0 t1 t2 t3 e h' tk', Fr h₀ L h' m → News h₀ L h' ((a, instObj 88 d) :: (d, dictOf [ent w.params "kind" t1 (.str "symbol" t0), ent w.params "name" t2 v, ent w.params "attrs" t3 .none] e) :: news) → AllLt d news → @LT.lt Nat _ d a → Q (.ref a) { s with heap := h', toks := tk' }) :
    wpAny (model PySem.Challenge.rw_pq1391_01.row.prog w) (ktrTop dp un gd cn cs L ca ccd cl outer) (call (.ref 88) [v]) Q E s := by
  w_on
  revert X T
  k_fill
  intro X T
  k_steps
  refine' hret _ _ _ _ _ _ _ _ _ ?e1 (show News h₀ L _ _ by k_asm) ?e2 ?e3
  (case e1 => k_asm); (case e2 => first | tbn_find | exact allLt_of (by assumption)); (case e3 => omega)

set_option maxRecDepth 100000 in
set_option maxHeartbeats 8000000 in
theorem mk_vec {w : World} {mean : ExcName → Option Value} {mg mb : Str → Option Value} {dp un : Nat} {gd : Option (List Code)} {cn : Str} {cs : Scope} {ca : Addr} {ccd : Value} {cl : List (Str × Addr)} {outer : List Env} {A₀ : Around} {base h₀ : Heap} {L : Addr} {m : Str → Option Value} {s : Shared} {Q E : Value → Shared → Prop} {news : List (Addr × Obj)} {k : Str} {tk : Tok} {it : Value}
    (B : Below A₀ base outer h₀) (F : Fr h₀ L s.heap m) (X : (hd.heap_39 w.params).In h₀) (T : Top hd.view_39 (looseW hd.view_39 [Str.ofString "list_of"]) mean mg mb h₀) (hk : cs.kind = .function) (hdp : dp + 8 < recursionLimit) (N : News h₀ L s.heap news)
    (hret : ∀ a d t0 t1 t2 t3 t4 t5 h' tk', Fr h₀ L h' m → News h₀ L h' ((a, instObj 67 d) :: (d, vecD w.params k t0 t1 t2 t3 t4 t5 it .none false 5) :: news) → AllLt d news → @LT.lt Nat _ d a → Q (.ref a) { s with heap := h', toks := tk' }) :
    wpAny (model PySem.Challenge.rw_pq1391_01.row.prog w) (ktrTop dp un gd cn cs L ca ccd cl outer) (call (.ref 67) [.str k tk, it]) Q E s := by
  w_on
  revert X T
  k_fill
  intro X T
  k_steps
  refine' hret _ _ _ _ _ _ _ _ _ _ ?e1 (show News h₀ L _ _ by k_asm) ?e2 ?e3
  (case e1 => k_asm); (case e2 => first | tbn_find | exact allLt_of (by assumption)); (case e3 => omega)

set_option maxRecDepth 100000 in
set_option maxHeartbeats 8000000 in
theorem mk_call {w : World} {mean : ExcName → Option Value} {mg mb : Str → Option Value} {dp un : Nat} {gd : Option (List Code)} {cn : Str} {cs : Scope} {ca : Addr} {ccd : Value} {cl : List (Str × Addr)} {outer : List Env} {A₀ : Around} {base h₀ : Heap} {L : Addr} {m : Str → Option Value} {s : Shared} {Q E : Value → Shared → Prop} {news : List (Addr × Obj)} {it tg : Value}
    (B : Below A₀ base outer h₀) (F : Fr h₀ L s.heap m) (X : (hd.heap_39 w.params).In h₀) (T : Top hd.view_39 (looseW hd.view_39 [Str.ofString "list_of"]) mean mg mb h₀) (hk : cs.kind = .function) (hdp : dp + 8 < recursionLimit) (N : News h₀ L s.heap news)
    (hret : ∀ a d t0 t1 t2 t3 t4 t5 e h' tk', Fr h₀ L h' m → News h₀ L h' ((a, instObj 110 d) :: (d, dictOf [ent w.params "kind" t1 (.str "language" t0), ent w.params "items" t2 it, ent w.params "tags" t3 tg, ent w.params "attrs" t4 .none, ent w.params "code" t5 .none] e) :: news) → AllLt d news → @LT.lt Nat _ d a → Q (.ref a) { s with heap := h', toks := tk' }) :
    wpAny (model PySem.Challenge.rw_pq1391_01.row.prog w) (ktrTop dp un gd cn cs L ca ccd cl outer) (call (.ref 110) [it, tg]) Q E s := by
  w_on
  revert X T
  k_fill
  intro X T
  k_steps
  refine' hret _ _ _ _ _ _ _ _ _ _ _ ?e1 (show News h₀ L _ _ by k_asm) ?e2 ?e3
  (case e1 => k_asm); (case e2 => first | tbn_find | exact allLt_of (by assumption)); (case e3 => omega)

set_option maxRecDepth 100000 in
set_option maxHeartbeats 8000000 in
theorem mk_null {w : World} {mean : ExcName → Option Value} {mg mb : Str → Option Value} {dp un : Nat} {gd : Option (List Code)} {cn : Str} {cs : Scope} {ca : Addr} {ccd : Value} {cl : List (Str × Addr)} {outer : List Env} {A₀ : Around} {base h₀ : Heap} {L : Addr} {m : Str → Option Value} {s : Shared} {Q E : Value → Shared → Prop} {news : List (Addr × Obj)} 
    (B : Below A₀ base outer h₀) (F : Fr h₀ L s.heap m) (X : (hd.heap_39 w.params).In h₀) (T : Top hd.view_39 (looseW hd.view_39 [Str.ofString "list_of"]) mean mg mb h₀) (hk : cs.kind = .function) (hdp : dp + 8 < recursionLimit) (N : News h₀ L s.heap news)
    (hret : ∀ a d t0 t1 t2 e h' tk', Fr h₀ L h' m → News h₀ L h' ((a, instObj 38 d) :: (d, dictOf [ent w.params "kind" t1 (.str "NULL" t0), ent w.params "attrs" t2 .none] e) :: news) → AllLt d news → @LT.lt Nat _ d a → Q (.ref a) { s with heap := h', toks := tk' }) :
    wpAny (model PySem.Challenge.rw_pq1391_01.row.prog w) (ktrTop dp un gd cn cs L ca ccd cl outer) (call (.ref 121) []) Q E s := by
  w_on
  revert X T
  k_fill
  intro X T
  k_steps
  refine' hret _ _ _ _ _ _ _ _ ?e1 (show News h₀ L _ _ by k_asm) ?e2 ?e3
  (case e1 => k_asm); (case e2 => first | tbn_find | exact allLt_of (by assumption)); (case e3 => omega)

/-- a def whose locals are captured, called with nothing of the caller's to be changed: the callee's ground is the heap itself -/
theorem code_roC {prog : Program} {w : World} {A₀ A : Around} {s : Shared} {base h₀ : Heap} {outer : List Env} {L : Addr} {m : Str → Option Value} {env : Env} {K : Frag} {p : Program} {loose : List Str} {mean : ExcName → Option Value} {mg mb : Str → Option Value}
    {R : Result → Shared → Prop} {name qual : Str} {params : Arguments} {body : List Stmt} {scope : Scope} {dV kV doc pm cdv ct oc : Value} {an od : Option Addr} {osl : Array (Option Value)} {f : Addr} {args : Args} {binds : List (Str × Value)}
    (B : Below A₀ base outer h₀) (F : Fr h₀ L s.heap m) (X₀ : K.In h₀) (T : Top p loose mean mg mb h₀) (hA : A.frames = some (env :: outer)) (hf : env.frame = some L) (hke : env.scope.kind = .function)
    (ho : K.lookup f = some ⟨oc, od, .func (fnOf name qual params body scope dV kV doc pm an cdv ct), osl⟩) (hcd : codeIn K cdv qual = true) (hroom : A.depth < recursionLimit)
    (hbind : BindsTo s (fnOf name qual params body scope dV kV doc pm an cdv ct) args binds) (hkind : (binds.all fun y => scope.names.lookup y.1 == some .local || scope.names.lookup y.1 == some .cell) = true)
    (hnd : ((cellsFrom 0 scope.names []).map (·.1)).Nodup)
    (h : ∀ L' h₁ tk cells, Fr s.heap L' h₁ (bindL (envOfC qual scope L' f cdv).kindOf binds fun _ => none) → News s.heap L' h₁ cells →
      CellsAre (bindC (envOfC qual scope L' f cdv).kindOf binds fun _ => none) (cellsFrom (L' + 1) scope.names []) cells → Below A base (env :: outer) s.heap → K.In s.heap → Top p loose mean mg mb s.heap →
      wpAny (model prog w) (A.deeper (envOfC qual scope L' f cdv)) (execs body (envOfC qual scope L' f cdv))
        (fun fl s' => LeaveK h₀ L m s.heap R (match fl with | .ret v => v | _ => .none) s')
        (fun e s' => wpAny (model prog w) (A.deeper (envOfC qual scope L' f cdv)) (leaving (envOfC qual scope L' f cdv) e) (fun _ s'' => R (.error e) s'') (fun e' s'' => R (.error e') s'') s')
        { s with heap := h₁, toks := tk })
    (hco : scope.isCoroutine = false) (hgen : scope.isGenerator = false) (hk : scope.kind = .function) : codeAny (model prog w) A (.call (.ref f) args) R s := by
  obtain ⟨FG, BG, st, lv⟩ := groundX (R := R) B F (News.nil (h₀ := h₀) (L := L)) hA hf hke
  have XK := X₀.keeps F.keep
  have TK := T.keeps F.keep
  refine codeAny_call_function hroom (XK _ _ ho) rfl hco hgen rfl (codeRec_of XK hcd) (hbind _ _ _ _ (wpAny_newFunctionEnv_cells hk (kindsX hkind _) fun env' he s' x => ?_))
  subst he
  refine ⟨TK.nolimit.keeps x.toInCall.keep, codeAny_func ?_⟩
  obtain ⟨h₁, tk, rfl, _⟩ := x.done
  obtain ⟨cells, NC, Y⟩ := Cl.news (h₀ := s.heap) (Nat.le_refl _) fun n c hm => ⟨x.cell n c (lookup_of_mem_nodup (cellsFrom_names scope.names 0 (s.heap.objs.size + 1) [] [] rfl ▸ hnd) hm), x.above n c hm⟩
  exact wpAny_mono (h s.heap.objs.size h₁ tk cells ⟨x.toInCall.ns, fun b o e => x.toInCall.keep b o e, Nat.le_refl _⟩ NC Y BG XK TK) (fun fl s' hl => lv _ _ hl) fun _ _ y => y

/-- what a read-only call made, for the caller's ledger -/
theorem made_out {h₀ h h' : Heap} {L L' : Addr} {m m' : Str → Option Value} {tl news : List (Addr × Obj)} (F : Fr h₀ L h m) (N : News h₀ L h news) (F' : Fr h L' h' m') (N' : News h L' h' tl) : Fr h₀ L h' m ∧ News h₀ L h' (tl ++ news) ∧ Disj tl news := by
  obtain ⟨oL, hL⟩ : ∃ o, h.get? L = some o := by obtain ⟨o, _, _, e, _⟩ := F.ns; exact ⟨o, e⟩
  refine ⟨F.keeps F'.keep, fun p hp => ?_, fun p hp q hq e => ?_⟩
  · rcases List.mem_append.mp hp with hp | hp
    · have z := N' p hp
      refine ⟨z.1, fun e => ?_, ?_⟩
      · rw [← e, z.2.2] at hL; cases hL
      · cases e : h₀.get? p.1 with
        | none => rfl
        | some o => have := F.keep _ _ e; rw [z.2.2] at this; cases this
    · exact ⟨F'.keep _ _ (N p hp).1, (N p hp).2⟩
  · have z := (N' p hp).2.2
    rw [e, (N q hq).1] at z
    cases z


theorem rows_16 : True := by
  k_with_none
  (k_with "my ktr_room" => ((simp only [depth_under_make, depth_under_kw, depth_in1, depth_deeper, depth_caller, recursionLimit] at *); omega))
  (k_with "my ktr_units" => ((simp only [units_in1, units_deeper, Around.mark_units, units_caller, cLine] at *); omega))
  (k_with "my k_room" => ktr_room)
  (k_with "my ite" => (k_closed; first | (with_reducible refine ite_pos ?c ?_; (case c => decide +kernel)) | (with_reducible refine ite_neg ?c ?_; (case c => decide +kernel))))
  (k_with "my ktr_enter" => (refine' code_roC ?k1 ?k2 ?k3 ?k5 ?kA ?kF ?kK ?k6 ?k7 ?k8 ?k9 ?kB ?kD ?_ ?c2 ?c3 ?c4; (case kA => exact rfl); (case kF => exact rfl); (case kK => assumption); (case k1 => k_asm); (case k2 => k_asm); (case k3 => k_asm); (case k5 => k_asm); (case k6 => k_is); (case k7 => k_is); (case k8 => ktr_room); (case k9 => first | exact BindsTo.of_eq rfl | exact binds_K (by k_in) rfl (by k_is) rfl rfl rfl | fail "k_enter: no rule for these arguments"); (case kB => exact rfl); (case kD => decide +kernel); (case c2 => exact rfl); (case c3 => exact rfl); (case c4 => exact rfl); k_whole; intro L' h' tk' cells' F' N' Y' B' X' T'; k_cells Y'; (try simp only [List.cons_append, List.nil_append] at N'); (try dsimp only)))
  (k_with "my ktr_rel" => (intro p9 h9; simp only [List.mem_cons, List.mem_append] at h9 ⊢; simp only [h9, true_or, or_true]))
  (k_with "my k_mem" => ((repeat (refine List.mem_cons_of_mem _ ?_)); assumption))
  (k_with "my subscriptTail List" => (k_here; k_dflt (refine kba_turn (value' := PySem.Expr.Name (PySem.Str.ofString "_") ⟨0, 0, 0, 0⟩) (fun _ => rfl) ?_)))
  (k_with "my subscriptTail Name Constant ref int" => (k_here; k_dflt (refine' item_at ?N ?m ?a ?b ?x ?_; (case N => k_asm); (case m => assumption); (case a => decide); (case b => decide); (case x => rfl); k_whole)))
  (k_with "my subscriptTail Name" => (k_here; k_dflt (first | (refine' item_at ?N ?m ?a ?b ?x ?_; (case N => k_asm); (case m => assumption); (case a => decide); (case b => decide); (case x => rfl); k_whole) | (refine' item_led ?N ?m ?a ?b ?x ?_; (case N => k_asm); (case m => k_mem); (case a => decide); (case b => decide); (case x => rfl); k_whole) | (refine' item_op ?N ?m ?a ?b ?c ?_; (case N => k_asm); (case m => k_mem); (case a => assumption); (case b => (simp only [List.length_cons, List.length_nil]; omega)); (case c => exact Nat.le_of_ble_eq_true rfl); k_whole; intro v' hv'))))
  (k_with "my k_enter" => (refine' code_def ?k1 ?k2 ?k3 ?k4 ?k5 ?kA ?kF ?kK ?k6 ?k7 ?k8 ?k9 ?kB ?_ ?c2 ?c3 ?c4 ?c5; (case kA => exact rfl); (case kF => exact rfl); (case kK => first | exact rfl | assumption); (case k1 => k_asm); (case k2 => k_asm); (case k3 => k_asm); (case k4 => k_asm); (case k5 => k_asm); (case k6 => k_is); (case k7 => k_is); (case k8 => ktr_room); (case k9 => first | exact BindsTo.of_eq rfl | exact binds_K (by k_in) rfl (by k_is) rfl rfl rfl | fail "k_enter: no rule for these arguments"); (case c5 => decide); (case kB => exact locs rfl); (case c2 => exact rfl); (case c3 => exact rfl); (case c4 => exact rfl); k_whole; intro g' L' h' FG' F' N' B' X' T'; (try dsimp only); (try k_fold)))
  (k_with "my call ref" => (k_here; k_dflt (refine' mk_sym ?k1 ?k2 ?k3 ?k4 ?k5 ?k6 ?k7 ?_; (case k1 => k_asm); (case k2 => k_asm); (case k3 => k_asm); (case k4 => k_asm); (case k5 => first | exact rfl | assumption); (case k6 => ktr_room); (case k7 => k_asm)); intro x' d' t0' t1' t2' t3' e' h' tk' F' N' l1' l2'; (try simp only [AllLt, and_true] at l1'); (try k_sweep)))
  (k_with "my call ref" => (k_here; k_dflt (refine' mk_text ?k1 ?k2 ?k3 ?k4 ?k5 ?k6 ?k7 ?_; (case k1 => k_asm); (case k2 => k_asm); (case k3 => k_asm); (case k4 => k_asm); (case k5 => first | exact rfl | assumption); (case k6 => ktr_room); (case k7 => k_asm)); intro x' d' li' t0' t1' t2' t3' t4' t5' e1' h' tk' F' N' l1' l4' l2' l3'; (try simp only [AllLt, and_true] at l1'); (try simp only [AllLt, and_true] at l4'); (try k_sweep)))
  (k_with "my call ref" => (k_here; k_dflt (refine' mk_vec ?k1 ?k2 ?k3 ?k4 ?k5 ?k6 ?k7 ?_; (case k1 => k_asm); (case k2 => k_asm); (case k3 => k_asm); (case k4 => k_asm); (case k5 => first | exact rfl | assumption); (case k6 => ktr_room); (case k7 => k_asm)); intro x' d' t0' t1' t2' t3' t4' t5' h' tk' F' N' l1' l2'; (try simp only [AllLt, and_true] at l1'); (try k_sweep)))
  (k_with "my call ref" => (k_here; k_dflt (refine' mk_call ?k1 ?k2 ?k3 ?k4 ?k5 ?k6 ?k7 ?_; (case k1 => k_asm); (case k2 => k_asm); (case k3 => k_asm); (case k4 => k_asm); (case k5 => first | exact rfl | assumption); (case k6 => ktr_room); (case k7 => k_asm)); intro x' d' t0' t1' t2' t3' t4' t5' e' h' tk' F' N' l1' l2'; (try simp only [AllLt, and_true] at l1'); (try k_sweep)))
  (k_with "my call ref" => (k_here; k_dflt (refine' mk_null ?k1 ?k2 ?k3 ?k4 ?k5 ?k6 ?k7 ?_; (case k1 => k_asm); (case k2 => k_asm); (case k3 => k_asm); (case k4 => k_asm); (case k5 => first | exact rfl | assumption); (case k6 => ktr_room); (case k7 => k_asm)); intro x' d' t0' t1' t2' e' h' tk' F' N' l1' l2'; (try simp only [AllLt, and_true] at l1'); (try k_sweep)))
  (k_with "my call ref" => (k_here; k_dflt (refine' mk_char ?k1 ?k2 ?k3 ?k4 ?k5 ?k6 ?k7 ?k8 ?_; (case k1 => k_asm); (case k2 => k_asm); (case k3 => k_asm); (case k4 => k_asm); (case k5 => first | exact rfl | assumption); (case k6 => ktr_room); (case k7 => k_asm); (case k8 => k_mem)); intro x' d' li' t0' t1' t2' t3' t4' t5' e1' h' tk' F' N' l1' l4' l2' l3'; (try simp only [AllLt, and_true] at l1'); (try simp only [AllLt, and_true] at l4'); (try k_sweep)))
  (k_with "my ktn_open" => first | tbn_find | exact allLt_of (by assumption) | exact tbn_up (by assumption) (by tbn_find) | exact tbn_up (Nat.lt_succ_self _) (allLt_of (by assumption)) | exact tbn_up (by assumption) (allLt_of (by assumption)))
  exact trivial
noncomputable def symN (p : Int) : Str := if p = 0 then "a" else if p = 1 then "b" else if p = 2 then "c" else if p = 3 then "f" else "g"
noncomputable def dblN (p : Int) : Option (Int × Int) := if p = 0 then some (1, 1) else if p = 1 then some (0, 0) else if p = 2 then none else if p = 3 then some (1, 0) else some (1, 2)
noncomputable def chrN (p : Int) : Option Str := if p = 0 then some "a" else if p = 1 then some "b" else if p = 2 then none else if p = 3 then some "" else some "f"
noncomputable def atsN (q : Int) (b : Bool) : List Str := if q = 0 then [] else if q = 1 then [Str.ofString "unit"] else if b then [Str.ofString "names", Str.ofString "unit"] else [Str.ofString "unit", Str.ofString "names"]
noncomputable def headN (q : Int) : Str := if q = 0 then "f" else if q = 1 then "g" else "h"
noncomputable def tagN (q : Int) : Option Str := if q = 0 then none else some "t"

theorem five {p : Int} (h0 : 0 ≤ p) (h1 : p < 5) : p = 0 ∨ p = 1 ∨ p = 2 ∨ p = 3 ∨ p = 4 := by omega
theorem pick_sym {p : Int} {v : Value} {t0 t1 t2 t3 t4 : Tok} (h0 : 0 ≤ p) (h1 : p < 5) (h : [Value.str "a" t0, Value.str "b" t1, Value.str "c" t2, Value.str "f" t3, Value.str "g" t4][p.toNat]? = some v) : ∃ t, v = .str (symN p) t := by
  rcases five h0 h1 with rfl | rfl | rfl | rfl | rfl
  all_goals (cases h; exact ⟨_, rfl⟩)
theorem pick_chr {p : Int} {v : Value} {t0 t1 t3 t4 : Tok} (h0 : 0 ≤ p) (h1 : p < 5) (h : [Value.str "a" t0, Value.str "b" t1, Value.none, Value.str "" t3, Value.str "f" t4][p.toNat]? = some v) : OptV v (chrN p) := by
  rcases five h0 h1 with rfl | rfl | rfl | rfl | rfl
  · cases h; exact .some (by decide +kernel)
  · cases h; exact .some (by decide +kernel)
  · cases h; exact .none
  · cases h; exact .some (by decide +kernel)
  · cases h; exact .some (by decide +kernel)
theorem pick_dbl {w : World} {R : Addr → Obj → Prop} {n : Nat} {p : Int} {v : Value} {a dx li b0 b1 b3 b4 : Addr} {e e1 e2 e3 e4 e5 : Nat} {t0 t1 t2 t3 t4 t5 u0 u1 u2 u3 u4 u5 u6 u7 : Tok} (h0 : 0 ≤ p) (h1 : p < 5) (h : [Value.ref b0, Value.ref b1, Value.none, Value.ref b3, Value.ref b4][p.toNat]? = some v)
    (r0 : R b0 (tupOf #[.int 1 u0, .int 1 u1] e2)) (r1 : R b1 (tupOf #[.int 0 u2, .int 0 u3] e3)) (r3 : R b3 (tupOf #[.int 1 u4, .int 0 u5] e4)) (r4 : R b4 (tupOf #[.int 1 u6, .int 2 u7] e5))
    (k1 : R a (instObj 67 dx)) (k2 : R dx (vecD w.params "double" t0 t1 t2 t3 t4 t5 (.ref li) .none false e)) (k3 : R li (listOf #[v] e1)) : VaR w R n (.ref a) (.dbl (dblN p)) := by
  rcases five h0 h1 with rfl | rfl | rfl | rfl | rfl
  · cases h; exact .dblT k1 k2 k3 r0
  · cases h; exact .dblT k1 k2 k3 r1
  · cases h; exact .dblN k1 k2 k3
  · cases h; exact .dblT k1 k2 k3 r3
  · cases h; exact .dblT k1 k2 k3 r4

set_option maxRecDepth 100000 in
set_option maxHeartbeats 4000000 in
theorem build0 {w : World} {mean : ExcName → Option Value} {mg mb : Str → Option Value} {dp un : Nat} {gd : Option (List Code)} {cn : Str} {cs : Scope} {ca : Addr} {ccd : Value} {cl : List (Str × Addr)} {outer : List Env} {A₀ : Around} {base h₀ : Heap} {L : Addr} {m : Str → Option Value} {s : Shared} {Q E : Value → Shared → Prop}
    {a : Addr} {p q : Int} {t0 t1 t2 : Tok} {n : Nat} {b : Bool} {news : List (Addr × Obj)}
    (hl : s.heap.IsList a (List.toArray [.int 0 t0, .int p t1, .int q t2])) (p0 : 0 ≤ p) (p1 : p < 5)
    (B : Below A₀ base outer h₀) (F : Fr h₀ L s.heap m) (X : (hd.heap_39 w.params).In h₀) (T : Top hd.view_39 (looseW hd.view_39 [Str.ofString "list_of"]) mean mg mb h₀) (hk : cs.kind = .function) (hdp : dp + 24 < recursionLimit)
    (N : News h₀ L s.heap news) (hret : ∀ r tl h' tk', VaR w (InL tl) n r (.sym (symN p)) → Disj tl news → Fr h₀ L h' m → News h₀ L h' (tl ++ news) → Q r { s with heap := h', toks := tk' }) :
    wpAny (model PySem.Challenge.rw_pq1391_01.row.prog w) (ktrTop dp un gd cn cs L ca ccd cl outer) (call (.ref 207) [.ref a, .bool b]) Q E s := by
  w_on
  revert X T
  k_fill
  intro X T
  refine wpAny_call ?_
  k_dflt ktr_enter
  show wpAny _ _ _ _ _ _
  k_fold
  k_steps
  (rename _ = some _ => hv)
  obtain ⟨tv, rfl⟩ := pick_sym p0 p1 hv
  (rename News s.heap _ _ _ => kN)
  (rename Fr s.heap _ _ _ => kF)
  obtain ⟨qF, qN, qD⟩ := made_out F N kF kN
  exact hret _ _ _ _ (.sym (by k_mem) (by k_mem)) qD qF qN

set_option maxRecDepth 100000 in
set_option maxHeartbeats 4000000 in
theorem build1 {w : World} {mean : ExcName → Option Value} {mg mb : Str → Option Value} {dp un : Nat} {gd : Option (List Code)} {cn : Str} {cs : Scope} {ca : Addr} {ccd : Value} {cl : List (Str × Addr)} {outer : List Env} {A₀ : Around} {base h₀ : Heap} {L : Addr} {m : Str → Option Value} {s : Shared} {Q E : Value → Shared → Prop}
    {a : Addr} {p q : Int} {t0 t1 t2 : Tok} {n : Nat} {b : Bool} {news : List (Addr × Obj)}
    (hl : s.heap.IsList a (List.toArray [.int 1 t0, .int p t1, .int q t2]))
    (B : Below A₀ base outer h₀) (F : Fr h₀ L s.heap m) (X : (hd.heap_39 w.params).In h₀) (T : Top hd.view_39 (looseW hd.view_39 [Str.ofString "list_of"]) mean mg mb h₀) (hk : cs.kind = .function) (hdp : dp + 24 < recursionLimit)
    (N : News h₀ L s.heap news) (hret : ∀ r tl h' tk', VaR w (InL tl) n r (.nul) → Disj tl news → Fr h₀ L h' m → News h₀ L h' (tl ++ news) → Q r { s with heap := h', toks := tk' }) :
    wpAny (model PySem.Challenge.rw_pq1391_01.row.prog w) (ktrTop dp un gd cn cs L ca ccd cl outer) (call (.ref 207) [.ref a, .bool b]) Q E s := by
  w_on
  revert X T
  k_fill
  intro X T
  refine wpAny_call ?_
  k_dflt ktr_enter
  show wpAny _ _ _ _ _ _
  k_fold
  k_steps
  (rename News s.heap _ _ _ => kN)
  (rename Fr s.heap _ _ _ => kF)
  obtain ⟨qF, qN, qD⟩ := made_out F N kF kN
  exact hret _ _ _ _ (.nul (by k_mem) (by k_mem)) qD qF qN

set_option maxRecDepth 100000 in
set_option maxHeartbeats 4000000 in
theorem build2 {w : World} {mean : ExcName → Option Value} {mg mb : Str → Option Value} {dp un : Nat} {gd : Option (List Code)} {cn : Str} {cs : Scope} {ca : Addr} {ccd : Value} {cl : List (Str × Addr)} {outer : List Env} {A₀ : Around} {base h₀ : Heap} {L : Addr} {m : Str → Option Value} {s : Shared} {Q E : Value → Shared → Prop}
    {a : Addr} {p q : Int} {t0 t1 t2 : Tok} {n : Nat} {b : Bool} {news : List (Addr × Obj)}
    (hl : s.heap.IsList a (List.toArray [.int 2 t0, .int p t1, .int q t2])) (p0 : 0 ≤ p) (p1 : p < 5)
    (B : Below A₀ base outer h₀) (F : Fr h₀ L s.heap m) (X : (hd.heap_39 w.params).In h₀) (T : Top hd.view_39 (looseW hd.view_39 [Str.ofString "list_of"]) mean mg mb h₀) (hk : cs.kind = .function) (hdp : dp + 24 < recursionLimit)
    (N : News h₀ L s.heap news) (hret : ∀ r tl h' tk', VaR w (InL tl) n r (.dbl (dblN p)) → Disj tl news → Fr h₀ L h' m → News h₀ L h' (tl ++ news) → Q r { s with heap := h', toks := tk' }) :
    wpAny (model PySem.Challenge.rw_pq1391_01.row.prog w) (ktrTop dp un gd cn cs L ca ccd cl outer) (call (.ref 207) [.ref a, .bool b]) Q E s := by
  w_on
  revert X T
  k_fill
  intro X T
  refine wpAny_call ?_
  k_dflt ktr_enter
  show wpAny _ _ _ _ _ _
  k_fold
  k_steps
  (rename _ = some _ => hv)
  (rename News s.heap _ _ _ => kN)
  (rename Fr s.heap _ _ _ => kF)
  obtain ⟨qF, qN, qD⟩ := made_out F N kF kN
  exact hret _ _ _ _ (pick_dbl p0 p1 hv (by k_mem) (by k_mem) (by k_mem) (by k_mem) (by k_mem) (by k_mem) (by k_mem)) qD qF qN


theorem rows_17 : True := by
  k_with_none
  (k_with "my ktr_room" => ((simp only [depth_under_make, depth_under_kw, depth_in1, depth_deeper, depth_caller, recursionLimit] at *); omega))
  (k_with "my ktr_units" => ((simp only [units_in1, units_deeper, Around.mark_units, units_caller, cLine] at *); omega))
  (k_with "my k_room" => ktr_room)
  (k_with "my ite" => (k_closed; first | (with_reducible refine ite_pos ?c ?_; (case c => decide +kernel)) | (with_reducible refine ite_neg ?c ?_; (case c => decide +kernel))))
  (k_with "my ktr_enter" => (refine' code_roC ?k1 ?k2 ?k3 ?k5 ?kA ?kF ?kK ?k6 ?k7 ?k8 ?k9 ?kB ?kD ?_ ?c2 ?c3 ?c4; (case kA => exact rfl); (case kF => exact rfl); (case kK => assumption); (case k1 => k_asm); (case k2 => k_asm); (case k3 => k_asm); (case k5 => k_asm); (case k6 => k_is); (case k7 => k_is); (case k8 => ktr_room); (case k9 => first | exact BindsTo.of_eq rfl | exact binds_K (by k_in) rfl (by k_is) rfl rfl rfl | fail "k_enter: no rule for these arguments"); (case kB => exact rfl); (case kD => decide +kernel); (case c2 => exact rfl); (case c3 => exact rfl); (case c4 => exact rfl); k_whole; intro L' h' tk' cells' F' N' Y' B' X' T'; k_cells Y'; (try simp only [List.cons_append, List.nil_append] at N'); (try dsimp only)))
  (k_with "my ktr_rel" => (intro p9 h9; simp only [List.mem_cons, List.mem_append] at h9 ⊢; simp only [h9, true_or, or_true]))
  (k_with "my k_mem" => ((repeat (refine List.mem_cons_of_mem _ ?_)); assumption))
  (k_with "my subscriptTail List" => (k_here; k_dflt (refine kba_turn (value' := PySem.Expr.Name (PySem.Str.ofString "_") ⟨0, 0, 0, 0⟩) (fun _ => rfl) ?_)))
  (k_with "my subscriptTail Name Constant ref int" => (k_here; k_dflt (refine' item_at ?N ?m ?a ?b ?x ?_; (case N => k_asm); (case m => assumption); (case a => decide); (case b => decide); (case x => rfl); k_whole)))
  (k_with "my subscriptTail Name" => (k_here; k_dflt (first | (refine' item_at ?N ?m ?a ?b ?x ?_; (case N => k_asm); (case m => assumption); (case a => decide); (case b => decide); (case x => rfl); k_whole) | (refine' item_led ?N ?m ?a ?b ?x ?_; (case N => k_asm); (case m => k_mem); (case a => decide); (case b => decide); (case x => rfl); k_whole) | (refine' item_op ?N ?m ?a ?b ?c ?_; (case N => k_asm); (case m => k_mem); (case a => assumption); (case b => (simp only [List.length_cons, List.length_nil]; omega)); (case c => exact Nat.le_of_ble_eq_true rfl); k_whole; intro v' hv'))))
  (k_with "my k_enter" => (refine' code_def ?k1 ?k2 ?k3 ?k4 ?k5 ?kA ?kF ?kK ?k6 ?k7 ?k8 ?k9 ?kB ?_ ?c2 ?c3 ?c4 ?c5; (case kA => exact rfl); (case kF => exact rfl); (case kK => first | exact rfl | assumption); (case k1 => k_asm); (case k2 => k_asm); (case k3 => k_asm); (case k4 => k_asm); (case k5 => k_asm); (case k6 => k_is); (case k7 => k_is); (case k8 => ktr_room); (case k9 => first | exact BindsTo.of_eq rfl | exact binds_K (by k_in) rfl (by k_is) rfl rfl rfl | fail "k_enter: no rule for these arguments"); (case c5 => decide); (case kB => exact locs rfl); (case c2 => exact rfl); (case c3 => exact rfl); (case c4 => exact rfl); k_whole; intro g' L' h' FG' F' N' B' X' T'; (try dsimp only); (try k_fold)))
  (k_with "my call ref" => (k_here; k_dflt (refine' mk_sym ?k1 ?k2 ?k3 ?k4 ?k5 ?k6 ?k7 ?_; (case k1 => k_asm); (case k2 => k_asm); (case k3 => k_asm); (case k4 => k_asm); (case k5 => first | exact rfl | assumption); (case k6 => ktr_room); (case k7 => k_asm)); intro x' d' t0' t1' t2' t3' e' h' tk' F' N' l1' l2'; (try simp only [AllLt, and_true] at l1'); (try k_sweep)))
  (k_with "my call ref" => (k_here; k_dflt (refine' mk_text ?k1 ?k2 ?k3 ?k4 ?k5 ?k6 ?k7 ?_; (case k1 => k_asm); (case k2 => k_asm); (case k3 => k_asm); (case k4 => k_asm); (case k5 => first | exact rfl | assumption); (case k6 => ktr_room); (case k7 => k_asm)); intro x' d' li' t0' t1' t2' t3' t4' t5' e1' h' tk' F' N' l1' l4' l2' l3'; (try simp only [AllLt, and_true] at l1'); (try simp only [AllLt, and_true] at l4'); (try k_sweep)))
  (k_with "my call ref" => (k_here; k_dflt (refine' mk_vec ?k1 ?k2 ?k3 ?k4 ?k5 ?k6 ?k7 ?_; (case k1 => k_asm); (case k2 => k_asm); (case k3 => k_asm); (case k4 => k_asm); (case k5 => first | exact rfl | assumption); (case k6 => ktr_room); (case k7 => k_asm)); intro x' d' t0' t1' t2' t3' t4' t5' h' tk' F' N' l1' l2'; (try simp only [AllLt, and_true] at l1'); (try k_sweep)))
  (k_with "my call ref" => (k_here; k_dflt (refine' mk_call ?k1 ?k2 ?k3 ?k4 ?k5 ?k6 ?k7 ?_; (case k1 => k_asm); (case k2 => k_asm); (case k3 => k_asm); (case k4 => k_asm); (case k5 => first | exact rfl | assumption); (case k6 => ktr_room); (case k7 => k_asm)); intro x' d' t0' t1' t2' t3' t4' t5' e' h' tk' F' N' l1' l2'; (try simp only [AllLt, and_true] at l1'); (try k_sweep)))
  (k_with "my call ref" => (k_here; k_dflt (refine' mk_null ?k1 ?k2 ?k3 ?k4 ?k5 ?k6 ?k7 ?_; (case k1 => k_asm); (case k2 => k_asm); (case k3 => k_asm); (case k4 => k_asm); (case k5 => first | exact rfl | assumption); (case k6 => ktr_room); (case k7 => k_asm)); intro x' d' t0' t1' t2' e' h' tk' F' N' l1' l2'; (try simp only [AllLt, and_true] at l1'); (try k_sweep)))
  (k_with "my call ref" => (k_here; k_dflt (refine' mk_char ?k1 ?k2 ?k3 ?k4 ?k5 ?k6 ?k7 ?k8 ?_; (case k1 => k_asm); (case k2 => k_asm); (case k3 => k_asm); (case k4 => k_asm); (case k5 => first | exact rfl | assumption); (case k6 => ktr_room); (case k7 => k_asm); (case k8 => k_mem)); intro x' d' li' t0' t1' t2' t3' t4' t5' e1' h' tk' F' N' l1' l4' l2' l3'; (try simp only [AllLt, and_true] at l1'); (try simp only [AllLt, and_true] at l4'); (try k_sweep)))
  (k_with "my ktn_open" => first | tbn_find | exact allLt_of (by assumption) | exact tbn_up (by assumption) (by tbn_find) | exact tbn_up (Nat.lt_succ_self _) (allLt_of (by assumption)) | exact tbn_up (by assumption) (allLt_of (by assumption)))
  exact trivial
theorem ats_one {w : World} {R : Addr → Obj → Prop} {a x d l : Addr} {o : Obj} {k : Str} {t0 t1 t2 t3 t4 t5 t6 : Tok} {e1 e2 : Nat} (lo : (a == sysModules) = false) (hd : o.IsDictOf (PySem.strKind PySem.Challenge.rw_pq1391_01.row.prog w) [(k, .ref x)]) (h : R a o)
    (r1 : R x (instObj 67 d)) (r2 : R d (vecD w.params "character" t0 t1 t2 t3 t4 t5 (.ref l) .none false e1)) (r3 : R l (listOf #[.str k t6] e2)) : AtsR w R (.ref a) [k] :=
  .some h hd lo (by simp) fun p hp => by
    rw [List.mem_singleton.mp hp]
    exact ⟨x, d, l, e1, e2, t0, t1, t2, t3, t4, t5, t6, false, rfl, r1, r2, r3⟩
theorem ats_two {w : World} {R : Addr → Obj → Prop} {a x d l x' d' l' : Addr} {o : Obj} {k k' : Str} {t0 t1 t2 t3 t4 t5 t6 u0 u1 u2 u3 u4 u5 u6 : Tok} {e1 e2 e3 e4 : Nat} (lo : (a == sysModules) = false) (hd : o.IsDictOf (PySem.strKind PySem.Challenge.rw_pq1391_01.row.prog w) [(k, .ref x), (k', .ref x')]) (h : R a o)
    (r1 : R x (instObj 67 d)) (r2 : R d (vecD w.params "character" t0 t1 t2 t3 t4 t5 (.ref l) .none false e1)) (r3 : R l (listOf #[.str k t6] e2))
    (q1 : R x' (instObj 67 d')) (q2 : R d' (vecD w.params "character" u0 u1 u2 u3 u4 u5 (.ref l') .none false e3)) (q3 : R l' (listOf #[.str k' u6] e4)) : AtsR w R (.ref a) [k, k'] :=
  .some h hd lo (by simp) fun p hp => by
    rcases List.mem_cons.mp hp with rfl | hp
    · exact ⟨x, d, l, e1, e2, t0, t1, t2, t3, t4, t5, t6, false, rfl, r1, r2, r3⟩
    · rw [List.mem_singleton.mp hp]
      exact ⟨x', d', l', e3, e4, u0, u1, u2, u3, u4, u5, u6, false, rfl, q1, q2, q3⟩

set_option maxRecDepth 100000 in
set_option maxHeartbeats 4000000 in
theorem build3_0 {w : World} {mean : ExcName → Option Value} {mg mb : Str → Option Value} {dp un : Nat} {gd : Option (List Code)} {cn : Str} {cs : Scope} {ca : Addr} {ccd : Value} {cl : List (Str × Addr)} {outer : List Env} {A₀ : Around} {base h₀ : Heap} {L : Addr} {m : Str → Option Value} {s : Shared} {Q E : Value → Shared → Prop}
    {a : Addr} {p : Int} {t0 t1 t2 : Tok} {n : Nat} {b : Bool} {news : List (Addr × Obj)}
    (hl : s.heap.IsList a (List.toArray [.int 3 t0, .int p t1, .int 0 t2])) (p0 : 0 ≤ p) (p1 : p < 5)
    (B : Below A₀ base outer h₀) (F : Fr h₀ L s.heap m) (X : (hd.heap_39 w.params).In h₀) (T : Top hd.view_39 (looseW hd.view_39 [Str.ofString "list_of"]) mean mg mb h₀) (hk : cs.kind = .function) (hdp : dp + 24 < recursionLimit)
    (N : News h₀ L s.heap news) (hret : ∀ r tl h' tk', VaR w (InL tl) n r (.chr (chrN p) (atsN 0 b)) → Disj tl news → Fr h₀ L h' m → News h₀ L h' (tl ++ news) → Q r { s with heap := h', toks := tk' }) :
    wpAny (model PySem.Challenge.rw_pq1391_01.row.prog w) (ktrTop dp un gd cn cs L ca ccd cl outer) (call (.ref 207) [.ref a, .bool b]) Q E s := by
  w_on
  revert X T
  k_fill
  intro X T
  refine wpAny_call ?_
  k_dflt ktr_enter
  show wpAny _ _ _ _ _ _
  k_fold
  k_steps
  all_goals
    (rename _ = some _ => hv)
    (rename News s.heap _ _ _ => kN)
    (rename Fr s.heap _ _ _ => kF)
    obtain ⟨qF, qN, qD⟩ := made_out F N kF kN
    exact hret _ _ _ _ (.chr (by k_mem) (by k_mem) (by k_mem) (pick_chr p0 p1 hv) (.none) (.inl rfl)) qD qF qN

set_option maxRecDepth 100000 in
set_option maxHeartbeats 4000000 in
theorem build3_1 {w : World} {mean : ExcName → Option Value} {mg mb : Str → Option Value} {dp un : Nat} {gd : Option (List Code)} {cn : Str} {cs : Scope} {ca : Addr} {ccd : Value} {cl : List (Str × Addr)} {outer : List Env} {A₀ : Around} {base h₀ : Heap} {L : Addr} {m : Str → Option Value} {s : Shared} {Q E : Value → Shared → Prop}
    {a : Addr} {p : Int} {t0 t1 t2 : Tok} {n : Nat} {b : Bool} {news : List (Addr × Obj)}
    (hl : s.heap.IsList a (List.toArray [.int 3 t0, .int p t1, .int 1 t2])) (p0 : 0 ≤ p) (p1 : p < 5)
    (B : Below A₀ base outer h₀) (F : Fr h₀ L s.heap m) (X : (hd.heap_39 w.params).In h₀) (T : Top hd.view_39 (looseW hd.view_39 [Str.ofString "list_of"]) mean mg mb h₀) (hk : cs.kind = .function) (hdp : dp + 24 < recursionLimit)
    (N : News h₀ L s.heap news) (hret : ∀ r tl h' tk', VaR w (InL tl) n r (.chr (chrN p) (atsN 1 b)) → Disj tl news → Fr h₀ L h' m → News h₀ L h' (tl ++ news) → Q r { s with heap := h', toks := tk' }) :
    wpAny (model PySem.Challenge.rw_pq1391_01.row.prog w) (ktrTop dp un gd cn cs L ca ccd cl outer) (call (.ref 207) [.ref a, .bool b]) Q E s := by
  w_on
  revert X T
  k_fill
  intro X T
  refine wpAny_call ?_
  k_dflt ktr_enter
  show wpAny _ _ _ _ _ _
  k_fold
  k_steps
  all_goals
    (rename _ = some _ => hv)
    (rename News s.heap _ _ _ => kN)
    (rename Fr s.heap _ _ _ => kF)
    obtain ⟨qF, qN, qD⟩ := made_out F N kF kN
    exact hret _ _ _ _ (.chr (by k_mem) (by k_mem) (by k_mem) (pick_chr p0 p1 hv) (ats_one (by assumption) (by assumption) (by k_mem) (by k_mem) (by k_mem) (by k_mem)) (.inr (.inl rfl))) qD qF qN

set_option maxRecDepth 100000 in
set_option maxHeartbeats 4000000 in
theorem build3_2 {w : World} {mean : ExcName → Option Value} {mg mb : Str → Option Value} {dp un : Nat} {gd : Option (List Code)} {cn : Str} {cs : Scope} {ca : Addr} {ccd : Value} {cl : List (Str × Addr)} {outer : List Env} {A₀ : Around} {base h₀ : Heap} {L : Addr} {m : Str → Option Value} {s : Shared} {Q E : Value → Shared → Prop}
    {a : Addr} {p : Int} {t0 t1 t2 : Tok} {n : Nat} {b : Bool} {news : List (Addr × Obj)}
    (hl : s.heap.IsList a (List.toArray [.int 3 t0, .int p t1, .int 2 t2])) (p0 : 0 ≤ p) (p1 : p < 5)
    (B : Below A₀ base outer h₀) (F : Fr h₀ L s.heap m) (X : (hd.heap_39 w.params).In h₀) (T : Top hd.view_39 (looseW hd.view_39 [Str.ofString "list_of"]) mean mg mb h₀) (hk : cs.kind = .function) (hdp : dp + 24 < recursionLimit)
    (N : News h₀ L s.heap news) (hret : ∀ r tl h' tk', VaR w (InL tl) n r (.chr (chrN p) (atsN 2 b)) → Disj tl news → Fr h₀ L h' m → News h₀ L h' (tl ++ news) → Q r { s with heap := h', toks := tk' }) :
    wpAny (model PySem.Challenge.rw_pq1391_01.row.prog w) (ktrTop dp un gd cn cs L ca ccd cl outer) (call (.ref 207) [.ref a, .bool b]) Q E s := by
  w_on
  revert X T
  k_fill
  intro X T
  refine wpAny_call ?_
  k_dflt ktr_enter
  show wpAny _ _ _ _ _ _
  k_fold
  k_steps
  · obtain rfl : b = true := by first | assumption | exact Bool.not_eq_false _ |>.mp (by assumption)
    (rename _ = some _ => hv)
    (rename News s.heap _ _ _ => kN)
    (rename Fr s.heap _ _ _ => kF)
    obtain ⟨qF, qN, qD⟩ := made_out F N kF kN
    exact hret _ _ _ _ (.chr (by k_mem) (by k_mem) (by k_mem) (pick_chr p0 p1 hv) (ats_two (by assumption) (by assumption) (by k_mem) (by k_mem) (by k_mem) (by k_mem) (by k_mem) (by k_mem) (by k_mem)) (.inr (.inr (.inr rfl)))) qD qF qN
  · obtain rfl : b = false := by first | assumption | exact Bool.eq_false_iff.mpr (by assumption)
    (rename _ = some _ => hv)
    (rename News s.heap _ _ _ => kN)
    (rename Fr s.heap _ _ _ => kF)
    obtain ⟨qF, qN, qD⟩ := made_out F N kF kN
    exact hret _ _ _ _ (.chr (by k_mem) (by k_mem) (by k_mem) (pick_chr p0 p1 hv) (ats_two (by assumption) (by assumption) (by k_mem) (by k_mem) (by k_mem) (by k_mem) (by k_mem) (by k_mem) (by k_mem)) (.inr (.inr (.inl rfl)))) qD qF qN

/-- every object stands as it stood, but that a vector may have been marked shared -/
def Shr (w : World) (R R' : Addr → Obj → Prop) : Prop := ∀ a o, R a o → R' a o ∨ ∃ k t0 t1 t2 t3 t4 t5 it at' sh sh' e e', o = vecD w.params k t0 t1 t2 t3 t4 t5 it at' sh e ∧ R' a (vecD w.params k t0 t1 t2 t3 t4 t5 it at' sh' e')

theorem Shr.inst {w : World} {R R' : Addr → Obj → Prop} (S : Shr w R R') {a C d : Addr} (h : R a (instObj C d)) : R' a (instObj C d) := by
  rcases S _ _ h with h | ⟨k, t0, t1, t2, t3, t4, t5, it, at', sh, sh', e, e', h1, h2⟩
  · exact h
  · cases h1
theorem Shr.list {w : World} {R R' : Addr → Obj → Prop} (S : Shr w R R') {a : Addr} {its : Array Value} {n : Nat} (h : R a (listOf its n)) : R' a (listOf its n) := by
  rcases S _ _ h with h | ⟨k, t0, t1, t2, t3, t4, t5, it, at', sh, sh', e, e', h1, h2⟩
  · exact h
  · exact absurd (congrArg Obj.cls h1) (by simp)
theorem Shr.tup {w : World} {R R' : Addr → Obj → Prop} (S : Shr w R R') {a : Addr} {its : Array Value} {n : Nat} (h : R a (tupOf its n)) : R' a (tupOf its n) := by
  rcases S _ _ h with h | ⟨k, t0, t1, t2, t3, t4, t5, it, at', sh, sh', e, e', h1, h2⟩
  · exact h
  · exact absurd (congrArg Obj.cls h1) (by simp)
theorem Shr.vec {w : World} {R R' : Addr → Obj → Prop} (S : Shr w R R') {a : Addr} {k : Str} {t0 t1 t2 t3 t4 t5 : Tok} {it at' : Value} {sh : Bool} {e : Nat} (h : R a (vecD w.params k t0 t1 t2 t3 t4 t5 it at' sh e)) :
    ∃ t0 t1 t2 t3 t4 t5 sh' e', R' a (vecD w.params k t0 t1 t2 t3 t4 t5 it at' sh' e') := by
  rcases S _ _ h with h | ⟨k, u0, u1, u2, u3, u4, u5, it', at2, sh2, sh', e2, e', h1, h2⟩
  · exact ⟨_, _, _, _, _, _, _, _, h⟩
  · cases h1
    exact ⟨_, _, _, _, _, _, _, _, h2⟩
theorem Shr.dict {w : World} {R R' : Addr → Obj → Prop} (S : Shr w R R') {a : Addr} {es : List DictEntry} {n : Nat} (h : R a (dictOf es n)) (hn : es.length ≠ 5) : R' a (dictOf es n) := by
  rcases S _ _ h with h | ⟨k, t0, t1, t2, t3, t4, t5, it, at', sh, sh', e, e', h1, h2⟩
  · exact h
  · cases h1
    exact absurd rfl hn
theorem Shr.dict5 {w : World} {R R' : Addr → Obj → Prop} (S : Shr w R R') {a : Addr} {e1 e2 e3 e4 e5 : DictEntry} {n : Nat} (h : R a (dictOf [e1, e2, e3, e4, e5] n)) {u : Str} {t : Tok} (h4 : e4.key = .str u t) (hu : u ≠ "shared") : R' a (dictOf [e1, e2, e3, e4, e5] n) := by
  rcases S _ _ h with h | ⟨k, t0, t1, t2, t3, t4, t5, it, at', sh, sh', e, e', h1, h2⟩
  · exact h
  · have h2 := congrArg Obj.data h1
    have h3 : [e1, e2, e3, e4, e5].toArray = _ := (Data.dict.inj h2).1
    have h5 := congrArg (fun x => (Array.toList x)[3]?) h3
    simp only [List.getElem?_cons_succ, List.getElem?_cons_zero, Option.some.injEq] at h5
    rw [h5] at h4
    exact absurd (Value.str.inj h4).1.symm hu
theorem Shr.attr {w : World} {R R' : Addr → Obj → Prop} (S : Shr w R R') {a : Addr} {o : Obj} {prog : Program} {kvs : List (Str × Value)} (h : R a o) (hd : o.IsDictOf (PySem.strKind prog w) kvs) (hne : kvs ≠ []) (hr : ∀ p ∈ kvs, ∃ x, p.2 = .ref x) : R' a o := by
  rcases S _ _ h with h | ⟨k, t0, t1, t2, t3, t4, t5, it, at', sh, sh', e, e', h1, h2⟩
  · exact h
  · exfalso
    subst h1
    obtain ⟨es, ep, _, q, _, hp, _⟩ := hd
    cases q
    cases kvs with
    | nil => exact hne rfl
    | cons p r =>
      obtain ⟨x, hx⟩ := hr p (.head _)
      cases hp with
      | cons _ h2 _ => rw [hx] at h2; cases h2

theorem Shr.ats {w : World} {R R' : Addr → Obj → Prop} (S : Shr w R R') {v ats} (h : AtsR w R v ats) : AtsR w R' v ats := by
  cases h with
  | none => exact .none
  | some h1 h2 h3 h4 h5 =>
    refine .some (S.attr h1 h2 h4 fun p hp => ?_) h2 h3 h4 (fun p hp => ?_)
    · obtain ⟨x, _, _, _, _, _, _, _, _, _, _, _, _, q0, _⟩ := h5 p hp
      exact ⟨x, q0⟩
    · obtain ⟨x, dx, li, e1, e2, t0, t1, t2, t3, t4, t5, t6, sh, q0, q1, q2, q3⟩ := h5 p hp
      obtain ⟨u0, u1, u2, u3, u4, u5, sh', e', q2'⟩ := S.vec q2
      exact ⟨x, dx, li, e', e2, u0, u1, u2, u3, u4, u5, t6, sh', q0, S.inst q1, q2', S.list q3⟩

theorem Shr.va {w : World} {R R' : Addr → Obj → Prop} (S : Shr w R R') {n v d} (h : VaR w R n v d) : VaR w R' n v d := by
  induction h with
  | sym h1 h2 => exact .sym (S.inst h1) (S.dict h2 (by simp))
  | nul h1 h2 => exact .nul (S.inst h1) (S.dict h2 (by simp))
  | dblN h1 h2 h3 => obtain ⟨u0, u1, u2, u3, u4, u5, sh', e', q⟩ := S.vec h2; exact .dblN (S.inst h1) q (S.list h3)
  | dblT h1 h2 h3 h4 => obtain ⟨u0, u1, u2, u3, u4, u5, sh', e', q⟩ := S.vec h2; exact .dblT (S.inst h1) q (S.list h3) (S.tup h4)
  | chr h1 h2 h3 h4 h5 h6 => obtain ⟨u0, u1, u2, u3, u4, u5, sh', e', q⟩ := S.vec h2; exact .chr (S.inst h1) q (S.list h3) h4 (S.ats h5) h6
  | call h1 h2 h3 h4 h5 h5' h6 h7 h8 _ ih => exact .call (S.inst h1) (S.dict5 h2 rfl (by decide)) (S.list h3) (S.list h4) h5 h5' h6 h7 h8 ih
  | lst h1 h2 h3 h4 h5 _ ih => obtain ⟨u0, u1, u2, u3, u4, u5, sh', e', q⟩ := S.vec h2; exact .lst (S.inst h1) q (S.list h3) h4 h5 ih
  | exp h1 h2 h3 h4 h5 _ ih => obtain ⟨u0, u1, u2, u3, u4, u5, sh', e', q⟩ := S.vec h2; exact .exp (S.inst h1) q (S.list h3) h4 h5 ih
theorem Shr.refl {w : World} {R : Addr → Obj → Prop} : Shr w R R := fun _ _ h => .inl h
theorem Shr.trans {w : World} {R R' R'' : Addr → Obj → Prop} (S : Shr w R R') (S' : Shr w R' R'') : Shr w R R'' := by
  intro a o h
  rcases S _ _ h with h | ⟨k, t0, t1, t2, t3, t4, t5, it, at', sh, sh', e, e', h1, h2⟩
  · exact S' _ _ h
  · rcases S' _ _ h2 with h | ⟨k, u0, u1, u2, u3, u4, u5, it', at2, sh2, sh', e2, e', h3, h4⟩
    · exact .inr ⟨k, t0, t1, t2, t3, t4, t5, it, at', sh, sh', e, e', h1, h⟩
    · cases h3
      exact .inr ⟨k, t0, t1, t2, t3, t4, t5, it, at', sh, _, e, _, h1, h4⟩

/-- the ledger with one object changed -/
noncomputable def updL (d : Addr) (o : Obj) (l : List (Addr × Obj)) : List (Addr × Obj) := l.map fun p => if p.1 = d then (d, o) else p
theorem updL_news {h₀ h h' : Heap} {L d : Addr} {o o' : Obj} {l : List (Addr × Obj)} (N : News h₀ L h l) (hm : (d, o) ∈ l) (k : StaysBut d h h') (e : h'.get? d = some o') : News h₀ L h' (updL d o' l) := by
  intro p hp
  obtain ⟨q, hq, rfl⟩ := List.mem_map.mp hp
  by_cases hd : q.1 = d
  · simp only [hd, if_true]
    exact ⟨e, (N (d, o) hm).2⟩
  · simp only [hd, if_false]
    exact ⟨k _ _ hd (N q hq).1, (N q hq).2⟩
theorem updL_mem {d : Addr} {o : Obj} {l : List (Addr × Obj)} {p : Addr × Obj} (h : p ∈ l) (hd : p.1 ≠ d) : p ∈ updL d o l := List.mem_map.mpr ⟨p, h, by simp [hd]⟩
theorem updL_self {d : Addr} {o o' : Obj} {l : List (Addr × Obj)} (h : (d, o) ∈ l) : (d, o') ∈ updL d o' l := List.mem_map.mpr ⟨(d, o), h, by simp⟩
theorem updL_fst {d : Addr} {o : Obj} : ∀ (l : List (Addr × Obj)), (updL d o l).map (·.1) = l.map (·.1)
  | [] => rfl
  | p :: r => by
    have := updL_fst (d := d) (o := o) r
    by_cases hd : p.1 = d
    · simp [updL, hd] at this ⊢; exact this
    · simp [updL, hd] at this ⊢; exact this
theorem updL_shr {w : World} {h₀ h : Heap} {L d : Addr} {l : List (Addr × Obj)} {k : Str} {t0 t1 t2 t3 t4 t5 : Tok} {it at' : Value} {sh sh' : Bool} {e e' : Nat} (N : News h₀ L h l) (hm : (d, vecD w.params k t0 t1 t2 t3 t4 t5 it at' sh e) ∈ l) :
    Shr w (InL l) (InL (updL d (vecD w.params k t0 t1 t2 t3 t4 t5 it at' sh' e') l)) := by
  intro a o h
  by_cases hd : a = d
  · subst hd
    have h1 := (N _ h).1
    have h2 := (N _ hm).1
    have h3 : o = vecD w.params k t0 t1 t2 t3 t4 t5 it at' sh e := Option.some.inj (h1.symm.trans h2)
    exact .inr ⟨k, t0, t1, t2, t3, t4, t5, it, at', sh, sh', e, e', h3, updL_self hm⟩
  · exact .inl (updL_mem h hd)
section

theorem rows_18 : True := by
  k_with_none
  (k_with "my ktr_room" => ((simp only [depth_under_make, depth_under_kw, depth_in1, depth_deeper, depth_caller, recursionLimit] at *); omega))
  (k_with "my ite" => (k_closed; first | (with_reducible refine ite_pos ?c ?_; (case c => decide +kernel)) | (with_reducible refine ite_neg ?c ?_; (case c => decide +kernel))))
  (k_with "my k_inst" => (refine' inst_of ?k ?a ?b; (case k => exact Fr.keep (by k_asm)); (case a => assumption); (case b => assumption)))
  (k_with "my ktr_enter" => (refine' code_ro ?k1 ?k2 ?k3 ?k5 ?kA ?kF ?kK ?k6 ?k7 ?k8 ?k9 ?kB ?_ ?c2 ?c3 ?c4 ?c5; (case kA => exact rfl); (case kF => exact rfl); (case kK => assumption); (case k1 => k_asm); (case k2 => k_asm); (case k3 => k_asm); (case k5 => k_asm); (case k6 => k_is); (case k7 => k_is); (case k8 => ktr_room); (case k9 => first | exact BindsTo.of_eq rfl | exact binds_K (by k_in) rfl (by k_is) rfl rfl rfl | fail "k_enter: no rule for these arguments"); (case c5 => decide); (case kB => exact locs rfl); (case c2 => exact rfl); (case c3 => exact rfl); (case c4 => exact rfl); k_whole))
  exact trivial
set_option maxRecDepth 100000 in
set_option maxHeartbeats 4000000 in
theorem share_sym {w : World} {mean : ExcName → Option Value} {mg mb : Str → Option Value} {dp un : Nat} {gd : Option (List Code)} {cn : Str} {cs : Scope} {ca : Addr} {ccd : Value} {cl : List (Str × Addr)} {outer : List Env} {A₀ : Around} {base h₀ : Heap} {L : Addr} {m : Str → Option Value} {s : Shared} {Q E : Value → Shared → Prop} {a dx : Addr} {o : Obj}
    (B : Below A₀ base outer h₀) (F : Fr h₀ L s.heap m) (X : (hd.heap_39 w.params).In h₀) (T : Top hd.view_39 (looseW hd.view_39 [Str.ofString "list_of"]) mean mg mb h₀) (hk : cs.kind = .function) (hdp : dp + 4 < recursionLimit) (p1 : s.heap.get? a = some (instObj 88 dx)) (p2 : s.heap.get? dx = some o)
    (hret : ∀ h' tk', s.heap.StaysIn h' → Q (.ref a) { s with heap := h', toks := tk' }) :
    wpAny (model PySem.Challenge.rw_pq1391_01.row.prog w) (ktrTop dp un gd cn cs L ca ccd cl outer) (call (.ref 169) [.ref a]) Q E s := by
  w_on
  revert X T
  k_fill
  intro X T
  refine wpAny_call ?_
  k_dflt ktr_enter
  intro L' h' F' N' B' X' T'
  (try dsimp only)
  k_fold
  k_steps
  exact hret _ _ (Fr.keep (by assumption))

set_option maxRecDepth 100000 in
set_option maxHeartbeats 4000000 in
theorem share_nul {w : World} {mean : ExcName → Option Value} {mg mb : Str → Option Value} {dp un : Nat} {gd : Option (List Code)} {cn : Str} {cs : Scope} {ca : Addr} {ccd : Value} {cl : List (Str × Addr)} {outer : List Env} {A₀ : Around} {base h₀ : Heap} {L : Addr} {m : Str → Option Value} {s : Shared} {Q E : Value → Shared → Prop} {a dx : Addr} {o : Obj}
    (B : Below A₀ base outer h₀) (F : Fr h₀ L s.heap m) (X : (hd.heap_39 w.params).In h₀) (T : Top hd.view_39 (looseW hd.view_39 [Str.ofString "list_of"]) mean mg mb h₀) (hk : cs.kind = .function) (hdp : dp + 4 < recursionLimit) (p1 : s.heap.get? a = some (instObj 38 dx)) (p2 : s.heap.get? dx = some o)
    (hret : ∀ h' tk', s.heap.StaysIn h' → Q (.ref a) { s with heap := h', toks := tk' }) :
    wpAny (model PySem.Challenge.rw_pq1391_01.row.prog w) (ktrTop dp un gd cn cs L ca ccd cl outer) (call (.ref 169) [.ref a]) Q E s := by
  w_on
  revert X T
  k_fill
  intro X T
  refine wpAny_call ?_
  k_dflt ktr_enter
  intro L' h' F' N' B' X' T'
  (try dsimp only)
  k_fold
  k_steps
  exact hret _ _ (Fr.keep (by assumption))

set_option maxRecDepth 100000 in
set_option maxHeartbeats 4000000 in
theorem share_call {w : World} {mean : ExcName → Option Value} {mg mb : Str → Option Value} {dp un : Nat} {gd : Option (List Code)} {cn : Str} {cs : Scope} {ca : Addr} {ccd : Value} {cl : List (Str × Addr)} {outer : List Env} {A₀ : Around} {base h₀ : Heap} {L : Addr} {m : Str → Option Value} {s : Shared} {Q E : Value → Shared → Prop} {a dx : Addr} {o : Obj}
    (B : Below A₀ base outer h₀) (F : Fr h₀ L s.heap m) (X : (hd.heap_39 w.params).In h₀) (T : Top hd.view_39 (looseW hd.view_39 [Str.ofString "list_of"]) mean mg mb h₀) (hk : cs.kind = .function) (hdp : dp + 4 < recursionLimit) (p1 : s.heap.get? a = some (instObj 110 dx)) (p2 : s.heap.get? dx = some o)
    (hret : ∀ h' tk', s.heap.StaysIn h' → Q (.ref a) { s with heap := h', toks := tk' }) :
    wpAny (model PySem.Challenge.rw_pq1391_01.row.prog w) (ktrTop dp un gd cn cs L ca ccd cl outer) (call (.ref 169) [.ref a]) Q E s := by
  w_on
  revert X T
  k_fill
  intro X T
  refine wpAny_call ?_
  k_dflt ktr_enter
  intro L' h' F' N' B' X' T'
  (try dsimp only)
  k_fold
  k_steps
  exact hret _ _ (Fr.keep (by assumption))
end

section
theorem rows_19 : True := by
  k_with_none
  (k_with "my ktr_room" => ((simp only [depth_under_make, depth_under_kw, depth_in1, depth_deeper, depth_caller, recursionLimit] at *); omega))
  (k_with "my ite" => (k_closed; first | (with_reducible refine ite_pos ?c ?_; (case c => decide +kernel)) | (with_reducible refine ite_neg ?c ?_; (case c => decide +kernel))))
  (k_with "my ktr_enter" => (refine' code_defG ?k1 ?k2 ?k3 ?k4 ?k5 ?kA ?kF ?kK ?k6 ?k7 ?k8 ?k9 ?kB ?_ ?c2 ?c3 ?c4 ?c5; (case kA => exact rfl); (case kF => exact rfl); (case kK => assumption); (case k1 => k_asm); (case k2 => k_asm); (case k3 => k_asm); (case k4 => k_asm); (case k5 => k_asm); (case k6 => k_is); (case k7 => k_is); (case k8 => ktr_room); (case k9 => first | exact BindsTo.of_eq rfl | exact binds_K (by k_in) rfl (by k_is) rfl rfl rfl | fail "k_enter: no rule for these arguments"); (case c5 => decide); (case kB => exact locs rfl); (case c2 => exact rfl); (case c3 => exact rfl); (case c4 => exact rfl); k_whole))
  (k_with "my setAttr ref" => (k_here; k_dflt (refine' set_dict ?k1 ?k2 ?k3 ?k4 ?k5 ?k6 ?k7 ?k8 ?k9 ?k10 ?k11 ?k12 ?k13 ?_; (case k1 => k_asm); (case k2 => k_asm); (case k3 => k_asm); (case k4 => k_inst); (case k5 => exact rfl); (case k6 => k_is); (case k7 => k_is); (case k8 => k_is); (case k9 => k_is); (case k10 => k_get); (case k11 => exact rfl); (case k12 => k_upd); (case k13 => exact Nat.le_of_ble_eq_true rfl); k_whole; intro h' F' N'; (try k_sweep))))
  exact trivial
set_option maxRecDepth 100000 in
set_option maxHeartbeats 4000000 in
theorem share_vec {w : World} {mean : ExcName → Option Value} {mg mb : Str → Option Value} {dp un : Nat} {gd : Option (List Code)} {cn : Str} {cs : Scope} {ca : Addr} {ccd : Value} {cl : List (Str × Addr)} {outer : List Env} {A₀ : Around} {base h₀ : Heap} {L : Addr} {m : Str → Option Value} {s : Shared} {Q E : Value → Shared → Prop} {a dx : Addr} {k : Str} {t0 t1 t2 t3 t4 t5 : Tok} {it at' : Value} {sh : Bool} {e : Nat}
    (B : Below A₀ base outer h₀) (F : Fr h₀ L s.heap m) (X : (hd.heap_39 w.params).In h₀) (T : Top hd.view_39 (looseW hd.view_39 [Str.ofString "list_of"]) mean mg mb h₀) (hk : cs.kind = .function) (hdp : dp + 4 < recursionLimit) (N : News h₀ L s.heap [(a, instObj 67 dx), (dx, vecD w.params k t0 t1 t2 t3 t4 t5 it at' sh e)]) (hne : @Ne Nat a dx)
    (hret : ∀ h' tk', StaysBut dx s.heap h' → h'.get? dx = some (vecD w.params k t0 t1 t2 t3 t4 t5 it at' true e) → Q (.ref a) { s with heap := h', toks := tk' }) :
    wpAny (model PySem.Challenge.rw_pq1391_01.row.prog w) (ktrTop dp un gd cn cs L ca ccd cl outer) (call (.ref 169) [.ref a]) Q E s := by
  w_on
  revert X T
  k_fill
  intro X T
  refine wpAny_call ?_
  k_dflt ktr_enter
  intro g' L' h' FG' F' N' B' X' T' kG'
  (try dsimp only)
  k_fold
  k_steps
  (rename News g' _ _ _ => kN)
  (rename Fr g' _ _ _ => kF)
  refine hret _ _ (fun b o hb he => ?_) (kN _ (.tail _ (.head _))).1
  by_cases hx : b = a
  · subst hx
    have := (N _ (.head _)).1
    have he' := he.symm.trans this
    cases he'
    exact (kN _ (.head _)).1
  · exact kF.keep b o (kG' b o he (by simp only [List.map_cons, List.map_nil, List.mem_cons, List.not_mem_nil, or_false, not_or]; exact ⟨hx, hb⟩))
end

theorem rows_20 : True := by
  k_with_none
  (k_with "my ktr_room" => ((simp only [depth_under_make, depth_under_kw, depth_in1, depth_deeper, depth_caller, recursionLimit] at *); omega))
  (k_with "my ite" => (k_closed; first | (with_reducible refine ite_pos ?c ?_; (case c => decide +kernel)) | (with_reducible refine ite_neg ?c ?_; (case c => decide +kernel))))
  exact trivial
theorem share_led {w : World} {mean : ExcName → Option Value} {mg mb : Str → Option Value} {dp un : Nat} {gd : Option (List Code)} {cn : Str} {cs : Scope} {ca : Addr} {ccd : Value} {cl : List (Str × Addr)} {outer : List Env} {A₀ : Around} {base h₀ : Heap} {L : Addr} {m : Str → Option Value} {s : Shared} {Q E : Value → Shared → Prop} {n : Nat} {v : Value} {d : Va} {news : List (Addr × Obj)}
    (B : Below A₀ base outer h₀) (F : Fr h₀ L s.heap m) (X : (hd.heap_39 w.params).In h₀) (T : Top hd.view_39 (looseW hd.view_39 [Str.ofString "list_of"]) mean mg mb h₀) (hk : cs.kind = .function) (hdp : dp + 4 < recursionLimit) (N : News h₀ L s.heap news) (hv : VaR w (InL news) n v d)
    (hret : ∀ news' h' tk', (∀ b o, b ∉ news.map (·.1) → s.heap.get? b = some o → h'.get? b = some o) → Shr w (InL news) (InL news') → news'.map (·.1) = news.map (·.1) → Fr h₀ L h' m → News h₀ L h' news' → Q v { s with heap := h', toks := tk' }) :
    wpAny (model PySem.Challenge.rw_pq1391_01.row.prog w) (ktrTop dp un gd cn cs L ca ccd cl outer) (call (.ref 169) [v]) Q E s := by
  have old : ∀ h' tk', s.heap.StaysIn h' → Q v { s with heap := h', toks := tk' } := fun h' tk' k => hret news h' tk' (fun b o _ e => k b o e) .refl rfl (F.keeps k) (N.grown k)
  have vec : ∀ {a dx : Addr} {k : Str} {t0 t1 t2 t3 t4 t5 : Tok} {it at' : Value} {sh : Bool} {e : Nat}, v = .ref a → (a, instObj 67 dx) ∈ news → (dx, vecD w.params k t0 t1 t2 t3 t4 t5 it at' sh e) ∈ news →
      wpAny (model PySem.Challenge.rw_pq1391_01.row.prog w) (ktrTop dp un gd cn cs L ca ccd cl outer) (call (.ref 169) [v]) Q E s := by
    intro a dx k t0 t1 t2 t3 t4 t5 it at' sh e hva h1 h2
    subst hva
    have N2 : News h₀ L s.heap [(a, instObj 67 dx), (dx, vecD w.params k t0 t1 t2 t3 t4 t5 it at' sh e)] := by
      intro p hp
      rcases List.mem_cons.mp hp with rfl | hp
      · exact N _ h1
      · rw [List.mem_singleton.mp hp]; exact N _ h2
    refine share_vec B F X T hk hdp N2 ?_ fun h' tk' k1 k2 => ?_
    · intro e
      have e1 := (N _ h1).1
      have e2 := (N _ h2).1
      have e : a = dx := e
      subst e
      have := Option.some.inj (e1.symm.trans e2)
      exact absurd (congrArg Obj.cls this) (by simp)
    · refine hret _ h' tk' (fun b o hb e => k1 b o (fun q => hb (q ▸ List.mem_map_of_mem h2)) e) (updL_shr N h2) (updL_fst _) ⟨F.ns.at' fun o eo => k1 _ _ (Ne.symm (N _ h2).2.1) eo, fun b o eo => k1 _ _ (fun q => ?_) (F.keep b o eo), F.above⟩ (updL_news N h2 k1 k2)
      rw [q, (N _ h2).2.2] at eo; cases eo
  cases hv with
  | sym h1 h2 => exact share_sym B F X T hk hdp (N _ h1).1 (N _ h2).1 old
  | nul h1 h2 => exact share_nul B F X T hk hdp (N _ h1).1 (N _ h2).1 old
  | call h1 h2 => exact share_call B F X T hk hdp (N _ h1).1 (N _ h2).1 old
  | dblN h1 h2 => exact vec rfl h1 h2
  | dblT h1 h2 => exact vec rfl h1 h2
  | chr h1 h2 => exact vec rfl h1 h2
  | lst h1 h2 => exact vec rfl h1 h2
  | exp h1 h2 => exact vec rfl h1 h2


theorem rows_21 : True := by
  k_with_none
  (k_with "my ktr_room" => ((simp only [depth_under_make, depth_under_kw, depth_in1, depth_deeper, depth_caller, recursionLimit] at *); omega))
  (k_with "my ktr_units" => ((simp only [units_in1, units_deeper, Around.mark_units, units_caller, cLine] at *); omega))
  (k_with "my k_room" => ktr_room)
  (k_with "my ite" => (k_closed; first | (with_reducible refine ite_pos ?c ?_; (case c => decide +kernel)) | (with_reducible refine ite_neg ?c ?_; (case c => decide +kernel))))
  (k_with "my ktr_rel" => (intro p9 h9; simp only [List.mem_cons, List.mem_append] at h9 ⊢; simp only [h9, true_or, or_true]))
  (k_with "my k_mem" => ((repeat (refine List.mem_cons_of_mem _ ?_)); assumption))
  (k_with "my subscriptTail List" => (k_here; k_dflt (refine kba_turn (value' := PySem.Expr.Name (PySem.Str.ofString "_") ⟨0, 0, 0, 0⟩) (fun _ => rfl) ?_)))
  (k_with "my subscriptTail Name" => (k_here; k_dflt (first | (refine' item_led ?N ?m ?a ?b ?x ?_; (case N => k_asm); (case m => k_mem); (case a => decide); (case b => decide); (case x => rfl); k_whole) | (refine' item_op ?N ?m ?a ?b ?c ?_; (case N => k_asm); (case m => k_mem); (case a => assumption); (case b => (simp only [List.length_cons, List.length_nil]; omega)); (case c => exact Nat.le_of_ble_eq_true rfl); k_whole; intro v' hv'))))
  (k_with "my k_enter" => (refine' code_def ?k1 ?k2 ?k3 ?k4 ?k5 ?kA ?kF ?kK ?k6 ?k7 ?k8 ?k9 ?kB ?_ ?c2 ?c3 ?c4 ?c5; (case kA => exact rfl); (case kF => exact rfl); (case kK => first | exact rfl | assumption); (case k1 => k_asm); (case k2 => k_asm); (case k3 => k_asm); (case k4 => k_asm); (case k5 => k_asm); (case k6 => k_is); (case k7 => k_is); (case k8 => ktr_room); (case k9 => first | exact BindsTo.of_eq rfl | exact binds_K (by k_in) rfl (by k_is) rfl rfl rfl | fail "k_enter: no rule for these arguments"); (case c5 => decide); (case kB => exact locs rfl); (case c2 => exact rfl); (case c3 => exact rfl); (case c4 => exact rfl); k_whole; intro g' L' h' FG' F' N' B' X' T'; (try dsimp only); (try k_fold)))
  (k_with "my call ref" => (k_here; k_dflt (refine' mk_sym ?k1 ?k2 ?k3 ?k4 ?k5 ?k6 ?k7 ?_; (case k1 => k_asm); (case k2 => k_asm); (case k3 => k_asm); (case k4 => k_asm); (case k5 => first | exact rfl | assumption); (case k6 => ktr_room); (case k7 => k_asm)); intro x' d' t0' t1' t2' t3' e' h' tk' F' N' l1' l2'; (try simp only [AllLt, and_true] at l1'); (try k_sweep)))
  (k_with "my call ref" => (k_here; k_dflt (refine' mk_text ?k1 ?k2 ?k3 ?k4 ?k5 ?k6 ?k7 ?_; (case k1 => k_asm); (case k2 => k_asm); (case k3 => k_asm); (case k4 => k_asm); (case k5 => first | exact rfl | assumption); (case k6 => ktr_room); (case k7 => k_asm)); intro x' d' li' t0' t1' t2' t3' t4' t5' e1' h' tk' F' N' l1' l4' l2' l3'; (try simp only [AllLt, and_true] at l1'); (try simp only [AllLt, and_true] at l4'); (try k_sweep)))
  (k_with "my call ref" => (k_here; k_dflt (refine' mk_vec ?k1 ?k2 ?k3 ?k4 ?k5 ?k6 ?k7 ?_; (case k1 => k_asm); (case k2 => k_asm); (case k3 => k_asm); (case k4 => k_asm); (case k5 => first | exact rfl | assumption); (case k6 => ktr_room); (case k7 => k_asm)); intro x' d' t0' t1' t2' t3' t4' t5' h' tk' F' N' l1' l2'; (try simp only [AllLt, and_true] at l1'); (try k_sweep)))
  (k_with "my call ref" => (k_here; k_dflt (refine' mk_call ?k1 ?k2 ?k3 ?k4 ?k5 ?k6 ?k7 ?_; (case k1 => k_asm); (case k2 => k_asm); (case k3 => k_asm); (case k4 => k_asm); (case k5 => first | exact rfl | assumption); (case k6 => ktr_room); (case k7 => k_asm)); intro x' d' t0' t1' t2' t3' t4' t5' e' h' tk' F' N' l1' l2'; (try simp only [AllLt, and_true] at l1'); (try k_sweep)))
  (k_with "my call ref" => (k_here; k_dflt (refine' mk_null ?k1 ?k2 ?k3 ?k4 ?k5 ?k6 ?k7 ?_; (case k1 => k_asm); (case k2 => k_asm); (case k3 => k_asm); (case k4 => k_asm); (case k5 => first | exact rfl | assumption); (case k6 => ktr_room); (case k7 => k_asm)); intro x' d' t0' t1' t2' e' h' tk' F' N' l1' l2'; (try simp only [AllLt, and_true] at l1'); (try k_sweep)))
  (k_with "my call ref" => (k_here; k_dflt (refine' mk_char ?k1 ?k2 ?k3 ?k4 ?k5 ?k6 ?k7 ?k8 ?_; (case k1 => k_asm); (case k2 => k_asm); (case k3 => k_asm); (case k4 => k_asm); (case k5 => first | exact rfl | assumption); (case k6 => ktr_room); (case k7 => k_asm); (case k8 => k_mem)); intro x' d' li' t0' t1' t2' t3' t4' t5' e1' h' tk' F' N' l1' l4' l2' l3'; (try simp only [AllLt, and_true] at l1'); (try simp only [AllLt, and_true] at l4'); (try k_sweep)))
  exact trivial
structure SJ (w : World) (news : List (Addr × Obj)) (ys : List Value) (j : Nat) (zs : List Value) (nw : List (Addr × Obj)) : Prop where
  shr : Shr w (InL news) (InL nw)
  fst : nw.map (·.1) = news.map (·.1)
  zs : zs = ys.take j
theorem share_turn {w : World} {mean : ExcName → Option Value} {mg mb : Str → Option Value} {dp un : Nat} {gd : Option (List Code)} {cn : Str} {cs : Scope} {ca : Addr} {ccd : Value} {cl : List (Str × Addr)} {outer : List Env} {A₀ : Around} {base h₀ : Heap} {L : Addr} {m : Str → Option Value} {s s₁ : Shared} {E : Value → Shared → Prop}
    {n : Nat} {news nw : List (Addr × Obj)} {ys zs : List Value} {ds : List Va} {j : Nat} {v : Value} {D0 I C D : Addr} {oI oC : Obj}
    (J : SJ w news ys j zs nw) (hP : ys.toArray[j]? = some v) (hl : ys.length = ds.length) (hV : ∀ (k : Nat) v d, ys[k]? = some v → ds[k]? = some d → VaR w (InL news) n v d) (hm : (D0, LCg.lst ys) ∈ news)
    (B : Below A₀ base outer h₀) (F : Fr h₀ L s.heap m) (X : (hd.heap_39 w.params).In h₀) (T : Top hd.view_39 (looseW hd.view_39 [Str.ofString "list_of"]) mean mg mb h₀) (hk : cs.kind = .function) (hdp : dp + 4 < recursionLimit)
    (N : News h₀ L s.heap ((I, oI) :: (C, oC) :: (D, LCg.lst zs) :: nw)) (off : LCg.Off3 I C D nw) (hs : ∀ (h : Heap) (tk : Nat), ({ s with heap := h, toks := tk } : Shared) = { s₁ with heap := h, toks := tk }) :
    wpAny (model PySem.Challenge.rw_pq1391_01.row.prog w) (ktrTop dp un gd cn cs L ca ccd cl outer) (call (.ref 169) [v])
      (LCg.CompEnd h₀ L m s₁ I oI C oC D (LCg.lst zs) (LCg.SrcAt h₀ D0 ys.toArray) (fun y news' => SJ w news ys (j + 1) (zs ++ [y]) news')) E s := by
  have hP' : ys[j]? = some v := by simpa using hP
  have hj : j < ys.length := (List.getElem?_eq_some_iff.mp hP').1
  obtain ⟨d, hd⟩ : ∃ d, ds[j]? = some d := ⟨ds[j]'(by omega), List.getElem?_eq_getElem _⟩
  have off' := off.mem
  have nI : ∀ b, (b = I ∨ b = C ∨ b = D) → b ∉ nw.map (·.1) := by
    intro b hb hm
    obtain ⟨p, hp, rfl⟩ := List.mem_map.mp hm
    have z := off' p hp
    rcases hb with hb | hb | hb
    · exact z.1 hb
    · exact z.2.1 hb
    · exact z.2.2 hb
  refine share_led B F X T hk hdp (News.sub N fun p hp => .tail _ (.tail _ (.tail _ hp))) (J.shr.va (hV j v d hP' hd)) fun news' h' tk' keep sh fs F' N' => ?_
  rw [hs]
  have hmem : ∀ p ∈ news', p.1 ∈ nw.map (·.1) := fun p hp => fs ▸ List.mem_map_of_mem hp
  refine LCg.CompEnd.intro F' (all := (I, oI) :: (C, oC) :: (D, LCg.lst zs) :: news') (fun p hp => ?_) news' (fun p hp => hp) (LCg.Off3.of fun p hp => ?_) (.inr ⟨_, sh.list (J.shr.list hm), rfl, _, rfl⟩) ⟨J.shr.trans sh, fs.trans J.fst, ?_⟩
  · rcases List.mem_cons.mp hp with rfl | hp
    · exact ⟨keep _ _ (nI _ (.inl rfl)) (N _ (.head _)).1, (N _ (.head _)).2⟩
    · rcases List.mem_cons.mp hp with rfl | hp
      · exact ⟨keep _ _ (nI _ (.inr (.inl rfl))) (N _ (.tail _ (.head _))).1, (N _ (.tail _ (.head _))).2⟩
      · rcases List.mem_cons.mp hp with rfl | hp
        · exact ⟨keep _ _ (nI _ (.inr (.inr rfl))) (N _ (.tail _ (.tail _ (.head _)))).1, (N _ (.tail _ (.tail _ (.head _)))).2⟩
        · exact N' p hp
  · have z := hmem p hp
    exact ⟨fun e => nI _ (.inl e) z, fun e => nI _ (.inr (.inl e)) z, fun e => nI _ (.inr (.inr e)) z⟩
  · rw [J.zs, List.take_add_one, hP']; rfl

theorem rows_22 : True := by
  k_with_none
  (k_with "my ktr_room" => ((simp only [depth_under_make, depth_under_kw, depth_in1, depth_deeper, depth_caller, recursionLimit] at *); omega))
  (k_with "my ktr_units" => ((simp only [units_in1, units_deeper, Around.mark_units, units_caller, cLine] at *); omega))
  (k_with "my k_room" => ktr_room)
  (k_with "my ite" => (k_closed; first | (with_reducible refine ite_pos ?c ?_; (case c => decide +kernel)) | (with_reducible refine ite_neg ?c ?_; (case c => decide +kernel))))
  (k_with "my ktr_rel" => (intro p9 h9; simp only [List.mem_cons, List.mem_append] at h9 ⊢; simp only [h9, true_or, or_true]))
  (k_with "my k_mem" => ((repeat (refine List.mem_cons_of_mem _ ?_)); assumption))
  (k_with "my subscriptTail List" => (k_here; k_dflt (refine kba_turn (value' := PySem.Expr.Name (PySem.Str.ofString "_") ⟨0, 0, 0, 0⟩) (fun _ => rfl) ?_)))
  (k_with "my subscriptTail Name" => (k_here; k_dflt (first | (refine' item_led ?N ?m ?a ?b ?x ?_; (case N => k_asm); (case m => k_mem); (case a => decide); (case b => decide); (case x => rfl); k_whole) | (refine' item_op ?N ?m ?a ?b ?c ?_; (case N => k_asm); (case m => k_mem); (case a => assumption); (case b => (simp only [List.length_cons, List.length_nil]; omega)); (case c => exact Nat.le_of_ble_eq_true rfl); k_whole; intro v' hv'))))
  (k_with "my k_enter" => (refine' code_def ?k1 ?k2 ?k3 ?k4 ?k5 ?kA ?kF ?kK ?k6 ?k7 ?k8 ?k9 ?kB ?_ ?c2 ?c3 ?c4 ?c5; (case kA => exact rfl); (case kF => exact rfl); (case kK => first | exact rfl | assumption); (case k1 => k_asm); (case k2 => k_asm); (case k3 => k_asm); (case k4 => k_asm); (case k5 => k_asm); (case k6 => k_is); (case k7 => k_is); (case k8 => ktr_room); (case k9 => first | exact BindsTo.of_eq rfl | exact binds_K (by k_in) rfl (by k_is) rfl rfl rfl | fail "k_enter: no rule for these arguments"); (case c5 => decide); (case kB => exact locs rfl); (case c2 => exact rfl); (case c3 => exact rfl); (case c4 => exact rfl); k_whole; intro g' L' h' FG' F' N' B' X' T'; (try dsimp only); (try k_fold)))
  (k_with "my call ref" => (k_here; k_dflt (refine' mk_sym ?k1 ?k2 ?k3 ?k4 ?k5 ?k6 ?k7 ?_; (case k1 => k_asm); (case k2 => k_asm); (case k3 => k_asm); (case k4 => k_asm); (case k5 => first | exact rfl | assumption); (case k6 => ktr_room); (case k7 => k_asm)); intro x' d' t0' t1' t2' t3' e' h' tk' F' N' l1' l2'; (try simp only [AllLt, and_true] at l1'); (try k_sweep)))
  (k_with "my call ref" => (k_here; k_dflt (refine' mk_text ?k1 ?k2 ?k3 ?k4 ?k5 ?k6 ?k7 ?_; (case k1 => k_asm); (case k2 => k_asm); (case k3 => k_asm); (case k4 => k_asm); (case k5 => first | exact rfl | assumption); (case k6 => ktr_room); (case k7 => k_asm)); intro x' d' li' t0' t1' t2' t3' t4' t5' e1' h' tk' F' N' l1' l4' l2' l3'; (try simp only [AllLt, and_true] at l1'); (try simp only [AllLt, and_true] at l4'); (try k_sweep)))
  (k_with "my call ref" => (k_here; k_dflt (refine' mk_vec ?k1 ?k2 ?k3 ?k4 ?k5 ?k6 ?k7 ?_; (case k1 => k_asm); (case k2 => k_asm); (case k3 => k_asm); (case k4 => k_asm); (case k5 => first | exact rfl | assumption); (case k6 => ktr_room); (case k7 => k_asm)); intro x' d' t0' t1' t2' t3' t4' t5' h' tk' F' N' l1' l2'; (try simp only [AllLt, and_true] at l1'); (try k_sweep)))
  (k_with "my call ref" => (k_here; k_dflt (refine' mk_call ?k1 ?k2 ?k3 ?k4 ?k5 ?k6 ?k7 ?_; (case k1 => k_asm); (case k2 => k_asm); (case k3 => k_asm); (case k4 => k_asm); (case k5 => first | exact rfl | assumption); (case k6 => ktr_room); (case k7 => k_asm)); intro x' d' t0' t1' t2' t3' t4' t5' e' h' tk' F' N' l1' l2'; (try simp only [AllLt, and_true] at l1'); (try k_sweep)))
  (k_with "my call ref" => (k_here; k_dflt (refine' mk_null ?k1 ?k2 ?k3 ?k4 ?k5 ?k6 ?k7 ?_; (case k1 => k_asm); (case k2 => k_asm); (case k3 => k_asm); (case k4 => k_asm); (case k5 => first | exact rfl | assumption); (case k6 => ktr_room); (case k7 => k_asm)); intro x' d' t0' t1' t2' e' h' tk' F' N' l1' l2'; (try simp only [AllLt, and_true] at l1'); (try k_sweep)))
  (k_with "my call ref" => (k_here; k_dflt (refine' mk_char ?k1 ?k2 ?k3 ?k4 ?k5 ?k6 ?k7 ?k8 ?_; (case k1 => k_asm); (case k2 => k_asm); (case k3 => k_asm); (case k4 => k_asm); (case k5 => first | exact rfl | assumption); (case k6 => ktr_room); (case k7 => k_asm); (case k8 => k_mem)); intro x' d' li' t0' t1' t2' t3' t4' t5' e1' h' tk' F' N' l1' l4' l2' l3'; (try simp only [AllLt, and_true] at l1'); (try simp only [AllLt, and_true] at l4'); (try k_sweep)))
  (k_with "my CompSrc" => refine stop_at ?_)
  (k_with "my call ref" => (k_here; k_dflt (refine' share_turn ?J ?P ?l ?V ?m ?k1 ?k2 ?k3 ?k4 ?k5 ?k6 ?k7 ?k8 ?k9; (case J => assumption); (case P => assumption); (case l => assumption); (case V => assumption); (case m => assumption); (case k1 => k_asm); (case k2 => k_asm); (case k3 => k_asm); (case k4 => k_asm); (case k5 => first | exact rfl | assumption); (case k6 => ktr_room); (case k7 => k_asm); (case k8 => assumption); (case k9 => exact fun _ _ => rfl))))
  exact trivial
set_option maxRecDepth 100000 in
set_option maxHeartbeats 4000000 in
theorem list_of_c {w : World} {mean : ExcName → Option Value} {mg mb : Str → Option Value} {dp un : Nat} {gd : Option (List Code)} {cn : Str} {cs : Scope} {ca : Addr} {ccd : Value} {cl : List (Str × Addr)} {outer : List Env} {A₀ : Around} {base h₀ : Heap} {L : Addr} {m : Str → Option Value} {s : Shared} {Q E : Value → Shared → Prop}
    {n : Nat} {news : List (Addr × Obj)} {ys : List Value} {ds : List Va} {D0 : Addr}
    (hl : ys.length = ds.length) (hV : ∀ (k : Nat) v d, ys[k]? = some v → ds[k]? = some d → VaR w (InL news) n v d) (hm : (D0, LCg.lst ys) ∈ news) (h4 : ds.length ≤ 4)
    (B : Below A₀ base outer h₀) (F : Fr h₀ L s.heap m) (X : (hd.heap_39 w.params).In h₀) (T : Top hd.view_39 (looseW hd.view_39 [Str.ofString "list_of"]) mean mg mb h₀) (hk : cs.kind = .function) (hdp : dp + 12 < recursionLimit)
    (N : News h₀ L s.heap news)
    (hret : ∀ r tl h' tk', VaR w (InL tl) (n + 1) r (.lst ds) → Fr h₀ L h' m → News h₀ L h' tl → Q r { s with heap := h', toks := tk' }) :
    wpAny (model PySem.Challenge.rw_pq1391_01.row.prog w) (ktrTop dp un gd cn cs L ca ccd cl outer) (call (.ref 148) [.ref D0]) Q E s := by
  w_on
  revert X T
  k_fill
  intro X T
  refine wpAny_call ?_
  k_dflt k_enter
  k_steps
  refine stop_go ?_
  refine' LCg.CompSrc.ledger ?q1 ?q2 ?q3 hm ?q5 (fun g => ?_)
  (case q1 => rfl); (case q2 => k_asm); (case q3 => k_asm)
  (case q5 => (rw [List.size_toArray, hl, sizeLine_eq]; omega))
  refine' compRest_inv (SJ w news ys) ?turn ?fin _ 0 [] _ (Nat.zero_add _) ⟨.refl, rfl, rfl⟩
  case turn =>
    intro j zs nw hj J v I oI C oC D m₂ h tk E' hP hC hx F N off ne
    k_steps
  case fin =>
    intro zs nw J
    have hz := J.zs
    rw [List.size_toArray, List.take_length] at hz
    subst hz
    unfold LCg.FinE
    intro D2' h' tk' F' N' o2'
    (try dsimp only)
    k_steps
    refine' hret _ (_ :: _ :: _ :: nw) _ _ ?V ?F ?N
    (case N => k_asm); (case F => k_asm)
    (case V => exact .lst (.head _) (.tail _ (.head _)) (.tail _ (.tail _ (.head _))) hl h4 fun k v d a b => (J.shr.va (hV k v d a b)).mono fun a o q => .tail _ (.tail _ (.tail _ q)))

mutual
/-- what _law_build makes of a plan -/
noncomputable def bld (b : Bool) : Pl → Va
  | .leaf k p q => if k = 0 then .sym (symN p) else if k = 1 then .nul else if k = 2 then .dbl (dblN p) else .chr (chrN p) (atsN q b)
  | .node k q tags parts => if k = 4 then .call (none :: tags.map tagN) (.sym (headN q) :: bldL b parts) else if k = 5 then .lst (bldL b parts) else .exp (bldL b parts)
noncomputable def bldL (b : Bool) : List Pl → List Va
  | [] => []
  | p :: r => bld b p :: bldL b r
end
theorem bldL_map {b : Bool} : ∀ ps : List Pl, bldL b ps = ps.map (bld b)
  | [] => by simp [bldL]
  | p :: r => by simp [bldL, bldL_map r]

def BuildC (w : World) (n : Nat) : Prop :=
  ∀ (mean : ExcName → Option Value) (mg mb : Str → Option Value) (dp un : Nat) (gd : Option (List Code)) (cn : Str) (cs : Scope) (ca : Addr) (ccd : Value) (cl : List (Str × Addr)) (outer : List Env) (A₀ : Around) (base h₀ : Heap) (L : Addr) (m : Str → Option Value) (s : Shared) (Q E : Value → Shared → Prop)
    (v : Value) (pl : Pl) (b : Bool) (news : List (Addr × Obj)),
    PlR (AtH s.heap) n v pl → Below A₀ base outer h₀ → Fr h₀ L s.heap m → (hd.heap_39 w.params).In h₀ → Top hd.view_39 (looseW hd.view_39 [Str.ofString "list_of"]) mean mg mb h₀ → cs.kind = .function → dp + 12 * (n + 3) < recursionLimit → un + 240 * (n + 3) < cLine →
    News h₀ L s.heap news →
    (∀ r tl h' tk', VaR w (InL tl) n r (bld b pl) → Disj tl news → Fr h₀ L h' m → News h₀ L h' (tl ++ news) → Q r { s with heap := h', toks := tk' }) →
    wpAny (model PySem.Challenge.rw_pq1391_01.row.prog w) (ktrTop dp un gd cn cs L ca ccd cl outer) (call (.ref 207) [v, .bool b]) Q E s

theorem build_leaf {w : World} {n : Nat} {mean : ExcName → Option Value} {mg mb : Str → Option Value} {dp un : Nat} {gd : Option (List Code)} {cn : Str} {cs : Scope} {ca : Addr} {ccd : Value} {cl : List (Str × Addr)} {outer : List Env} {A₀ : Around} {base h₀ : Heap} {L : Addr} {m : Str → Option Value} {s : Shared} {Q E : Value → Shared → Prop}
    {a : Addr} {k p q : Int} {t0 t1 t2 : Tok} {e : Nat} {b : Bool} {news : List (Addr × Obj)} (h : s.heap.get? a = some (listOf #[.int k t0, .int p t1, .int q t2] e)) (k0 : 0 ≤ k) (k1 : k < 4) (p0 : 0 ≤ p) (p1 : p < 5) (q0 : 0 ≤ q) (q1 : q < 3)
    (B : Below A₀ base outer h₀) (F : Fr h₀ L s.heap m) (X : (hd.heap_39 w.params).In h₀) (T : Top hd.view_39 (looseW hd.view_39 [Str.ofString "list_of"]) mean mg mb h₀) (hk : cs.kind = .function) (hdp : dp + 24 < recursionLimit)
    (N : News h₀ L s.heap news) (hret : ∀ r tl h' tk', VaR w (InL tl) n r (bld b (.leaf k p q)) → Disj tl news → Fr h₀ L h' m → News h₀ L h' (tl ++ news) → Q r { s with heap := h', toks := tk' }) :
    wpAny (model PySem.Challenge.rw_pq1391_01.row.prog w) (ktrTop dp un gd cn cs L ca ccd cl outer) (call (.ref 207) [.ref a, .bool b]) Q E s := by
  have hk4 : k = 0 ∨ k = 1 ∨ k = 2 ∨ k = 3 := by omega
  have hq3 : q = 0 ∨ q = 1 ∨ q = 2 := by omega
  have hl := isList_of h
  rcases hk4 with rfl | rfl | rfl | rfl
  · exact build0 hl p0 p1 B F X T hk hdp N (by simpa [bld] using hret)
  · exact build1 hl B F X T hk hdp N (by simpa [bld] using hret)
  · exact build2 hl p0 p1 B F X T hk hdp N (by simpa [bld] using hret)
  · rcases hq3 with rfl | rfl | rfl
    · exact build3_0 hl p0 p1 B F X T hk hdp N (by simpa [bld] using hret)
    · exact build3_1 hl p0 p1 B F X T hk hdp N (by simpa [bld] using hret)
    · exact build3_2 hl p0 p1 B F X T hk hdp N (by simpa [bld] using hret)

structure BJ (w : World) (n : Nat) (c1 : Addr) (o1 : Obj) (b : Bool) (parts : List Pl) (j : Nat) (ys : List Value) (nw : List (Addr × Obj)) : Prop where
  ex : ∃ tl : List (Addr × Obj), nw = (c1, o1) :: tl ∧ ys.length = j ∧ ∀ (k : Nat) v p, ys[k]? = some v → parts[k]? = some p → VaR w (InL tl) n v (bld b p)

theorem build_turn {w : World} {n : Nat} (IH : BuildC w n) {mean : ExcName → Option Value} {mg mb : Str → Option Value} {dp un : Nat} {gd : Option (List Code)} {cn : Str} {cs : Scope} {ca : Addr} {ccd : Value} {cl : List (Str × Addr)} {outer : List Env} {A₀ : Around} {base h₀ : Heap} {L : Addr} {m : Str → Option Value} {s s₁ : Shared} {E : Value → Shared → Prop} {S : List (Addr × Obj) → Prop}
    {c1 I C D : Addr} {o1 oI oC : Obj} {b : Bool} {nw : List (Addr × Obj)} {j : Nat} {ys vs : List Value} {parts : List Pl} {v : Value}
    (J : BJ w n c1 o1 b parts j ys nw) (hP : vs.toArray[j]? = some v) (hl : vs.length = parts.length) (hR : ∀ (i : Nat) v d, vs[i]? = some v → parts[i]? = some d → PlR (AtH h₀) n v d) (hS : ∀ nw, S nw)
    (B : Below A₀ base outer h₀) (F : Fr h₀ L s.heap m) (X : (hd.heap_39 w.params).In h₀) (T : Top hd.view_39 (looseW hd.view_39 [Str.ofString "list_of"]) mean mg mb h₀) (hk : cs.kind = .function) (hdp : dp + 12 * (n + 3) < recursionLimit) (hun : un + 240 * (n + 3) < cLine)
    (N : News h₀ L s.heap ((I, oI) :: (C, oC) :: (D, LCg.lst ys) :: nw)) (off : LCg.Off3 I C D nw) (hs : ∀ (h : Heap) (tk : Nat), ({ s with heap := h, toks := tk } : Shared) = { s₁ with heap := h, toks := tk }) :
    wpAny (model PySem.Challenge.rw_pq1391_01.row.prog w) (ktrTop dp un gd cn cs L ca ccd cl outer) (call (.ref 207) [v, .bool b])
      (LCg.CompEnd h₀ L m s₁ I oI C oC D (LCg.lst ys) S (fun y news' => BJ w n c1 o1 b parts (j + 1) (ys ++ [y]) news')) E s := by
  have hP' : vs[j]? = some v := by simpa using hP
  have hj : j < vs.length := (List.getElem?_eq_some_iff.mp hP').1
  obtain ⟨d, hd⟩ : ∃ d, parts[j]? = some d := ⟨parts[j]'(by omega), List.getElem?_eq_getElem _⟩
  obtain ⟨tl, rfl, hy, hV⟩ := J
  have off' := off.mem
  refine IH mean mg mb dp un gd cn cs ca ccd cl outer A₀ base h₀ L m s _ E v d b ((I, oI) :: (C, oC) :: (D, LCg.lst ys) :: (c1, o1) :: tl) ((hR j v d hP' hd).mono fun a o e => F.keep a o e) B F X T hk hdp hun N fun r tl' h' tk' hr hdj F' N' => ?_
  rw [hs]
  refine LCg.CompEnd.intro F' N' ((c1, o1) :: (tl' ++ tl)) ?_ (LCg.Off3.of ?_) (hS _) ?_
  · intro p hp
    simp only [List.mem_cons, List.mem_append] at hp ⊢
    rcases hp with h | h | h | h | h | h <;> simp [h]
  · intro p hp
    simp only [List.mem_cons, List.mem_append] at hp
    rcases hp with rfl | hp | hp
    · exact off' _ (by simp)
    · exact ⟨hdj p hp (I, oI) (by simp), hdj p hp (C, oC) (by simp), hdj p hp (D, LCg.lst ys) (by simp)⟩
    · exact off' p (by simp [hp])
  · refine ⟨tl' ++ tl, rfl, by simp [hy], ?_⟩
    intro k v' p' h1 h2
    by_cases hk : k < ys.length
    · rw [List.getElem?_append_left hk] at h1
      exact (hV k v' p' h1 h2).mono fun a o q => List.mem_append_right _ q
    · have hk' : k = ys.length := by
        have := (List.getElem?_eq_some_iff.mp h1).1
        simp at this; omega
      subst hk'
      simp at h1
      subst h1
      rw [hy] at h2
      rw [hd] at h2
      cases h2
      exact hr.mono fun a o q => List.mem_append_left _ q

/-- the tags made so far -/
structure TJ (tags : List Int) (D : Addr) (ys : List Value) (rest : List (Addr × Obj)) (j : Nat) (zs : List Value) (nw : List (Addr × Obj)) : Prop where
  ex : ∃ jk : List (Addr × Obj), nw = jk ++ ((D, LCg.lst ys) :: rest) ∧ zs.length = j ∧ ∀ (k : Nat) v t, zs[k]? = some v → tags[k]? = some t → OptV v (tagN t)
theorem pick_tag {p : Int} {v : Value} {t : Tok} (h0 : 0 ≤ p) (h1 : p < 2) (h : [Value.none, Value.str "t" t][p.toNat]? = some v) : OptV v (tagN p) := by
  have : p = 0 ∨ p = 1 := by omega
  rcases this with rfl | rfl
  · cases h; exact .none
  · cases h; exact .some (by decide +kernel)
theorem ints_at {vs : List Value} {ns : List Int} (h : IntsAre vs ns) : ∀ {j : Nat} {v : Value}, vs[j]? = some v → ∃ i t, v = .int i t ∧ ns[j]? = some i := by
  induction h with
  | nil => intro j v e; simp at e
  | cons i t _ ih =>
    intro j v e
    cases j with
    | zero => simp at e; exact ⟨i, t, e.symm, rfl⟩
    | succ j => exact ih (by simpa using e)
theorem tagb_end {h₀ : Heap} {L I C D D0 l : Addr} {m : Str → Option Value} {s₁ : Shared} {oI oC : Obj} {S : List (Addr × Obj) → Prop} {tags : List Int} {ys zs : List Value} {rest nw : List (Addr × Obj)} {j : Nat} {v : Value} {i : Int} {o : Obj} {h : Heap} {tk : Nat}
    (J : TJ tags D0 ys rest j zs nw) (hi : tags[j]? = some i) (hv : OptV v (tagN i)) (hS : ∀ nw, S nw) (F : Fr h₀ L h m) (N : News h₀ L h ((l, o) :: (I, oI) :: (C, oC) :: (D, LCg.lst zs) :: nw)) (off : LCg.Off3 I C D nw)
    (f1 : @Ne Nat l I) (f2 : @Ne Nat l C) (f3 : @Ne Nat l D) :
    LCg.CompEnd h₀ L m s₁ I oI C oC D (LCg.lst zs) S (fun y news' => TJ tags D0 ys rest (j + 1) (zs ++ [y]) news') v { s₁ with heap := h, toks := tk } := by
  obtain ⟨jk, rfl, hz, hR⟩ := J
  refine LCg.CompEnd.intro F N ((l, o) :: jk ++ ((D0, LCg.lst ys) :: rest)) ?_ ⟨⟨f1, f2, f3⟩, off⟩ (hS _) ⟨(l, o) :: jk, rfl, by simp [hz], ?_⟩
  · intro p hp
    simp only [List.mem_cons, List.mem_append, List.cons_append] at hp ⊢
    rcases hp with h | h | h | h | h | h | h <;> simp [h]
  · intro k v' t' h1 h2
    by_cases hk : k < zs.length
    · rw [List.getElem?_append_left hk] at h1
      exact hR k v' t' h1 h2
    · have hk' : k = zs.length := by
        have := (List.getElem?_eq_some_iff.mp h1).1
        simp at this; omega
      subst hk'
      simp at h1
      subst h1
      rw [hz, hi] at h2
      cases h2
      exact hv
theorem bldL_len {b : Bool} {ps : List Pl} : (bldL b ps).length = ps.length := by rw [bldL_map, List.length_map]
theorem bldL_at {b : Bool} {ps : List Pl} {k : Nat} {d : Va} (h : (bldL b ps)[k]? = some d) : ∃ p, ps[k]? = some p ∧ d = bld b p := by
  rw [bldL_map, List.getElem?_map] at h
  cases e : ps[k]? with
  | none => rw [e] at h; cases h
  | some p => rw [e] at h; cases h; exact ⟨p, rfl, rfl⟩

theorem lift_va {w : World} {h₀ h : Heap} {L : Addr} {p q : Addr × Obj} {tl : List (Addr × Obj)} {n : Nat} {b : Bool} {parts : List Pl} {ys : List Value} (_N : News h₀ L h (p :: q :: tl)) (hV : ∀ (k : Nat) v p, ys[k]? = some v → parts[k]? = some p → VaR w (InL tl) n v (bld b p)) :
    ∀ (k : Nat) v d, ys[k]? = some v → (bldL b parts)[k]? = some d → VaR w (InL (p :: q :: tl)) n v d := fun k v d h1 h2 => by
  obtain ⟨p, h3, rfl⟩ := bldL_at h2
  exact (hV k v p h1 h3).mono fun a o q => .tail _ (.tail _ q)

theorem list_cat {prog : Program} {w : World} {A : Around} {E : Value → Shared → Prop} {s : Shared} {h₀ : Heap} {L a b : Addr} {m : Str → Option Value} {vs ws : List Value} {e e' : Nat} {news : List (Addr × Obj)} {Q : Value → Shared → Prop} (F : Fr h₀ L s.heap m) (N : News h₀ L s.heap news)
    (ha : (a, listOf (List.toArray vs) e) ∈ news) (hb : (b, listOf (List.toArray ws) e') ∈ news) (hsz : vs.length + ws.length ≤ 100)
    (h : ∀ l h', Fr h₀ L h' m → News h₀ L h' ((l, listOf (List.toArray (vs ++ ws)) 0) :: news) → AllLt l news → Q (.ref l) { s with heap := h' }) : wpAny (model prog w) A (binaryOp .Add (.ref a) (.ref b)) Q E s :=
  add_lists (hsz := by rw [sizeLine_eq]; omega) F N (isList_of (N _ ha).1) (isList_of (N _ hb).1) fun h' F' N' => h _ h' F' N' (allLt_of fun p hp => Heap.lt_size (N p hp).1)
theorem mem_mid {h₀ h : Heap} {L : Addr} {q p : Addr × Obj} {jk rest : List (Addr × Obj)} (_N : News h₀ L h (q :: (jk ++ p :: rest))) : p ∈ jk ++ p :: rest := List.mem_append_right _ (.head _)
theorem mem_end {h₀ h : Heap} {L : Addr} {q p p' : Addr × Obj} {jk rest : List (Addr × Obj)} (_N : News h₀ L h (q :: (jk ++ p :: p' :: rest))) : ∀ x ∈ rest, x ∈ jk ++ p :: p' :: rest := fun _ hx => List.mem_append_right _ (.tail _ (.tail _ hx))
theorem call_va {w : World} {R : Addr → Obj → Prop} {n : Nat} {a dx li lt : Addr} {t0 t1 t2 t3 t4 t5 : Tok} {at' : Value} {e e1 e2 : Nat} {x : Value} {q : Int} {b : Bool} {ys zs : List Value} {tags : List Int} {parts : List Pl} (r1 : R a (instObj 110 dx))
    (r2 : R dx (dictOf [ent w.params "kind" t1 (.str "language" t0), ent w.params "items" t2 (.ref li), ent w.params "tags" t3 (.ref lt), ent w.params "attrs" t4 at', ent w.params "code" t5 .none] e))
    (r3 : R li (listOf (List.toArray ([x] ++ ys)) e1)) (r4 : R lt (listOf (List.toArray ([Value.none] ++ zs)) e2)) (hx : VaR w R n x (.sym (headN q))) (hy : ys.length = parts.length) (hz : zs.length = tags.length) (ht : tags.length = parts.length) (h3 : parts.length ≤ 3)
    (hV : ∀ (k : Nat) v p, ys[k]? = some v → parts[k]? = some p → VaR w R n v (bld b p)) (hT : ∀ (k : Nat) v t, zs[k]? = some v → tags[k]? = some t → OptV v (tagN t)) :
    VaR w R (n + 1) (.ref a) (.call (none :: tags.map tagN) (.sym (headN q) :: bldL b parts)) := by
  refine .call r1 r2 r3 r4 (by simp [hz]) (by simp [ht]; omega) (fun i v d h1 h2 => ?_) (by simp [bldL_len, hy]) (by simp [bldL_len]; omega) fun i v d h1 h2 => ?_
  · cases i with
    | zero => simp at h1 h2; subst h1 h2; exact .none
    | succ i =>
      simp at h1 h2
      obtain ⟨t, h3, rfl⟩ := h2
      exact hT i v t h1 h3
  · cases i with
    | zero => simp at h1 h2; subst h1 h2; exact hx
    | succ i =>
      simp at h1 h2
      obtain ⟨p, h3, rfl⟩ := bldL_at h2
      exact hV i v p h1 h3
theorem pick_head {p : Int} {v : Value} {t0 t1 t2 : Tok} (h0 : 0 ≤ p) (h1 : p < 3) (h : [Value.str "f" t0, Value.str "g" t1, Value.str "h" t2][p.toNat]? = some v) : ∃ t, v = .str (headN p) t := by
  have : p = 0 ∨ p = 1 ∨ p = 2 := by omega
  rcases this with rfl | rfl | rfl
  all_goals (cases h; exact ⟨_, rfl⟩)




theorem rows_23 : True := by
  k_with_none
  (k_with "my ktr_room" => ((simp only [depth_under_make, depth_under_kw, depth_in1, depth_deeper, depth_caller, recursionLimit] at *); omega))
  (k_with "my ktr_units" => ((simp only [units_in1, units_deeper, Around.mark_units, units_caller, cLine] at *); omega))
  (k_with "my k_room" => ktr_room)
  (k_with "my ite" => (k_closed; first | (with_reducible refine ite_pos ?c ?_; (case c => decide +kernel)) | (with_reducible refine ite_neg ?c ?_; (case c => decide +kernel))))
  (k_with "my ktr_enter" => (refine' code_roC ?k1 ?k2 ?k3 ?k5 ?kA ?kF ?kK ?k6 ?k7 ?k8 ?k9 ?kB ?kD ?_ ?c2 ?c3 ?c4; (case kA => exact rfl); (case kF => exact rfl); (case kK => assumption); (case k1 => k_asm); (case k2 => k_asm); (case k3 => k_asm); (case k5 => k_asm); (case k6 => k_is); (case k7 => k_is); (case k8 => ktr_room); (case k9 => first | exact BindsTo.of_eq rfl | exact binds_K (by k_in) rfl (by k_is) rfl rfl rfl | fail "k_enter: no rule for these arguments"); (case kB => exact rfl); (case kD => decide +kernel); (case c2 => exact rfl); (case c3 => exact rfl); (case c4 => exact rfl); k_whole; intro L' h' tk' cells' F' N' Y' B' X' T'; k_cells Y'; (try simp only [List.cons_append, List.nil_append] at N'); (try dsimp only)))
  (k_with "my ktr_rel" => (intro p9 h9; simp only [List.mem_cons, List.mem_append] at h9 ⊢; simp only [h9, true_or, or_true]))
  (k_with "my k_mem" => ((repeat (refine List.mem_cons_of_mem _ ?_)); assumption))
  (k_with "my subscriptTail List" => (k_here; k_dflt (refine kba_turn (value' := PySem.Expr.Name (PySem.Str.ofString "_") ⟨0, 0, 0, 0⟩) (fun _ => rfl) ?_)))
  (k_with "my subscriptTail Name Constant ref int" => (k_here; k_dflt (refine' item_at ?N ?m ?a ?b ?x ?_; (case N => k_asm); (case m => assumption); (case a => decide); (case b => decide); (case x => rfl); k_whole)))
  (k_with "my subscriptTail Name" => (k_here; k_dflt (first | (refine' item_at ?N ?m ?a ?b ?x ?_; (case N => k_asm); (case m => assumption); (case a => decide); (case b => decide); (case x => rfl); k_whole) | (refine' item_led ?N ?m ?a ?b ?x ?_; (case N => k_asm); (case m => k_mem); (case a => decide); (case b => decide); (case x => rfl); k_whole) | (refine' item_op ?N ?m ?a ?b ?c ?_; (case N => k_asm); (case m => k_mem); (case a => assumption); (case b => (simp only [List.length_cons, List.length_nil]; omega)); (case c => exact Nat.le_of_ble_eq_true rfl); k_whole; intro v' hv'))))
  (k_with "my k_enter" => (refine' code_def ?k1 ?k2 ?k3 ?k4 ?k5 ?kA ?kF ?kK ?k6 ?k7 ?k8 ?k9 ?kB ?_ ?c2 ?c3 ?c4 ?c5; (case kA => exact rfl); (case kF => exact rfl); (case kK => first | exact rfl | assumption); (case k1 => k_asm); (case k2 => k_asm); (case k3 => k_asm); (case k4 => k_asm); (case k5 => k_asm); (case k6 => k_is); (case k7 => k_is); (case k8 => ktr_room); (case k9 => first | exact BindsTo.of_eq rfl | exact binds_K (by k_in) rfl (by k_is) rfl rfl rfl | fail "k_enter: no rule for these arguments"); (case c5 => decide); (case kB => exact locs rfl); (case c2 => exact rfl); (case c3 => exact rfl); (case c4 => exact rfl); k_whole; intro g' L' h' FG' F' N' B' X' T'; (try dsimp only); (try k_fold)))
  (k_with "my call ref" => (k_here; k_dflt (refine' mk_sym ?k1 ?k2 ?k3 ?k4 ?k5 ?k6 ?k7 ?_; (case k1 => k_asm); (case k2 => k_asm); (case k3 => k_asm); (case k4 => k_asm); (case k5 => first | exact rfl | assumption); (case k6 => ktr_room); (case k7 => k_asm)); intro x' d' t0' t1' t2' t3' e' h' tk' F' N' l1' l2'; (try simp only [AllLt, and_true] at l1'); (try k_sweep)))
  (k_with "my call ref" => (k_here; k_dflt (refine' mk_text ?k1 ?k2 ?k3 ?k4 ?k5 ?k6 ?k7 ?_; (case k1 => k_asm); (case k2 => k_asm); (case k3 => k_asm); (case k4 => k_asm); (case k5 => first | exact rfl | assumption); (case k6 => ktr_room); (case k7 => k_asm)); intro x' d' li' t0' t1' t2' t3' t4' t5' e1' h' tk' F' N' l1' l4' l2' l3'; (try simp only [AllLt, and_true] at l1'); (try simp only [AllLt, and_true] at l4'); (try k_sweep)))
  (k_with "my call ref" => (k_here; k_dflt (refine' mk_vec ?k1 ?k2 ?k3 ?k4 ?k5 ?k6 ?k7 ?_; (case k1 => k_asm); (case k2 => k_asm); (case k3 => k_asm); (case k4 => k_asm); (case k5 => first | exact rfl | assumption); (case k6 => ktr_room); (case k7 => k_asm)); intro x' d' t0' t1' t2' t3' t4' t5' h' tk' F' N' l1' l2'; (try simp only [AllLt, and_true] at l1'); (try k_sweep)))
  (k_with "my call ref" => (k_here; k_dflt (refine' mk_call ?k1 ?k2 ?k3 ?k4 ?k5 ?k6 ?k7 ?_; (case k1 => k_asm); (case k2 => k_asm); (case k3 => k_asm); (case k4 => k_asm); (case k5 => first | exact rfl | assumption); (case k6 => ktr_room); (case k7 => k_asm)); intro x' d' t0' t1' t2' t3' t4' t5' e' h' tk' F' N' l1' l2'; (try simp only [AllLt, and_true] at l1'); (try k_sweep)))
  (k_with "my call ref" => (k_here; k_dflt (refine' mk_null ?k1 ?k2 ?k3 ?k4 ?k5 ?k6 ?k7 ?_; (case k1 => k_asm); (case k2 => k_asm); (case k3 => k_asm); (case k4 => k_asm); (case k5 => first | exact rfl | assumption); (case k6 => ktr_room); (case k7 => k_asm)); intro x' d' t0' t1' t2' e' h' tk' F' N' l1' l2'; (try simp only [AllLt, and_true] at l1'); (try k_sweep)))
  (k_with "my call ref" => (k_here; k_dflt (refine' mk_char ?k1 ?k2 ?k3 ?k4 ?k5 ?k6 ?k7 ?k8 ?_; (case k1 => k_asm); (case k2 => k_asm); (case k3 => k_asm); (case k4 => k_asm); (case k5 => first | exact rfl | assumption); (case k6 => ktr_room); (case k7 => k_asm); (case k8 => k_mem)); intro x' d' li' t0' t1' t2' t3' t4' t5' e1' h' tk' F' N' l1' l4' l2' l3'; (try simp only [AllLt, and_true] at l1'); (try simp only [AllLt, and_true] at l4'); (try k_sweep)))
  (k_with "my ktn_open" => first | tbn_find | exact allLt_of (by assumption) | exact tbn_up (by assumption) (by tbn_find) | exact tbn_up (Nat.lt_succ_self _) (allLt_of (by assumption)) | exact tbn_up (by assumption) (allLt_of (by assumption)))
  (k_with "my ite" => first | (with_reducible refine ite_neg ?c ?_; (case c => (simp only [beq_iff_eq]; omega))) | (with_reducible refine ite_pos ?c ?_; (case c => (simp only [beq_iff_eq]; omega))))
  (k_with "my CompSrc" => refine stop_at ?_)
  (k_with "my CompEnd" => refine stop_at ?_)
  (k_with "my call ref" => (k_here; k_dflt (refine' build_turn (by assumption) ?J ?P ?l ?R ?S ?k1 ?k2 ?k3 ?k4 ?k5 ?k6 ?k7 ?k8 ?k9 ?k10; (case J => assumption); (case P => assumption); (case l => assumption); (case R => assumption); (case S => first | exact fun _ => trivial | exact fun _ => .inl (by assumption)); (case k1 => k_asm); (case k2 => k_asm); (case k3 => k_asm); (case k4 => k_asm); (case k5 => first | exact rfl | assumption); (case k6 => ktr_room); (case k7 => ktr_units); (case k8 => k_asm); (case k9 => assumption); (case k10 => exact fun _ _ => rfl))))
  (k_with "my call ref" => (k_here; k_dflt (refine' list_of_c ?l ?V ?m ?h4 ?k1 ?k2 ?k3 ?k4 ?k5 ?k6 ?k7 ?_; (case k7 => k_asm); (case l => assumption); (case V => assumption); (case m => exact List.Mem.head _); (case h4 => assumption); (case k1 => k_asm); (case k2 => k_asm); (case k3 => k_asm); (case k4 => k_asm); (case k5 => first | exact rfl | assumption); (case k6 => ktr_room)); intro r9' tl9' h' tk' hr9' F' N'; (try k_sweep)))
  (k_with "my binaryOp Add ref ref" => (k_here; k_dflt (refine' list_cat ?F ?N ?a ?b ?z ?_; (case F => k_asm); (case N => k_asm); (case a => k_mem); (case b => k_mem); (case z => (simp only [List.length_cons, List.length_nil]; omega)); k_whole); intro l' h' F' N' l1'; (try simp only [AllLt, and_true] at l1'); (try k_sweep)))
  exact trivial
set_option maxRecDepth 100000 in
set_option maxHeartbeats 8000000 in
theorem build_node {w : World} {n : Nat} (IH : BuildC w n) {mean : ExcName → Option Value} {mg mb : Str → Option Value} {dp un : Nat} {gd : Option (List Code)} {cn : Str} {cs : Scope} {ca : Addr} {ccd : Value} {cl : List (Str × Addr)} {outer : List Env} {A₀ : Around} {base h₀ : Heap} {L : Addr} {m : Str → Option Value} {s : Shared} {Q E : Value → Shared → Prop}
    {a pb pc : Addr} {k q : Int} {t0 t1 : Tok} {b : Bool} {news : List (Addr × Obj)} {tvs vs : List Value} {tags : List Int} {parts : List Pl}
    (hl : s.heap.IsList a (List.toArray [.int k t0, .int q t1, .ref pb, .ref pc])) (hb : s.heap.IsList pb (List.toArray tvs)) (hc : s.heap.IsList pc (List.toArray vs)) (k0 : 4 ≤ k) (k1 : k < 7) (q0 : 0 ≤ q) (q1 : q < 3)
    (ht : IntsAre tvs tags) (htl : tags.length = parts.length) (htr : ∀ t ∈ tags, 0 ≤ t ∧ t < 2) (hlen : vs.length = parts.length) (h3 : parts.length ≤ 3) (hR : ∀ (i : Nat) v d, vs[i]? = some v → parts[i]? = some d → PlR (AtH s.heap) n v d)
    (B : Below A₀ base outer h₀) (F : Fr h₀ L s.heap m) (X : (hd.heap_39 w.params).In h₀) (T : Top hd.view_39 (looseW hd.view_39 [Str.ofString "list_of"]) mean mg mb h₀) (hk : cs.kind = .function) (hdp : dp + 12 * (n + 4) < recursionLimit) (hun : un + 240 * (n + 4) < cLine)
    (N : News h₀ L s.heap news) (hret : ∀ r tl h' tk', VaR w (InL tl) (n + 1) r (bld b (.node k q tags parts)) → Disj tl news → Fr h₀ L h' m → News h₀ L h' (tl ++ news) → Q r { s with heap := h', toks := tk' }) :
    wpAny (model PySem.Challenge.rw_pq1391_01.row.prog w) (ktrTop dp un gd cn cs L ca ccd cl outer) (call (.ref 207) [.ref a, .bool b]) Q E s := by
  w_on
  revert X T
  k_fill
  intro X T
  refine wpAny_call ?_
  k_dflt ktr_enter
  show wpAny _ _ _ _ _ _
  k_fold
  repeat' (first | (k_unfold; (try dsimp only)) | walk1 | (dsimp only; walk1))
  refine stop_go ?_
  refine' LCg.CompSrc.base ?q1 ?q2 ?q3 hc ?q5 (fun g => ?_)
  (case q1 => rfl); (case q2 => k_asm); (case q3 => k_asm)
  (case q5 => (rw [List.size_toArray, hlen, sizeLine_eq]; omega))
  refine' compRest_inv (BJ w n _ _ b parts) ?turn ?fin _ 0 [] _ (Nat.zero_add _) ⟨[], rfl, rfl, fun k v p h => by simp at h⟩
  case turn =>
    intro j ys nw hj J v I oI C oC D m₂ h tk E' hP hC hx F N off ne
    have J2 := J
    obtain ⟨tl2, rfl, -⟩ := J2
    repeat' (first | (k_unfold; (try dsimp only)) | walk1 | (dsimp only; walk1))
  case fin =>
    intro ys nw J
    obtain ⟨tl2, rfl, hy2, hV2⟩ := J
    rw [List.size_toArray] at hy2
    unfold LCg.FinA
    intro D' h' tk' F' N' o1'
    (try simp only [LCg.Off1, and_true] at o1')
    (try dsimp only)
    have hLy : ys.length = (bldL b parts).length := by rw [bldL_len, hy2, hlen]
    have h4y : (bldL b parts).length ≤ 4 := by rw [bldL_len]; omega
    have hVy := lift_va N' hV2
    repeat' (first | (k_unfold; (try dsimp only)) | walk1 | (dsimp only; walk1))
    · refine stop_go ?_
      refine' LCg.CompSrc.base ?q1 ?q2 ?q3 hb ?q5 (fun g => ?_)
      (case q1 => rfl); (case q2 => k_asm); (case q3 => k_asm)
      (case q5 => (rw [List.size_toArray, ht.length, htl, sizeLine_eq]; omega))
      refine' compRest_inv (TJ tags D' ys _) ?turn ?fin _ 0 [] _ (Nat.zero_add _) ⟨[], rfl, rfl, fun k v p h => by simp at h⟩
      case turn =>
        intro j zs nw hj J v I oI C oC D m₂ h tk E' hP hC hx F N off ne
        obtain ⟨i, tv, rfl, hi⟩ := ints_at ht (by simpa using hP)
        obtain ⟨hi0, hi1⟩ := htr i (List.mem_of_getElem? hi)
        repeat' (first | (k_unfold; (try dsimp only)) | walk1 | (dsimp only; walk1))
        refine stop_go ?_
        (rename _ = some _ => hv')
        exact tagb_end J hi (pick_tag hi0 hi1 hv') (fun _ => .inl hb) (by k_asm) (by k_asm) off (by k_ne) (by k_ne) (by k_ne)
      case fin =>
        intro zs nw J
        obtain ⟨jk, rfl, hz3, hV3⟩ := J
        rw [List.size_toArray, ht.length] at hz3
        unfold LCg.FinA
        intro D2' h' tk' F' N' o2'
        have hmD := mem_mid N'
        have hmE := mem_end N'
        (try dsimp only)
        repeat' (first | (k_unfold; (try dsimp only)) | walk1 | (dsimp only; walk1))
        (rename _ = some _ => hv')
        obtain ⟨tv, rfl⟩ := pick_head q0 q1 hv'
        (rename News s.heap _ _ _ => kN)
        (rename Fr s.heap _ _ _ => kF)
        obtain ⟨qF, qN, qD⟩ := made_out F N kF kN
        have hk4 : k = 4 := by assumption
        subst hk4
        refine hret _ _ _ _ ?_ qD qF qN
        have hb4 : bld b (.node 4 q tags parts) = .call (none :: tags.map tagN) (.sym (headN q) :: bldL b parts) := by simp [bld]
        rw [hb4]
        exact call_va (by k_mem) (by k_mem) (by k_mem) (by k_mem) (.sym (by k_mem) (by k_mem)) (hy2.trans hlen) hz3 htl h3 (fun k v p h1 h2 => (hV2 k v p h1 h2).mono (fun a o q => by (repeat (refine List.mem_cons_of_mem _ ?_)); exact hmE _ q)) hV3
    · (rename News s.heap _ _ _ => kN)
      (rename Fr s.heap _ _ _ => kF)
      obtain ⟨qF, qN, qD⟩ := made_out F N kF kN
      have hk5 : k = 5 := by assumption
      subst hk5
      refine hret _ _ _ _ ?_ qD qF qN
      have hb5 : bld b (.node 5 q tags parts) = .lst (bldL b parts) := by simp [bld]
      rw [hb5]
      assumption
    · (rename News s.heap _ _ _ => kN)
      (rename Fr s.heap _ _ _ => kF)
      obtain ⟨qF, qN, qD⟩ := made_out F N kF kN
      have hk4 : ¬ k = 4 := by assumption
      have hk5 : ¬ k = 5 := by assumption
      refine hret _ _ _ _ ?_ qD qF qN
      have hb6 : bld b (.node k q tags parts) = .exp (bldL b parts) := by simp [bld, hk4, hk5]
      rw [hb6]
      exact .exp (.head _) (.tail _ (.head _)) (.tail _ (.tail _ (.head _))) hLy h4y fun k v d h1 h2 => (hVy k v d h1 h2).mono fun a o q => .tail _ (.tail _ q)

theorem build_all {w : World} : ∀ n, BuildC w n := by
  intro n
  induction n with
  | zero =>
    intro mean mg mb dp un gd cn cs ca ccd cl outer A₀ base h₀ L m s Q E v pl b news hp B F X T hk hdp hun N hret
    cases hp with
    | leaf h1 a1 a2 a3 a4 a5 a6 => exact build_leaf h1 a1 a2 a3 a4 a5 a6 B F X T hk (by omega) N hret
  | succ n IH =>
    intro mean mg mb dp un gd cn cs ca ccd cl outer A₀ base h₀ L m s Q E v pl b news hp B F X T hk hdp hun N hret
    cases hp with
    | leaf h1 a1 a2 a3 a4 a5 a6 => exact build_leaf h1 a1 a2 a3 a4 a5 a6 B F X T hk (by omega) N hret
    | node h1 h2 h3 a1 a2 a3 a4 a5 a6 a7 a8 a9 a10 =>
      exact build_node IH (isList_of h1) (isList_of h2) (isList_of h3) a1 a2 a3 a4 a5 a6 a7 a8 a9 a10 B F X T hk (by omega) (by omega) N hret

/-- what _law_other may make of a plan -/
inductive Oth : Pl → Pl → Prop where
  | nul {p q p' q'} : Oth (.leaf 1 p q) (.leaf 2 p' q')
  | val {k p q p'} : k ≠ 1 → p' ≠ p → 0 ≤ p' → p' < 5 → Oth (.leaf k p q) (.leaf k p' q)
  | ats {p q} : 0 < q → Oth (.leaf 3 p q) (.leaf 3 p (q - 1))
  | more {k s tags} {parts : List Pl} {x : Int} {y : Pl} : tags.length = parts.length → Oth (.node k s tags parts) (.node k s (tags ++ [x]) (parts ++ [y]))
  | tag {s tags tags'} {parts : List Pl} : tags.map tagN ≠ tags'.map tagN → Oth (.node 4 s tags parts) (.node 4 s tags' parts)
  | head {s s' tags} {parts : List Pl} : s' ≠ s → 0 ≤ s' → s' < 3 → Oth (.node 4 s tags parts) (.node 4 s' tags parts)
  | part {k s tags} {parts : List Pl} {i : Nat} {p p' : Pl} : parts[i]? = some p → Oth p p' → Oth (.node k s tags parts) (.node k s tags (parts.set i p'))

def RT (R : Addr → Obj → Prop) (tl : List (Addr × Obj)) : Addr → Obj → Prop := fun a o => R a o ∨ (a, o) ∈ tl

def OtherC (w : World) (n : Nat) : Prop :=
  ∀ (mean : ExcName → Option Value) (mg mb : Str → Option Value) (dp un : Nat) (gd : Option (List Code)) (cn : Str) (cs : Scope) (ca : Addr) (ccd : Value) (cl : List (Str × Addr)) (outer : List Env) (A₀ : Around) (base h₀ : Heap) (L : Addr) (m : Str → Option Value) (s : Shared) (Q E : Value → Shared → Prop)
    (R : Addr → Obj → Prop) (v : Value) (pl : Pl) (aH aS : Addr) (ns : List Int) (i : Int) (t : Tok) (e : Nat) (news : List (Addr × Obj)),
    (∀ a o, R a o → (a, o) ∈ news) → PlR R n v pl → Sm pl → Scr aH aS ns news → (∀ p ∈ news, p.1 ≠ aH) → Below A₀ base outer h₀ → Fr h₀ L s.heap m → (hd.heap_39 w.params).In h₀ → Top hd.view_39 (looseW hd.view_39 [Str.ofString "list_of"]) mean mg mb h₀ → cs.kind = .function → dp + 12 * (n + 2) < recursionLimit → un + 400 * (n + 2) < cLine →
    News h₀ L s.heap ((aH, hObj aS i t e) :: news) → 0 ≤ i → i ≤ (ns.length : Int) →
    (∀ r pl' tl i' t' e' h' tk', Oth pl pl' → PlR (RT R tl) n r pl' → Disj tl ((aH, hObj aS i t e) :: news) → 0 ≤ i' → i' ≤ (ns.length : Int) → Fr h₀ L h' m → News h₀ L h' ((aH, hObj aS i' t' e') :: (tl ++ news)) → Q r { s with heap := h', toks := tk' }) →
    wpAny (model PySem.Challenge.rw_pq1391_01.row.prog w) (ktrTop dp un gd cn cs L ca ccd cl outer) (call (.ref 214) [v, .ref aH]) Q E s

theorem fmod5 {x : Int} : Int.fmod x 5 = x % 5 := by rw [Int.fmod_eq_emod_of_nonneg]; decide
theorem fmod3 {x : Int} : Int.fmod x 3 = x % 3 := by rw [Int.fmod_eq_emod_of_nonneg]; decide

/-- the end of a way that made one list of three ints -/
theorem oth_leaf {R : Addr → Obj → Prop} {h₀ : Heap} {L D aH aS : Addr} {h' : Heap} {k p q i i' : Int} {t0 t1 t2 t t' : Tok} {e e' e2 n : Nat} {news : List (Addr × Obj)} {pl : Pl} {G : Prop}
    (N : News h₀ L h' ((D, listOf #[.int k t0, .int p t1, .int q t2] e2) :: (aH, hObj aS i' t' e') :: news)) (l1 : @LT.lt Nat _ aH D ∧ AllLt D news) (O : Oth pl (.leaf k p q))
    (b1 : 0 ≤ k ∧ k < 4) (b3 : 0 ≤ p ∧ p < 5) (b5 : 0 ≤ q ∧ q < 3)
    (hret : ∀ r pl' tl, Oth pl pl' → PlR (RT R tl) n r pl' → Disj tl ((aH, hObj aS i t e) :: news) → News h₀ L h' ((aH, hObj aS i' t' e') :: (tl ++ news)) → r = .ref D → G) : G :=
  hret (.ref D) _ [(D, listOf #[.int k t0, .int p t1, .int q t2] e2)] O (.leaf (.inr (.head _)) b1.1 b1.2 b3.1 b3.2 b5.1 b5.2) (disj_cons ⟨l1.1, l1.2⟩ disj_nil) (News.sub N (by
    intro p9 h9; simp only [List.mem_cons, List.mem_append] at h9 ⊢; rcases h9 with h9 | (h9 | h9) | h9
    · exact .inr (.inl h9)
    · exact .inl h9
    · exact nomatch h9
    · exact .inr (.inr h9))) rfl

theorem eq_lens {prog : Program} {w : World} {A : Around} {E : Value → Shared → Prop} {s : Shared} {h₀ : Heap} {L a b : Addr} {vs ws : List Value} {e e' : Nat} {news : List (Addr × Obj)} {Q : Value → Shared → Prop} (N : News h₀ L s.heap news)
    (ha : (a, listOf (List.toArray vs) e) ∈ news) (hb : (b, listOf (List.toArray ws) e') ∈ news) (hn : (vs.length != ws.length) = true) (hu : A.units < cLine) (h : Q (.bool false) s) : wpAny (model prog w) A (compareOp .Eq (.ref a) (.ref b)) Q E s :=
  PySem.SeqAt.eq_list_lengthsAt (isList_of (N _ ha).1) (isList_of (N _ hb).1) (by simpa using hn) hu h
theorem eq_nils {prog : Program} {w : World} {A : Around} {E : Value → Shared → Prop} {s : Shared} {h₀ : Heap} {L a b : Addr} {e e' : Nat} {news : List (Addr × Obj)} {Q : Value → Shared → Prop} (N : News h₀ L s.heap news)
    (ha : (a, listOf #[] e) ∈ news) (hb : (b, listOf #[] e') ∈ news) (hu : A.units < cLine) (h : Q (.bool true) s) : wpAny (model prog w) A (compareOp .Eq (.ref a) (.ref b)) Q E s :=
  PySem.SeqAt.eq_listAt (e := fun _ => true) (isList_of (N _ ha).1) (isList_of (N _ hb).1) rfl hu (fun j h1 => absurd h1 (by simp)) (by simpa using h)

/-- a change of a part by the contract, in a frame that holds two lists of its own -/
theorem other_use {w : World} {n : Nat} (IH : OtherC w n) {mean : ExcName → Option Value} {mg mb : Str → Option Value} {dp un : Nat} {gd : Option (List Code)} {cn : Str} {cs : Scope} {ca : Addr} {ccd : Value} {cl : List (Str × Addr)} {outer : List Env} {A₀ : Around} {base h₀ : Heap} {L : Addr} {m : Str → Option Value} {s : Shared} {Q E : Value → Shared → Prop}
    {R : Addr → Obj → Prop} {v : Value} {pl : Pl} {aH aS : Addr} {ns : List Int} {i : Int} {t : Tok} {e : Nat} {news : List (Addr × Obj)} {x : Addr × Obj} {P : Addr} {oP : Obj}
    (hR : ∀ a o, R a o → (a, o) ∈ news) (hP : PlR R n v pl) (hs : Sm pl) (S : Scr aH aS ns news) (hoff : ∀ p ∈ news, p.1 ≠ aH) (hx : @Ne Nat x.1 aH) (hPa : @Ne Nat P aH) (hPn : AllLt P news)
    (B : Below A₀ base outer h₀) (F : Fr h₀ L s.heap m) (X : (hd.heap_39 w.params).In h₀) (T : Top hd.view_39 (looseW hd.view_39 [Str.ofString "list_of"]) mean mg mb h₀) (hk : cs.kind = .function) (hdp : dp + 12 * (n + 2) < recursionLimit) (hun : un + 400 * (n + 2) < cLine)
    (N : News h₀ L s.heap (x :: (P, oP) :: (aH, hObj aS i t e) :: news)) (i0 : 0 ≤ i) (i1 : i ≤ (ns.length : Int))
    (hret : ∀ r pl' tl i' t' e' h' tk', Oth pl pl' → PlR (RT R tl) n r pl' → Disj tl (x :: (P, oP) :: (aH, hObj aS i t e) :: news) → (∀ p ∈ tl ++ news, p.1 ≠ P) → (∀ p ∈ tl ++ news, p.1 ≠ aH) → 0 ≤ i' → i' ≤ (ns.length : Int) → Fr h₀ L h' m → News h₀ L h' (x :: (P, oP) :: (aH, hObj aS i' t' e') :: (tl ++ news)) → Q r { s with heap := h', toks := tk' }) :
    wpAny (model PySem.Challenge.rw_pq1391_01.row.prog w) (ktrTop dp un gd cn cs L ca ccd cl outer) (call (.ref 214) [v, .ref aH]) Q E s := by
  refine IH mean mg mb dp un gd cn cs ca ccd cl outer A₀ base h₀ L m s Q E R v pl aH aS ns i t e (x :: (P, oP) :: news) (fun a o h => .tail _ (.tail _ (hR a o h))) hP hs (S.mono fun p hp => .tail _ (.tail _ hp)) ?_ B F X T hk hdp hun (News.sub N ?_) i0 i1 fun r pl' tl i' t' e' h' tk' o1 o2 o3 o4 o5 F' N' => ?_
  · intro p hp
    simp only [List.mem_cons] at hp
    rcases hp with rfl | rfl | hp
    · exact hx
    · exact hPa
    · exact hoff p hp
  · intro p hp
    simp only [List.mem_cons] at hp ⊢
    rcases hp with h | h | h | h <;> simp [h]
  · refine hret r pl' tl i' t' e' h' tk' o1 o2 (o3.sub fun p hp => ?_) (fun p hp => ?_) (fun p hp => ?_) o4 o5 F' (News.sub N' fun p hp => ?_)
    · simp only [List.mem_cons] at hp ⊢
      rcases hp with h | h | h | h <;> simp [h]
    · rcases List.mem_append.mp hp with hp | hp
      · exact o3 p hp (P, oP) (by simp)
      · exact Nat.ne_of_lt (ktn_ltOf hPn p hp)
    · rcases List.mem_append.mp hp with hp | hp
      · exact o3 p hp (aH, hObj aS i t e) (by simp)
      · exact hoff p hp
    · simp only [List.mem_cons, List.mem_append] at hp ⊢
      rcases hp with h | h | h | h | h <;> simp [h]


theorem rows_24 : True := by
  k_with_none
  (k_with "my ktr_room" => ((simp only [depth_under_make, depth_under_kw, depth_in1, depth_deeper, depth_caller, recursionLimit] at *); omega))
  (k_with "my ktr_units" => ((simp only [units_in1, units_deeper, Around.mark_units, units_caller, cLine] at *); omega))
  (k_with "my k_room" => ktr_room)
  (k_with "my ite" => (k_closed; first | (with_reducible refine ite_pos ?c ?_; (case c => decide +kernel)) | (with_reducible refine ite_neg ?c ?_; (case c => decide +kernel))))
  (k_with "my ktr_rel" => (intro p9 h9; simp only [List.mem_cons, List.mem_append] at h9 ⊢; simp only [h9, true_or, or_true]))
  (k_with "my k_mem" => ((repeat (refine List.mem_cons_of_mem _ ?_)); assumption))
  (k_with "my subscriptTail List" => (k_here; k_dflt (refine kba_turn (value' := PySem.Expr.Name (PySem.Str.ofString "_") ⟨0, 0, 0, 0⟩) (fun _ => rfl) ?_)))
  (k_with "my subscriptTail Name" => (k_here; k_dflt (first | (refine' item_led ?N ?m ?a ?b ?x ?_; (case N => k_asm); (case m => k_mem); (case a => decide); (case b => decide); (case x => rfl); k_whole) | (refine' item_op ?N ?m ?a ?b ?c ?_; (case N => k_asm); (case m => k_mem); (case a => assumption); (case b => (simp only [List.length_cons, List.length_nil]; omega)); (case c => exact Nat.le_of_ble_eq_true rfl); k_whole; intro v' hv'))))
  (k_with "my k_enter" => (refine' code_def ?k1 ?k2 ?k3 ?k4 ?k5 ?kA ?kF ?kK ?k6 ?k7 ?k8 ?k9 ?kB ?_ ?c2 ?c3 ?c4 ?c5; (case kA => exact rfl); (case kF => exact rfl); (case kK => first | exact rfl | assumption); (case k1 => k_asm); (case k2 => k_asm); (case k3 => k_asm); (case k4 => k_asm); (case k5 => k_asm); (case k6 => k_is); (case k7 => k_is); (case k8 => ktr_room); (case k9 => first | exact BindsTo.of_eq rfl | exact binds_K (by k_in) rfl (by k_is) rfl rfl rfl | fail "k_enter: no rule for these arguments"); (case c5 => decide); (case kB => exact locs rfl); (case c2 => exact rfl); (case c3 => exact rfl); (case c4 => exact rfl); k_whole; intro g' L' h' FG' F' N' B' X' T'; (try dsimp only); (try k_fold)))
  (k_with "my k_all" => assumption)
  (k_with "my call ref" => (k_here; k_dflt (refine' scoop_led ?S ?k1 ?k2 ?k3 ?k5 ?k6 ?k7 ?k8 ?k4 ?U ?hs ?i0 ?i1 ?kk ?_; (case S => assumption); (case k1 => k_asm); (case k2 => k_asm); (case k3 => k_asm); (case k5 => k_asm); (case k6 => first | exact rfl | assumption); (case k7 => ktr_room); (case k8 => ktr_units); (case k4 => k_asm); (case U => k_updF); (case hs => ktr_rel); (case i0 => assumption); (case i1 => assumption); (case kk => first | decide | omega)); intro r' tr' i' t' e' h2' tk2' r0' r1' i0' i1' F2' N2'; (try dsimp only at N2'); (try k_sweep)))
  (k_with "my ite" => first | (with_reducible refine ite_neg ?c ?_; (case c => (simp only [beq_iff_eq]; omega))) | (with_reducible refine ite_pos ?c ?_; (case c => (simp only [beq_iff_eq]; omega))))
  exact trivial
set_option maxRecDepth 100000 in
set_option maxHeartbeats 4000000 in
theorem other_leaf {w : World} {n : Nat} {mean : ExcName → Option Value} {mg mb : Str → Option Value} {dp un : Nat} {gd : Option (List Code)} {cn : Str} {cs : Scope} {ca : Addr} {ccd : Value} {cl : List (Str × Addr)} {outer : List Env} {A₀ : Around} {base h₀ : Heap} {L : Addr} {m : Str → Option Value} {s : Shared} {Q E : Value → Shared → Prop}
    {R : Addr → Obj → Prop} {a aH aS : Addr} {k p q : Int} {t0 t1 t2 : Tok} {e0 : Nat} {ns : List Int} {i : Int} {t : Tok} {e : Nat} {news : List (Addr × Obj)}
    (hm : (a, listOf #[.int k t0, .int p t1, .int q t2] e0) ∈ news) (k0 : 0 ≤ k) (k1 : k < 4) (p0 : 0 ≤ p) (p1 : p < 5) (q0 : 0 ≤ q) (q1 : q < 3) (S : Scr aH aS ns news) (hoff : ∀ p ∈ news, p.1 ≠ aH)
    (B : Below A₀ base outer h₀) (F : Fr h₀ L s.heap m) (X : (hd.heap_39 w.params).In h₀) (T : Top hd.view_39 (looseW hd.view_39 [Str.ofString "list_of"]) mean mg mb h₀) (hk : cs.kind = .function) (hdp : dp + 12 < recursionLimit) (hun : un + 300 < cLine)
    (N : News h₀ L s.heap ((aH, hObj aS i t e) :: news)) (i0 : 0 ≤ i) (i1 : i ≤ (ns.length : Int))
    (hret : ∀ r pl' tl i' t' e' h' tk', Oth (.leaf k p q) pl' → PlR (RT R tl) n r pl' → Disj tl ((aH, hObj aS i t e) :: news) → 0 ≤ i' → i' ≤ (ns.length : Int) → Fr h₀ L h' m → News h₀ L h' ((aH, hObj aS i' t' e') :: (tl ++ news)) → Q r { s with heap := h', toks := tk' }) :
    wpAny (model PySem.Challenge.rw_pq1391_01.row.prog w) (ktrTop dp un gd cn cs L ca ccd cl outer) (call (.ref 214) [.ref a, .ref aH]) Q E s := by
  w_on
  revert X T
  k_fill
  intro X T
  refine wpAny_call ?_
  k_dflt k_enter
  have hl1 := allLt_of (fun p hp => Heap.lt_size (N p hp).1)
  repeat' (first | (k_unfold; (try dsimp only)) | walk1 | (dsimp only; walk1))
  · have hk1 : k = 1 := by assumption
    subst hk1
    refine oth_leaf (R := R) (pl := .leaf 1 p q) (n := n) (i := i) (t := t) (e := e) (by k_asm : News h₀ L _ _) (by assumption) .nul ?b1 ?b2 ?b3 fun r pl' tl o1 o2 o3 o4 o5 => ?_
    (case b1 => omega); (case b2 => omega); (case b3 => omega)
    subst o5
    exact hret _ pl' tl _ _ _ _ _ o1 o2 o3 (by assumption) (by assumption) (by k_asm) o4
  · have hk3 : k = 3 := by assumption
    subst hk3
    refine oth_leaf (R := R) (pl := .leaf 3 p q) (n := n) (i := i) (t := t) (e := e) (by k_asm : News h₀ L _ _) (by assumption) (.ats (by assumption)) ?b1 ?b2 ?b3 fun r pl' tl o1 o2 o3 o4 o5 => ?_
    (case b1 => omega); (case b2 => omega); (case b3 => omega)
    subst o5
    exact hret _ pl' tl _ _ _ _ _ o1 o2 o3 (by assumption) (by assumption) (by k_asm) o4
  ·
    refine oth_leaf (R := R) (pl := .leaf k p q) (n := n) (i := i) (t := t) (e := e) (by k_asm : News h₀ L _ _) (by assumption) (.val (by assumption) (by rw [fmod5]; omega) (by rw [fmod5]; omega) (by rw [fmod5]; omega)) ?b1 ?b2 ?b3 fun r pl' tl o1 o2 o3 o4 o5 => ?_
    (case b1 => omega); (case b2 => (rw [fmod5]; omega)); (case b3 => omega)
    subst o5
    exact hret _ pl' tl _ _ _ _ _ o1 o2 o3 (by assumption) (by assumption) (by k_asm) o4
  ·
    refine oth_leaf (R := R) (pl := .leaf k p q) (n := n) (i := i) (t := t) (e := e) (by k_asm : News h₀ L _ _) (by assumption) (.val (by assumption) (by rw [fmod5]; omega) (by rw [fmod5]; omega) (by rw [fmod5]; omega)) ?b1 ?b2 ?b3 fun r pl' tl o1 o2 o3 o4 o5 => ?_
    (case b1 => omega); (case b2 => (rw [fmod5]; omega)); (case b3 => omega)
    subst o5
    exact hret _ pl' tl _ _ _ _ _ o1 o2 o3 (by assumption) (by assumption) (by k_asm) o4
  ·
    refine oth_leaf (R := R) (pl := .leaf k p q) (n := n) (i := i) (t := t) (e := e) (by k_asm : News h₀ L _ _) (by assumption) (.val (by assumption) (by rw [fmod5]; omega) (by rw [fmod5]; omega) (by rw [fmod5]; omega)) ?b1 ?b2 ?b3 fun r pl' tl o1 o2 o3 o4 o5 => ?_
    (case b1 => omega); (case b2 => (rw [fmod5]; omega)); (case b3 => omega)
    subst o5
    exact hret _ pl' tl _ _ _ _ _ o1 o2 o3 (by assumption) (by assumption) (by k_asm) o4
theorem zero_of {r : Int} (h0 : 0 ≤ r) (h1 : r < 1) : r = 0 := by omega
theorem two_of {r : Int} (h0 : 0 ≤ r) (h1 : r < 2) : r = 0 ∨ r = 1 := by omega

theorem allLt_app {d : Addr} : ∀ {l l' : List (Addr × Obj)}, AllLt d (l ++ l') → AllLt d l'
  | [], _, h => h
  | _ :: r, _, h => allLt_app (l := r) h.2
theorem d9_of {tl9 news : List (Addr × Obj)} {x y : Addr × Obj} {aH : Addr} {o : Obj} (h : Disj tl9 (x :: y :: (aH, o) :: news)) : ∀ p ∈ tl9, p.1 ≠ aH ∧ ∀ q ∈ news, p.1 ≠ q.1 :=
  fun p hp => ⟨h p hp (aH, o) (by simp), fun q hq => h p hp q (by simp [hq])⟩
theorem d9_nil {news : List (Addr × Obj)} {aH : Addr} : ∀ p ∈ ([] : List (Addr × Obj)), p.1 ≠ aH ∧ ∀ q ∈ news, p.1 ≠ q.1 := fun _ h => nomatch h
theorem oth_fin {R : Addr → Obj → Prop} {h₀ h' : Heap} {L l aH aS : Addr} {i i' : Int} {t t' : Tok} {e e' n : Nat} {E tl9 news : List (Addr × Obj)} {pl pl' : Pl} {G : Prop}
    (N : News h₀ L h' (E ++ (aH, hObj aS i' t' e') :: (tl9 ++ news))) (hd9 : ∀ p ∈ tl9, p.1 ≠ aH ∧ ∀ q ∈ news, p.1 ≠ q.1) (hE : ∀ p ∈ E, @LT.lt Nat _ aH p.1 ∧ AllLt p.1 news) (O : Oth pl pl') (P : PlR (RT R (E ++ tl9)) (n + 1) (.ref l) pl')
    (hret : ∀ r pl' tl, Oth pl pl' → PlR (RT R tl) (n + 1) r pl' → Disj tl ((aH, hObj aS i t e) :: news) → News h₀ L h' ((aH, hObj aS i' t' e') :: (tl ++ news)) → r = .ref l → G) : G := by
  refine hret _ _ _ O P ?_ (News.sub N ?_) rfl
  · intro p hp q hq
    rcases List.mem_append.mp hp with hp | hp
    · have z := hE p hp
      rcases List.mem_cons.mp hq with rfl | hq
      · exact Ne.symm (Nat.ne_of_lt z.1)
      · exact Ne.symm (Nat.ne_of_lt (ktn_ltOf z.2 q hq))
    · have z := hd9 p hp
      rcases List.mem_cons.mp hq with rfl | hq
      · exact z.1
      · exact z.2 q hq
  · intro p hp
    simp only [List.mem_cons, List.mem_append] at hp ⊢
    rcases hp with h | (h | h) | h <;> simp [h]
theorem prel0 {R : Addr → Obj → Prop} {n : Nat} : ∀ (i : Nat) v d, ([] : List Value)[i]? = some v → ([] : List Pl)[i]? = some d → PlR R n v d := fun i v d h => by simp at h
theorem prel_cons {R : Addr → Obj → Prop} {n : Nat} {x : Value} {p : Pl} {xs : List Value} {ps : List Pl} (h : PlR R n x p) (k : ∀ (i : Nat) v d, xs[i]? = some v → ps[i]? = some d → PlR R n v d) : ∀ (i : Nat) v d, (x :: xs)[i]? = some v → (p :: ps)[i]? = some d → PlR R n v d := fun i v d h1 h2 => by
  cases i with
  | zero => simp at h1 h2; subst h1 h2; exact h
  | succ i => exact k i v d (by simpa using h1) (by simpa using h2)
theorem rt_in {R : Addr → Obj → Prop} {n : Nat} {v : Value} {p : Pl} {tl : List (Addr × Obj)} (h : PlR R n v p) : PlR (RT R tl) n v p := h.mono fun _ _ x => .inl x
theorem rt_sub {R : Addr → Obj → Prop} {n : Nat} {v : Value} {p : Pl} {tl tl' : List (Addr × Obj)} (h : PlR (RT R tl) n v p) (s : ∀ x ∈ tl, x ∈ tl') : PlR (RT R tl') n v p := h.mono fun _ _ x => x.elim .inl fun y => .inr (s _ y)
theorem tag_flip {g : Int} (h : 0 ≤ g ∧ g < 2) : tagN g ≠ tagN (1 - g) := by
  have : g = 0 ∨ g = 1 := by omega
  rcases this with rfl | rfl <;> simp [tagN]
theorem gs_nil : ∀ t ∈ ([] : List Int), 0 ≤ t ∧ t < 2 := fun _ h => nomatch h
theorem gs_cons {g : Int} {gs : List Int} (h : 0 ≤ g ∧ g < 2) (k : ∀ t ∈ gs, 0 ≤ t ∧ t < 2) : ∀ t ∈ g :: gs, 0 ≤ t ∧ t < 2 := fun t ht => by
  rcases List.mem_cons.mp ht with rfl | ht
  · exact h
  · exact k t ht
theorem flip_in {g : Int} (h : 0 ≤ g ∧ g < 2) : 0 ≤ 1 - g ∧ 1 - g < 2 := by omega
theorem head_oth {q : Int} {tags : List Int} {parts : List Pl} (h0 : 0 ≤ q) (h1 : q < 3) : Oth (.node 4 q tags parts) (.node 4 (Int.fmod (q + 1) 3) tags parts) :=
  .head (by rw [fmod3]; omega) (by rw [fmod3]; omega) (by rw [fmod3]; omega)


theorem rows_25 : True := by
  k_with_none
  (k_with "my ktr_room" => ((simp only [depth_under_make, depth_under_kw, depth_in1, depth_deeper, depth_caller, recursionLimit] at *); omega))
  (k_with "my ktr_units" => ((simp only [units_in1, units_deeper, Around.mark_units, units_caller, cLine] at *); omega))
  (k_with "my k_room" => ktr_room)
  (k_with "my ite" => (k_closed; first | (with_reducible refine ite_pos ?c ?_; (case c => decide +kernel)) | (with_reducible refine ite_neg ?c ?_; (case c => decide +kernel))))
  (k_with "my ktr_rel" => (intro p9 h9; simp only [List.mem_cons, List.mem_append] at h9 ⊢; simp only [h9, true_or, or_true]))
  (k_with "my k_mem" => ((repeat (refine List.mem_cons_of_mem _ ?_)); first | assumption | (refine List.mem_append_right _ ?_; assumption)))
  (k_with "my subscriptTail List" => (k_here; k_dflt (refine kba_turn (value' := PySem.Expr.Name (PySem.Str.ofString "_") ⟨0, 0, 0, 0⟩) (fun _ => rfl) ?_)))
  (k_with "my subscriptTail Name Constant ref int" => (k_here; k_dflt (refine' item_led ?N ?m ?a ?b ?x ?_; (case N => k_asm); (case m => k_mem); (case a => decide); (case b => decide); (case x => rfl); k_whole)))
  (k_with "my subscriptTail Name Name ref int" => (k_here; k_dflt (refine' item_led ?N ?m ?a ?b ?x ?_; (case N => k_asm); (case m => k_mem); (case a => decide); (case b => decide); (case x => rfl); k_whole)))
  (k_with "my subscriptTail Name" => (k_here; k_dflt (first | (refine' item_led ?N ?m ?a ?b ?x ?_; (case N => k_asm); (case m => k_mem); (case a => decide); (case b => decide); (case x => rfl); k_whole) | (refine' item_op ?N ?m ?a ?b ?c ?_; (case N => k_asm); (case m => k_mem); (case a => assumption); (case b => (simp only [List.length_cons, List.length_nil]; omega)); (case c => exact Nat.le_of_ble_eq_true rfl); k_whole; intro v' hv'))))
  (k_with "my k_enter" => (refine' code_def ?k1 ?k2 ?k3 ?k4 ?k5 ?kA ?kF ?kK ?k6 ?k7 ?k8 ?k9 ?kB ?_ ?c2 ?c3 ?c4 ?c5; (case kA => exact rfl); (case kF => exact rfl); (case kK => first | exact rfl | assumption); (case k1 => k_asm); (case k2 => k_asm); (case k3 => k_asm); (case k4 => k_asm); (case k5 => k_asm); (case k6 => k_is); (case k7 => k_is); (case k8 => ktr_room); (case k9 => first | exact BindsTo.of_eq rfl | exact binds_K (by k_in) rfl (by k_is) rfl rfl rfl | fail "k_enter: no rule for these arguments"); (case c5 => decide); (case kB => exact locs rfl); (case c2 => exact rfl); (case c3 => exact rfl); (case c4 => exact rfl); k_whole; intro g' L' h' FG' F' N' B' X' T'; (try dsimp only); (try k_fold)))
  (k_with "my k_all" => assumption)
  (k_with "my call ref" => (k_here; k_dflt (refine' scoop_led ?S ?k1 ?k2 ?k3 ?k5 ?k6 ?k7 ?k8 ?k4 ?U ?hs ?i0 ?i1 ?kk ?_; (case S => assumption); (case k1 => k_asm); (case k2 => k_asm); (case k3 => k_asm); (case k5 => k_asm); (case k6 => first | exact rfl | assumption); (case k7 => ktr_room); (case k8 => ktr_units); (case k4 => k_asm); (case U => k_updF); (case hs => ktr_rel); (case i0 => assumption); (case i1 => assumption); (case kk => first | decide | omega)); intro r' tr' i' t' e' h2' tk2' r0' r1' i0' i1' F2' N2'; (try dsimp only at N2'); (try k_sweep); first | ((k_dflt (have hz9' := zero_of r0' r1')); subst hz9') | ((k_dflt (have hz9' := two_of r0' r1')); rcases hz9' with hz9' | hz9' <;> subst hz9') | skip))
  (k_with "my ite" => first | (with_reducible refine ite_neg ?c ?_; (case c => (simp only [beq_iff_eq]; omega))) | (with_reducible refine ite_pos ?c ?_; (case c => (simp only [beq_iff_eq]; omega))))
  (k_with "my compareOp Eq ref ref" => (k_here; k_dflt (first | (refine' eq_nils ?N ?a ?b ?u ?_; (case N => k_asm); (case a => k_mem); (case b => k_mem); (case u => ktr_units); k_whole) | (refine' eq_lens ?N ?a ?b ?z ?u ?_; (case N => k_asm); (case a => k_mem); (case b => k_mem); (case z => rfl); (case u => ktr_units); k_whole))))
  (k_with "my binaryOp Add ref ref" => (k_here; k_dflt (refine' list_cat ?F ?N ?a ?b ?z ?_; (case F => k_asm); (case N => k_asm); (case a => k_mem); (case b => k_mem); (case z => exact Nat.le_of_ble_eq_true rfl); k_whole); intro l' h' F' N' l1'; (try simp only [AllLt, and_true] at l1'); (try k_sweep)))
  (k_with "my call ref" => (k_here; k_dflt (refine' other_use (by assumption) ?R ?P ?s ?S ?off ?x ?Pa ?Pn ?k1 ?k2 ?k3 ?k4 ?k5 ?k6 ?k7 ?k8 ?i0 ?i1 ?_; (case k8 => k_asm); (case R => assumption); (case P => assumption); (case s => assumption); (case S => assumption); (case off => assumption); (case x => k_ne); (case Pa => k_ne); (case Pn => tbn_find); (case k1 => k_asm); (case k2 => k_asm); (case k3 => k_asm); (case k4 => k_asm); (case k5 => first | exact rfl | assumption); (case k6 => ktr_room); (case k7 => ktr_units); (case i0 => assumption); (case i1 => assumption)); intro r9' pl9' tl9' i' t' e' h' tk' o1' o2' o3' o6' o7' i0' i1' F' N'; (try k_sweep)))
  exact trivial
set_option maxRecDepth 100000 in
set_option maxHeartbeats 4000000 in
theorem other_node0 {w : World} {n : Nat} (IH : OtherC w n) {mean : ExcName → Option Value} {mg mb : Str → Option Value} {dp un : Nat} {gd : Option (List Code)} {cn : Str} {cs : Scope} {ca : Addr} {ccd : Value} {cl : List (Str × Addr)} {outer : List Env} {A₀ : Around} {base h₀ : Heap} {L : Addr} {m : Str → Option Value} {s : Shared} {Q E : Value → Shared → Prop}
    {R : Addr → Obj → Prop} {a pb pc aH aS : Addr} {k q : Int} {t0 t1 : Tok} {e0 e1 e2 : Nat} {ns : List Int} {i : Int} {t : Tok} {e : Nat} {news : List (Addr × Obj)}
    (hR : ∀ a o, R a o → (a, o) ∈ news) (ra : R a (listOf #[.int k t0, .int q t1, .ref pb, .ref pc] e0)) (rb : R pb (listOf #[] e1)) (rc : R pc (listOf #[] e2)) (k0 : 4 ≤ k) (k1 : k < 7) (q0 : 0 ≤ q) (q1 : q < 3) 
    (S : Scr aH aS ns news) (hoff : ∀ p ∈ news, p.1 ≠ aH)
    (B : Below A₀ base outer h₀) (F : Fr h₀ L s.heap m) (X : (hd.heap_39 w.params).In h₀) (T : Top hd.view_39 (looseW hd.view_39 [Str.ofString "list_of"]) mean mg mb h₀) (hk : cs.kind = .function) (hdp : dp + 12 * (n + 3) < recursionLimit) (hun : un + 400 * (n + 3) < cLine)
    (N : News h₀ L s.heap ((aH, hObj aS i t e) :: news)) (i0 : 0 ≤ i) (i1 : i ≤ (ns.length : Int))
    (hret : ∀ r pl' tl i' t' e' h' tk', Oth (.node k q [] []) pl' → PlR (RT R tl) (n + 1) r pl' → Disj tl ((aH, hObj aS i t e) :: news) → 0 ≤ i' → i' ≤ (ns.length : Int) → Fr h₀ L h' m → News h₀ L h' ((aH, hObj aS i' t' e') :: (tl ++ news)) → Q r { s with heap := h', toks := tk' }) :
    wpAny (model PySem.Challenge.rw_pq1391_01.row.prog w) (ktrTop dp un gd cn cs L ca ccd cl outer) (call (.ref 214) [.ref a, .ref aH]) Q E s := by
  have hm := hR _ _ ra
  have hb := hR _ _ rb
  have hc := hR _ _ rc
  have hl1 := allLt_of (fun p hp => Heap.lt_size (N p hp).1)
  w_on
  revert X T
  k_fill
  intro X T
  refine wpAny_call ?_
  k_dflt k_enter
  repeat' (first | (k_unfold; (try dsimp only)) | walk1 | (dsimp only; walk1))
  ·
    refine' oth_fin (R := R) (pl := .node k q [] []) (n := n) (i := i) (t := t) (e := e) (E := [_, _, _, _, _, _, _]) (tl9 := []) (show News h₀ L _ _ by k_asm) d9_nil ?b1 (.more rfl) (.node (.inr (by k_mem)) (.inr (by k_mem)) (.inr (by k_mem)) (by omega) (by omega) (by omega) (by omega) (.cons _ _ .nil) rfl (gs_cons (by omega) gs_nil) rfl (Nat.le_of_ble_eq_true rfl) (prel_cons (.leaf (.inr (by k_mem)) (by omega) (by omega) (by omega) (by omega) (by omega) (by omega)) prel0)) (fun r pl' tl o1 o2 o3 o4 o5 => ?_)
    (case b1 => (repeat' (first | exact List.forall_mem_nil _ | refine List.forall_mem_cons.mpr ⟨⟨?_, ?_⟩, ?_⟩)) <;> (first | tbn_find | exact allLt_app (by tbn_find) | ((try dsimp only); omega)))
    subst o5
    exact hret _ pl' tl _ _ _ _ _ o1 o2 o3 (by assumption) (by assumption) (by k_asm) o4
  ·
    refine' oth_fin (R := R) (pl := .node k q [] []) (n := n) (i := i) (t := t) (e := e) (E := [_, _, _, _, _, _, _, _]) (tl9 := []) (show News h₀ L _ _ by k_asm) d9_nil ?b1 (.more rfl) (.node (.inr (by k_mem)) (.inr (by k_mem)) (.inr (by k_mem)) (by omega) (by omega) (by omega) (by omega) (.cons _ _ .nil) rfl (gs_cons (by omega) gs_nil) rfl (Nat.le_of_ble_eq_true rfl) (prel_cons (.leaf (.inr (by k_mem)) (by omega) (by omega) (by omega) (by omega) (by omega) (by omega)) prel0)) (fun r pl' tl o1 o2 o3 o4 o5 => ?_)
    (case b1 => (repeat' (first | exact List.forall_mem_nil _ | refine List.forall_mem_cons.mpr ⟨⟨?_, ?_⟩, ?_⟩)) <;> (first | tbn_find | exact allLt_app (by tbn_find) | ((try dsimp only); omega)))
    subst o5
    exact hret _ pl' tl _ _ _ _ _ o1 o2 o3 (by assumption) (by assumption) (by k_asm) o4

set_option maxRecDepth 100000 in
set_option maxHeartbeats 4000000 in
theorem other_node1 {w : World} {n : Nat} (IH : OtherC w n) {mean : ExcName → Option Value} {mg mb : Str → Option Value} {dp un : Nat} {gd : Option (List Code)} {cn : Str} {cs : Scope} {ca : Addr} {ccd : Value} {cl : List (Str × Addr)} {outer : List Env} {A₀ : Around} {base h₀ : Heap} {L : Addr} {m : Str → Option Value} {s : Shared} {Q E : Value → Shared → Prop}
    {R : Addr → Obj → Prop} {a pb pc aH aS : Addr} {k q : Int} {t0 t1 : Tok} {e0 e1 e2 : Nat} {v0 : Value} {g0 : Int} {u0 : Tok} {p0 : Pl} {ns : List Int} {i : Int} {t : Tok} {e : Nat} {news : List (Addr × Obj)}
    (hR : ∀ a o, R a o → (a, o) ∈ news) (ra : R a (listOf #[.int k t0, .int q t1, .ref pb, .ref pc] e0)) (rb : R pb (listOf #[.int g0 u0] e1)) (rc : R pc (listOf #[v0] e2)) (k0 : 4 ≤ k) (k1 : k < 7) (q0 : 0 ≤ q) (q1 : q < 3) (hg0 : 0 ≤ g0 ∧ g0 < 2) (hp0 : PlR R n v0 p0) (sm0 : Sm p0)
    (S : Scr aH aS ns news) (hoff : ∀ p ∈ news, p.1 ≠ aH)
    (B : Below A₀ base outer h₀) (F : Fr h₀ L s.heap m) (X : (hd.heap_39 w.params).In h₀) (T : Top hd.view_39 (looseW hd.view_39 [Str.ofString "list_of"]) mean mg mb h₀) (hk : cs.kind = .function) (hdp : dp + 12 * (n + 3) < recursionLimit) (hun : un + 400 * (n + 3) < cLine)
    (N : News h₀ L s.heap ((aH, hObj aS i t e) :: news)) (i0 : 0 ≤ i) (i1 : i ≤ (ns.length : Int))
    (hret : ∀ r pl' tl i' t' e' h' tk', Oth (.node k q [g0] [p0]) pl' → PlR (RT R tl) (n + 1) r pl' → Disj tl ((aH, hObj aS i t e) :: news) → 0 ≤ i' → i' ≤ (ns.length : Int) → Fr h₀ L h' m → News h₀ L h' ((aH, hObj aS i' t' e') :: (tl ++ news)) → Q r { s with heap := h', toks := tk' }) :
    wpAny (model PySem.Challenge.rw_pq1391_01.row.prog w) (ktrTop dp un gd cn cs L ca ccd cl outer) (call (.ref 214) [.ref a, .ref aH]) Q E s := by
  have hm := hR _ _ ra
  have hb := hR _ _ rb
  have hc := hR _ _ rc
  have hl1 := allLt_of (fun p hp => Heap.lt_size (N p hp).1)
  w_on
  revert X T
  k_fill
  intro X T
  refine wpAny_call ?_
  k_dflt k_enter
  repeat' (first | (k_unfold; (try dsimp only)) | walk1 | (dsimp only; walk1))
  ·
    refine' oth_fin (R := R) (pl := .node k q [g0] [p0]) (n := n) (i := i) (t := t) (e := e) (E := [_, _, _, _, _, _, _]) (tl9 := []) (show News h₀ L _ _ by k_asm) d9_nil ?b1 (.more rfl) (.node (.inr (by k_mem)) (.inr (by k_mem)) (.inr (by k_mem)) (by omega) (by omega) (by omega) (by omega) (.cons _ _ (.cons _ _ .nil)) rfl (gs_cons hg0 (gs_cons (by omega) gs_nil)) rfl (Nat.le_of_ble_eq_true rfl) (prel_cons (rt_in hp0) (prel_cons (.leaf (.inr (by k_mem)) (by omega) (by omega) (by omega) (by omega) (by omega) (by omega)) prel0))) (fun r pl' tl o1 o2 o3 o4 o5 => ?_)
    (case b1 => (repeat' (first | exact List.forall_mem_nil _ | refine List.forall_mem_cons.mpr ⟨⟨?_, ?_⟩, ?_⟩)) <;> (first | tbn_find | exact allLt_app (by tbn_find) | ((try dsimp only); omega)))
    subst o5
    exact hret _ pl' tl _ _ _ _ _ o1 o2 o3 (by assumption) (by assumption) (by k_asm) o4
  · obtain rfl : k = 4 := by assumption
    refine' oth_fin (R := R) (pl := .node 4 q [g0] [p0]) (n := n) (i := i) (t := t) (e := e) (E := [_, _, _, _]) (tl9 := []) (show News h₀ L _ _ by k_asm) d9_nil ?b1 (.tag (by simp only [List.map_cons, List.map_nil, ne_eq, List.cons.injEq, not_and, true_and, and_true]; first | exact tag_flip hg0 | exact fun h => absurd h (tag_flip hg0))) (.node (.inr (by k_mem)) (.inr (by k_mem)) (.inr (by k_mem)) (by omega) (by omega) (by omega) (by omega) (.cons _ _ .nil) rfl (gs_cons (flip_in hg0) gs_nil) rfl (Nat.le_of_ble_eq_true rfl) (prel_cons (rt_in hp0) prel0)) (fun r pl' tl o1 o2 o3 o4 o5 => ?_)
    (case b1 => (repeat' (first | exact List.forall_mem_nil _ | refine List.forall_mem_cons.mpr ⟨⟨?_, ?_⟩, ?_⟩)) <;> (first | tbn_find | exact allLt_app (by tbn_find) | ((try dsimp only); omega)))
    subst o5
    exact hret _ pl' tl _ _ _ _ _ o1 o2 o3 (by assumption) (by assumption) (by k_asm) o4
  ·
    refine' oth_fin (R := R) (pl := .node k q [g0] [p0]) (n := n) (i := i) (t := t) (e := e) (E := [_, _, _]) (tl9 := _) (show News h₀ L _ _ by k_asm) (d9_of (by assumption)) ?b1 (.part (i := 0) rfl (by assumption)) (.node (.inr (by k_mem)) (.inl rb) (.inr (by k_mem)) (by omega) (by omega) (by omega) (by omega) (.cons _ _ .nil) rfl (gs_cons hg0 gs_nil) rfl (Nat.le_of_ble_eq_true rfl) (prel_cons (rt_sub (by assumption) (fun x hx => by (repeat (refine List.mem_cons_of_mem _ ?_)); exact hx)) prel0)) (fun r pl' tl o1 o2 o3 o4 o5 => ?_)
    (case b1 => (repeat' (first | exact List.forall_mem_nil _ | refine List.forall_mem_cons.mpr ⟨⟨?_, ?_⟩, ?_⟩)) <;> (first | tbn_find | exact allLt_app (by tbn_find) | ((try dsimp only); omega)))
    subst o5
    exact hret _ pl' tl _ _ _ _ _ o1 o2 o3 (by assumption) (by assumption) (by k_asm) o4
  · obtain rfl : k = 4 := by assumption
    refine' oth_fin (R := R) (pl := .node 4 q [g0] [p0]) (n := n) (i := i) (t := t) (e := e) (E := [_, _, _]) (tl9 := []) (show News h₀ L _ _ by k_asm) d9_nil ?b1 (head_oth q0 q1) (.node (.inr (by k_mem)) (.inl rb) (.inr (by k_mem)) (by omega) (by omega) (by rw [fmod3]; omega) (by rw [fmod3]; omega) (.cons _ _ .nil) rfl (gs_cons hg0 gs_nil) rfl (Nat.le_of_ble_eq_true rfl) (prel_cons (rt_in hp0) prel0)) (fun r pl' tl o1 o2 o3 o4 o5 => ?_)
    (case b1 => (repeat' (first | exact List.forall_mem_nil _ | refine List.forall_mem_cons.mpr ⟨⟨?_, ?_⟩, ?_⟩)) <;> (first | tbn_find | exact allLt_app (by tbn_find) | ((try dsimp only); omega)))
    subst o5
    exact hret _ pl' tl _ _ _ _ _ o1 o2 o3 (by assumption) (by assumption) (by k_asm) o4
  ·
    refine' oth_fin (R := R) (pl := .node k q [g0] [p0]) (n := n) (i := i) (t := t) (e := e) (E := [_, _, _]) (tl9 := _) (show News h₀ L _ _ by k_asm) (d9_of (by assumption)) ?b1 (.part (i := 0) rfl (by assumption)) (.node (.inr (by k_mem)) (.inl rb) (.inr (by k_mem)) (by omega) (by omega) (by omega) (by omega) (.cons _ _ .nil) rfl (gs_cons hg0 gs_nil) rfl (Nat.le_of_ble_eq_true rfl) (prel_cons (rt_sub (by assumption) (fun x hx => by (repeat (refine List.mem_cons_of_mem _ ?_)); exact hx)) prel0)) (fun r pl' tl o1 o2 o3 o4 o5 => ?_)
    (case b1 => (repeat' (first | exact List.forall_mem_nil _ | refine List.forall_mem_cons.mpr ⟨⟨?_, ?_⟩, ?_⟩)) <;> (first | tbn_find | exact allLt_app (by tbn_find) | ((try dsimp only); omega)))
    subst o5
    exact hret _ pl' tl _ _ _ _ _ o1 o2 o3 (by assumption) (by assumption) (by k_asm) o4
  ·
    refine' oth_fin (R := R) (pl := .node k q [g0] [p0]) (n := n) (i := i) (t := t) (e := e) (E := [_, _, _]) (tl9 := _) (show News h₀ L _ _ by k_asm) (d9_of (by assumption)) ?b1 (.part (i := 0) rfl (by assumption)) (.node (.inr (by k_mem)) (.inl rb) (.inr (by k_mem)) (by omega) (by omega) (by omega) (by omega) (.cons _ _ .nil) rfl (gs_cons hg0 gs_nil) rfl (Nat.le_of_ble_eq_true rfl) (prel_cons (rt_sub (by assumption) (fun x hx => by (repeat (refine List.mem_cons_of_mem _ ?_)); exact hx)) prel0)) (fun r pl' tl o1 o2 o3 o4 o5 => ?_)
    (case b1 => (repeat' (first | exact List.forall_mem_nil _ | refine List.forall_mem_cons.mpr ⟨⟨?_, ?_⟩, ?_⟩)) <;> (first | tbn_find | exact allLt_app (by tbn_find) | ((try dsimp only); omega)))
    subst o5
    exact hret _ pl' tl _ _ _ _ _ o1 o2 o3 (by assumption) (by assumption) (by k_asm) o4

set_option maxRecDepth 100000 in
set_option maxHeartbeats 4000000 in
theorem other_node2 {w : World} {n : Nat} (IH : OtherC w n) {mean : ExcName → Option Value} {mg mb : Str → Option Value} {dp un : Nat} {gd : Option (List Code)} {cn : Str} {cs : Scope} {ca : Addr} {ccd : Value} {cl : List (Str × Addr)} {outer : List Env} {A₀ : Around} {base h₀ : Heap} {L : Addr} {m : Str → Option Value} {s : Shared} {Q E : Value → Shared → Prop}
    {R : Addr → Obj → Prop} {a pb pc aH aS : Addr} {k q : Int} {t0 t1 : Tok} {e0 e1 e2 : Nat} {v0 v1 : Value} {g0 g1 : Int} {u0 u1 : Tok} {p0 p1 : Pl} {ns : List Int} {i : Int} {t : Tok} {e : Nat} {news : List (Addr × Obj)}
    (hR : ∀ a o, R a o → (a, o) ∈ news) (ra : R a (listOf #[.int k t0, .int q t1, .ref pb, .ref pc] e0)) (rb : R pb (listOf #[.int g0 u0, .int g1 u1] e1)) (rc : R pc (listOf #[v0, v1] e2)) (k0 : 4 ≤ k) (k1 : k < 7) (q0 : 0 ≤ q) (q1 : q < 3) (hg0 : 0 ≤ g0 ∧ g0 < 2) (hp0 : PlR R n v0 p0) (sm0 : Sm p0) (hg1 : 0 ≤ g1 ∧ g1 < 2) (hp1 : PlR R n v1 p1) (sm1 : Sm p1)
    (S : Scr aH aS ns news) (hoff : ∀ p ∈ news, p.1 ≠ aH)
    (B : Below A₀ base outer h₀) (F : Fr h₀ L s.heap m) (X : (hd.heap_39 w.params).In h₀) (T : Top hd.view_39 (looseW hd.view_39 [Str.ofString "list_of"]) mean mg mb h₀) (hk : cs.kind = .function) (hdp : dp + 12 * (n + 3) < recursionLimit) (hun : un + 400 * (n + 3) < cLine)
    (N : News h₀ L s.heap ((aH, hObj aS i t e) :: news)) (i0 : 0 ≤ i) (i1 : i ≤ (ns.length : Int))
    (hret : ∀ r pl' tl i' t' e' h' tk', Oth (.node k q [g0, g1] [p0, p1]) pl' → PlR (RT R tl) (n + 1) r pl' → Disj tl ((aH, hObj aS i t e) :: news) → 0 ≤ i' → i' ≤ (ns.length : Int) → Fr h₀ L h' m → News h₀ L h' ((aH, hObj aS i' t' e') :: (tl ++ news)) → Q r { s with heap := h', toks := tk' }) :
    wpAny (model PySem.Challenge.rw_pq1391_01.row.prog w) (ktrTop dp un gd cn cs L ca ccd cl outer) (call (.ref 214) [.ref a, .ref aH]) Q E s := by
  have hm := hR _ _ ra
  have hb := hR _ _ rb
  have hc := hR _ _ rc
  have hl1 := allLt_of (fun p hp => Heap.lt_size (N p hp).1)
  w_on
  revert X T
  k_fill
  intro X T
  refine wpAny_call ?_
  k_dflt k_enter
  repeat' (first | (k_unfold; (try dsimp only)) | walk1 | (dsimp only; walk1))
  ·
    refine' oth_fin (R := R) (pl := .node k q [g0, g1] [p0, p1]) (n := n) (i := i) (t := t) (e := e) (E := [_, _, _, _, _, _, _]) (tl9 := []) (show News h₀ L _ _ by k_asm) d9_nil ?b1 (.more rfl) (.node (.inr (by k_mem)) (.inr (by k_mem)) (.inr (by k_mem)) (by omega) (by omega) (by omega) (by omega) (.cons _ _ (.cons _ _ (.cons _ _ .nil))) rfl (gs_cons hg0 (gs_cons hg1 (gs_cons (by omega) gs_nil))) rfl (Nat.le_of_ble_eq_true rfl) (prel_cons (rt_in hp0) (prel_cons (rt_in hp1) (prel_cons (.leaf (.inr (by k_mem)) (by omega) (by omega) (by omega) (by omega) (by omega) (by omega)) prel0)))) (fun r pl' tl o1 o2 o3 o4 o5 => ?_)
    (case b1 => (repeat' (first | exact List.forall_mem_nil _ | refine List.forall_mem_cons.mpr ⟨⟨?_, ?_⟩, ?_⟩)) <;> (first | tbn_find | exact allLt_app (by tbn_find) | ((try dsimp only); omega)))
    subst o5
    exact hret _ pl' tl _ _ _ _ _ o1 o2 o3 (by assumption) (by assumption) (by k_asm) o4
  · obtain rfl : k = 4 := by assumption
    refine' oth_fin (R := R) (pl := .node 4 q [g0, g1] [p0, p1]) (n := n) (i := i) (t := t) (e := e) (E := [_, _, _, _]) (tl9 := []) (show News h₀ L _ _ by k_asm) d9_nil ?b1 (.tag (by simp only [List.map_cons, List.map_nil, ne_eq, List.cons.injEq, not_and, true_and, and_true]; first | exact tag_flip hg0 | exact fun h => absurd h (tag_flip hg0))) (.node (.inr (by k_mem)) (.inr (by k_mem)) (.inr (by k_mem)) (by omega) (by omega) (by omega) (by omega) (.cons _ _ (.cons _ _ .nil)) rfl (gs_cons (flip_in hg0) (gs_cons hg1 gs_nil)) rfl (Nat.le_of_ble_eq_true rfl) (prel_cons (rt_in hp0) (prel_cons (rt_in hp1) prel0))) (fun r pl' tl o1 o2 o3 o4 o5 => ?_)
    (case b1 => (repeat' (first | exact List.forall_mem_nil _ | refine List.forall_mem_cons.mpr ⟨⟨?_, ?_⟩, ?_⟩)) <;> (first | tbn_find | exact allLt_app (by tbn_find) | ((try dsimp only); omega)))
    subst o5
    exact hret _ pl' tl _ _ _ _ _ o1 o2 o3 (by assumption) (by assumption) (by k_asm) o4
  ·
    refine' oth_fin (R := R) (pl := .node k q [g0, g1] [p0, p1]) (n := n) (i := i) (t := t) (e := e) (E := [_, _, _]) (tl9 := _) (show News h₀ L _ _ by k_asm) (d9_of (by assumption)) ?b1 (.part (i := 0) rfl (by assumption)) (.node (.inr (by k_mem)) (.inl rb) (.inr (by k_mem)) (by omega) (by omega) (by omega) (by omega) (.cons _ _ (.cons _ _ .nil)) rfl (gs_cons hg0 (gs_cons hg1 gs_nil)) rfl (Nat.le_of_ble_eq_true rfl) (prel_cons (rt_sub (by assumption) (fun x hx => by (repeat (refine List.mem_cons_of_mem _ ?_)); exact hx)) (prel_cons (rt_in hp1) prel0))) (fun r pl' tl o1 o2 o3 o4 o5 => ?_)
    (case b1 => (repeat' (first | exact List.forall_mem_nil _ | refine List.forall_mem_cons.mpr ⟨⟨?_, ?_⟩, ?_⟩)) <;> (first | tbn_find | exact allLt_app (by tbn_find) | ((try dsimp only); omega)))
    subst o5
    exact hret _ pl' tl _ _ _ _ _ o1 o2 o3 (by assumption) (by assumption) (by k_asm) o4
  · obtain rfl : k = 4 := by assumption
    refine' oth_fin (R := R) (pl := .node 4 q [g0, g1] [p0, p1]) (n := n) (i := i) (t := t) (e := e) (E := [_, _, _]) (tl9 := []) (show News h₀ L _ _ by k_asm) d9_nil ?b1 (head_oth q0 q1) (.node (.inr (by k_mem)) (.inl rb) (.inr (by k_mem)) (by omega) (by omega) (by rw [fmod3]; omega) (by rw [fmod3]; omega) (.cons _ _ (.cons _ _ .nil)) rfl (gs_cons hg0 (gs_cons hg1 gs_nil)) rfl (Nat.le_of_ble_eq_true rfl) (prel_cons (rt_in hp0) (prel_cons (rt_in hp1) prel0))) (fun r pl' tl o1 o2 o3 o4 o5 => ?_)
    (case b1 => (repeat' (first | exact List.forall_mem_nil _ | refine List.forall_mem_cons.mpr ⟨⟨?_, ?_⟩, ?_⟩)) <;> (first | tbn_find | exact allLt_app (by tbn_find) | ((try dsimp only); omega)))
    subst o5
    exact hret _ pl' tl _ _ _ _ _ o1 o2 o3 (by assumption) (by assumption) (by k_asm) o4
  ·
    refine' oth_fin (R := R) (pl := .node k q [g0, g1] [p0, p1]) (n := n) (i := i) (t := t) (e := e) (E := [_, _, _]) (tl9 := _) (show News h₀ L _ _ by k_asm) (d9_of (by assumption)) ?b1 (.part (i := 0) rfl (by assumption)) (.node (.inr (by k_mem)) (.inl rb) (.inr (by k_mem)) (by omega) (by omega) (by omega) (by omega) (.cons _ _ (.cons _ _ .nil)) rfl (gs_cons hg0 (gs_cons hg1 gs_nil)) rfl (Nat.le_of_ble_eq_true rfl) (prel_cons (rt_sub (by assumption) (fun x hx => by (repeat (refine List.mem_cons_of_mem _ ?_)); exact hx)) (prel_cons (rt_in hp1) prel0))) (fun r pl' tl o1 o2 o3 o4 o5 => ?_)
    (case b1 => (repeat' (first | exact List.forall_mem_nil _ | refine List.forall_mem_cons.mpr ⟨⟨?_, ?_⟩, ?_⟩)) <;> (first | tbn_find | exact allLt_app (by tbn_find) | ((try dsimp only); omega)))
    subst o5
    exact hret _ pl' tl _ _ _ _ _ o1 o2 o3 (by assumption) (by assumption) (by k_asm) o4
  ·
    refine' oth_fin (R := R) (pl := .node k q [g0, g1] [p0, p1]) (n := n) (i := i) (t := t) (e := e) (E := [_, _, _]) (tl9 := _) (show News h₀ L _ _ by k_asm) (d9_of (by assumption)) ?b1 (.part (i := 0) rfl (by assumption)) (.node (.inr (by k_mem)) (.inl rb) (.inr (by k_mem)) (by omega) (by omega) (by omega) (by omega) (.cons _ _ (.cons _ _ .nil)) rfl (gs_cons hg0 (gs_cons hg1 gs_nil)) rfl (Nat.le_of_ble_eq_true rfl) (prel_cons (rt_sub (by assumption) (fun x hx => by (repeat (refine List.mem_cons_of_mem _ ?_)); exact hx)) (prel_cons (rt_in hp1) prel0))) (fun r pl' tl o1 o2 o3 o4 o5 => ?_)
    (case b1 => (repeat' (first | exact List.forall_mem_nil _ | refine List.forall_mem_cons.mpr ⟨⟨?_, ?_⟩, ?_⟩)) <;> (first | tbn_find | exact allLt_app (by tbn_find) | ((try dsimp only); omega)))
    subst o5
    exact hret _ pl' tl _ _ _ _ _ o1 o2 o3 (by assumption) (by assumption) (by k_asm) o4
  · obtain rfl : k = 4 := by assumption
    refine' oth_fin (R := R) (pl := .node 4 q [g0, g1] [p0, p1]) (n := n) (i := i) (t := t) (e := e) (E := [_, _, _, _]) (tl9 := []) (show News h₀ L _ _ by k_asm) d9_nil ?b1 (.tag (by simp only [List.map_cons, List.map_nil, ne_eq, List.cons.injEq, not_and, true_and, and_true]; first | exact tag_flip hg1 | exact fun h => absurd h (tag_flip hg1))) (.node (.inr (by k_mem)) (.inr (by k_mem)) (.inr (by k_mem)) (by omega) (by omega) (by omega) (by omega) (.cons _ _ (.cons _ _ .nil)) rfl (gs_cons hg0 (gs_cons (flip_in hg1) gs_nil)) rfl (Nat.le_of_ble_eq_true rfl) (prel_cons (rt_in hp0) (prel_cons (rt_in hp1) prel0))) (fun r pl' tl o1 o2 o3 o4 o5 => ?_)
    (case b1 => (repeat' (first | exact List.forall_mem_nil _ | refine List.forall_mem_cons.mpr ⟨⟨?_, ?_⟩, ?_⟩)) <;> (first | tbn_find | exact allLt_app (by tbn_find) | ((try dsimp only); omega)))
    subst o5
    exact hret _ pl' tl _ _ _ _ _ o1 o2 o3 (by assumption) (by assumption) (by k_asm) o4
  ·
    refine' oth_fin (R := R) (pl := .node k q [g0, g1] [p0, p1]) (n := n) (i := i) (t := t) (e := e) (E := [_, _, _]) (tl9 := _) (show News h₀ L _ _ by k_asm) (d9_of (by assumption)) ?b1 (.part (i := 1) rfl (by assumption)) (.node (.inr (by k_mem)) (.inl rb) (.inr (by k_mem)) (by omega) (by omega) (by omega) (by omega) (.cons _ _ (.cons _ _ .nil)) rfl (gs_cons hg0 (gs_cons hg1 gs_nil)) rfl (Nat.le_of_ble_eq_true rfl) (prel_cons (rt_in hp0) (prel_cons (rt_sub (by assumption) (fun x hx => by (repeat (refine List.mem_cons_of_mem _ ?_)); exact hx)) prel0))) (fun r pl' tl o1 o2 o3 o4 o5 => ?_)
    (case b1 => (repeat' (first | exact List.forall_mem_nil _ | refine List.forall_mem_cons.mpr ⟨⟨?_, ?_⟩, ?_⟩)) <;> (first | tbn_find | exact allLt_app (by tbn_find) | ((try dsimp only); omega)))
    subst o5
    exact hret _ pl' tl _ _ _ _ _ o1 o2 o3 (by assumption) (by assumption) (by k_asm) o4
  · obtain rfl : k = 4 := by assumption
    refine' oth_fin (R := R) (pl := .node 4 q [g0, g1] [p0, p1]) (n := n) (i := i) (t := t) (e := e) (E := [_, _, _]) (tl9 := []) (show News h₀ L _ _ by k_asm) d9_nil ?b1 (head_oth q0 q1) (.node (.inr (by k_mem)) (.inl rb) (.inr (by k_mem)) (by omega) (by omega) (by rw [fmod3]; omega) (by rw [fmod3]; omega) (.cons _ _ (.cons _ _ .nil)) rfl (gs_cons hg0 (gs_cons hg1 gs_nil)) rfl (Nat.le_of_ble_eq_true rfl) (prel_cons (rt_in hp0) (prel_cons (rt_in hp1) prel0))) (fun r pl' tl o1 o2 o3 o4 o5 => ?_)
    (case b1 => (repeat' (first | exact List.forall_mem_nil _ | refine List.forall_mem_cons.mpr ⟨⟨?_, ?_⟩, ?_⟩)) <;> (first | tbn_find | exact allLt_app (by tbn_find) | ((try dsimp only); omega)))
    subst o5
    exact hret _ pl' tl _ _ _ _ _ o1 o2 o3 (by assumption) (by assumption) (by k_asm) o4
  ·
    refine' oth_fin (R := R) (pl := .node k q [g0, g1] [p0, p1]) (n := n) (i := i) (t := t) (e := e) (E := [_, _, _]) (tl9 := _) (show News h₀ L _ _ by k_asm) (d9_of (by assumption)) ?b1 (.part (i := 1) rfl (by assumption)) (.node (.inr (by k_mem)) (.inl rb) (.inr (by k_mem)) (by omega) (by omega) (by omega) (by omega) (.cons _ _ (.cons _ _ .nil)) rfl (gs_cons hg0 (gs_cons hg1 gs_nil)) rfl (Nat.le_of_ble_eq_true rfl) (prel_cons (rt_in hp0) (prel_cons (rt_sub (by assumption) (fun x hx => by (repeat (refine List.mem_cons_of_mem _ ?_)); exact hx)) prel0))) (fun r pl' tl o1 o2 o3 o4 o5 => ?_)
    (case b1 => (repeat' (first | exact List.forall_mem_nil _ | refine List.forall_mem_cons.mpr ⟨⟨?_, ?_⟩, ?_⟩)) <;> (first | tbn_find | exact allLt_app (by tbn_find) | ((try dsimp only); omega)))
    subst o5
    exact hret _ pl' tl _ _ _ _ _ o1 o2 o3 (by assumption) (by assumption) (by k_asm) o4
  ·
    refine' oth_fin (R := R) (pl := .node k q [g0, g1] [p0, p1]) (n := n) (i := i) (t := t) (e := e) (E := [_, _, _]) (tl9 := _) (show News h₀ L _ _ by k_asm) (d9_of (by assumption)) ?b1 (.part (i := 1) rfl (by assumption)) (.node (.inr (by k_mem)) (.inl rb) (.inr (by k_mem)) (by omega) (by omega) (by omega) (by omega) (.cons _ _ (.cons _ _ .nil)) rfl (gs_cons hg0 (gs_cons hg1 gs_nil)) rfl (Nat.le_of_ble_eq_true rfl) (prel_cons (rt_in hp0) (prel_cons (rt_sub (by assumption) (fun x hx => by (repeat (refine List.mem_cons_of_mem _ ?_)); exact hx)) prel0))) (fun r pl' tl o1 o2 o3 o4 o5 => ?_)
    (case b1 => (repeat' (first | exact List.forall_mem_nil _ | refine List.forall_mem_cons.mpr ⟨⟨?_, ?_⟩, ?_⟩)) <;> (first | tbn_find | exact allLt_app (by tbn_find) | ((try dsimp only); omega)))
    subst o5
    exact hret _ pl' tl _ _ _ _ _ o1 o2 o3 (by assumption) (by assumption) (by k_asm) o4

theorem ints1 {vs : List Value} {ns : List Int} (h : IntsAre vs ns) : (ns.length = 0 → vs = [] ∧ ns = []) ∧ (ns.length = 1 → ∃ g u, vs = [.int g u] ∧ ns = [g]) ∧ (ns.length = 2 → ∃ g u g' u', vs = [.int g u, .int g' u'] ∧ ns = [g, g']) := by
  cases h with
  | nil => exact ⟨fun _ => ⟨rfl, rfl⟩, fun h => by simp at h, fun h => by simp at h⟩
  | cons g u h =>
    refine ⟨fun h => by simp at h, fun h1 => ?_, fun h1 => ?_⟩
    · cases h with
      | nil => exact ⟨g, u, rfl, rfl⟩
      | cons _ _ _ => simp at h1
    · cases h with
      | nil => simp at h1
      | cons g' u' h =>
        cases h with
        | nil => exact ⟨g, u, g', u', rfl, rfl⟩
        | cons _ _ _ => simp at h1
set_option maxRecDepth 100000 in
theorem other_all {w : World} : ∀ n, OtherC w n := by
  intro n
  induction n with
  | zero =>
    intro mean mg mb dp un gd cn cs ca ccd cl outer A₀ base h₀ L m s Q E R v pl aH aS ns i t e news hR hp hs S hoff B F X T hk hdp hun N i0 i1 hret
    cases hp with
    | leaf h1 a1 a2 a3 a4 a5 a6 => exact other_leaf (hR _ _ h1) a1 a2 a3 a4 a5 a6 S hoff B F X T hk (by omega) (by omega) N i0 i1 hret
  | succ n IH =>
    intro mean mg mb dp un gd cn cs ca ccd cl outer A₀ base h₀ L m s Q E R v pl aH aS ns i t e news hR hp hs S hoff B F X T hk hdp hun N i0 i1 hret
    cases hp with
    | leaf h1 a1 a2 a3 a4 a5 a6 => exact other_leaf (hR _ _ h1) a1 a2 a3 a4 a5 a6 S hoff B F X T hk (by omega) (by omega) N i0 i1 hret
    | node h1 h2 h3 a1 a2 a3 a4 a5 a6 a7 a8 a9 a10 =>
      cases hs with
      | node w2 ws =>
        rename_i vs tags parts
        have hl : parts.length = 0 ∨ parts.length = 1 ∨ parts.length = 2 := by omega
        obtain ⟨z0, z1, z2⟩ := ints1 a5
        rcases hl with hl | hl | hl
        · obtain ⟨rfl, rfl⟩ := z0 (a6.trans hl)
          obtain rfl := lenOf0 hl
          obtain rfl := lenOf0 (a8.trans hl)
          exact other_node0 IH hR h1 h2 h3 a1 a2 a3 a4 S hoff B F X T hk hdp hun N i0 i1 hret
        · obtain ⟨g, u, rfl, rfl⟩ := z1 (a6.trans hl)
          obtain ⟨p, rfl⟩ := lenOf1 hl
          obtain ⟨x, rfl⟩ := lenOf1 (a8.trans hl)
          exact other_node1 IH hR h1 h2 h3 a1 a2 a3 a4 (a7 _ (by simp)) (a10 0 _ _ rfl rfl) (ws _ (by simp)) S hoff B F X T hk hdp hun N i0 i1 hret
        · obtain ⟨g, u, g', u', rfl, rfl⟩ := z2 (a6.trans hl)
          obtain ⟨p, p', rfl⟩ := lenOf2 hl
          obtain ⟨x, x', rfl⟩ := lenOf2 (a8.trans hl)
          exact other_node2 IH hR h1 h2 h3 a1 a2 a3 a4 (a7 _ (by simp)) (a10 0 _ _ rfl rfl) (ws _ (by simp)) (a7 _ (by simp)) (a10 1 _ _ rfl rfl) (ws _ (by simp)) S hoff B F X T hk hdp hun N i0 i1 hret

inductive Wf : Pl → Prop where
  | leaf {k p q} : 0 ≤ k → k < 4 → 0 ≤ p → p < 5 → 0 ≤ q → q < 3 → Wf (.leaf k p q)
  | node {k q tags} {parts : List Pl} : 4 ≤ k → k < 7 → 0 ≤ q → q < 3 → (∀ p ∈ parts, Wf p) → Wf (.node k q tags parts)
theorem PlR.wf {R : Addr → Obj → Prop} {n v pl} (h : PlR R n v pl) : Wf pl := by
  induction h with
  | leaf _ a b c d e f => exact .leaf a b c d e f
  | node _ _ _ a b c d _ _ _ hl _ _ ih =>
    refine .node a b c d fun p hp => ?_
    obtain ⟨j, hj, rfl⟩ := List.getElem_of_mem hp
    exact ih j _ _ (List.getElem?_eq_getElem (by omega)) (List.getElem?_eq_getElem hj)

theorem eqv_sym {n : Nat} {s t : Str} : eqv n (.sym s) (.sym t) = (s == t) := by cases n <;> rfl
theorem eqv_dbl {n : Nat} {s t : Option (Int × Int)} : eqv n (.dbl s) (.dbl t) = (s == t) := by cases n <;> rfl
theorem eqv_nul {n : Nat} : eqv n .nul .nul = true := by cases n <;> rfl
theorem eqv_chr {n : Nat} {x y : Option Str} {as bs : List Str} : eqv n (.chr x as) (.chr y bs) = (as.length == bs.length && x == y) := by cases n <;> rfl

theorem eqvs_comm {f : Va → Va → Bool} (h : ∀ x y, f x y = f y x) : ∀ xs ys : List Va, eqvs f xs ys = eqvs f ys xs
  | [], [] => rfl
  | [], _ :: _ => rfl
  | _ :: _, [] => rfl
  | x :: xs, y :: ys => by rw [eqvs, eqvs, h x y, eqvs_comm h xs ys]
theorem eqv_comm : ∀ (n : Nat) (x y : Va), eqv n x y = eqv n y x
  | 0, x, y => by cases x <;> cases y <;> first | rfl | exact BEq.comm | (simp only [eqv]; rw [BEq.comm (α := Nat), BEq.comm (α := Option Str)])
  | n + 1, x, y => by
    have c := eqvs_comm (eqv_comm n)
    cases x <;> cases y <;> first | rfl | exact BEq.comm | exact c _ _ | (simp only [eqv]; rw [BEq.comm (α := Nat), BEq.comm (α := Option Str)]) | (simp only [eqv]; rw [BEq.comm (α := List (Option Str)), c])

theorem eqvs_true {f : Va → Va → Bool} {a b : Bool} : ∀ {ps : List Pl}, (∀ p ∈ ps, f (bld a p) (bld b p) = true) → eqvs f (bldL a ps) (bldL b ps) = true
  | [], _ => by simp [bldL, eqvs]
  | p :: r, h => by
    have h1 := h p (.head _)
    have h2 := eqvs_true (f := f) (a := a) (b := b) (ps := r) fun q hq => h q (.tail _ hq)
    simp [bldL, eqvs, h1, h2]
theorem atsN_len {q : Int} {b : Bool} (h0 : 0 ≤ q) (h1 : q < 3) : ((atsN q b).length : Int) = q := by
  have : q = 0 ∨ q = 1 ∨ q = 2 := by omega
  rcases this with rfl | rfl | rfl
  · simp [atsN]
  · simp [atsN]
  · cases b <;> simp [atsN]
theorem eqv_same {R : Addr → Obj → Prop} {n v pl} (a b : Bool) (h : PlR R n v pl) : eqv n (bld a pl) (bld b pl) = true := by
  induction h with
  | @leaf n _ _ k p q _ _ _ _ k0 k1 p0 p1 q0 q1 =>
    simp only [bld]
    split
    · simp [eqv_sym]
    · split
      · simp [eqv_nul]
      · split
        · simp [eqv_dbl]
        · have e1 := atsN_len (b := a) q0 q1
          have e2 := atsN_len (b := b) q0 q1
          have e3 : (atsN q a).length = (atsN q b).length := by omega
          simp [eqv_chr, e3]
  | @node n _ _ _ _ _ _ k q _ _ _ vs tags parts _ _ _ _ _ _ _ _ _ _ hl _ _ ih =>
    have hp : ∀ p ∈ parts, eqv n (bld a p) (bld b p) = true := fun p hp => by
      obtain ⟨j, hj, rfl⟩ := List.getElem_of_mem hp
      exact ih j _ _ (List.getElem?_eq_getElem (by omega)) (List.getElem?_eq_getElem hj)
    have he := eqvs_true hp
    simp only [bld]
    split
    · simp [eqv, eqvs, eqv_sym, he]
    · split
      · simp [eqv, he]
      · simp [eqv, he]

theorem eqvs_at {f : Va → Va → Bool} {x y : Va} (hf : f x y = false) : ∀ {xs ys : List Va} {i : Nat}, xs[i]? = some x → ys[i]? = some y → eqvs f xs ys = false
  | [], _, _, h, _ => by simp at h
  | _ :: _, [], _, _, h => by simp at h
  | u :: us, z :: zs, 0, h1, h2 => by simp at h1 h2; subst h1 h2; simp [eqvs, hf]
  | u :: us, z :: zs, i + 1, h1, h2 => by
    have := eqvs_at hf (xs := us) (ys := zs) (i := i) (by simpa using h1) (by simpa using h2)
    simp [eqvs, this]
theorem symN_ne {p p' : Int} (h0 : 0 ≤ p) (h1 : p < 5) (k0 : 0 ≤ p') (k1 : p' < 5) (h : p' ≠ p) : symN p ≠ symN p' := by
  rcases five h0 h1 with rfl | rfl | rfl | rfl | rfl <;> rcases five k0 k1 with rfl | rfl | rfl | rfl | rfl <;> first | exact absurd rfl h | decide +kernel
theorem dblN_ne {p p' : Int} (h0 : 0 ≤ p) (h1 : p < 5) (k0 : 0 ≤ p') (k1 : p' < 5) (h : p' ≠ p) : dblN p ≠ dblN p' := by
  rcases five h0 h1 with rfl | rfl | rfl | rfl | rfl <;> rcases five k0 k1 with rfl | rfl | rfl | rfl | rfl <;> first | exact absurd rfl h | decide +kernel
theorem chrN_ne {p p' : Int} (h0 : 0 ≤ p) (h1 : p < 5) (k0 : 0 ≤ p') (k1 : p' < 5) (h : p' ≠ p) : chrN p ≠ chrN p' := by
  rcases five h0 h1 with rfl | rfl | rfl | rfl | rfl <;> rcases five k0 k1 with rfl | rfl | rfl | rfl | rfl <;> first | exact absurd rfl h | decide +kernel
theorem headN_ne {p p' : Int} (h0 : 0 ≤ p) (h1 : p < 3) (k0 : 0 ≤ p') (k1 : p' < 3) (h : p' ≠ p) : headN p ≠ headN p' := by
  have a : p = 0 ∨ p = 1 ∨ p = 2 := by omega
  have b : p' = 0 ∨ p' = 1 ∨ p' = 2 := by omega
  rcases a with rfl | rfl | rfl <;> rcases b with rfl | rfl | rfl <;> first | exact absurd rfl h | decide +kernel

theorem bldL_get {b : Bool} {ps : List Pl} {i : Nat} {p : Pl} (h : ps[i]? = some p) : (bldL b ps)[i]? = some (bld b p) := by
  rw [bldL_map, List.getElem?_map, h]; rfl
theorem eqv_oth {pl pl' : Pl} (O : Oth pl pl') (W : Wf pl) : ∀ (n : Nat) (a b : Bool), eqv n (bld a pl) (bld b pl') = false := by
  induction O with
  | nul => intro n a b; simp only [bld]; cases n <;> rfl
  | val hk hp p0 p1 =>
    rename_i k p q p'
    intro n a b
    cases W with
    | leaf k0 k1 w0 w1 q0 q1 =>
      have : k = 0 ∨ k = 2 ∨ k = 3 := by omega
      rcases this with rfl | rfl | rfl
      · simp [bld, eqv_sym, symN_ne w0 w1 p0 p1 hp]
      · simp [bld, eqv_dbl, dblN_ne w0 w1 p0 p1 hp]
      · simp [bld, eqv_chr, chrN_ne w0 w1 p0 p1 hp]
  | ats hq =>
    rename_i p q
    intro n a b
    cases W with
    | leaf k0 k1 w0 w1 q0 q1 =>
      have e1 := atsN_len (b := a) q0 q1
      have e2 := atsN_len (q := q - 1) (b := b) (by omega) (by omega)
      have e3 : (atsN q a).length ≠ (atsN (q - 1) b).length := by omega
      simp [bld, eqv_chr, e3]
  | more hl =>
    rename_i k q tags parts x y
    intro n a b
    have h1 : (bldL a parts).length ≠ (bldL b (parts ++ [y])).length := by rw [bldL_len, bldL_len]; simp
    have h2 : tags.map tagN ≠ (tags ++ [x]).map tagN := fun h => by have := congrArg List.length h; simp at this
    simp only [bld]
    split
    · cases n with
      | zero => rfl
      | succ n => simp only [eqv]; simp [h2]
    · cases n with
      | zero => split <;> rfl
      | succ n => split <;> (simp only [eqv]; exact eqvs_len h1)
  | tag ht =>
    intro n a b
    simp only [bld, if_true]
    cases n with
    | zero => rfl
    | succ n => simp only [eqv]; simp [ht]
  | head hs s0 s1 =>
    intro n a b
    cases W with
    | node k0 k1 w0 w1 _ =>
      simp only [bld, if_true]
      cases n with
      | zero => rfl
      | succ n => simp [eqv, eqvs, eqv_sym, headN_ne w0 w1 s0 s1 hs]
  | @part k q tags parts i p p' hp _ ih =>
    intro n a b
    cases W with
    | node k0 k1 w0 w1 wp =>
      have hm : p ∈ parts := List.mem_of_getElem? hp
      have hi : i < parts.length := (List.getElem?_eq_some_iff.mp hp).1
      have hp' : (parts.set i p')[i]? = some p' := by simp [hi]
      simp only [bld]
      cases n with
      | zero => split <;> first | rfl | (split <;> rfl)
      | succ n =>
        have he := eqvs_at (ih (wp p hm) n a b) (bldL_get hp) (bldL_get hp')
        split
        · simp [eqv, eqvs, he]
        · split <;> (simp only [eqv]; exact he)
theorem eqv_oth' {pl pl' : Pl} (O : Oth pl pl') (W : Wf pl) (n : Nat) (a b : Bool) : eqv n (bld a pl') (bld b pl) = false := by
  rw [eqv_comm]; exact eqv_oth O W n b a

theorem PlR.le {R : Addr → Obj → Prop} {n n' v pl} (h : PlR R n v pl) (hn : n ≤ n') : PlR R n' v pl := by
  induction h generalizing n' with
  | leaf h1 a b c d e f => exact .leaf h1 a b c d e f
  | node h1 h2 h3 a b c d e f g h i _ ih =>
    obtain ⟨m, rfl⟩ : ∃ m, n' = m + 1 := ⟨n' - 1, by omega⟩
    exact .node h1 h2 h3 a b c d e f g h i fun i v d x y => ih i v d x y (by omega)

/-- no object of the list lies at one of the two cells or at the heap of figures -/
def OffC (aH c1 c2 : Addr) (acc : List (Addr × Obj)) : Prop := ∀ p ∈ acc, p.1 ≠ aH ∧ p.1 ≠ c1 ∧ p.1 ≠ c2

section
variable {w : World} {mean : ExcName → Option Value} {mg mb : Str → Option Value} {dp un : Nat} {gd : Option (List Code)} {cn : Str} {cs : Scope} {ca : Addr} {ccd : Value} {cl : List (Str × Addr)} {outer : List Env} {A₀ : Around} {base h₀ : Heap} {L : Addr} {m : Str → Option Value} {s : Shared} {Q E : Value → Shared → Prop}
  {aH aS c1 c2 : Addr} {o1 o2 oS oH : Obj} {i : Int} {t tk : Tok} {e : Nat} {ns : List Int} {acc : List (Addr × Obj)}

theorem law_plan_use (B : Below A₀ base outer h₀) (F : Fr h₀ L s.heap m) (X : (hd.heap_39 w.params).In h₀) (T : Top hd.view_39 (looseW hd.view_39 [Str.ofString "list_of"]) mean mg mb h₀) (hk : cs.kind = .function) (hdp : dp + 48 < recursionLimit) (hun : un + 960 < cLine)
    (N : News h₀ L s.heap [(aH, hObj aS i t e), (aS, oS), (c2, o2), (c1, o1)]) (i0 : 0 ≤ i) (i1 : i ≤ (ns.length : Int)) (S : Scr aH aS ns [(aS, oS)]) (d1 : @Ne Nat c1 aH) (d2 : @Ne Nat c2 aH) (d3 : @Ne Nat aS c1) (d4 : @Ne Nat aS c2)
    (hret : ∀ r pl acc i' t' e' h' tk', PlR (InL acc) 2 r pl → Sm pl → (aS, oS) ∈ acc → OffC aH c1 c2 acc → 0 ≤ i' → i' ≤ (ns.length : Int) → Fr h₀ L h' m → News h₀ L h' ((aH, hObj aS i' t' e') :: (c2, o2) :: (c1, o1) :: acc) → Q r { s with heap := h', toks := tk' }) :
    wpAny (model PySem.Challenge.rw_pq1391_01.row.prog w) (ktrTop dp un gd cn cs L ca ccd cl outer) (call (.ref 202) [.ref aH, .int 2 tk]) Q E s := by
  refine plan_all 2 mean mg mb dp un gd cn cs ca ccd cl outer A₀ base h₀ L m s Q E aH aS ns i 2 t tk e [(aS, oS), (c2, o2), (c1, o1)] rfl (S.mono fun p hp => by simp at hp ⊢; simp [hp]) ?_ B F X T hk hdp hun N i0 i1 fun r pl tl i' t' e' h' tk' p1 p2 p3 p4 p5 F' N' => ?_
  · intro p hp
    simp only [List.mem_cons, List.not_mem_nil, or_false] at hp
    rcases hp with rfl | rfl | rfl
    · exact S.ne
    · exact d2
    · exact d1
  · refine hret r pl (tl ++ [(aS, oS)]) i' t' e' h' tk' (p1.mono fun a o x => List.mem_append_left _ x) p2 (List.mem_append_right _ (.head _)) (fun p hp => ?_) p4 p5 F' (News.sub N' fun p hp => ?_)
    · rcases List.mem_append.mp hp with hp | hp
      · exact ⟨p3 p hp (aH, hObj aS i t e) (by simp), p3 p hp (c1, o1) (by simp), p3 p hp (c2, o2) (by simp)⟩
      · rw [List.mem_singleton.mp hp]; exact ⟨S.ne, d3, d4⟩
    · simp only [List.mem_cons, List.mem_append, List.not_mem_nil, or_false] at hp ⊢
      rcases hp with h | h | h | h | h <;> simp [h]

theorem law_build_use {v : Value} {pl : Pl} {b : Bool} (hp : PlR (InL acc) 2 v pl) (off : OffC aH c1 c2 acc)
    (B : Below A₀ base outer h₀) (F : Fr h₀ L s.heap m) (X : (hd.heap_39 w.params).In h₀) (T : Top hd.view_39 (looseW hd.view_39 [Str.ofString "list_of"]) mean mg mb h₀) (hk : cs.kind = .function) (hdp : dp + 60 < recursionLimit) (hun : un + 1200 < cLine)
    (N : News h₀ L s.heap ((aH, oH) :: (c2, o2) :: (c1, o1) :: acc))
    (hret : ∀ r acc' h' tk', VaR w (InL acc') 2 r (bld b pl) → (∀ x ∈ acc, x ∈ acc') → OffC aH c1 c2 acc' → Fr h₀ L h' m → News h₀ L h' ((aH, oH) :: (c2, o2) :: (c1, o1) :: acc') → Q r { s with heap := h', toks := tk' }) :
    wpAny (model PySem.Challenge.rw_pq1391_01.row.prog w) (ktrTop dp un gd cn cs L ca ccd cl outer) (call (.ref 207) [v, .bool b]) Q E s := by
  refine build_all 2 mean mg mb dp un gd cn cs ca ccd cl outer A₀ base h₀ L m s Q E v pl b _ (hp.mono fun a o x => (N (a, o) (.tail _ (.tail _ (.tail _ x)))).1) B F X T hk hdp hun N fun r tl h' tk' hr hd F' N' => ?_
  refine hret r (tl ++ acc) h' tk' (hr.mono fun a o x => List.mem_append_left _ x) (fun x hx => List.mem_append_right _ hx) (fun p hp => ?_) F' (News.sub N' fun p hp => ?_)
  · rcases List.mem_append.mp hp with hp | hp
    · exact ⟨hd p hp (aH, oH) (by simp), hd p hp (c1, o1) (by simp), hd p hp (c2, o2) (by simp)⟩
    · exact off p hp
  · simp only [List.mem_cons, List.mem_append] at hp ⊢
    rcases hp with h | h | h | h | h <;> simp [h]

theorem law_other_use {v : Value} {pl : Pl} (hp : PlR (InL acc) 2 v pl) (hs : Sm pl) (off : OffC aH c1 c2 acc) (hS : (aS, oS) ∈ acc) (S : Scr aH aS ns [(aS, oS)]) (d1 : @Ne Nat c1 aH) (d2 : @Ne Nat c2 aH)
    (B : Below A₀ base outer h₀) (F : Fr h₀ L s.heap m) (X : (hd.heap_39 w.params).In h₀) (T : Top hd.view_39 (looseW hd.view_39 [Str.ofString "list_of"]) mean mg mb h₀) (hk : cs.kind = .function) (hdp : dp + 48 < recursionLimit) (hun : un + 1600 < cLine)
    (N : News h₀ L s.heap ((aH, hObj aS i t e) :: (c2, o2) :: (c1, o1) :: acc)) (i0 : 0 ≤ i) (i1 : i ≤ (ns.length : Int))
    (hret : ∀ r pl' acc' oH h' tk', Oth pl pl' → PlR (InL acc') 2 r pl' → (∀ x ∈ acc, x ∈ acc') → OffC aH c1 c2 acc' → Fr h₀ L h' m → News h₀ L h' ((aH, oH) :: (c2, o2) :: (c1, o1) :: acc') → Q r { s with heap := h', toks := tk' }) :
    wpAny (model PySem.Challenge.rw_pq1391_01.row.prog w) (ktrTop dp un gd cn cs L ca ccd cl outer) (call (.ref 214) [v, .ref aH]) Q E s := by
  refine other_all 2 mean mg mb dp un gd cn cs ca ccd cl outer A₀ base h₀ L m s Q E (InL acc) v pl aH aS ns i t e ((c2, o2) :: (c1, o1) :: acc) (fun a o x => .tail _ (.tail _ x)) hp hs (S.mono fun p hp => ?_) ?_ B F X T hk hdp hun N i0 i1 fun r pl' tl i' t' e' h' tk' p1 p2 p3 p4 p5 F' N' => ?_
  · rw [List.mem_singleton.mp hp]; exact .tail _ (.tail _ hS)
  · intro p hp
    simp only [List.mem_cons] at hp
    rcases hp with rfl | rfl | hp
    · exact d2
    · exact d1
    · exact (off p hp).1
  · refine hret r pl' (tl ++ acc) (hObj aS i' t' e') h' tk' p1 (p2.mono fun a o x => x.elim (fun y => List.mem_append_right _ y) fun y => List.mem_append_left _ y) (fun x hx => List.mem_append_right _ hx) (fun p hp => ?_) F' (News.sub N' fun p hp => ?_)
    · rcases List.mem_append.mp hp with hp | hp
      · exact ⟨p3 p hp (aH, hObj aS i t e) (by simp), p3 p hp (c1, o1) (by simp), p3 p hp (c2, o2) (by simp)⟩
      · exact off p hp
    · simp only [List.mem_cons, List.mem_append] at hp ⊢
      rcases hp with h | h | h | h | h <;> simp [h]

/-- language_equal in a frame whose ledger bears both -/
theorem le_use {n : Nat} {u v : Value} {U V : Va} {b : Bool} {all : List (Addr × Obj)}
    (B : Below A₀ base outer h₀) (F : Fr h₀ L s.heap m) (X : (hd.heap_39 w.params).In h₀) (N : News h₀ L s.heap all) (T : Top hd.view_39 (looseW hd.view_39 [Str.ofString "list_of"]) mean mg mb h₀) (hU : VaR w (InL all) n u U) (hV : VaR w (InL all) n v V) (hb : eqv n U V = b) (hk : cs.kind = .function) (hdp : dp + (40 + 12 * n) < recursionLimit) (hun : un + 20 * (40 + 12 * n) < cLine)
    (ret : ∀ h' tk', Fr h₀ L h' m → News h₀ L h' all → Q (.bool b) { s with heap := h', toks := tk' }) :
    wpAny (model PySem.Challenge.rw_pq1391_01.row.prog w) (ktrTop dp un gd cn cs L ca ccd cl outer) (call (.ref 183) [u, v]) Q E s :=
  RoB.use (hb ▸ le_all n s.heap u v U V (hU.mono fun a o x => (N (a, o) x).1) (hV.mono fun a o x => (N (a, o) x).1)) B F X N T hk hdp hun fun h' tk' _ F' N' => ret h' tk' F' N'
theorem ae_use {n : Nat} {a b : Addr} {vs us : List Value} {ds es : List Va} {r : Bool} {all : List (Addr × Obj)} {e e' : Nat}
    (B : Below A₀ base outer h₀) (F : Fr h₀ L s.heap m) (X : (hd.heap_39 w.params).In h₀) (N : News h₀ L s.heap all) (T : Top hd.view_39 (looseW hd.view_39 [Str.ofString "list_of"]) mean mg mb h₀) (ha : (a, listOf (List.toArray vs) e) ∈ all) (hb : (b, listOf (List.toArray us) e') ∈ all) (hU : VasR w (InL all) n vs ds) (hV : VasR w (InL all) n us es) (hr : eqvs (eqv n) ds es = r) (hk : cs.kind = .function) (hdp : dp + (42 + 12 * n) < recursionLimit) (hun : un + 20 * (42 + 12 * n) < cLine)
    (ret : ∀ h' tk', Fr h₀ L h' m → News h₀ L h' all → Q (.bool r) { s with heap := h', toks := tk' }) :
    wpAny (model PySem.Challenge.rw_pq1391_01.row.prog w) (ktrTop dp un gd cn cs L ca ccd cl outer) (call (.ref 190) [.ref a, .ref b]) Q E s :=
  RoB.use (hr ▸ aes_all n s.heap a b vs us ds es e e' (N _ ha).1 (N _ hb).1 ⟨hU.len, hU.le, fun i v d x y => (hU.at' i v d x y).mono fun a o z => (N (a, o) z).1⟩ ⟨hV.len, hV.le, fun i v d x y => (hV.at' i v d x y).mono fun a o z => (N (a, o) z).1⟩) B F X N T hk hdp hun fun h' tk' _ F' N' => ret h' tk' F' N'
end
theorem call3_va {w : World} {R : Addr → Obj → Prop} {a dx li lt sx sd : Addr} {t0 t1 t2 t3 t4 t5 u0 u1 u2 u3 u4 : Tok} {at' : Value} {e e1 e2 e3 : Nat} {x y : Value} {X Y : Va} {nm : Str} (r1 : R a (instObj 110 dx))
    (r2 : R dx (dictOf [ent w.params "kind" t1 (.str "language" t0), ent w.params "items" t2 (.ref li), ent w.params "tags" t3 (.ref lt), ent w.params "attrs" t4 at', ent w.params "code" t5 .none] e))
    (r3 : R li (listOf #[.ref sx, x, y] e1)) (r4 : R lt (listOf #[.none, .none, .none] e2)) (s1 : R sx (instObj 88 sd)) (s2 : R sd (dictOf [ent w.params "kind" u1 (.str "symbol" u0), ent w.params "name" u2 (.str nm u4), ent w.params "attrs" u3 .none] e3))
    (hx : VaR w R 2 x X) (hy : VaR w R 2 y Y) : VaR w R 3 (.ref a) (.call [none, none, none] [.sym nm, X, Y]) := by
  refine .call (tvs := [.none, .none, .none]) (vs := [.ref sx, x, y]) r1 r2 r3 r4 rfl (by decide) (fun i v d h1 h2 => ?_) rfl (by simp) fun i v d h1 h2 => ?_
  · match i, h1, h2 with
    | 0, h1, h2 => cases h1; cases h2; exact .none
    | 1, h1, h2 => cases h1; cases h2; exact .none
    | 2, h1, h2 => cases h1; cases h2; exact .none
  · match i, h1, h2 with
    | 0, h1, h2 => cases h1; cases h2; exact .sym s1 s2
    | 1, h1, h2 => cases h1; cases h2; exact hx
    | 2, h1, h2 => cases h1; cases h2; exact hy
theorem call1_va {w : World} {R : Addr → Obj → Prop} {n : Nat} {a dx li lt sx sd : Addr} {t0 t1 t2 t3 t4 t5 u0 u1 u2 u3 u4 : Tok} {at' : Value} {e e1 e2 e3 : Nat} {nm : Str} (r1 : R a (instObj 110 dx))
    (r2 : R dx (dictOf [ent w.params "kind" t1 (.str "language" t0), ent w.params "items" t2 (.ref li), ent w.params "tags" t3 (.ref lt), ent w.params "attrs" t4 at', ent w.params "code" t5 .none] e))
    (r3 : R li (listOf #[.ref sx] e1)) (r4 : R lt (listOf #[.none] e2)) (s1 : R sx (instObj 88 sd)) (s2 : R sd (dictOf [ent w.params "kind" u1 (.str "symbol" u0), ent w.params "name" u2 (.str nm u4), ent w.params "attrs" u3 .none] e3)) :
    VaR w R (n + 1) (.ref a) (.call [none] [.sym nm]) := by
  refine .call (tvs := [.none]) (vs := [.ref sx]) r1 r2 r3 r4 rfl (by decide) (fun i v d h1 h2 => ?_) rfl (by simp) fun i v d h1 h2 => ?_
  · match i, h1, h2 with
    | 0, h1, h2 => cases h1; cases h2; exact .none
  · match i, h1, h2 with
    | 0, h1, h2 => cases h1; cases h2; exact .sym s1 s2
theorem mul_none3 {prog : Program} {w : World} {A : Around} {E : Value → Shared → Prop} {s : Shared} {h₀ : Heap} {L l : Addr} {m : Str → Option Value} {e : Nat} {u : Tok} {news : List (Addr × Obj)} {Q : Value → Shared → Prop} (F : Fr h₀ L s.heap m) (N : News h₀ L s.heap news) (hm : (l, listOf #[.none] e) ∈ news)
    (h : ∀ l' h', Fr h₀ L h' m → News h₀ L h' ((l', listOf #[.none, .none, .none] 0) :: news) → AllLt l' news → Q (.ref l') { s with heap := h' }) : wpAny (model prog w) A (binaryOp .Mult (.ref l) (.int 3 u)) Q E s :=
  mul_list F N (N _ hm).1 (by decide) (by decide) (by decide) fun h' F' N' => h _ h' F' N' (allLt_of fun p hp => Heap.lt_size (N p hp).1)
theorem mul_none1 {prog : Program} {w : World} {A : Around} {E : Value → Shared → Prop} {s : Shared} {h₀ : Heap} {L l : Addr} {m : Str → Option Value} {e : Nat} {u : Tok} {news : List (Addr × Obj)} {Q : Value → Shared → Prop} (F : Fr h₀ L s.heap m) (N : News h₀ L s.heap news) (hm : (l, listOf #[.none] e) ∈ news)
    (h : ∀ l' h', Fr h₀ L h' m → News h₀ L h' ((l', listOf #[.none] 0) :: news) → AllLt l' news → Q (.ref l') { s with heap := h' }) : wpAny (model prog w) A (binaryOp .Mult (.ref l) (.int 1 u)) Q E s :=
  mul_list F N (N _ hm).1 (by decide) (by decide) (by decide) fun h' F' N' => h _ h' F' N' (allLt_of fun p hp => Heap.lt_size (N p hp).1)
theorem vas_nil {w : World} {R : Addr → Obj → Prop} {n : Nat} : VasR w R n [] [] := ⟨rfl, by decide, fun i v d h => by simp at h⟩
theorem vas_cons {w : World} {R : Addr → Obj → Prop} {n : Nat} {x : Value} {d : Va} {xs : List Value} {ds : List Va} (h : VaR w R n x d) (k : VasR w R n xs ds) (h4 : ds.length < 4) : VasR w R n (x :: xs) (d :: ds) :=
  ⟨by simp [k.len], by simp; omega, fun i v d h1 h2 => by
    cases i with
    | zero => simp at h1 h2; subst h1 h2; exact h
    | succ i => exact k.at' i v d (by simpa using h1) (by simpa using h2)⟩
theorem share_sym_b {w : World} {mean : ExcName → Option Value} {mg mb : Str → Option Value} {dp un : Nat} {gd : Option (List Code)} {cn : Str} {cs : Scope} {ca : Addr} {ccd : Value} {cl : List (Str × Addr)} {outer : List Env} {A₀ : Around} {base h₀ : Heap} {L : Addr} {m : Str → Option Value} {s : Shared} {Q E : Value → Shared → Prop} {news : List (Addr × Obj)} {a dx : Addr} {o : Obj}
    (B : Below A₀ base outer h₀) (F : Fr h₀ L s.heap m) (X : (hd.heap_39 w.params).In h₀) (T : Top hd.view_39 (looseW hd.view_39 [Str.ofString "list_of"]) mean mg mb h₀) (hk : cs.kind = .function) (hdp : dp + 4 < recursionLimit) (p1 : h₀.get? a = some (instObj 88 dx)) (p2 : h₀.get? dx = some o) (N : News h₀ L s.heap news)
    (hret : ∀ h' tk', Fr h₀ L h' m → News h₀ L h' news → Q (.ref a) { s with heap := h', toks := tk' }) :
    wpAny (model PySem.Challenge.rw_pq1391_01.row.prog w) (ktrTop dp un gd cn cs L ca ccd cl outer) (call (.ref 169) [.ref a]) Q E s :=
  share_sym B F X T hk hdp (F.keep _ _ p1) (F.keep _ _ p2) fun h' tk' k => hret h' tk' (F.keeps k) (N.grown k)
theorem off1_of {d : Addr} : ∀ {l : List (Addr × Obj)}, (∀ p ∈ l, p.1 ≠ d) → LCg.Off1 d l
  | [], _ => trivial
  | p :: _, h => ⟨h p (.head _), off1_of fun q hq => h q (.tail _ hq)⟩


theorem rows_26 : True := by
  k_with_none
  (k_with "my ktr_room" => ((simp only [depth_under_make, depth_under_kw, depth_in1, depth_deeper, depth_caller, recursionLimit] at *); omega))
  (k_with "my ktr_units" => ((simp only [units_in1, units_deeper, Around.mark_units, units_caller, cLine] at *); omega))
  (k_with "my k_room" => ktr_room)
  (k_with "my ite" => (k_closed; first | (with_reducible refine ite_pos ?c ?_; (case c => decide +kernel)) | (with_reducible refine ite_neg ?c ?_; (case c => decide +kernel))))
  (k_with "my ktr_enter" => (refine' code_ro ?k1 ?k2 ?k3 ?k5 ?kA ?kF ?kK ?k6 ?k7 ?k8 ?k9 ?kB ?_ ?c2 ?c3 ?c4 ?c5; (case kA => exact rfl); (case kF => exact rfl); (case kK => assumption); (case k1 => k_asm); (case k2 => k_asm); (case k3 => k_asm); (case k5 => k_asm); (case k6 => k_is); (case k7 => k_is); (case k8 => ktr_room); (case k9 => first | exact BindsTo.of_eq rfl | exact binds_K (by k_in) rfl (by k_is) rfl rfl rfl | fail "k_enter: no rule for these arguments"); (case c5 => decide); (case kB => exact locs rfl); (case c2 => exact rfl); (case c3 => exact rfl); (case c4 => exact rfl); k_whole))
  (k_with "my ktr_rel" => (intro p9 h9; simp only [List.mem_cons, List.mem_append] at h9 ⊢; simp only [h9, true_or, or_true]))
  (k_with "my k_mem" => ((repeat (refine List.mem_cons_of_mem _ ?_)); assumption))
  (k_with "my subscriptTail List" => (k_here; k_dflt (refine kba_turn (value' := PySem.Expr.Name (PySem.Str.ofString "_") ⟨0, 0, 0, 0⟩) (fun _ => rfl) ?_)))
  (k_with "my subscriptTail Name" => (k_here; k_dflt (first | (refine' item_led ?N ?m ?a ?b ?x ?_; (case N => k_asm); (case m => k_mem); (case a => decide); (case b => decide); (case x => rfl); k_whole) | (refine' item_op ?N ?m ?a ?b ?c ?_; (case N => k_asm); (case m => k_mem); (case a => assumption); (case b => (simp only [List.length_cons, List.length_nil]; omega)); (case c => exact Nat.le_of_ble_eq_true rfl); k_whole; intro v' hv'))))
  (k_with "my k_enter" => (refine' code_def ?k1 ?k2 ?k3 ?k4 ?k5 ?kA ?kF ?kK ?k6 ?k7 ?k8 ?k9 ?kB ?_ ?c2 ?c3 ?c4 ?c5; (case kA => exact rfl); (case kF => exact rfl); (case kK => first | exact rfl | assumption); (case k1 => k_asm); (case k2 => k_asm); (case k3 => k_asm); (case k4 => k_asm); (case k5 => k_asm); (case k6 => k_is); (case k7 => k_is); (case k8 => ktr_room); (case k9 => first | exact BindsTo.of_eq rfl | exact binds_K (by k_in) rfl (by k_is) rfl rfl rfl | fail "k_enter: no rule for these arguments"); (case c5 => decide); (case kB => exact locs rfl); (case c2 => exact rfl); (case c3 => exact rfl); (case c4 => exact rfl); k_whole; intro g' L' h' FG' F' N' B' X' T'; (try dsimp only); (try k_fold)))
  (k_with "my call ref" => (k_here; k_dflt (refine' mk_sym ?k1 ?k2 ?k3 ?k4 ?k5 ?k6 ?k7 ?_; (case k1 => k_asm); (case k2 => k_asm); (case k3 => k_asm); (case k4 => k_asm); (case k5 => first | exact rfl | assumption); (case k6 => ktr_room); (case k7 => k_asm)); intro x' d' t0' t1' t2' t3' e' h' tk' F' N' l1' l2'; (try simp only [AllLt, and_true] at l1'); (try k_sweep)))
  (k_with "my call ref" => (k_here; k_dflt (refine' mk_text ?k1 ?k2 ?k3 ?k4 ?k5 ?k6 ?k7 ?_; (case k1 => k_asm); (case k2 => k_asm); (case k3 => k_asm); (case k4 => k_asm); (case k5 => first | exact rfl | assumption); (case k6 => ktr_room); (case k7 => k_asm)); intro x' d' li' t0' t1' t2' t3' t4' t5' e1' h' tk' F' N' l1' l4' l2' l3'; (try simp only [AllLt, and_true] at l1'); (try simp only [AllLt, and_true] at l4'); (try k_sweep)))
  (k_with "my call ref" => (k_here; k_dflt (refine' mk_vec ?k1 ?k2 ?k3 ?k4 ?k5 ?k6 ?k7 ?_; (case k1 => k_asm); (case k2 => k_asm); (case k3 => k_asm); (case k4 => k_asm); (case k5 => first | exact rfl | assumption); (case k6 => ktr_room); (case k7 => k_asm)); intro x' d' t0' t1' t2' t3' t4' t5' h' tk' F' N' l1' l2'; (try simp only [AllLt, and_true] at l1'); (try k_sweep)))
  (k_with "my call ref" => (k_here; k_dflt (refine' mk_call ?k1 ?k2 ?k3 ?k4 ?k5 ?k6 ?k7 ?_; (case k1 => k_asm); (case k2 => k_asm); (case k3 => k_asm); (case k4 => k_asm); (case k5 => first | exact rfl | assumption); (case k6 => ktr_room); (case k7 => k_asm)); intro x' d' t0' t1' t2' t3' t4' t5' e' h' tk' F' N' l1' l2'; (try simp only [AllLt, and_true] at l1'); (try k_sweep)))
  (k_with "my call ref" => (k_here; k_dflt (refine' mk_null ?k1 ?k2 ?k3 ?k4 ?k5 ?k6 ?k7 ?_; (case k1 => k_asm); (case k2 => k_asm); (case k3 => k_asm); (case k4 => k_asm); (case k5 => first | exact rfl | assumption); (case k6 => ktr_room); (case k7 => k_asm)); intro x' d' t0' t1' t2' e' h' tk' F' N' l1' l2'; (try simp only [AllLt, and_true] at l1'); (try k_sweep)))
  (k_with "my call ref" => (k_here; k_dflt (refine' mk_char ?k1 ?k2 ?k3 ?k4 ?k5 ?k6 ?k7 ?k8 ?_; (case k1 => k_asm); (case k2 => k_asm); (case k3 => k_asm); (case k4 => k_asm); (case k5 => first | exact rfl | assumption); (case k6 => ktr_room); (case k7 => k_asm); (case k8 => k_mem)); intro x' d' li' t0' t1' t2' t3' t4' t5' e1' h' tk' F' N' l1' l4' l2' l3'; (try simp only [AllLt, and_true] at l1'); (try simp only [AllLt, and_true] at l4'); (try k_sweep)))
  (k_with "my call ref" => ((with_reducible show wpAny _ _ (call (Value.ref 169) _) _ _ _); k_here; k_dflt (refine' share_sym_b ?k1 ?k2 ?k3 ?k4 ?k5 ?k6 ?k7 ?k8 ?k9 ?_; (case k1 => k_asm); (case k2 => k_asm); (case k3 => k_asm); (case k4 => k_asm); (case k5 => first | exact rfl | assumption); (case k6 => ktr_room); (case k7 => assumption); (case k8 => assumption); (case k9 => k_asm)); intro h' tk' F' N'; (try k_sweep)))
  exact trivial
set_option maxRecDepth 100000 in
set_option maxHeartbeats 4000000 in
theorem mk_lst1 {w : World} {mean : ExcName → Option Value} {mg mb : Str → Option Value} {dp un : Nat} {gd : Option (List Code)} {cn : Str} {cs : Scope} {ca : Addr} {ccd : Value} {cl : List (Str × Addr)} {outer : List Env} {A₀ : Around} {base h₀ : Heap} {L : Addr} {m : Str → Option Value} {s : Shared} {Q E : Value → Shared → Prop} {news : List (Addr × Obj)} {l0 x dx : Addr} {ox : Obj} {e0 : Nat}
    (B : Below A₀ base outer h₀) (F : Fr h₀ L s.heap m) (X : (hd.heap_39 w.params).In h₀) (T : Top hd.view_39 (looseW hd.view_39 [Str.ofString "list_of"]) mean mg mb h₀) (hk : cs.kind = .function) (hdp : dp + 16 < recursionLimit) (N : News h₀ L s.heap news)
    (h1 : (l0, listOf #[.ref x] e0) ∈ news) (h2 : (x, instObj 88 dx) ∈ news) (h3 : (dx, ox) ∈ news)
    (hret : ∀ a d li t0 t1 t2 t3 t4 t5 e e1 h' tk', Fr h₀ L h' m → News h₀ L h' ((a, instObj 67 d) :: (d, vecD w.params "list" t0 t1 t2 t3 t4 t5 (.ref li) .none false e) :: (li, listOf #[.ref x] e1) :: news) → LCg.Off1 a news → LCg.Off1 d news → LCg.Off1 li news → Q (.ref a) { s with heap := h', toks := tk' }) :
    wpAny (model PySem.Challenge.rw_pq1391_01.row.prog w) (ktrTop dp un gd cn cs L ca ccd cl outer) (call (.ref 148) [.ref l0]) Q E s := by
  have hl : s.heap.IsList l0 (List.toArray [.ref x]) := isList_of (N _ h1).1
  have hx : s.heap.get? x = some (instObj 88 dx) := (N _ h2).1
  have hdx : s.heap.get? dx = some ox := (N _ h3).1
  w_on
  revert X T
  k_fill
  intro X T
  refine wpAny_call ?_
  k_dflt ktr_enter
  intro L' h' F' N' B' X' T'
  (try dsimp only)
  k_fold
  repeat' (first | (k_unfold; (try dsimp only)) | walk1 | (dsimp only; walk1))
  (rename News s.heap _ _ _ => kN)
  (rename Fr s.heap _ _ _ => kF)
  obtain ⟨qF, qN, qD⟩ := made_out F N kF kN
  exact hret _ _ _ _ _ _ _ _ _ _ _ _ _ qF qN (off1_of fun p hp => Ne.symm (qD _ (.head _) p hp)) (off1_of fun p hp => Ne.symm (qD _ (.tail _ (.head _)) p hp)) (off1_of fun p hp => Ne.symm (qD _ (.tail _ (.tail _ (.head _))) p hp))
theorem mul_noneX {prog : Program} {w : World} {A : Around} {E : Value → Shared → Prop} {s : Shared} {h₀ : Heap} {L l : Addr} {m : Str → Option Value} {e : Nat} {x : Int} {u : Tok} {vs : List Value} {news : List (Addr × Obj)} {Q : Value → Shared → Prop} (F : Fr h₀ L s.heap m) (N : News h₀ L s.heap news) (hm : (l, listOf #[.none] e) ∈ news)
    (hx : x = 3 ∧ vs = [.none, .none, .none] ∨ x = 1 ∧ vs = [.none])
    (h : ∀ l' h', Fr h₀ L h' m → News h₀ L h' ((l', listOf (List.toArray vs) 0) :: news) → AllLt l' news → Q (.ref l') { s with heap := h' }) : wpAny (model prog w) A (binaryOp .Mult (.ref l) (.int x u)) Q E s := by
  rcases hx with ⟨rfl, rfl⟩ | ⟨rfl, rfl⟩
  · exact mul_none3 F N hm h
  · exact mul_none1 F N hm h
theorem keep2 {h₀ h : Heap} {L aH c1 c2 : Addr} {o1 o2 : Obj} {acc all : List (Addr × Obj)} (_off : OffC aH c1 c2 acc) (N : News h₀ L h all) (h2 : (c2, o2) ∈ all) (h1 : (c1, o1) ∈ all) : News h₀ L h [(c2, o2), (c1, o1)] := by
  intro p hp
  rcases List.mem_cons.mp hp with rfl | hp
  · exact N _ h2
  · rw [List.mem_singleton.mp hp]; exact N _ h1
theorem lst1_va {w : World} {R : Addr → Obj → Prop} {n : Nat} {a dx li sx sd : Addr} {t0 t1 t2 t3 t4 t5 u0 u1 u2 u3 u4 : Tok} {e e1 e3 : Nat} {sh : Bool} {nm : Str} (r1 : R a (instObj 67 dx)) (r2 : R dx (vecD w.params "list" t0 t1 t2 t3 t4 t5 (.ref li) .none sh e)) (r3 : R li (listOf #[.ref sx] e1))
    (s1 : R sx (instObj 88 sd)) (s2 : R sd (dictOf [ent w.params "kind" u1 (.str "symbol" u0), ent w.params "name" u2 (.str nm u4), ent w.params "attrs" u3 .none] e3)) : VaR w R (n + 1) (.ref a) (.lst [.sym nm]) := by
  refine .lst (vs := [.ref sx]) r1 r2 r3 rfl (by simp) fun i v d h1 h2 => ?_
  match i, h1, h2 with
  | 0, h1, h2 => cases h1; cases h2; exact .sym s1 s2
noncomputable def noCell (l : List (Addr × Obj)) : Bool := l.all fun p => match p.2.data with | .cell _ => false | _ => true
theorem at_ {l : List (Addr × Obj)} (i : Nat) {x : Addr × Obj} (h : l[i]? = some x) : x ∈ l := List.mem_of_getElem? h
theorem pack {w : World} {h₀ h : Heap} {L D c1 c2 : Addr} {o1 o2 : Obj} {v1 v2 : Option Value} {E : List (Addr × Obj)} {a0 a1 a2 a3 : Value} {A0 A1 A2 A3 : Va} {e : Nat} (N : News h₀ L h (E ++ [(c2, o2), (c1, o1)])) (d2 : o2.data = .cell v2) (d1 : o1.data = .cell v1) (hE : noCell E = true)
    (hD : (D, listOf #[a0, a1, a2, a3] e) ∈ E) (h0 : VaR w (InL E) 2 a0 A0) (h1 : VaR w (InL E) 2 a1 A1) (h2 : VaR w (InL E) 2 a2 A2) (h3 : VaR w (InL E) 2 a3 A3) :
    ∃ acc, News h₀ L h ((c2, o2) :: (c1, o1) :: acc) ∧ (∀ p ∈ acc, p.1 ≠ c1) ∧ (∀ p ∈ acc, p.1 ≠ c2) ∧ (D, listOf #[a0, a1, a2, a3] e) ∈ acc ∧ VaR w (InL acc) 2 a0 A0 ∧ VaR w (InL acc) 2 a1 A1 ∧ VaR w (InL acc) 2 a2 A2 ∧ VaR w (InL acc) 2 a3 A3 := by
  have off : ∀ {c : Addr} {o : Obj} {v : Option Value}, (c, o) ∈ E ++ [(c2, o2), (c1, o1)] → o.data = .cell v → ∀ p ∈ E, p.1 ≠ c := by
    intro c o v hm hd p hp e
    have e1 := (N p (List.mem_append_left _ hp)).1
    have e2 := (N (c, o) hm).1
    rw [e] at e1
    have e3 : p.2 = o := Option.some.inj (e1.symm.trans e2)
    have := List.all_eq_true.mp hE p hp
    rw [e3, hd] at this
    cases this
  refine ⟨E, News.sub N fun p hp => ?_, off (List.mem_append_right _ (.tail _ (.head _))) d1, off (List.mem_append_right _ (.head _)) d2, hD, h0, h1, h2, h3⟩
  simp only [List.mem_cons, List.mem_append, List.not_mem_nil, or_false] at hp ⊢
  rcases hp with h | h | h <;> simp [h]
theorem sub6 {α : Type} {tl news : List α} {p1 p2 p3 p4 p5 p6 : α} (h1 : p1 ∈ tl) (h2 : p2 ∈ tl) (h3 : p3 ∈ tl) (h4 : p4 ∈ tl) (h5 : p5 ∈ tl) (h6 : p6 ∈ tl) : ∀ p ∈ p1 :: p2 :: p3 :: p4 :: p5 :: p6 :: news, p ∈ tl ++ news := by
  intro p hp
  simp only [List.mem_cons] at hp
  rcases hp with rfl | rfl | rfl | rfl | rfl | rfl | hp
  all_goals first | exact List.mem_append_left _ (by assumption) | exact List.mem_append_right _ hp


theorem rows_27 : True := by
  k_with_none
  (k_with "my ktr_room" => ((simp only [depth_under_make, depth_under_kw, depth_in1, depth_deeper, depth_caller, recursionLimit] at *); omega))
  (k_with "my ktr_units" => ((simp only [units_in1, units_deeper, Around.mark_units, units_caller, cLine] at *); omega))
  (k_with "my k_room" => ktr_room)
  (k_with "my ite" => (k_closed; first | (with_reducible refine ite_pos ?c ?_; (case c => decide +kernel)) | (with_reducible refine ite_neg ?c ?_; (case c => decide +kernel))))
  (k_with "my ktr_enter" => (refine' code_ro ?k1 ?k2 ?k3 ?k5 ?kA ?kF ?kK ?k6 ?k7 ?k8 ?k9 ?kB ?_ ?c2 ?c3 ?c4 ?c5; (case kA => exact rfl); (case kF => exact rfl); (case kK => assumption); (case k1 => k_asm); (case k2 => k_asm); (case k3 => k_asm); (case k5 => k_asm); (case k6 => k_is); (case k7 => k_is); (case k8 => ktr_room); (case k9 => first | exact BindsTo.of_eq rfl | exact binds_K (by k_in) rfl (by k_is) rfl rfl rfl | fail "k_enter: no rule for these arguments"); (case c5 => decide); (case kB => exact locs rfl); (case c2 => exact rfl); (case c3 => exact rfl); (case c4 => exact rfl); k_whole))
  (k_with "my ktr_rel" => (intro p9 h9; simp only [List.mem_cons, List.mem_append] at h9 ⊢; simp only [h9, true_or, or_true]))
  (k_with "my k_mem" => ((repeat (refine List.mem_cons_of_mem _ ?_)); assumption))
  (k_with "my subscriptTail List" => (k_here; k_dflt (refine kba_turn (value' := PySem.Expr.Name (PySem.Str.ofString "_") ⟨0, 0, 0, 0⟩) (fun _ => rfl) ?_)))
  (k_with "my subscriptTail Name" => (k_here; k_dflt (first | (refine' item_led ?N ?m ?a ?b ?x ?_; (case N => k_asm); (case m => k_mem); (case a => decide); (case b => decide); (case x => rfl); k_whole) | (refine' item_op ?N ?m ?a ?b ?c ?_; (case N => k_asm); (case m => k_mem); (case a => assumption); (case b => (simp only [List.length_cons, List.length_nil]; omega)); (case c => exact Nat.le_of_ble_eq_true rfl); k_whole; intro v' hv'))))
  (k_with "my k_enter" => (refine' code_def ?k1 ?k2 ?k3 ?k4 ?k5 ?kA ?kF ?kK ?k6 ?k7 ?k8 ?k9 ?kB ?_ ?c2 ?c3 ?c4 ?c5; (case kA => exact rfl); (case kF => exact rfl); (case kK => first | exact rfl | assumption); (case k1 => k_asm); (case k2 => k_asm); (case k3 => k_asm); (case k4 => k_asm); (case k5 => k_asm); (case k6 => k_is); (case k7 => k_is); (case k8 => ktr_room); (case k9 => first | exact BindsTo.of_eq rfl | exact binds_K (by k_in) rfl (by k_is) rfl rfl rfl | fail "k_enter: no rule for these arguments"); (case c5 => decide); (case kB => exact locs rfl); (case c2 => exact rfl); (case c3 => exact rfl); (case c4 => exact rfl); k_whole; intro g' L' h' FG' F' N' B' X' T'; (try dsimp only); (try k_fold)))
  (k_with "my call ref" => (k_here; k_dflt (refine' mk_sym ?k1 ?k2 ?k3 ?k4 ?k5 ?k6 ?k7 ?_; (case k1 => k_asm); (case k2 => k_asm); (case k3 => k_asm); (case k4 => k_asm); (case k5 => first | exact rfl | assumption); (case k6 => ktr_room); (case k7 => k_asm)); intro x' d' t0' t1' t2' t3' e' h' tk' F' N' l1' l2'; (try simp only [AllLt, and_true] at l1'); (try k_sweep)))
  (k_with "my call ref" => (k_here; k_dflt (refine' mk_text ?k1 ?k2 ?k3 ?k4 ?k5 ?k6 ?k7 ?_; (case k1 => k_asm); (case k2 => k_asm); (case k3 => k_asm); (case k4 => k_asm); (case k5 => first | exact rfl | assumption); (case k6 => ktr_room); (case k7 => k_asm)); intro x' d' li' t0' t1' t2' t3' t4' t5' e1' h' tk' F' N' l1' l4' l2' l3'; (try simp only [AllLt, and_true] at l1'); (try simp only [AllLt, and_true] at l4'); (try k_sweep)))
  (k_with "my call ref" => (k_here; k_dflt (refine' mk_vec ?k1 ?k2 ?k3 ?k4 ?k5 ?k6 ?k7 ?_; (case k1 => k_asm); (case k2 => k_asm); (case k3 => k_asm); (case k4 => k_asm); (case k5 => first | exact rfl | assumption); (case k6 => ktr_room); (case k7 => k_asm)); intro x' d' t0' t1' t2' t3' t4' t5' h' tk' F' N' l1' l2'; (try simp only [AllLt, and_true] at l1'); (try k_sweep)))
  (k_with "my call ref" => (k_here; k_dflt (refine' mk_call ?k1 ?k2 ?k3 ?k4 ?k5 ?k6 ?k7 ?_; (case k1 => k_asm); (case k2 => k_asm); (case k3 => k_asm); (case k4 => k_asm); (case k5 => first | exact rfl | assumption); (case k6 => ktr_room); (case k7 => k_asm)); intro x' d' t0' t1' t2' t3' t4' t5' e' h' tk' F' N' l1' l2'; (try simp only [AllLt, and_true] at l1'); (try k_sweep)))
  (k_with "my call ref" => (k_here; k_dflt (refine' mk_null ?k1 ?k2 ?k3 ?k4 ?k5 ?k6 ?k7 ?_; (case k1 => k_asm); (case k2 => k_asm); (case k3 => k_asm); (case k4 => k_asm); (case k5 => first | exact rfl | assumption); (case k6 => ktr_room); (case k7 => k_asm)); intro x' d' t0' t1' t2' e' h' tk' F' N' l1' l2'; (try simp only [AllLt, and_true] at l1'); (try k_sweep)))
  (k_with "my call ref" => (k_here; k_dflt (refine' mk_char ?k1 ?k2 ?k3 ?k4 ?k5 ?k6 ?k7 ?k8 ?_; (case k1 => k_asm); (case k2 => k_asm); (case k3 => k_asm); (case k4 => k_asm); (case k5 => first | exact rfl | assumption); (case k6 => ktr_room); (case k7 => k_asm); (case k8 => k_mem)); intro x' d' li' t0' t1' t2' t3' t4' t5' e1' h' tk' F' N' l1' l4' l2' l3'; (try simp only [AllLt, and_true] at l1'); (try simp only [AllLt, and_true] at l4'); (try k_sweep)))
  (k_with "my call ref" => ((with_reducible show wpAny _ _ (call (Value.ref 169) _) _ _ _); k_here; k_dflt (refine' share_sym_b ?k1 ?k2 ?k3 ?k4 ?k5 ?k6 ?k7 ?k8 ?k9 ?_; (case k1 => k_asm); (case k2 => k_asm); (case k3 => k_asm); (case k4 => k_asm); (case k5 => first | exact rfl | assumption); (case k6 => ktr_room); (case k7 => assumption); (case k8 => assumption); (case k9 => k_asm)); intro h' tk' F' N'; (try k_sweep)))
  (k_with "my binaryOp Mult ref int" => (k_here; k_dflt (refine' mul_noneX ?Fq9 ?Nq9 ?aq9 ?x9 ?_; (case Fq9 => k_asm); (case Nq9 => k_asm); (case aq9 => k_mem); (case x9 => first | exact .inl ⟨rfl, rfl⟩ | exact .inr ⟨rfl, rfl⟩); k_whole); intro l' h' F' N' l1'; (try simp only [AllLt, and_true] at l1'); (try k_sweep)))
  exact trivial
set_option maxRecDepth 100000 in
set_option maxHeartbeats 4000000 in
theorem mk_call2 {w : World} {mean : ExcName → Option Value} {mg mb : Str → Option Value} {dp un : Nat} {gd : Option (List Code)} {cn : Str} {cs : Scope} {ca : Addr} {ccd : Value} {cl : List (Str × Addr)} {outer : List Env} {A₀ : Around} {base h₀ : Heap} {L : Addr} {m : Str → Option Value} {s : Shared} {Q E : Value → Shared → Prop} {news : List (Addr × Obj)} {l0 : Addr} {u : Tok} {nm : Str} {e0 : Nat} {x y : Value}
    (B : Below A₀ base outer h₀) (F : Fr h₀ L s.heap m) (X : (hd.heap_39 w.params).In h₀) (T : Top hd.view_39 (looseW hd.view_39 [Str.ofString "list_of"]) mean mg mb h₀) (hk : cs.kind = .function) (hdp : dp + 16 < recursionLimit) (N : News h₀ L s.heap news)
    (h1 : (l0, listOf #[x, y] e0) ∈ news)
    (hret : ∀ a d li lt sx sd t0 t1 t2 t3 t4 t5 u0 u1 u2 u3 u4 e e1 e2 e3 h' tk', Fr h₀ L h' m →
      News h₀ L h' ((a, instObj 110 d) :: (d, dictOf [ent w.params "kind" t1 (.str "language" t0), ent w.params "items" t2 (.ref li), ent w.params "tags" t3 (.ref lt), ent w.params "attrs" t4 .none, ent w.params "code" t5 .none] e) :: (li, listOf #[.ref sx, x, y] e1) :: (lt, listOf #[.none, .none, .none] e2) ::
        (sx, instObj 88 sd) :: (sd, dictOf [ent w.params "kind" u1 (.str "symbol" u0), ent w.params "name" u2 (.str nm u4), ent w.params "attrs" u3 .none] e3) :: news) →
      ((@LT.lt Nat _ d a) ∧ (@LT.lt Nat _ li d) ∧ (@LT.lt Nat _ lt d) ∧ (@LT.lt Nat _ sx d) ∧ (@LT.lt Nat _ sd d)) → (∀ q ∈ news, (@Ne Nat a q.1) ∧ (@Ne Nat d q.1) ∧ (@Ne Nat li q.1) ∧ (@Ne Nat lt q.1) ∧ (@Ne Nat sx q.1) ∧ (@Ne Nat sd q.1)) → Q (.ref a) { s with heap := h', toks := tk' }) :
    wpAny (model PySem.Challenge.rw_pq1391_01.row.prog w) (ktrTop dp un gd cn cs L ca ccd cl outer) (call (.ref 162) [.str nm u, .ref l0]) Q E s := by
  have hl : s.heap.IsList l0 (List.toArray [x, y]) := isList_of (N _ h1).1
  w_on
  revert X T
  k_fill
  intro X T
  refine wpAny_call ?_
  k_dflt ktr_enter
  intro L' h' F' N' B' X' T'
  (try dsimp only)
  k_fold
  repeat' (first | (k_unfold; (try dsimp only)) | walk1 | (dsimp only; walk1))
  (rename News s.heap _ _ _ => kN)
  (rename Fr s.heap _ _ _ => kF)
  obtain ⟨qF, qN, qD⟩ := made_out F N kF kN
  refine hret _ _ _ _ _ _ _ _ _ _ _ _ _ _ _ _ _ _ _ _ _ _ _ qF (News.sub qN (sub6 (at_ 0 rfl) (at_ 1 rfl) (at_ 4 rfl) (at_ 2 rfl) (at_ 7 rfl) (at_ 8 rfl))) ?oo9 fun q hq => ⟨qD _ (at_ 0 rfl) q hq, qD _ (at_ 1 rfl) q hq, qD _ (at_ 4 rfl) q hq, qD _ (at_ 2 rfl) q hq, qD _ (at_ 7 rfl) q hq, qD _ (at_ 8 rfl) q hq⟩
  (refine ⟨?_, ?_, ?_, ?_, ?_⟩ <;> first | assumption | omega)
set_option maxRecDepth 100000 in
set_option maxHeartbeats 4000000 in
theorem mk_call0 {w : World} {mean : ExcName → Option Value} {mg mb : Str → Option Value} {dp un : Nat} {gd : Option (List Code)} {cn : Str} {cs : Scope} {ca : Addr} {ccd : Value} {cl : List (Str × Addr)} {outer : List Env} {A₀ : Around} {base h₀ : Heap} {L : Addr} {m : Str → Option Value} {s : Shared} {Q E : Value → Shared → Prop} {news : List (Addr × Obj)} {l0 : Addr} {u : Tok} {nm : Str} {e0 : Nat}
    (B : Below A₀ base outer h₀) (F : Fr h₀ L s.heap m) (X : (hd.heap_39 w.params).In h₀) (T : Top hd.view_39 (looseW hd.view_39 [Str.ofString "list_of"]) mean mg mb h₀) (hk : cs.kind = .function) (hdp : dp + 16 < recursionLimit) (N : News h₀ L s.heap news)
    (h1 : (l0, listOf #[] e0) ∈ news)
    (hret : ∀ a d li lt sx sd t0 t1 t2 t3 t4 t5 u0 u1 u2 u3 u4 e e1 e2 e3 h' tk', Fr h₀ L h' m →
      News h₀ L h' ((a, instObj 110 d) :: (d, dictOf [ent w.params "kind" t1 (.str "language" t0), ent w.params "items" t2 (.ref li), ent w.params "tags" t3 (.ref lt), ent w.params "attrs" t4 .none, ent w.params "code" t5 .none] e) :: (li, listOf #[.ref sx] e1) :: (lt, listOf #[.none] e2) ::
        (sx, instObj 88 sd) :: (sd, dictOf [ent w.params "kind" u1 (.str "symbol" u0), ent w.params "name" u2 (.str nm u4), ent w.params "attrs" u3 .none] e3) :: news) →
      ((@LT.lt Nat _ d a) ∧ (@LT.lt Nat _ li d) ∧ (@LT.lt Nat _ lt d) ∧ (@LT.lt Nat _ sx d) ∧ (@LT.lt Nat _ sd d)) → (∀ q ∈ news, (@Ne Nat a q.1) ∧ (@Ne Nat d q.1) ∧ (@Ne Nat li q.1) ∧ (@Ne Nat lt q.1) ∧ (@Ne Nat sx q.1) ∧ (@Ne Nat sd q.1)) → Q (.ref a) { s with heap := h', toks := tk' }) :
    wpAny (model PySem.Challenge.rw_pq1391_01.row.prog w) (ktrTop dp un gd cn cs L ca ccd cl outer) (call (.ref 162) [.str nm u, .ref l0]) Q E s := by
  have hl : s.heap.IsList l0 (List.toArray []) := isList_of (N _ h1).1
  w_on
  revert X T
  k_fill
  intro X T
  refine wpAny_call ?_
  k_dflt ktr_enter
  intro L' h' F' N' B' X' T'
  (try dsimp only)
  k_fold
  repeat' (first | (k_unfold; (try dsimp only)) | walk1 | (dsimp only; walk1))
  (rename News s.heap _ _ _ => kN)
  (rename Fr s.heap _ _ _ => kF)
  obtain ⟨qF, qN, qD⟩ := made_out F N kF kN
  refine hret _ _ _ _ _ _ _ _ _ _ _ _ _ _ _ _ _ _ _ _ _ _ _ qF (News.sub qN (sub6 (at_ 0 rfl) (at_ 1 rfl) (at_ 4 rfl) (at_ 2 rfl) (at_ 7 rfl) (at_ 8 rfl))) ?oo9 fun q hq => ⟨qD _ (at_ 0 rfl) q hq, qD _ (at_ 1 rfl) q hq, qD _ (at_ 4 rfl) q hq, qD _ (at_ 2 rfl) q hq, qD _ (at_ 7 rfl) q hq, qD _ (at_ 8 rfl) q hq⟩
  (refine ⟨?_, ?_, ?_, ?_, ?_⟩ <;> first | assumption | omega)
theorem packC {h₀ h : Heap} {L : Addr} {l0 p1 p2 p3 p4 p5 p6 : Addr × Obj} {aH c1 c2 : Addr} {oH o1 o2 : Obj} {acc : List (Addr × Obj)} (N : News h₀ L h (p1 :: p2 :: p3 :: p4 :: p5 :: p6 :: l0 :: (aH, oH) :: (c2, o2) :: (c1, o1) :: acc))
    (hne : ∀ q ∈ l0 :: (aH, oH) :: (c2, o2) :: (c1, o1) :: acc, (@Ne Nat p1.1 q.1) ∧ (@Ne Nat p2.1 q.1) ∧ (@Ne Nat p3.1 q.1) ∧ (@Ne Nat p4.1 q.1) ∧ (@Ne Nat p5.1 q.1) ∧ (@Ne Nat p6.1 q.1)) (off : OffC aH c1 c2 acc) :
    ∃ acc', (∀ x ∈ acc, x ∈ acc') ∧ p1 ∈ acc' ∧ p2 ∈ acc' ∧ p3 ∈ acc' ∧ p4 ∈ acc' ∧ p5 ∈ acc' ∧ p6 ∈ acc' ∧ OffC aH c1 c2 acc' ∧ News h₀ L h ((aH, oH) :: (c2, o2) :: (c1, o1) :: acc') := by
  refine ⟨[p1, p2, p3, p4, p5, p6] ++ acc, fun x hx => List.mem_append_right _ hx, by simp, by simp, by simp, by simp, by simp, by simp, fun p hp => ?_, News.sub N fun p hp => ?_⟩
  · have e1 := hne (aH, oH) (by simp)
    have e2 := hne (c1, o1) (by simp)
    have e3 := hne (c2, o2) (by simp)
    rcases List.mem_append.mp hp with hp | hp
    · simp only [List.mem_cons, List.not_mem_nil, or_false] at hp
      rcases hp with rfl | rfl | rfl | rfl | rfl | rfl
      · exact ⟨e1.1, e2.1, e3.1⟩
      · exact ⟨e1.2.1, e2.2.1, e3.2.1⟩
      · exact ⟨e1.2.2.1, e2.2.2.1, e3.2.2.1⟩
      · exact ⟨e1.2.2.2.1, e2.2.2.2.1, e3.2.2.2.1⟩
      · exact ⟨e1.2.2.2.2.1, e2.2.2.2.2.1, e3.2.2.2.2.1⟩
      · exact ⟨e1.2.2.2.2.2, e2.2.2.2.2.2, e3.2.2.2.2.2⟩
    · exact off p hp
  · simp only [List.mem_cons, List.mem_append, List.not_mem_nil, or_false] at hp ⊢
    rcases hp with h | h | h | (h | h | h | h | h | h) | h <;> simp [h]
/-- call_of of two items, the ledger left as one letter -/
theorem call_of_a {w : World} {mean : ExcName → Option Value} {mg mb : Str → Option Value} {dp un : Nat} {gd : Option (List Code)} {cn : Str} {cs : Scope} {ca : Addr} {ccd : Value} {cl : List (Str × Addr)} {outer : List Env} {A₀ : Around} {base h₀ : Heap} {L : Addr} {m : Str → Option Value} {s : Shared} {Q E : Value → Shared → Prop} {acc : List (Addr × Obj)} {aH c1 c2 : Addr} {oH o1 o2 : Obj} {l0 : Addr} {x y : Value} {Xv Yv : Va} {u : Tok} {nm : Str} {e0 : Nat}
    (B : Below A₀ base outer h₀) (F : Fr h₀ L s.heap m) (X : (hd.heap_39 w.params).In h₀) (T : Top hd.view_39 (looseW hd.view_39 [Str.ofString "list_of"]) mean mg mb h₀) (hk : cs.kind = .function) (hdp : dp + 16 < recursionLimit) (N : News h₀ L s.heap ((l0, listOf #[x, y] e0) :: (aH, oH) :: (c2, o2) :: (c1, o1) :: acc))
    (hx : VaR w (InL acc) 2 x Xv) (hy : VaR w (InL acc) 2 y Yv) (off : OffC aH c1 c2 acc)
    (hret : ∀ a acc' h' tk', VaR w (InL acc') 3 (.ref a) (.call [none, none, none] [.sym nm, Xv, Yv]) → (∀ x ∈ acc, x ∈ acc') → OffC aH c1 c2 acc' → Fr h₀ L h' m → News h₀ L h' ((aH, oH) :: (c2, o2) :: (c1, o1) :: acc') → Q (.ref a) { s with heap := h', toks := tk' }) :
    wpAny (model PySem.Challenge.rw_pq1391_01.row.prog w) (ktrTop dp un gd cn cs L ca ccd cl outer) (call (.ref 162) [.str nm u, .ref l0]) Q E s := by
  refine mk_call2 B F X T hk hdp N (.head _) fun a d li lt sx sd t0 t1 t2 t3 t4 t5 u0 u1 u2 u3 u4 e e1 e2 e3 h' tk' F' N' hda hne => ?_
  obtain ⟨acc', hs, m1, m2, m3, m4, m5, m6, off', N2⟩ := packC N' hne off
  exact hret a acc' h' tk' (call3_va m1 m2 m3 m4 m5 m6 (hx.mono fun a o z => hs _ z) (hy.mono fun a o z => hs _ z)) hs off' F' N2
/-- what stands after a turn: the loop's cell and the rest, as before -/
def Keep (m : Str → Option Value) (ck : Addr) (rest : List (Addr × Obj)) (m' : Str → Option Value) (n' : List (Addr × Obj)) : Prop :=
  m' = m ∧ ∃ ok v0, ok.data = .cell v0 ∧ n' = (ck, ok) :: rest
def Turn (prog : Program) (w : World) (A : Around) (E : Value → Shared → Prop) (h₀ : Heap) (env : Env) (body : List Stmt) (Q : Flow → Shared → Prop) (s : Shared) (m : Str → Option Value) (ck : Addr) (rest : List (Addr × Obj)) (i : Int) : Prop :=
  ∀ (I : Addr) (it o' : Obj) (t : Tok) (h : Heap) (tk : Nat), o'.data = .cell (some (.int i t)) → (∀ p ∈ rest, p.1 ≠ I) → @Ne Nat ck I → Fr h₀ env.locals h m → News h₀ env.locals h ((I, it) :: (ck, o') :: rest) →
    wpAny (model prog w) A (execs body env) (UnrPost h₀ env.locals s I it (Keep m ck rest) Q) E { s with heap := h, toks := tk }
theorem iter4 {prog : Program} {w : World} {A : Around} {E : Value → Shared → Prop} {s : Shared} {h₀ : Heap} {L a : Addr} {cn : Str} {cs : Scope} {ccd : Value} {cl : List (Str × Addr)} {x : Str} {px : Pos} {body : List Stmt} {Q : Flow → Shared → Prop}
    {r : Addr} {t₀ u₀ v₀ : Tok} {m : Str → Option Value} {ck : Addr} {ok : Obj} {vk : Option Value} {rest : List (Addr × Obj)}
    (hh : A.handled = none) (hr : IsRange s.heap r 0 4 1 t₀ u₀ v₀) (F : Fr h₀ L s.heap m) (N : News h₀ L s.heap ((ck, ok) :: rest)) (d : ok.data = .cell vk) (hc : cl.lookup x = some ck) (off : ∀ p ∈ rest, p.1 ≠ ck)
    (hk : cs.kind = .function) (hx : (envX cn cs L a ccd cl).kindOf x = some .cell)
    (T0 : Turn prog w A E h₀ (envX cn cs L a ccd cl) body Q s m ck rest 0) (T1 : Turn prog w A E h₀ (envX cn cs L a ccd cl) body Q s m ck rest 1)
    (T2 : Turn prog w A E h₀ (envX cn cs L a ccd cl) body Q s m ck rest 2) (T3 : Turn prog w A E h₀ (envX cn cs L a ccd cl) body Q s m ck rest 3)
    (done : ∀ h tk ok' v', ok'.data = .cell v' → Fr h₀ L h m → News h₀ L h ((ck, ok') :: rest) → Q .next { s with heap := h, toks := tk }) :
    wpAny (model prog w) A (pyIter (.ref r)) (fun it s₂ => TurnsAt prog w A h₀ (envX cn cs L a ccd cl) (.Name x px) body Q E it s₂) E s := by
  refine wpAny_pyIter_range hr (by decide) ?_
  have hI := next_is_new F
  have hsz : Builtin.Range.rangeSize 0 4 1 = ((4 : Nat) : Int) := by decide
  rw [hsz]
  refine ⟨s.heap.objs.size, [s.heap.objs.size], [s.heap.objs.size], 4, _, _, _, m, (ck, ok) :: rest, fun _ m' n' => Keep m ck rest m' n' ∧ ∀ p ∈ (ck, ok) :: rest, p.1 ≠ s.heap.objs.size, rfl,
    KTurns.ofWalks (Walks.range hh s.heap.objs.size 0 1 4).bound (fun i v s Q E st q => wpAny_pure q), ?_, ?_, ?_, ?_, F.push _, (fun p hp => ⟨Heap.get?_push_of_some _ (N p hp).1, (N p hp).2⟩), ⟨⟨rfl, ok, vk, d, rfl⟩, fun p hp => Nat.ne_of_lt (Heap.lt_size (N p hp).1)⟩, ?_, ?_⟩
  · intro hm
    exact absurd F.ns.lt ((List.mem_singleton.mp hm) ▸ Nat.lt_irrefl _)
  · intro b hb
    rw [List.mem_singleton.mp hb]
    exact hI
  · intro p hp hI
    exact absurd (Heap.lt_size (N p hp).1) ((List.mem_singleton.mp hI) ▸ Nat.lt_irrefl _)
  · show IsRangeIter _ _ _ _ _
    simpa using Heap.get?_push_size _ rfl
  · rintro i v m₁ news₁ h₁ tk₁ own hin ⟨_, t, rfl⟩ ⟨⟨rfl, ok1, v1, d1, rfl⟩, hoff⟩ hoff1 hown hget hall hst F₁ N₁
    have hst' : ∃ it, h₁.get? s.heap.objs.size = some it := ⟨_, hst⟩
    obtain ⟨it, hit⟩ := hst'
    have hmem := hall s.heap.objs.size (List.mem_singleton.mpr rfl) hI _ hit
    have N₂ : News h₀ L h₁ ((s.heap.objs.size, it) :: (ck, ok1) :: rest) := fun p hp => by
      rcases List.mem_cons.mp hp with rfl | hp
      · exact N₁ _ (List.mem_append_left _ hmem)
      · exact N₁ _ (List.mem_append_right _ hp)
    have hckI : @Ne Nat ck s.heap.objs.size := hoff (ck, ok) (.head _)
    have offR : ∀ p ∈ rest, p.1 ≠ s.heap.objs.size := fun p hp => hoff p (.tail _ hp)
    have e1 : (0 : Int) + (i : Int) * 1 = (i : Int) := by omega
    rw [e1]
    have hT : Turn prog w A E h₀ (envX cn cs L a ccd cl) body Q s m₁ ck rest (i : Int) := by
      match i, hin with
      | 0, _ => exact T0
      | 1, _ => exact T1
      | 2, _ => exact T2
      | 3, _ => exact T3
    have Nk := N₂ (ck, ok1) (.tail _ (.head _))
    refine wpAny_assign_Name (wpAny_storeName_cell hk hx hc ⟨ok1, Nk.1, d1⟩ fun h2 hv hs => ?_)
    obtain ⟨o', ho', hd'⟩ := hv
    have F₂ : Fr h₀ L h2 m₁ := ⟨F₁.ns.sameBut hs (Ne.symm Nk.2.1), fun b ob e => (hs.2 b (fun q => by rw [q, Nk.2.2] at e; cases e)).trans (F₁.keep b ob e), F₁.above⟩
    have N₃ : News h₀ L h2 ((s.heap.objs.size, it) :: (ck, o') :: rest) := fun p hp => by
      rcases List.mem_cons.mp hp with rfl | hp
      · exact ⟨(hs.2 _ (Ne.symm hckI)).trans hit, (N₂ _ (.head _)).2⟩
      · rcases List.mem_cons.mp hp with rfl | hp
        · exact ⟨ho', Nk.2⟩
        · exact ⟨(hs.2 _ (off p hp)).trans (N₂ p (.tail _ (.tail _ hp))).1, (N₂ p (.tail _ (.tail _ hp))).2⟩
    refine wpAny_mono (hT s.heap.objs.size it o' t h2 _ hd' offR hckI F₂ N₃) (fun f s₃ p => ?_) fun _ _ e => e
    have fin : UnrEnd h₀ L s s.heap.objs.size it (Keep m₁ ck rest) s₃ → LoopStepU h₀ L [s.heap.objs.size] own (fun m' n' => Keep m₁ ck rest m' n' ∧ ∀ p ∈ (ck, ok) :: rest, p.1 ≠ s.heap.objs.size) { s with heap := h₁, toks := tk₁ } .next s₃ := by
      rintro ⟨h', tk, m', news', e, F', N', ho, r⟩
      refine ⟨rfl, h', tk, m', news', by rw [e], F', fun p hp => ?_, fun p hp hI => ho p hp (List.mem_singleton.mp hI), r, hoff⟩
      rcases List.mem_append.mp hp with hp | hp
      · have h1 : p.1 = s.heap.objs.size := List.mem_singleton.mp (hown p hp)
        have h2 : h₁.get? p.1 = some p.2 := hget p hp
        have h3 : p = (s.heap.objs.size, it) := by
          rw [h1, hit] at h2
          exact Prod.ext h1 (Option.some.inj h2).symm
        rw [h3]; exact N' _ (List.mem_cons_self ..)
      · exact N' _ (List.mem_cons_of_mem _ hp)
    cases f with
    | ret v => exact .ret p
    | brk => exact .brk p
    | next => exact .next (fin p)
    | cont => exact .cont (fin p)
  · rintro h' tk m' news' F' N' _ ⟨⟨rfl, ok', v', d', rfl⟩, _⟩
    exact done h' tk ok' v' d' F' N'
theorem rows_28 : True := by
  k_with_none
  (k_with "my ktr_room" => first | decide | ((simp only [depth_under_make, depth_under_kw, depth_in1, depth_deeper, depth_caller, recursionLimit] at *); omega))
  (k_with "my ktr_units" => first | exact Nat.le_of_ble_eq_true rfl | ((simp only [units_in1, units_deeper, Around.mark_units, units_caller, cLine] at *); omega))
  (k_with "my call ref" => ((with_reducible show wpAny _ _ (call (Value.ref 202) _) _ _ _); refine stop_at ?_))
  (k_with "my call ref" => ((with_reducible show wpAny _ _ (call (Value.ref 207) _) _ _ _); refine stop_at ?_))
  (k_with "my call ref" => ((with_reducible show wpAny _ _ (call (Value.ref 214) _) _ _ _); refine stop_at ?_))
  (k_with "my k_enter" => (refine' code_def ?k1 ?k2 ?k3 ?k4 ?k5 ?kA ?kF ?kK ?k6 ?k7 ?k8 ?k9 ?kB ?_ ?c2 ?c3 ?c4 ?c5; (case kA => exact rfl); (case kF => exact rfl); (case kK => first | exact rfl | assumption); (case k1 => k_asm); (case k2 => k_asm); (case k3 => k_asm); (case k4 => k_asm); (case k5 => k_asm); (case k6 => k_is); (case k7 => k_is); (case k8 => ktr_room); (case k9 => first | exact BindsTo.of_eq rfl | exact binds_K (by k_in) rfl (by k_is) rfl rfl rfl | fail "k_enter: no rule for these arguments"); (case c5 => decide); (case kB => exact locs rfl); (case c2 => exact rfl); (case c3 => exact rfl); (case c4 => exact rfl); k_whole; intro g' L' h' FG' F' N' B' X' T'; (try dsimp only); (try k_fold)))
  (k_with "my call ref" => (k_here; k_dflt (refine' mk_sym ?k1 ?k2 ?k3 ?k4 ?k5 ?k6 ?k7 ?_; (case k1 => k_asm); (case k2 => k_asm); (case k3 => k_asm); (case k4 => k_asm); (case k5 => first | exact rfl | assumption); (case k6 => ktr_room); (case k7 => k_asm)); intro x' d' t0' t1' t2' t3' e' h' tk' F' N' l1' l2'; (try simp only [AllLt, and_true] at l1'); (try k_sweep)))
  (k_with "my call ref" => (k_here; k_dflt (refine' mk_text ?k1 ?k2 ?k3 ?k4 ?k5 ?k6 ?k7 ?_; (case k1 => k_asm); (case k2 => k_asm); (case k3 => k_asm); (case k4 => k_asm); (case k5 => first | exact rfl | assumption); (case k6 => ktr_room); (case k7 => k_asm)); intro x' d' li' t0' t1' t2' t3' t4' t5' e1' h' tk' F' N' l1' l4' l2' l3'; (try simp only [AllLt, and_true] at l1'); (try simp only [AllLt, and_true] at l4'); (try k_sweep)))
  (k_with "my call ref" => (k_here; k_dflt (refine' mk_vec ?k1 ?k2 ?k3 ?k4 ?k5 ?k6 ?k7 ?_; (case k1 => k_asm); (case k2 => k_asm); (case k3 => k_asm); (case k4 => k_asm); (case k5 => first | exact rfl | assumption); (case k6 => ktr_room); (case k7 => k_asm)); intro x' d' t0' t1' t2' t3' t4' t5' h' tk' F' N' l1' l2'; (try simp only [AllLt, and_true] at l1'); (try k_sweep)))
  (k_with "my call ref" => (k_here; k_dflt (refine' mk_call ?k1 ?k2 ?k3 ?k4 ?k5 ?k6 ?k7 ?_; (case k1 => k_asm); (case k2 => k_asm); (case k3 => k_asm); (case k4 => k_asm); (case k5 => first | exact rfl | assumption); (case k6 => ktr_room); (case k7 => k_asm)); intro x' d' t0' t1' t2' t3' t4' t5' e' h' tk' F' N' l1' l2'; (try simp only [AllLt, and_true] at l1'); (try k_sweep)))
  (k_with "my call ref" => (k_here; k_dflt (refine' mk_null ?k1 ?k2 ?k3 ?k4 ?k5 ?k6 ?k7 ?_; (case k1 => k_asm); (case k2 => k_asm); (case k3 => k_asm); (case k4 => k_asm); (case k5 => first | exact rfl | assumption); (case k6 => ktr_room); (case k7 => k_asm)); intro x' d' t0' t1' t2' e' h' tk' F' N' l1' l2'; (try simp only [AllLt, and_true] at l1'); (try k_sweep)))
  (k_with "my call ref" => (k_here; k_dflt (refine' mk_char ?k1 ?k2 ?k3 ?k4 ?k5 ?k6 ?k7 ?k8 ?_; (case k1 => k_asm); (case k2 => k_asm); (case k3 => k_asm); (case k4 => k_asm); (case k5 => first | exact rfl | assumption); (case k6 => ktr_room); (case k7 => k_asm); (case k8 => k_mem)); intro x' d' li' t0' t1' t2' t3' t4' t5' e1' h' tk' F' N' l1' l4' l2' l3'; (try simp only [AllLt, and_true] at l1'); (try simp only [AllLt, and_true] at l4'); (try k_sweep)))
  (k_with "my ite" => (k_closed; first | (with_reducible refine ite_pos ?cq9 ?_; (case cq9 => decide +kernel)) | (with_reducible refine ite_neg ?cq9 ?_; (case cq9 => decide +kernel))))
  (k_with "my ktn_open" => (first | assumption | (refine' VaR.mono ?s9 ?h9; (case h9 => assumption); (case s9 => (intro a9 o9 x9; (repeat (refine List.mem_cons_of_mem _ ?_)); exact x9)))))
  (k_with "my ktr_unf" => first | (refine' call3_va ?y1 ?y2 ?y3 ?y4 ?y5 ?y6 ?y7 ?y8; (case y1 => k_mem); (case y2 => k_mem); (case y3 => k_mem); (case y4 => k_mem); (case y5 => k_mem); (case y6 => k_mem); (case y7 => ktn_open); (case y8 => ktn_open)) | ktn_open)
  (k_with "my call ref" => ((with_reducible show wpAny _ _ (call (Value.ref 183) _) _ _ _); k_here; k_dflt (refine' le_use ?k1 ?k2 ?k3 ?k8 ?k4 ?u9 ?v9 ?b9 ?k5 ?k6 ?k7 ?_; (case k8 => k_asm); (case k1 => k_asm); (case k2 => k_asm); (case k3 => k_asm); (case k4 => k_asm); (case u9 => ktr_unf); (case v9 => ktr_unf); (case b9 => assumption); (case k5 => first | exact rfl | assumption); (case k6 => ktr_room); (case k7 => ktr_units)); intro h' tk' F' N'; (try k_sweep)))
  (k_with "my call ref" => ((with_reducible show wpAny _ _ (call (Value.ref 190) _) _ _ _); refine stop_at ?_))
  (k_with "my call ref" => ((with_reducible show wpAny _ _ (call (Value.ref 148) _) _ _ _); refine stop_at ?_))
  (k_with "my call ref" => ((with_reducible show wpAny _ _ (call (Value.ref 162) _) _ _ _); refine stop_at ?_))
  (k_with "my k_all" => assumption)
  (k_with "my binaryOp Mult ref int" => (k_here; k_dflt (refine' mul_noneX ?Fq9 ?Nq9 ?aq9 ?x9 ?_; (case Fq9 => k_asm); (case Nq9 => k_asm); (case aq9 => k_mem); (case x9 => first | exact .inl ⟨rfl, rfl⟩ | exact .inr ⟨rfl, rfl⟩); k_whole); intro l' h' F' N' l1'; (try simp only [AllLt, and_true] at l1'); (try k_sweep)))
  (k_with "my setAttr ref" => (k_here; k_dflt (refine' set_dict ?k1 ?k2 ?k3 ?k4 ?k5 ?k6 ?k7 ?k8 ?k9 ?k10 ?k11 ?k12 ?k13 ?_; (case k1 => k_asm); (case k2 => k_asm); (case k3 => k_asm); (case k4 => k_inst); (case k5 => exact rfl); (case k6 => k_is); (case k7 => k_is); (case k8 => k_is); (case k9 => k_is); (case k10 => k_get); (case k11 => exact rfl); (case k12 => k_upd); (case k13 => exact Nat.le_of_ble_eq_true rfl); k_whole; intro h' F' N'; (try k_sweep))))
  (k_with "my subscriptTail Name Name ref int" => (k_here; k_dflt (refine' item_led ?Nq9 ?mq9 ?aq9 ?bq9 ?xq9 ?_; (case Nq9 => k_asm); (case mq9 => ((repeat (refine List.mem_cons_of_mem _ ?_)); assumption)); (case aq9 => decide); (case bq9 => decide); (case xq9 => rfl); k_whole)))
  (k_with "my CompEnd" => (refine LCg.CompEnd.intro (by k_asm) (by k_asm) _ (fun p hp => hp) (by (simp only [LCg.Off3, and_true]; assumption)) (by (first | exact True.intro | exact Or.inr ⟨_, by ((repeat (refine List.mem_cons_of_mem _ ?_)); assumption), rfl, _, rfl⟩)) ?_))
  (k_with "my CompSrc" => (k_here; refine' LCg.CompSrc.ledger ?q1 ?q2 ?q3 ?q4 ?q5 ?_; (case q1 => rfl); (case q2 => k_asm); (case q3 => k_asm); (case q4 => ((repeat (refine List.mem_cons_of_mem _ ?_)); assumption)); (case q5 => exact Nat.le_of_ble_eq_true rfl); intro g'; lcg_lit))
  (k_with "my CompSrc" => (k_here; k_dflt (refine LCg.CompSrc.range (by rfl) (by k_asm) (by k_asm) (by assumption) (by first | decide | rfl) (by first | rfl | decide) (by exact Nat.le_of_ble_eq_true rfl) ?_; intro g'; lcg_lit)))
  (k_with "my UnrEnd" => refine stop_at ?_)
  exact trivial
theorem scr_of {aH aS : Addr} {ws : List Value} {ns : List Int} {c : Nat} (h : IntsAre ws (List.take 70 ns)) (ne : @Ne Nat aS aH) : Scr aH aS (List.take 70 ns) [(aS, listOf (List.toArray ws) c)] :=
  ⟨⟨ws, c, .head _, h⟩, by rw [List.length_take]; omega, ne⟩

theorem sub4 {α : Type} {l0 p1 p2 p3 : α} {acc all : List α} (h0 : l0 ∈ all) (h1 : p1 ∈ all) (h2 : p2 ∈ all) (h3 : p3 ∈ all) (hs : ∀ x ∈ acc, x ∈ all) : ∀ x ∈ l0 :: p1 :: p2 :: p3 :: acc, x ∈ all := by
  intro x hx
  simp only [List.mem_cons] at hx
  rcases hx with rfl | rfl | rfl | rfl | hx
  all_goals first | assumption | exact hs _ hx
theorem eqvOf {w : World} {R R' : Addr → Obj → Prop} {u v : Value} {U V : Va} {b : Bool} (_ : VaR w R 2 u U) (_ : VaR w R' 2 v V) (h : eqv 2 U V = b) : eqv 2 U V = b := h
end Mine
open Mine
local macro_rules | `(tactic| walk_at "exec For Name Call cons nil") => `(tactic| (k_here; (rename Fr _ _ _ _ => lF'); (with_unfolding_all refine' For_turns lF' ?_; k_whole)))
local macro_rules | `(tactic| walk_at "pyIter ref") => `(tactic| (k_here; (with_reducible show wpAny _ _ (pyIter (Value.ref _)) (fun it s₂ => TurnsAt _ _ _ _ _ _ _ _ _ it s₂) _ _); refine stop_at ?_))
set_option maxRecDepth 100000 in
set_option maxHeartbeats 20000000 in
theorem PySem.Challenge.cw_pq1391_01_holds : PySem.Challenge.rw_pq1391_01.Holds := by
  refine hd ?_
  w_on
  w_strict (k_go0; (all_goals try k_fold))
  repeat' (first | (k_unfold; (try dsimp only)) | walk1 | (dsimp only; walk1))
  refine stop_go ?_
  refine' law_plan_use ?k1 ?k2 ?k3 ?k4 ?k5 ?k6 ?k7 ?k8 (Int.le_refl 0) (Int.natCast_nonneg _) (scr_of ?I ?ne) ?d1 ?d2 ?d3 ?d4 ?_
  (case k8 => k_asm); (case k1 => k_asm); (case k2 => k_asm); (case k3 => k_asm); (case k4 => k_asm); (case k5 => first | exact rfl | assumption); (case k6 => ktr_room); (case k7 => ktr_units)
  (case I => assumption); (case ne => k_ne); (case d1 => k_ne); (case d2 => k_ne); (case d3 => k_ne); (case d4 => k_ne)
  intro rP pl acc0 i0 t0 e0 h0 tk0 hP hSm hS off0 z0 z1 F' N'
  (try k_sweep)
  repeat' (first | (k_unfold; (try dsimp only)) | walk1 | (dsimp only; walk1))
  refine stop_go ?_
  refine' law_build_use hP off0 ?k1 ?k2 ?k3 ?k4 ?k5 ?k6 ?k7 ?k8 ?_
  (case k8 => k_asm); (case k1 => k_asm); (case k2 => k_asm); (case k3 => k_asm); (case k4 => k_asm); (case k5 => first | exact rfl | assumption); (case k6 => ktr_room); (case k7 => ktr_units)
  intro vE acc1 h1 tk1 hE s1 off1 F' N'
  (try k_sweep)
  repeat' (first | (k_unfold; (try dsimp only)) | walk1 | (dsimp only; walk1))
  refine stop_go ?_
  refine' law_build_use (hP.mono fun a o x => s1 _ x) off1 ?k1 ?k2 ?k3 ?k4 ?k5 ?k6 ?k7 ?k8 ?_
  (case k8 => k_asm); (case k1 => k_asm); (case k2 => k_asm); (case k3 => k_asm); (case k4 => k_asm); (case k5 => first | exact rfl | assumption); (case k6 => ktr_room); (case k7 => ktr_units)
  intro vG acc2 h2 tk2 hG s2 off2 F' N'
  (try k_sweep)
  repeat' (first | (k_unfold; (try dsimp only)) | walk1 | (dsimp only; walk1))
  refine stop_go ?_
  refine' law_other_use (hP.mono fun a o x => s2 _ (s1 _ x)) hSm off2 (s2 _ (s1 _ hS)) (scr_of ?I ?ne) ?d1 ?d2 ?k1 ?k2 ?k3 ?k4 ?k5 ?k6 ?k7 ?k8 z0 z1 ?_
  (case k8 => k_asm); (case k1 => k_asm); (case k2 => k_asm); (case k3 => k_asm); (case k4 => k_asm); (case k5 => first | exact rfl | assumption); (case k6 => ktr_room); (case k7 => ktr_units)
  (case I => assumption); (case ne => k_ne); (case d1 => k_ne); (case d2 => k_ne)
  intro rO pl' acc3 oH h3 tk3 hO hP' s3 off3 F' N'
  (try k_sweep)
  repeat' (first | (k_unfold; (try dsimp only)) | walk1 | (dsimp only; walk1))
  refine stop_go ?_
  refine' law_build_use hP' off3 ?k1 ?k2 ?k3 ?k4 ?k5 ?k6 ?k7 ?k8 ?_
  (case k8 => k_asm); (case k1 => k_asm); (case k2 => k_asm); (case k3 => k_asm); (case k4 => k_asm); (case k5 => first | exact rfl | assumption); (case k6 => ktr_room); (case k7 => ktr_units)
  intro vO acc4 h4 tk4 hOv s4 off4 F' N'
  (try k_sweep)
  have hE4 : VaR _ (InL acc4) 2 vE (bld false pl) := hE.mono fun a o x => s4 _ (s3 _ (s2 _ x))
  have hG4 : VaR _ (InL acc4) 2 vG (bld true pl) := hG.mono fun a o x => s4 _ (s3 _ x)
  have q1 := eqv_same false false hP
  have q2 := eqv_same false true hP
  have q3 := eqv_same true false hP
  have q4 := eqv_oth hO hP.wf 2 false false
  have q5 := eqv_oth' hO hP.wf 2 false true
  have q6 := eqv_oth' hO hP.wf 2 false false
  have q7 := eqv_same false false hP'
  have r1 : eqv 3 (.call [none, none, none] [.sym "f", bld false pl, bld false pl']) (.call [none, none, none] [.sym "f", bld true pl, bld false pl']) = true := by simp [eqv, eqvs, eqv_sym, q2, q7]
  have r2 : eqv 3 (.call [none, none, none] [.sym "f", bld false pl, bld false pl']) (.call [none, none, none] [.sym "f", bld false pl', bld false pl]) = false := by simp [eqv, eqvs, eqv_sym, q4]
  have r3 : eqvs (eqv 2) [bld false pl, bld false pl'] [bld true pl, bld false pl'] = true := by simp [eqvs, q2, q7]
  have r4 : eqvs (eqv 2) [bld false pl, bld false pl'] [bld false pl] = false := by simp [eqvs]
  have r5 : eqvs (eqv 2) [bld false pl] [bld false pl'] = false := by simp [eqvs, q4]
  clear hE hG
  repeat' (first | (k_unfold; (try dsimp only)) | walk1 | (dsimp only; walk1))
  refine stop_go ?_
  refine' call_of_a ?k1 ?k2 ?k3 ?k4 ?k5 ?k6 ?k8 hE4 hOv off4 ?_
  (case k8 => k_asm); (case k1 => k_asm); (case k2 => k_asm); (case k3 => k_asm); (case k4 => k_asm); (case k5 => first | exact rfl | assumption); (case k6 => ktr_room)
  intro one acc6 h5 tk5 h1v s5 off5 F' N'
  (try k_sweep)
  have hE5 : VaR _ (InL acc6) 2 vE (bld false pl) := hE4.mono fun a o x => s5 _ x
  have hG5 : VaR _ (InL acc6) 2 vG (bld true pl) := hG4.mono fun a o x => s5 _ x
  have hO5 : VaR _ (InL acc6) 2 vO (bld false pl') := hOv.mono fun a o x => s5 _ x
  clear hE4 hG4 hOv
  repeat' (first | (k_unfold; (try dsimp only)) | walk1 | (dsimp only; walk1))
  refine stop_go ?_
  refine' mk_call2 ?k1 ?k2 ?k3 ?k4 ?k5 ?k6 ?k8 (.head _) ?_
  (case k8 => k_asm); (case k1 => k_asm); (case k2 => k_asm); (case k3 => k_asm); (case k4 => k_asm); (case k5 => first | exact rfl | assumption); (case k6 => ktr_room)
  intro aT dT liT ltT sxT sdT t0T t1T t2T t3T t4T t5T u0T u1T u2T u3T u4T eT e1T e2T e3T hT tkT F' N' hdaT hneT
  have qa := (hneT _ (.head _)).2.1
  have qb := (hneT _ (.tail _ (.head _))).2.1
  have qc := (hneT _ (.tail _ (.tail _ (.head _)))).2.1
  have qd := (hneT _ (.tail _ (.tail _ (.tail _ (.head _))))).2.1
  have qe : ∀ p ∈ acc6, p.1 ≠ dT := fun p hp => Ne.symm (hneT p (.tail _ (.tail _ (.tail _ (.tail _ hp))))).2.1
  dsimp only at qa qb qc qd
  (try k_sweep)
  repeat' (first | (k_unfold; (try dsimp only)) | walk1 | (dsimp only; walk1))
  refine stop_go ?_
  (rename News _ _ _ (_ :: _ :: _) => kN9)
  refine' call_of_a ?k1 ?k2 ?k3 ?k4 ?k5 ?k6 ?kN hO5 hE5 off5 ?_
  case kN =>
    refine News.sub kN9 ?sub9
    refine sub4 ?ma9 ?mb9 ?mc9 ?md9 ?me9
    case ma9 => k_mem
    case mb9 => k_mem
    case mc9 => k_mem
    case md9 => k_mem
    case me9 => (intro x9 hx9; (repeat (refine List.mem_cons_of_mem _ ?_)); exact hx9)
  (case k1 => k_asm); (case k2 => k_asm); (case k3 => k_asm); (case k4 => k_asm); (case k5 => first | exact rfl | assumption); (case k6 => ktr_room)
  intro thr acc7 h7 tk7 h3v s7 off7 F' N'
  clear kN9 hneT qa qb qc qd qe
  (try k_sweep)
  have hE7 : VaR _ (InL acc7) 2 vE (bld false pl) := hE5.mono fun a o x => s7 _ x
  have hG7 : VaR _ (InL acc7) 2 vG (bld true pl) := hG5.mono fun a o x => s7 _ x
  have hO7 : VaR _ (InL acc7) 2 vO (bld false pl') := hO5.mono fun a o x => s7 _ x
  have h1v7 := h1v.mono (R' := InL acc7) fun a o x => s7 _ x
  clear hE5 hG5 hO5 h1v
  repeat' (first | (k_unfold; (try dsimp only)) | walk1 | (dsimp only; walk1))
  refine stop_go ?_
  k_dflt (refine' ae_use ?k1 ?k2 ?k3 ?k8 ?k4 ?x9 ?z9 ?u9 ?v9 ?b9 ?k5 ?k6 ?k7 ?_; (case k8 => k_asm); (case k1 => k_asm); (case k2 => k_asm); (case k3 => k_asm); (case k4 => k_asm); (case x9 => k_mem); (case z9 => k_mem); (case u9 => exact vas_cons (by ktn_open) (vas_cons (by ktn_open) vas_nil (by simp)) (by simp)); (case v9 => exact vas_cons (by ktn_open) (vas_cons (by ktn_open) vas_nil (by simp)) (by simp)); (case b9 => assumption); (case k5 => first | exact rfl | assumption); (case k6 => ktr_room); (case k7 => ktr_units))
  intro h' tk' F' N'
  (try k_sweep)
  repeat' (first | (k_unfold; (try dsimp only)) | walk1 | (dsimp only; walk1))
  refine stop_go ?_
  k_dflt (refine' ae_use ?k1 ?k2 ?k3 ?k8 ?k4 ?x9 ?z9 ?u9 ?v9 ?b9 ?k5 ?k6 ?k7 ?_; (case k8 => k_asm); (case k1 => k_asm); (case k2 => k_asm); (case k3 => k_asm); (case k4 => k_asm); (case x9 => k_mem); (case z9 => k_mem); (case u9 => exact vas_cons (by ktn_open) (vas_cons (by ktn_open) vas_nil (by simp)) (by simp)); (case v9 => exact vas_cons (by ktn_open) vas_nil (by simp)); (case b9 => assumption); (case k5 => first | exact rfl | assumption); (case k6 => ktr_room); (case k7 => ktr_units))
  intro h' tk' F' N'
  (try k_sweep)
  repeat' (first | (k_unfold; (try dsimp only)) | walk1 | (dsimp only; walk1))
  refine stop_go ?_
  k_dflt (refine' ae_use ?k1 ?k2 ?k3 ?k8 ?k4 ?x9 ?z9 ?u9 ?v9 ?b9 ?k5 ?k6 ?k7 ?_; (case k8 => k_asm); (case k1 => k_asm); (case k2 => k_asm); (case k3 => k_asm); (case k4 => k_asm); (case x9 => k_mem); (case z9 => k_mem); (case u9 => exact vas_cons (by ktn_open) vas_nil (by simp)); (case v9 => exact vas_cons (by ktn_open) vas_nil (by simp)); (case b9 => assumption); (case k5 => first | exact rfl | assumption); (case k6 => ktr_room); (case k7 => ktr_units))
  intro h' tk' F' N'
  (try k_sweep)
  have N5 := keep2 off7 N' (by k_mem) (by k_mem)
  clear N'
  repeat' (first | (k_unfold; (try dsimp only)) | walk1 | (dsimp only; walk1))
  refine stop_go ?_
  refine' mk_call0 ?k1 ?k2 ?k3 ?k4 ?k5 ?k6 ?k8 (.head _) ?_
  (case k8 => k_asm); (case k1 => k_asm); (case k2 => k_asm); (case k3 => k_asm); (case k4 => k_asm); (case k5 => first | exact rfl | assumption); (case k6 => ktr_room)
  intro aT dT liT ltT sxT sdT t0T t1T t2T t3T t4T t5T u0T u1T u2T u3T u4T eT e1T e2T e3T hT tkT F' N' hdaT hneT
  (try k_sweep)
  repeat' (first | (k_unfold; (try dsimp only)) | walk1 | (dsimp only; walk1))
  refine stop_go ?_
  k_dflt (refine' mk_lst1 ?jk1 ?jk2 ?jk3 ?jk4 ?jk5 ?jk6 ?jk8 ?jx9 ?jy9 ?jz9 ?_; (case jk8 => k_asm); (case jk1 => k_asm); (case jk2 => k_asm); (case jk3 => k_asm); (case jk4 => k_asm); (case jk5 => first | exact rfl | assumption); (case jk6 => ktr_room))
  case jx9 => k_mem
  case jy9 => k_mem
  case jz9 => k_mem
  intro a' d' li' t0' t1' t2' t3' t4' t5' e' e1' h' tk' F' N' f1' f2' f3'
  (try simp only [LCg.Off1, and_true] at f1' f2' f3')
  (try k_sweep)
  clear f1' f2' f3'
  repeat (rename (_ < _ ∧ _) => zz; clear zz)
  (try dsimp only)
  walk1
  walk1
  (rename News _ _ _ (_ :: _ :: _ :: _ :: _) => kN5)
  have pk := pack (E := [_, _, _, _, _, _, _, _, _, _, _, _, _, _, _, _, _, _, _]) kN5 (by assumption) (by assumption) rfl (at_ 0 rfl) (.sym (at_ 17 rfl) (at_ 18 rfl)) (.chr (at_ 14 rfl) (at_ 15 rfl) (at_ 16 rfl) (.some (by decide +kernel)) .none (.inl rfl)) (call1_va (at_ 7 rfl) (at_ 8 rfl) (at_ 9 rfl) (at_ 10 rfl) (at_ 11 rfl) (at_ 12 rfl)) (lst1_va (at_ 1 rfl) (at_ 2 rfl) (at_ 3 rfl) (at_ 5 rfl) (at_ 6 rfl))
  obtain ⟨acc5, N6, of1, of2, hm5, g0, g1, g2, g3⟩ := pk
  clear kN5
  walk1
  have z00 := eqvOf g0 g0 (b := true) (by decide +kernel)
  have z01 := eqvOf g0 g1 (b := false) (by decide +kernel)
  have z02 := eqvOf g0 g2 (b := false) (by decide +kernel)
  have z03 := eqvOf g0 g3 (b := false) (by decide +kernel)
  have z10 := eqvOf g1 g0 (b := false) (by decide +kernel)
  have z11 := eqvOf g1 g1 (b := true) (by decide +kernel)
  have z12 := eqvOf g1 g2 (b := false) (by decide +kernel)
  have z13 := eqvOf g1 g3 (b := false) (by decide +kernel)
  have z20 := eqvOf g2 g0 (b := false) (by decide +kernel)
  have z21 := eqvOf g2 g1 (b := false) (by decide +kernel)
  have z22 := eqvOf g2 g2 (b := true) (by decide +kernel)
  have z23 := eqvOf g2 g3 (b := false) (by decide +kernel)
  have z30 := eqvOf g3 g0 (b := false) (by decide +kernel)
  have z31 := eqvOf g3 g1 (b := false) (by decide +kernel)
  have z32 := eqvOf g3 g2 (b := false) (by decide +kernel)
  have z33 := eqvOf g3 g3 (b := true) (by decide +kernel)
  repeat' (first | (k_unfold; (try dsimp only)) | walk1 | (dsimp only; walk1))
  refine stop_go ?_
  (rename News _ _ _ (_ :: _ :: _) => N7)
  (rename Fr _ _ _ _ => F7)
  (rename IsRange _ _ _ _ _ _ _ _ => R7)
  refine' iter4 ?hh7 R7 F7 N7 ?d7 ?c7 ?o7 ?kk7 ?kx7 ?T0 ?T1 ?T2 ?T3 ?D7
  case hh7 => rfl
  case d7 => assumption
  case c7 => rfl
  case kk7 => rfl
  case kx7 => rfl
  case o7 =>
    intro p hp
    rcases List.mem_cons.mp hp with rfl | hp
    · exact Nat.ne_of_lt (Nat.lt_succ_self _)
    · exact of2 p hp
  case D7 =>
    clear N7 R7
    intro h9 tk9 ok9 v9 d9 F9 N9
    k_steps
    all_goals (try k_data)
  case T0 =>
    clear N7 R7
    intro I8 it8 o8 t8 h8 tk8 d8 oI8 nI8 F8 N8
    repeat' (first | (k_unfold; (try dsimp only)) | walk1 | (dsimp only; walk1))
    refine stop_go ?_
    refine' UnrEnd.intro ?qF ?qN _ ?qs ?qo ⟨rfl, _, _, d8, rfl⟩
    case qF => k_asm
    case qN => k_asm
    case qs => (intro p9 hp9; (repeat (first | exact hp9 | refine List.mem_cons_of_mem _ ?_)))
    case qo =>
      intro p9 hp9
      rcases List.mem_cons.mp hp9 with rfl | hp9
      · exact nI8
      · exact oI8 p9 hp9
  case T1 =>
    clear N7 R7
    intro I8 it8 o8 t8 h8 tk8 d8 oI8 nI8 F8 N8
    repeat' (first | (k_unfold; (try dsimp only)) | walk1 | (dsimp only; walk1))
    refine stop_go ?_
    refine' UnrEnd.intro ?qF ?qN _ ?qs ?qo ⟨rfl, _, _, d8, rfl⟩
    case qF => k_asm
    case qN => k_asm
    case qs => (intro p9 hp9; (repeat (first | exact hp9 | refine List.mem_cons_of_mem _ ?_)))
    case qo =>
      intro p9 hp9
      rcases List.mem_cons.mp hp9 with rfl | hp9
      · exact nI8
      · exact oI8 p9 hp9
  case T2 =>
    clear N7 R7
    intro I8 it8 o8 t8 h8 tk8 d8 oI8 nI8 F8 N8
    repeat' (first | (k_unfold; (try dsimp only)) | walk1 | (dsimp only; walk1))
    refine stop_go ?_
    refine' UnrEnd.intro ?qF ?qN _ ?qs ?qo ⟨rfl, _, _, d8, rfl⟩
    case qF => k_asm
    case qN => k_asm
    case qs => (intro p9 hp9; (repeat (first | exact hp9 | refine List.mem_cons_of_mem _ ?_)))
    case qo =>
      intro p9 hp9
      rcases List.mem_cons.mp hp9 with rfl | hp9
      · exact nI8
      · exact oI8 p9 hp9
  case T3 =>
    clear N7 R7
    intro I8 it8 o8 t8 h8 tk8 d8 oI8 nI8 F8 N8
    repeat' (first | (k_unfold; (try dsimp only)) | walk1 | (dsimp only; walk1))
    refine stop_go ?_
    refine' UnrEnd.intro ?qF ?qN _ ?qs ?qo ⟨rfl, _, _, d8, rfl⟩
    case qF => k_asm
    case qN => k_asm
    case qs => (intro p9 hp9; (repeat (first | exact hp9 | refine List.mem_cons_of_mem _ ?_)))
    case qo =>
      intro p9 hp9
      rcases List.mem_cons.mp hp9 with rfl | hp9
      · exact nI8
      · exact oI8 p9 hp9
