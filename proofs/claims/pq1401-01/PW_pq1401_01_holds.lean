import PyProof.Rows.All
import Wide.All
import OpenK.AllK
import Wide.FinOn
import Open.Tops
import PySem.Challenge.RW_pq1401_01
open PySem PySem.W PyProof.Rows PyProof.V
set_option Elab.async false
set_option maxRecDepth 100000
set_option linter.all false
namespace Mine
def scaleAt : List (Str × WData) := [(Str.ofString "MOST_SCALE", .int 1000000000000000000000000000000000000000000000000000000000000000000000000000000000000000000000000000000000000000000000000000000000000000000000000000000000000000000000000000000000000000000000000000000000000000000000000000000000000000000000000000000000000000000000000000000000000000000000000000000000000)]
def seenOf : Program := view PySem.Challenge.rw_pq1401_01.prog [0, 2, 3, 4, 5, 7, 8, 10, 11, 12, 14, 15, 17, 18, 19, 20, 21, 22, 23, 24, 26, 27, 28, 29, 30, 31, 32]
/-- the top cut in two: up to a state S by what was shown before, the rest and the looks at once -/
theorem left_cut {p q : Program} {loose : List Str} {Xt : Shared → Bool} {α : Type} {Yf : Shared → α} {Ya : World → α} {N K M m₀ k₀ : Nat} {H₀ : Params → Heap} {gs₀ : Array GenState} {d₀ : Drawn} {ann : Option Value} {S : World → OsState → Shared} {T : Thread}
    (boot : ∀ w : World, (fencedOpening treeTable p w N).map (fun s => (s.heap, s.gens, s.drawn, s.toks)) = some (H₀ w.params, gs₀, d₀, k₀))
    (size : ∀ w : World, ((H₀ w.params).isNs mainGlobals && gs₀.size == 0, (H₀ w.params).objs.size, (H₀ w.params).nsMap mainGlobals "__annotations__") = (true, m₀, ann))
    (first : ∀ (w : World) (os : OsState) (r : Shared), topRun treeTable p w m₀ ann M (S w os) T = some r → topRun treeTable p w m₀ ann K ⟨H₀ w.params, gs₀, d₀, k₀, os⟩ (topStub p) = some r) (le : K ≤ N)
    (second : ∀ (w : World) (os : OsState), (topRun treeTable p w m₀ ann M (S w os) T).map (fun s => (staticsOk (importedModules p.main.body) (H₀ w.params) s.heap && namesBound p s.heap && gensDone s && laidKept (H₀ w.params) s.heap, openSeen q loose (importedModules p.main.body) Xt true s, Yf s)) = some (true, openGood q loose, Ya w)) :
    LeftO p q loose Xt Yf Ya N := by
  intro w
  obtain ⟨s₀, e, e'⟩ := Option.map_eq_some_iff.mp (boot w)
  obtain ⟨s₁, e1, e2⟩ := Option.map_eq_some_iff.mp (second w s₀.os)
  have hs : s₀ = ⟨H₀ w.params, gs₀, d₀, k₀, s₀.os⟩ := by
    cases s₀
    simp only [Prod.mk.injEq] at e'
    obtain ⟨rfl, rfl, rfl, rfl⟩ := e'
    rfl
  have sz := size w
  simp only [Prod.mk.injEq] at sz e2
  have r := topRun_mono (N - K) _ _ _ _ (first w s₀.os s₁ e1)
  rw [Nat.add_sub_cancel' le, ← hs] at r
  have hh : s₀.heap = H₀ w.params := congrArg (fun x => x.1) e'
  have hg : s₀.gens = gs₀ := congrArg (fun x => x.2.1) e'
  have t : topFrom treeTable p w N s₀ = some s₁ := by
    unfold topFrom
    rw [hh, hg, sz.1, sz.2.1, sz.2.2, r]
    show (match staticsOk _ _ _ && _ && _ && _ with | true => _ | false => _) = _
    rw [e2.1]
  unfold openEnds
  rw [e]
  show (topFrom treeTable p w N s₀).map _ = _
  rw [t]
  exact congrArg some (Prod.ext e2.2.1 e2.2.2)
set_option maxHeartbeats 8000000 in
open_shared hs for PySem.Challenge.rw_pq1401_01.prog leaving 14
noncomputable def topBody : List Stmt := behindTheImports PySem.Challenge.rw_pq1401_01.prog
theorem body_cut : topBody = hs.sts_4 ++ (hs.sts_53 ++ (hs.sts_97 ++ (hs.sts_121 ++ ((topBody.drop 19))))) := by kernel_rfl
theorem boot_of : ∀ w : World, (fencedOpening treeTable PySem.Challenge.rw_pq1401_01.prog w 3406).map (fun s => (s.heap, s.gens, s.drawn, s.toks)) = some (boot_heap w.params, Array.mk [], boot_drawn, boot_toks) :=
  boot_open (by kernel_rfl) rfl (by intro s; kernel_rfl)
theorem size_of : ∀ w : World, ((boot_heap w.params).isNs mainGlobals && (Array.mk [] : Array GenState).size == 0, (boot_heap w.params).objs.size, (boot_heap w.params).nsMap mainGlobals "__annotations__") = (true, 11, some (.ref 6)) := by intro w; kernel_rfl
noncomputable def midAt (w : World) (os : OsState) : Shared := SharedT.abs ⟨hs.tree_156 w.params, 154, {}, Array.mk [], {}, 382, os⟩
noncomputable def midT : Thread := restOf (topBody.drop 19) hs.env_1 (.body topBody hs.env_1) ⟨86, 0, 91, 47⟩ [topFrame ⟨0, 0, 0, 0⟩]
theorem stub_go (w : World) (os : OsState) : topGo treeTable PySem.Challenge.rw_pq1401_01.prog w 11 (some (.ref 6)) 12 ⟨boot_heap w.params, Array.mk [], boot_drawn, boot_toks, os⟩ (topStub PySem.Challenge.rw_pq1401_01.prog) =
    some (SharedT.abs ⟨hs.tree_4 w.params, 15, {}, Array.mk [], {}, 187, os⟩, ⟨denote treeTable (.body topBody hs.env_1), .body topBody hs.env_1, ⟨0, 0, 0, 0⟩, [topFrame ⟨0, 0, 0, 0⟩]⟩) := by kernel_rfl
theorem block_go (w : World) (os : OsState) : segRun treeTable PySem.Challenge.rw_pq1401_01.prog w 11 (some (.ref 6)) 1 1 (SharedT.abs ⟨hs.tree_4 w.params, 15, {}, Array.mk [], {}, 187, os⟩) (blockOf topBody hs.env_1 (.body topBody hs.env_1) ⟨0, 0, 0, 0⟩ [topFrame ⟨0, 0, 0, 0⟩]) =
    some (.next, SharedT.abs ⟨hs.tree_4 w.params, 15, {}, Array.mk [], {}, 187, os⟩, .body topBody hs.env_1, ⟨0, 0, 0, 0⟩) := by kernel_rfl
theorem first_go (w : World) (os : OsState) (r : Shared) (h : topRun treeTable PySem.Challenge.rw_pq1401_01.prog w 11 (some (.ref 6)) 1000 (midAt w os) midT = some r) :
    topRun treeTable PySem.Challenge.rw_pq1401_01.prog w 11 (some (.ref 6)) (12 + (1 + Nat.add 356 (Nat.add 354 (Nat.add 223 (Nat.add 311 (1000)))))) ⟨boot_heap w.params, Array.mk [], boot_drawn, boot_toks, os⟩ (topStub PySem.Challenge.rw_pq1401_01.prog) = some r :=
  go_top (stub_go w os) (piece_block (block_go w os) (by
    have h2 := hs.chain PySem.Challenge.rw_pq1401_01.prog topBody w os (topBody.drop 19) 1000 r h
    rw [← body_cut] at h2
    exact h2))
set_option hygiene false in
local macro_rules | `(tactic| o_head $H) => `(tactic| (refine holds_open (q := seenOf) (loose := [Str.ofString "MOST_SCALE"]) (Xt := fun s => xlAt seenOf scaleAt s && recOk (RowW.records (OpenRow.toRowW (OpenLaw.row PySem.Challenge.rw_pq1401_01))) s) (XP := XL seenOf scaleAt) (Yf := Hook.obs $H) (Ya := Hook.val $H) (YP := Hook.says $H) (N := 3406) ?hl (Hook.of $H) (Hook.keeps $H) (fun s e => xl_of s (Bool.and_eq_true_iff.mp e).1) XL.keeps (by rfl) (by rfl) (by rfl) (fun s e => recFacts_of (Bool.and_eq_true_iff.mp e).2) (by rfl) (by assumption) (by decide +kernel) ⟨rfl, rfl, rfl, rfl, rfl, by decide +kernel⟩ ?hw ?hc; (case hl => exact left_cut boot_of size_of first_go (by decide) (by intro w os; kernel_rfl))))
set_option maxHeartbeats 8000000 in
open_top hd for PySem.Challenge.rw_pq1401_01
/-- what a call asks of the heap that it starts from -/
structure Amb (K : Frag) (mg mb : Str → Option Value) (p : Program) (loose : List Str) (mean : ExcName → Option Value) (c : Heap) : Prop where
  X : K.In c
  T : Top p loose mean mg mb c

theorem Amb.keeps {K : Frag} {mg mb : Str → Option Value} {p : Program} {loose : List Str} {mean : ExcName → Option Value} {c c' : Heap}
    (a : Amb K mg mb p loose mean c) (h : c.StaysIn c') : Amb K mg mb p loose mean c' := ⟨a.X.keeps h, a.T.keeps h⟩

theorem stays_hide {c h : Heap} {news : List (Addr × Obj)} (st : c.StaysIn h) (hn : ∀ p ∈ news, c.get? p.1 = none) : c.StaysIn (hideAll h (news.map (·.1))) :=
  fun b o e => hideAll_get _ (st b o e) fun q => by
    obtain ⟨p, hp, rfl⟩ := List.mem_map.mp q
    rw [hn p hp] at e; cases e

theorem enterCode {prog : Program} {w : World} {A : Around} {s : Shared} {K : Frag} {name qual : Str} {params : Arguments} {body : List Stmt} {scope : Scope}
    {dV kV doc pm cdv ct oc : Value} {an od : Option Addr} {osl : Array (Option Value)} {f : Addr} {args : Args} {binds : List (Str × Value)} {R : Result → Shared → Prop}
    {mg mb : Str → Option Value} {p : Program} {loose : List Str} {mean : ExcName → Option Value} {c : Heap}
    (C : Amb K mg mb p loose mean c) (st : c.StaysIn s.heap) (news : List (Addr × Obj)) (hn : ∀ q ∈ news, s.heap.get? q.1 = some q.2) (hc : ∀ q ∈ news, c.get? q.1 = none)
    (ho : K.lookup f = some ⟨oc, od, .func (fnOf name qual params body scope dV kV doc pm an cdv ct), osl⟩) (hcd : codeIn K cdv qual = true) (hroom : A.depth < recursionLimit)
    (hbind : BindsTo s (fnOf name qual params body scope dV kV doc pm an cdv ct) args binds) (hloc : ∀ y ∈ binds, scope.names.lookup y.1 = some .local)
    (hco : scope.isCoroutine = false) (hgen : scope.isGenerator = false) (hk : scope.kind = .function) (hcell : ∀ x ∈ scope.names, x.2 ≠ .cell)
    (h : ∀ g L h₁, g = hideAll s.heap (news.map (·.1)) → Fr g L h₁ (fun y => binds.reverse.lookup y) → News g L h₁ news → K.In g → Top p loose mean mg mb g → c.StaysIn g → L = s.heap.objs.size →
      wpAny (model prog w) (A.deeper (envOf qual scope L f cdv)) (execs body (envOf qual scope L f cdv))
        (fun fl s' => R (.ok (.ret (match fl with | .ret v => v | _ => .none))) s') (fun _ _ => False) { s with heap := h₁, toks := s.toks + binds.length }) :
    codeAny (model prog w) A (.call (.ref f) args) R s := by
  have X := C.X.keeps st
  refine codeAny_call_def (fd := fnOf name qual params body scope dV kV doc pm an cdv ct) (body := body) (binds := binds) hroom (X _ _ ho) rfl (C.T.nolimit.keeps st) (codeRec_of X hcd) rfl hbind hcell hloc (fun h₁ hns hk₁ => ?_) hco hgen hk
  have sg := stays_hide st hc
  exact wpAny_mono (h _ s.heap.objs.size h₁ rfl ⟨hns, fun b o e => hk₁ b o (of_hideAll _ e), Nat.le_of_eq (hideAll_size _ _)⟩
    (fun q hq => ⟨hk₁ _ _ (hn q hq), Nat.ne_of_lt (Heap.lt_size (hn q hq)), hideAll_none _ (List.mem_map_of_mem hq)⟩) (C.X.keeps sg) (C.T.keeps sg) sg rfl) (fun _ _ x => x) (fun _ _ x => x.elim)
theorem enter {prog : Program} {w : World} {A : Around} {E : Value → Shared → Prop} {s : Shared} {K : Frag} {name qual : Str} {params : Arguments} {body : List Stmt} {scope : Scope}
    {dV kV doc pm cdv ct oc : Value} {an od : Option Addr} {osl : Array (Option Value)} {f : Addr} {args : List Value} {binds : List (Str × Value)} {Q : Value → Shared → Prop}
    {mg mb : Str → Option Value} {p : Program} {loose : List Str} {mean : ExcName → Option Value} {c : Heap}
    (C : Amb K mg mb p loose mean c) (st : c.StaysIn s.heap) (news : List (Addr × Obj)) (hn : ∀ q ∈ news, s.heap.get? q.1 = some q.2) (hc : ∀ q ∈ news, c.get? q.1 = none)
    (ho : K.lookup f = some ⟨oc, od, .func (fnOf name qual params body scope dV kV doc pm an cdv ct), osl⟩) (hcd : codeIn K cdv qual = true) (hroom : A.depth < recursionLimit)
    (hbind : BindsTo s (fnOf name qual params body scope dV kV doc pm an cdv ct) ⟨args, []⟩ binds) (hloc : ∀ y ∈ binds, scope.names.lookup y.1 = some .local)
    (hco : scope.isCoroutine = false) (hgen : scope.isGenerator = false) (hk : scope.kind = .function) (hcell : ∀ x ∈ scope.names, x.2 ≠ .cell)
    (h : ∀ g L h₁, g = hideAll s.heap (news.map (·.1)) → Fr g L h₁ (fun y => binds.reverse.lookup y) → News g L h₁ news → K.In g → Top p loose mean mg mb g → c.StaysIn g → L = s.heap.objs.size →
      wpAny (model prog w) (A.deeper (envOf qual scope L f cdv)) (execs body (envOf qual scope L f cdv))
        (fun fl s' => Q (match fl with | .ret v => v | _ => .none) s') (fun _ _ => False) { s with heap := h₁, toks := s.toks + binds.length }) :
    wpAny (model prog w) A (call (.ref f) args []) Q E s :=
  wpAny_call (enterCode C st news hn hc ho hcd hroom hbind hloc hco hgen hk hcell h)

theorem Fr.stay {h₀ h h' : Heap} {L : Addr} {m : Str → Option Value} (F : Fr h₀ L h m) (st : h.StaysIn h') : Fr h₀ L h' m :=
  ⟨F.ns.keeps st, fun b o e => st b o (F.keep b o e), F.above⟩
theorem News.stay {h₀ h h' : Heap} {L : Addr} {news : List (Addr × Obj)} (N : News h₀ L h news) (st : h.StaysIn h') : News h₀ L h' news :=
  fun p hp => ⟨st _ _ (N p hp).1, (N p hp).2⟩

theorem stay2 {g h h' : Heap} (x : g.StaysIn h) (y : h.StaysIn h') : g.StaysIn h' := fun b o e => y b o (x b o e)

/-- a tuple of two ints -/
def FracAt (h : Heap) (v : Value) (q : Int × Int) : Prop := ∃ a t u, v = .ref a ∧ IsTup h a [.int q.1 t, .int q.2 u].toArray
theorem FracAt.keeps {h h' : Heap} {v : Value} {q : Int × Int} (x : FracAt h v q) (st : h.StaysIn h') : FracAt h' v q :=
  let ⟨a, t, u, e, o, ho, r⟩ := x; ⟨a, t, u, e, o, st _ _ ho, r⟩


theorem ret_bool {Q : Value → Shared → Prop} {b b' : Bool} {s : Shared} (h : Q (.bool b') s) (e : b = b') : Q (.bool b) s := e ▸ h
theorem ret_b {Q : Bool → Shared → Prop} {b b' : Bool} {s : Shared} (h : Q b' s) (e : b' = b) : Q b s := e ▸ h
theorem ret_int {Q : Value → Shared → Prop} {b b' : Int} {t : Tok} {s : Shared} (h : Q (.int b' t) s) (e : b = b') : Q (.int b t) s := e ▸ h

def Mark (P : Prop) : Prop := P
theorem Mark.mk {P : Prop} (h : Mark P) : P := h
theorem Mark.of {P : Prop} (h : P) : Mark P := h
theorem inK {K : Frag} {g h : Heap} {L : Addr} {m : Str → Option Value} (X : K.In g) (F : Fr g L h m) : K.In h := X.keeps F.keep
/-- a switch for the local lines: «walk» stops where one asks for it -/
def Stop (_ : Nat) : Prop := True
/-- what comes after, as one word -/
theorem post {α : Type} {Mo : Model} {A : Around} {code : Sem α} {Q : α → Shared → Prop} {E : Value → Shared → Prop} {s : Shared}
    (k : ∀ QQ : α → Shared → Prop, (∀ a s, Q a s → QQ a s) → wpAny Mo A code QQ (fun _ _ => False) s) : wpAny Mo A code Q E s := wpAny_mono (k Q fun _ _ h => h) (fun _ _ h => h) fun _ _ h => h.elim
theorem postE {α : Type} {Mo : Model} {A : Around} {code : Sem α} {Q : α → Shared → Prop} {E : Value → Shared → Prop} {s : Shared}
    (k : ∀ QQ : α → Shared → Prop, (∀ a s, Q a s → QQ a s) → wpAny Mo A code QQ E s) : wpAny Mo A code Q E s := k Q fun _ _ h => h
theorem prod2 {α β : Type} {P : α × β → Prop} (h : ∀ a b, P (a, b)) (x : α × β) : P x := h x.1 x.2
theorem prod3 {α β γ : Type} {P : α × β × γ → Prop} (h : ∀ a b c, P (a, b, c)) (x : α × β × γ) : P x := h x.1 x.2.1 x.2.2
theorem prod4 {α β γ δ : Type} {P : α × β × γ × δ → Prop} (h : ∀ a b c d, P (a, b, c, d)) (x : α × β × γ × δ) : P x := h x.1 x.2.1 x.2.2.1 x.2.2.2
theorem prod5 {α β γ δ ε : Type} {P : α × β × γ × δ × ε → Prop} (h : ∀ a b c d e, P (a, b, c, d, e)) (x : α × β × γ × δ × ε) : P x := h x.1 x.2.1 x.2.2.1 x.2.2.2.1 x.2.2.2.2
theorem FracAt.elim {h : Heap} {v : Value} {q : Int × Int} {P : Value → Prop} (x : FracAt h v q) (k : ∀ a t u, IsTup h a [.int q.1 t, .int q.2 u].toArray → P (.ref a)) : P v := by
  obtain ⟨a, t, u, rfl, y⟩ := x
  exact k a t u y
theorem FracAt.tup {h : Heap} {a : Addr} {t u : Tok} {q : Int × Int} (y : IsTup h a [.int q.1 t, .int q.2 u].toArray) : FracAt h (.ref a) q := ⟨a, t, u, rfl, y⟩
/-- a midpoint: what comes after is shown once, from what K says -/
theorem cutN {α : Type} {Mo : Model} {A : Around} {code : Sem α} {Q : α → Shared → Prop} {E : Value → Shared → Prop} {s : Shared} {K : (α → Shared → Prop) → Prop} (h : ∀ QQ, K QQ → wpAny Mo A code QQ E s) (k : K Q) : wpAny Mo A code Q E s := h Q k

theorem neL1 {a b : Nat} {q : Prop} (h : a < b ∧ q) : a ≠ b := Nat.ne_of_lt h.1
theorem neG1 {a b : Nat} {q : Prop} (h : b < a ∧ q) : a ≠ b := Nat.ne_of_gt h.1
theorem neL2 {a b : Nat} {q p1 : Prop} (h : p1 ∧ a < b ∧ q) : a ≠ b := Nat.ne_of_lt h.2.1
theorem neG2 {a b : Nat} {q p1 : Prop} (h : p1 ∧ b < a ∧ q) : a ≠ b := Nat.ne_of_gt h.2.1
theorem neLe2 {a b : Nat} {p1 : Prop} (h : p1 ∧ a < b) : a ≠ b := Nat.ne_of_lt h.2
theorem neGe2 {a b : Nat} {p1 : Prop} (h : p1 ∧ b < a) : a ≠ b := Nat.ne_of_gt h.2
theorem neL3 {a b : Nat} {q p1 p2 : Prop} (h : p1 ∧ p2 ∧ a < b ∧ q) : a ≠ b := Nat.ne_of_lt h.2.2.1
theorem neG3 {a b : Nat} {q p1 p2 : Prop} (h : p1 ∧ p2 ∧ b < a ∧ q) : a ≠ b := Nat.ne_of_gt h.2.2.1
theorem neLe3 {a b : Nat} {p1 p2 : Prop} (h : p1 ∧ p2 ∧ a < b) : a ≠ b := Nat.ne_of_lt h.2.2
theorem neGe3 {a b : Nat} {p1 p2 : Prop} (h : p1 ∧ p2 ∧ b < a) : a ≠ b := Nat.ne_of_gt h.2.2
theorem neL4 {a b : Nat} {q p1 p2 p3 : Prop} (h : p1 ∧ p2 ∧ p3 ∧ a < b ∧ q) : a ≠ b := Nat.ne_of_lt h.2.2.2.1
theorem neG4 {a b : Nat} {q p1 p2 p3 : Prop} (h : p1 ∧ p2 ∧ p3 ∧ b < a ∧ q) : a ≠ b := Nat.ne_of_gt h.2.2.2.1
theorem neLe4 {a b : Nat} {p1 p2 p3 : Prop} (h : p1 ∧ p2 ∧ p3 ∧ a < b) : a ≠ b := Nat.ne_of_lt h.2.2.2
theorem neGe4 {a b : Nat} {p1 p2 p3 : Prop} (h : p1 ∧ p2 ∧ p3 ∧ b < a) : a ≠ b := Nat.ne_of_gt h.2.2.2
theorem neL5 {a b : Nat} {q p1 p2 p3 p4 : Prop} (h : p1 ∧ p2 ∧ p3 ∧ p4 ∧ a < b ∧ q) : a ≠ b := Nat.ne_of_lt h.2.2.2.2.1
theorem neG5 {a b : Nat} {q p1 p2 p3 p4 : Prop} (h : p1 ∧ p2 ∧ p3 ∧ p4 ∧ b < a ∧ q) : a ≠ b := Nat.ne_of_gt h.2.2.2.2.1
theorem neLe5 {a b : Nat} {p1 p2 p3 p4 : Prop} (h : p1 ∧ p2 ∧ p3 ∧ p4 ∧ a < b) : a ≠ b := Nat.ne_of_lt h.2.2.2.2
theorem neGe5 {a b : Nat} {p1 p2 p3 p4 : Prop} (h : p1 ∧ p2 ∧ p3 ∧ p4 ∧ b < a) : a ≠ b := Nat.ne_of_gt h.2.2.2.2
theorem neL6 {a b : Nat} {q p1 p2 p3 p4 p5 : Prop} (h : p1 ∧ p2 ∧ p3 ∧ p4 ∧ p5 ∧ a < b ∧ q) : a ≠ b := Nat.ne_of_lt h.2.2.2.2.2.1
theorem neG6 {a b : Nat} {q p1 p2 p3 p4 p5 : Prop} (h : p1 ∧ p2 ∧ p3 ∧ p4 ∧ p5 ∧ b < a ∧ q) : a ≠ b := Nat.ne_of_gt h.2.2.2.2.2.1
theorem neLe6 {a b : Nat} {p1 p2 p3 p4 p5 : Prop} (h : p1 ∧ p2 ∧ p3 ∧ p4 ∧ p5 ∧ a < b) : a ≠ b := Nat.ne_of_lt h.2.2.2.2.2
theorem neGe6 {a b : Nat} {p1 p2 p3 p4 p5 : Prop} (h : p1 ∧ p2 ∧ p3 ∧ p4 ∧ p5 ∧ b < a) : a ≠ b := Nat.ne_of_gt h.2.2.2.2.2
theorem neL7 {a b : Nat} {q p1 p2 p3 p4 p5 p6 : Prop} (h : p1 ∧ p2 ∧ p3 ∧ p4 ∧ p5 ∧ p6 ∧ a < b ∧ q) : a ≠ b := Nat.ne_of_lt h.2.2.2.2.2.2.1
theorem neG7 {a b : Nat} {q p1 p2 p3 p4 p5 p6 : Prop} (h : p1 ∧ p2 ∧ p3 ∧ p4 ∧ p5 ∧ p6 ∧ b < a ∧ q) : a ≠ b := Nat.ne_of_gt h.2.2.2.2.2.2.1
theorem neLe7 {a b : Nat} {p1 p2 p3 p4 p5 p6 : Prop} (h : p1 ∧ p2 ∧ p3 ∧ p4 ∧ p5 ∧ p6 ∧ a < b) : a ≠ b := Nat.ne_of_lt h.2.2.2.2.2.2
theorem neGe7 {a b : Nat} {p1 p2 p3 p4 p5 p6 : Prop} (h : p1 ∧ p2 ∧ p3 ∧ p4 ∧ p5 ∧ p6 ∧ b < a) : a ≠ b := Nat.ne_of_gt h.2.2.2.2.2.2
theorem neL8 {a b : Nat} {q p1 p2 p3 p4 p5 p6 p7 : Prop} (h : p1 ∧ p2 ∧ p3 ∧ p4 ∧ p5 ∧ p6 ∧ p7 ∧ a < b ∧ q) : a ≠ b := Nat.ne_of_lt h.2.2.2.2.2.2.2.1
theorem neG8 {a b : Nat} {q p1 p2 p3 p4 p5 p6 p7 : Prop} (h : p1 ∧ p2 ∧ p3 ∧ p4 ∧ p5 ∧ p6 ∧ p7 ∧ b < a ∧ q) : a ≠ b := Nat.ne_of_gt h.2.2.2.2.2.2.2.1
theorem neLe8 {a b : Nat} {p1 p2 p3 p4 p5 p6 p7 : Prop} (h : p1 ∧ p2 ∧ p3 ∧ p4 ∧ p5 ∧ p6 ∧ p7 ∧ a < b) : a ≠ b := Nat.ne_of_lt h.2.2.2.2.2.2.2
theorem neGe8 {a b : Nat} {p1 p2 p3 p4 p5 p6 p7 : Prop} (h : p1 ∧ p2 ∧ p3 ∧ p4 ∧ p5 ∧ p6 ∧ p7 ∧ b < a) : a ≠ b := Nat.ne_of_gt h.2.2.2.2.2.2.2
theorem neL9 {a b : Nat} {q p1 p2 p3 p4 p5 p6 p7 p8 : Prop} (h : p1 ∧ p2 ∧ p3 ∧ p4 ∧ p5 ∧ p6 ∧ p7 ∧ p8 ∧ a < b ∧ q) : a ≠ b := Nat.ne_of_lt h.2.2.2.2.2.2.2.2.1
theorem neG9 {a b : Nat} {q p1 p2 p3 p4 p5 p6 p7 p8 : Prop} (h : p1 ∧ p2 ∧ p3 ∧ p4 ∧ p5 ∧ p6 ∧ p7 ∧ p8 ∧ b < a ∧ q) : a ≠ b := Nat.ne_of_gt h.2.2.2.2.2.2.2.2.1
theorem neLe9 {a b : Nat} {p1 p2 p3 p4 p5 p6 p7 p8 : Prop} (h : p1 ∧ p2 ∧ p3 ∧ p4 ∧ p5 ∧ p6 ∧ p7 ∧ p8 ∧ a < b) : a ≠ b := Nat.ne_of_lt h.2.2.2.2.2.2.2.2
theorem neGe9 {a b : Nat} {p1 p2 p3 p4 p5 p6 p7 p8 : Prop} (h : p1 ∧ p2 ∧ p3 ∧ p4 ∧ p5 ∧ p6 ∧ p7 ∧ p8 ∧ b < a) : a ≠ b := Nat.ne_of_gt h.2.2.2.2.2.2.2.2
theorem neL10 {a b : Nat} {q p1 p2 p3 p4 p5 p6 p7 p8 p9 : Prop} (h : p1 ∧ p2 ∧ p3 ∧ p4 ∧ p5 ∧ p6 ∧ p7 ∧ p8 ∧ p9 ∧ a < b ∧ q) : a ≠ b := Nat.ne_of_lt h.2.2.2.2.2.2.2.2.2.1
theorem neG10 {a b : Nat} {q p1 p2 p3 p4 p5 p6 p7 p8 p9 : Prop} (h : p1 ∧ p2 ∧ p3 ∧ p4 ∧ p5 ∧ p6 ∧ p7 ∧ p8 ∧ p9 ∧ b < a ∧ q) : a ≠ b := Nat.ne_of_gt h.2.2.2.2.2.2.2.2.2.1
theorem neLe10 {a b : Nat} {p1 p2 p3 p4 p5 p6 p7 p8 p9 : Prop} (h : p1 ∧ p2 ∧ p3 ∧ p4 ∧ p5 ∧ p6 ∧ p7 ∧ p8 ∧ p9 ∧ a < b) : a ≠ b := Nat.ne_of_lt h.2.2.2.2.2.2.2.2.2
theorem neGe10 {a b : Nat} {p1 p2 p3 p4 p5 p6 p7 p8 p9 : Prop} (h : p1 ∧ p2 ∧ p3 ∧ p4 ∧ p5 ∧ p6 ∧ p7 ∧ p8 ∧ p9 ∧ b < a) : a ≠ b := Nat.ne_of_gt h.2.2.2.2.2.2.2.2.2
theorem neL11 {a b : Nat} {q p1 p2 p3 p4 p5 p6 p7 p8 p9 p10 : Prop} (h : p1 ∧ p2 ∧ p3 ∧ p4 ∧ p5 ∧ p6 ∧ p7 ∧ p8 ∧ p9 ∧ p10 ∧ a < b ∧ q) : a ≠ b := Nat.ne_of_lt h.2.2.2.2.2.2.2.2.2.2.1
theorem neG11 {a b : Nat} {q p1 p2 p3 p4 p5 p6 p7 p8 p9 p10 : Prop} (h : p1 ∧ p2 ∧ p3 ∧ p4 ∧ p5 ∧ p6 ∧ p7 ∧ p8 ∧ p9 ∧ p10 ∧ b < a ∧ q) : a ≠ b := Nat.ne_of_gt h.2.2.2.2.2.2.2.2.2.2.1
theorem neLe11 {a b : Nat} {p1 p2 p3 p4 p5 p6 p7 p8 p9 p10 : Prop} (h : p1 ∧ p2 ∧ p3 ∧ p4 ∧ p5 ∧ p6 ∧ p7 ∧ p8 ∧ p9 ∧ p10 ∧ a < b) : a ≠ b := Nat.ne_of_lt h.2.2.2.2.2.2.2.2.2.2
theorem neGe11 {a b : Nat} {p1 p2 p3 p4 p5 p6 p7 p8 p9 p10 : Prop} (h : p1 ∧ p2 ∧ p3 ∧ p4 ∧ p5 ∧ p6 ∧ p7 ∧ p8 ∧ p9 ∧ p10 ∧ b < a) : a ≠ b := Nat.ne_of_gt h.2.2.2.2.2.2.2.2.2.2
theorem neL12 {a b : Nat} {q p1 p2 p3 p4 p5 p6 p7 p8 p9 p10 p11 : Prop} (h : p1 ∧ p2 ∧ p3 ∧ p4 ∧ p5 ∧ p6 ∧ p7 ∧ p8 ∧ p9 ∧ p10 ∧ p11 ∧ a < b ∧ q) : a ≠ b := Nat.ne_of_lt h.2.2.2.2.2.2.2.2.2.2.2.1
theorem neG12 {a b : Nat} {q p1 p2 p3 p4 p5 p6 p7 p8 p9 p10 p11 : Prop} (h : p1 ∧ p2 ∧ p3 ∧ p4 ∧ p5 ∧ p6 ∧ p7 ∧ p8 ∧ p9 ∧ p10 ∧ p11 ∧ b < a ∧ q) : a ≠ b := Nat.ne_of_gt h.2.2.2.2.2.2.2.2.2.2.2.1
theorem neLe12 {a b : Nat} {p1 p2 p3 p4 p5 p6 p7 p8 p9 p10 p11 : Prop} (h : p1 ∧ p2 ∧ p3 ∧ p4 ∧ p5 ∧ p6 ∧ p7 ∧ p8 ∧ p9 ∧ p10 ∧ p11 ∧ a < b) : a ≠ b := Nat.ne_of_lt h.2.2.2.2.2.2.2.2.2.2.2
theorem neGe12 {a b : Nat} {p1 p2 p3 p4 p5 p6 p7 p8 p9 p10 p11 : Prop} (h : p1 ∧ p2 ∧ p3 ∧ p4 ∧ p5 ∧ p6 ∧ p7 ∧ p8 ∧ p9 ∧ p10 ∧ p11 ∧ b < a) : a ≠ b := Nat.ne_of_gt h.2.2.2.2.2.2.2.2.2.2.2
local macro_rules | `(tactic| k_ne) => `(tactic| k_extra "my ne")
local macro_rules | `(tactic| units_room) => `(tactic| k_extra "my units")
local macro_rules | `(tactic| k_all) => `(tactic| with_reducible assumption)
local macro_rules | `(tactic| walk_at "binaryOp FloorDiv int int") => `(tactic| k_extra "m binaryOp FloorDiv int int")
local macro_rules | `(tactic| walk_at "eval Call Name") => `(tactic| k_extra "m eval Call Name")
local macro_rules | `(tactic| walk_at "exec For Name Call cons nil") => `(tactic| k_extra "m exec For Name Call cons nil")
local macro_rules | `(tactic| walk_at "exec For Name Name cons nil") => `(tactic| k_extra "m exec For Name Name cons nil")
local macro_rules | `(tactic| walk_at "pyIter ref") => `(tactic| k_extra "m pyIter ref")
local macro_rules | `(tactic| walk_at "call ref") => `(tactic| k_extra "m call ref")
local macro_rules | `(tactic| walk_at "call builtin:len") => `(tactic| k_extra "m call builtin:len")
local macro_rules | `(tactic| walk_at "subscriptTail Name Name ref int") => `(tactic| k_extra "m subscriptTail Name Name ref int")
local macro_rules | `(tactic| walk_at "subscriptTail Name BinOp ref int") => `(tactic| k_extra "m subscriptTail Name BinOp ref int")
local macro_rules | `(tactic| walk_at "exec For Name Subscript cons nil") => `(tactic| k_extra "m exec For Name Subscript cons nil")
local macro_rules | `(tactic| walk_at "exec While Compare cons nil") => `(tactic| k_extra "m exec While Compare cons nil")
local macro_rules | `(tactic| walk_at "exec While BoolOp cons nil") => `(tactic| k_extra "m exec While BoolOp cons nil")
local macro_rules | `(tactic| walk_at "eval ListComp") => `(tactic| k_extra "m eval ListComp")
local macro_rules | `(tactic| walk_at "CompSrc") => `(tactic| k_extra "m CompSrc")
local macro_rules | `(tactic| walk_at "SrcD") => `(tactic| k_extra "m SrcD")
local macro_rules | `(tactic| walk_at "call builtin:list.pop") => `(tactic| k_extra "m call builtin:list.pop")
local macro_rules | `(tactic| walk_at "subscriptTail Name Constant ref int") => `(tactic| k_extra "m subscriptTail Name Constant ref int")
local macro_rules | `(tactic| walk_at "exec If") => `(tactic| k_extra "m exec If")
local macro_rules | `(tactic| walk_at "eval IfExp") => `(tactic| k_extra "m eval IfExp")
local macro_rules | `(tactic| walk_at "binaryOp Add ref ref") => `(tactic| k_extra "m binaryOp Add ref ref")
local macro_rules | `(tactic| walk_at "call builtin:sorted") => `(tactic| k_extra "m call builtin:sorted")
local macro_rules | `(tactic| walk_at "getMethod ref") => `(tactic| k_extra "m stop20")
local macro_rules | `(tactic| walk_at "callWith ref") => `(tactic| k_extra "m callWith ref")
local macro_rules | `(tactic| walk_at "callWith ref") => `(tactic| k_extra "m stop21")
local macro_rules | `(tactic| walk_at "KswEnd") => `(tactic| k_extra "m stop22")
local macro_rules | `(tactic| walk_at "binaryOp Add ref ref") => `(tactic| k_extra "m stop23")
local macro_rules | `(tactic| walk_at "callWith") => `(tactic| k_extra "m callWith")
local macro_rules | `(tactic| k_in) => `(tactic| k_extra "my in")
theorem lines1 : True := by
  k_with "m callWith ref" => (k_here; first | ((with_reducible show wpAny _ _ (callWith _ _ _ (backTo _ (starEach (_ :: _) _)) []) _ _ _); k_dflt (refine' callWith_K ?k1 ?k2 ?_; (case k1 => k_asm); (case k2 => k_is); k_whole)) | ((with_reducible show wpAny _ _ (callWith _ _ _ (backTo _ (starEach [] _)) []) _ _ _); k_dflt (refine' callWith_K0 ?k1 ?k2 ?_; (case k1 => k_in); (case k2 => k_is); k_whole)))
  k_with "m stop20" => ((have hz : Stop 20 := (by with_reducible assumption)); clear hz; refine Mark.mk ?_)
  k_with "m stop21" => ((have hz : Stop 21 := (by with_reducible assumption)); clear hz; refine Mark.mk ?_)
  k_with "m stop22" => ((have hz : Stop 22 := (by with_reducible assumption)); clear hz; refine Mark.mk ?_)
  k_with "m stop23" => ((have hz : Stop 23 := (by with_reducible assumption)); clear hz; refine Mark.mk ?_)
  k_with "m callWith" => ((with_reducible show wpAny _ _ (callWith _ (Value.builtin _) (_ :: _) _ _) _ _ _); refine callWith_method1 ?_)
  k_with "my in" => (with_reducible exact inK (by assumption) (by assumption))
  k_with "my stay" => (intro _ _ _; (with_reducible rename Heap.StaysIn _ _ => kS); (with_reducible rename Fr _ _ _ _ => kF); replace kF := Fr.stay kF kS; (with_reducible rename News _ _ _ _ => kN); replace kN := News.stay kN kS; clear kS; revert kF kN; intro _ _)
  k_with "my depth" => (first | assumption | ((with_reducible rename _ + _ < recursionLimit => kR); refine Nat.lt_of_le_of_lt ?_ kR; simp +arith only [depth_in1, depth_deeper]))
  k_with "my units" => (first | assumption | ((with_reducible rename _ + _ < cLine => kR); refine Nat.lt_of_le_of_lt ?_ kR; simp +arith only [units_in1, units_deeper]))
  k_with "m binaryOp FloorDiv int int" => (refine floordiv_int (by assumption) ?_ (.inl (PyProof.noPylong_of_log2 (by assumption))))
  k_with "m eval Call Name" => ((with_reducible show wpAny _ _ (eval (Expr.Call (Expr.Name _ _) _ [] _) _) _ _ _); refine Call_ ?_)
  k_with "m exec For Name Call cons nil" => (k_here; with_unfolding_all refine For_invVF (by first | with_reducible assumption | assumption) (by rfl) (by rfl) ?_)
  k_with "m exec For Name Name cons nil" => (k_here; with_unfolding_all refine For_invVF (by first | with_reducible assumption | assumption) (by rfl) (by rfl) ?_)
  k_with "m pyIter ref" => ((with_reducible show wpAny _ _ (pyIter (Value.ref _)) (fun it s₂ => LoopAtV _ _ _ _ _ _ _ _ _ it s₂) _ _); refine Mark.mk ?_)
  k_with "my ne5" => (first | exact neL1 (by assumption) | exact neG1 (by assumption) | exact neL2 (by assumption) | exact neG2 (by assumption) | exact neLe2 (by assumption) | exact neGe2 (by assumption) | exact neL3 (by assumption) | exact neG3 (by assumption) | exact neLe3 (by assumption) | exact neGe3 (by assumption) | exact neL4 (by assumption) | exact neG4 (by assumption) | exact neLe4 (by assumption) | exact neGe4 (by assumption) | exact neL5 (by assumption) | exact neG5 (by assumption) | exact neLe5 (by assumption) | exact neGe5 (by assumption) | exact neL6 (by assumption) | exact neG6 (by assumption) | exact neLe6 (by assumption) | exact neGe6 (by assumption) | exact neL7 (by assumption) | exact neG7 (by assumption) | exact neLe7 (by assumption) | exact neGe7 (by assumption) | exact neL8 (by assumption) | exact neG8 (by assumption) | exact neLe8 (by assumption) | exact neGe8 (by assumption) | exact neL9 (by assumption) | exact neG9 (by assumption) | exact neLe9 (by assumption) | exact neGe9 (by assumption) | exact neL10 (by assumption) | exact neG10 (by assumption) | exact neLe10 (by assumption) | exact neGe10 (by assumption) | exact neL11 (by assumption) | exact neG11 (by assumption) | exact neLe11 (by assumption) | exact neGe11 (by assumption) | exact neL12 (by assumption) | exact neG12 (by assumption) | exact neLe12 (by assumption) | exact neGe12 (by assumption))
  k_with "my ne" => (refine neN ?_; (try dsimp only); first | with_reducible assumption | with_reducible exact Ne.symm (by assumption) | with_reducible exact Nat.ne_of_lt (by assumption) | with_reducible exact Nat.ne_of_gt (by assumption) | with_reducible k_extra "my ne5" | omega)
  trivial
section
variable {w : World} {A : Around} {s : Shared} {mg mb : Str → Option Value} {p : Program} {loose : List Str} {mean : ExcName → Option Value} {c : Heap} {Q E : Value → Shared → Prop}

set_option maxHeartbeats 4000000 in
theorem is_na_spec {x : Value} {q : Int × Int} (C : Amb (hd.heap_39 w.params) mg mb p loose mean c) (st : c.StaysIn s.heap) (hx : FracAt s.heap x q) (hq : ¬ (q.1 = 0 ∧ q.2 = 0))
    (hroom : A.depth < recursionLimit)
    (ret : ∀ h' tk', s.heap.StaysIn h' → Q (.bool false) { s with heap := h', toks := tk' }) :
    wpAny (model PySem.Challenge.rw_pq1401_01.row.prog w) A (call (.ref 91) [x] []) Q E s := by
  refine hx.elim (P := fun x => wpAny _ A (call (.ref 91) [x] []) Q E s) fun a t u hx => ?_
  w_top off; revert C; k_fill; intro C
  refine enter C st [] (binds := [(Str.ofString "x", .ref a)]) (fun _ h => nomatch h) (fun _ h => nomatch h) (by k_is) (by k_is) hroom (BindsTo.of_eq (by rfl)) (by exact locs rfl) (by rfl) (by rfl) (by rfl) (by decide) ?_
  intro g L h₁ hg F N X T stc hL
  subst hg
  change Fr s.heap _ _ _ at F
  change News s.heap _ _ _ at N
  change (hd.heap_39 w.params).In s.heap at X
  change Top _ _ _ _ _ s.heap at T
  refine postE fun QQ hQ => ?_
  k_steps
  all_goals refine hQ _ _ ?_
  all_goals dsimp only
  · exact ret_bool (ret _ _ F.keep) (beq_eq_false_iff_ne.mpr fun e => hq ⟨by assumption, e⟩)
  · exact ret_bool (ret _ _ F.keep) (beq_eq_false_iff_ne.mpr (by assumption))

def under (x y : Int × Int) : Bool :=
  if x.2 = 0 ∨ y.2 = 0 then decide ((if x.2 = 0 then x.1 else 0) < (if y.2 = 0 then y.1 else 0)) else decide (x.1 * y.2 < y.1 * x.2)
def cmpF (x y : Int × Int) : Int := if under x y then -1 else if under y x then 1 else 0

def tri (a b : Int) : Int := if a < b then -1 else if b < a then 1 else 0
theorem cmpF_tri {q r : Int × Int} {a b : Int} (h : under q r = decide (a < b)) (h' : under r q = decide (b < a)) : cmpF q r = tri a b := by
  unfold cmpF tri; rw [h, h']; simp only [decide_eq_true_eq]
theorem tri_eq {a b : Int} (h : a = b) : tri a b = 0 := by unfold tri; rw [h, if_neg (Int.lt_irrefl _), if_neg (Int.lt_irrefl _)]
theorem tri_lt {a b : Int} (h : a < b) : tri a b = -1 := if_pos h
theorem tri_gt {a b : Int} (n : a ≠ b) (h : ¬ a < b) : tri a b = 1 := by unfold tri; rw [if_neg h, if_pos ((Int.lt_or_lt_of_ne n).resolve_left h)]
theorem under_00 {q r : Int × Int} (x : q.2 = 0) (y : r.2 = 0) : under q r = decide (q.1 < r.1) := by unfold under; rw [if_pos (.inl x), if_pos x, if_pos y]
theorem under_01 {q r : Int × Int} (x : q.2 = 0) (y : ¬ r.2 = 0) : under q r = decide (q.1 < 0) := by unfold under; rw [if_pos (.inl x), if_pos x, if_neg y]
theorem under_10 {q r : Int × Int} (x : ¬ q.2 = 0) (y : r.2 = 0) : under q r = decide (0 < r.1) := by unfold under; rw [if_pos (.inr y), if_neg x, if_pos y]
theorem under_11 {q r : Int × Int} (x : ¬ q.2 = 0) (y : ¬ r.2 = 0) : under q r = decide (q.1 * r.2 < r.1 * q.2) := by unfold under; rw [if_neg fun h => h.elim x y]
theorem lines2 : True := by
  k_with "m eval IfExp" => (have hz : Stop 11 := (by assumption); clear hz; refine Mark.mk ?_)
  k_with "m exec If" => ((have hz : Stop 15 := (by assumption)); clear hz; refine Mark.mk ?_)
  trivial

def small (n : Int) : Prop := n.natAbs < 2 ^ 2000
def good (q : Int × Int) : Prop := small q.1 ∧ small q.2 ∧ 0 ≤ q.2 ∧ (q.2 = 0 → q.1 = 1 ∨ q.1 = -1)
theorem bits_small {n : Int} (h : small n) : Builtin.Int.intBits n ≤ 2 ^ 20 := by
  unfold Builtin.Int.intBits
  split
  · exact Nat.zero_le _
  · have hn : n.natAbs < 2 ^ 2000 := h
    have : n.natAbs.log2 < 2000 := by
      rcases Nat.eq_zero_or_pos n.natAbs with h0 | hp
      · rw [h0]; decide
      · exact (Nat.log2_lt (Nat.ne_of_gt hp)).mpr hn
    omega
theorem small_log {n : Int} (h : small n) : n.natAbs.log2 < 9000 := by
  have hn : n.natAbs < 2 ^ 2000 := h
  have : n.natAbs.log2 < 2000 := by
    rcases Nat.eq_zero_or_pos n.natAbs with h0 | hp
    · rw [h0]; decide
    · exact (Nat.log2_lt (Nat.ne_of_gt hp)).mpr hn
  omega
theorem mulOk {a b : Int} (ha : small a) (hb : small b) : IntMulOk a b := IntMulOk.of_bits (bits_small ha) (bits_small hb)
theorem good.not_na {q : Int × Int} (h : good q) : ¬ (q.1 = 0 ∧ q.2 = 0) := fun ⟨a, b⟩ => by
  rcases h.2.2.2 b with e | e <;> omega

theorem lines3 : True := by
  k_with "m call ref" => (k_here; (with_reducible show wpAny _ _ (call (Value.ref 91) [_] []) _ _ _); refine is_na_spec ⟨by assumption, by assumption⟩ (Fr.keep (by assumption)) (FracAt.keeps (by assumption) (Fr.keep (by assumption))) (good.not_na (by assumption)) (by walk_at "my depth") ?_; walk_at "my stay")
  trivial

set_option maxHeartbeats 4000000 in
theorem compare_spec {x y : Value} {q r : Int × Int} (C : Amb (hd.heap_39 w.params) mg mb p loose mean c) (st : c.StaysIn s.heap) (hx : FracAt s.heap x q) (hy : FracAt s.heap y r) (gq : good q) (gr : good r)
    (hroom : A.depth + 1 < recursionLimit)
    (ret : ∀ t h' tk', s.heap.StaysIn h' → Q (.int (cmpF q r) t) { s with heap := h', toks := tk' }) :
    wpAny (model PySem.Challenge.rw_pq1401_01.row.prog w) A (call (.ref 98) [x, y] []) Q E s := by
  refine hx.elim (P := fun x => wpAny _ A (call (.ref 98) [x, y] []) Q E s) fun a t u hx => ?_
  refine hy.elim (P := fun y => wpAny _ A (call (.ref 98) [.ref a, y] []) Q E s) fun a2 t2 u2 hy => ?_
  have hx' := FracAt.tup hx
  have hy' := FracAt.tup hy
  have hm1 : IntMulOk q.1 r.2 := mulOk gq.1 gr.2.1
  have hm2 : IntMulOk r.1 q.2 := mulOk gr.1 gq.2.1
  w_top off; revert C; k_fill; intro C
  refine enter C st [] (binds := [(Str.ofString "x", .ref a), (Str.ofString "y", .ref a2)]) (fun _ h => nomatch h) (fun _ h => nomatch h) (by k_is) (by k_is) (Nat.lt_of_succ_lt hroom) (BindsTo.of_eq (by rfl)) (by exact locs rfl) (by rfl) (by rfl) (by rfl) (by decide) ?_
  intro g L h₁ hg F N X T stc hL
  subst hg
  change Fr s.heap _ _ _ at F
  change News s.heap _ _ _ at N
  change (hd.heap_39 w.params).In s.heap at X
  change Top _ _ _ _ _ s.heap at T
  refine postE fun QQ hQ => ?_
  have hstop : Stop 15 := trivial
  k_steps
  refine Mark.of ?_
  clear hstop
  iterate 1 walk1
  have hstop : Stop 15 := trivial
  k_steps
  clear hstop
  rename Heap => h2
  rename Fr _ _ _ _ => F
  rename News _ _ _ _ => N
  refine Mark.of (cutN (K := fun Q2 => ∀ (a b : Int) (ta tb : Tok) (M : Str → Option Value) (h : Heap) (tk : Nat), cmpF q r = tri a b → Fr s.heap L h (fun y => if y = Str.ofString "right" then some (.int b tb) else if y = Str.ofString "left" then some (.int a ta) else M y) → Q2 Flow.next { s with heap := h, toks := tk }) (fun Q2 k2 => ?_) ?_)
  · iterate 1 walk1
    refine cutN (K := fun Q3 => ∀ tk, Q3 (decide (q.2 = 0 ∧ r.2 = 0)) { s with heap := h2, toks := tk }) (fun Q3 k3 => ?_) (fun tk => ?_)
    · k_steps
      · exact ret_b (k3 _) (decide_eq_true ⟨by assumption, by assumption⟩)
      · exact ret_b (k3 _) (decide_eq_false fun h => absurd h.2 (by assumption))
      · exact ret_b (k3 _) (decide_eq_false fun h => absurd h.1 (by assumption))
    · k_steps
      · exact k2 _ _ _ _ _ _ _ (cmpF_tri (under_00 (And.left (by assumption)) (And.right (by assumption))) (under_00 (And.right (by assumption)) (And.left (by assumption)))) (by assumption)
      · rename ¬(_ ∧ _) => n0
        rename q.2 = 0 => n1
        exact k2 _ _ _ _ _ _ _ (cmpF_tri (under_01 n1 fun h => n0 ⟨n1, h⟩) (under_10 (fun h => n0 ⟨n1, h⟩) n1)) (by assumption)
      · exact k2 _ _ _ _ _ _ _ (cmpF_tri (under_10 (by assumption) (by assumption)) (under_01 (by assumption) (by assumption))) (by assumption)
      · exact k2 _ _ _ _ _ _ _ (cmpF_tri (under_11 (by assumption) (by assumption)) (under_11 (by assumption) (by assumption))) (by assumption)
  · intro a b ta tb M h tk ht F
    k_steps
    · exact hQ _ _ (ret_int (ret _ _ _ F.keep) ((ht.trans (tri_eq (by assumption))).symm))
    · exact hQ _ _ (ret_int (ret _ _ _ F.keep) ((ht.trans (tri_lt (by assumption))).symm))
    · exact hQ _ _ (ret_int (ret _ _ _ F.keep) ((ht.trans (tri_gt (by assumption) (by assumption))).symm))
end

/-- the state between the turns of a loop: the ledger's part, the names that hold something known, what is forgotten -/
def KS {σ : Type} (Led : σ → List (Addr × Obj)) (ps : σ → List (Str × Value)) (x : Str) (stored : List Str) (m₀ : Str → Option Value) (P : Nat → σ → Prop) (i : Nat) (m : Str → Option Value) (nx : List (Addr × Obj)) : Prop :=
  ∃ c : σ, nx = Led c ∧ (∀ p ∈ ps c, m p.1 = some p.2) ∧ (∀ z, z ≠ x → (∀ p ∈ ps c, z ≠ p.1) → stored.contains z = false → m z = m₀ z) ∧ P i c

section
variable {prog : Program} {w : World} {A : Around} {E : Value → Shared → Prop} {s : Shared} {env : Env} {h₀ : Heap} {x : Str} {body : List Stmt} {Q : Flow → Shared → Prop}

theorem ks_walks {σ : Type} {I : Addr} {fp wr : List Addr} {n : Nat} {V : Nat → Value → Prop} {St : Nat → Heap → Prop} {m₀ : Str → Option Value} (Led : σ → List (Addr × Obj)) (ps : σ → List (Str × Value)) (stored : List Str) (P : Nat → σ → Prop) (c₀ : σ)
    (W : Walks prog w A I fp wr n V St) (hLf : env.locals ∉ fp) (hwr : ∀ b ∈ wr, h₀.get? b = none) (hfp : ∀ q ∈ Led c₀, q.1 ∉ fp) (hst : St 0 s.heap)
    (F : Fr h₀ env.locals s.heap m₀) (N : News h₀ env.locals s.heap (Led c₀)) (hk : ∀ p ∈ ps c₀, m₀ p.1 = some p.2) (hp : P 0 c₀)
    (turn : ∀ (c : σ) i v (u : Str → Option Value) h tk own, i < n → V i v → OwnOff own ((Led c₀).map (·.1)) → P i c →
      Fr h₀ env.locals h (fun y => if y = x then some v else kstB (fun z => if stored.contains z then u z else m₀ z) (ps c) y) → News h₀ env.locals h (Led c ++ own) →
      ∀ QQ : Flow → Shared → Prop, (∀ f s', InvPostN h₀ env.locals (KS Led ps x stored m₀ P (i + 1)) own ((Led c₀).map (·.1)) { s with heap := h, toks := tk } Q f s' → QQ f s') → wpAny (model prog w) A (execs body env) QQ E { s with heap := h, toks := tk })
    (done : ∀ (c : σ) (u : Str → Option Value) h tk, P n c → Fr h₀ env.locals h (fun y => if y = x then u y else kstB (fun z => if stored.contains z then u z else m₀ z) (ps c) y) → News h₀ env.locals h (Led c) → Q .next { s with heap := h, toks := tk }) :
    LoopAtV prog w A h₀ env x body Q E (.ref I) s := by
  refine loop_invN (fun i m nx => KS Led ps x stored m₀ P i m nx) W hLf hwr (fun p hp hq => hfp p hp (W.sub _ hq)) hfp hst F N ⟨c₀, rfl, hk, fun _ _ _ _ => rfl, hp⟩ ?_ ?_
  · rintro i v m₁ nx h tk own hi hv _ hoff ⟨c, rfl, h1, h2, hp'⟩ F₁ N₁
    exact turn c i v m₁ h tk own hi hv hoff hp' (kst_fr h1 h2 F₁) N₁ _ fun _ _ h => h
  · rintro m₁ nx h tk ⟨c, rfl, h1, h2, hp'⟩ F₁ N₁
    exact done c m₁ h tk hp' (kst_frOut h1 h2 F₁) N₁

theorem ks_end {σ : Type} {Led : σ → List (Addr × Obj)} {ps : σ → List (Str × Value)} {stored : List Str} {m₀ : Str → Option Value} {P : Nat → σ → Prop} {i : Nat} (c : σ) {L : Addr} {m' : Str → Option Value} {own news' : List (Addr × Obj)} {adr : List Addr} {s₁ : Shared} {h' : Heap} {tk : Nat}
    (F : Fr h₀ L h' m') (N : News h₀ L h' news') (hn : ∀ p ∈ Led c, p ∈ news') (ho : ∀ p ∈ own, p ∈ news') (ha : (Led c).map (·.1) = adr) (hk : ∀ p ∈ ps c, m' p.1 = some p.2) (hr : ∀ z, z ≠ x → (∀ p ∈ ps c, z ≠ p.1) → stored.contains z = false → m' z = m₀ z) (hp : P i c) :
    InvEndN h₀ L (KS Led ps x stored m₀ P i) own adr s₁ { s₁ with heap := h', toks := tk } :=
  InvEndN.intro F N ⟨c, rfl, hk, hr, hp⟩ ha hn ho

theorem ks_next {σ : Type} {Led : σ → List (Addr × Obj)} {ps : σ → List (Str × Value)} {stored : List Str} {m₀ : Str → Option Value} {P : Nat → σ → Prop} {i : Nat} (c : σ) {L : Addr} {m' : Str → Option Value} {own news' : List (Addr × Obj)} {adr : List Addr} {s₁ : Shared} {h' : Heap} {tk : Nat} {QQ : Flow → Shared → Prop}
    (hQ : ∀ f s', InvPostN h₀ L (KS Led ps x stored m₀ P i) own adr s₁ Q f s' → QQ f s') (F : Fr h₀ L h' m') (N : News h₀ L h' news') (hn : ∀ p ∈ Led c, p ∈ news') (ho : ∀ p ∈ own, p ∈ news') (ha : (Led c).map (·.1) = adr) (hk : ∀ p ∈ ps c, m' p.1 = some p.2) (hr : ∀ z, z ≠ x → (∀ p ∈ ps c, z ≠ p.1) → stored.contains z = false → m' z = m₀ z) (hp : P i c) :
    QQ .next { s₁ with heap := h', toks := tk } := hQ _ _ (ks_end c F N hn ho ha hk hr hp)

/-- over a range by ones -/
theorem ks_range {σ : Type} {r : Addr} {a₀ b₀ : Int} {t₀ u₀ v₀ : Tok} {n : Nat} {m₀ : Str → Option Value} (Led : σ → List (Addr × Obj)) (ps : σ → List (Str × Value)) (stored : List Str) (P : Nat → σ → Prop) (c₀ : σ)
    (hh : A.handled = none) (hr : IsRange s.heap r a₀ b₀ 1 t₀ u₀ v₀) (hsmall : Builtin.Range.small a₀ b₀ 1 = true) (hn : Builtin.Range.rangeSize a₀ b₀ 1 = (n : Int))
    (F : Fr h₀ env.locals s.heap m₀) (N : News h₀ env.locals s.heap (Led c₀)) (hk : ∀ p ∈ ps c₀, m₀ p.1 = some p.2) (hp : P 0 c₀)
    (turn : ∀ (c : σ) i t (u : Str → Option Value) h tk own, i < n → OwnOff own ((Led c₀).map (·.1)) → P i c →
      Fr h₀ env.locals h (fun y => if y = x then some (.int (a₀ + (i : Int)) t) else kstB (fun z => if stored.contains z then u z else m₀ z) (ps c) y) → News h₀ env.locals h (Led c ++ own) →
      ∀ QQ : Flow → Shared → Prop, (∀ f s', InvPostN h₀ env.locals (KS Led ps x stored m₀ P (i + 1)) own ((Led c₀).map (·.1)) { s with heap := h, toks := tk } Q f s' → QQ f s') → wpAny (model prog w) A (execs body env) QQ E { s with heap := h, toks := tk })
    (done : ∀ (c : σ) (u : Str → Option Value) h tk, P n c → Fr h₀ env.locals h (fun y => if y = x then u y else kstB (fun z => if stored.contains z then u z else m₀ z) (ps c) y) → News h₀ env.locals h (Led c) → Q .next { s with heap := h, toks := tk }) :
    wpAny (model prog w) A (pyIter (.ref r)) (fun it s₂ => LoopAtV prog w A h₀ env x body Q E it s₂) E s := by
  refine wpAny_pyIter_range hr hsmall ?_
  refine ks_walks Led ps stored P c₀ (Walks.range hh s.heap.objs.size a₀ 1 n) ?_ ?_ ?_ (by show IsRangeIter _ _ _ _ _; rw [hn]; simpa using Heap.get?_push_size _ rfl) (F.push _) (fun p hp => ⟨Heap.get?_push_of_some _ (N p hp).1, (N p hp).2⟩) hk hp ?_ ?_
  · intro hm
    exact absurd F.ns.lt ((List.mem_singleton.mp hm) ▸ Nat.lt_irrefl _)
  · intro b hb
    rw [List.mem_singleton.mp hb]
    exact next_is_new F
  · intro p hp hI
    exact absurd (Heap.lt_size (N p hp).1) ((List.mem_singleton.mp hI) ▸ Nat.lt_irrefl _)
  · rintro c i v u h tk own hi ⟨t, rfl⟩ hoff hP F₁ N₁ QQ hQ
    have e1 : a₀ + (i : Int) * 1 = a₀ + (i : Int) := by rw [Int.mul_one]
    rw [e1] at F₁
    exact turn c i t u h tk own hi hoff hP F₁ N₁ QQ hQ
  · intro c u h tk hP F₁ N₁
    exact done c u h tk hP F₁ N₁

/-- over a list (of anything) that nothing in the loop touches; it stands in the heap as it lies -/
theorem ks_list {σ : Type} {l : Addr} {vs : List Value} {m₀ : Str → Option Value} (Led : σ → List (Addr × Obj)) (ps : σ → List (Str × Value)) (stored : List Str) (P : Nat → σ → Prop) (c₀ : σ)
    (hh : A.handled = none) (hl : s.heap.IsList l vs.toArray) (hlL : l ≠ env.locals) (hlN : ∀ q ∈ Led c₀, q.1 ≠ l)
    (F : Fr h₀ env.locals s.heap m₀) (N : News h₀ env.locals s.heap (Led c₀)) (hk : ∀ p ∈ ps c₀, m₀ p.1 = some p.2) (hp : P 0 c₀)
    (turn : ∀ (c : σ) i v (u : Str → Option Value) h tk own, i < vs.length → vs[i]? = some v → OwnOff own ((Led c₀).map (·.1)) → P i c →
      Fr h₀ env.locals h (fun y => if y = x then some v else kstB (fun z => if stored.contains z then u z else m₀ z) (ps c) y) → News h₀ env.locals h (Led c ++ own) →
      ∀ QQ : Flow → Shared → Prop, (∀ f s', InvPostN h₀ env.locals (KS Led ps x stored m₀ P (i + 1)) own ((Led c₀).map (·.1)) { s with heap := h, toks := tk } Q f s' → QQ f s') → wpAny (model prog w) A (execs body env) QQ E { s with heap := h, toks := tk })
    (done : ∀ (c : σ) (u : Str → Option Value) h tk, P vs.length c → Fr h₀ env.locals h (fun y => if y = x then u y else kstB (fun z => if stored.contains z then u z else m₀ z) (ps c) y) → News h₀ env.locals h (Led c) → Q .next { s with heap := h, toks := tk }) :
    wpAny (model prog w) A (pyIter (.ref l)) (fun it s₂ => LoopAtV prog w A h₀ env x body Q E it s₂) E s := by
  obtain ⟨ol, hol, _⟩ := id hl
  have hne : l ≠ s.heap.objs.size := Nat.ne_of_lt (Heap.lt_size hol)
  refine wpAny_pyIter_list hl ?_
  have W := Walks.list (prog := prog) (w := w) hh s.heap.objs.size l hne vs.toArray
  have hlen : vs.toArray.size = vs.length := by simp
  rw [hlen] at W
  refine ks_walks Led ps stored P c₀ W ?_ ?_ ?_ ⟨⟨_, Heap.get?_push_size _ rfl, rfl, rfl⟩, hl.at fun o e => Heap.get?_push_of_some _ e⟩ (F.push _) (fun p hp => ⟨Heap.get?_push_of_some _ (N p hp).1, (N p hp).2⟩) hk hp ?_ ?_
  · intro hm
    rcases List.mem_cons.mp hm with e | hm
    · exact absurd F.ns.lt (e ▸ Nat.lt_irrefl _)
    · exact hlL (List.mem_singleton.mp hm).symm
  · intro b hb
    rw [List.mem_singleton.mp hb]
    exact next_is_new F
  · intro p hp hI
    rcases List.mem_cons.mp hI with e | hI
    · exact absurd (Heap.lt_size (N p hp).1) (e ▸ Nat.lt_irrefl _)
    · exact hlN p hp (List.mem_singleton.mp hI)
  · rintro c i v u h tk own hi hv hoff hP F₁ N₁ QQ hQ
    exact turn c i v u h tk own hi (by simpa using hv) hoff hP F₁ N₁ QQ hQ
  · intro c u h tk hP F₁ N₁
    exact done c u h tk hP F₁ N₁
end

/-- a list of such tuples -/
inductive FracsAt (h : Heap) : List Value → List (Int × Int) → Prop
  | nil : FracsAt h [] []
  | cons {v : Value} {q : Int × Int} {vs : List Value} {qs : List (Int × Int)} : FracAt h v q → FracsAt h vs qs → FracsAt h (v :: vs) (q :: qs)
theorem FracsAt.keeps {h h' : Heap} {vs : List Value} {qs : List (Int × Int)} (x : FracsAt h vs qs) (st : h.StaysIn h') : FracsAt h' vs qs := by
  induction x with
  | nil => exact .nil
  | cons a _ ih => exact .cons (a.keeps st) ih
theorem FracsAt.length {h : Heap} {vs : List Value} {qs : List (Int × Int)} (x : FracsAt h vs qs) : vs.length = qs.length := by
  induction x with
  | nil => rfl
  | cons _ _ ih => simp [ih]
theorem FracsAt.get {h : Heap} {vs : List Value} {qs : List (Int × Int)} (x : FracsAt h vs qs) {i : Nat} (hi : i < qs.length) : ∃ v, vs[i]? = some v ∧ FracAt h v qs[i] := by
  induction x generalizing i with
  | nil => exact absurd hi (Nat.not_lt_zero _)
  | cons a _ ih =>
    cases i with
    | zero => exact ⟨_, rfl, a⟩
    | succ i => simpa using ih (i := i) (by simpa using hi)


theorem ks_off {x : Str} {v : Option Value} {ps : List (Str × Value)} {stored : List Str} {u m₀ : Str → Option Value} : ∀ z, z ≠ x → (∀ p ∈ ps, z ≠ p.1) → stored.contains z = false →
    (fun y => if y = x then v else kstB (fun z => if stored.contains z then u z else m₀ z) ps y) z = m₀ z := by
  intro z h1 h2 h3
  show (if z = x then v else kstB (fun z => if stored.contains z then u z else m₀ z) ps z) = m₀ z
  rw [if_neg h1]
  have : ∀ ps : List (Str × Value), (∀ p ∈ ps, z ≠ p.1) → kstB (fun z => if stored.contains z then u z else m₀ z) ps z = m₀ z := by
    intro ps h
    induction ps with
    | nil => show (if stored.contains z = true then u z else m₀ z) = m₀ z; rw [h3]; simp
    | cons p r ih =>
      show (if z = p.1 then some p.2 else kstB (fun z => if stored.contains z then u z else m₀ z) r z) = m₀ z
      rw [if_neg (h p (.head _))]
      exact ih fun q hq => h q (.tail _ hq)
  exact this ps h2

theorem base_ne_L {h₀ h : Heap} {L a : Addr} {m : Str → Option Value} {vs : Array Value} (F : Fr h₀ L h m) (hl : h₀.IsList a vs) : a ≠ L := by
  obtain ⟨o, ho, _⟩ := hl
  exact Nat.ne_of_lt (Nat.lt_of_lt_of_le (Heap.lt_size ho) F.above)
theorem base_ne_news {h₀ h : Heap} {L a : Addr} {news : List (Addr × Obj)} {vs : Array Value} (N : News h₀ L h news) (hl : h₀.IsList a vs) : ∀ q ∈ news, q.1 ≠ a := by
  intro q hq e
  obtain ⟨o, ho, _⟩ := hl
  have := (N q hq).2.2
  rw [e, ho] at this
  cases this
theorem base_list {h₀ h : Heap} {L a : Addr} {m : Str → Option Value} {vs : Array Value} (F : Fr h₀ L h m) (hl : h₀.IsList a vs) : h.IsList a vs := hl.at fun o e => F.keep a o e

theorem fr_tok {h₀ h : Heap} {L : Addr} {m : Str → Option Value} (_F : Fr h₀ L h m) (x : Str) (k : Int) (e : ∃ t, m x = some (.int k t)) : ∃ t, m x = some (.int k t) := e
section
variable {w : World} {A : Around} {s : Shared} {mg mb : Str → Option Value} {p : Program} {loose : List Str} {mean : ExcName → Option Value} {c : Heap} {Q E : Value → Shared → Prop}

set_option maxHeartbeats 4000000 in
theorem law_under_spec {x y : Value} {q r : Int × Int} (C : Amb (hd.heap_39 w.params) mg mb p loose mean c) (st : c.StaysIn s.heap) (hx : FracAt s.heap x q) (hy : FracAt s.heap y r) (gq : good q) (gr : good r)
    (hroom : A.depth < recursionLimit)
    (ret : ∀ h' tk', s.heap.StaysIn h' → Q (.bool (under q r)) { s with heap := h', toks := tk' }) :
    wpAny (model PySem.Challenge.rw_pq1401_01.row.prog w) A (call (.ref 221) [x, y] []) Q E s := by
  refine hx.elim (P := fun x => wpAny _ A (call (.ref 221) [x, y] []) Q E s) fun a t u hx => ?_
  refine hy.elim (P := fun y => wpAny _ A (call (.ref 221) [.ref a, y] []) Q E s) fun a2 t2 u2 hy => ?_
  have hm1 : IntMulOk q.1 r.2 := mulOk gq.1 gr.2.1
  have hm2 : IntMulOk r.1 q.2 := mulOk gr.1 gq.2.1
  w_top off; revert C; k_fill; intro C
  refine enter C st [] (binds := [(Str.ofString "x", .ref a), (Str.ofString "y", .ref a2)]) (fun _ h => nomatch h) (fun _ h => nomatch h) (by k_is) (by k_is) hroom (BindsTo.of_eq (by rfl)) (by exact locs rfl) (by rfl) (by rfl) (by rfl) (by decide) ?_
  intro g L h₁ hg F N X T stc hL
  subst hg
  change Fr s.heap _ _ _ at F
  change News s.heap _ _ _ at N
  change (hd.heap_39 w.params).In s.heap at X
  change Top _ _ _ _ _ s.heap at T
  refine postE fun QQ hQ => ?_
  have hstop : Stop 15 := trivial
  k_steps
  refine Mark.of ?_
  clear hstop
  iterate 1 walk1
  refine cutN (K := fun Q3 => ∀ tk, Q3 (decide (q.2 = 0 ∨ r.2 = 0)) { s with heap := h₁, toks := tk }) (fun Q3 k3 => ?_) (fun tk => ?_)
  · k_steps
    · exact ret_b (k3 _) (decide_eq_true (.inl (by assumption)))
    · exact ret_b (k3 _) (decide_eq_true (.inr (by assumption)))
    · exact ret_b (k3 _) (decide_eq_false fun h => h.elim (by assumption) (by assumption))
  · k_steps
    all_goals refine hQ _ _ (ret_bool (ret _ _ F.keep) ?_)
    · exact (under_00 (by assumption) (by assumption)).symm
    · exact (under_01 (by assumption) (by assumption)).symm
    · exact (under_10 (by assumption) (by assumption)).symm
    · exact absurd ‹_ ∨ _› fun h => h.elim (by assumption) (by assumption)
    · exact (under_11 (fun h => absurd (.inl h) ‹¬(_ ∨ _)›) (fun h => absurd (.inr h) ‹¬(_ ∨ _)›)).symm

theorem FracsAt.append {h : Heap} {vs ws : List Value} {qs rs : List (Int × Int)} (x : FracsAt h vs qs) (y : FracsAt h ws rs) : FracsAt h (vs ++ ws) (qs ++ rs) := by
  induction x with
  | nil => exact y
  | cons a _ ih => exact .cons a ih
theorem FracsAt.snoc {h : Heap} {vs : List Value} {qs : List (Int × Int)} {v : Value} {q : Int × Int} (x : FracsAt h vs qs) (y : FracAt h v q) : FracsAt h (vs ++ [v]) (qs ++ [q]) := x.append (.cons y .nil)
theorem FracsAt.drop {h : Heap} {vs : List Value} {qs : List (Int × Int)} (x : FracsAt h vs qs) (i : Nat) : FracsAt h (vs.drop i) (qs.drop i) := by
  induction x generalizing i with
  | nil => simpa using FracsAt.nil
  | cons a r ih =>
    cases i with
    | zero => exact .cons a r
    | succ i => simpa using ih i
theorem FracsAt.at {h : Heap} {vs : List Value} {qs : List (Int × Int)} (x : FracsAt h vs qs) {i : Nat} {v : Value} (e : vs[i]? = some v) : ∃ q, qs[i]? = some q ∧ FracAt h v q := by
  induction x generalizing i with
  | nil => simp at e
  | cons a _ ih =>
    cases i with
    | zero => exact ⟨_, rfl, (Option.some.inj (by simpa using e)) ▸ a⟩
    | succ i => simpa using ih (i := i) (by simpa using e)
theorem good_of {qs : List (Int × Int)} {i : Nat} {q : Int × Int} (h : ∀ q ∈ qs, good q) (e : qs[i]? = some q) : good q := h q (List.mem_of_getElem? e)
theorem good_at {qs : List (Int × Int)} {i : Nat} {q : Int × Int} (e : qs[i]? = some q) (h : ∀ q ∈ qs, good q) : good q := good_of h e
theorem order_at {qs : List (Int × Int)} (hs : ∀ i, (h : i + 1 < qs.length) → under qs[i + 1] qs[i] = false) {a b : Nat} {x y : Int × Int} (ha : qs[a]? = some x) (hb : qs[b]? = some y) (e : a = b + 1) : under x y = false := by
  subst e
  obtain ⟨h1, e1⟩ := List.getElem?_eq_some_iff.mp ha
  obtain ⟨h2, e2⟩ := List.getElem?_eq_some_iff.mp hb
  rw [← e1, ← e2]
  exact hs b h1
theorem FracsAt.get? {h : Heap} {vs : List Value} {qs : List (Int × Int)} (x : FracsAt h vs qs) {i : Nat} (hi : i < qs.length) : ∃ v q, vs[i]? = some v ∧ qs[i]? = some q ∧ FracAt h v q :=
  let ⟨v, a, b⟩ := x.get hi
  ⟨v, qs[i], a, by simp [hi], b⟩

theorem len_base {M : Program} {A : Around} {E : Value → Shared → Prop} {s : Shared} {h₀ : Heap} {L l : Addr} {m : Str → Option Value} {vs : List Value} {Q : Value → Shared → Prop} (F : Fr h₀ L s.heap m) (hl : h₀.IsList l vs.toArray) (hb : vs.length < 2 ^ 62)
    (h : Q (.int vs.length (s.toks + 1)) { s with toks := s.toks + 1 + 1 }) : wpAny (model M w) A (call (.builtin "len") [.ref l]) Q E s := by
  refine len_list (hl.at fun o e => F.keep l o e) (by simp; omega) ?_
  simpa using h

theorem item_base {M : Program} {A : Around} {E : Value → Shared → Prop} {s : Shared} {h₀ g : Heap} {L l : Addr} {m : Str → Option Value} {vs : List Value} {qs : List (Int × Int)} {value slice : Expr} {k : Int} {u : Tok} {Q : Value → Shared → Prop}
    (F : Fr h₀ L s.heap m) (hl : h₀.IsList l vs.toArray) (hx : FracsAt g vs qs) (h0 : 0 ≤ k) (hk : k < qs.length) (hb : qs.length < 2 ^ 62)
    (h : ∀ v q, qs[k.toNat]? = some q → FracAt g v q → Q v s)
    (hs : subscripted slice false (.ref l) (.int k u) = operate [.ref l, .int k u] (getItem (.ref l) (.int k u)) := by with_unfolding_all rfl) (hg : ∀ r, letTemporaryGo value (.ref l) r = pure () := by intro _; with_unfolding_all rfl) :
    wpAny (model M w) A (subscriptTail value slice (.ref l) (.int k u)) Q E s := by
  obtain ⟨v, q, hv, hq, hf⟩ := hx.get? (i := k.toNat) (by omega)
  exact item_list (hl.at fun o e => F.keep l o e) h0 (by omega) (by simpa using hv) (h v q hq hf) hs hg

theorem range_size1 (a b : Int) : Builtin.Range.rangeSize a b 1 = ((b - a).toNat : Int) := by
  unfold Builtin.Range.rangeSize
  simp only [show (1 : Int) > 0 from by decide, if_true]
  split <;> omega
theorem range_small1 {a b : Int} (ha : -1000000 ≤ a) (ha' : a ≤ 1000000) (hb : -1000000 ≤ b) (hb' : b ≤ 1000000) : Builtin.Range.small a b 1 = true := by
  unfold Builtin.Range.small
  rw [range_size1]
  simp only [Builtin.Range.rangeFitsLong, Bool.and_eq_true, Bool.or_eq_true, decide_eq_true_eq, show (1 : Int) > 0 from by decide, if_true]
  refine ⟨⟨⟨⟨by omega, by omega⟩, by omega⟩, by omega⟩, .inr (by omega)⟩


theorem lines4 : True := by
  k_with "m call builtin:len" => (k_here; (with_reducible show wpAny _ _ (call (Value.builtin "len") [Value.ref _]) _ _ _); refine len_base (by with_reducible assumption) (by with_reducible assumption) (by first | assumption | omega) ?_)
  k_with "m subscriptTail Name Name ref int" => (k_here; (with_reducible show wpAny _ _ (subscriptTail _ _ (Value.ref _) (Value.int _ _)) _ _ _); refine item_base (by with_reducible assumption) (by with_reducible assumption) (by with_reducible assumption) (by first | assumption | omega) (by first | assumption | omega) (by first | assumption | omega) ?_; intro _ _ _ _)
  k_with "m subscriptTail Name BinOp ref int" => (k_here; (with_reducible show wpAny _ _ (subscriptTail _ _ (Value.ref _) (Value.int _ _)) _ _ _); refine item_base (by with_reducible assumption) (by with_reducible assumption) (by with_reducible assumption) (by first | assumption | omega) (by first | assumption | omega) (by first | assumption | omega) ?_; intro _ _ _ _)
  k_with "m call ref" => (k_here; (with_reducible show wpAny _ _ (call (Value.ref 221) [_, _] []) _ _ _); refine law_under_spec ⟨by assumption, by assumption⟩ (Fr.keep (by assumption)) (FracAt.keeps (by assumption) (Fr.keep (by assumption))) (FracAt.keeps (by assumption) (Fr.keep (by assumption))) (good_at (by assumption) (by assumption)) (good_at (by assumption) (by assumption)) (by walk_at "my depth") ?_; walk_at "my stay")
  trivial
theorem one_toNat {i n : Nat} (h : i < ((n : Int) - 1).toNat) : ((n : Int) - 1).toNat + 1 ≤ n := by omega
set_option maxHeartbeats 4000000 in
theorem in_order_spec {row : Addr} {vs : List Value} {qs : List (Int × Int)} (C : Amb (hd.heap_39 w.params) mg mb p loose mean c) (st : c.StaysIn s.heap) (hl : s.heap.IsList row vs.toArray) (hx : FracsAt s.heap vs qs)
    (gq : ∀ q ∈ qs, good q) (hlen : qs.length ≤ 1000) (hs : ∀ i, (h : i + 1 < qs.length) → under qs[i + 1] qs[i] = false)
    (hroom : A.depth + 1 < recursionLimit) (hh : A.handled = none)
    (ret : ∀ h' tk', s.heap.StaysIn h' → Q (.bool true) { s with heap := h', toks := tk' }) :
    wpAny (model PySem.Challenge.rw_pq1401_01.row.prog w) A (call (.ref 228) [.ref row] []) Q E s := by
  w_top off; revert C; k_fill; intro C
  refine enter C st [] (binds := [(Str.ofString "row", .ref row)]) (fun _ h => nomatch h) (fun _ h => nomatch h) (by k_is) (by k_is) (Nat.lt_of_succ_lt hroom) (BindsTo.of_eq (by rfl)) (by exact locs rfl) (by rfl) (by rfl) (by rfl) (by decide) ?_
  intro g L h₁ hg F N X T stc hL
  subst hg
  change Fr s.heap _ _ _ at F
  change News s.heap _ _ _ at N
  change (hd.heap_39 w.params).In s.heap at X
  change Top _ _ _ _ _ s.heap at T
  have hvl := hx.length
  have hq62 : qs.length < 2 ^ 62 := Nat.lt_of_le_of_lt hlen (by decide)
  have hv62 : vs.length < 2 ^ 62 := hvl ▸ hq62
  refine postE fun QQ hQ => ?_
  k_steps
  rename IsRange _ _ _ _ _ _ _ _ => hr
  have hv6 : (vs.length : Int) ≤ 1000000 := Int.ofNat_le.mpr (hvl ▸ Nat.le_trans hlen (by decide))
  refine Mark.of (ks_range (σ := Unit) (fun _ => []) (fun _ => []) [] (fun _ _ => True) () hh hr (range_small1 (by decide) (by decide) (Int.le_trans (by decide) (Int.natCast_nonneg _)) hv6) (range_size1 _ _) (by assumption) (by assumption) (fun _ hp => nomatch hp) trivial ?_ ?_)
  · intro _ i t u h tk own hi hoff _ F₁ N₁ Q2 hQ2
    clear hr
    dsimp only [kstB, List.nil_append] at F₁ N₁
    have hi1 : ((i + 1 : Nat) : Int) < qs.length := Int.ofNat_lt.mpr (hvl ▸ Nat.lt_of_lt_of_le (Nat.succ_lt_succ hi) (one_toNat hi))
    have e1 : (1 + (i : Int)) = ((i + 1 : Nat) : Int) := Int.add_comm _ _
    have a1 : (0 : Int) ≤ 1 + (i : Int) := by rw [e1]; exact Int.natCast_nonneg _
    have a2 : 1 + (i : Int) < qs.length := by rw [e1]; exact hi1
    have e2 : (1 + (i : Int)) - 1 = (i : Int) := by rw [Int.add_comm, Int.add_sub_cancel]
    have a3 : (0 : Int) ≤ 1 + (i : Int) - 1 := by rw [e2]; exact Int.natCast_nonneg _
    have a4 : 1 + (i : Int) - 1 < qs.length := by rw [e2]; exact Int.lt_trans (Int.ofNat_lt.mpr (Nat.lt_succ_self i)) hi1
    k_steps
    · rename under _ _ = true => hb
      have e := order_at hs (a := (1 + (i : Int)).toNat) (b := (1 + (i : Int) - 1).toNat) (by assumption) (by assumption) (by rw [e2, e1]; rfl)
      rw [e] at hb
      cases hb
    · refine hQ2 _ _ ?_
      exact ks_end () (by assumption) (by assumption) (fun _ hp => nomatch hp) (fun _ hp => hp) rfl (fun _ hp => nomatch hp) (fun z h1 h2 h3 => if_neg h1) trivial
  · intro _ u h tk _ F₁ N₁
    k_steps
    exact hQ _ _ (ret _ _ F₁.keep)
end
theorem hide_one {h : Heap} {l b : Addr} {o : Obj} (e : h.get? b = some o) (hb : b ≠ l) : (hideAll h ([l])).get? b = some o := hideAll_get _ e (by simpa using hb)

section
variable {w : World} {A : Around} {s : Shared} {mg mb : Str → Option Value} {p : Program} {loose : List Str} {mean : ExcName → Option Value} {c : Heap} {Q E : Value → Shared → Prop}

set_option maxHeartbeats 4000000 in
theorem stud_spec {l : Addr} {vs : List Value} {ns : List Int} {n : Nat} {many : Int} {tm : Tok} (C : Amb (hd.heap_39 w.params) mg mb p loose mean c) (st : c.StaysIn s.heap)
    (hl : s.heap.get? l = some (listOf vs.toArray n)) (hc : c.get? l = none) (hi : IntsAre vs ns) (hlen : ns.length ≤ 1000) (hm : 0 < many) (hm2 : many < 1000)
    (hroom : A.depth < recursionLimit) (hu : A.units + 400 < cLine) (hh : A.handled = none)
    (ret : ∀ (r : Int) t h' tk' vs' ns' n', 0 ≤ r → r < many → IntsAre vs' ns' → ns'.length ≤ ns.length → (∀ b o, b ≠ l → s.heap.get? b = some o → h'.get? b = some o) →
      h'.get? l = some (listOf vs'.toArray n') → Q (.int r t) { s with heap := h', toks := tk' }) :
    wpAny (model PySem.Challenge.rw_pq1401_01.row.prog w) A (call (.ref 207) [.ref l, .int many tm] []) Q E s := by
  w_top off; revert C; k_fill; intro C
  refine enter C st [(l, listOf vs.toArray n)] (binds := [(Str.ofString "studs", .ref l), (Str.ofString "many", .int many tm)]) (by intro q hq; obtain rfl := List.mem_singleton.mp hq; exact hl) (by intro q hq; obtain rfl := List.mem_singleton.mp hq; exact hc) (by k_is) (by k_is) hroom (BindsTo.of_eq (by rfl)) (by exact locs rfl) (by rfl) (by rfl) (by rfl) (by decide) ?_
  intro g L h₁ hg F N X T stc hL
  have kp : ∀ h', g.StaysIn h' → ∀ b o, b ≠ l → s.heap.get? b = some o → h'.get? b = some o := fun h' sg b o hb e => sg b o (by rw [hg]; exact hide_one e hb)
  clear hg
  have hvl := hi.length
  k_steps
  · rename decide (ns = []) = true => he
    dsimp only
    exact ret 0 _ _ _ vs ns n (by omega) hm hi (Nat.le_refl _) (kp _ (Fr.keep (by assumption))) (News.get (by assumption) (.tail _ (.head _)))
  · rename decide (ns = []) = false => he
    have hpos : 0 < vs.length := by
      rw [hvl]
      rcases ns with _ | ⟨k, r⟩
      · simp at he
      · simp
    k_steps
    rename IntsAre _ (List.dropLast _) => hI
    dsimp only
    exact ret _ _ _ _ _ _ _ (Int.fmod_nonneg_of_pos _ hm) (Int.fmod_lt_of_pos _ hm) hI (by simp) (kp _ (Fr.keep (by assumption))) (News.get (by assumption) (.tail _ (.head _)))
end
local macro_rules | `(tactic| walk_at "call builtin:list.reverse") => `(tactic| k_extra "m list.index")
theorem lines5 : True := by
  k_with "m list.index" => ((have hz : Stop 16 := (by assumption)); clear hz; refine Mark.mk ?_)
  k_with "m exec For Name Subscript cons nil" => (k_here; with_unfolding_all refine For_invVF (by first | with_reducible assumption | assumption) (by rfl) (by rfl) ?_)
  trivial

theorem ints_get {vs : List Value} {ns : List Int} (h : IntsAre vs ns) : ∀ {i : Nat} {v : Value}, vs[i]? = some v → ∃ k t, v = .int k t ∧ ns[i]? = some k := by
  induction h with
  | nil => intro i v e; simp at e
  | cons k t _ ih =>
    intro i v e
    cases i with
    | zero => exact ⟨k, t, (Option.some.inj (by simpa using e)).symm, rfl⟩
    | succ i => simpa using ih (i := i) (by simpa using e)

theorem ints_snoc {us : List Value} {ks : List Int} (h : IntsAre us ks) (k : Int) (t : Tok) : IntsAre (us ++ [.int k t]) (ks ++ [k]) := by
  induction h with
  | nil => exact .cons k t .nil
  | cons k' t' _ ih => exact .cons k' t' ih

theorem ints_rev {us : List Value} {ks : List Int} (h : IntsAre us ks) : IntsAre us.reverse ks.reverse := by
  induction h with
  | nil => exact .nil
  | cons k t _ ih => rw [List.reverse_cons, List.reverse_cons]; exact ints_snoc ih k t

@[elab_as_elim] theorem ints_elim {vs : List Value} {ns : List Int} {P : Value → Prop} (h : IntsAre vs ns) {i : Nat} {v : Value} (e : vs[i]? = some v) (k : ∀ k t, P (.int k t)) : P v := by
  obtain ⟨n, t, rfl, _⟩ := ints_get h e
  exact k n t
theorem snoc_le {ks : List Int} {x : Int} {n : Nat} (h : ks.length ≤ n) : (ks ++ [x]).length ≤ n + 1 := by rw [List.length_append]; exact Nat.succ_le_succ h
theorem own_off {own own2 : List (Addr × Obj)} {l : Addr} {o : Obj} (h : OwnOff own [l]) (h2 : OwnOff own2 (((l, o) :: own).map (·.1))) : OwnOff (own ++ own2) [l] := fun q hq b hb => (List.mem_append.mp hq).elim (fun hq => h q hq b hb) fun hq => h2 q hq b (List.mem_singleton.mp hb ▸ .head _)
theorem studs_len {us : List Value} {ks : List Int} {i j l : Nat} (h : IntsAre us ks) (hk : ks.length ≤ 12 * i + j) (hj : j ≤ 12) (hi : i ≤ l) (hl : l ≤ 50) : us.length ≤ 1000 := by rw [h.length]; omega
theorem ne_stored {z a : Str} {l : List Str} (h : l.contains z = false) (ha : a ∈ l) : ¬ z = a := fun e => by rw [e, List.contains_iff_mem.mpr ha] at h; cases h

section
variable {w : World} {A : Around} {s : Shared} {mg mb : Str → Option Value} {p : Program} {loose : List Str} {mean : ExcName → Option Value} {c : Heap} {Q E : Value → Shared → Prop}

set_option maxHeartbeats 4000000 in
theorem studs_spec {scr : Addr} {vs : List Value} {ns : List Int} (C : Amb (hd.heap_39 w.params) mg mb p loose mean c) (st : c.StaysIn s.heap)
    (hl : s.heap.IsList scr vs.toArray) (hi : IntsAre vs ns) (hlen : ns.length ≤ 63)
    (hroom : A.depth < recursionLimit) (hu : A.units + 400 < cLine) (hh : A.handled = none)
    (ret : ∀ l' h' tk' vs' ns' n', s.heap.StaysIn h' → s.heap.get? l' = none → h'.get? l' = some (listOf vs'.toArray n') → IntsAre vs' ns' → ns'.length ≤ 60 → Q (.ref l') { s with heap := h', toks := tk' }) :
    wpAny (model PySem.Challenge.rw_pq1401_01.row.prog w) A (call (.ref 200) [.ref scr] []) Q E s := by
  w_top off; revert C; k_fill; intro C
  refine enter C st [] (binds := [(Str.ofString "script", .ref scr)]) (fun _ h => nomatch h) (fun _ h => nomatch h) (by k_is) (by k_is) hroom (BindsTo.of_eq (by rfl)) (by exact locs rfl) (by rfl) (by rfl) (by rfl) (by decide) ?_
  intro g L h₁ hg F N X T stc hL
  subst hg
  change Fr s.heap _ _ _ at F
  change News s.heap _ _ _ at N
  change (hd.heap_39 w.params).In s.heap at X
  change Top _ _ _ _ _ s.heap at T
  have hvl := hi.length
  refine postE fun QQ hQ => ?_
  k_steps
  rename_i lst h2 l1 h3 D ws h4 F4 N4 hI4 hC4 hL4 l4
  have hws : ws.length ≤ 50 := hI4.length ▸ Nat.le_trans (Nat.le_of_eq (List.length_take ..)) (Nat.min_le_left _ _)
  refine Mark.of (ks_list (σ := List Value × List Int × Nat) (fun c => [(lst, listOf c.1.toArray c.2.2)]) (fun _ => []) [Str.ofString "load", Str.ofString "lap"] (fun i c => IntsAre c.1 c.2.1 ∧ c.2.1.length ≤ 12 * i) ([], [], 0) hh (News.isList N4 (.head _)) (N4 _ (.head _)).2.1
    (List.forall_mem_cons.mpr ⟨Nat.ne_of_lt l4, fun _ h => nomatch h⟩) F4 (fun q hq => N4 q (.tail _ hq)) (fun _ h => nomatch h) ⟨.nil, Nat.le_refl _⟩ ?_ ?_)
  · refine prod3 fun us ks n => ?_
    intro i v u h tk own hi' hv hoff hP
    refine ints_elim hI4 hv fun k t => ?_
    intro F5 N5 Q2 hQ2
    have hI := hP.1
    have hks := hP.2
    clear hP
    dsimp only [kstB] at F5 hks hI
    clear F4 N4
    have hstop : Stop 11 := trivial
    k_steps
    clear hstop
    refine Mark.of (cutN (K := fun Q3 => ∀ (ld : Int) t' tk', Q3 (.int ld t') { s with heap := h, toks := tk' }) (fun Q3 k3 => ?_) fun ld t' tk' => ?_)
    · k_steps
      all_goals exact k3 _ _ _
    · k_steps
      rename_i hr F6 N6 _
      refine Mark.of (ks_range (σ := List Value × List Int × Nat × Int × Nat) (fun c => (lst, listOf c.1.toArray c.2.2.1) :: own) (fun c => [(Str.ofString "load", .int c.2.2.2.1 c.2.2.2.2)]) []
        (fun j c => IntsAre c.1 c.2.1 ∧ c.2.1.length ≤ 12 * i + j) (us, ks, n, _, _) hh hr (by decide) (range_size1 _ _) F6 N6 (List.forall_mem_cons.mpr ⟨by with_unfolding_all rfl, fun _ h => nomatch h⟩) ⟨hI, hks⟩ ?_ ?_) <;> clear hr F6 N6
      · refine prod5 fun us2 ks2 n2 ld tl => ?_
        intro j tj u2 h6 tk6 own2 hj hoff2 hP F6 N6 Q3 hQ3
        have hI2 := hP.1
        have hk2 := hP.2
        clear hP
        dsimp only [kstB] at F6 hk2 hI2 N6
        obtain ⟨T2, hT2⟩ : ∃ T2, T2 = own ++ own2 := ⟨_, rfl⟩
        have hoT : OwnOff T2 [lst] := hT2 ▸ own_off hoff hoff2
        rw [List.cons_append, ← hT2] at N6
        have hus2 : us2.length ≤ 1000 := studs_len hI2 hk2 (Nat.le_of_lt hj) (Nat.le_of_lt hi') hws
        k_steps
        all_goals (rename Fr _ _ _ _ => F7; rename News _ _ _ _ => N7; simp only [List.push_toArray] at N7)
        all_goals refine hQ3 _ _ ?_
        · k_steps

          refine hQ2 _ _ ?_
          exact ks_end (us2 ++ [_], ks2 ++ [ld.fmod 85], n2 + 1) F7 N7 (List.forall_mem_cons.mpr ⟨.head _, fun _ h => nomatch h⟩) (fun q hq => .tail _ (hT2 ▸ List.mem_append_left _ hq)) rfl (fun _ h => nomatch h)
             (fun z z1 _ z3 => by
               have z4 := ne_stored z3 (.head _)
               have z5 := ne_stored z3 (.tail _ (.head _))
               simp only [if_neg z1, if_neg z4, if_neg z5, z3, List.contains_nil, Bool.false_eq_true, if_false]) ⟨ints_snoc hI2 _ _, Nat.le_trans (snoc_le hk2) (Nat.add_le_add_left hj _)⟩
        · exact ks_end (us2 ++ [_], ks2 ++ [ld.fmod 85], n2 + 1, ld.fdiv 85, _) F7 N7 (List.forall_mem_cons.mpr ⟨.head _, fun q hq => .tail _ (hT2 ▸ List.mem_append_left _ hq)⟩) (fun q hq => .tail _ (hT2 ▸ List.mem_append_right _ hq)) rfl (List.forall_mem_cons.mpr ⟨rfl, fun _ h => nomatch h⟩)
             (fun z z1 z2 z3 => by
               have z4 := z2 _ (.head _)
               simp only [if_neg z1, if_neg z4, List.contains_nil, Bool.false_eq_true, if_false]) ⟨ints_snoc hI2 _ _, snoc_le hk2⟩
      · refine prod5 fun us2 ks2 n2 ld tl => ?_
        intro u2 h6 tk6 hP F6 N6
        have hI2 := hP.1
        have hk2 := hP.2
        clear hP
        dsimp only [kstB] at F6 hk2 hI2 N6
        k_steps
        refine hQ2 _ _ ?_
        exact ks_end (us2, ks2, n2) F6 N6 (List.forall_mem_cons.mpr ⟨.head _, fun _ h => nomatch h⟩) (fun q hq => .tail _ hq) rfl (fun _ h => nomatch h)
             (fun z z1 _ z3 => by
               have z4 := ne_stored z3 (.head _)
               have z5 := ne_stored z3 (.tail _ (.head _))
               simp only [if_neg z1, if_neg z4, if_neg z5, z3, List.contains_nil, Bool.false_eq_true, if_false]) ⟨hI2, hk2⟩
  · refine prod3 fun us ks n => ?_
    intro u h tk hP F5 N5
    have hI := hP.1
    have hks := hP.2
    clear hP
    dsimp only [kstB] at F5 hks hI
    clear F4 N4
    have hus : us.length ≤ 1000 := studs_len hI hks (Nat.zero_le _) (Nat.le_refl _) hws
    have hstop : Stop 16 := trivial
    k_steps
    clear hstop
    refine Mark.of ?_
    rename_i D2 ws2 h6 F6 N6 hI6 hC6 hL6 l6 h7 F7 N7
    have hk2 : (ks.take 60).length ≤ 60 := Nat.le_trans (Nat.le_of_eq (List.length_take ..)) (Nat.min_le_left _ _)
    have hw2 : ws2.length ≤ 60 := hI6.length ▸ hk2
    refine kl_reverse F7 N7 (l := ws2.reverse) (by simp) (.head (List.forall_mem_cons.mpr ⟨Nat.ne_of_lt l6, fun _ h => nomatch h⟩)) (by rw [sizeLine_eq]; exact Nat.le_trans hw2 (by decide)) ?_
    intro h8 F8 N8
    clear F7 N7
    k_steps
    have hn := N8 _ (.head _)
    exact hQ _ _ (ret D2 _ _ _ _ _ F8.keep hn.2.2 hn.1 (ints_rev hI6) (by rw [List.length_reverse]; exact hk2))
end
theorem lines6 : True := by
  k_with "m exec While Compare cons nil" => refine Mark.mk ?_
  trivial

theorem small_le {a b : Int} (h0 : 0 ≤ a) (h : a ≤ b) (hb : small b) : small a := by
  unfold small at *
  omega
theorem small_of_le {a : Int} (h1 : -1000 ≤ a) (h2 : a ≤ 1000) : small a := by
  have h : (1000 : Nat) < 2 ^ 2000 := by decide
  unfold small
  omega
theorem least_good {top below one : Int} (h1 : -1000 ≤ top) (h2 : top ≤ 1000) (h3 : 0 < below) (h4 : small below) (h5 : 0 < one) (h6 : one ≤ below) : good (top.fdiv one, below.fdiv one) := by
  have e1 := Int.fdiv_eq_ediv_of_nonneg top (Int.le_of_lt h5)
  have e2 := Int.fdiv_eq_ediv_of_nonneg below (Int.le_of_lt h5)
  have a1 : -1000 ≤ top / one := Int.le_ediv_of_mul_le h5 (by omega)
  have a2 : top / one ≤ 1000 := Int.ediv_le_of_le_mul h5 (by omega)
  have b1 : 1 ≤ below / one := Int.le_ediv_of_mul_le h5 ((Int.one_mul one).symm ▸ h6)
  have b2 : below / one ≤ below := Int.ediv_le_self _ (Int.le_of_lt h3)
  refine ⟨?_, ?_, ?_, ?_⟩
  · show small (top.fdiv one)
    rw [e1]; exact small_of_le a1 a2
  · show small (below.fdiv one)
    rw [e2]; exact small_le (Int.le_trans (by decide) b1) b2 h4
  · show 0 ≤ below.fdiv one
    rw [e2]; exact Int.le_trans (by decide) b1
  · show below.fdiv one = 0 → _
    rw [e2]; exact fun h => absurd (h ▸ b1) (by decide)

section
variable {w : World} {A : Around} {s : Shared} {mg mb : Str → Option Value} {p : Program} {loose : List Str} {mean : ExcName → Option Value} {c : Heap} {Q E : Value → Shared → Prop}

set_option maxHeartbeats 4000000 in
theorem least_spec {top below : Int} {tt tb : Tok} (C : Amb (hd.heap_39 w.params) mg mb p loose mean c) (st : c.StaysIn s.heap)
    (h1 : -1000 ≤ top) (h2 : top ≤ 1000) (h3 : 0 < below) (h4 : small below)
    (hroom : A.depth < recursionLimit) (hu : A.units + 400 < cLine) (hh : A.handled = none)
    (ret : ∀ a h' tk' q, s.heap.StaysIn h' → s.heap.get? a = none → FracAt h' (.ref a) q → good q → Q (.ref a) { s with heap := h', toks := tk' }) :
    wpAny (model PySem.Challenge.rw_pq1401_01.row.prog w) A (call (.ref 214) [.int top tt, .int below tb] []) Q E s := by
  obtain ⟨hdl, dp, fr, gd, un⟩ := A
  obtain rfl : hdl = none := hh
  dsimp only at hroom hu
  w_top off; revert C; k_fill; intro C
  refine enter C st [] (binds := [(Str.ofString "top", .int top tt), (Str.ofString "below", .int below tb)]) (fun _ h => nomatch h) (fun _ h => nomatch h) (by k_is) (by k_is) hroom (BindsTo.of_eq (by rfl)) (by exact locs rfl) (by rfl) (by rfl) (by rfl) (by decide) ?_
  intro g L h₁ hg F N X T stc hL
  subst hg
  change Fr s.heap _ _ _ at F
  change News s.heap _ _ _ at N
  change (hd.heap_39 w.params).In s.heap at X
  change Top _ _ _ _ _ s.heap at T
  refine postE fun QQ hQ => ?_
  k_steps
  rename_i F2 N2
  refine Mark.of (ksw_while (σ := Int × Nat × Int × Nat) (fun _ => []) (fun c => [(Str.ofString "one", .int c.1 c.2.1), (Str.ofString "other", .int c.2.2.1 c.2.2.2)]) (fun _ => True) []
    (fun c => 0 ≤ c.1 ∧ 0 ≤ c.2.2.1 ∧ c.2.2.1 ≤ below ∧ (c.2.2.1 = 0 → 0 < c.1 ∧ c.1 ≤ below)) (fun c => c.2.2.1.toNat) (_, _, _, _) F2 N2 trivial
    (by intro q hq; simp only [List.mem_cons, List.not_mem_nil, or_false] at hq; rcases hq with rfl | rfl <;> with_unfolding_all rfl) ⟨by dsimp only; omega, by exact Int.le_of_lt h3, by exact Int.le_refl _, by exact fun e => absurd e (Int.ne_of_gt h3)⟩ ?_)
  refine prod4 fun one t1 other t2 => ?_
  intro u h tk _ hP F3 N3
  have p1 := hP.1
  have p2 := hP.2.1
  have p3 := hP.2.2.1
  have p4 := hP.2.2.2
  clear hP
  dsimp only [kstB] at F3 p1 p2 p3 p4
  clear F2 N2
  by_cases ho : other = 0
  · have p5 := (p4 ho).1
    have p6 := (p4 ho).2
    have p7 : one ≠ 0 := Int.ne_of_gt p5
    have p8 := small_log (small_le p1 p6 h4)
    k_steps
    rename_i D h9 F9 N9 l9
    have hn := N9 _ (.head _)
    exact hQ _ _ (ret D _ _ (top.fdiv one, below.fdiv one) F9.keep hn.2.2 ⟨D, _, _, rfl, _, hn.1, rfl, _, rfl⟩ (least_good h1 h2 h3 h4 p5 p6))
  · have h0 : 0 < other := Int.lt_iff_le_and_ne.mpr ⟨p2, Ne.symm ho⟩
    have q1 := Int.fmod_nonneg_of_pos one h0
    have q2 := Int.fmod_lt_of_pos one h0
    k_steps
    exact absurd (by assumption) ho
end
/-- the order of the fractions -/
def leF (x y : Int × Int) : Bool := !under y x

def sgn (x : Int × Int) : Int := if x.2 = 0 then x.1 else 0
theorem leF_inf {x y : Int × Int} (h : x.2 = 0 ∨ y.2 = 0) : leF x y = decide (sgn x ≤ sgn y) := by
  unfold leF under sgn
  rw [if_pos h.symm]
  by_cases h' : (if y.2 = 0 then y.1 else 0) < (if x.2 = 0 then x.1 else 0)
  · rw [decide_eq_true h', decide_eq_false (by omega)]; rfl
  · rw [decide_eq_false h', decide_eq_true (by omega)]; rfl
theorem leF_fin {x y : Int × Int} (hx : x.2 ≠ 0) (hy : y.2 ≠ 0) : leF x y = decide (x.1 * y.2 ≤ y.1 * x.2) := by
  unfold leF under
  rw [if_neg (by omega)]
  by_cases h' : y.1 * x.2 < x.1 * y.2
  · rw [decide_eq_true h', decide_eq_false (by omega)]; rfl
  · rw [decide_eq_false h', decide_eq_true (by omega)]; rfl
theorem sgn_fin {x : Int × Int} (h : x.2 ≠ 0) : sgn x = 0 := if_neg h
theorem sgn_inf {x : Int × Int} (g : good x) (h : x.2 = 0) : sgn x = 1 ∨ sgn x = -1 := by unfold sgn; rw [if_pos h]; exact g.2.2.2 h
theorem leF_trans {x y z : Int × Int} (gx : good x) (gy : good y) (gz : good z) (h1 : leF x y = true) (h2 : leF y z = true) : leF x z = true := by
  by_cases hx : x.2 = 0 <;> by_cases hy : y.2 = 0 <;> by_cases hz : z.2 = 0
  · rw [leF_inf (.inl hx)] at *; rw [leF_inf (.inl hy)] at h2; simp only [decide_eq_true_eq] at *; omega
  · rw [leF_inf (.inl hx)] at *; rw [leF_inf (.inl hy)] at h2; simp only [decide_eq_true_eq] at *; omega
  · rw [leF_inf (.inl hx)] at *; rw [leF_inf (.inr hz)] at h2; simp only [decide_eq_true_eq] at *; omega
  · rw [leF_inf (.inl hx)] at *; simp only [decide_eq_true_eq] at *; rw [sgn_fin hz]; rw [sgn_fin hy] at h1; exact h1
  · rw [leF_inf (.inr hz)]; rw [leF_inf (.inr hy)] at h1; rw [leF_inf (.inl hy)] at h2; simp only [decide_eq_true_eq] at *; omega
  · rw [leF_inf (.inr hy)] at h1; rw [leF_inf (.inl hy)] at h2; simp only [decide_eq_true_eq] at *
    rw [sgn_fin hx] at h1; rw [sgn_fin hz] at h2
    rcases sgn_inf gy hy with e | e <;> omega
  · rw [leF_inf (.inr hz)] at *; simp only [decide_eq_true_eq] at *; rw [sgn_fin hx]; rw [sgn_fin hy] at h2; exact h2
  · rw [leF_fin hx hz]; rw [leF_fin hx hy] at h1; rw [leF_fin hy hz] at h2; simp only [decide_eq_true_eq] at *
    have px : 0 < x.2 := by have := gx.2.2.1; omega
    have py : 0 < y.2 := by have := gy.2.2.1; omega
    have pz : 0 < z.2 := by have := gz.2.2.1; omega
    have a1 := Int.mul_le_mul_of_nonneg_right h1 (Int.le_of_lt pz)
    have a2 := Int.mul_le_mul_of_nonneg_right h2 (Int.le_of_lt px)
    refine Int.le_of_mul_le_mul_right (a := y.2) ?_ py
    have e1 : x.1 * y.2 * z.2 = x.1 * z.2 * y.2 := by rw [Int.mul_assoc, Int.mul_comm y.2, ← Int.mul_assoc]
    have e2 : y.1 * x.2 * z.2 = y.1 * z.2 * x.2 := by rw [Int.mul_assoc, Int.mul_comm x.2, ← Int.mul_assoc]
    have e3 : z.1 * y.2 * x.2 = z.1 * x.2 * y.2 := by rw [Int.mul_assoc, Int.mul_comm y.2, ← Int.mul_assoc]
    omega
theorem leF_total {x y : Int × Int} (h : leF x y = false) : leF y x = true := by
  by_cases h' : x.2 = 0 ∨ y.2 = 0
  · rw [leF_inf h'] at h; rw [leF_inf h'.symm]; simp only [decide_eq_true_eq, decide_eq_false_iff_not] at *; omega
  · rw [leF_fin (fun e => h' (.inl e)) (fun e => h' (.inr e))] at h; rw [leF_fin (fun e => h' (.inr e)) (fun e => h' (.inl e))]; simp only [decide_eq_true_eq, decide_eq_false_iff_not] at *; omega
theorem cmp_leF (x y : Int × Int) : decide (cmpF x y ≤ 0) = leF x y := by
  cases h : under y x with
  | true =>
    have : under x y = false := by
      have h1 := leF_total (x := x) (y := y) (by unfold leF; rw [h]; rfl)
      unfold leF at h1
      simpa using h1
    unfold cmpF leF
    rw [h, this]
    simp
  | false =>
    unfold cmpF leF
    rw [h]
    cases under x y <;> simp

/-- two ordered rows merged -/
abbrev mrg (xs ys : List (Int × Int)) : List (Int × Int) := List.merge xs ys leF
abbrev Asc (xs : List (Int × Int)) : Prop := xs.Pairwise (fun a b => leF a b = true)
theorem mrg_perm (xs ys : List (Int × Int)) : (mrg xs ys).Perm (xs ++ ys) := List.merge_perm_append leF
theorem mrg_good {xs ys : List (Int × Int)} (gx : ∀ q ∈ xs, good q) (gy : ∀ q ∈ ys, good q) : ∀ q ∈ mrg xs ys, good q := fun q hq =>
  (List.mem_append.mp ((mrg_perm xs ys).mem_iff.mp hq)).elim (gx q) (gy q)
theorem mrg_asc : ∀ {xs ys : List (Int × Int)}, (∀ q ∈ xs, good q) → (∀ q ∈ ys, good q) → Asc xs → Asc ys → Asc (mrg xs ys)
  | [], ys, _, _, _, hy => by rw [mrg, List.nil_merge]; exact hy
  | x :: xs, [], _, _, hx, _ => by rw [mrg, List.merge_right]; exact hx
  | x :: xs, y :: ys, gx, gy, hx, hy => by
    rw [mrg, List.cons_merge_cons]
    obtain ⟨hx1, hx2⟩ := List.pairwise_cons.mp hx
    obtain ⟨hy1, hy2⟩ := List.pairwise_cons.mp hy
    split
    · rename_i h
      refine List.pairwise_cons.mpr ⟨fun z hz => ?_, mrg_asc (fun q hq => gx q (.tail _ hq)) gy hx2 hy⟩
      rcases List.mem_append.mp ((mrg_perm _ _).mem_iff.mp hz) with hz | hz
      · exact hx1 z hz
      · rcases List.mem_cons.mp hz with rfl | hz
        · exact h
        · exact leF_trans (gx _ (.head _)) (gy _ (.head _)) (gy _ (.tail _ hz)) h (hy1 z hz)
    · rename_i h
      have h' := leF_total (by simpa using h)
      refine List.pairwise_cons.mpr ⟨fun z hz => ?_, mrg_asc gx (fun q hq => gy q (.tail _ hq)) hx hy2⟩
      rcases List.mem_append.mp ((mrg_perm _ _).mem_iff.mp hz) with hz | hz
      · rcases List.mem_cons.mp hz with rfl | hz
        · exact h'
        · exact leF_trans (gy _ (.head _)) (gx _ (.head _)) (gx _ (.tail _ hz)) h' (hx1 z hz)
      · exact hy1 z hz
  termination_by xs ys => xs.length + ys.length
theorem mrg_take {lq rq : List (Int × Int)} {i j : Nat} {l r : Int × Int} (hi : lq[i]? = some l) (hj : rq[j]? = some r) (h : leF l r = true) : mrg (lq.drop i) (rq.drop j) = l :: mrg (lq.drop (i + 1)) (rq.drop j) := by
  obtain ⟨h1, e1⟩ := List.getElem?_eq_some_iff.mp hi
  obtain ⟨h2, e2⟩ := List.getElem?_eq_some_iff.mp hj
  rw [List.drop_eq_getElem_cons h1, List.drop_eq_getElem_cons h2, e1, e2, mrg, List.cons_merge_cons, if_pos h]
theorem mrg_put {lq rq : List (Int × Int)} {i j : Nat} {l r : Int × Int} (hi : lq[i]? = some l) (hj : rq[j]? = some r) (h : leF l r = false) : mrg (lq.drop i) (rq.drop j) = r :: mrg (lq.drop i) (rq.drop (j + 1)) := by
  obtain ⟨h1, e1⟩ := List.getElem?_eq_some_iff.mp hi
  obtain ⟨h2, e2⟩ := List.getElem?_eq_some_iff.mp hj
  rw [List.drop_eq_getElem_cons h1, List.drop_eq_getElem_cons h2, e1, e2, mrg, List.cons_merge_cons, if_neg (by rw [h]; simp)]
theorem mrg_rest {lq rq : List (Int × Int)} {i j : Nat} {r : Int × Int} (hi : lq.length ≤ i) (hj : rq[j]? = some r) : mrg (lq.drop i) (rq.drop j) = r :: mrg (lq.drop i) (rq.drop (j + 1)) := by
  obtain ⟨h2, e2⟩ := List.getElem?_eq_some_iff.mp hj
  rw [List.drop_eq_nil_of_le hi, List.drop_eq_getElem_cons h2, e2, mrg, List.nil_merge, mrg, List.nil_merge]
theorem mrg_done {lq rq : List (Int × Int)} {i : Nat} : mrg (lq.drop i) (rq.drop rq.length) = lq.drop i := by
  rw [List.drop_length, mrg, List.merge_right]
theorem asc_order {qs : List (Int × Int)} (h : Asc qs) : ∀ i, (h : i + 1 < qs.length) → under qs[i + 1] qs[i] = false := by
  intro i hi
  have := List.pairwise_iff_getElem.mp h i (i + 1) (by omega) hi (by omega)
  unfold leF at this
  simpa using this
theorem lines7 : True := by
  k_with "m call ref" => (k_here; (with_reducible show wpAny _ _ (call (Value.ref 98) [_, _] []) _ _ _); refine compare_spec ⟨by assumption, by assumption⟩ (Fr.keep (by assumption)) (FracAt.keeps (by assumption) (stay2 (by assumption) (Fr.keep (by assumption)))) (FracAt.keeps (by assumption) (stay2 (by assumption) (Fr.keep (by assumption)))) (by first | assumption | exact good_at (by assumption) (by assumption)) (by first | assumption | exact good_at (by assumption) (by assumption)) (by walk_at "my depth") ?_; intro _; walk_at "my stay")
  k_with "m call builtin:len" => (k_here; (with_reducible show wpAny _ _ (call (Value.builtin "len") [Value.ref _]) _ _ _); refine len_base (by with_reducible assumption) (by with_reducible assumption) (by first | assumption | omega) ?_)
  k_with "m subscriptTail Name Name ref int" => (k_here; (with_reducible show wpAny _ _ (subscriptTail _ _ (Value.ref _) (Value.int _ _)) _ _ _); refine item_base (by with_reducible assumption) (by with_reducible assumption) (by with_reducible assumption) (by first | assumption | omega) (by first | assumption | exact len_lt (by assumption) (by assumption) | omega) (by first | assumption | omega) ?_; intro _ _ _ _)
  k_with "m exec While BoolOp cons nil" => refine Mark.mk ?_
  trivial

theorem pick_from (vs : List Value) (i : Nat) : slicePick vs.toArray (some (i : Int)) none none = (vs.drop i).toArray := by
  have e : PySem.sliceBounds (some (i : Int)) none none vs.toArray.size = (((min i vs.toArray.size : Nat) : Int), ((vs.toArray.size : Nat) : Int), 1) := by
    simp only [PySem.sliceBounds, Option.getD_none, show (1 : Int) > 0 by decide, if_true, if_neg (show ¬ ((i : Int) < 0) by omega)]
    congr 1
    omega
  rw [kmk_pick_nat _ e]
  show ((vs.drop (min i vs.toArray.size)).take (vs.toArray.size - min i vs.toArray.size)).toArray = _
  rw [List.size_toArray, kmk_drop_min, List.take_of_length_le (by rw [List.length_drop]; omega)]

theorem len_lt {k : Int} {a b : Nat} (e : a = b) (h : k < (a : Int)) : k < (b : Int) := e ▸ h
def JoinOk (g : Heap) (lq rq : List (Int × Int)) (j : Nat) (v : List Value) (q : List (Int × Int)) (i : Nat) : Prop := FracsAt g v q ∧ q ++ mrg (lq.drop i) (rq.drop j) = mrg lq rq ∧ i ≤ lq.length
theorem JoinOk.len {g : Heap} {lq rq q : List (Int × Int)} {i j : Nat} {v : List Value} (p : JoinOk g lq rq j v q i) (h : lq.length ≤ 1000) (h' : rq.length ≤ 1000) : v.length ≤ 2000 := by
  have e := congrArg List.length p.2.1
  rw [List.length_append, (mrg_perm lq rq).length_eq, List.length_append] at e
  rw [p.1.length]
  exact Nat.le_trans (Nat.le_add_right _ _) (e ▸ Nat.add_le_add h h')
theorem JoinOk.take {g : Heap} {lq rq q : List (Int × Int)} {i j : Nat} {v : List Value} {a : Value} {x r : Int × Int} (p : JoinOk g lq rq j v q i) (f : FracAt g a x) (hi : lq[i]? = some x) (hr : rq[j]? = some r) (hl : cmpF x r ≤ 0) : JoinOk g lq rq j (v ++ [a]) (q ++ [x]) (i + 1) :=
  ⟨p.1.snoc f, by rw [← p.2.1, mrg_take hi hr (by rw [← cmp_leF]; exact decide_eq_true hl), List.append_assoc]; rfl, (List.getElem?_eq_some_iff.mp hi).1⟩
theorem JoinOk.put {g : Heap} {lq rq q : List (Int × Int)} {i j : Nat} {v : List Value} {a : Value} {x r : Int × Int} (p : JoinOk g lq rq j v q i) (f : FracAt g a r) (hi : lq[i]? = some x) (hr : rq[j]? = some r) (hl : ¬ cmpF x r ≤ 0) : JoinOk g lq rq (j + 1) (v ++ [a]) (q ++ [r]) i :=
  ⟨p.1.snoc f, by rw [← p.2.1, mrg_put hi hr (by rw [← cmp_leF]; exact decide_eq_false hl), List.append_assoc]; rfl, p.2.2⟩
theorem JoinOk.rest {g : Heap} {lq rq q : List (Int × Int)} {i j : Nat} {v : List Value} {a : Value} {r : Int × Int} (p : JoinOk g lq rq j v q i) (f : FracAt g a r) (hi : lq.length ≤ i) (hr : rq[j]? = some r) : JoinOk g lq rq (j + 1) (v ++ [a]) (q ++ [r]) i :=
  ⟨p.1.snoc f, by rw [← p.2.1, mrg_rest hi hr, List.append_assoc]; rfl, p.2.2⟩

section
variable {w : World} {A : Around} {s : Shared} {mg mb : Str → Option Value} {p : Program} {loose : List Str} {mean : ExcName → Option Value} {c : Heap} {Q E : Value → Shared → Prop}

set_option maxHeartbeats 4000000 in
theorem joined_spec {la ra : Addr} {lv rv : List Value} {lq rq : List (Int × Int)} (C : Amb (hd.heap_39 w.params) mg mb p loose mean c) (st : c.StaysIn s.heap)
    (hl : s.heap.IsList la lv.toArray) (hr : s.heap.IsList ra rv.toArray) {g₀ : Heap} (hg₀ : g₀.StaysIn s.heap) (xl : FracsAt g₀ lv lq) (xr : FracsAt g₀ rv rq)
    (gl : ∀ q ∈ lq, good q) (gr : ∀ q ∈ rq, good q) (lenl : lq.length ≤ 1000) (lenr : rq.length ≤ 1000)
    (hroom : A.depth + 2 < recursionLimit) (hu : A.units + 400 < cLine) (hh : A.handled = none)
    (ret : ∀ a h' tk' vs n', s.heap.StaysIn h' → s.heap.get? a = none → h'.get? a = some (listOf vs.toArray n') → FracsAt g₀ vs (mrg lq rq) → Q (.ref a) { s with heap := h', toks := tk' }) :
    wpAny (model PySem.Challenge.rw_pq1401_01.row.prog w) A (call (.ref 160) [.ref la, .ref ra] []) Q E s := by
  obtain ⟨hdl, dp, fr, gd, un⟩ := A
  obtain rfl : hdl = none := hh
  dsimp only at hroom hu
  w_top off; revert C; k_fill; intro C
  refine enter C st [] (binds := [(Str.ofString "left", .ref la), (Str.ofString "right", .ref ra)]) (fun _ h => nomatch h) (fun _ h => nomatch h) (by k_is) (by k_is) (Nat.lt_of_succ_lt (Nat.lt_of_succ_lt hroom)) (BindsTo.of_eq (by rfl)) (by exact locs rfl) (by rfl) (by rfl) (by rfl) (by decide) ?_
  intro g L h₁ hg F N X T stc hL
  subst hg
  change Fr s.heap _ _ _ at F
  change News s.heap _ _ _ at N
  change (hd.heap_39 w.params).In s.heap at X
  change Top _ _ _ _ _ s.heap at T
  have hvl := xl.length
  have hvr := xr.length
  have hl62 : lv.length < 2 ^ 62 := hvl ▸ Nat.lt_of_le_of_lt lenl (by decide)
  have hq62 : lq.length < 2 ^ 62 := Nat.lt_of_le_of_lt lenl (by decide)
  refine postE fun QQ hQ => ?_
  k_steps
  rename_i D h2 l1 h3 h4 F2 N2
  refine Mark.of (ks_list (σ := List Value × List (Int × Int) × Nat × Nat × Nat) (fun c => [(D, listOf c.1.toArray c.2.2.1)]) (fun c => [(Str.ofString "i", .int (c.2.2.2.1 : Int) c.2.2.2.2)]) []
    (fun j c => JoinOk g₀ lq rq j c.1 c.2.1 c.2.2.2.1) ([], [], 0, 0, _) rfl (base_list F2 hr) (base_ne_L F2 hr) (base_ne_news N2 hr) F2 N2
    (by intro q hq; obtain rfl := List.mem_singleton.mp hq; with_unfolding_all rfl) ⟨.nil, rfl, Nat.zero_le _⟩ ?_ ?_)
  · refine prod5 fun fv fq n i ti => ?_
    intro j v u h5 tk5 own hj hv hoff P1 F5 N5 Q2 hQ2
    obtain ⟨r, hr', hf'⟩ := xr.at hv
    dsimp only [kstB] at F5 P1
    have gr' := good_of gr hr'
    clear F2 N2
    have hoD : OwnOff own [D] := hoff
    k_steps
    refine Mark.of (ksw_while (σ := List Value × List (Int × Int) × Nat × Nat × Nat) (fun c => (D, listOf c.1.toArray c.2.2.1) :: own) (fun c => [(Str.ofString "i", .int (c.2.2.2.1 : Int) c.2.2.2.2)]) (fun _ => True) []
      (fun c => JoinOk g₀ lq rq j c.1 c.2.1 c.2.2.2.1) (fun c => lq.length - c.2.2.2.1) (fv, fq, n, i, _) F5 N5 trivial
      (by intro q hq; obtain rfl := List.mem_singleton.mp hq; with_unfolding_all rfl) P1 ?_)
    clear F5 N5 P1
    refine prod5 fun fv fq n i ti => ?_
    intro u2 h6 tk6 _ P1 F6 N6
    dsimp only [kstB] at F6 N6 P1
    have hfl : fv.length ≤ 2000 := P1.len lenl lenr
    have a0 : (0 : Int) ≤ (i : Int) := Int.natCast_nonneg i
    have hstop : Stop 22 := trivial
    k_steps
    · rename_i vA qA hqA hfA _ _ _ hc _ vB qB hqB hfB _ _ _ h7 F7 N7
      have hi' : lq[i]? = some qA := hqA
      obtain rfl : qA = qB := Option.some.inj (hqA.symm.trans hqB)
      simp only [List.push_toArray] at N7
      obtain ⟨t7, ht7⟩ := fr_tok F7 (Str.ofString "i") ((i + 1 : Nat) : Int) ⟨_, rfl⟩
      refine Mark.of ⟨(fv ++ [vB], fq ++ [qA], n + 1, i + 1, t7), _, _, _, _, rfl, F7, N7, fun _ h => h, trivial, List.forall_mem_cons.mpr ⟨ht7, fun _ h => nomatch h⟩, ?_, P1.take hfB hi' hr' (by assumption), Nat.sub_lt_sub_left (List.getElem?_eq_some_iff.mp hi').1 (Nat.lt_succ_self i)⟩
      intro z z1 z3
      have z4 := z1 _ (.head _)
      dsimp only at z4
      simp only [if_neg z4, List.contains_nil, Bool.false_eq_true, if_false]
    · rename_i vA qA hqA hfA _ _ _ hc _ h7 F7 N7
      have hi' : lq[i]? = some qA := hqA
      simp only [List.push_toArray] at N7
      refine hQ2 _ _ ?_
      refine ks_end (fv ++ [v], fq ++ [r], n + 1, i, ti) F7 N7 (List.forall_mem_cons.mpr ⟨.head _, fun _ h => nomatch h⟩) (fun q hq => .tail _ hq) rfl (List.forall_mem_cons.mpr ⟨rfl, fun _ h => nomatch h⟩) ?_ (P1.put hf' hi' hr' (by assumption))
      intro z z0 z1 z3
      have z4 := z1 _ (.head _)
      dsimp only at z4
      simp only [if_neg z4, if_neg z0, List.contains_nil, Bool.false_eq_true, if_false]
    · rename_i hge _ h7 F7 N7
      simp only [List.push_toArray] at N7
      refine hQ2 _ _ ?_
      refine ks_end (fv ++ [v], fq ++ [r], n + 1, i, ti) F7 N7 (List.forall_mem_cons.mpr ⟨.head _, fun _ h => nomatch h⟩) (fun q hq => .tail _ hq) rfl (List.forall_mem_cons.mpr ⟨rfl, fun _ h => nomatch h⟩) ?_ (P1.rest hf' (hvl ▸ Int.ofNat_le.mp (Int.not_lt.mp hge)) hr')
      intro z z0 z1 z3
      have z4 := z1 _ (.head _)
      dsimp only at z4
      simp only [if_neg z4, if_neg z0, List.contains_nil, Bool.false_eq_true, if_false]
  · refine prod5 fun fv fq n i ti => ?_
    intro u h5 tk5 P1 F5 N5
    dsimp only [kstB] at F5 P1
    clear F2 N2
    have hfl : fv.length ≤ 2000 := P1.len lenl lenr
    have p2 := P1.2.1
    rw [hvr, mrg_done] at p2
    have hfv := P1.1.length
    have hstop : Stop 23 := trivial
    k_steps
    rename_i h7 F7 N7
    rw [pick_from] at N7
    refine Mark.of (add_lists F7 N7 (News.isList N7 (.tail _ (.head _))) (News.isList N7 (.head _)) ?_ (by rw [sizeLine_eq]; simp; omega))
    intro h8 F8 N8
    have hn := N8 _ (.head _)
    exact hQ _ _ (ret _ _ _ _ 0 F8.keep hn.2.2 hn.1 (by rw [← p2]; exact P1.1.append (xl.drop i)))
end
theorem enterC {prog : Program} {w : World} {A : Around} {E : Value → Shared → Prop} {s : Shared} {K : Frag} {name qual : Str} {params : Arguments} {body : List Stmt} {scope : Scope}
    {dV kV doc pm cdv ct oc : Value} {an od : Option Addr} {osl : Array (Option Value)} {f : Addr} {args : List Value} {binds : List (Str × Value)} {Q : Value → Shared → Prop}
    {mg mb : Str → Option Value} {p : Program} {loose : List Str} {mean : ExcName → Option Value} {c : Heap}
    (C : Amb K mg mb p loose mean c) (st : c.StaysIn s.heap) (news : List (Addr × Obj)) (hn : ∀ q ∈ news, s.heap.get? q.1 = some q.2) (hc : ∀ q ∈ news, c.get? q.1 = none)
    (ho : K.lookup f = some ⟨oc, od, .func (fnOf name qual params body scope dV kV doc pm an cdv ct), osl⟩) (hcd : codeIn K cdv qual = true) (hroom : A.depth < recursionLimit)
    (hbind : BindsTo s (fnOf name qual params body scope dV kV doc pm an cdv ct) ⟨args, []⟩ binds)
    (hkind : (binds.all fun y => scope.names.lookup y.1 == some .local || scope.names.lookup y.1 == some .cell) = true)
    (hnd : ((cellsFrom 0 scope.names []).map (·.1)).Nodup)
    (hco : scope.isCoroutine = false) (hgen : scope.isGenerator = false) (hk : scope.kind = .function)
    (h : ∀ g L h₁ tk cells, g = hideAll s.heap (news.map (·.1)) → Fr g L h₁ (bindL (envOfC qual scope L f cdv).kindOf binds fun _ => none) → News g L h₁ (cells ++ news) →
      CellsAre (bindC (envOfC qual scope L f cdv).kindOf binds fun _ => none) (cellsFrom (L + 1) scope.names []) cells → K.In g → Top p loose mean mg mb g → c.StaysIn g → L = s.heap.objs.size → (∀ q ∈ news, q.1 < L) →
      wpAny (model prog w) (A.deeper (envOfC qual scope L f cdv)) (execs body (envOfC qual scope L f cdv))
        (fun fl s' => Q (match fl with | .ret v => v | _ => .none) s') (fun _ _ => False) { s with heap := h₁, toks := tk }) :
    wpAny (model prog w) A (call (.ref f) args []) Q E s := by
  refine wpAny_call ?_
  have X := C.X.keeps st
  have sg := stays_hide st hc
  refine codeAny_call_function hroom (X _ _ ho) rfl hco hgen rfl (codeRec_of X hcd) (hbind _ _ _ _ ?_)
  refine wpAny_newFunctionEnv_cells hk (kindsX hkind _) fun env' he s' x => ?_
  subst he
  refine ⟨(C.T.nolimit.keeps st).keeps x.toInCall.keep, codeAny_func ?_⟩
  obtain ⟨h₁, tk, rfl, _⟩ := x.done
  have hk₁ := x.toInCall.keep
  obtain ⟨cells, NC, Y⟩ := Cl.news (h₀ := s.heap) (Nat.le_refl _) fun n c hm => ⟨x.cell n c (lookup_of_mem_nodup (cellsFrom_names scope.names 0 (s.heap.objs.size + 1) [] [] rfl ▸ hnd) hm), x.above n c hm⟩
  refine wpAny_mono (h _ s.heap.objs.size h₁ tk cells rfl ⟨x.toInCall.ns, fun b o e => hk₁ b o (of_hideAll _ e), Nat.le_of_eq (hideAll_size _ _)⟩ (fun q hq => ?_) Y (C.X.keeps sg) (C.T.keeps sg) sg rfl (fun q hq => Heap.lt_size (hn q hq))) (fun _ _ x => x) (fun _ _ x => x.elim)
  rcases List.mem_append.mp hq with hq | hq
  · refine ⟨(NC q hq).1, (NC q hq).2.1, ?_⟩
    cases e : (hideAll s.heap (news.map (·.1))).get? q.1 with
    | none => rfl
    | some o => have := of_hideAll _ e; rw [(NC q hq).2.2] at this; cases this
  · exact ⟨hk₁ _ _ (hn q hq), Nat.ne_of_lt (Heap.lt_size (hn q hq)), hideAll_none _ (List.mem_map_of_mem hq)⟩
theorem lines8 : True := by
  k_with "m eval ListComp" => (k_here; (have hz : Stop 11 := (by assumption)); clear hz; refine Mark.mk ?_)
  k_with "m CompSrc" => (have hz : Stop 11 := (by assumption); clear hz; refine Mark.mk ?_)
  k_with "m SrcD" => refine Mark.mk ?_
  trivial
section
variable {prog : Program} {w : World} {A : Around} {E : Value → Shared → Prop} {s : Shared} {h₀ : Heap} {L : Addr} {m : Str → Option Value} {env : Env}

/-- the turns of a list comprehension, with a state -/
theorem rest_inv {σ : Type} {elt : Expr} {x : Str} {scope : Scope} {cl : List (Str × Addr)} {S : List (Addr × Obj) → Prop} {P : Nat → Value → Prop} {Fin : List Value → List (Addr × Obj) → Prop} {n : Nat}
    (Led : σ → List (Addr × Obj)) (J : Nat → List Value → σ → Prop) (c₀ : σ) (hJ : J 0 [] c₀)
    (turn : ∀ (c : σ) i v ys I oI C oC D m₂ h tk (E' : Value → Shared → Prop), i < n → P i v → J i ys c → ys.length = i → LCg.NsObj oC m₂ → m₂ x = some v → Fr h₀ L h m → News h₀ L h ((I, oI) :: (C, oC) :: (D, LCg.lst ys) :: Led c) → LCg.Off3 I C D (Led c) → ((@Ne Nat I C) ∧ (@Ne Nat I D) ∧ (@Ne Nat C D)) →
      ∀ QQ : Value → Shared → Prop, (∀ y h' tk' all c', Fr h₀ L h' m → News h₀ L h' all → (∀ p ∈ (I, oI) :: (C, oC) :: (D, LCg.lst ys) :: Led c', p ∈ all) → LCg.Off3 I C D (Led c') → S (Led c') → J (i + 1) (ys ++ [y]) c' → QQ y { s with heap := h', toks := tk' }) →
      wpAny (model prog w) A (eval elt (compEnvC scope cl C env)) QQ E' { s with heap := h, toks := tk })
    (fin : ∀ ys c, ys.length = n → J n ys c → Fin ys (Led c)) : LCg.CompRest prog w A h₀ L m env elt x scope cl s S P Fin n 0 [] (Led c₀) := by
  have key : ∀ (j i : Nat) (ys : List Value) (c : σ), i + j = n → ys.length = i → J i ys c → LCg.CompRest prog w A h₀ L m env elt x scope cl s S P Fin j i ys (Led c) := by
    intro j
    induction j with
    | zero =>
      intro i ys c hi hy hj
      obtain rfl : i = n := hi
      exact LCg.CompRest.zero (fin ys c hy hj)
    | succ j ih =>
      intro i ys c hi hy hj
      refine LCg.CompRest.succ ?_
      intro v I oI C oC D m₂ h tk E' hv hC hx F N off ne
      exact turn c i v ys I oI C oC D m₂ h tk E' (hi ▸ Nat.lt_add_of_pos_right (Nat.succ_pos j)) hv hj hy hC hx F N off ne _ fun y h' tk' all c' F' N' sub off' hS hj' =>
        LCg.CompEnd.intro F' N' _ sub off' hS (ih (i + 1) _ c' ((Nat.succ_add i j).trans hi) (by rw [List.length_append, hy]; rfl) hj')
  exact key n 0 [] c₀ (Nat.zero_add n) rfl hJ
end

/-- a row under way: where it lies, what it holds -/
abbrev Run := Addr × List Value × Nat × List (Int × Int)
def Run.ent (r : Run) : Addr × Obj := (r.1, listOf r.2.1.toArray r.2.2.1)
def Runs (g : Heap) (qs : List (Int × Int)) (R : List Run) : Prop := (∀ r ∈ R, FracsAt g r.2.1 r.2.2.2 ∧ Asc r.2.2.2) ∧ (R.flatMap fun r => r.2.2.2).Perm qs

theorem off1_mem {D : Addr} : ∀ {l : List (Addr × Obj)}, LCg.Off1 D l → ∀ p ∈ l, p.1 ≠ D
  | [], _, _, h => nomatch h
  | _ :: _, x, p, h => by
    rcases List.mem_cons.mp h with rfl | h
    · exact x.1
    · exact off1_mem x.2 p h
theorem len_news {M : Program} {w : World} {A : Around} {E : Value → Shared → Prop} {s : Shared} {h₀ : Heap} {L l : Addr} {news : List (Addr × Obj)} {vs : List Value} {k n : Nat} {Q : Value → Shared → Prop} (N : News h₀ L s.heap news) (hm : (l, listOf vs.toArray k) ∈ news) (e : vs.length = n) (hb : n < 2 ^ 62)
    (h : Q (.int n (s.toks + 1)) { s with toks := s.toks + 1 + 1 }) : wpAny (model M w) A (call (.builtin "len") [.ref l]) Q E s := by
  refine len_list (News.isList N hm) (by simp; omega) ?_
  simpa [e] using h
theorem lines9 : True := by
  k_with "m call builtin:len" => (k_here; (with_reducible show wpAny _ _ (call (Value.builtin "len") [Value.ref _]) _ _ _); refine len_news (by k_asm) (by k_mem) (by with_reducible assumption) (by first | assumption | omega) ?_)
  trivial
/-- the source of a comprehension: a range by steps of d -/
def SrcD (d : Int) (prog : Program) (w : World) (A : Around) (h₀ : Heap) (L : Addr) (m : Str → Option Value) (env : Env) (elt : Expr) (x : Str) (scope : Scope) (cl : List (Str × Addr)) (Fin : Shared → List Value → List (Addr × Obj) → Prop) (xv : Value) (s₁ : Shared) : Prop :=
  ∀ Z : Value → Prop, (∀ r a b t u v (n : Nat) news, A.handled = none → Fr h₀ L s₁.heap m → News h₀ L s₁.heap news → IsRange s₁.heap r a b d t u v → Builtin.Range.small a b d = true → Builtin.Range.rangeSize a b d = (n : Int) → n ≤ sizeLine →
    (∀ g : Heap, LCg.CompRest prog w A h₀ L m env elt x scope cl { s₁ with heap := g } (fun _ => True) (fun i v => ∃ t, v = .int (a + (i : Int) * d) t) (Fin { s₁ with heap := g }) n 0 [] news) → Z (.ref r)) → Z xv

section
variable {prog : Program} {w : World} {A : Around} {E : Value → Shared → Prop} {s : Shared} {h₀ : Heap} {L : Addr} {m : Str → Option Value} {env : Env}
theorem ListComp_D (_F : Fr h₀ L s.heap m) (d : Int) {elt iter : Expr} {x : Str} {px : Pos} {scope : Scope} {cl : List (Str × Addr)} {pos : Pos} {Q : Value → Shared → Prop}
    (hclos : closureFor scope env = pure cl) (hcell : ∀ y ∈ scope.names, y.2 ≠ .cell) (hkind : scope.kind = .function)
    (hnames : ∀ y ∈ scope.names, y.2 = .local → scope.names.lookup y.1 = some .local) (hx : scope.names.lookup x = some .local)
    (h : wpAny (model prog w) A (eval iter env) (SrcD d prog w A h₀ L m env elt x scope cl (fun s₂ => LCg.FinE h₀ L m s₂ Q)) E s)
    (hs : ∀ x, foldedSetIterable iter env x = pure x := by intro _; rfl) :
    wpAny (model prog w) A (eval (.ListComp elt [⟨.Name x px, iter, [], 0⟩] scope pos) env) Q E s := by
  rw [eval_ListComp]
  refine wpAny_comprehension_free (use := none) rfl hs hclos hkind hnames (wpAny_mono h (fun xv s₁ h₁ => ?_) fun _ _ e => e)
  refine h₁ (fun xv => wpAny _ A (pyIter xv) _ E s₁) fun r a b t u v n news hh F N hr hsm hn hsz R => ?_
  refine wpAny_pyIter_range hr hsm ?_
  have st : ∀ i (h h' : Heap) (o : Obj) (nw : List (Addr × Obj)), IsRangeIter h s₁.heap.objs.size (a + (i : Nat) * d) ((n : Int) - (i : Nat)) d → h.get? s₁.heap.objs.size = some o → h'.get? s₁.heap.objs.size = some o →
      (∀ b o, h₀.get? b = some o → h'.get? b = some o) → News h₀ L h' nw → True → IsRangeIter h' s₁.heap.objs.size (a + (i : Nat) * d) ((n : Int) - (i : Nat)) d := fun i h h' o nw q e e' _ _ _ => by
    show h'.get? _ = some _
    rw [e', ← e]; exact q
  refine LCg.block_U (P := fun i v => ∃ t, v = .int (a + (i : Int) * d) t) (Walks.range hh s₁.heap.objs.size a d n) hsz (fun i h st => ⟨_, st⟩) st hcell hkind hx (by show IsRangeIter _ _ _ _ _; rw [hn]; simpa using Heap.get?_push_size _ rfl) (fun b hb => ?_)
    (F.keeps fun _ _ e => Heap.get?_push_of_some _ e) (N.grown fun _ _ e => Heap.get?_push_of_some _ e) (Nat.ne_of_lt F.ns.lt) (next_is_new F) (fun p hp => Nat.ne_of_lt (Heap.lt_size (N p hp).1)) trivial (R _) ?_
  · rw [List.mem_singleton.mp hb]
    show s₁.heap.objs.size < (s₁.heap.push _).objs.size
    rw [Heap.size_push]; exact Nat.lt_succ_self _
  · intro D C h tk m' ys news' F' N' o1 hn hC₀ hD₀ hCL hDL hCD offC fin
    refine ⟨m', hn, fun h'' hs'' => fin D h'' tk (F'.change hs'' hCL hC₀) (fun p hp => ⟨hs''.extBut _ _ ?_ (N' p hp).1, (N' p hp).2⟩) o1⟩
    rcases List.mem_cons.mp hp with rfl | hp
    · exact Ne.symm hCD
    · exact offC p hp

theorem range_size2 {n : Nat} (e : n % 2 = 0) : Builtin.Range.rangeSize 0 n 2 = ((n / 2 : Nat) : Int) := by
  unfold Builtin.Range.rangeSize
  simp only [show (2 : Int) > 0 from by decide, if_true]
  split <;> omega
theorem range_small2 {n : Nat} (h : n ≤ 1000) : Builtin.Range.small 0 n 2 = true := by
  unfold Builtin.Range.small Builtin.Range.rangeSize
  simp only [show (2 : Int) > 0 from by decide, if_true]
  split <;> simp only [Builtin.Range.rangeFitsLong, Bool.and_eq_true, Bool.or_eq_true, decide_eq_true_eq] <;> omega
theorem allLt_mem {d : Addr} : ∀ {l : List (Addr × Obj)}, AllLt d l → ∀ p ∈ l, @LT.lt Nat _ p.1 d
  | [], _, _, h => nomatch h
  | _ :: _, x, p, h => by
    rcases List.mem_cons.mp h with rfl | h
    · exact x.1
    · exact allLt_mem x.2 p h
theorem News.fresh {h₀ h h' : Heap} {L a : Addr} {m : Str → Option Value} {o : Obj} {news : List (Addr × Obj)} (F : Fr h₀ L h m) (N : News h₀ L h news) (st : h.StaysIn h') (ha : h.get? a = none) (ho : h'.get? a = some o) : News h₀ L h' ((a, o) :: news) := by
  intro p hp
  rcases List.mem_cons.mp hp with rfl | hp
  · refine ⟨ho, ?_, ?_⟩
    · intro e
      obtain ⟨oL, _, _, hL, _⟩ := F.ns
      dsimp only at e
      rw [e, hL] at ha; cases ha
    · cases e : h₀.get? a with
      | none => rfl
      | some o' => have := F.keep _ _ e; rw [ha] at this; cases this
  · exact ⟨st _ _ (N p hp).1, (N p hp).2⟩
theorem News.ne_fresh {h₀ h : Heap} {L a : Addr} {news : List (Addr × Obj)} (N : News h₀ L h news) (ha : h.get? a = none) {p : Addr × Obj} (hp : p ∈ news) : @Ne Nat a p.1 := by
  intro e
  have e' : a = p.1 := e
  rw [e', (N p hp).1] at ha; cases ha
/-- what the next round starts from -/
abbrev refs (R : List Run) : List Value := R.map fun r => Value.ref r.1
theorem runs_pop {D : Addr} {R : List Run} {k : Nat} {news news' : List (Addr × Obj)} {Q : Value → Shared → Prop} (F : Fr h₀ L s.heap m) (N : News h₀ L s.heap news) (hne : 0 < R.length) (hz : R.length ≤ 1000)
    (U : Upd D (listOf (refs R).toArray k) (listOf (refs R.dropLast).toArray (k + 1)) news news')
    (h : ∀ h' r, R = R.dropLast ++ [r] → Fr h₀ L h' m → News h₀ L h' news' → Q (.ref r.1) { s with heap := h' }) : wpAny (model prog w) A (call (.builtin "list.pop") [.ref D]) Q E s := by
  have e := List.dropLast_concat_getLast (List.ne_nil_of_length_pos hne)
  refine kl_pop F N (p := refs R.dropLast) (y := .ref (R.getLast (List.ne_nil_of_length_pos hne)).1) ?_ U (by rw [sizeLine_eq]; simp; omega) fun h' F' N' => h h' _ e.symm F' N'
  have := kpa_last (.ref (R.getLast (List.ne_nil_of_length_pos hne)).1) (refs R.dropLast)
  rw [← this]
  congr 1
  show R.map _ = R.dropLast.map _ ++ _
  conv => lhs; rw [← e]
  simp
theorem item_run {D : Addr} {R : List Run} {n : Nat} {k : Int} {u : Tok} {news : List (Addr × Obj)} {value slice : Expr} {Q : Value → Shared → Prop} (N : News h₀ L s.heap news) (hm : (D, listOf (refs R).toArray n) ∈ news) (h0 : 0 ≤ k) (hk : k < R.length) (hb : R.length ≤ 1000)
    (h : ∀ r, R[k.toNat]? = some r → Q (.ref r.1) s)
    (hs : subscripted slice false (.ref D) (.int k u) = operate [.ref D, .int k u] (getItem (.ref D) (.int k u)) := by with_unfolding_all rfl) (hg : ∀ r, letTemporaryGo value (.ref D) r = pure () := by intro _; with_unfolding_all rfl) :
    wpAny (model prog w) A (subscriptTail value slice (.ref D) (.int k u)) Q E s := by
  have e : R[k.toNat]? = some (R[k.toNat]'(by omega)) := by simp
  exact item_list (News.isList N hm) h0 (by simp; omega) (by simp [e]) (h _ e) hs hg
end
theorem lines10 : True := by
  k_with "m call builtin:list.pop" => (k_here; (with_reducible show wpAny _ _ (call (Value.builtin _) [Value.ref _]) _ _ _); refine runs_pop (by k_asm) (by k_asm) (by assumption) (by assumption) (by k_upd) ?_; intro _ _ _ _ _)
  k_with "m subscriptTail Name Constant ref int" => (k_here; (with_reducible show wpAny _ _ (subscriptTail _ _ (Value.ref _) (Value.int _ _)) _ _ _); refine item_run (by k_asm) (by k_mem) (by first | assumption | omega) (by first | assumption | omega) (by first | assumption | omega) ?_; intro _ _)
  k_with "m subscriptTail Name Name ref int" => (k_here; (with_reducible show wpAny _ _ (subscriptTail _ _ (Value.ref _) (Value.int _ _)) _ _ _); refine item_run (by k_asm) (by k_mem) (by first | assumption | omega) (by first | assumption | omega) (by first | assumption | omega) ?_; intro _ _)
  k_with "m subscriptTail Name BinOp ref int" => (k_here; (with_reducible show wpAny _ _ (subscriptTail _ _ (Value.ref _) (Value.int _ _)) _ _ _); refine item_run (by k_asm) (by k_mem) (by first | assumption | omega) (by first | assumption | omega) (by first | assumption | omega) ?_; intro _ _)
  k_with "m call ref" => (k_here; (with_reducible show wpAny _ _ (call (Value.ref 160) [_, _] []) _ _ _); (have hz : Stop 11 := (by assumption)); clear hz; refine Mark.mk ?_)
  k_with "m binaryOp Add ref ref" => (have hz : Stop 11 := (by assumption); clear hz; refine Mark.mk ?_)
  trivial
theorem runs_good {g : Heap} {lq : List (Int × Int)} {R : List Run} (h : Runs g lq R) (gl : ∀ q ∈ lq, good q) {r : Run} (hr : r ∈ R) : (∀ q ∈ r.2.2.2, good q) ∧ r.2.2.2.length ≤ lq.length := by
  have sub : r.2.2.2.Sublist (R.flatMap fun r => r.2.2.2) := by
    rw [List.flatMap_def]
    exact List.sublist_flatten_of_mem (List.mem_map_of_mem hr)
  exact ⟨fun q hq => gl q (h.2.subset (sub.subset hq)), h.2.length_eq ▸ sub.length_le⟩
theorem refs_snoc {R : List Run} {r : Run} : refs (R ++ [r]) = refs R ++ [.ref r.1] := List.map_append
theorem mem_run {S : List Run} {r : Run} {T : List (Addr × Obj)} {q : Addr × Obj} (h : q ∈ (S ++ [r]).map Run.ent ++ T) : q ∈ r.ent :: (S.map Run.ent ++ T) := by
  rw [List.map_append, List.append_assoc] at h
  exact (List.mem_append.mp h).elim (fun h => .tail _ (List.mem_append_left _ h)) fun h => (List.mem_cons.mp h).elim (fun e => e ▸ .head _) fun h => .tail _ (List.mem_append_right _ h)
theorem mem_run1 {S : List Run} {r : Run} {q : Addr × Obj} (h : q ∈ (S ++ [r]).map Run.ent) : q ∈ r.ent :: S.map Run.ent := by
  have := mem_run (T := []) (List.mem_append_left _ h)
  rwa [List.append_nil] at this
theorem off3_run {I C D : Addr} {S : List Run} {r : Run} {T : List (Addr × Obj)} (h : LCg.Off3 I C D (S.map Run.ent ++ T)) (hr : r.1 ≠ I ∧ r.1 ≠ C ∧ r.1 ≠ D) : LCg.Off3 I C D ((S ++ [r]).map Run.ent ++ T) :=
  LCg.Off3.of fun _ hp => (List.mem_cons.mp (mem_run hp)).elim (fun e => e ▸ hr) fun hp => h.mem _ hp
theorem off3_run1 {I C D : Addr} {S : List Run} {r : Run} (h : LCg.Off3 I C D (S.map Run.ent)) (hr : r.1 ≠ I ∧ r.1 ≠ C ∧ r.1 ≠ D) : LCg.Off3 I C D ((S ++ [r]).map Run.ent) :=
  LCg.Off3.of fun _ hp => (List.mem_cons.mp (mem_run1 hp)).elim (fun e => e ▸ hr) fun hp => h.mem _ hp
/-- sorted runs, none of them at b -/
def RunsOk (g : Heap) (b : Addr) (S : List Run) : Prop := ∀ r ∈ S, (FracsAt g r.2.1 r.2.2.2 ∧ Asc r.2.2.2) ∧ @Ne Nat r.1 b
theorem RunsOk.snoc {g : Heap} {b : Addr} {S : List Run} {r : Run} (h : RunsOk g b S) (f : FracsAt g r.2.1 r.2.2.2) (a : Asc r.2.2.2) (n : @Ne Nat r.1 b) : RunsOk g b (S ++ [r]) := fun x hx =>
  (List.mem_append.mp hx).elim (h x) fun hx => List.mem_singleton.mp hx ▸ ⟨⟨f, a⟩, n⟩
theorem RunsOk.off {g : Heap} {b : Addr} {S : List Run} (h : RunsOk g b S) : ∀ p ∈ S.map Run.ent, @Ne Nat p.1 b := fun p hp => by
  obtain ⟨r, hr, rfl⟩ := List.mem_map.mp hp
  exact (h r hr).2
/-- the rows of one -/
def Ones (g : Heap) (b : Addr) (lq : List (Int × Int)) (i : Nat) (ys : List Value) (R : List Run) : Prop := ys = refs R ∧ R.length = i ∧ RunsOk g b R ∧ R.flatMap (fun r => r.2.2.2) = lq.take i
theorem Ones.snoc {g : Heap} {b a : Addr} {lq : List (Int × Int)} {i : Nat} {ys : List Value} {R : List Run} {v : Value} {q : Int × Int} (h : Ones g b lq i ys R) (f : FracAt g v q) (e : lq[i]? = some q) (n : @Ne Nat a b) : Ones g b lq (i + 1) (ys ++ [.ref a]) (R ++ [((a, [v], 0, [q]) : Run)]) :=
  ⟨by rw [refs_snoc, h.1], by rw [List.length_append, h.2.1]; rfl, h.2.2.1.snoc (.cons f .nil) (by simp [Asc]) n, by rw [List.flatMap_append, h.2.2.2, List.take_add_one, e]; rfl⟩
theorem Ones.runs {g : Heap} {b : Addr} {lq : List (Int × Int)} {i : Nat} {ys : List Value} {R : List Run} (h : Ones g b lq i ys R) (e : lq.length = i) : Runs g lq R :=
  ⟨fun r hr => (h.2.2.1 r hr).1, by rw [h.2.2.2, List.take_of_length_le (Nat.le_of_eq e)]⟩
/-- the rows that are joined two and two -/
def Twos (g : Heap) (b : Addr) (R' : List Run) (i : Nat) (ys : List Value) (S : List Run) : Prop := ys = refs S ∧ S.length = i ∧ RunsOk g b S ∧ (S.flatMap (fun r => r.2.2.2)).Perm ((R'.take (2 * i)).flatMap fun r => r.2.2.2)
theorem Twos.snoc {g : Heap} {b a : Addr} {R' S : List Run} {i n : Nat} {ys vs : List Value} {r1 r2 : Run} (h : Twos g b R' i ys S) (e1 : R'[2 * i]? = some r1) (e2 : R'[2 * i + 1]? = some r2) (f : FracsAt g vs (mrg r1.2.2.2 r2.2.2.2)) (o : Asc (mrg r1.2.2.2 r2.2.2.2)) (ne : @Ne Nat a b) :
    Twos g b R' (i + 1) (ys ++ [.ref a]) (S ++ [((a, vs, n, mrg r1.2.2.2 r2.2.2.2) : Run)]) :=
  ⟨by rw [refs_snoc, h.1], by rw [List.length_append, h.2.1]; rfl, h.2.2.1.snoc f o ne, by
    rw [show 2 * (i + 1) = 2 * i + 1 + 1 from rfl, List.take_add_one, List.take_add_one, e1, e2, List.flatMap_append, List.append_assoc, List.flatMap_append]
    exact h.2.2.2.append (by simpa using mrg_perm _ _)⟩
theorem Twos.runs {g : Heap} {b : Addr} {lq : List (Int × Int)} {R' S ws : List Run} {i : Nat} {ys : List Value} (h : Twos g b R' i ys S) (hR : Runs g lq (R' ++ ws)) (hi : R'.length ≤ 2 * i) : Runs g lq (S ++ ws) := by
  refine ⟨fun r hr => (List.mem_append.mp hr).elim (fun hr => (h.2.2.1 r hr).1) fun hr => hR.1 r (List.mem_append_right _ hr), List.Perm.trans ?_ hR.2⟩
  have := h.2.2.2
  rw [List.take_of_length_le hi] at this
  rw [List.flatMap_append, List.flatMap_append]
  exact this.append (.refl _)
theorem idx2 {i n : Nat} (h : i < n / 2) : (0 : Int) ≤ 0 + (i : Int) * 2 ∧ 0 + (i : Int) * 2 < n ∧ (0 : Int) ≤ 0 + (i : Int) * 2 + 1 ∧ 0 + (i : Int) * 2 + 1 < n ∧ (0 + (i : Int) * 2).toNat = 2 * i ∧ (0 + (i : Int) * 2 + 1).toNat = 2 * i + 1 := by
  have e : (0 : Int) + (i : Int) * 2 = ((2 * i : Nat) : Int) := by rw [Int.zero_add, Int.mul_comm]; rfl
  have b : 2 * i + 1 < n := Nat.le_trans (Nat.mul_le_mul_left 2 h) (Nat.mul_div_le n 2)
  rw [e]
  exact ⟨Int.natCast_nonneg _, Int.ofNat_lt.mpr (Nat.lt_of_succ_lt b), Int.natCast_nonneg (2 * i + 1), Int.ofNat_lt.mpr b, rfl, rfl⟩
theorem halves {n w m : Nat} (h : n % 2 = 0) (g : 1 < n + w) (hw : w ≤ 1) (hm : n + w ≤ m) : n ≤ 2 * (n / 2) ∧ n / 2 + w < n + w ∧ 0 < n / 2 + w ∧ n / 2 + w ≤ m := by
  have e := Nat.mul_div_cancel' (Nat.dvd_of_mod_eq_zero h)
  have hn : 0 < n := Nat.pos_of_ne_zero fun z => by
    rw [z, Nat.zero_add] at g
    exact absurd (Nat.lt_of_lt_of_le g hw) (Nat.lt_irrefl _)
  have lt : n / 2 < n := Nat.div_lt_self hn (by decide)
  have pos : 0 < n / 2 := Nat.pos_of_ne_zero fun z => by
    rw [z] at e
    exact Nat.ne_of_gt hn e.symm
  exact ⟨Nat.le_of_eq e.symm, Nat.add_lt_add_right lt w, Nat.add_pos_left pos w, Nat.le_trans (Nat.le_of_lt (Nat.add_lt_add_right lt w)) hm⟩
theorem fmod2 (n : Nat) : (n : Int).fmod 2 = ((n % 2 : Nat) : Int) := by rw [Int.fmod_eq_emod_of_nonneg _ (by decide)]; rfl
theorem runs_one {g : Heap} {lq : List (Int × Int)} {R : List Run} {r : Run} (h : Runs g lq R) (e : R[0]? = some r) (h1 : ¬ 1 < R.length) : FracsAt g r.2.1 r.2.2.2 ∧ r.2.2.2.Perm lq ∧ Asc r.2.2.2 := by
  cases R with
  | nil => cases e
  | cons x t =>
    cases t with
    | nil => cases e; exact ⟨(h.1 _ (.head _)).1, by simpa using h.2, (h.1 _ (.head _)).2⟩
    | cons y t => exact absurd (Nat.succ_lt_succ (Nat.succ_pos t.length)) h1
section
variable {prog : Program} {w : World} {A : Around} {E : Value → Shared → Prop} {Q : Flow → Shared → Prop} {s : Shared} {env : Env} {h₀ : Heap} {L : Addr}
/-- a while whose names are all forgotten -/
theorem while_st {σ : Type} {test : Expr} {body : List Stmt} {pos : Pos} {m : Str → Option Value} (Led : σ → List (Addr × Obj)) (P : σ → Prop) (μ : σ → Nat) (c₀ : σ) (F : Fr h₀ L s.heap m) (N : News h₀ L s.heap (Led c₀)) (hP : P c₀)
    (turn : ∀ c m₁ h₁ tk₁, P c → Fr h₀ L h₁ m₁ → News h₀ L h₁ (Led c) → ∀ QQ : Flow → Shared → Prop, (∀ c' h' tk' m', P c' → μ c' < μ c → Fr h₀ L h' m' → News h₀ L h' (Led c') → QQ .next { s with heap := h', toks := tk' }) →
      wpAny (model prog w) A (isTrue test env (eval test env)) (fun b s₂ => if b = true then wpAny (model prog w) A (execs body env) QQ E s₂ else Q .next s₂) E { s with heap := h₁, toks := tk₁ })
    (hE : PassesOwn (model prog w) A env E := by passes_own) : wpAny (model prog w) A (exec (.While test body [] pos) env) Q E s := by
  refine While_inv2 (n₀ := μ c₀) (fun n _ news => ∃ c, news = Led c ∧ n = μ c ∧ P c) F N ⟨c₀, rfl, rfl, hP⟩ (fun n m₁ news₁ h₁ tk₁ F₁ N₁ hc => ?_) hE
  obtain ⟨c, rfl, rfl, hp⟩ := hc
  exact turn c m₁ h₁ tk₁ hp F₁ N₁ _ fun c' h' tk' m' p' lt F' N' => ⟨h', tk', m', _, _, rfl, F', N', lt, c', rfl, rfl, p'⟩
end
/-- between the rounds -/
def Rnd (g : Heap) (lq : List (Int × Int)) (b D : Addr) (oc : Obj) (R : List Run) : Prop := oc.data = .cell (some (.ref D)) ∧ Runs g lq R ∧ (∀ p ∈ R.map Run.ent, @Ne Nat p.1 b) ∧ (∀ p ∈ R.map Run.ent, @Ne Nat p.1 D) ∧ @Ne Nat D b ∧ 0 < R.length ∧ R.length ≤ lq.length
section
variable {w : World} {A : Around} {s : Shared} {mg mb : Str → Option Value} {p : Program} {loose : List Str} {mean : ExcName → Option Value} {c : Heap} {Q E : Value → Shared → Prop}

set_option maxHeartbeats 4000000 in
theorem rows_spec {la : Addr} {lv : List Value} {lq : List (Int × Int)} (C : Amb (hd.heap_39 w.params) mg mb p loose mean c) (st : c.StaysIn s.heap)
    (hl : s.heap.IsList la lv.toArray) {g₀ : Heap} (hg₀ : g₀.StaysIn s.heap) (xl : FracsAt g₀ lv lq)
    (gl : ∀ q ∈ lq, good q) (lenl : lq.length ≤ 60) (hne : lq ≠ [])
    (hroom : A.depth + 4 < recursionLimit) (hu : A.units + 800 < cLine) (hh : A.handled = none)
    (ret : ∀ a h' tk' vs qs n', s.heap.StaysIn h' → s.heap.get? a = none → h'.get? a = some (listOf vs.toArray n') → FracsAt g₀ vs qs → qs.Perm lq → Asc qs → Q (.ref a) { s with heap := h', toks := tk' }) :
    wpAny (model PySem.Challenge.rw_pq1401_01.row.prog w) A (call (.ref 165) [.ref la] []) Q E s := by
  obtain ⟨hdl, dp, fr, gd, un⟩ := A
  obtain rfl : hdl = none := hh
  dsimp only at hroom hu
  w_top off; revert C; k_fill; intro C
  refine enterC C st [] (binds := [(Str.ofString "items", .ref la)]) (fun _ h => nomatch h) (fun _ h => nomatch h) (by k_is) (by k_is) (Nat.lt_of_le_of_lt (Nat.le_add_right _ 4) hroom) (BindsTo.of_eq (by rfl)) (by rfl) (by decide) (by rfl) (by rfl) (by rfl) ?_
  intro g L h₁ tk cells hg F N Y X T stc hL hN
  k_cells Y
  subst hg
  change Fr s.heap _ _ _ at F
  change News s.heap _ _ _ at N
  change (hd.heap_39 w.params).In s.heap at X
  change Top _ _ _ _ _ s.heap at T
  have hvl := xl.length
  have hv60 : lv.length ≤ 60 := hvl ▸ lenl
  refine postE fun QQ hQ => ?_
  have hstop : Stop 11 := trivial
  k_steps
  refine Mark.of (LCg.ListComp_U (F₀ := by k_asm) (by with_unfolding_all rfl) (by decide) (by rfl) (by decide) (by rfl) ?_)
  k_steps
  refine Mark.of (LCg.CompSrc.base (by rfl) (by k_asm) (by k_asm) (by assumption) (by rw [sizeLine_eq, List.size_toArray]; exact Nat.le_trans hv60 (by decide)) ?_)
  intro g'
  rename_i oc doc
  refine rest_inv (σ := List Run) (fun R => (_, oc) :: R.map Run.ent) (Ones g₀ (L + 1) lq) [] ⟨rfl, rfl, (fun _ h => nomatch h), rfl⟩ ?_ ?_
  · intro R i v ys I oI C1 oC D m₂ h tk2 E' hi hv J hyl hC hx F1 N1 off ne Q1 hQ1
    clear F N
    k_steps
    rename_i a h3 F3 N3 l3
    obtain ⟨q, hq1, hf⟩ := xl.at (by simpa using hv)
    exact hQ1 _ _ _ _ (R ++ [((a, [v], 0, [q]) : Run)]) F3 N3 (List.forall_mem_cons.mpr ⟨.tail _ (.head _), List.forall_mem_cons.mpr ⟨.tail _ (.tail _ (.head _)), List.forall_mem_cons.mpr ⟨.tail _ (.tail _ (.tail _ (.head _))), List.forall_mem_cons.mpr ⟨.tail _ (.tail _ (.tail _ (.tail _ (.head _)))), fun p hp =>
        (List.mem_cons.mp (mem_run1 hp)).elim (fun e => e ▸ .head _) fun hp => .tail _ (.tail _ (.tail _ (.tail _ (.tail _ hp))))⟩⟩⟩⟩)
      ⟨off.1, off3_run1 off.2 ⟨Nat.ne_of_gt l3.1, Nat.ne_of_gt l3.2.1, Nat.ne_of_gt l3.2.2.1⟩⟩ (.inl hl) (J.snoc hf hq1 (Nat.ne_of_gt l3.2.2.2.1))
  · intro ys R hyl J
    clear F N
    unfold LCg.FinE
    intro D h tk2 F N o1
    dsimp only
    obtain rfl := J.1
    have hRm : R.length = lq.length := by rw [J.2.1, List.size_toArray, hvl]
    have hR1 : 0 < R.length := hRm ▸ List.length_pos_iff.mpr hne
    have hRR := J.runs (by rw [List.size_toArray, hvl])
    have oR := J.2.2.1.off
    have o2 := off1_mem o1.2
    replace o1 := o1.1
    clear J
    k_steps
    rename_i h4 oc2 F4 N4 d4
    refine Mark.of (while_st (σ := Addr × Nat × Obj × List Run) (fun c => (c.1, listOf (refs c.2.2.2).toArray c.2.1) :: (L + 1, c.2.2.1) :: c.2.2.2.map Run.ent) (fun c => Rnd g₀ lq (L + 1) c.1 c.2.2.1 c.2.2.2) (fun c => c.2.2.2.length) (D, _, oc2, R) F4 N4 ⟨d4, hRR, oR, o2, Ne.symm o1, hR1, Nat.le_of_eq hRm⟩ ?_)
    clear F4 N4 d4 oR o2 o1 hRm hRR hR1 hyl
    refine prod4 fun D k oc R => ?_
    intro m₁ h₅ tk₅ P F5 N5 Q2 hQ2
    dsimp only at P N5
    have d5 := P.1
    have hRR := P.2.1
    have oR := P.2.2.1
    have o2 := P.2.2.2.1
    have o1 := P.2.2.2.2.1
    have hRl := P.2.2.2.2.2.1
    have hRm := P.2.2.2.2.2.2
    clear P
    have hlen : (refs R).length = R.length := List.length_map ..
    have hmost : R.length ≤ 1000 := Nat.le_trans hRm (Nat.le_trans lenl (by decide))
    have h62 : R.length < 2 ^ 62 := Nat.lt_of_le_of_lt hmost (by decide)
    have hR0 : (0 : Int) < R.length := Int.ofNat_lt.mpr hRl
    have h00 : (0 : Int) ≤ 0 := Int.le_refl 0
    k_steps
    · refine Mark.of (cutN (K := fun Q3 => ∀ l k' k2 R' ws h' tk', Fr s.heap L h' m₁ → News s.heap L h' ((l, listOf (refs ws).toArray k2) :: (D, listOf (refs R').toArray k') :: (L + 1, oc) :: R.map Run.ent) →
        @Ne Nat l D → @Ne Nat l (L + 1) → R = R' ++ ws → R'.length % 2 = 0 → ws.length ≤ 1 → Q3 (.ref l) { s with heap := h', toks := tk' }) (fun Q3 k3 => ?_) ?_)
      · clear hstop
        k_steps
        · rename_i hodd h7 r hr l8 h8 F8 N8 hl8
          refine k3 _ _ _ R.dropLast [r] _ _ F8 N8 (Nat.ne_of_gt hl8.1) (Nat.ne_of_gt hl8.2.1) hr ?_ (Nat.le_refl _)
          rw [List.length_dropLast]
          exact Nat.sub_mod_eq_zero_of_mod_eq (Int.ofNat.inj ((fmod2 _).symm.trans hodd))
        · rename_i hev l8 h8 F8 N8 hl8
          exact k3 _ _ _ R [] _ _ F8 N8 (Nat.ne_of_gt hl8.1) (Nat.ne_of_gt hl8.2.1) (List.append_nil _).symm ((Nat.mod_two_eq_zero_or_one _).resolve_right fun e => hev ((fmod2 _).trans (congrArg Int.ofNat e))) (Nat.zero_le _)
      · intro l k' k2 R' ws h' tk' F N e1 e2 eR e4 e5
        subst eR
        clear F5 N5 hlen h62
        have hlen2 : (refs R').length = R'.length := List.length_map ..
        have hmost2 : R'.length ≤ 1000 := Nat.le_trans (by rw [List.length_append]; exact Nat.le_add_right _ _) hmost
        have h62 : R'.length < 2 ^ 62 := Nat.lt_of_le_of_lt hmost2 (by decide)
        k_steps
        refine Mark.of (ListComp_D (by k_asm) 2 (by with_unfolding_all rfl) (by decide) (by rfl) (by decide) (by rfl) ?_)
        k_steps
        rename_i hgt h9 F9 N9 h10 tk10 t10 u10 v10 hrg F10 N10 hst
        refine Mark.of (show SrcD _ _ _ _ _ _ _ _ _ _ _ _ _ _ _ from fun _ k => k _ _ _ _ _ _ (R'.length / 2) _ rfl F10 N10 hrg (range_small2 hmost2) (range_size2 e4) (by rw [sizeLine_eq]; exact Nat.le_trans (Nat.div_le_self _ _) (Nat.le_trans hmost2 (by decide))) ?_)
        intro g2
        clear F9 N9 k
        refine rest_inv (σ := List Run) (fun S => (l, listOf (refs ws).toArray k2) :: (D, listOf (refs R').toArray k') :: (L + 1, oc) :: (S.map Run.ent ++ (R' ++ ws).map Run.ent)) (Twos g₀ (L + 1) R') [] ⟨rfl, rfl, (fun _ h => nomatch h), .nil⟩ ?_ ?_
        · intro S i v ys I oI C1 oC D2 m₂ h tk E' hi hv J hyl hC hx F N off ne Q4 hQ4
          obtain ⟨t, rfl⟩ := hv
          clear F10 N10 hrg
          have ix := idx2 hi
          have i1 := ix.1
          have i2 := ix.2.1
          have i3 := ix.2.2.1
          have i4 := ix.2.2.2.1
          k_steps
          rename_i r1 hr1 r2 hr2
          rw [ix.2.2.2.2.1] at hr1
          rw [ix.2.2.2.2.2] at hr2
          have m1 : r1 ∈ R' ++ ws := List.mem_append_left _ (List.mem_of_getElem? hr1)
          have m2 : r2 ∈ R' ++ ws := List.mem_append_left _ (List.mem_of_getElem? hr2)
          have n1 : (r1.1, listOf r1.2.1.toArray r1.2.2.1) ∈ S.map Run.ent ++ (R' ++ ws).map Run.ent := List.mem_append_right _ (List.mem_map_of_mem (f := Run.ent) m1)
          have n2 : (r2.1, listOf r2.2.1.toArray r2.2.2.1) ∈ S.map Run.ent ++ (R' ++ ws).map Run.ent := List.mem_append_right _ (List.mem_map_of_mem (f := Run.ent) m2)
          have g1 := runs_good hRR gl m1
          have g2' := runs_good hRR gl m2
          have l1000 : lq.length ≤ 1000 := Nat.le_trans lenl (by decide)
          refine Mark.of (joined_spec ⟨by assumption, by assumption⟩ F.keep (News.isList N (.tail _ (.tail _ (.tail _ (.tail _ (.tail _ (.tail _ n1))))))) (News.isList N (.tail _ (.tail _ (.tail _ (.tail _ (.tail _ (.tail _ n2))))))) (stay2 hg₀ F.keep)
            (hRR.1 _ m1).1 (hRR.1 _ m2).1 g1.1 g2'.1 (Nat.le_trans g1.2 l1000) (Nat.le_trans g2'.2 l1000) (by walk_at "my depth") (by walk_at "my units") rfl ?_)
          intro a h' tk' vs n' st' ha hget hfr
          have N2 := News.fresh F N st' ha hget
          exact hQ4 _ _ _ _ (S ++ [((a, vs, n', mrg r1.2.2.2 r2.2.2.2) : Run)]) (Fr.stay F st') N2 (List.forall_mem_cons.mpr ⟨.tail _ (.head _), List.forall_mem_cons.mpr ⟨.tail _ (.tail _ (.head _)), List.forall_mem_cons.mpr ⟨.tail _ (.tail _ (.tail _ (.head _))), List.forall_mem_cons.mpr ⟨.tail _ (.tail _ (.tail _ (.tail _ (.head _)))), List.forall_mem_cons.mpr ⟨.tail _ (.tail _ (.tail _ (.tail _ (.tail _ (.head _))))),
              List.forall_mem_cons.mpr ⟨.tail _ (.tail _ (.tail _ (.tail _ (.tail _ (.tail _ (.head _)))))), fun p hp => (List.mem_cons.mp (mem_run hp)).elim (fun e => e ▸ .head _) fun hp => .tail _ (.tail _ (.tail _ (.tail _ (.tail _ (.tail _ (.tail _ hp))))))⟩⟩⟩⟩⟩⟩)
            ⟨off.1, off.2.1, off.2.2.1, off3_run off.2.2.2 ⟨News.ne_fresh N ha (.head _), News.ne_fresh N ha (.tail _ (.head _)), News.ne_fresh N ha (.tail _ (.tail _ (.head _)))⟩⟩ trivial
            (J.snoc hr1 hr2 hfr (mrg_asc g1.1 g2'.1 (hRR.1 _ m1).2 (hRR.1 _ m2).2) (News.ne_fresh N ha (.tail _ (.tail _ (.tail _ (.tail _ (.tail _ (.head _))))))))
        · intro ys S hyl J
          obtain rfl := J.1
          clear F10 N10 hrg
          unfold LCg.FinE
          intro D3 h tk2 F N o3
          dsimp only
          k_steps
          rw [List.length_append] at hRl hRm hgt
          have hal := halves e4 (Int.ofNat_lt.mp hgt) e5 hRm
          have hS2 := J.2.1
          have aL : @Ne Nat h.objs.size (L + 1) := News.ne_fresh N (Heap.get?_none_of_le (Nat.le_refl h.objs.size)) (.tail _ (.tail _ (.tail _ (.head _))))
          refine Mark.of (add_lists F N (News.isList N (.head _)) (News.isList N (.tail _ (.head _))) ?_ (by rw [sizeLine_eq]; simp only [List.length_map]; exact Nat.le_trans (hS2 ▸ hal.2.2.2) (Nat.le_trans lenl (by decide))))
          intro h11 F11 N11
          have sub : ∀ p ∈ (S ++ ws).map Run.ent, p ∈ S.map Run.ent ++ (R' ++ ws).map Run.ent := fun p hp => by
            rw [List.map_append] at hp ⊢
            exact (List.mem_append.mp hp).elim (List.mem_append_left _) fun hp => List.mem_append_right _ (List.mem_append_right _ hp)
          have aT : ∀ p ∈ (S ++ ws).map Run.ent, @Ne Nat p.1 h.objs.size := fun p hp => Ne.symm (News.ne_fresh N (Heap.get?_none_of_le (Nat.le_refl h.objs.size)) (.tail _ (.tail _ (.tail _ (.tail _ (sub p hp))))))
          have oR2 : ∀ p ∈ (S ++ ws).map Run.ent, @Ne Nat p.1 (L + 1) := fun p hp => by
            rw [List.map_append] at hp
            exact (List.mem_append.mp hp).elim (J.2.2.1.off p) fun hp => oR p (by rw [List.map_append]; exact List.mem_append_right _ hp)
          have hRR2 := J.runs hRR (hS2 ▸ hal.1)
          generalize h.objs.size = b at N11 aL aT
          have N12 : News s.heap L h11 ((b, listOf (refs (S ++ ws)).toArray 0) :: (L + 1, oc) :: (S ++ ws).map Run.ent) := List.forall_mem_cons.mpr ⟨by have := N11 _ (.head _); simpa [refs] using this, List.forall_mem_cons.mpr ⟨N11 _ (.tail _ (.tail _ (.tail _ (.tail _ (.head _))))), fun p hp => N11 _ (.tail _ (.tail _ (.tail _ (.tail _ (.tail _ (sub p hp))))))⟩⟩
          clear N N11 F
          dsimp only
          k_steps
          rename_i h13 oc3 F13 N13 d13
          have hl3 : (S ++ ws).length = R'.length / 2 + ws.length := by rw [List.length_append, hS2]
          exact hQ2 (b, _, oc3, S ++ ws) _ _ _ ⟨d13, hRR2, oR2, aT, aL, hl3 ▸ hal.2.2.1, hl3 ▸ hal.2.2.2⟩ (by dsimp only; rw [hl3, List.length_append]; exact hal.2.1) F13 N13
    · rename_i hge r hr
      have e := runs_one hRR hr fun h => hge (Int.ofNat_lt.mpr h)
      have hn := N5 _ (.tail _ (.tail _ (List.mem_map_of_mem (f := Run.ent) (List.mem_of_getElem? hr))))
      exact hQ _ _ (ret _ _ _ _ _ _ F5.keep hn.2.2 hn.1 e.1 e.2.1 e.2.2)
end
/-- what a row's order asks: the answers are those of a rank -/
def Asks (cmp : Nat → Nat → (Bool → Shared → Prop) → Shared → Prop) (r : Nat → Int) (n : Nat) (I : Shared → Prop) : Prop :=
  ∀ i j C s, i < n → j < n → I s → (∀ s', I s' → C (decide (r i < r j)) s') → cmp i j C s
def Rk (r : Nat → Int) (p : Array Nat) (k : Nat) : Int := r (p.getD k 0)
def Up (r : Nat → Int) (p : Array Nat) (k : Nat) : Prop := ∀ i j, i ≤ j → j < k → Rk r p i ≤ Rk r p j
def Dn (r : Nat → Int) (p : Array Nat) (k : Nat) : Prop := ∀ i j, i ≤ j → j < k → Rk r p j ≤ Rk r p i
def Ix (n : Nat) (p : Array Nat) : Prop := p.Perm (List.range n).toArray
theorem Ix.size {n : Nat} {p : Array Nat} (h : Ix n p) : p.size = n := by simpa using h.size_eq
theorem Ix.lt {n : Nat} {p : Array Nat} (h : Ix n p) (h0 : 0 < n) (k : Nat) : p.getD k 0 < n := by
  by_cases hk : k < p.size
  · have e : p.getD k 0 = p[k] := by simp [Array.getD, hk]
    have hm : p[k] ∈ (List.range n).toArray.toList := (Array.perm_iff_toList_perm.mp h).mem_iff.mp (by simp)
    rw [e]; simpa using hm
  · have e : p.getD k 0 = 0 := by simp [Array.getD, hk]
    rw [e]; exact h0
theorem Ix.rev {n : Nat} {p : Array Nat} (h : Ix n p) (i j : Nat) : Ix n (kas_rev p i j) := (mirror_perm _ _ _ _).trans h
theorem Ix.bub {n : Nat} {p : Array Nat} (h : Ix n p) (i j : Nat) : Ix n (bubble p i j) := (bubble_perm _ _ _).trans h
theorem Rk_congr {r : Nat → Int} {p q : Array Nat} {i j : Nat} (h : p[i]? = q[j]?) : Rk r p i = Rk r q j := by
  unfold Rk
  have e : ∀ (p : Array Nat) (i : Nat), p.getD i 0 = (p[i]?).getD 0 := fun p i => by simp [Array.getD_eq_getD_getElem?]
  rw [e, e, h]
theorem Rk_rev {r : Nat → Int} {p : Array Nat} {i j : Nat} (hj : j ≤ p.size) (k : Nat) : Rk r (kas_rev p i j) k = if i ≤ k ∧ k < j then Rk r p (i + j - 1 - k) else Rk r p k := by
  have e := getElem?_mirror_all (i := i) hj k
  by_cases h : i ≤ k ∧ k < j
  · rw [if_pos h] at e ⊢; exact Rk_congr e
  · rw [if_neg h] at e ⊢; exact Rk_congr e
theorem rev_idx {i j k : Nat} (h1 : i ≤ k) (h2 : k < j) : i ≤ i + j - 1 - k ∧ i + j - 1 - k < j :=
  ⟨Nat.le_sub_of_add_le (Nat.le_sub_one_of_lt (Nat.add_lt_add_left h2 i)), Nat.sub_lt_left_of_lt_add (Nat.le_trans (Nat.le_sub_one_of_lt h2) (Nat.sub_le_sub_right (Nat.le_add_left j i) 1))
    (Nat.lt_of_lt_of_le (Nat.sub_lt (Nat.add_pos_right i (Nat.zero_lt_of_lt h2)) Nat.one_pos) (Nat.add_le_add_right h1 j))⟩
theorem pred_idx {i j : Nat} (h : i < j) : i ≤ j - 1 ∧ j - 1 < j := ⟨Nat.le_sub_one_of_lt h, Nat.sub_lt (Nat.zero_lt_of_lt h) Nat.one_pos⟩
theorem Rk_rev_same {r : Nat → Int} {p : Array Nat} {i j : Nat} (hj : j ≤ p.size) (he : ∀ k, i ≤ k → k < j → Rk r p k = Rk r p (j - 1)) (k : Nat) : Rk r (kas_rev p i j) k = Rk r p k := by
  rw [Rk_rev hj]
  split
  · rename_i h
    rw [he _ (rev_idx h.1 h.2).1 (rev_idx h.1 h.2).2, he k h.1 h.2]
  · rfl
theorem Rk_bub {r : Nat → Int} {p : Array Nat} {src d : Nat} (hs : src < p.size) (hd : d ≤ src) (k : Nat) : Rk r (bubble p src d) k = if k = src - d then Rk r p src else if src - d < k ∧ k ≤ src then Rk r p (k - 1) else Rk r p k := by
  have e := getElem?_bubble hs d hd k
  by_cases h1 : k = src - d
  · rw [if_pos h1] at e ⊢; exact Rk_congr e
  · rw [if_neg h1] at e ⊢
    by_cases h2 : src - d < k ∧ k ≤ src
    · rw [if_pos h2] at e ⊢; exact Rk_congr e
    · rw [if_neg h2] at e ⊢; exact Rk_congr e
theorem Up.snoc {r : Nat → Int} {p : Array Nat} {k : Nat} (h : Up r p k) (e : 0 < k → Rk r p (k - 1) ≤ Rk r p k) : Up r p (k + 1) := by
  intro i j hij hj
  by_cases h1 : j < k
  · exact h i j hij h1
  · obtain rfl : j = k := Nat.le_antisymm (Nat.le_of_lt_succ hj) (Nat.not_lt.mp h1)
    by_cases h2 : i = j
    · rw [h2]; exact Int.le_refl _
    · have lt := Nat.lt_of_le_of_ne hij h2
      exact Int.le_trans (h i (j - 1) (pred_idx lt).1 (pred_idx lt).2) (e (Nat.zero_lt_of_lt lt))
theorem Dn.snoc {r : Nat → Int} {p : Array Nat} {k : Nat} (h : Dn r p k) (e : 0 < k → Rk r p k ≤ Rk r p (k - 1)) : Dn r p (k + 1) := by
  intro i j hij hj
  by_cases h1 : j < k
  · exact h i j hij h1
  · obtain rfl : j = k := Nat.le_antisymm (Nat.le_of_lt_succ hj) (Nat.not_lt.mp h1)
    by_cases h2 : i = j
    · rw [h2]; exact Int.le_refl _
    · have lt := Nat.lt_of_le_of_ne hij h2
      exact Int.le_trans (e (Nat.zero_lt_of_lt lt)) (h i (j - 1) (pred_idx lt).1 (pred_idx lt).2)
theorem one_eq {i j k : Nat} (h : k ≤ 1) (hij : i ≤ j) (hj : j < k) : i = j := Nat.le_antisymm hij ((Nat.lt_one_iff.mp (Nat.lt_of_lt_of_le hj h)).symm ▸ Nat.zero_le i)
theorem Up.one {r : Nat → Int} {p : Array Nat} {k : Nat} (h : k ≤ 1) : Up r p k := fun i j hij hj => one_eq h hij hj ▸ Int.le_refl _
theorem Dn.one {r : Nat → Int} {p : Array Nat} {k : Nat} (h : k ≤ 1) : Dn r p k := fun i j hij hj => one_eq h hij hj ▸ Int.le_refl _
theorem Dn.of {r : Nat → Int} {p q : Array Nat} {k : Nat} (h : Dn r p k) (e : ∀ i, Rk r q i = Rk r p i) : Dn r q k := fun i j hij hj => by rw [e, e]; exact h i j hij hj

section
variable {cmp : Nat → Nat → (Bool → Shared → Prop) → Shared → Prop} {r : Nat → Int} {n : Nat} {I : Shared → Prop}
theorem asc_ {Q : Nat → Shared → Prop} (hA : Asks cmp r n I) (h0 : 0 < n) {p : Array Nat} (hp : Ix n p) : ∀ (f a : Nat) (s : Shared), 1 ≤ a → Up r p a → I s →
    (∀ m s', I s' → a ≤ m → m ≤ a + f → Up r p m → (m = a + f ∨ Rk r p m < Rk r p (m - 1)) → Q m s') → (kas_asc p f a).kasWp cmp Q s
  | 0, a, s, _, hs, hI, h => h a s hI (Nat.le_refl _) (Nat.le_refl _) hs (.inl rfl)
  | f + 1, a, s, h1, hs, hI, h => by
    refine hA _ _ _ s (hp.lt h0 _) (hp.lt h0 _) hI fun s' hI' => ?_
    dsimp only
    have e := Nat.succ_add_eq_add_succ a f
    by_cases hl : r (p.getD a 0) < r (p.getD (a - 1) 0)
    · rw [decide_eq_true hl, if_pos rfl]
      exact h a s' hI' (Nat.le_refl _) (Nat.le_add_right _ _) hs (.inr hl)
    · rw [decide_eq_false hl, if_neg Bool.false_ne_true]
      exact asc_ hA h0 hp f (a + 1) s' (Nat.le_add_left 1 a) (hs.snoc fun _ => Int.not_lt.mp hl) hI' fun m s2 q1 q2 q3 q4 q5 => h m s2 q1 (Nat.le_of_succ_le q2) (Nat.le_trans q3 (Nat.le_of_eq e)) q4 (q5.imp (fun e' => e'.trans e) id)
theorem desc_ {Q : Array Nat × Nat × Nat → Shared → Prop} (hA : Asks cmp r n I) (h0 : 0 < n) : ∀ (f : Nat) (p : Array Nat) (x q : Nat) (s : Shared), Ix n p → 1 ≤ x → x + f ≤ n → Dn r p x → q + 1 ≤ x → (∀ i, x - (q + 1) ≤ i → i < x → Rk r p i = Rk r p (x - 1)) → I s →
    (∀ p' m q' s', I s' → Ix n p' → x ≤ m → m ≤ x + f → Dn r p' m → q' + 1 ≤ m → (∀ i, m - (q' + 1) ≤ i → i < m → Rk r p' i = Rk r p' (m - 1)) → Q (p', m, q') s') → (kas_desc f p x q).kasWp cmp Q s
  | 0, p, x, q, s, hp, _, _, hs, hq, he, hI, h => h p x q s hI hp (Nat.le_refl _) (Nat.le_refl _) hs hq he
  | f + 1, p, x, q, s, hp, h1, hf, hs, hq, he, hI, h => by
    refine hA _ _ _ s (hp.lt h0 _) (hp.lt h0 _) hI fun s' hI' => ?_
    dsimp only
    have e := Nat.succ_add_eq_add_succ x f
    have hf' : x + 1 + f ≤ n := Nat.le_trans (Nat.le_of_eq e) hf
    have hsz : x ≤ p.size := by rw [hp.size]; exact Nat.le_trans (Nat.le_add_right _ _) hf
    have same : ∀ q : Array Nat, ∀ i, x + 1 - (0 + 1) ≤ i → i < x + 1 → Rk r q i = Rk r q (x + 1 - 1) := fun q i h2 h3 => congrArg (Rk r q) (Nat.le_antisymm (Nat.le_of_lt_succ h3) h2)
    have go : ∀ p' m q' s2, I s2 → Ix n p' → x + 1 ≤ m → m ≤ x + 1 + f → Dn r p' m → q' + 1 ≤ m → (∀ i, m - (q' + 1) ≤ i → i < m → Rk r p' i = Rk r p' (m - 1)) → Q (p', m, q') s2 :=
      fun p' m q' s2 z1 z2 z3 z4 => h p' m q' s2 z1 z2 (Nat.le_of_succ_le z3) (Nat.le_trans z4 (Nat.le_of_eq e))
    by_cases hl : r (p.getD x 0) < r (p.getD (x - 1) 0)
    · rw [decide_eq_true hl, if_pos rfl]
      have step : Dn r p (x + 1) := hs.snoc fun _ => Int.le_of_lt hl
      split
      · exact desc_ hA h0 f _ (x + 1) 0 s' (hp.rev _ _) (Nat.le_add_left 1 x) hf' (step.of (Rk_rev_same hsz he)) (Nat.le_add_left 1 x) (same _) hI' go
      · exact desc_ hA h0 f p (x + 1) 0 s' hp (Nat.le_add_left 1 x) hf' step (Nat.le_add_left 1 x) (same _) hI' go
    · rw [decide_eq_false hl, if_neg Bool.false_ne_true]
      refine hA _ _ _ s' (hp.lt h0 _) (hp.lt h0 _) hI' fun s2 hI2 => ?_
      dsimp only
      by_cases hg : r (p.getD (x - 1) 0) < r (p.getD x 0)
      · rw [decide_eq_true hg, if_pos rfl]
        exact h p x q s2 hI2 hp (Nat.le_refl _) (Nat.le_add_right _ _) hs hq he
      · rw [decide_eq_false hg, if_neg Bool.false_ne_true]
        have eqx : Rk r p x = Rk r p (x - 1) := Int.le_antisymm (Int.not_lt.mp hg) (Int.not_lt.mp hl)
        refine desc_ hA h0 f p (x + 1) (q + 1) s2 hp (Nat.le_add_left 1 x) hf' (hs.snoc fun _ => Int.le_of_eq eqx) (Nat.succ_le_succ hq) (fun i z1 z2 => ?_) hI2 go
        show Rk r p i = Rk r p x
        by_cases hix : i = x
        · rw [hix]
        · rw [eqx]; exact he i (Nat.add_sub_add_right x 1 (q + 1) ▸ z1) (Nat.lt_of_le_of_ne (Nat.le_of_lt_succ z2) hix)
theorem tail3_ {Q : Nat × Array Nat → Shared → Prop} (hA : Asks cmp r n I) (h0 : 0 < n) {p : Array Nat} {x : Nat} {s : Shared} (hp : Ix n p) (h1 : 1 ≤ x) (hx : x ≤ n) (hs : Dn r p x) (hI : I s)
    (h : ∀ m p' s', I s' → Ix n p' → 1 ≤ m → m ≤ n → Up r p' m → Q (m, p') s') : (kas_tail3 x n p).kasWp cmp Q s := by
  unfold kas_tail3
  rw [KasT.kasWp_bind]
  have hsz : x ≤ p.size := by rw [hp.size]; exact hx
  refine asc_ hA h0 (hp.rev 0 x) (n - x) x s h1 (fun i j hij hj => ?_) hI fun m s' z1 z2 z3 z4 _ => h m _ s' z1 (hp.rev _ _) (Nat.le_trans h1 z2) (Nat.le_trans z3 (Nat.le_of_eq (Nat.add_sub_of_le hx))) z4
  have hi := Nat.lt_of_le_of_lt hij hj
  rw [Rk_rev hsz, Rk_rev hsz, if_pos ⟨Nat.zero_le _, hi⟩, if_pos ⟨Nat.zero_le _, hj⟩]
  exact hs _ _ (Nat.sub_le_sub_left hij _) (rev_idx (Nat.zero_le _) hi).2
theorem descPart_ {Q : Nat × Array Nat → Shared → Prop} (hA : Asks cmp r n I) (h0 : 0 < n) {p : Array Nat} {x : Nat} {s : Shared} (hp : Ix n p) (hx : x + 1 ≤ n) (hs : Dn r p (x + 1)) (hI : I s)
    (h : ∀ m p' s', I s' → Ix n p' → 1 ≤ m → m ≤ n → Up r p' m → Q (m, p') s') : (kas_descPart x n p).kasWp cmp Q s := by
  unfold kas_descPart
  rw [KasT.kasWp_bind]
  have e := Nat.le_of_eq (Nat.add_sub_of_le hx)
  refine desc_ hA h0 (n - (x + 1)) p (x + 1) 0 s hp (Nat.le_add_left 1 x) e hs (Nat.le_add_left 1 x) (fun i z1 z2 => congrArg (Rk r p) (Nat.le_antisymm (Nat.le_of_lt_succ z2) z1)) hI fun p' m q' s' hI' hp' z1 z2 z3 z4 z5 => ?_
  dsimp only
  have hmn := Nat.le_trans z2 e
  have hsz : m ≤ p'.size := by rw [hp'.size]; exact hmn
  have hm1 : 1 ≤ m := Nat.le_trans (Nat.le_add_left 1 q') z4
  split
  · exact tail3_ hA h0 (hp'.rev _ _) hm1 hmn (z3.of (Rk_rev_same hsz z5)) hI' h
  · exact tail3_ hA h0 hp' hm1 hmn z3 hI' h
theorem count_ {Q : Nat × Array Nat → Shared → Prop} (hA : Asks cmp r n I) (h0 : 0 < n) {p : Array Nat} {s : Shared} (hp : Ix n p) (hI : I s)
    (h : ∀ m p' s', I s' → Ix n p' → 1 ≤ m → m ≤ n → Up r p' m → Q (m, p') s') : (kas_count n p).kasWp cmp Q s := by
  unfold kas_count
  rw [KasT.kasWp_bind]
  refine asc_ hA h0 hp (n - 1) 1 s (Nat.le_refl _) (Up.one (Nat.le_refl _)) hI fun m s' hI' hm1 hm2 hu hor => ?_
  have e := Nat.add_sub_of_le h0
  have hmn := Nat.le_trans hm2 (Nat.le_of_eq e)
  by_cases hne : m = n
  · rw [if_pos (beq_iff_eq.mpr hne)]
    exact h m p s' hI' hp hm1 hmn hu
  · rw [if_neg fun h => hne (beq_iff_eq.mp h)]
    have hlt : Rk r p m < Rk r p (m - 1) := hor.resolve_left fun h => hne (h.trans e)
    have hsz : m ≤ p.size := by rw [hp.size]; exact hmn
    have hm := Nat.lt_of_le_of_ne hmn hne
    split
    · refine hA _ _ _ s' (hp.lt h0 _) (hp.lt h0 _) hI' fun s2 hI2 => ?_
      dsimp only
      by_cases hr : r (p.getD 0 0) < r (p.getD (m - 1) 0)
      · rw [decide_eq_true hr, if_pos rfl]
        exact h m p s2 hI2 hp hm1 hmn hu
      · rw [decide_eq_false hr, if_neg Bool.false_ne_true]
        have hall : ∀ k, 0 ≤ k → k < m → Rk r p k = Rk r p (m - 1) := fun k _ hk =>
          Int.le_antisymm (hu k (m - 1) (pred_idx hk).1 (pred_idx hk).2) (Int.le_trans (Int.not_lt.mp hr) (hu 0 k (Nat.zero_le _) hk))
        refine descPart_ hA h0 (hp.rev _ _) hm ?_ hI2 h
        refine Dn.of (p := p) (Dn.snoc (fun i j hij hj => ?_) fun _ => Int.le_of_lt hlt) (Rk_rev_same hsz hall)
        rw [hall i (Nat.zero_le _) (Nat.lt_of_le_of_lt hij hj), hall j (Nat.zero_le _) hj]; exact Int.le_refl _
    · exact descPart_ hA h0 hp hm (Dn.snoc (Dn.one (Nat.not_lt.mp (by assumption))) fun _ => Int.le_of_lt hlt) hI' h
theorem mid_idx {l u f : Nat} (h : l < u) (hf : u - l ≤ f + 1) : l ≤ (l + u) / 2 ∧ (l + u) / 2 < u ∧ (l + u) / 2 - l ≤ f ∧ u - ((l + u) / 2 + 1) ≤ f := by omega
theorem place_ {Q : Nat → Shared → Prop} (hA : Asks cmp r n I) (h0 : 0 < n) {p : Array Nat} {k : Nat} (hp : Ix n p) (hs : Up r p k) : ∀ (f l u : Nat) (s : Shared), l ≤ u → u ≤ k → u - l ≤ f → (∀ i, i < l → Rk r p i ≤ Rk r p k) → (∀ i, u ≤ i → i < k → Rk r p k < Rk r p i) → I s →
    (∀ l s', I s' → l ≤ k → (∀ i, i < l → Rk r p i ≤ Rk r p k) → (∀ i, l ≤ i → i < k → Rk r p k < Rk r p i) → Q l s') → (kas_place p k f l u).kasWp cmp Q s
  | 0, l, u, s, hlu, huk, hf, hlo, hhi, hI, h => h l s hI (Nat.le_trans hlu huk) hlo (by rw [Nat.le_antisymm hlu (Nat.sub_eq_zero_iff_le.mp (Nat.le_zero.mp hf))]; exact hhi)
  | f + 1, l, u, s, hlu, huk, hf, hlo, hhi, hI, h => by
    unfold kas_place
    split
    · exact h l s hI (Nat.le_trans hlu huk) hlo (by rw [Nat.le_antisymm hlu (by assumption)]; exact hhi)
    · have md := mid_idx (Nat.not_le.mp (by assumption)) hf
      refine hA _ _ _ s (hp.lt h0 _) (hp.lt h0 _) hI fun s' hI' => ?_
      dsimp only
      have mk := Nat.lt_of_lt_of_le md.2.1 huk
      by_cases hl : r (p.getD k 0) < r (p.getD ((l + u) / 2) 0)
      · rw [decide_eq_true hl, if_pos rfl]
        exact place_ hA h0 hp hs f l ((l + u) / 2) s' md.1 (Nat.le_of_lt mk) md.2.2.1 hlo (fun i z1 z2 => Int.lt_of_lt_of_le hl (hs _ _ z1 z2)) hI' h
      · rw [decide_eq_false hl, if_neg Bool.false_ne_true]
        exact place_ hA h0 hp hs f ((l + u) / 2 + 1) u s' md.2.1 huk md.2.2.2 (fun i z1 => Int.le_trans (hs i ((l + u) / 2) (Nat.le_of_lt_succ z1) mk) (Int.not_lt.mp hl)) hhi hI' h
theorem bub_up {p : Array Nat} {k l : Nat} (hks : k < p.size) (hl : l ≤ k) (hs : Up r p k) (hlo : ∀ i, i < l → Rk r p i ≤ Rk r p k) (hhi : ∀ i, l ≤ i → i < k → Rk r p k < Rk r p i) : Up r (bubble p k (k - l)) (k + 1) := by
  intro i j hij hj
  have hj' := Nat.le_of_lt_succ hj
  rw [Rk_bub hks (Nat.sub_le _ _), Rk_bub hks (Nat.sub_le _ _), Nat.sub_sub_self hl]
  have dn : l < j → l ≤ j - 1 ∧ j - 1 < k := fun h => ⟨(pred_idx h).1, Nat.lt_of_lt_of_le (pred_idx h).2 hj'⟩
  by_cases h1 : i = l
  · rw [if_pos h1]
    by_cases h2 : j = l
    · rw [if_pos h2]; exact Int.le_refl _
    · have lj := Nat.lt_of_le_of_ne (h1 ▸ hij) (Ne.symm h2)
      rw [if_neg h2, if_pos ⟨lj, hj'⟩]; exact Int.le_of_lt (hhi _ (dn lj).1 (dn lj).2)
  · rw [if_neg h1]
    by_cases h3 : l < i ∧ i ≤ k
    · have lj := Nat.lt_of_lt_of_le h3.1 hij
      rw [if_pos h3, if_neg (Nat.ne_of_gt lj), if_pos ⟨lj, hj'⟩]; exact hs _ _ (Nat.sub_le_sub_right hij 1) (dn lj).2
    · have hil : i < l := Nat.lt_of_le_of_ne (Nat.not_lt.mp fun h => h3 ⟨h, Nat.le_trans hij hj'⟩) h1
      rw [if_neg h3]
      by_cases h2 : j = l
      · rw [if_pos h2]; exact hlo _ hil
      · rw [if_neg h2]
        by_cases h4 : l < j ∧ j ≤ k
        · rw [if_pos h4]; exact hs _ _ (pred_idx (Nat.lt_trans hil h4.1)).1 (dn h4.1).2
        · rw [if_neg h4]; exact hs _ _ hij (Nat.lt_of_lt_of_le (Nat.lt_of_le_of_ne (Nat.not_lt.mp fun h => h4 ⟨h, hj'⟩) h2) hl)
theorem bin_ {Q : Array Nat → Shared → Prop} (hA : Asks cmp r n I) (h0 : 0 < n) : ∀ (f : Nat) (p : Array Nat) (k : Nat) (s : Shared), Ix n p → k + f = n → Up r p k → I s → (∀ p' s', I s' → Ix n p' → Up r p' n → Q p' s') → (kas_bin f p k).kasWp cmp Q s
  | 0, p, k, s, hp, hk, hs, hI, h => h p s hI hp ((show k = n from hk) ▸ hs)
  | f + 1, p, k, s, hp, hk, hs, hI, h => by
    unfold kas_bin
    rw [KasT.kasWp_bind]
    refine place_ hA h0 hp hs k 0 k s (Nat.zero_le _) (Nat.le_refl _) (Nat.le_refl _) (fun i z => absurd z (Nat.not_lt_zero _)) (fun i z1 z2 => absurd z2 (Nat.not_lt.mpr z1)) hI fun l s' hI' hl hlo hhi => ?_
    exact bin_ hA h0 f _ (k + 1) s' (hp.bub _ _) ((Nat.succ_add_eq_add_succ k f).trans hk) (bub_up (by rw [hp.size, ← hk]; exact Nat.lt_add_of_pos_right (Nat.succ_pos f)) hl hs hlo hhi) hI' h
theorem sort_ {Q : Array Nat → Shared → Prop} (hA : Asks cmp r n I) (h0 : 0 < n) {s : Shared} (hI : I s) (h : ∀ p' s', I s' → Ix n p' → Up r p' n → Q p' s') : (kas_sort n).kasWp cmp Q s := by
  unfold kas_sort
  rw [KasT.kasWp_bind]
  refine count_ hA h0 (Array.Perm.refl _) hI fun m p' s' hI' hp hm1 hm2 hu => ?_
  dsimp only
  split
  · rw [Nat.max_eq_left hm1]
    exact bin_ hA h0 _ _ _ s' hp (Nat.add_sub_of_le hm2) hu hI' h
  · exact h p' s' hI' hp (Nat.le_antisymm hm2 (Nat.not_lt.mp (by assumption)) ▸ hu)
end
/-- a function that a function makes: entered, with the cells it closes over laid aside -/
theorem enterN {prog : Program} {w : World} {A : Around} {E : Value → Shared → Prop} {s : Shared} {K : Frag} {name qual : Str} {params : Arguments} {body : List Stmt} {scope : Scope} {cl : List (Str × Addr)}
    {doc pm ctv : Value} {f c' : Addr} {args : List Value} {binds : List (Str × Value)} {Q : Value → Shared → Prop}
    {mg mb : Str → Option Value} {p : Program} {loose : List Str} {mean : ExcName → Option Value} {c : Heap}
    (C : Amb K mg mb p loose mean c) (st : c.StaysIn s.heap) (news : List (Addr × Obj)) (hn : ∀ q ∈ news, s.heap.get? q.1 = some q.2) (hc : ∀ q ∈ news, c.get? q.1 = none)
    (ho : s.heap.get? f = some (fnMade name qual params body scope cl doc pm c' ctv)) (hcd : s.heap.CodeRec (.ref c') qual) (hroom : A.depth < recursionLimit)
    (hbind : BindsTo s (fnX name qual params body scope cl .none .none doc pm none (.ref c') ctv) ⟨args, []⟩ binds) (hloc : ∀ y ∈ binds, scope.names.lookup y.1 = some .local)
    (hco : scope.isCoroutine = false) (hgen : scope.isGenerator = false) (hk : scope.kind = .function) (hcell : ∀ x ∈ scope.names, x.2 ≠ .cell)
    (h : ∀ g L h₁, g = hideAll s.heap (news.map (·.1)) → Fr g L h₁ (fun y => binds.reverse.lookup y) → News g L h₁ news → K.In g → Top p loose mean mg mb g → c.StaysIn g →
      wpAny (model prog w) (A.deeper (envX qual scope L f (.ref c') cl)) (execs body (envX qual scope L f (.ref c') cl))
        (fun fl s' => Q (match fl with | .ret v => v | _ => .none) s') (fun _ _ => False) { s with heap := h₁, toks := s.toks + binds.length }) :
    wpAny (model prog w) A (call (.ref f) args []) Q E s := by
  refine wpAny_call ?_
  refine codeAny_call_def (fd := fnX name qual params body scope cl .none .none doc pm none (.ref c') ctv) (body := body) (binds := binds) hroom ho rfl (C.T.nolimit.keeps st) hcd rfl hbind hcell hloc (fun h₁ hns hk₁ => ?_) hco hgen hk
  have sg := stays_hide st hc
  exact wpAny_mono (h _ s.heap.objs.size h₁ rfl ⟨hns, fun b o e => hk₁ b o (of_hideAll _ e), Nat.le_of_eq (hideAll_size _ _)⟩
    (fun q hq => ⟨hk₁ _ _ (hn q hq), Nat.ne_of_lt (Heap.lt_size (hn q hq)), hideAll_none _ (List.mem_map_of_mem hq)⟩) (C.X.keeps sg) (C.T.keeps sg) sg) (fun _ _ x => x) (fun _ _ x => x.elim)

/-- a tuple of two ints, as an object -/
def KeyAt (o : Obj) (k : Int × Int) : Prop := o.cls = .type "tuple" ∧ ∃ t u n, o.data = .seq [.int k.1 t, .int k.2 u].toArray n
theorem ask_keys {prog : Program} {w : World} {A : Around} {E : Value → Shared → Prop} {s : Shared} {a b : Addr} {o o' : Obj} {k k' : Int × Int} {Q : Bool → Shared → Prop} (ha : s.heap.get? a = some o) (hb : s.heap.get? b = some o') (ka : KeyAt o k) (kb : KeyAt o' k')
    (h : ∀ r, (r = true ↔ (k.1 < k'.1 ∨ (k.1 = k'.1 ∧ k.2 < k'.2))) → Q r s) : wpAny (model prog w) A (keyLt' (tuples' true) (.ref a) (.ref b)) Q E s := by
  obtain ⟨_, t, u, n, hd⟩ := ka
  obtain ⟨_, t', u', n', hd'⟩ := kb
  refine kat_lt ha hd hb hd' ?_
  refine kat_cons (wpAny_eqBool_int ?_)
  by_cases e : k.1 = k'.1
  · rw [show (k.1 == k'.1) = true by simpa using e]
    refine kat_yes (kat_cons (wpAny_eqBool_int ?_))
    by_cases e2 : k.2 = k'.2
    · rw [show (k.2 == k'.2) = true by simpa using e2]
      refine kat_yes (kat_nil (h _ ?_))
      simp [e, e2]
    · rw [show (k.2 == k'.2) = false by simpa using e2]
      refine kat_no (kat_one _ _ (lt_int ?_))
      exact h _ (by simp [e])
  · rw [show (k.1 == k'.1) = false by simpa using e]
    refine kat_no (oneLt_int (h _ ?_))
    simp [e]

theorem pick_fracs {g : Heap} {vs : List Value} {qs : List (Int × Int)} (x : FracsAt g vs qs) : ∀ l : List Nat, (∀ i ∈ l, i < qs.length) → FracsAt g (l.map fun i => vs.getD i Value.none) (l.map fun i => qs.getD i (0, 0))
  | [], _ => .nil
  | i :: l, h => by
    have hi := h i (.head _)
    obtain ⟨v, hv, hf⟩ := x.get hi
    refine .cons ?_ (pick_fracs x l fun j hj => h j (.tail _ hj))
    show FracAt g (vs.getD i Value.none) (qs.getD i (0, 0))
    rw [List.getD_eq_getElem?_getD, List.getD_eq_getElem?_getD, hv, List.getElem?_eq_getElem hi]
    exact hf
theorem pick_perm {α : Type} {d : α} {qs : List α} {p : Array Nat} (hp : Ix qs.length p) : (p.toList.map fun i => qs.getD i d).Perm qs := by
  have h1 : p.toList.Perm (List.range qs.length) := Array.perm_iff_toList_perm.mp hp
  refine (h1.map _).trans ?_
  have e : (List.range qs.length).map (fun i => qs.getD i d) = qs := by
    apply List.ext_getElem (by simp)
    intro i h2 h3
    simp [h3]
  rw [e]
theorem pick_sorted {α : Type} {d : α} {R : α → α → Prop} {qs : List α} {p : Array Nat} {r : Nat → Int} (hp : Ix qs.length p) (hu : Up r p qs.length)
    (h : ∀ i j, i < qs.length → j < qs.length → r i ≤ r j → R (qs.getD i d) (qs.getD j d)) : (p.toList.map fun i => qs.getD i d).Pairwise R := by
  rw [List.pairwise_map, List.pairwise_iff_getElem]
  intro i j hi hj hij
  have hz := hp.size
  rw [Array.length_toList] at hi hj
  have e : ∀ k (hk : k < p.size), p.getD k 0 = p[k] := fun k hk => by simp [Array.getD, hk]
  have h2 := hu i j (Nat.le_of_lt hij) (by omega)
  unfold Rk at h2
  have hl : ∀ k, k < p.size → p.getD k 0 < qs.length := fun k hk => hp.lt (by omega) k
  have a1 := hl i hi
  have a2 := hl j hj
  rw [e i hi] at h2 a1
  rw [e j hj] at h2 a2
  simpa using h _ _ a1 a2 h2

/-- one number for two -/
def rankK (B : Int) (k : Int × Int) : Int := k.1 * B + k.2
theorem rank_iff {B : Int} {k k' : Int × Int} (h1 : 2 * k.2 < B) (h2 : -B < 2 * k.2) (h3 : 2 * k'.2 < B) (h4 : -B < 2 * k'.2) : rankK B k < rankK B k' ↔ (k.1 < k'.1 ∨ (k.1 = k'.1 ∧ k.2 < k'.2)) := by
  unfold rankK
  have hB : 0 ≤ B := by omega
  constructor
  · intro h
    rcases Int.lt_trichotomy k.1 k'.1 with e | e | e
    · exact .inl e
    · rw [e] at h; exact .inr ⟨e, by omega⟩
    · have := Int.mul_le_mul_of_nonneg_right (show k'.1 + 1 ≤ k.1 by omega) hB
      rw [Int.add_mul] at this
      omega
  · rintro (e | ⟨e, h⟩)
    · have := Int.mul_le_mul_of_nonneg_right (show k.1 + 1 ≤ k'.1 by omega) hB
      rw [Int.add_mul] at this
      omega
    · rw [e]; omega

def keyOf (S : Int) (q : Int × Int) : Int × Int := if q.2 = 0 then (q.1, 0) else (0, q.1 * S.fdiv q.2)
theorem key_bound {S : Int} {q : Int × Int} (h0 : 0 < S) (hS : small S) (g : good q) : 2 * (keyOf S q).2 < 2 ^ 4002 ∧ -(2 ^ 4002) < 2 * (keyOf S q).2 := by
  have hb : (0 : Int) < 2 ^ 4002 := Int.pow_pos (by decide)
  unfold keyOf
  split
  · exact ⟨by show 2 * (0 : Int) < _; omega, by show _ < 2 * (0 : Int); omega⟩
  · rename_i hq
    have hq2 : 0 < q.2 := by have := g.2.2.1; omega
    have e2 := Int.fdiv_eq_ediv_of_nonneg S (Int.le_of_lt hq2)
    have b1 : 0 ≤ S / q.2 := Int.ediv_nonneg (Int.le_of_lt h0) (Int.le_of_lt hq2)
    have b2 : S / q.2 ≤ S := Int.ediv_le_self _ (Int.le_of_lt h0)
    have s1 : (q.1.natAbs) * (S / q.2).natAbs ≤ 2 ^ 2000 * 2 ^ 2000 := Nat.mul_le_mul (Nat.le_of_lt g.1) (Nat.le_of_lt (Nat.lt_of_le_of_lt (by omega) hS))
    rw [← Int.natAbs_mul, ← Nat.pow_add] at s1
    have s2 : (2 : Nat) ^ (2000 + 2000) * 2 < 2 ^ 4002 := by
      rw [show (4002 : Nat) = 2000 + 2000 + 2 from rfl, Nat.pow_add _ (2000 + 2000) 2]
      exact Nat.mul_lt_mul_of_pos_left (by decide) (Nat.pow_pos (by decide))
    have s3 : ((2 ^ 4002 : Nat) : Int) = 2 ^ 4002 := Int.natCast_pow 2 4002
    show 2 * (q.1 * S.fdiv q.2) < _ ∧ _
    rw [e2]
    generalize (2 : Nat) ^ (2000 + 2000) = X at s1 s2
    generalize (2 : Nat) ^ 4002 = Y at s2 s3
    rw [← s3]
    show _ ∧ -(Y : Int) < 2 * (q.1 * (S / q.2))
    generalize q.1 * (S / q.2) = z at s1
    omega
theorem key_le {S : Int} {a b : Int × Int} (h0 : 0 < S) (hS : small S) (ga : good a) (gb : good b) (fa : a.2 = 0 ∨ S % a.2 = 0) (fb : b.2 = 0 ∨ S % b.2 = 0)
    (h : rankK (2 ^ 4002) (keyOf S a) ≤ rankK (2 ^ 4002) (keyOf S b)) : leF a b = true := by
  have ka := key_bound h0 hS ga
  have kb := key_bound h0 hS gb
  have h' : ¬ ((keyOf S b).1 < (keyOf S a).1 ∨ ((keyOf S b).1 = (keyOf S a).1 ∧ (keyOf S b).2 < (keyOf S a).2)) := fun e => by
    have := (rank_iff kb.1 kb.2 ka.1 ka.2).mpr e
    omega
  clear h ka kb
  have u : under b a = false := by
    unfold keyOf at h'
    unfold under
    by_cases ea : a.2 = 0
    · by_cases eb : b.2 = 0
      · simp only [ea, eb, if_true, or_true, decide_eq_false_iff_not] at h' ⊢; omega
      · simp only [ea, eb, if_true, if_false, or_true, decide_eq_false_iff_not] at h' ⊢; omega
    · by_cases eb : b.2 = 0
      · simp only [ea, eb, if_true, if_false, true_or, decide_eq_false_iff_not] at h' ⊢; omega
      · rw [if_neg ea, if_neg eb] at h'
        simp only [ea, eb, or_self, if_false, decide_eq_false_iff_not]
        have pa : 0 < a.2 := by have := ga.2.2.1; omega
        have pb : 0 < b.2 := by have := gb.2.2.1; omega
        have ua := Int.ediv_mul_cancel_of_emod_eq_zero (fa.resolve_left ea)
        have ub := Int.ediv_mul_cancel_of_emod_eq_zero (fb.resolve_left eb)
        rw [Int.fdiv_eq_ediv_of_nonneg S (Int.le_of_lt pa), Int.fdiv_eq_ediv_of_nonneg S (Int.le_of_lt pb)] at h'
        have h2 : a.1 * (S / a.2) ≤ b.1 * (S / b.2) := Int.not_lt.mp fun e => h' (.inr ⟨rfl, e⟩)
        have h3 := Int.mul_le_mul_of_nonneg_right h2 (Int.le_of_lt (Int.mul_pos pa pb))
        have e1 : a.1 * (S / a.2) * (a.2 * b.2) = a.1 * b.2 * S := by
          rw [← Int.mul_assoc, Int.mul_assoc a.1, ua, Int.mul_right_comm]
        have e2 : b.1 * (S / b.2) * (a.2 * b.2) = b.1 * a.2 * S := by
          rw [Int.mul_comm a.2 b.2, ← Int.mul_assoc, Int.mul_assoc b.1, ub, Int.mul_right_comm]
        rw [e1, e2] at h3
        have := Int.le_of_mul_le_mul_right h3 h0
        omega
  simp [leF, u]

section
variable {prog : Program} {w : World} {A : Around} {E : Value → Shared → Prop} {s : Shared} {h₀ : Heap} {L : Addr} {m : Str → Option Value} {news : List (Addr × Obj)} {vs : List Value}

/-- the end of a sort of one item or none -/
theorem small_end {a kS : Addr} {b : Bool} {ks : List Value} {e e1 : Nat} {P : PySem.Fin → Shared → Prop} (hl : ks.length = vs.length) (h2 : vs.length < 2)
    (h : KatFin h₀ L m kS a ks e e1 (katRev b vs) (fun s' => P (.done (.ret .none)) s') s) : wpAny (model prog w) A (ksk_end a b vs.toArray e1 (.ref kS) (List.toArray ks)) P E s := by
  have hs : vs.toArray.size < 2 := by rw [List.size_toArray]; exact h2
  unfold ksk_end
  dsimp only
  have rest : wpAny (model prog w) A (do
      let kind ← if vs.toArray.size < 2 then pure general' else keyKind' (List.toArray ks)
      let ((), st) ← (if vs.toArray.size < 2 then pure () else sortRuns').run (SortSt.mk' kind (if b = true then ((List.toArray ks).zip vs.toArray).reverse else (List.toArray ks).zip vs.toArray) #[] 7 none)
      ksk_tail a b e1 (.ref kS) st) P E s := by
    rw [if_pos hs, if_pos hs]
    refine wpAny_bind (wpAny_pure ?_)
    dsimp only
    rw [StateT.run_pure]
    refine wpAny_bind (wpAny_pure ?_)
    have hr : ∀ {α : Type} (x : List α), x.length < 2 → x.reverse = x := fun x hx => by
      match x, hx with
      | [], _ => rfl
      | [_], _ => rfl
    have hz : ∀ xs : Array Keyed, xs.size < 2 → (if b = true then xs.reverse else xs) = xs := fun xs hx => by
      split
      · apply Array.toList_inj.mp; rw [Array.toList_reverse, hr _ (by simpa using hx)]
      · rfl
    have he : (arrOf (SortSt.mk' general' (if b = true then ((List.toArray ks).zip vs.toArray).reverse else (List.toArray ks).zip vs.toArray) #[] 7 none)).map (·.2) = List.toArray vs := by
      show (if b = true then ((List.toArray ks).zip vs.toArray).reverse else (List.toArray ks).zip vs.toArray).map (·.2) = _
      rw [hz _ (by simp [hl]; omega)]
      apply Array.toList_inj.mp
      rw [Array.toList_map, ksk_zip]
      exact List.map_snd_zip (by simp [hl])
    exact kat_tail he (by omega) (by omega) rfl h
  cases b with
  | false => exact rest
  | true => exact wpAny_bind (wpAny_rule rest)

theorem small_sortedK {l : Addr} {b : Bool} {f : Value} {kw : List (Str × Value)} {Q : Value → Shared → Prop} (F : Fr h₀ L s.heap m) (N : News h₀ L s.heap news) (hl : s.heap.IsList l vs.toArray) (h2 : vs.length < 2)
    (ha1 : argsOk "sorted" ⟨[.ref l], kw⟩) (ha2 : ∀ x, argsOk "list.sort" ⟨[.ref x], kw⟩) (ht : ∀ x, Builtin.«list.sort» ⟨[.ref x], kw⟩ = ksk_tree x f b)
    (h : ∀ D kS e1 h', Fr h₀ L h' m → News h₀ L h' ((kS, seqObj "list" #[] 0) :: (D, seqObj "list" #[] e1) :: news) → @LT.lt Nat _ D kS → (∀ q ∈ news, @LT.lt Nat _ q.1 D) →
      KatKeys prog w A.in1.in1 h₀ L m kS f (fun ks e s' => KatFin h₀ L m kS D ks e e1 (katRev b vs) (fun s4 => Q (.ref D) s4) s') vs [] 0 { s with heap := h' }) :
    wpAny (model prog w) A (call (.builtin "sorted") [.ref l] kw) Q E s := by
  refine call_function_entry_kw kind_sorted plain_sorted entry_sorted ha1 ?_
  unfold Builtin.«sorted»
  refine wpAny_bind (m := checkCount "sorted" 1 1 _) (wpAny_pure ?_)
  refine wpAny_bind (collect_list hl ?_ (by rw [sizeLine_eq]; omega))
  refine wpAny_bind (wpAny_newList ?_ (by rw [sizeLine_eq]; omega))
  obtain ⟨H, hH⟩ : ∃ H, H = (s.heap.push (seqObj "list" #[] 0)).update s.heap.objs.size (Obj.mapSeq (· ++ vs.toArray)) := ⟨_, rfl⟩
  show wpAny _ _ _ _ _ { s with heap := ((s.heap.push (seqObj "list" #[] 0)).update s.heap.objs.size (Obj.mapSeq (· ++ vs.toArray))).push (seqObj "list" vs.toArray 0) }
  rw [← hH]
  have hsz : H.objs.size = s.heap.objs.size + 1 := by rw [hH, Heap.size_update, size_push']
  have keep1 : ∀ b o, s.heap.get? b = some o → H.get? b = some o := fun b o q => by
    have hlt : b < s.heap.objs.size := Heap.lt_size q
    rw [hH, Heap.get?_update_ne _ _ _ _ (Nat.ne_of_lt hlt), Heap.get?_push_ne _ _ _ (Nat.ne_of_lt hlt)]
    exact q
  have FH : Fr h₀ L H m := F.kept keep1
  have NH : News h₀ L H news := N.grown keep1
  have hoL : (H.push (seqObj "list" vs.toArray 0)).get? H.objs.size = some (seqObj "list" vs.toArray 0) := Heap.get?_push_size _ rfl
  have F2 := FH.push (seqObj "list" vs.toArray 0)
  have haL : H.objs.size ≠ L := Nat.ne_of_gt FH.ns.lt
  have ha0 : h₀.get? H.objs.size = none := next_is_new FH
  have hD : ∀ q ∈ news, @LT.lt Nat _ q.1 H.objs.size := fun q hq => Heap.lt_size (NH q hq).1
  have N2 : News h₀ L (H.push (seqObj "list" vs.toArray 0)) news := NH.grown fun _ _ e => Heap.get?_push_of_some _ e
  refine wpAny_bind (wpAny_holding (wpAny_call_entry_kw slot_list_sort ⟨_, hoL, rfl⟩ entry_list_sort ?body (ha2 _)))
  case body =>
    show wpAny (model prog w) A.in1.in1 (Builtin.«list.sort» ⟨[.ref H.objs.size], kw⟩) _ _ _
    rw [ht]
    generalize hD2 : H.objs.size = D at hoL haL ha0 hD
    generalize H.push (seqObj "list" vs.toArray 0) = H2 at hoL F2 N2
    have s1 := Heap.SameBut.update H2 D (Obj.mapSeq fun _ => (#[] : Array Value))
    obtain ⟨e1, ho1⟩ : ∃ e1, (H2.update D (Obj.mapSeq fun _ => (#[] : Array Value))).get? D = some (seqObj "list" #[] e1) := ⟨_, get?_update_seq hoL fun _ => #[]⟩
    have F3 := kas_fr F2 s1 haL ha0
    have N3 := kas_news N2 s1 fun p hp => Nat.ne_of_lt (hD p hp)
    unfold ksk_tree
    refine wpAny_bind (listItems_at hoL rfl ?_)
    refine wpAny_bind (listUpdate_at hoL rfl ?_ (by rw [List.size_toArray, sizeLine_eq]; omega) (Nat.zero_le _))
    refine wpAny_bind (seqEpoch_at ho1 rfl ?_)
    refine wpAny_bind (wpAny_newTuple ?_ (by show vs.length ≤ _; rw [sizeLine_eq]; omega))
    refine wpAny_bind (wpAny_newList ?_ (Nat.zero_le _))
    refine wpAny_holding ?_
    have F4 := F3.push (seqObj "tuple" vs.toArray 0)
    have up : ∀ b o, (H2.update D (Obj.mapSeq fun _ => (#[] : Array Value))).get? b = some o → (((H2.update D (Obj.mapSeq fun _ => (#[] : Array Value))).push (seqObj "tuple" vs.toArray 0)).push (seqObj "list" #[] 0)).get? b = some o :=
      fun b o e => Heap.get?_push_of_some _ (Heap.get?_push_of_some _ e)
    have hlt := Heap.lt_size (Heap.get?_push_of_some (seqObj "tuple" vs.toArray 0) ho1)
    have K := h D ((H2.update D (Obj.mapSeq fun _ => (#[] : Array Value))).push (seqObj "tuple" vs.toArray 0)).objs.size e1 _ (F4.push (seqObj "list" #[] 0)) (fun p hp => by
      rcases List.mem_cons.mp hp with rfl | hp
      · exact ⟨Heap.get?_push_size _ rfl, Nat.ne_of_gt F4.ns.lt, next_is_new F4⟩
      · rcases List.mem_cons.mp hp with rfl | hp
        · exact ⟨up _ _ ho1, haL, ha0⟩
        · exact ⟨up _ _ (N3 p hp).1, (N3 p hp).2⟩) hlt hD
    have hkS : (((H2.update D (Obj.mapSeq fun _ => (#[] : Array Value))).push (seqObj "tuple" vs.toArray 0)).push (seqObj "list" #[] 0)).get? ((H2.update D (Obj.mapSeq fun _ => (#[] : Array Value))).push (seqObj "tuple" vs.toArray 0)).objs.size = some (seqObj "list" (List.toArray []) 0) := Heap.get?_push_size _ rfl
    show wpAny (model prog w) A.in1.in1 (ksk_rest D f b vs.toArray e1 (.ref ((H2.update D (Obj.mapSeq fun _ => (#[] : Array Value))).push (seqObj "tuple" vs.toArray 0)).objs.size)) _ _ { s with heap := ((H2.update D (Obj.mapSeq fun _ => (#[] : Array Value))).push (seqObj "tuple" vs.toArray 0)).push (seqObj "list" #[] 0) }
    generalize ((H2.update D (Obj.mapSeq fun _ => (#[] : Array Value))).push (seqObj "tuple" vs.toArray 0)).objs.size = kS at K hkS
    generalize ((H2.update D (Obj.mapSeq fun _ => (#[] : Array Value))).push (seqObj "tuple" vs.toArray 0)).push (seqObj "list" #[] 0) = H5 at K hkS
    unfold ksk_rest
    refine wpAny_bind (wpAny_rule ?_)
    rw [List.forIn_toArray]
    refine wpAny_bind (wpAny_mono (kat_fold (n := vs.length) (by omega) (fun x ks e s' C hz hx => ?_) vs [] 0 _ (by simp) hkS K) (fun _ s' hd => ?_) fun _ _ x => x)
    · refine wpAny_bind (wpAny_attempt (wpAny_mono hx (fun k s'' hk => ?_) fun _ _ hF => hF.elim))
      obtain ⟨news', g, F', N', U, c⟩ := hk
      obtain ⟨pre, post, e0, hg, x1, x2⟩ := U.split
      rw [e0] at N'
      have nk := N' (kS, seqObj "list" (List.toArray ks) e) (List.mem_append_right _ (.head _))
      have s2 := Heap.SameBut.update s''.heap kS (Obj.mapSeq (·.push k))
      have ea : (List.toArray ks).push k = List.toArray (ks ++ [k]) := by simp
      obtain ⟨c2, hc2⟩ : ∃ c2, (s''.heap.update kS (Obj.mapSeq (·.push k))).get? kS = some (seqObj "list" (List.toArray (ks ++ [k])) c2) := ⟨_, by rw [← ea]; exact get?_update_seq nk.1 (·.push k)⟩
      dsimp only
      refine wpAny_bind (listUpdate_at nk.1 rfl ?_ (by rw [List.size_toArray, sizeLine_eq]; omega) (Nat.le_trans (Nat.le_of_eq (Array.size_push ..)) (by rw [List.size_toArray, sizeLine_eq]; omega)))
      exact wpAny_pure ⟨rfl, k, c2, hc2, c _ c2 (kas_fr F' s2 nk.2.1 nk.2.2) (by rw [hg]; exact news_set N' x1 x2 s2 hc2)⟩
    · obtain ⟨ks, e, hk', hl', fin⟩ := hd
      refine wpAny_bind (listItems_at hk' rfl ?_)
      exact small_end hl' h2 (fin.mono fun s4 hq => ⟨_, rfl, wpAny_pure ⟨_, rfl, hq⟩⟩)
end

section
variable {prog : Program} {w : World} {A : Around} {s : Shared} {h₀ : Heap} {L : Addr} {m : Str → Option Value}

/-- the keys of a row, made one after another -/
theorem keys_inv {kS : Addr} {f : Value} {Fin : List Value → Nat → Shared → Prop} {g : Heap} {base : List (Addr × Obj)} {all : List (Int × Int)} {kf : Int × Int → Int × Int} (hb : ∀ p ∈ base, p.1 ≠ kS)
    (turn : ∀ v q h tk, FracAt g v q → q ∈ all → Fr h₀ L h m → News h₀ L h base →
      wpAny (model prog w) A (call f [v]) (fun k s' => Mark (∃ a o h' tk', k = .ref a ∧ s' = { s with heap := h', toks := tk' } ∧ h.StaysIn h' ∧ h.get? a = none ∧ h'.get? a = some o ∧ KeyAt o (kf q))) (fun _ _ => False) { s with heap := h, toks := tk })
    (fin : ∀ (M : List (Addr × Obj)) e h tk, Fr h₀ L h m → News h₀ L h ((kS, seqObj "list" (M.map fun p => Value.ref p.1).toArray e) :: (base ++ M)) → (∀ p ∈ M, p.1 ≠ kS) → M.length = all.length →
      (∀ (i : Nat) (p : Addr × Obj) (q : Int × Int), M[i]? = some p → all[i]? = some q → KeyAt p.2 (kf q)) → Fin (M.map fun p => Value.ref p.1) e { s with heap := h, toks := tk }) :
    ∀ {vs : List Value} {qs : List (Int × Int)}, FracsAt g vs qs → ∀ (M : List (Addr × Obj)) (done : List (Int × Int)) e h tk, all = done ++ qs → M.length = done.length → (∀ (i : Nat) (p : Addr × Obj) (q : Int × Int), M[i]? = some p → done[i]? = some q → KeyAt p.2 (kf q)) → (∀ p ∈ M, p.1 ≠ kS) →
      Fr h₀ L h m → News h₀ L h ((kS, seqObj "list" (M.map fun p => Value.ref p.1).toArray e) :: (base ++ M)) → KatKeys prog w A h₀ L m kS f Fin vs (M.map fun p => Value.ref p.1) e { s with heap := h, toks := tk } := by
  intro vs qs x
  induction x with
  | nil =>
    intro M done e h tk ha hl hk hM F N
    rw [List.append_nil] at ha
    subst ha
    exact KatKeys.nil (fin M e h tk F N hM hl hk)
  | @cons v q vs qs a r ih =>
    intro M done e h tk ha hl hk hM F N
    refine KatKeys.cons (wpAny_mono (turn v q h tk a (by rw [ha]; simp) F fun p hp => N p (.tail _ (List.mem_append_left _ hp))) (fun k s' hs => ?_) fun _ _ x => x)
    obtain ⟨b, o, h', tk', rfl, rfl, st, hb0, hb1, hkey⟩ := Mark.of hs
    have N2 := News.fresh F N st hb0 hb1
    have hbk : @Ne Nat b kS := News.ne_fresh N hb0 (.head _)
    have hM2 : ∀ p ∈ M ++ [(b, o)], p.1 ≠ kS := fun p hp => by
      rcases List.mem_append.mp hp with hp | hp
      · exact hM p hp
      · rw [List.mem_singleton.mp hp]; exact hbk
    refine KatBack.intro (news := (kS, seqObj "list" (M.map fun p => Value.ref p.1).toArray e) :: (base ++ (M ++ [(b, o)]))) (Fr.stay F st) (fun p hp => ?_) (UpdF.head fun p hp => ?_) fun h2 c F2 N3 => ?_
    · rcases List.mem_cons.mp hp with rfl | hp
      · exact N2 _ (.tail _ (.head _))
      · rcases List.mem_append.mp hp with hp | hp
        · exact N2 _ (.tail _ (.tail _ (List.mem_append_left _ hp)))
        · rcases List.mem_append.mp hp with hp | hp
          · exact N2 _ (.tail _ (.tail _ (List.mem_append_right _ hp)))
          · rw [List.mem_singleton.mp hp]; exact N2 _ (.head _)
    · exact (List.mem_append.mp hp).elim (hb p) (hM2 p)
    · have e3 : (M.map fun p => Value.ref p.1) ++ [Value.ref b] = (M ++ [(b, o)]).map fun p => Value.ref p.1 := by simp
      rw [e3] at N3 ⊢
      refine ih (M ++ [(b, o)]) (done ++ [q]) c h2 tk' (by rw [ha]; simp) (by simp [hl]) (fun i p r hi hr => ?_) hM2 F2 N3
      by_cases hlt : i < M.length
      · rw [List.getElem?_append_left hlt] at hi
        rw [List.getElem?_append_left (hl ▸ hlt)] at hr
        exact hk i p r hi hr
      · rw [List.getElem?_append_right (by omega)] at hi
        rw [List.getElem?_append_right (by omega)] at hr
        by_cases h0 : i = M.length
        · rw [h0, Nat.sub_self] at hi
          rw [h0, hl, Nat.sub_self] at hr
          cases hi; cases hr
          exact hkey
        · rw [List.getElem?_eq_none (by simp; omega)] at hi; cases hi

theorem key_tups {h : Heap} : ∀ (M : List (Addr × Obj)) (ks : List (Int × Int)), M.length = ks.length → (∀ (i : Nat) (p : Addr × Obj) (k : Int × Int), M[i]? = some p → ks[i]? = some k → KeyAt p.2 k) → (∀ p ∈ M, h.get? p.1 = some p.2) →
    ∃ fs, KatTups h (M.map fun p => Value.ref p.1) fs ∧ fs.length = M.length ∧ ∀ v ∈ fs, ∃ n t, v = Value.int n t
  | [], _, _, _, _ => ⟨[], .nil, rfl, fun _ h => nomatch h⟩
  | p :: M, [], hl, _, _ => nomatch hl
  | p :: M, k :: ks, hl, hk, hm => by
    obtain ⟨fs, h1, h2, h3⟩ := key_tups M ks (by simpa using hl) (fun i p k hi hr => hk (i + 1) p k (by simpa using hi) (by simpa using hr)) fun q hq => hm q (.tail _ hq)
    obtain ⟨hc, t, u, n, hd⟩ := hk 0 p k rfl rfl
    refine ⟨.int k.1 t :: fs, .cons (hm p (.head _)) hc hd rfl h1, by simp [h2], fun v hv => ?_⟩
    rcases List.mem_cons.mp hv with rfl | hv
    · exact ⟨_, _, rfl⟩
    · exact h3 v hv

/-- the sort itself, of keys that are pairs of ints -/
theorem sort_keys {kS a : Addr} {e e1 : Nat} {M : List (Addr × Obj)} {ks : List (Int × Int)} {vs : List Value} {B : Int} {C : Shared → Prop} {base : List (Addr × Obj)} (F : Fr h₀ L s.heap m) (N : News h₀ L s.heap ((kS, seqObj "list" (M.map fun p => Value.ref p.1).toArray e) :: (a, seqObj "list" #[] e1) :: (base ++ M)))
    (hne : @Ne Nat a kS) (h2 : 2 ≤ vs.length) (hl : M.length = vs.length) (hl2 : ks.length = vs.length) (hk : ∀ (i : Nat) (p : Addr × Obj) (k : Int × Int), M[i]? = some p → ks[i]? = some k → KeyAt p.2 k)
    (hB : ∀ k ∈ ks, 2 * k.2 < B ∧ -B < 2 * k.2)
    {x : Addr × Obj} (hx : x ∈ base) (hxk : @Ne Nat x.1 kS) (hxa : @Ne Nat x.1 a)
    (fin : ∀ p c h', Ix vs.length p → Up (fun i => rankK B (ks.getD i (0, 0))) p vs.length → Fr h₀ L h' m → h'.get? a = some (listOf (p.toList.map fun i => vs.getD i Value.none).toArray c) → h'.get? x.1 = some x.2 → C { s with heap := h' }) :
    wpAny (model prog w) A (keyKind' (List.toArray (M.map fun p => Value.ref p.1))) (fun κ s'' => (kas_sort vs.length).kasWp (kas_ask prog w A κ (katRev false (M.map fun p => Value.ref p.1)))
      (fun p s3 => KatFin h₀ L m kS a (M.map fun p => Value.ref p.1) e e1 (katRev false (p.toList.map fun i => (katRev false vs).getD i Value.none)) C s3) s'') (fun _ _ => False) s := by
  have hm : ∀ p ∈ M, s.heap.get? p.1 = some p.2 := fun p hp => (N p (.tail _ (.tail _ (List.mem_append_right _ hp)))).1
  obtain ⟨fs, t1, t2, t3⟩ := key_tups M ks (by omega) hk hm
  refine kat_kind (T := .type "int") t1 (by omega) (fun v hv => ?_) rfl ?_
  · obtain ⟨n, t, rfl⟩ := t3 v hv
    exact Looks.of_pure rfl
  · have hT : tuples' (Value.type "int" != Value.type "tuple") = tuples' true := by congr 1
    rw [hT]
    have hat : ∀ i, i < vs.length → ∃ p k, M[i]? = some p ∧ ks[i]? = some k ∧ KeyAt p.2 k ∧ p ∈ M ∧ k ∈ ks := fun i hi => by
      have e1 : M[i]? = some (M[i]'(by omega)) := by simp
      have e2 : ks[i]? = some (ks[i]'(by omega)) := by simp
      exact ⟨_, _, e1, e2, hk i _ _ e1 e2, by simp, by simp⟩
    refine sort_ (I := fun s' => s' = s) (r := fun i => rankK B (ks.getD i (0, 0))) (n := vs.length) ?_ (by omega) rfl ?_
    · rintro i j Cc _ hi hj rfl hC
      obtain ⟨p, k, p1, p2, p3, p4, p5⟩ := hat i hi
      obtain ⟨q, k', q1, q2, q3, q4, q5⟩ := hat j hj
      show wpAny _ _ (keyLt' _ ((M.map fun p => Value.ref p.1).getD i Value.none) ((M.map fun p => Value.ref p.1).getD j Value.none)) _ _ _
      have e1 : (M.map fun p => Value.ref p.1).getD i Value.none = .ref p.1 := by simp [List.getD_eq_getElem?_getD, p1]
      have e2 : (M.map fun p => Value.ref p.1).getD j Value.none = .ref q.1 := by simp [List.getD_eq_getElem?_getD, q1]
      rw [e1, e2]
      refine ask_keys (hm p p4) (hm q q4) p3 q3 fun r hr => ?_
      have hC2 : Cc (decide (rankK B (ks.getD i (0, 0)) < rankK B (ks.getD j (0, 0)))) _ := hC _ rfl
      have e3 : ks.getD i (0, 0) = k := by simp [List.getD_eq_getElem?_getD, p2]
      have e4 : ks.getD j (0, 0) = k' := by simp [List.getD_eq_getElem?_getD, q2]
      rw [e3, e4] at hC2
      have e5 : r = decide (rankK B k < rankK B k') := by
        rw [Bool.eq_iff_iff, hr, decide_eq_true_iff, rank_iff (hB k p5).1 (hB k p5).2 (hB k' q5).1 (hB k' q5).2]
      rw [e5]; exact hC2
    · rintro p _ rfl hp hu
      refine KatFin.intro (news := [(kS, seqObj "list" (M.map fun p => Value.ref p.1).toArray e), (a, seqObj "list" #[] e1), x]) F (fun q hq => ?_) (UpdF.head fun q hq => ?_) fun h' c F' N' => ?_
      · rcases hq with _ | ⟨_, _ | ⟨_, _ | ⟨_, hq⟩⟩⟩
        · exact N _ (.head _)
        · exact N _ (.tail _ (.head _))
        · exact N _ (.tail _ (.tail _ (List.mem_append_left _ hx)))
        · nomatch hq
      · rcases hq with _ | ⟨_, _ | ⟨_, hq⟩⟩
        · exact hne
        · exact hxk
        · nomatch hq
      · refine KasFin.intro F' N' (UpdF.tail (Ne.symm hne) (UpdF.head fun q hq => by rw [List.mem_singleton.mp hq]; exact hxa)) fun h2' c2 F2 N2 => ?_
        exact fin p c2 h2' hp hu F2 (N2 _ (.tail _ (.head _))).1 (N2 _ (.tail _ (.tail _ (.head _)))).1
end
def mostScale : Int := 1000000000000000000000000000000000000000000000000000000000000000000000000000000000000000000000000000000000000000000000000000000000000000000000000000000000000000000000000000000000000000000000000000000000000000000000000000000000000000000000000000000000000000000000000000000000000000000000000000000000000
theorem small_scale {a : Int} (h0 : 0 < a) (h : a ≤ mostScale) : small a := by
  have h1 : mostScale.natAbs < 2 ^ 2000 := by decide +kernel
  unfold small
  generalize mostScale = z at *
  omega
theorem lines11 : True := by
  k_with "m call ref" => (k_here; (with_reducible show wpAny _ _ (call (Value.ref 165) [_] []) _ _ _); (have hz : Stop 13 := (by assumption)); clear hz; refine Mark.mk ?_)
  k_with "m call builtin:sorted" => (k_here; (have hz : Stop 13 := (by assumption)); clear hz; refine Mark.mk ?_)
  trivial
theorem asc_small : ∀ {l : List (Int × Int)}, l.length < 2 → Asc l
  | [], _ => by simp [Asc]
  | [_], _ => by simp [Asc]
  | _ :: _ :: _, h => absurd h (by simp)
theorem stays_of_hide {h h' g : Heap} {a : Addr} {o : Obj} (hg : g = hideAll h [a]) (k : g.StaysIn h') (e : h.get? a = some o) (e' : h'.get? a = some o) : h.StaysIn h' := fun b ob eb => by
  by_cases hb : b = a
  · subst hb; rw [e] at eb; cases eb; exact e'
  · exact k b ob (by rw [hg]; exact hide_one eb hb)
theorem none_of_hide {h g : Heap} {a b : Addr} (hg : g = hideAll h [a]) (hb : b ≠ a) (e : g.get? b = none) : h.get? b = none := by
  cases e2 : h.get? b with
  | none => rfl
  | some o => rw [hg, hide_one e2 hb] at e; cases e
@[elab_as_elim] theorem FracAt.elim' {h : Heap} {v : Value} {q : Int × Int} {P : Value → Prop} (x : FracAt h v q) (k : ∀ a t u, IsTup h a [.int q.1 t, .int q.2 u].toArray → P (.ref a)) : P v := x.elim k
/-- the scale so far -/
def ScaleOk (lq : List (Int × Int)) (j : Nat) (S : Int) (tS : Nat) (oc : Obj) : Prop := oc.data = .cell (some (.int S tS)) ∧ 0 < S ∧ S ≤ mostScale ∧ ∀ i q, i < j → lq[i]? = some q → q.2 = 0 ∨ S % q.2 = 0
theorem ScaleOk.mul {lq : List (Int × Int)} {j : Nat} {S : Int} {tS t' : Nat} {oc o7 : Obj} {q : Int × Int} (p : ScaleOk lq j S tS oc) (hq : lq[j]? = some q) (hd : 0 < q.2) (hb : ¬ mostScale < S * q.2) (d : o7.data = .cell (some (.int (S * q.2) t'))) : ScaleOk lq (j + 1) (S * q.2) t' o7 :=
  ⟨d, Int.mul_pos p.2.1 hd, Int.not_lt.mp hb, fun i r hi hr => by
    by_cases hij : i = j
    · rw [hij, hq] at hr; cases hr
      exact .inr (Int.mul_emod_left _ _)
    · refine (p.2.2.2 i r (Nat.lt_of_le_of_ne (Nat.le_of_lt_succ hi) hij) hr).imp id fun h => ?_
      obtain ⟨k, hk⟩ := Int.dvd_of_emod_eq_zero h
      exact Int.emod_eq_zero_of_dvd ⟨k * q.2, by show S * q.2 = _; rw [hk, Int.mul_assoc]⟩⟩
theorem ScaleOk.skip {lq : List (Int × Int)} {j : Nat} {S : Int} {tS : Nat} {oc : Obj} {q : Int × Int} (p : ScaleOk lq j S tS oc) (hq : lq[j]? = some q) (h0 : 0 ≤ q.2) (h : ¬ (0 < q.2 ∧ S.fmod q.2 ≠ 0)) : ScaleOk lq (j + 1) S tS oc :=
  ⟨p.1, p.2.1, p.2.2.1, fun i r hi hr => by
    by_cases hij : i = j
    · rw [hij, hq] at hr; cases hr
      by_cases hd : 0 < q.2
      · have := Decidable.not_not.mp fun n => h ⟨hd, n⟩
        rw [Int.fmod_eq_emod_of_nonneg _ h0] at this
        exact .inr this
      · exact .inl (Int.le_antisymm (Int.not_lt.mp hd) h0)
    · exact p.2.2.2 i r (Nat.lt_of_le_of_ne (Nat.le_of_lt_succ hi) hij) hr⟩
section
variable {w : World} {A : Around} {s : Shared} {mg mb : Str → Option Value} {p : Program} {loose : List Str} {mean : ExcName → Option Value} {c : Heap} {Q E : Value → Shared → Prop}

set_option maxHeartbeats 4000000 in
theorem asc_spec {la : Addr} {lv : List Value} {lq : List (Int × Int)} (C : Amb (hd.heap_39 w.params) mg mb p loose mean c) (st : c.StaysIn s.heap) (CH : CodeHd c 171 167)
    (h167 : s.heap.get? 167 = some (tabObj #[])) (hc167 : c.get? 167 = none) (hl7 : la ≠ 167)
    (hl : s.heap.IsList la lv.toArray) {g₀ : Heap} (hg₀ : g₀.StaysIn s.heap) (hg7 : g₀.get? 167 = none) (xl : FracsAt g₀ lv lq)
    (gl : ∀ q ∈ lq, good q) (lenl : lq.length ≤ 60)
    (hroom : A.depth + 6 < recursionLimit) (hu : A.units + 1200 < cLine) (hh : A.handled = none)
    (ret : ∀ a h' tk' vs qs n', (∀ b o, b ≠ 167 → s.heap.get? b = some o → h'.get? b = some o) → s.heap.get? a = none → h'.get? a = some (listOf vs.toArray n') → (∃ ps, h'.get? 167 = some (tabObj ps)) → FracsAt g₀ vs qs → qs.Perm lq → Asc qs → Q (.ref a) { s with heap := h', toks := tk' }) :
    wpAny (model PySem.Challenge.rw_pq1401_01.row.prog w) A (call (.ref 172) [.ref la] []) Q E s := by
  obtain ⟨hdl, dp, fr, gd, un⟩ := A
  obtain rfl : hdl = none := hh
  dsimp only at hroom hu
  w_top off; revert C; k_fill; intro C
  refine enterC C st [(167, tabObj #[])] (binds := [(Str.ofString "items", .ref la)]) (List.forall_mem_cons.mpr ⟨h167, fun _ h => nomatch h⟩) (List.forall_mem_cons.mpr ⟨hc167, fun _ h => nomatch h⟩) (by k_is) (by k_is) (Nat.lt_of_le_of_lt (Nat.le_add_right _ 6) hroom) (BindsTo.of_eq (by rfl)) (by rfl) (by decide) (by rfl) (by rfl) (by rfl) ?_
  intro g L h₁ tk cells hg F N Y X T stc hL hN
  k_cells Y
  have CH2 : CodeHd g 171 167 := CH.keeps stc
  have h7L : @LT.lt Nat _ 167 L := hN _ (.head _)
  have kp : ∀ b o, b ≠ 167 → s.heap.get? b = some o → g.get? b = some o := fun b o hb e => by rw [hg]; exact hide_one e hb
  have hlg : g.IsList la lv.toArray := hl.at fun o e => kp _ _ hl7 e
  have hgg : g₀.StaysIn g := fun b o e => kp b o (fun e' => by rw [e', hg7] at e; cases e) (hg₀ b o e)
  have kn : ∀ b, b ≠ 167 → g.get? b = none → s.heap.get? b = none := fun b hb e => none_of_hide hg hb e
  clear hg
  have hvl := xl.length
  have hstop : Stop 13 := trivial
  refine postE fun QQ hQ => ?_
  k_steps
  rename_i h2 o2 F2 N2 d2
  refine Mark.of (ks_list (σ := Int × Nat × Obj) (fun c => [(L + 1, c.2.2), (167, tabObj #[])]) (fun _ => []) []
    (fun j c => ScaleOk lq j c.1 c.2.1 c.2.2) (1, _, o2) rfl (base_list F2 hlg) (base_ne_L F2 hlg) (base_ne_news N2 hlg) F2 N2
    (fun _ h => nomatch h) ⟨d2, Int.zero_lt_one, by show (1 : Int) ≤ mostScale; decide +kernel, fun i q h => absurd h (Nat.not_lt_zero _)⟩ ?_ ?_)
  · refine prod3 fun S tS oc => ?_
    intro j v u h5 tk5 own hj hv hoff P F5 N5 Q2 hQ2
    obtain ⟨q, hq, hf⟩ := xl.at hv
    revert F5
    refine FracAt.elim' (hf.keeps hgg) fun a t u' htup F5 => ?_
    have hoD : OwnOff own [L + 1, 167] := hoff
    have gq := good_of gl hq
    dsimp only [kstB] at F5 N5 P
    have p1 := P.1
    simp only [List.cons_append, List.nil_append] at N5
    have hm1 : IntMulOk S q.2 := mulOk (small_scale P.2.1 P.2.2.1) gq.2.1
    clear F2 N2
    have hstop5 : Stop 15 := trivial
    k_steps
    refine Mark.of ?_
    clear hstop5
    iterate 1 walk1
    refine cutN (K := fun Q3 => ∀ tk, Q3 (decide (0 < q.2 ∧ S.fmod q.2 ≠ 0)) { s with heap := h5, toks := tk }) (fun Q3 k3 => ?_) (fun tk7 => ?_)
    · k_steps
      · exact ret_b (k3 _) (decide_eq_true ⟨by assumption, by assumption⟩)
      · exact ret_b (k3 _) (decide_eq_false fun h => h.2 (by assumption))
      · exact ret_b (k3 _) (decide_eq_false fun h => absurd h.1 (by assumption))
    · k_steps
      · rename_i hdm h7 o7 F7 N7 d7 hbig
        have hne : lq ≠ [] := fun e => by rw [e] at hq; cases hq
        refine Mark.of (rows_spec ⟨by assumption, by assumption⟩ F7.keep (base_list F7 hlg) (stay2 hgg F7.keep) xl gl lenl hne (by walk_at "my depth") (by walk_at "my units") rfl ?_)
        intro a' h' tk' vs qs n' st' ha hget hfr hperm hasc
        k_steps
        refine hQ2 (.ret (.ref a')) _ (hQ (.ret (.ref a')) _ (ret a' h' tk' vs qs n' (fun b o hb e => st' b o (F7.keep b o (kp b o hb e))) ?_ hget ⟨_, st' _ _ (N7 _ (.tail _ (.head _))).1⟩ hfr hperm hasc))
        cases e : s.heap.get? a' with
        | none => rfl
        | some o =>
          have := F7.keep _ _ (kp _ _ (News.ne_fresh N7 ha (.tail _ (.head _))) e)
          dsimp only at ha
          rw [ha] at this; cases this
      · rename_i hdm h7 o7 F7 N7 d7 hbig
        refine hQ2 _ _ ?_
        exact ks_end (S * q.2, _, o7) F7 N7 (List.forall_mem_cons.mpr ⟨.head _, List.forall_mem_cons.mpr ⟨.tail _ (.head _), fun _ h => nomatch h⟩⟩) (fun p hp => .tail _ (.tail _ hp)) rfl (fun _ h => nomatch h) (ks_off (u := u)) (P.mul hq hdm.1 hbig d7)
      · rename_i hdm
        refine hQ2 _ _ ?_
        exact ks_end (S, tS, oc) F5 N5 (List.forall_mem_cons.mpr ⟨.head _, List.forall_mem_cons.mpr ⟨.tail _ (.head _), fun _ h => nomatch h⟩⟩) (fun p hp => .tail _ (.tail _ hp)) rfl (fun _ h => nomatch h) (ks_off (u := u)) (P.skip hq gq.2.2.1 hdm)
  · refine prod3 fun S tS oc => ?_
    intro u h5 tk5 P F5 N5
    have p1 := P.1
    have p2 := P.2.1
    have p3 := P.2.2.1
    have p4 := P.2.2.2
    clear P
    dsimp only [kstB] at F5 N5 p1 p2 p3 p4
    clear F2 N2
    have hSs := small_scale p2 p3
    have hdv : ∀ q ∈ lq, q.2 = 0 ∨ S % q.2 = 0 := fun q hq => by
      obtain ⟨i, hi, e⟩ := List.getElem_of_mem hq
      exact p4 i q (hvl ▸ hi) (by rw [List.getElem?_eq_getElem hi, e])
    k_steps
    rename_i f c' oc' vs' t' ct' dc' h6 tk6 dd1 dd2 l1 l2 h7 F7 N7
    obtain ⟨b0, hb0, N8⟩ : ∃ b0, b0 = _ ∧ News g L h7 b0 := ⟨_, rfl, N7⟩
    have turn : ∀ (A' : Around) (m : Str → Option Value) (base : List (Addr × Obj)), A'.handled = none → A'.depth + 1 < recursionLimit → A'.units + 400 < cLine → (∀ p ∈ b0, p ∈ base) → ∀ v q h tk, FracAt g₀ v q → q ∈ lq → Fr g L h m → News g L h base →
      wpAny (model PySem.Challenge.rw_pq1401_01.row.prog w) A' (call (.ref f) [v]) (fun k s' => Mark (∃ a o h' tk', k = .ref a ∧ s' = { s with heap := h', toks := tk' } ∧ h.StaysIn h' ∧ h.get? a = none ∧ h'.get? a = some o ∧ KeyAt o (keyOf S q))) (fun _ _ => False) { s with heap := h, toks := tk } := by
      rintro ⟨hdl', dp', fr', gd', un'⟩ m base hh' hr' hu' hb v q h tk hf hq F N
      obtain rfl : hdl' = none := hh'
      dsimp only at hr' hu'
      subst hb0
      have hoc := N _ (hb _ (.tail _ (.tail _ (.head _))))
      have gq := gl q hq
      clear F7 N7 N8 F5 N5
      refine enterN ⟨X, T⟩ F.keep [(L + 1, oc)] (binds := [(Str.ofString "item", v)]) (List.forall_mem_cons.mpr ⟨hoc.1, fun _ h => nomatch h⟩) (List.forall_mem_cons.mpr ⟨hoc.2.2, fun _ h => nomatch h⟩)
        (N _ (hb _ (.head _))).1 (codeRec_news N (hb _ (.tail _ (.head _))) dd1 dd2) (Nat.lt_of_succ_lt hr') (BindsTo.of_eq (by rfl)) (by exact locs rfl) (by rfl) (by rfl) (by rfl) (by decide) ?_
      intro g2 L2 h2 hg2 F2 N2 X2 T2 st2
      obtain ⟨a, t, u', rfl, htup⟩ := hf.keeps (stay2 hgg st2)
      have hlog := small_log gq.2.1
      have CH3 := CH2.keeps st2
      have hfd := Int.fdiv_eq_ediv_of_nonneg S gq.2.2.1
      have hm1 : IntMulOk q.1 (S.fdiv q.2) := mulOk gq.1 (small_le (by rw [hfd]; exact Int.ediv_nonneg (Int.le_of_lt p2) gq.2.2.1) (by rw [hfd]; exact Int.ediv_le_self _ (Int.le_of_lt p2)) hSs)
      clear X T CH2 F N
      k_steps
      · rename_i hq0 D9 h9 F9 N9 l9
        have n9 := N9 _ (.head _)
        refine Mark.of ⟨D9, _, _, _, rfl, rfl, stays_of_hide hg2 F9.keep hoc.1 (N9.get (.tail _ (.head _))), none_of_hide hg2 (Nat.ne_of_gt l9) n9.2.2, n9.1, ?_⟩
        unfold keyOf
        rw [if_pos hq0]
        exact ⟨rfl, _, _, _, rfl⟩
      · rename_i hq0 D9 h9 F9 N9 l9
        have n9 := N9 _ (.head _)
        refine Mark.of ⟨D9, _, _, _, rfl, rfl, stays_of_hide hg2 F9.keep hoc.1 (N9.get (.tail _ (.head _))), none_of_hide hg2 (Nat.ne_of_gt l9) n9.2.2, n9.1, ?_⟩
        unfold keyOf
        rw [if_neg hq0]
        exact ⟨rfl, _, _, _, rfl⟩
    have hne7 : ∀ D : Addr, (∀ q ∈ b0, @LT.lt Nat _ q.1 D) → D ≠ 167 := fun D hD => by
      rw [hb0] at hD
      exact Nat.ne_of_gt (hD _ (.tail _ (.tail _ (.tail _ (.head _)))))
    obtain ⟨ps7, h7m⟩ : ∃ ps, (167, tabObj ps) ∈ b0 := ⟨_, by rw [hb0]; exact .tail _ (.tail _ (.tail _ (.head _)))⟩
    by_cases hs : lv.length < 2
    · refine Mark.of (small_sortedK F7 N8 (base_list F7 hlg) hs (ksk_s1 _ _) (fun x => ksk_l1 _ _) (fun x => ksk_t1 _ _) ?_)
      intro D kS e1 h9 F9 N9 hDk hnD
      have hb : ∀ p ∈ (D, seqObj "list" #[] e1) :: b0, p.1 ≠ kS := fun p hp => by
        rcases List.mem_cons.mp hp with rfl | hp
        · exact Nat.ne_of_lt hDk
        · exact Nat.ne_of_lt (Nat.lt_trans (hnD p hp) hDk)
      refine keys_inv (base := (D, seqObj "list" #[] e1) :: b0) hb (fun v q h tk hf hq F N => turn _ _ _ rfl ?_ ?_ (fun p hp => .tail _ hp) v q h tk hf hq F N) ?_ xl [] [] 0 h9 _ rfl rfl (fun i p q h => by simp at h) (fun _ h => nomatch h) F9 (by rw [List.append_nil]; exact N9)
      · walk_at "my depth"
      · walk_at "my units"
      · intro M e h tk F N hM hl hk
        refine KatFin.intro F N (UpdF.head fun p hp => (List.mem_append.mp hp).elim (hb p) (hM p)) fun h' c' F' N' => ?_
        refine KasFin.intro (news := [(D, seqObj "list" #[] e1), (167, tabObj ps7)]) F' (List.forall_mem_cons.mpr ⟨N' _ (.tail _ (.head _)), List.forall_mem_cons.mpr ⟨N' _ (.tail _ (List.mem_append_left _ (.tail _ h7m))), fun _ h => nomatch h⟩⟩) (UpdF.head fun p hp => by rw [List.mem_singleton.mp hp]; exact Ne.symm (hne7 D hnD)) fun h2' c2 F2 N2 => ?_
        have nD := N2 _ (.head _)
        exact hQ _ _ (ret D h2' _ lv lq c2 (fun b o hb e => F2.keep b o (kp b o hb e)) (kn D (hne7 D hnD) nD.2.2) nD.1 ⟨_, (N2 _ (.tail _ (.head _))).1⟩ xl (.refl _) (asc_small (hvl ▸ hs)))
    · refine Mark.of (kat_sortedK F7 N8 (base_list F7 hlg) (by omega) (by omega) (ksk_s1 _ _) (fun x => ksk_l1 _ _) (fun x => ksk_t1 _ _) ?_)
      intro D kS e1 h9 F9 N9 hDk hnD
      have hb : ∀ p ∈ (D, seqObj "list" #[] e1) :: b0, p.1 ≠ kS := fun p hp => by
        rcases List.mem_cons.mp hp with rfl | hp
        · exact Nat.ne_of_lt hDk
        · exact Nat.ne_of_lt (Nat.lt_trans (hnD p hp) hDk)
      have hD0 := (N9 _ (.tail _ (.head _))).2.2
      refine keys_inv (base := (D, seqObj "list" #[] e1) :: b0) hb (fun v q h tk hf hq F N => turn _ _ _ rfl ?_ ?_ (fun p hp => .tail _ hp) v q h tk hf hq F N) ?_ xl [] [] 0 h9 _ rfl rfl (fun i p q h => by simp at h) (fun _ h => nomatch h) F9 (by rw [List.append_nil]; exact N9)
      · walk_at "my depth"
      · walk_at "my units"
      · intro M e h tk F N hM hl hk
        refine sort_keys (base := b0) (ks := lq.map (keyOf S)) (B := 2 ^ 4002) F N (Nat.ne_of_lt hDk) (by omega) (by omega) (by simp [hvl]) (fun i p k hi hr => ?_) (fun k hk' => ?_) h7m (Nat.ne_of_lt (Nat.lt_trans (hnD _ h7m) hDk)) (Nat.ne_of_lt (hnD _ h7m)) fun p c h' hp hu F' hget h7g => ?_
        · rw [List.getElem?_map] at hr
          obtain ⟨q, hq, rfl⟩ := Option.map_eq_some_iff.mp hr
          exact hk i p q hi hq
        · obtain ⟨q, hq, rfl⟩ := List.mem_map.mp hk'
          exact key_bound p2 hSs (gl q hq)
        · rw [hvl] at hp hu
          have hm : ∀ i (hi : i < lq.length), (lq.map (keyOf S)).getD i (0, 0) = keyOf S lq[i] ∧ lq.getD i (0, 0) = lq[i] := fun i hi => by
            simp [List.getD_eq_getElem?_getD, hi]
          refine hQ _ _ (ret D h' _ _ _ c (fun b o hb e => F'.keep b o (kp b o hb e)) (kn D (hne7 D hnD) hD0) hget ⟨_, h7g⟩ (pick_fracs xl _ fun i hi => ?_) (pick_perm hp) (pick_sorted hp hu fun i j hi hj hr => ?_))
          · have := (Array.perm_iff_toList_perm.mp hp).mem_iff.mp hi
            simpa using this
          · rw [(hm i hi).1, (hm j hj).1] at hr
            rw [(hm i hi).2, (hm j hj).2]
            exact key_le p2 hSs (gl _ (List.getElem_mem hi)) (gl _ (List.getElem_mem hj)) (hdv _ (List.getElem_mem hi)) (hdv _ (List.getElem_mem hj)) hr
end
theorem FracAt.reads {h : Heap} {v : Value} {q : Int × Int} (x : FracAt h v q) : Reads h v (.tuple [.int q.1, .int q.2]) [] := by
  obtain ⟨a, t, u, rfl, o, ho, hc, n, hd⟩ := x
  exact Reads.tuple ho hc hd (ReadsAll.cons (as := []) (.int _ _) (ReadsAll.cons (as := []) (.int _ _) .nil))
theorem FracAt.one {h : Heap} {v : Value} {q r : Int × Int} (x : FracAt h v q) (y : FracAt h v r) : q = r := by
  obtain ⟨a, t, u, rfl, o, ho, hc, n, hd⟩ := x
  obtain ⟨a', t', u', e, o', ho', hc', n', hd'⟩ := y
  cases e
  rw [ho] at ho'; cases ho'
  rw [hd] at hd'
  simp only [Data.seq.injEq, Array.mk.injEq, List.cons.injEq, Value.int.injEq] at hd'
  exact Prod.ext hd'.1.1.1 hd'.1.2.1.1
theorem FracAt.eqAt {A : Around} {s : Shared} {v w : Value} {q r : Int × Int} (x : FracAt s.heap v q) (y : FracAt s.heap w r) (hu : A.units + 1 < cLine) : SeqAt.EqAt A s v w (decide (q = r)) := by
  have h := SeqAt.eqAt_reads _ _ A s v w _ _ x.reads y.reads rfl rfl hu
  have e : PyData.eqv (.tuple [.int q.1, .int q.2]) (.tuple [.int r.1, .int r.2]) = decide (q = r) := by
    simp only [PyData.eqv, PyData.eqvAll, Bool.and_true]
    rw [Bool.eq_iff_iff]
    simp [Prod.ext_iff]
  rw [e] at h
  exact h

section
variable {prog : Program} {w : World} {A : Around} {E : Value → Shared → Prop} {s : Shared}
open Classical in
theorem count_fracs {l : Addr} {vs : List Value} {qs : List (Int × Int)} {v : Value} {q : Int × Int} {Q : Value → Shared → Prop} (hl : s.heap.IsList l vs.toArray) (x : FracsAt s.heap vs qs) (y : FracAt s.heap v q) (hu : A.units + 8 < cLine)
    (h : Q (.int (qs.count q : Nat) s.toks) { s with toks := s.toks + 1 }) : wpAny (model prog w) A (call (.builtin "list.count") [.ref l, v]) Q E s := by
  obtain ⟨⟨cls, dd, data, sl⟩, ho, hc, n, hd⟩ := id hl
  simp only at hc hd
  subst hc hd
  have hcnt : ∀ {vs : List Value} {qs : List (Int × Int)}, FracsAt s.heap vs qs → vs.countP (fun z => decide (FracAt s.heap z q)) = qs.count q := by
    intro vs qs x
    induction x with
    | nil => rfl
    | @cons a r vs qs ha _ ih =>
      rw [List.countP_cons, List.count_cons, ih]
      congr 1
      by_cases e : r = q
      · subst e; simp [ha]
      · have : ¬ FracAt s.heap a q := fun hq => e (ha.one hq)
        simp [e, this]
  refine call_meets PySem.F.slot_list_count ⟨_, ho, rfl⟩ PySem.F.entry_list_count (PySem.F.args_list_count_2 _ _) (SeqAt.list_countAt l vs.toArray n dd sl v fun z => decide (FracAt s.heap z q)) ⟨ho, fun z hz => ?_, ?_⟩
  · obtain ⟨i, hi, e⟩ := List.getElem_of_mem (show z ∈ vs by simpa using hz)
    obtain ⟨r, hr, hf⟩ := x.at (i := i) (v := z) (by rw [List.getElem?_eq_getElem hi, e])
    have e2 : decide (FracAt s.heap z q) = decide (r = q) := by
      by_cases h3 : r = q
      · subst h3; simp [hf]
      · have : ¬ FracAt s.heap z q := fun hq => h3 (hf.one hq)
        simp [h3, this]
    rw [e2]
    exact FracAt.eqAt hf y (by show A.units + 1 + 1 < cLine; omega)
  · show Q (.int (vs.countP _ : Nat) s.toks) _
    rw [hcnt x]; exact h

theorem rc_lt {a b : Int} {t u : Tok} {Q : Value → Shared → Prop} (h : Q (.bool (decide (a < b))) s) : wpAny (model prog w) A (richCompare .Lt (.int a t) (.int b u)) Q E s := lt_int h
theorem lt_meets (l b : Addr) (n n2 : Nat) (dd dd2 : Option Addr) (sl sl2 : Array (Option Value)) (k k' : Int × Int) (t u t' u' : Tok) :
    Meets (Builtin.«tuple.__lt__» ⟨[.ref l, .ref b], []⟩)
      (fun _ R s => s.heap.get? l = some { cls := .type "tuple", dict := dd, data := .seq [.int k.1 t, .int k.2 u].toArray n, slots := sl } ∧ s.heap.get? b = some { cls := .type "tuple", dict := dd2, data := .seq [.int k'.1 t', .int k'.2 u'].toArray n2, slots := sl2 } ∧
        R (.ok (.ret (.bool (decide (k.1 < k'.1 ∨ (k.1 = k'.1 ∧ k.2 < k'.2)))))) s) :=
  .of_wp fun prog w A R s h => by
    obtain ⟨hp, g, d, tk, os⟩ := s; obtain ⟨hl, hb, h⟩ := h
    have f2 := AutoSeq1.sub_tuple_tuple
    wp_walk using AutoSeq1.wpAny_loadPart' hl, AutoSeq1.wpAny_loadPart' hb, wpAny_eqBool_int
    by_cases e : k.1 = k'.1
    · rw [show (k.1 == k'.1) = true by simpa using e]
      wp_walk using wpAny_eqBool_int
      by_cases e2 : k.2 = k'.2
      · rw [show (k.2 == k'.2) = true by simpa using e2]
        wp_walk
        refine ⟨_, rfl, ?_⟩
        rw [show decide (k.1 < k'.1 ∨ (k.1 = k'.1 ∧ k.2 < k'.2)) = false by simp [e, e2]] at h
        exact h
      · rw [show (k.2 == k'.2) = false by simpa using e2]
        wp_walk using rc_lt
        rw [show decide (k.1 < k'.1 ∨ (k.1 = k'.1 ∧ k.2 < k'.2)) = decide (k.2 < k'.2) by simp [e]] at h
        exact ⟨_, rfl, h⟩
    · rw [show (k.1 == k'.1) = false by simpa using e]
      wp_walk using rc_lt
      rw [show decide (k.1 < k'.1 ∨ (k.1 = k'.1 ∧ k.2 < k'.2)) = decide (k.1 < k'.1) by simp [e]] at h
      exact ⟨_, rfl, h⟩
theorem lt_fracs {v v' : Value} {q r : Int × Int} {Q : Value → Shared → Prop} (x : FracAt s.heap v q) (y : FracAt s.heap v' r) (hu : A.units < cLine)
    (h : Q (.bool (decide (q.1 < r.1 ∨ (q.1 = r.1 ∧ q.2 < r.2)))) s) : wpAny (model prog w) A (compareOp .Lt v v') Q E s := by
  obtain ⟨a, t, u, rfl, ⟨cls, dd, data, sl⟩, ho, hc, n, hd⟩ := x
  obtain ⟨a', t', u', rfl, ⟨cls2, dd2, data2, sl2⟩, ho2, hc2, n2, hd2⟩ := y
  simp only at hc hd hc2 hd2
  subst hc hd hc2 hd2
  exact richCompare_meets_room (T := "tuple") (id := "tuple.__lt__") (op := .Lt) ⟨_, ho, rfl⟩ ⟨_, ho2, rfl⟩ PySem.F.slot_tuple_lt PySem.F.entry_tuple_lt (PySem.F.args_tuple_lt_2 _ _) (lt_meets a a' n n2 dd dd2 sl sl2 q r t u t' u')
    ⟨ho, ho2, show Value.bool _ ≠ Value.notImplemented ∧ Q (.bool _) s from ⟨(fun x => nomatch x), h⟩⟩ hu

/-- a fraction and how often it stands in the row -/
def CountAt (h : Heap) (o : Obj) (r : (Int × Int) × Int) : Prop := o.cls = .type "tuple" ∧ ∃ v t n, o.data = .seq [v, .int r.2 t].toArray n ∧ FracAt h v r.1
def cdata (r : (Int × Int) × Int) : PyData := .tuple [.tuple [.int r.1.1, .int r.1.2], .int r.2]
theorem CountAt.reads {h : Heap} {a : Addr} {o : Obj} {r : (Int × Int) × Int} (x : CountAt h o r) (ho : h.get? a = some o) : Reads h (.ref a) (cdata r) [] := by
  obtain ⟨hc, v, t, n, hd, hf⟩ := x
  exact Reads.tuple ho hc hd (ReadsAll.cons (as := []) hf.reads (ReadsAll.cons (as := []) (.int _ _) .nil))
theorem ask_counts {a b : Addr} {o o' : Obj} {r r' : (Int × Int) × Int} {Q : Bool → Shared → Prop} (ha : s.heap.get? a = some o) (hb : s.heap.get? b = some o') (x : CountAt s.heap o r) (y : CountAt s.heap o' r') (hu : A.units + 1 < cLine) (hc : r.1 = r'.1 → r.2 = r'.2)
    (h : Q (decide (r.1.1 < r'.1.1 ∨ (r.1.1 = r'.1.1 ∧ r.1.2 < r'.1.2))) s) : wpAny (model prog w) A (keyLt' (tuples' false) (.ref a) (.ref b)) Q E s := by
  obtain ⟨_, v, t, n, hd, hf⟩ := x
  obtain ⟨_, v', t', n', hd', hf'⟩ := y
  refine kat_lt ha hd hb hd' (kat_cons (FracAt.eqAt hf hf' hu _ _ _ _ ?_))
  by_cases e : r.1 = r'.1
  · rw [decide_eq_true e]
    refine kat_yes (kat_cons (wpAny_eqBool_int ?_))
    rw [show (r.2 == r'.2) = true by simpa using hc e]
    refine kat_yes (kat_nil ?_)
    rw [show decide (r.1.1 < r'.1.1 ∨ (r.1.1 = r'.1.1 ∧ r.1.2 < r'.1.2)) = false by simp [e]] at h
    exact h
  · rw [decide_eq_false e]
    exact kat_no (kat_one _ _ (lt_fracs hf hf' (Nat.lt_of_succ_lt hu) h))

theorem pick_reads {h : Heap} {vs : List Value} {rs : List ((Int × Int) × Int)} (hl : vs.length = rs.length) (hr : ∀ (i : Nat) v r, vs[i]? = some v → rs[i]? = some r → Reads h v (cdata r) []) : ∀ l : List Nat, (∀ i ∈ l, i < rs.length) →
    ReadsAll h (l.map fun i => vs.getD i Value.none) ((l.map fun i => rs.getD i ((0, 0), 0)).map cdata) []
  | [], _ => .nil
  | i :: l, hh => by
    have hi := hh i (.head _)
    have e1 : vs[i]? = some (vs[i]'(hl ▸ hi)) := by simp
    have e2 : rs[i]? = some rs[i] := by simp
    refine ReadsAll.cons (as := []) ?_ (pick_reads hl hr l fun j hj => hh j (.tail _ hj))
    show Reads h (vs.getD i Value.none) (cdata (rs.getD i ((0, 0), 0))) []
    rw [List.getD_eq_getElem?_getD, List.getD_eq_getElem?_getD, e1, e2]
    exact hr i _ _ e1 e2

variable {h₀ : Heap} {L : Addr} {m : Str → Option Value} {news : List (Addr × Obj)} {vs : List Value}
theorem CountAt.keeps {h h' : Heap} {o : Obj} {r : (Int × Int) × Int} (x : CountAt h o r) (st : h.StaysIn h') : CountAt h' o r :=
  let ⟨hc, v, t, n, hd, hf⟩ := x; ⟨hc, v, t, n, hd, hf.keeps st⟩
theorem count_all {h : Heap} : ∀ (M : List (Addr × Obj)) (rs : List ((Int × Int) × Int)), M.length = rs.length → (∀ (i : Nat) p r, M[i]? = some p → rs[i]? = some r → CountAt h p.2 r) → (∀ p ∈ M, h.get? p.1 = some p.2) →
    ReadsAll h (M.map fun p => Value.ref p.1) (rs.map cdata) [] ∧ ∃ fs, KatTups h (M.map fun p => Value.ref p.1) fs ∧ fs.length = M.length ∧ ∀ v ∈ fs, ∃ q, FracAt h v q
  | [], [], _, _, _ => ⟨.nil, [], .nil, rfl, fun _ h => nomatch h⟩
  | [], _ :: _, hl, _, _ => nomatch hl
  | _ :: _, [], hl, _, _ => nomatch hl
  | p :: M, r :: rs, hl, hk, hm => by
    obtain ⟨h0, fs, h1, h2, h3⟩ := count_all M rs (by simpa using hl) (fun i p k hi hr => hk (i + 1) p k (by simpa using hi) (by simpa using hr)) fun q hq => hm q (.tail _ hq)
    have hc := hk 0 p r rfl rfl
    refine ⟨ReadsAll.cons (as := []) (hc.reads (hm p (.head _))) h0, ?_⟩
    obtain ⟨hc, v, t, n, hd, hf⟩ := hc
    refine ⟨v :: fs, .cons (hm p (.head _)) hc hd rfl h1, by simp [h2], fun z hz => ?_⟩
    rcases List.mem_cons.mp hz with rfl | hz
    · exact ⟨_, hf⟩
    · exact h3 z hz
theorem FracAt.looks {M : Model} {h : Heap} {v : Value} {q : Int × Int} (x : FracAt h v q) : PySem.W.Looks M h (typeOf v) (.type "tuple") := by
  obtain ⟨a, t, u, rfl, o, ho, hc, _⟩ := x
  rw [← hc]
  exact show PySem.W.Looks M h (typeOf (.ref a)) o.cls from (PySem.W.Looks.ld ho).andThen .now
theorem rank_good {q : Int × Int} (g : good q) : 2 * q.2 < 2 ^ 2002 ∧ -(2 ^ 2002) < 2 * q.2 := by
  have h := g.2.1
  have h0 := g.2.2.1
  have e : ((2 ^ 2002 : Nat) : Int) = 2 ^ 2002 := Int.natCast_pow 2 2002
  have e2 : (2 : Nat) ^ 2002 = 4 * 2 ^ 2000 := by rw [show (2002 : Nat) = 2000 + 2 from rfl, Nat.pow_add, Nat.mul_comm]
  unfold small at h
  rw [← e, e2]
  generalize (2 : Nat) ^ 2000 = X at h
  omega
theorem getm_count {l : Addr} {n : Nat} {pl : Sem Bool} {Q : Value × List Value → Shared → Prop} (ho : s.heap.get? l = some (listOf vs.toArray n)) (h : Q (.builtin "list.count", [.ref l]) s) : wpAny (model prog w) A (getMethod (.ref l) (Str.ofString "count") pl) Q E s :=
  getMethod_builtin ⟨_, ho, rfl⟩ PySem.F.plainAttrs_list PySem.F.slot_list_count PySem.F.type_list_count (fun a e => by cases e; exact ⟨_, ho, rfl⟩) h
/-- «sorted» of one item or none -/
theorem small_sorted {l : Addr} {Q : Value → Shared → Prop} (F : Fr h₀ L s.heap m) (N : News h₀ L s.heap news) (hl : s.heap.IsList l vs.toArray) (h2 : vs.length < 2)
    (h : ∀ D c h', Fr h₀ L h' m → News h₀ L h' ((D, listOf vs.toArray c) :: news) → Q (.ref D) { s with heap := h' }) : wpAny (model prog w) A (call (.builtin "sorted") [.ref l]) Q E s := by
  refine Calls.call_function_entry kind_sorted plain_sorted entry_sorted (args_sorted1 _) ?_
  unfold Builtin.«sorted»
  refine wpAny_bind (m := checkCount "sorted" 1 1 _) (wpAny_pure ?_)
  refine wpAny_bind (collect_list hl ?_ (by rw [sizeLine_eq]; omega))
  refine wpAny_bind (wpAny_newList ?_ (by rw [sizeLine_eq]; omega))
  obtain ⟨H, hH⟩ : ∃ H, H = (s.heap.push (seqObj "list" #[] 0)).update s.heap.objs.size (Obj.mapSeq (· ++ vs.toArray)) := ⟨_, rfl⟩
  show wpAny _ _ _ _ _ { s with heap := ((s.heap.push (seqObj "list" #[] 0)).update s.heap.objs.size (Obj.mapSeq (· ++ vs.toArray))).push (seqObj "list" vs.toArray 0) }
  rw [← hH]
  have keep1 : ∀ b o, s.heap.get? b = some o → H.get? b = some o := fun b o q => by
    have hlt : b < s.heap.objs.size := Heap.lt_size q
    rw [hH, Heap.get?_update_ne _ _ _ _ (Nat.ne_of_lt hlt), Heap.get?_push_ne _ _ _ (Nat.ne_of_lt hlt)]
    exact q
  have FH : Fr h₀ L H m := F.kept keep1
  have hoL : (H.push (seqObj "list" vs.toArray 0)).get? H.objs.size = some (seqObj "list" vs.toArray 0) := Heap.get?_push_size _ rfl
  have F2 := FH.push (seqObj "list" vs.toArray 0)
  have haL : H.objs.size ≠ L := Nat.ne_of_gt FH.ns.lt
  have ha0 : h₀.get? H.objs.size = none := next_is_new FH
  have N2 : News h₀ L (H.push (seqObj "list" vs.toArray 0)) news := (N.grown keep1).grown fun _ _ e => Heap.get?_push_of_some _ e
  have hD : ∀ q ∈ news, q.1 ≠ H.objs.size := fun q hq => Nat.ne_of_lt (Heap.lt_size (N.grown keep1 q hq).1)
  refine wpAny_bind (wpAny_holding (wpAny_call_entry slot_list_sort ⟨_, hoL, rfl⟩ entry_list_sort ?body (args_list_sort _)))
  case body =>
    show wpAny (model prog w) A.in1.in1 (Builtin.«list.sort» ⟨[.ref H.objs.size], []⟩) _ _ _
    generalize H.objs.size = D at hoL haL ha0 hD
    generalize H.push (seqObj "list" vs.toArray 0) = H2 at hoL F2 N2
    have s1 := Heap.SameBut.update H2 D (Obj.mapSeq fun _ => (#[] : Array Value))
    obtain ⟨e1, ho1⟩ : ∃ e1, (H2.update D (Obj.mapSeq fun _ => (#[] : Array Value))).get? D = some (seqObj "list" #[] e1) := ⟨_, get?_update_seq hoL fun _ => #[]⟩
    have F4 := ((kas_fr F2 s1 haL ha0).push (seqObj "tuple" vs.toArray 0)).push (seqObj "list" #[] 0)
    have N4 := (kas_news N2 s1 hD).grown fun b x e => Heap.get?_push_of_some (seqObj "list" #[] 0) (Heap.get?_push_of_some (seqObj "tuple" vs.toArray 0) e)
    have ho4 := Heap.get?_push_of_some (seqObj "list" #[] 0) (Heap.get?_push_of_some (seqObj "tuple" vs.toArray 0) ho1)
    rw [list_sort_plain]
    refine wpAny_bind (listItems_at hoL rfl ?_)
    refine wpAny_bind (listUpdate_at hoL rfl ?_ (by rw [List.size_toArray, sizeLine_eq]; omega) (Nat.zero_le _))
    refine wpAny_bind (seqEpoch_at ho1 rfl ?_)
    refine wpAny_bind (wpAny_newTuple ?_ (by show vs.length ≤ _; rw [sizeLine_eq]; omega))
    refine wpAny_bind (wpAny_newList ?_ (Nat.zero_le _))
    refine wpAny_holding ?_
    show wpAny (model prog w) A.in1.in1 _ _ _ { s with heap := ((H2.update D (Obj.mapSeq fun _ => (#[] : Array Value))).push (seqObj "tuple" vs.toArray 0)).push (seqObj "list" #[] 0) }
    generalize ((H2.update D (Obj.mapSeq fun _ => (#[] : Array Value))).push (seqObj "tuple" vs.toArray 0)).push (seqObj "list" #[] 0) = H5 at F4 N4 ho4
    dsimp only
    have hs : vs.toArray.size < 2 := by rw [List.size_toArray]; exact h2
    rw [if_pos hs, if_pos hs]
    refine wpAny_bind (wpAny_pure ?_)
    (try dsimp only)
    rw [StateT.run_pure]
    refine wpAny_bind (wpAny_pure ?_)
    (try dsimp only)
    have hout : (arrOf (SortSt.mk' general' (vs.toArray.zip vs.toArray) #[] 7 none)).map (·.2) = vs.toArray := by
      apply Array.toList_inj.mp
      show ((vs.toArray.zip vs.toArray).map (·.2)).toList = _
      rw [Array.toList_map, ksk_zip]
      exact List.map_snd_zip (Nat.le_refl _)
    rw [hout]
    have s2 := Heap.SameBut.update H5 D (Obj.mapSeq fun _ => vs.toArray)
    obtain ⟨c2, hc2⟩ : ∃ c2, (H5.update D (Obj.mapSeq fun _ => vs.toArray)).get? D = some (seqObj "list" vs.toArray c2) := ⟨_, get?_update_seq ho4 fun _ => vs.toArray⟩
    refine wpAny_bind (seqEpoch_at ho4 rfl ?_)
    refine wpAny_bind (listUpdate_at ho4 rfl ?_ (Nat.zero_le _) (by rw [List.size_toArray, sizeLine_eq]; omega))
    simp only [bne_self_eq_false, Bool.false_eq_true, if_false]
    refine wpAny_pure ⟨_, rfl, wpAny_pure ⟨_, rfl, h D c2 _ (kas_fr F4 s2 haL ha0) fun p hp => ?_⟩⟩
    rcases List.mem_cons.mp hp with rfl | hp
    · exact ⟨hc2, haL, ha0⟩
    · exact kas_news N4 s2 hD p hp
end

section
variable {w : World} {A : Around} {s : Shared} {mg mb : Str → Option Value} {p : Program} {loose : List Str} {mean : ExcName → Option Value} {c : Heap} {Q E : Value → Shared → Prop}

theorem pairwise_two {α : Type} {R : α → α → Prop} : ∀ {l : List α}, l.length < 2 → l.Pairwise R := fun {l} h => by
  cases l with
  | nil => exact .nil
  | cons a t =>
    cases t with
    | nil => exact List.pairwise_singleton _ _
    | cons b t => exact absurd h (Nat.not_lt.mpr (Nat.le_add_left 2 t.length))
/-- objects put down one by one -/
def PutsOk (R : Nat → Addr × Obj → Prop) (i : Nat) (ys : List Value) (M : List (Addr × Obj)) : Prop := ys = (M.map fun p => Value.ref p.1) ∧ M.length = i ∧ ∀ (j : Nat) p, M[j]? = some p → R j p
theorem PutsOk.snoc {R : Nat → Addr × Obj → Prop} {i : Nat} {ys : List Value} {M : List (Addr × Obj)} {a : Addr} {o : Obj} (x : PutsOk R i ys M) (ho : R i (a, o)) : PutsOk R (i + 1) (ys ++ [.ref a]) (M ++ [(a, o)]) :=
  ⟨by rw [List.map_append, x.1]; rfl, by rw [List.length_append, x.2.1]; rfl, fun j p hj => by
    by_cases hjl : j < M.length
    · rw [List.getElem?_append_left hjl] at hj
      exact x.2.2 j p hj
    · have hjl2 := (List.getElem?_eq_some_iff.mp hj).1
      rw [List.length_append, List.length_singleton] at hjl2
      have e : j = M.length := Nat.le_antisymm (Nat.le_of_lt_succ hjl2) (Nat.not_lt.mp hjl)
      rw [e, List.getElem?_append_right (Nat.le_refl _), Nat.sub_self] at hj
      rw [e, x.2.1, ← Option.some.inj hj]
      exact ho⟩
theorem off3_obj {I C D a : Addr} {o : Obj} {M : List (Addr × Obj)} (h : LCg.Off3 I C D M) (hr : a ≠ I ∧ a ≠ C ∧ a ≠ D) : LCg.Off3 I C D (M ++ [(a, o)]) :=
  LCg.Off3.of fun p hp => (List.mem_append.mp hp).elim (h.mem p) fun hp => List.mem_singleton.mp hp ▸ hr
theorem mem_obj {a : Addr} {o : Obj} {M : List (Addr × Obj)} {p : Addr × Obj} (h : p ∈ M ++ [(a, o)]) : p ∈ (a, o) :: M := (List.mem_append.mp h).elim (.tail _) fun h => List.mem_singleton.mp h ▸ .head _
set_option maxHeartbeats 4000000 in
theorem counted_spec {la : Addr} {lv : List Value} {lq : List (Int × Int)} {nl : Nat} (C : Amb (hd.heap_39 w.params) mg mb p loose mean c) (st : c.StaysIn s.heap)
    (hlo : s.heap.get? la = some (listOf lv.toArray nl)) (xl : FracsAt s.heap lv lq) (gl : ∀ q ∈ lq, good q) (lenl : lq.length ≤ 60)
    (hroom : A.depth + 2 < recursionLimit) (hu : A.units + 400 < cLine) (hh : A.handled = none)
    (ret : ∀ a h' tk' vs (rs : List ((Int × Int) × Int)) n', s.heap.StaysIn h' → s.heap.get? a = none → h'.get? a = some (listOf vs.toArray n') → ReadsAll h' vs (rs.map cdata) [] → rs.Perm (lq.map fun q => (q, (lq.count q : Int))) →
      rs.Pairwise (fun x y => rankK (2 ^ 2002) x.1 ≤ rankK (2 ^ 2002) y.1) → Q (.ref a) { s with heap := h', toks := tk' }) :
    wpAny (model PySem.Challenge.rw_pq1401_01.row.prog w) A (call (.ref 233) [.ref la] []) Q E s := by
  obtain ⟨hdl, dp, fr, gd, un⟩ := A
  obtain rfl : hdl = none := hh
  dsimp only at hroom hu
  w_top off; revert C; k_fill; intro C
  refine enterC C st [] (binds := [(Str.ofString "row", .ref la)]) (fun _ h => nomatch h) (fun _ h => nomatch h) (by k_is) (by k_is) (Nat.lt_of_le_of_lt (Nat.le_add_right _ 2) hroom) (BindsTo.of_eq (by rfl)) (by rfl) (by decide) (by rfl) (by rfl) (by rfl) ?_
  intro g L h₁ tk cells hg F N Y X T stc hL hN
  k_cells Y
  subst hg
  change Fr s.heap _ _ _ at F
  change News s.heap _ _ _ at N
  change (hd.heap_39 w.params).In s.heap at X
  change Top _ _ _ _ _ s.heap at T
  have hvl := xl.length
  have hl : s.heap.IsList la lv.toArray := ⟨_, hlo, rfl, _, rfl⟩
  have hstop : Stop 11 := trivial
  have hstop2 : Stop 13 := trivial
  refine postE fun QQ hQ => ?_
  k_steps
  rename_i oc doc
  refine Mark.of (LCg.ListComp_U (F₀ := by k_asm) (by with_unfolding_all rfl) (by decide) (by rfl) (by decide) (by rfl) ?_)
  k_steps
  refine Mark.of (LCg.CompSrc.base (by rfl) (by k_asm) (by k_asm) (by assumption) (by rw [sizeLine_eq, List.size_toArray, hvl]; exact Nat.le_trans lenl (by decide)) ?_)
  intro g'
  refine rest_inv (σ := List (Addr × Obj)) (fun M => (L + 1, oc) :: M) (PutsOk fun j p => ∀ q, lq[j]? = some q → CountAt s.heap p.2 (q, (lq.count q : Int))) [] ⟨rfl, rfl, fun j p h => nomatch h⟩ ?_ ?_
  · intro M i v ys I oI C1 oC D m₂ h tk2 E' hi hv J hyl hC hx F1 N1 off ne Q1 hQ1
    clear F N
    obtain ⟨q, hq, hf⟩ := xl.at (by simpa using hv)
    have hstop : Stop 20 := trivial
    k_steps
    refine Mark.of (getm_count (F1.keep _ _ hlo) ?_)
    k_steps
    refine count_fracs (base_list F1 hl) (xl.keeps F1.keep) (hf.keeps F1.keep) (by k_extra "my units") ?_
    k_steps
    rename_i a h3 F3 N3 l3
    exact hQ1 _ _ _ _ (M ++ [(a, _)]) F3 N3 (List.forall_mem_cons.mpr ⟨.tail _ (.head _), List.forall_mem_cons.mpr ⟨.tail _ (.tail _ (.head _)), List.forall_mem_cons.mpr ⟨.tail _ (.tail _ (.tail _ (.head _))), List.forall_mem_cons.mpr ⟨.tail _ (.tail _ (.tail _ (.tail _ (.head _)))), fun p hp =>
        (List.mem_cons.mp (mem_obj hp)).elim (fun e => e ▸ .head _) fun hp => .tail _ (.tail _ (.tail _ (.tail _ (.tail _ hp))))⟩⟩⟩⟩)
      ⟨off.1, off3_obj off.2 ⟨Nat.ne_of_gt l3.1, Nat.ne_of_gt l3.2.1, Nat.ne_of_gt l3.2.2.1⟩⟩ (.inl hl) (J.snoc fun r hr => Option.some.inj (hq.symm.trans hr) ▸ ⟨rfl, v, _, _, rfl, hf⟩)
  · intro ys M hyl J
    clear F N
    obtain rfl := J.1
    have hMl := J.2.1
    have hM := J.2.2
    clear J
    unfold LCg.FinE
    intro D h tk2 F N o1
    dsimp only
    k_steps
    rw [List.size_toArray, hvl] at hMl
    have hMr : (M.map fun p => Value.ref p.1).length = lq.length := by rw [List.length_map, hMl]
    have hat : ∀ {h' : Heap}, s.heap.StaysIn h' → ∀ (i : Nat) p r, M[i]? = some p → (lq.map fun q => (q, (lq.count q : Int)))[i]? = some r → CountAt h' p.2 r := fun st i p r hi hr => by
      rw [List.getElem?_map] at hr
      obtain ⟨q, hq, rfl⟩ := Option.map_eq_some_iff.mp hr
      exact (hM i p hi q hq).keeps st
    have hrl : M.length = (lq.map fun q => (q, (lq.count q : Int))).length := by rw [List.length_map, hMl]
    by_cases hs : lq.length < 2
    · refine Mark.of (small_sorted F N (News.isList N (.head _)) (by rw [hMr]; exact hs) fun D2 c2 h' F' N' => ?_)
      have nD := N' _ (.head _)
      refine hQ _ _ (ret D2 h' _ _ _ c2 F'.keep nD.2.2 nD.1 (count_all M _ hrl (hat F'.keep) fun p hp => (N' p (.tail _ (.tail _ (.tail _ hp)))).1).1 (.refl _) ?_)
      exact pairwise_two (by rw [List.length_map]; exact hs)
    · refine Mark.of (kat_sorted F N (News.isList N (.head _)) (by rw [hMr]; exact Nat.not_lt.mp hs) (by rw [hMr]; exact Nat.lt_of_le_of_lt lenl (by decide)) fun D2 e1 h' F' N' hD2 => ?_)
      have nD := N' _ (.head _)
      have hm : ∀ p ∈ M, h'.get? p.1 = some p.2 := fun p hp => (N' p (.tail _ (.tail _ (.tail _ hp)))).1
      obtain ⟨_, fs, t1, t2, t3⟩ := count_all M _ hrl (hat F'.keep) hm
      refine kat_kind (T := .type "tuple") t1 (by rw [t2, hMl]; exact Nat.lt_of_lt_of_le (by decide) (Nat.not_lt.mp hs)) (fun v hv => (t3 v hv).elim fun q hq => hq.looks) rfl ?_
      rw [show tuples' (Value.type "tuple" != Value.type "tuple") = tuples' false by congr 1]
      have hatI : ∀ i, i < (M.map fun p => Value.ref p.1).length → ∀ Z : Prop, (∀ p q, lq.getD i (0, 0) = q → CountAt h' p.2 (q, (lq.count q : Int)) → p ∈ M → q ∈ lq → (M.map fun p => Value.ref p.1).getD i Value.none = .ref p.1 → Z) → Z := fun i hi Z k => by
        rw [hMr] at hi
        have e1 : M[i]? = some (M[i]'(hMl ▸ hi)) := List.getElem?_eq_getElem _
        have e2 : lq[i]? = some lq[i] := List.getElem?_eq_getElem _
        exact k _ _ (by rw [List.getD_eq_getElem?_getD, e2]; rfl) ((hM i _ e1 _ e2).keeps F'.keep) (List.getElem_mem _) (List.getElem_mem _) (by rw [List.getD_eq_getElem?_getD, List.getElem?_map, e1]; rfl)
      refine sort_ (I := Eq _) (r := fun i => rankK (2 ^ 2002) (lq.getD i (0, 0))) (n := (M.map fun p => Value.ref p.1).length) ?_ (by rw [hMr]; exact Nat.lt_of_lt_of_le (by decide) (Nat.not_lt.mp hs)) rfl ?_
      · rintro i j Cc _ hi hj rfl hC
        refine hatI i hi _ fun p q p2 p3 p4 p5 p6 => hatI j hj _ fun p' q' p2' p3' p4' p5' p6' => ?_
        show wpAny _ _ (keyLt' _ ((M.map fun p => Value.ref p.1).getD i Value.none) ((M.map fun p => Value.ref p.1).getD j Value.none)) _ _ _
        rw [p6, p6']
        refine ask_counts (hm p p4) (hm p' p4') p3 p3' (by k_extra "my units") (fun e => by dsimp only at e ⊢; rw [e]) ?_
        have hC2 : Cc (decide (rankK (2 ^ 2002) (lq.getD i (0, 0)) < rankK (2 ^ 2002) (lq.getD j (0, 0)))) _ := hC _ rfl
        rw [p2, p2'] at hC2
        have g1 := rank_good (gl q p5)
        have g2 := rank_good (gl q' p5')
        rw [decide_eq_decide.mpr (rank_iff g1.1 g1.2 g2.1 g2.2)] at hC2
        exact hC2
      · rintro pm _ rfl hp hu
        rw [hMr] at hp hu
        have hp' : Ix (lq.map fun q => (q, (lq.count q : Int))).length pm := by rw [List.length_map]; exact hp
        refine KasFin.intro F' N' (UpdF.head fun q hq => Nat.ne_of_lt (hD2 q hq)) fun h2 c2 F2 N2 => ?_
        refine hQ _ _ (ret D2 h2 _ _ _ c2 F2.keep nD.2.2 (N2 _ (.head _)).1 (pick_reads (by simpa using hrl) (fun i v r hv hr => ?_) pm.toList fun i hi => ?_) (pick_perm hp') (pick_sorted hp' (by rw [List.length_map]; exact hu) fun i j hi hj hr => ?_))
        · obtain ⟨p, hpM, rfl⟩ : ∃ p, M[i]? = some p ∧ Value.ref p.1 = v := by simpa using hv
          exact (hat F2.keep i p r hpM hr).reads (N2 _ (.tail _ (.tail _ (.tail _ (List.mem_of_getElem? hpM))))).1
        · have := (Array.perm_iff_toList_perm.mp hp').mem_iff.mp hi
          simpa using this
        · have e : ∀ k, k < lq.length → ((lq.map fun q => (q, (lq.count q : Int))).getD k ((0, 0), 0)).1 = lq.getD k (0, 0) := fun k hk => by simp [List.getD_eq_getElem?_getD, hk]
          rw [List.length_map] at hi hj
          rw [e i hi, e j hj]
          exact hr
end
/-- the state of a Vector as its making leaves it -/
abbrev vecD (w : World) (kind items attrs : Value) (t0 t1 t2 t3 t4 : Tok) (n : Nat) : Obj :=
  dictOf [⟨PyData.keyHash w.params (Str.ofString "kind"), .str (Str.ofString "kind") t0, kind⟩, ⟨PyData.keyHash w.params (Str.ofString "items"), .str (Str.ofString "items") t1, items⟩,
    ⟨PyData.keyHash w.params (Str.ofString "attrs"), .str (Str.ofString "attrs") t2, attrs⟩, ⟨PyData.keyHash w.params (Str.ofString "shared"), .str (Str.ofString "shared") t3, .bool false⟩,
    ⟨PyData.keyHash w.params (Str.ofString "loose"), .str (Str.ofString "loose") t4, .bool false⟩] n
theorem Fr.hid {h₀ h h' g : Heap} {L : Addr} {m : Str → Option Value} {hid : List Addr} (F : Fr h₀ L h m) (hg : g = hideAll h hid) (k : ∀ b o, g.get? b = some o → h'.get? b = some o) (hL : L ∉ hid) (h0 : ∀ a ∈ hid, h₀.get? a = none) : Fr h₀ L h' m :=
  ⟨F.ns.at' fun o e => k _ _ (by rw [hg]; exact hideAll_get _ e hL), fun b o e => k _ _ (by rw [hg]; exact hideAll_get _ (F.keep b o e) fun hb => by rw [h0 b hb] at e; cases e), F.above⟩
theorem News.hid {h₀ h h' g : Heap} {L : Addr} {news : List (Addr × Obj)} {hid : List Addr} (N : News h₀ L h news) (hg : g = hideAll h hid) (k : ∀ b o, g.get? b = some o → h'.get? b = some o) (hn : ∀ q ∈ news, q.1 ∉ hid) : News h₀ L h' news :=
  fun q hq => ⟨k _ _ (by rw [hg]; exact hideAll_get _ (N q hq).1 (hn q hq)), (N q hq).2⟩
theorem off2 {x y q : Addr} (h1 : @Ne Nat x q) (h2 : @Ne Nat y q) : q ∉ [x, y] := fun h => (List.mem_cons.mp h).elim (fun e => h1 e.symm) fun h => h2 (List.mem_singleton.mp h).symm
theorem nth {α} {l : List α} (i : Nat) {x : α} (h : l[i]? = some x := by rfl) : x ∈ l := List.mem_of_getElem? h
section
variable {w : World} {A : Around} {s : Shared} {mg mb : Str → Option Value} {p : Program} {loose : List Str} {mean : ExcName → Option Value} {h₀ : Heap} {L : Addr} {m : Str → Option Value} {news : List (Addr × Obj)} {Q E : Value → Shared → Prop}
set_option maxHeartbeats 4000000 in
theorem vector_new {kind items : Value} (C : Amb (hd.heap_39 w.params) mg mb p loose mean h₀) (F : Fr h₀ L s.heap m) (N : News h₀ L s.heap news) (hroom : A.depth + 1 < recursionLimit) (hu : A.units + 400 < cLine)
    (ret : ∀ x dx t0 t1 t2 t3 t4 n h' tk', Fr h₀ L h' m → News h₀ L h' ((x, instObj 144 dx) :: (dx, vecD w kind items .none t0 t1 t2 t3 t4 n) :: news) → (∀ q ∈ news, q.1 < dx) → dx < x → Q (.ref x) { s with heap := h', toks := tk' }) :
    wpAny (model PySem.Challenge.rw_pq1401_01.row.prog w) A (call (.ref 144) [kind, items] []) Q E s := by
  w_top off; revert C; k_fill; intro C
  refine call_cls F C.X N (by k_is) (by k_is) (by k_is) ?_
  intro x dx h1 F1 N1 l1 l2
  replace l2 : @LT.lt Nat _ dx x := l2
  have nx := N1 _ (.head _)
  have nd := N1 _ (.tail _ (.head _))
  refine enterCode (c := h₀) C F1.keep [(x, instObj 144 dx), (dx, dictOf [] 0)] (binds := [(Str.ofString "self", .ref x), (Str.ofString "kind", kind), (Str.ofString "items", items), (Str.ofString "attrs", .none)])
    (List.forall_mem_cons.mpr ⟨nx.1, List.forall_mem_cons.mpr ⟨nd.1, fun _ h => nomatch h⟩⟩) (List.forall_mem_cons.mpr ⟨nx.2.2, List.forall_mem_cons.mpr ⟨nd.2.2, fun _ h => nomatch h⟩⟩)
    (by k_is) (by k_is) ?_ (binds_K (C.X.keeps F1.keep) rfl (by k_is) rfl rfl rfl) (by exact locs rfl) (by rfl) (by rfl) (by rfl) (by decide) ?_
  · show A.depth + 1 < recursionLimit; exact hroom
  · intro g L2 h2 hg F2 N2 X2 T2 st2 hL2
    k_steps
    rename_i h4 h5 F5 N5
    have hx := N5 _ (nth 0)
    have hd := N5 _ (nth 1)
    exact ⟨rfl, ret x dx _ _ _ _ _ _ _ _ (Fr.hid F1 hg F5.keep (off2 nx.2.1 nd.2.1) (List.forall_mem_cons.mpr ⟨nx.2.2, List.forall_mem_cons.mpr ⟨nd.2.2, fun _ h => nomatch h⟩⟩))
      (List.forall_mem_cons.mpr ⟨⟨hx.1, nx.2⟩, List.forall_mem_cons.mpr ⟨⟨hd.1, nd.2⟩, News.hid (fun q hq => N1 q (.tail _ (.tail _ hq))) hg F5.keep fun q hq => off2 (Nat.ne_of_gt (Nat.lt_trans (l1 q hq) l2)) (Nat.ne_of_gt (l1 q hq))⟩⟩) l1 l2⟩
end
theorem stays_back {h h' g : Heap} {news : List (Addr × Obj)} (hg : g = hideAll h (news.map (·.1))) (k : g.StaysIn h') (hn : ∀ q ∈ news, h.get? q.1 = some q.2) (N : ∀ q ∈ news, h'.get? q.1 = some q.2) : h.StaysIn h' := fun b ob eb => by
  by_cases hb : b ∈ news.map (·.1)
  · obtain ⟨q, hq, rfl⟩ := List.mem_map.mp hb
    rw [hn q hq] at eb; cases eb; exact N q hq
  · exact k b ob (by rw [hg]; exact hideAll_get _ eb hb)
section
variable {w : World} {A : Around} {s : Shared} {mg mb : Str → Option Value} {p : Program} {loose : List Str} {mean : ExcName → Option Value} {c : Heap} {Q E : Value → Shared → Prop}
/-- what a Vector stands in the heap by -/
structure VecAt (w : World) (h : Heap) (c : Heap) (x dx : Addr) (kind items attrs : Value) (t0 t1 t2 t3 t4 : Tok) (n : Nat) : Prop where
  hx : h.get? x = some (instObj 144 dx)
  hd : h.get? dx = some (vecD w kind items attrs t0 t1 t2 t3 t4 n)
  cx : c.get? x = none
  cd : c.get? dx = none
  ne : @LT.lt Nat _ dx x

set_option maxHeartbeats 4000000 in
theorem get_attr_none {x dx : Addr} {kind items : Value} {t0 t1 t2 t3 t4 : Tok} {n : Nat} {nm : Str} {tn : Tok} (C : Amb (hd.heap_39 w.params) mg mb p loose mean c) (st : c.StaysIn s.heap) (V : VecAt w s.heap c x dx kind items .none t0 t1 t2 t3 t4 n)
    (hroom : A.depth < recursionLimit)
    (ret : ∀ h' tk', s.heap.StaysIn h' → Q .none { s with heap := h', toks := tk' }) :
    wpAny (model PySem.Challenge.rw_pq1401_01.row.prog w) A (call (.ref 28) [.ref x, .str nm tn] []) Q E s := by
  w_top off; revert C; k_fill; intro C
  have hne := V.ne
  have hn : ∀ q ∈ [(x, instObj 144 dx), (dx, vecD w kind items .none t0 t1 t2 t3 t4 n)], s.heap.get? q.1 = some q.2 := List.forall_mem_cons.mpr ⟨V.hx, List.forall_mem_cons.mpr ⟨V.hd, fun _ h => nomatch h⟩⟩
  refine enter C st _ (binds := [(Str.ofString "v", .ref x), (Str.ofString "name", .str nm tn)]) hn (List.forall_mem_cons.mpr ⟨V.cx, List.forall_mem_cons.mpr ⟨V.cd, fun _ h => nomatch h⟩⟩) (by k_is) (by k_is) hroom (BindsTo.of_eq (by rfl)) (by exact locs rfl) (by rfl) (by rfl) (by rfl) (by decide) ?_
  intro g L h₁ hg F N X T stc hL
  k_steps
  exact ret _ _ (stays_back hg F.keep hn fun q hq => (N q hq).1)

theorem get1_of {d : Addr} {kvs : List (Str × Value)} {k : Str} {t : Tok} (hd : s.heap.DictOf (PySem.strKind PySem.Challenge.rw_pq1401_01.row.prog w) d kvs) (lo : (d == sysModules) = false) (h : Q ((valueAt kvs k).getD .none) { s with toks := s.toks + 1 }) :
    wpAny (model PySem.Challenge.rw_pq1401_01.row.prog w) A (call (.builtin "dict.get") [.ref d, .str k t]) Q E s :=
  call_meetsIn PySem.F.slot_dict_get hd.typeIs PySem.F.entry_dict_get (PySem.F.args_dict_get_2 _ _) (meets_dict_get _ d (strKind_is _ _ k t) lo) ⟨_, hd.mapOf, h⟩
set_option maxHeartbeats 4000000 in
theorem get_attr_dict {x dx ad : Addr} {od : Obj} {kvs : List (Str × Value)} {kind items : Value} {t0 t1 t2 t3 t4 : Tok} {n : Nat} {nm : Str} {tn : Tok} (C : Amb (hd.heap_39 w.params) mg mb p loose mean c) (st : c.StaysIn s.heap) (V : VecAt w s.heap c x dx kind items (.ref ad) t0 t1 t2 t3 t4 n)
    (ha : s.heap.get? ad = some od) (hc : c.get? ad = none) (lo : (ad == sysModules) = false) (hod : od.IsDictOf (PySem.strKind PySem.Challenge.rw_pq1401_01.row.prog w) kvs)
    (hroom : A.depth < recursionLimit)
    (ret : ∀ h' tk', s.heap.StaysIn h' → Q ((valueAt kvs nm).getD .none) { s with heap := h', toks := tk' }) :
    wpAny (model PySem.Challenge.rw_pq1401_01.row.prog w) A (call (.ref 28) [.ref x, .str nm tn] []) Q E s := by
  w_top off; revert C; k_fill; intro C
  have hne := V.ne
  have hn : ∀ q ∈ [(x, instObj 144 dx), (dx, vecD w kind items (.ref ad) t0 t1 t2 t3 t4 n), (ad, od)], s.heap.get? q.1 = some q.2 := List.forall_mem_cons.mpr ⟨V.hx, List.forall_mem_cons.mpr ⟨V.hd, List.forall_mem_cons.mpr ⟨ha, fun _ h => nomatch h⟩⟩⟩
  refine enter C st _ (binds := [(Str.ofString "v", .ref x), (Str.ofString "name", .str nm tn)]) hn (List.forall_mem_cons.mpr ⟨V.cx, List.forall_mem_cons.mpr ⟨V.cd, List.forall_mem_cons.mpr ⟨hc, fun _ h => nomatch h⟩⟩⟩) (by k_is) (by k_is) hroom (BindsTo.of_eq (by rfl)) (by exact locs rfl) (by rfl) (by rfl) (by rfl) (by decide) ?_
  intro g L h₁ hg F N X T stc hL
  k_steps
  refine get1_of (Heap.dictOf_iff.mpr ⟨_, (N _ (.tail _ (.tail _ (.head _)))).1, hod⟩) lo ?_
  exact ret _ _ (stays_back hg F.keep hn fun q hq => (N q hq).1)
end
/-- what get_attr gives of an object, from a state on -/
def GetsAttr (w : World) (h : Heap) (x : Addr) (nm : Str) (r : Value) : Prop := ∀ (A : Around) (s : Shared) (tn : Tok) (Q E : Value → Shared → Prop), h.StaysIn s.heap → A.depth < recursionLimit →
  (∀ h' tk', s.heap.StaysIn h' → Q r { s with heap := h', toks := tk' }) → wpAny (model PySem.Challenge.rw_pq1401_01.row.prog w) A (call (.ref 28) [.ref x, .str nm tn] []) Q E s
theorem none_back {h g : Heap} {b : Addr} {hid : List Addr} (hg : g = hideAll h hid) (hb : b ∉ hid) (e : g.get? b = none) : h.get? b = none := by
  cases e2 : h.get? b with
  | none => rfl
  | some o => rw [hg, hideAll_get _ e2 hb] at e; cases e
theorem list_hid {h g : Heap} {l : Addr} {xs : Array Value} {hid : List Addr} (hl : h.IsList l xs) (hg : g = hideAll h hid) (hb : l ∉ hid) : g.IsList l xs := by
  obtain ⟨o, ho, r⟩ := hl
  exact ⟨o, by rw [hg]; exact hideAll_get _ ho hb, r⟩
section
variable {w : World} {A : Around} {s : Shared} {mg mb : Str → Option Value} {p : Program} {loose : List Str} {mean : ExcName → Option Value} {c : Heap} {Q E : Value → Shared → Prop}

set_option maxHeartbeats 4000000 in
theorem dim_none {x : Addr} (C : Amb (hd.heap_39 w.params) mg mb p loose mean c) (st : c.StaysIn s.heap) (G : GetsAttr w s.heap x (Str.ofString "dim") .none) (hroom : A.depth + 1 < recursionLimit)
    (ret : ∀ h' tk', s.heap.StaysIn h' → Q .none { s with heap := h', toks := tk' }) :
    wpAny (model PySem.Challenge.rw_pq1401_01.row.prog w) A (call (.ref 40) [.ref x] []) Q E s := by
  w_top off; revert C; k_fill; intro C
  refine enter C st [] (binds := [(Str.ofString "v", .ref x)]) (fun _ h => nomatch h) (fun _ h => nomatch h) (by k_is) (by k_is) (Nat.lt_of_succ_lt hroom) (BindsTo.of_eq (by rfl)) (by exact locs rfl) (by rfl) (by rfl) (by rfl) (by decide) ?_
  intro g L h₁ hg F N X T stc hL
  subst hg
  change Fr s.heap _ _ _ at F
  change News s.heap _ _ _ at N
  change (hd.heap_39 w.params).In s.heap at X
  change Top _ _ _ _ _ s.heap at T
  k_steps
  refine G _ _ _ _ _ F.keep (by k_extra "my depth") ?_
  k_extra "my stay"
  k_steps
  exact ret _ _ (Fr.keep (by assumption))

set_option maxHeartbeats 4000000 in
theorem dim_some {x y dy li : Addr} {v : Value} {kind attrs : Value} {t0 t1 t2 t3 t4 : Tok} {n : Nat} (C : Amb (hd.heap_39 w.params) mg mb p loose mean c) (st : c.StaysIn s.heap) (G : GetsAttr w s.heap x (Str.ofString "dim") (.ref y)) (V : VecAt w s.heap c y dy kind (.ref li) attrs t0 t1 t2 t3 t4 n)
    (hl : s.heap.IsList li [v].toArray) (hli : li ∉ [y, dy]) (hroom : A.depth + 1 < recursionLimit)
    (ret : ∀ a n' h' tk', s.heap.StaysIn h' → s.heap.get? a = none → h'.get? a = some (listOf [v].toArray n') → Q (.ref a) { s with heap := h', toks := tk' }) :
    wpAny (model PySem.Challenge.rw_pq1401_01.row.prog w) A (call (.ref 40) [.ref x] []) Q E s := by
  w_top off; revert C; k_fill; intro C
  have hne := V.ne
  have hn : ∀ q ∈ [(y, instObj 144 dy), (dy, vecD w kind (.ref li) attrs t0 t1 t2 t3 t4 n)], s.heap.get? q.1 = some q.2 := List.forall_mem_cons.mpr ⟨V.hx, List.forall_mem_cons.mpr ⟨V.hd, fun _ h => nomatch h⟩⟩
  refine enter C st _ (binds := [(Str.ofString "v", .ref x)]) hn (List.forall_mem_cons.mpr ⟨V.cx, List.forall_mem_cons.mpr ⟨V.cd, fun _ h => nomatch h⟩⟩) (by k_is) (by k_is) (Nat.lt_of_succ_lt hroom) (BindsTo.of_eq (by rfl)) (by exact locs rfl) (by rfl) (by rfl) (by rfl) (by decide) ?_
  intro g L h₁ hg F N X T stc hL
  have hlg := list_hid hl hg hli
  k_steps
  refine G _ _ _ _ _ (stays_back hg F.keep hn fun q hq => (N q hq).1) (by k_extra "my depth") ?_
  k_extra "my stay"
  k_steps
  rename Fr _ _ _ _ => F5
  rename News _ _ _ _ => N5
  rename _ ∧ _ => l5
  have n5 := N5 _ (.head _)
  refine ret _ _ _ _ (stays_back hg F5.keep hn fun q hq => (N5 q (.tail _ hq)).1) (none_back hg (fun h => ?_) n5.2.2) n5.1
  rcases List.mem_cons.mp h with e | h
  · exact Nat.lt_irrefl _ (e ▸ l5.1)
  · exact Nat.lt_irrefl _ ((List.mem_singleton.mp h) ▸ l5.2)

set_option maxHeartbeats 4000000 in
theorem dimnames_some {x y dy li z dz lw : Addr} {ws : List Value} {kind attrs attrs' : Value} {t0 t1 t2 t3 t4 t5 t6 t7 t8 t9 tk : Tok} {n n' : Nat} (C : Amb (hd.heap_39 w.params) mg mb p loose mean c) (st : c.StaysIn s.heap) (G : GetsAttr w s.heap x (Str.ofString "dimnames") (.ref y))
    (V : VecAt w s.heap c y dy kind (.ref li) attrs t0 t1 t2 t3 t4 n) (W : VecAt w s.heap c z dz (.str (Str.ofString "character") tk) (.ref lw) attrs' t5 t6 t7 t8 t9 n') (hzy : @LT.lt Nat _ z dy)
    (hl : s.heap.IsList li [.ref z].toArray) (hw : s.heap.IsList lw ws.toArray) (hwl : ws.length ≤ 60) (hli : li ∉ [y, dy, z, dz]) (hlw : lw ∉ [y, dy, z, dz]) (hroom : A.depth + 1 < recursionLimit) (hh : A.handled = none)
    (ret : ∀ a b n' n'' h' tk', s.heap.StaysIn h' → h'.get? a = some (listOf [.ref b].toArray n') → h'.get? b = some (listOf ws.toArray n'') → s.heap.get? a = none → s.heap.get? b = none → Q (.ref a) { s with heap := h', toks := tk' }) :
    wpAny (model PySem.Challenge.rw_pq1401_01.row.prog w) A (call (.ref 45) [.ref x] []) Q E s := by
  obtain ⟨hdl, dp, fr, gd, un⟩ := A
  obtain rfl : hdl = none := hh
  w_top off; revert C; k_fill; intro C
  have hne := V.ne
  have hne2 := W.ne
  have hn : ∀ q ∈ [(y, instObj 144 dy), (dy, vecD w kind (.ref li) attrs t0 t1 t2 t3 t4 n), (z, instObj 144 dz), (dz, vecD w (.str (Str.ofString "character") tk) (.ref lw) attrs' t5 t6 t7 t8 t9 n')], s.heap.get? q.1 = some q.2 :=
    List.forall_mem_cons.mpr ⟨V.hx, List.forall_mem_cons.mpr ⟨V.hd, List.forall_mem_cons.mpr ⟨W.hx, List.forall_mem_cons.mpr ⟨W.hd, fun _ h => nomatch h⟩⟩⟩⟩
  refine enter C st _ (binds := [(Str.ofString "v", .ref x)]) hn (List.forall_mem_cons.mpr ⟨V.cx, List.forall_mem_cons.mpr ⟨V.cd, List.forall_mem_cons.mpr ⟨W.cx, List.forall_mem_cons.mpr ⟨W.cd, fun _ h => nomatch h⟩⟩⟩⟩) (by k_is) (by k_is) (Nat.lt_of_succ_lt hroom) (BindsTo.of_eq (by rfl)) (by exact locs rfl) (by rfl) (by rfl) (by rfl) (by decide) ?_
  intro g L h₁ hg F N X T stc hL
  have hlg := list_hid hl hg hli
  have hwg := list_hid hw hg hlw
  have hws : ws.length < 2 ^ 62 := Nat.lt_of_le_of_lt hwl (by decide)
  have e1 : @LT.lt Nat _ z y := Nat.lt_trans hzy hne
  have e2 : @LT.lt Nat _ dz dy := Nat.lt_trans hne2 hzy
  have e3 : @LT.lt Nat _ dz y := Nat.lt_trans e2 hne
  k_steps
  refine G _ _ _ _ _ (stays_back hg F.keep hn fun q hq => (N q hq).1) (by k_extra "my depth") ?_
  k_extra "my stay"
  k_steps
  rename Fr _ _ _ _ => F5
  rename News _ _ _ _ => N5
  rename _ ∧ _ ∧ _ ∧ _ ∧ _ ∧ _ ∧ _ => l5
  have n5 := N5 _ (.tail _ (.head _))
  have n4 := N5 _ (.head _)
  obtain ⟨_, _, _, m1, m2, m3, m4⟩ := l5
  refine ret _ _ _ _ _ _ (stays_back hg F5.keep hn fun q hq => (N5 q (.tail _ (.tail _ hq))).1) n4.1 n5.1 (none_back hg (fun h => ?_) n4.2.2) (none_back hg (fun h => ?_) n5.2.2)
  · rename _ ∧ _ ∧ _ ∧ _ ∧ _ => l6
    obtain ⟨_, m1, m2, m3, m4⟩ := l6
    rcases List.mem_cons.mp h with e | h
    · exact m1 e.symm
    rcases List.mem_cons.mp h with e | h
    · exact m2 e.symm
    rcases List.mem_cons.mp h with e | h
    · exact m3 e.symm
    · exact m4 (List.mem_singleton.mp h).symm
  · rcases List.mem_cons.mp h with e | h
    · exact Nat.lt_irrefl _ (e ▸ m1)
    rcases List.mem_cons.mp h with e | h
    · exact Nat.lt_irrefl _ (e ▸ m2)
    rcases List.mem_cons.mp h with e | h
    · exact Nat.lt_irrefl _ (e ▸ m3)
    · exact Nat.lt_irrefl _ ((List.mem_singleton.mp h) ▸ m4)

theorem VecAt.from {h h' c : Heap} {x dx : Addr} {kind items attrs : Value} {t0 t1 t2 t3 t4 : Tok} {n : Nat} (V : VecAt w h c x dx kind items attrs t0 t1 t2 t3 t4 n) (st : h.StaysIn h') : VecAt w h' c x dx kind items attrs t0 t1 t2 t3 t4 n :=
  ⟨st _ _ V.hx, st _ _ V.hd, V.cx, V.cd, V.ne⟩
theorem GetsAttr.from {h h' : Heap} {x : Addr} {nm : Str} {r : Value} (G : GetsAttr w h x nm r) (st : h.StaysIn h') : GetsAttr w h' x nm r := fun A s tn Q E k => G A s tn Q E (stay2 st k)

set_option maxHeartbeats 4000000 in
theorem names_none {x dx : Addr} {items attrs : Value} {t0 t1 t2 t3 t4 tk : Tok} {n : Nat} (C : Amb (hd.heap_39 w.params) mg mb p loose mean c) (st : c.StaysIn s.heap) (V : VecAt w s.heap c x dx (.str (Str.ofString "integer") tk) items attrs t0 t1 t2 t3 t4 n)
    (G : GetsAttr w s.heap x (Str.ofString "dim") .none) (G2 : GetsAttr w s.heap x (Str.ofString "names") .none) (hroom : A.depth + 2 < recursionLimit)
    (ret : ∀ h' tk', s.heap.StaysIn h' → Q .none { s with heap := h', toks := tk' }) :
    wpAny (model PySem.Challenge.rw_pq1401_01.row.prog w) A (call (.ref 33) [.ref x] []) Q E s := by
  w_top off; revert C; k_fill; intro C
  have hne := V.ne
  have hn : ∀ q ∈ [(x, instObj 144 dx), (dx, vecD w (.str (Str.ofString "integer") tk) items attrs t0 t1 t2 t3 t4 n)], s.heap.get? q.1 = some q.2 := List.forall_mem_cons.mpr ⟨V.hx, List.forall_mem_cons.mpr ⟨V.hd, fun _ h => nomatch h⟩⟩
  refine enter C st _ (binds := [(Str.ofString "v", .ref x)]) hn (List.forall_mem_cons.mpr ⟨V.cx, List.forall_mem_cons.mpr ⟨V.cd, fun _ h => nomatch h⟩⟩) (by k_is) (by k_is) (Nat.lt_of_succ_lt (Nat.lt_of_succ_lt hroom)) (BindsTo.of_eq (by rfl)) (by exact locs rfl) (by rfl) (by rfl) (by rfl) (by decide) ?_
  intro g L h₁ hg F N X T stc hL
  k_steps
  refine dim_none ⟨X, T⟩ F.keep (G.from (stays_back hg F.keep hn fun q hq => (N q hq).1)) (by k_extra "my depth") ?_
  k_extra "my stay"
  k_steps
  rename Fr _ _ _ _ => F5
  rename News _ _ _ _ => N5
  refine G2 _ _ _ _ _ (stays_back hg F5.keep hn fun q hq => (N5 q hq).1) (by k_extra "my depth") ?_
  k_extra "my stay"
  k_steps
  rename Fr _ _ _ _ => F6
  rename News _ _ _ _ => N6
  exact ret _ _ (stays_back hg F6.keep hn fun q hq => (N6 q hq).1)

set_option maxHeartbeats 4000000 in
theorem names_list {x dx y dy lw : Addr} {ws : List Value} {items attrs kind attrs' : Value} {t0 t1 t2 t3 t4 t5 t6 t7 t8 t9 tk : Tok} {n n' : Nat} (C : Amb (hd.heap_39 w.params) mg mb p loose mean c) (st : c.StaysIn s.heap) (V : VecAt w s.heap c x dx (.str (Str.ofString "integer") tk) items attrs t0 t1 t2 t3 t4 n)
    (W : VecAt w s.heap c y dy kind (.ref lw) attrs' t5 t6 t7 t8 t9 n') (hyx : @LT.lt Nat _ x dy) (hw : s.heap.IsList lw ws.toArray) (hwl : ws.length ≤ 60) (hlw : lw ∉ [x, dx, y, dy])
    (G : GetsAttr w s.heap x (Str.ofString "dim") .none) (G2 : GetsAttr w s.heap x (Str.ofString "names") (.ref y)) (hroom : A.depth + 2 < recursionLimit)
    (ret : ∀ b n' h' tk', s.heap.StaysIn h' → h'.get? b = some (listOf ws.toArray n') → s.heap.get? b = none → Q (.ref b) { s with heap := h', toks := tk' }) :
    wpAny (model PySem.Challenge.rw_pq1401_01.row.prog w) A (call (.ref 33) [.ref x] []) Q E s := by
  w_top off; revert C; k_fill; intro C
  have hne := V.ne
  have hne2 := W.ne
  have hn : ∀ q ∈ [(x, instObj 144 dx), (dx, vecD w (.str (Str.ofString "integer") tk) items attrs t0 t1 t2 t3 t4 n), (y, instObj 144 dy), (dy, vecD w kind (.ref lw) attrs' t5 t6 t7 t8 t9 n')], s.heap.get? q.1 = some q.2 :=
    List.forall_mem_cons.mpr ⟨V.hx, List.forall_mem_cons.mpr ⟨V.hd, List.forall_mem_cons.mpr ⟨W.hx, List.forall_mem_cons.mpr ⟨W.hd, fun _ h => nomatch h⟩⟩⟩⟩
  refine enter C st _ (binds := [(Str.ofString "v", .ref x)]) hn (List.forall_mem_cons.mpr ⟨V.cx, List.forall_mem_cons.mpr ⟨V.cd, List.forall_mem_cons.mpr ⟨W.cx, List.forall_mem_cons.mpr ⟨W.cd, fun _ h => nomatch h⟩⟩⟩⟩) (by k_is) (by k_is) (Nat.lt_of_succ_lt (Nat.lt_of_succ_lt hroom)) (BindsTo.of_eq (by rfl)) (by exact locs rfl) (by rfl) (by rfl) (by rfl) (by decide) ?_
  intro g L h₁ hg F N X T stc hL
  have hwg := list_hid hw hg hlw
  have hws : ws.length < 2 ^ 62 := Nat.lt_of_le_of_lt hwl (by decide)
  have e1 : @LT.lt Nat _ x y := Nat.lt_trans hyx hne2
  have e2 : @LT.lt Nat _ dx dy := Nat.lt_trans hne hyx
  have e3 : @LT.lt Nat _ dx y := Nat.lt_trans e2 hne2
  k_steps
  refine dim_none ⟨X, T⟩ F.keep (G.from (stays_back hg F.keep hn fun q hq => (N q hq).1)) (by k_extra "my depth") ?_
  k_extra "my stay"
  k_steps
  rename Fr _ _ _ _ => F5
  rename News _ _ _ _ => N5
  refine G2 _ _ _ _ _ (stays_back hg F5.keep hn fun q hq => (N5 q hq).1) (by k_extra "my depth") ?_
  k_extra "my stay"
  k_steps
  rename Fr _ _ _ _ => F6
  rename News _ _ _ _ => N6
  rename _ ∧ _ ∧ _ ∧ _ => l6
  have n6 := N6 _ (.head _)
  refine ret _ _ _ _ (stays_back hg F6.keep hn fun q hq => (N6 q (.tail _ hq)).1) n6.1 (none_back hg (fun h => ?_) n6.2.2)
  obtain ⟨m1, m2, m3, m4⟩ := l6
  rcases List.mem_cons.mp h with e | h
  · exact Nat.lt_irrefl _ (e ▸ m1)
  rcases List.mem_cons.mp h with e | h
  · exact Nat.lt_irrefl _ (e ▸ m2)
  rcases List.mem_cons.mp h with e | h
  · exact Nat.lt_irrefl _ (e ▸ m3)
  · exact Nat.lt_irrefl _ ((List.mem_singleton.mp h) ▸ m4)

set_option maxHeartbeats 4000000 in
theorem names_table {x dx y1 dy1 l1 y dy li z dz lw : Addr} {ws : List Value} {v items attrs kind attrs' kind1 attrs1 attrs2 : Value} {t0 t1 t2 t3 t4 t5 t6 t7 t8 t9 t10 t11 t12 t13 t14 t15 t16 t17 t18 t19 tk tk2 : Tok} {n n' n1 n2 : Nat} (C : Amb (hd.heap_39 w.params) mg mb p loose mean c) (st : c.StaysIn s.heap)
    (V : VecAt w s.heap c x dx (.str (Str.ofString "integer") tk) items attrs t0 t1 t2 t3 t4 n)
    (V1 : VecAt w s.heap c y1 dy1 kind1 (.ref l1) attrs1 t5 t6 t7 t8 t9 n1) (hl1 : s.heap.IsList l1 [v].toArray) (hl1' : l1 ∉ [y1, dy1])
    (V2 : VecAt w s.heap c y dy kind (.ref li) attrs' t10 t11 t12 t13 t14 n') (W : VecAt w s.heap c z dz (.str (Str.ofString "character") tk2) (.ref lw) attrs2 t15 t16 t17 t18 t19 n2) (hzy : @LT.lt Nat _ z dy)
    (hl : s.heap.IsList li [.ref z].toArray) (hw : s.heap.IsList lw ws.toArray) (hwl : ws.length ≤ 60) (hli : li ∉ [y, dy, z, dz]) (hlw : lw ∉ [y, dy, z, dz])
    (G : GetsAttr w s.heap x (Str.ofString "dim") (.ref y1)) (G2 : GetsAttr w s.heap x (Str.ofString "dimnames") (.ref y)) (hroom : A.depth + 2 < recursionLimit) (hh : A.handled = none)
    (ret : ∀ b n' h' tk', s.heap.StaysIn h' → h'.get? b = some (listOf ws.toArray n') → s.heap.get? b = none → Q (.ref b) { s with heap := h', toks := tk' }) :
    wpAny (model PySem.Challenge.rw_pq1401_01.row.prog w) A (call (.ref 33) [.ref x] []) Q E s := by
  obtain ⟨hdl, dp, fr, gd, un⟩ := A
  obtain rfl : hdl = none := hh
  w_top off; revert C; k_fill; intro C
  have hne := V.ne
  have hn : ∀ q ∈ [(x, instObj 144 dx), (dx, vecD w (.str (Str.ofString "integer") tk) items attrs t0 t1 t2 t3 t4 n)], s.heap.get? q.1 = some q.2 := List.forall_mem_cons.mpr ⟨V.hx, List.forall_mem_cons.mpr ⟨V.hd, fun _ h => nomatch h⟩⟩
  refine enter C st _ (binds := [(Str.ofString "v", .ref x)]) hn (List.forall_mem_cons.mpr ⟨V.cx, List.forall_mem_cons.mpr ⟨V.cd, fun _ h => nomatch h⟩⟩) (by k_is) (by k_is) (Nat.lt_of_succ_lt (Nat.lt_of_succ_lt hroom)) (BindsTo.of_eq (by rfl)) (by exact locs rfl) (by rfl) (by rfl) (by rfl) (by decide) ?_
  intro g L h₁ hg F N X T stc hL
  k_steps
  have sb := stays_back hg F.keep hn fun q hq => (N q hq).1
  refine dim_some C (stay2 stc F.keep) (G.from sb) (V1.from sb) (hl1.at fun o e => sb _ o e) hl1' (by k_extra "my depth") ?_
  intro a na h5 tk5 st5 ha hga
  have F5 := Fr.stay F st5
  have N5 := News.fresh F N st5 ha hga
  have ax := News.ne_fresh N ha (.head _)
  have ad := News.ne_fresh N ha (.tail _ (.head _))
  clear F N
  k_steps
  rename Fr _ _ _ _ => F6
  rename News _ _ _ _ => N6
  have sb6 := stays_back hg F6.keep hn fun q hq => (N6 q (.tail _ hq)).1
  refine dimnames_some C (stay2 stc F6.keep) (G2.from sb6) (V2.from sb6) (W.from sb6) hzy (hl.at fun o e => sb6 _ o e) (hw.at fun o e => sb6 _ o e) hwl hli hlw (by k_extra "my depth") rfl ?_
  intro a2 b n2' n2'' h7 tk7 st7 ha2 hb2 hna hnb
  have F7 := Fr.stay F6 st7
  have N7 : News g L h7 ((a2, listOf [.ref b].toArray n2') :: (b, listOf ws.toArray n2'') :: _) := List.forall_mem_cons.mpr ⟨News.fresh F6 N6 st7 hna ha2 _ (.head _), News.fresh F6 N6 st7 hnb hb2⟩
  have bx := none_back hg (fun h => by
    rcases List.mem_cons.mp h with e | h
    · exact News.ne_fresh N6 hnb (.tail _ (.head _)) e
    · exact News.ne_fresh N6 hnb (.tail _ (.tail _ (.head _))) (List.mem_singleton.mp h)) (N7 _ (.tail _ (.head _))).2.2
  clear F6 N6
  k_steps
  rename Fr _ _ _ _ => F8
  rename News _ _ _ _ => N8
  exact ret b _ _ _ (stays_back hg F8.keep hn fun q hq => (N8 q (.tail _ (.tail _ (.tail _ hq)))).1) (N8 _ (.tail _ (.head _))).1 bx
end
section
variable {w : World} {A : Around} {s : Shared} {mg mb : Str → Option Value} {p : Program} {loose : List Str} {mean : ExcName → Option Value} {c : Heap} {Q E : Value → Shared → Prop}

set_option maxHeartbeats 4000000 in
theorem from_int_spec {k : Int} {t : Tok} (C : Amb (hd.heap_39 w.params) mg mb p loose mean c) (st : c.StaysIn s.heap) (hroom : A.depth < recursionLimit)
    (ret : ∀ a o h' tk', s.heap.StaysIn h' → s.heap.get? a = none → h'.get? a = some o → KeyAt o (k, 1) → Q (.ref a) { s with heap := h', toks := tk' }) :
    wpAny (model PySem.Challenge.rw_pq1401_01.row.prog w) A (call (.ref 84) [.int k t] []) Q E s := by
  w_top off; revert C; k_fill; intro C
  refine enter C st [] (binds := [(Str.ofString "n", .int k t)]) (fun _ h => nomatch h) (fun _ h => nomatch h) (by k_is) (by k_is) hroom (BindsTo.of_eq (by rfl)) (by exact locs rfl) (by rfl) (by rfl) (by rfl) (by decide) ?_
  intro g L h₁ hg F N X T stc hL
  subst hg
  change Fr s.heap _ _ _ at F
  change News s.heap _ _ _ at N
  change (hd.heap_39 w.params).In s.heap at X
  change Top _ _ _ _ _ s.heap at T
  k_steps
  rename Fr _ _ _ _ => F5
  rename News _ _ _ _ => N5
  have n5 := N5 _ (.head _)
  exact ret _ _ _ _ F5.keep n5.2.2 n5.1 ⟨rfl, _, _, _, rfl⟩

set_option maxHeartbeats 4000000 in
theorem number_spec {x dx li : Addr} {lv : List Value} {ns : List Int} {attrs : Value} {t0 t1 t2 t3 t4 tq : Tok} {n : Nat} (C : Amb (hd.heap_39 w.params) mg mb p loose mean c) (st : c.StaysIn s.heap) (V : VecAt w s.heap c x dx (.str (Str.ofString "integer") tq) (.ref li) attrs t0 t1 t2 t3 t4 n)
    (hl : s.heap.IsList li lv.toArray) (hi : IntsAre lv ns) (hlen : ns.length ≤ 60) (hli : li ∉ [x, dx]) (hroom : A.depth + 1 < recursionLimit) (hh : A.handled = none)
    (ret : ∀ a (M : List (Addr × Obj)) n' h' tk', s.heap.StaysIn h' → s.heap.get? a = none → h'.get? a = some (listOf (M.map fun p => Value.ref p.1).toArray n') → M.length = ns.length → (∀ (i : Nat) p k, M[i]? = some p → ns[i]? = some k → KeyAt p.2 (k, 1)) →
      (∀ p ∈ M, h'.get? p.1 = some p.2 ∧ s.heap.get? p.1 = none) → Q (.ref a) { s with heap := h', toks := tk' }) :
    wpAny (model PySem.Challenge.rw_pq1401_01.row.prog w) A (call (.ref 153) [.ref x] []) Q E s := by
  obtain ⟨hdl, dp, fr, gd, un⟩ := A
  obtain rfl : hdl = none := hh
  w_top off; revert C; k_fill; intro C
  have hne := V.ne
  have hn : ∀ q ∈ [(x, instObj 144 dx), (dx, vecD w (.str (Str.ofString "integer") tq) (.ref li) attrs t0 t1 t2 t3 t4 n)], s.heap.get? q.1 = some q.2 := List.forall_mem_cons.mpr ⟨V.hx, List.forall_mem_cons.mpr ⟨V.hd, fun _ h => nomatch h⟩⟩
  refine enter C st _ (binds := [(Str.ofString "v", .ref x)]) hn (List.forall_mem_cons.mpr ⟨V.cx, List.forall_mem_cons.mpr ⟨V.cd, fun _ h => nomatch h⟩⟩) (by k_is) (by k_is) (Nat.lt_of_succ_lt hroom) (BindsTo.of_eq (by rfl)) (by exact locs rfl) (by rfl) (by rfl) (by rfl) (by decide) ?_
  intro g L h₁ hg F N X T stc hL
  have hlg := list_hid hl hg hli
  have hlv := hi.length
  have hstop : Stop 11 := trivial
  refine postE fun QQ hQ => ?_
  k_steps
  refine Mark.of (LCg.ListComp_U (F₀ := by k_asm) (by with_unfolding_all rfl) (by decide) (by rfl) (by decide) (by rfl) ?_)
  k_steps
  rename Fr _ _ _ _ => F0
  rename News _ _ _ _ => N0
  generalize vecD w (.str (Str.ofString "integer") tq) (.ref li) attrs t0 t1 t2 t3 t4 n = ob at N0 hn hg
  refine Mark.of (LCg.CompSrc.base (news := [(x, instObj 144 dx), (dx, ob)]) (by rfl) F0 (fun p hp => N0 p (.tail _ hp)) (by assumption) (by rw [sizeLine_eq, List.size_toArray, hlv]; exact Nat.le_trans hlen (by decide)) ?_)
  intro g'
  refine rest_inv (σ := List (Addr × Obj)) (fun M => (x, instObj 144 dx) :: (dx, ob) :: M) (PutsOk fun j p => (∀ k, ns[j]? = some k → KeyAt p.2 (k, 1)) ∧ p.1 ∉ [x, dx]) [] ⟨rfl, rfl, fun j p h => nomatch h⟩ ?_ ?_
  · intro M i v ys I oI C1 oC D m₂ h tk2 E' hi2 hv J hyl hC hx F1 N1 off ne Q1 hQ1
    clear F0 N0
    obtain ⟨k, t, rfl, hk⟩ := ints_get hi (by simpa using hv)
    k_steps
    refine from_int_spec C (stay2 stc F1.keep) (by k_extra "my depth") ?_
    intro a o h5 tk5 st5 ha hao hko
    have N2 := News.fresh F1 N1 st5 ha hao
    exact hQ1 _ _ _ _ (M ++ [(a, o)]) (Fr.stay F1 st5) N2 (List.forall_mem_cons.mpr ⟨.tail _ (.head _), List.forall_mem_cons.mpr ⟨.tail _ (.tail _ (.head _)), List.forall_mem_cons.mpr ⟨.tail _ (.tail _ (.tail _ (.head _))), List.forall_mem_cons.mpr ⟨.tail _ (.tail _ (.tail _ (.tail _ (.head _)))), List.forall_mem_cons.mpr ⟨.tail _ (.tail _ (.tail _ (.tail _ (.tail _ (.head _))))), fun p hp =>
        (List.mem_cons.mp (mem_obj hp)).elim (fun e => e ▸ .head _) fun hp => .tail _ (.tail _ (.tail _ (.tail _ (.tail _ (.tail _ hp)))))⟩⟩⟩⟩⟩)
      ⟨off.1, off.2.1, off3_obj off.2.2 ⟨News.ne_fresh N1 ha (.head _), News.ne_fresh N1 ha (.tail _ (.head _)), News.ne_fresh N1 ha (.tail _ (.tail _ (.head _)))⟩⟩ (.inl hlg)
      (J.snoc ⟨fun r hr => Option.some.inj (hk.symm.trans hr) ▸ hko, off2 (Ne.symm (News.ne_fresh N1 ha (.tail _ (.tail _ (.tail _ (.head _)))))) (Ne.symm (News.ne_fresh N1 ha (.tail _ (.tail _ (.tail _ (.tail _ (.head _)))))))⟩)
  · intro ys M hyl J
    obtain rfl := J.1
    have hMl := J.2.1
    have hM := J.2.2
    clear F0 N0 J
    unfold LCg.FinE
    intro D h tk2 F N o1
    dsimp only
    have nD := N _ (.head _)
    rw [List.size_toArray, hlv] at hMl
    refine hQ _ _ (ret D M _ _ _ (stays_back hg F.keep hn (List.forall_mem_cons.mpr ⟨(N _ (.tail _ (.head _))).1, List.forall_mem_cons.mpr ⟨(N _ (.tail _ (.tail _ (.head _)))).1, fun _ h => nomatch h⟩⟩)) (none_back hg (off2 o1.1 o1.2.1) nD.2.2) nD.1 hMl (fun i p k hp hk => (hM i p hp).1 k hk) fun p hp => ?_)
    have nq := N p (.tail _ (.tail _ (.tail _ hp)))
    obtain ⟨i, hi, e⟩ := List.getElem_of_mem hp
    exact ⟨nq.1, none_back hg (hM i p (by rw [List.getElem?_eq_getElem hi, e])).2 nq.2.2⟩
end
theorem key_frac {h : Heap} {a : Addr} {o : Obj} {k : Int × Int} (ho : h.get? a = some o) (x : KeyAt o k) : FracAt h (.ref a) k :=
  let ⟨hc, t, u, n, hd⟩ := x; ⟨a, t, u, rfl, o, ho, hc, n, hd⟩
theorem News.freshes {h₀ h h' : Heap} {L : Addr} {m : Str → Option Value} {M : List (Addr × Obj)} (F : Fr h₀ L h m) (hM : ∀ p ∈ M, h'.get? p.1 = some p.2 ∧ h.get? p.1 = none) : News h₀ L h' M := fun p hp => by
  refine ⟨(hM p hp).1, ?_, ?_⟩
  · intro e
    obtain ⟨oL, _, _, hL, _⟩ := F.ns
    rw [← e, (hM p hp).2] at hL; cases hL
  · cases e : h₀.get? p.1 with
    | none => rfl
    | some o' => have := F.keep _ _ e; rw [(hM p hp).2] at this; cases this
theorem item_any {prog : Program} {w : World} {A : Around} {E : Value → Shared → Prop} {s : Shared} {h₀ : Heap} {L D : Addr} {news : List (Addr × Obj)} {vs : List Value} {n len : Nat} {k : Int} {u : Tok} {value slice : Expr} {Q : Value → Shared → Prop} (N : News h₀ L s.heap news) (hm : (D, listOf vs.toArray n) ∈ news) (e : vs.length = len) (h0 : 0 ≤ k) (hk : k < len) (hb : len ≤ 1000)
    (h : ∀ v, vs[k.toNat]? = some v → Q v s)
    (hs : subscripted slice false (.ref D) (.int k u) = operate [.ref D, .int k u] (getItem (.ref D) (.int k u)) := by with_unfolding_all rfl) (hg : ∀ r, letTemporaryGo value (.ref D) r = pure () := by intro _; with_unfolding_all rfl) :
    wpAny (model prog w) A (subscriptTail value slice (.ref D) (.int k u)) Q E s := by
  have e : vs[k.toNat]? = some (vs[k.toNat]'(by omega)) := by simp
  exact item_list (News.isList N hm) h0 (by simp; omega) (by simp [e]) (h _ e) hs hg
theorem cmp_one {x y o : Int} (ho : o = 1 ∨ o = -1) : cmpF (x, 1) (y, 1) = o ↔ o * y < o * x := by
  unfold cmpF under
  simp only [Int.one_ne_zero, or_self, if_false, Int.mul_one, decide_eq_true_eq]
  rcases ho with rfl | rfl <;> (repeat' split) <;> omega
/-- the place of the extreme among the first i -/
def BestTo (o : Int) (ns : List Int) (b i : Nat) : Prop := b < i ∧ ∀ j x y, j < i → ns[b]? = some x → ns[j]? = some y → (j < b → o * y < o * x) ∧ o * y ≤ o * x
theorem BestTo.new {o : Int} {ns : List Int} {b i : Nat} {x y : Int} (h : BestTo o ns b i) (hb : ns[b]? = some x) (hi : ns[i]? = some y) (hl : o * x < o * y) : BestTo o ns i (i + 1) := by
  refine ⟨Nat.lt_succ_self i, fun j y' z hj hy hz => ?_⟩
  rw [hi] at hy; cases hy
  rcases Nat.lt_or_ge j i with h1 | h1
  · have := (h.2 j x z h1 hb hz).2
    exact ⟨fun _ => Int.lt_of_le_of_lt this hl, Int.le_of_lt (Int.lt_of_le_of_lt this hl)⟩
  · obtain rfl : j = i := Nat.le_antisymm (Nat.le_of_lt_succ hj) h1
    rw [hi] at hz; cases hz
    exact ⟨fun h => absurd h (Nat.lt_irrefl _), Int.le_refl _⟩
theorem BestTo.same {o : Int} {ns : List Int} {b i : Nat} {x y : Int} (h : BestTo o ns b i) (hb : ns[b]? = some x) (hi : ns[i]? = some y) (hl : ¬ o * x < o * y) : BestTo o ns b (i + 1) := by
  refine ⟨Nat.lt_succ_of_lt h.1, fun j x' z hj hx hz => ?_⟩
  rcases Nat.lt_or_ge j i with h1 | h1
  · exact h.2 j x' z h1 hx hz
  · obtain rfl : j = i := Nat.le_antisymm (Nat.le_of_lt_succ hj) h1
    rw [hi] at hz; cases hz
    rw [hb] at hx; cases hx
    exact ⟨fun h2 => absurd h2 (Nat.lt_asymm h.1), Int.not_lt.mp hl⟩
/-- what which_extreme gives back -/
inductive Told (w : World) (o : Int) (ns : List Int) (ws : Option (List Value)) (h h' : Heap) : Value → Prop
  | empty (y dy l : Addr) (tk t5 t6 t7 t8 t9 : Tok) (n1 n2 : Nat) (e : ns = []) (hq : ∀ q ∈ [(y, instObj 144 dy), (dy, vecD w (.str (Str.ofString "integer") tk) (.ref l) .none t5 t6 t7 t8 t9 n1), (l, listOf #[] n2)], h'.get? q.1 = some q.2 ∧ h.get? q.1 = none) : Told w o ns ws h h' (.ref y)
  | plain (b : Nat) (y dy l : Addr) (tk t5 t6 t7 t8 t9 t10 : Tok) (n1 n2 : Nat) (e : ws = none) (hb : BestTo o ns b ns.length)
      (hq : ∀ q ∈ [(y, instObj 144 dy), (dy, vecD w (.str (Str.ofString "integer") tk) (.ref l) .none t5 t6 t7 t8 t9 n1), (l, listOf [.int ((b : Int) + 1) t10].toArray n2)], h'.get? q.1 = some q.2 ∧ h.get? q.1 = none) : Told w o ns ws h h' (.ref y)
  | named (wl : List Value) (wv : Value) (b : Nat) (y dy l ad : Addr) (od : Obj) (z dz l2 : Addr) (tk t5 t6 t7 t8 t9 t10 : Tok) (n1 n2 : Nat) (tk2 u5 u6 u7 u8 u9 : Tok) (m1 m2 : Nat) (e : ws = some wl) (hb : BestTo o ns b ns.length) (hwv : wl[b]? = some wv)
      (hod : Obj.IsDictOf (PySem.strKind PySem.Challenge.rw_pq1401_01.row.prog w) od [(Str.ofString "names", .ref z)]) (lo : (ad == sysModules) = false)
      (hq : ∀ q ∈ [(y, instObj 144 dy), (dy, vecD w (.str (Str.ofString "integer") tk) (.ref l) (.ref ad) t5 t6 t7 t8 t9 n1), (l, listOf [.int ((b : Int) + 1) t10].toArray n2), (ad, od), (z, instObj 144 dz), (dz, vecD w (.str (Str.ofString "character") tk2) (.ref l2) .none u5 u6 u7 u8 u9 m1), (l2, listOf [wv].toArray m2)],
        h'.get? q.1 = some q.2 ∧ h.get? q.1 = none) : Told w o ns ws h h' (.ref y)
def NamesIs (w : World) (h : Heap) (x : Addr) (ws : Option (List Value)) : Prop := ∀ (A : Around) (s : Shared) (Q E : Value → Shared → Prop), h.StaysIn s.heap → A.depth + 2 < recursionLimit → A.handled = none →
  (∀ h' tk', ws = none → s.heap.StaysIn h' → Q .none { s with heap := h', toks := tk' }) →
  (∀ b n' l h' tk', ws = some l → s.heap.StaysIn h' → h'.get? b = some (listOf l.toArray n') → s.heap.get? b = none → Q (.ref b) { s with heap := h', toks := tk' }) →
  wpAny (model PySem.Challenge.rw_pq1401_01.row.prog w) A (call (.ref 33) [.ref x] []) Q E s
theorem not_two {x y q : Addr} (h1 : @LT.lt Nat _ x q) (h2 : @LT.lt Nat _ y q) : q ∉ [x, y] := off2 (Nat.ne_of_lt h1) (Nat.ne_of_lt h2)
theorem lines12 : True := by
  k_with "m subscriptTail Name Name ref int" => (k_here; (with_reducible show wpAny _ _ (subscriptTail _ _ (Value.ref _) (Value.int _ _)) _ _ _); refine item_any (by k_asm) (by k_mem) (by with_reducible assumption) (by first | assumption | omega) (by first | assumption | omega) (by first | assumption | omega) ?_; intro _ _)
  trivial
theorem cutF {α : Type} {Mo : Model} {A : Around} {code : Sem α} {Q : α → Shared → Prop} {E : Value → Shared → Prop} {s : Shared} {g h : Heap} {L : Addr} {m : Str → Option Value} {news : List (Addr × Obj)} {Fact : α → Prop} (_ : Fr g L h m) (_ : News g L h news)
    (k : ∀ QQ : α → Shared → Prop, (∀ a h' tk', Fr g L h' m → News g L h' news → Fact a → QQ a { s with heap := h', toks := tk' }) → wpAny Mo A code QQ E s) (r : ∀ a h' tk', Fr g L h' m → News g L h' news → Fact a → Q a { s with heap := h', toks := tk' }) : wpAny Mo A code Q E s := k Q r
/-- the best so far, as the loop keeps it -/
def BestSt (o : Int) (ns : List Int) (i : Nat) (be : Int) : Prop := (i = 0 → be = -1) ∧ (0 < i → ∃ b : Nat, be = (b : Int) ∧ BestTo o ns b i)
theorem BestSt.some {o : Int} {ns : List Int} {i b : Nat} (h : BestTo o ns b (i + 1)) : BestSt o ns (i + 1) (b : Int) := ⟨fun e => absurd e (Nat.succ_ne_zero _), fun _ => ⟨b, rfl, h⟩⟩
theorem BestSt.neg {o : Int} {ns : List Int} {i : Nat} {be : Int} (h : BestSt o ns i be) (hb : be < 0) : i = 0 := by
  rcases Nat.eq_zero_or_pos i with h0 | h0
  · exact h0
  · obtain ⟨b, e, _⟩ := h.2 h0
    exact absurd (e ▸ hb) (Int.not_lt.mpr (Int.natCast_nonneg b))
theorem BestSt.get {o : Int} {ns : List Int} {i : Nat} {be : Int} (h : BestSt o ns i be) (hb : ¬ be < 0) : be = (be.toNat : Int) ∧ BestTo o ns be.toNat i := by
  rcases Nat.eq_zero_or_pos i with h0 | h0
  · exact absurd (by rw [h.1 h0]; decide) hb
  · obtain ⟨b, rfl, e⟩ := h.2 h0
    exact ⟨rfl, e⟩
theorem BestSt.lt {o : Int} {ns : List Int} {i n : Nat} {be : Int} (h : BestSt o ns i be) (hi : i ≤ n) : be < (n : Int) := by
  rcases Int.lt_or_le be 0 with hb | hb
  · exact Int.lt_of_lt_of_le hb (Int.natCast_nonneg n)
  · rw [(h.get (Int.not_lt.mpr hb)).1]; exact Int.ofNat_lt.mpr (Nat.lt_of_lt_of_le (h.get (Int.not_lt.mpr hb)).2.1 hi)
theorem BestTo.first {o : Int} {ns : List Int} : BestTo o ns 0 1 := ⟨Nat.zero_lt_one, fun j x y hj hx hy => by
  rw [Nat.lt_one_iff.mp hj, hx] at hy
  cases hy
  exact ⟨fun h => absurd (Nat.lt_one_iff.mp hj ▸ h) (Nat.lt_irrefl 0), Int.le_refl _⟩⟩
section
variable {w : World} {A : Around} {s : Shared} {mg mb : Str → Option Value} {p : Program} {loose : List Str} {mean : ExcName → Option Value} {c : Heap} {Q E : Value → Shared → Prop}

set_option maxHeartbeats 4000000 in
theorem which_spec {x dx li : Addr} {lv : List Value} {ns : List Int} {ws : Option (List Value)} {o : Int} {attrs : Value} {t0 t1 t2 t3 t4 tq to : Tok} {n : Nat} (C : Amb (hd.heap_39 w.params) mg mb p loose mean c) (st : c.StaysIn s.heap) (V : VecAt w s.heap c x dx (.str (Str.ofString "integer") tq) (.ref li) attrs t0 t1 t2 t3 t4 n)
    (hl : s.heap.IsList li lv.toArray) (hi : IntsAre lv ns) (hlen : ns.length ≤ 60) (hns : ∀ k ∈ ns, 0 ≤ k ∧ k ≤ 1000) (ho : o = 1 ∨ o = -1) (hli : li ∉ [x, dx]) (HN : NamesIs w s.heap x ws) (hws : ∀ l, ws = some l → l.length = ns.length) (hroom : A.depth + 6 < recursionLimit) (hu : A.units + 800 < cLine) (hh : A.handled = none)
    (ret : ∀ v h' tk', s.heap.StaysIn h' → Told w o ns ws s.heap h' v → Q v { s with heap := h', toks := tk' }) :
    wpAny (model PySem.Challenge.rw_pq1401_01.row.prog w) A (call (.ref 179) [.ref x, .int o to] []) Q E s := by
  obtain ⟨hdl, dp, fr, gd, un⟩ := A
  obtain rfl : hdl = none := hh
  w_top off; revert C; k_fill; intro C
  have hne := V.ne
  have hn : ∀ q ∈ [(x, instObj 144 dx), (dx, vecD w (.str (Str.ofString "integer") tq) (.ref li) attrs t0 t1 t2 t3 t4 n)], s.heap.get? q.1 = some q.2 := List.forall_mem_cons.mpr ⟨V.hx, List.forall_mem_cons.mpr ⟨V.hd, fun _ h => nomatch h⟩⟩
  refine enter C st _ (binds := [(Str.ofString "v", .ref x), (Str.ofString "order", .int o to)]) hn (List.forall_mem_cons.mpr ⟨V.cx, List.forall_mem_cons.mpr ⟨V.cd, fun _ h => nomatch h⟩⟩) (by k_is) (by k_is) (by k_extra "my depth") (BindsTo.of_eq (by rfl)) (by exact locs rfl) (by rfl) (by rfl) (by rfl) (by decide) ?_
  intro g L h₁ hg F N X T stc hL
  have hlg := list_hid hl hg hli
  refine postE fun QQ hQ => ?_
  k_steps
  refine number_spec (c := c) C (stay2 stc F.keep) ⟨(N _ (.head _)).1, (N _ (.tail _ (.head _))).1, V.cx, V.cd, hne⟩ (hlg.at fun o e => F.keep _ o e) hi hlen hli (by k_extra "my depth") rfl ?_
  intro a M n5 h5 tk5 st5 ha hga hMl hM hMf
  generalize vecD w (.str (Str.ofString "integer") tq) (.ref li) attrs t0 t1 t2 t3 t4 n = ob at N hn hg
  have F5 := Fr.stay F st5
  have ax := News.ne_fresh N ha (.head _)
  have ad := News.ne_fresh N ha (.tail _ (.head _))
  have hMr : (M.map fun p => Value.ref p.1).length = ns.length := by rw [List.length_map, hMl]
  have frc : ∀ {h' : Heap}, (∀ q ∈ M, h'.get? q.1 = some q.2) → ∀ {j : Nat} {v : Value}, (M.map fun p => Value.ref p.1)[j]? = some v → ∀ Z : Prop, (∀ k, ns[j]? = some k → FracAt h' v (k, 1) → good (k, 1) → Z) → Z := fun {_} hq {j v} hv Z kk => by
    rw [List.getElem?_map] at hv
    obtain ⟨p, hp, rfl⟩ := Option.map_eq_some_iff.mp hv
    have hj : j < ns.length := by rw [← hMl]; exact (List.getElem?_eq_some_iff.mp hp).1
    have hk := hns ns[j] (List.getElem_mem hj)
    have h1 := hM j p ns[j] hp (List.getElem?_eq_getElem hj)
    exact kk ns[j] (List.getElem?_eq_getElem hj) (key_frac (hq p (List.mem_of_getElem? hp)) h1) ⟨small_of_le (Int.le_trans (by decide) hk.1) hk.2, show small 1 from small_of_le (by decide) (by decide), show (0 : Int) ≤ 1 by decide, fun h => absurd (show (1 : Int) = 0 from h) (by decide)⟩
  generalize hmv : (M.map fun p => Value.ref p.1) = mv at hMr frc hga
  have N5 : News g L h5 ((a, listOf mv.toArray n5) :: (x, instObj 144 dx) :: (dx, ob) :: M) :=
    List.forall_mem_cons.mpr ⟨News.fresh F N st5 ha hga _ (.head _), List.forall_mem_cons.mpr ⟨News.stay N st5 _ (.head _), List.forall_mem_cons.mpr ⟨News.stay N st5 _ (.tail _ (.head _)), News.freshes F hMf⟩⟩⟩
  have hM62 : ns.length < 2 ^ 62 := Nat.lt_of_le_of_lt hlen (by decide)
  have hM1000 : ns.length ≤ 1000 := Nat.le_trans hlen (by decide)
  clear F N hM hMf hmv
  k_steps
  rename IsRange _ _ _ _ _ _ _ _ => hr
  rename News _ _ _ _ => N7
  rename Fr _ _ _ _ => F7
  refine Mark.of (ks_range (σ := Int × Nat) (n := ns.length) (fun _ => (a, listOf mv.toArray n5) :: (x, instObj 144 dx) :: (dx, ob) :: M) (fun c => [(Str.ofString "best", .int c.1 c.2)]) []
    (fun i c => BestSt o ns i c.1) (-1, _) rfl hr (range_small1 (by decide) (by decide) (Int.le_trans (by decide) (Int.natCast_nonneg _)) (Int.ofNat_le.mpr (Nat.le_trans hM1000 (by decide)))) (by rw [range_size1, Int.sub_zero, Int.toNat_natCast]) F7 N7
    (List.forall_mem_cons.mpr ⟨by with_unfolding_all rfl, fun _ h => nomatch h⟩) ⟨fun _ => rfl, fun h => absurd h (Nat.lt_irrefl 0)⟩ ?_ ?_)
  · refine prod2 fun be tb => ?_
    intro i t u h tk own hi2 hoff P F8 N8 Q2 hQ2
    clear F7 N7 hr
    dsimp only [kstB] at F8 P
    simp only [List.cons_append] at N8
    have i0 : (0 : Int) ≤ 0 + (i : Int) := by rw [Int.zero_add]; exact Int.natCast_nonneg i
    have i1 : 0 + (i : Int) < (ns.length : Int) := by rw [Int.zero_add]; exact Int.ofNat_lt.mpr hi2
    have hbe : be < (ns.length : Int) := P.lt (Nat.le_of_lt hi2)
    have hstop5 : Stop 15 := trivial
    k_steps
    refine Mark.of ?_
    clear hstop5
    iterate 1 walk1
    have hml : ∀ p ∈ (a, listOf mv.toArray n5) :: (x, instObj 144 dx) :: (dx, ob) :: M, p ∈ (a, listOf mv.toArray n5) :: (x, instObj 144 dx) :: (dx, ob) :: (M ++ own) := fun p hp => (List.mem_append_left own hp :)
    refine cutF F8 N8 (Fact := fun cb => (cb = true → BestTo o ns i (i + 1)) ∧ (cb = false → BestSt o ns (i + 1) be)) (fun Q3 k3 => ?_) (fun cb h' tk' F9 N9 cc => ?_)
    · k_steps
      rename_i p hp
      rw [Int.zero_add, Int.toNat_natCast] at hp
      refine frc (fun q hq => (N8 q (.tail _ (.tail _ (.tail _ (List.mem_append_left _ hq))))).1) hp _ fun k hk hf gk => ?_
      refine is_na_spec ⟨X, T⟩ F8.keep hf gk.not_na (by k_extra "my depth") ?_
      k_extra "my stay"
      k_steps
      · rename be < 0 => hb0
        exact k3 _ _ _ (by assumption) (by assumption) ⟨fun _ => by rw [P.neg hb0]; exact BestTo.first, fun h => nomatch h⟩
      rename ¬ be < 0 => hb0
      have b0 : 0 ≤ be := Int.not_lt.mp hb0
      k_steps
      rename_i pa hpa pb hpb
      rename Fr _ _ _ _ => F9
      rename News _ _ _ _ => N9
      rw [Int.zero_add, Int.toNat_natCast] at hpa
      have hst9 : ∀ q ∈ M, _ := fun q hq => (N9 q (.tail _ (.tail _ (.tail _ (List.mem_append_left _ hq))))).1
      refine frc hst9 hpa _ fun ka hka hfa ga => frc hst9 hpb _ fun kb hkb hfb gb => ?_
      have pg := P.get hb0
      refine compare_spec ⟨X, T⟩ F9.keep hfa hfb ga gb (by k_extra "my depth") ?_
      intro _
      k_extra "my stay"
      k_steps
      · exact k3 _ _ _ (by assumption) (by assumption) ⟨fun _ => BestTo.new pg.2 hkb hka ((cmp_one ho).mp (by assumption)), fun h => nomatch h⟩
      · exact k3 _ _ _ (by assumption) (by assumption) ⟨fun h => (nomatch h), fun _ => by rw [pg.1]; exact BestSt.some (BestTo.same pg.2 hkb hka fun e => absurd ((cmp_one ho).mpr e) (by assumption))⟩
    · clear F8 N8
      k_steps
      · rename Fr _ _ _ _ => F10
        rename News _ _ _ _ => N10
        obtain ⟨t9, ht9⟩ := fr_tok F10 (Str.ofString "best") (0 + (i : Int)) ⟨_, rfl⟩
        refine hQ2 _ _ ?_
        refine ks_end (0 + (i : Int), t9) F10 N10 hml (fun p hp => .tail _ (.tail _ (.tail _ (List.mem_append_right _ hp)))) rfl (List.forall_mem_cons.mpr ⟨ht9, fun _ h => nomatch h⟩) ?_ (by rw [Int.zero_add]; exact BestSt.some (cc.1 (by assumption)))
        intro z z1 z2 z3
        have z4 := z2 _ (.head _)
        dsimp only at z4
        simp only [if_neg z1, if_neg z4, List.contains_nil, Bool.false_eq_true, if_false]
      · refine hQ2 _ _ ?_
        refine ks_end (be, tb) F9 N9 hml (fun p hp => .tail _ (.tail _ (.tail _ (List.mem_append_right _ hp)))) rfl (List.forall_mem_cons.mpr ⟨rfl, fun _ h => nomatch h⟩) ?_ (cc.2 (by assumption))
        intro z z1 z2 z3
        have z4 := z2 _ (.head _)
        dsimp only at z4
        simp only [if_neg z1, if_neg z4, List.contains_nil, Bool.false_eq_true, if_false]
  · refine prod2 fun be tb => ?_
    intro u h tk P F8 N8
    clear F7 N7 hr
    dsimp only [kstB] at F8 P
    have hbe : be < (ns.length : Int) := P.lt (Nat.le_refl _)
    k_steps
    · rename be < 0 => hb0
      rename Fr _ _ _ _ => F9
      rename News _ _ _ _ => N9
      rename _ ∧ _ ∧ _ ∧ _ => l9
      have hns0 : ns = [] := List.length_eq_zero_iff.mp (P.neg hb0)
      refine vector_new ⟨X, T⟩ F9 N9 (by k_extra "my depth") (by k_extra "my units") ?_
      intro y dy t5 t6 t7 t8 t9 n1 h6 tk6 F10 N10 m1 m2
      have mx := m1 _ (.tail _ (.tail _ (.head _)))
      have md := m1 _ (.tail _ (.tail _ (.tail _ (.head _))))
      refine hQ _ _ ?_
      exact ret _ _ _ (stays_back hg F10.keep hn (List.forall_mem_cons.mpr ⟨(N10 _ (nth 4)).1, List.forall_mem_cons.mpr ⟨(N10 _ (nth 5)).1, fun _ h => nomatch h⟩⟩))
        (.empty y dy _ _ t5 t6 t7 t8 t9 n1 _ hns0 (List.forall_mem_cons.mpr ⟨⟨(N10 _ (nth 0)).1, none_back hg (not_two (Nat.lt_trans mx m2) (Nat.lt_trans md m2)) (N10 _ (nth 0)).2.2⟩, List.forall_mem_cons.mpr ⟨⟨(N10 _ (nth 1)).1, none_back hg (not_two mx md) (N10 _ (nth 1)).2.2⟩,
          List.forall_mem_cons.mpr ⟨⟨(N10 _ (nth 2)).1, none_back hg (not_two l9.2.1 l9.2.2.1) (N10 _ (nth 2)).2.2⟩, fun _ h => nomatch h⟩⟩⟩))
    · rename ¬ be < 0 => hb0
      rename Fr _ _ _ _ => F9
      rename News _ _ _ _ => N9
      rename _ ∧ _ ∧ _ ∧ _ => l9
      have hbest := (P.get hb0).2
      have eb := (P.get hb0).1
      generalize be.toNat = b at hbest eb
      subst eb
      have b0 : (0 : Int) ≤ (b : Int) := Int.natCast_nonneg b
      refine vector_new ⟨X, T⟩ F9 N9 (by k_extra "my depth") (by k_extra "my units") ?_
      intro y dy t5 t6 t7 t8 t9 n1 h6 tk6 F10 N10 m1 m2
      have mx := m1 _ (.tail _ (.tail _ (.head _)))
      have md := m1 _ (.tail _ (.tail _ (.tail _ (.head _))))
      k_steps
      rename Fr _ _ _ _ => F11
      rename News _ _ _ _ => N11
      have sb : s.heap.StaysIn _ := stays_back hg F11.keep hn (List.forall_mem_cons.mpr ⟨(N11 _ (.tail _ (.tail _ (.tail _ (.tail _ (.head _)))))).1, List.forall_mem_cons.mpr ⟨(N11 _ (.tail _ (.tail _ (.tail _ (.tail _ (.tail _ (.head _))))))).1, fun _ h => nomatch h⟩⟩)
      refine HN _ _ _ _ sb (by k_extra "my depth") rfl (fun h7 tk7 hw st7 => ?_) (fun bb n7 l h7 tk7 hw st7 hbb hbn => ?_)
      · have F12 := Fr.stay F11 st7
        have N12 := News.stay N11 st7
        clear F11 N11
        k_steps
        rename Fr _ _ _ _ => F13
        rename News _ _ _ _ => N13
        refine hQ _ _ ?_
        exact ret _ _ _ (stays_back hg F13.keep hn (List.forall_mem_cons.mpr ⟨(N13 _ (nth 4)).1, List.forall_mem_cons.mpr ⟨(N13 _ (nth 5)).1, fun _ h => nomatch h⟩⟩))
          (.plain b y dy _ _ t5 t6 t7 t8 t9 _ n1 _ hw hbest (List.forall_mem_cons.mpr ⟨⟨(N13 _ (nth 0)).1, none_back hg (not_two (Nat.lt_trans mx m2) (Nat.lt_trans md m2)) (N13 _ (nth 0)).2.2⟩, List.forall_mem_cons.mpr ⟨⟨(N13 _ (nth 1)).1, none_back hg (not_two mx md) (N13 _ (nth 1)).2.2⟩,
            List.forall_mem_cons.mpr ⟨⟨(N13 _ (nth 2)).1, none_back hg (not_two l9.2.1 l9.2.2.1) (N13 _ (nth 2)).2.2⟩, fun _ h => nomatch h⟩⟩⟩))
      · have F12 := Fr.stay F11 st7
        have N12 := News.fresh F11 N11 st7 hbn hbb
        have hll := hws l hw
        have hbl := hbest.1
        have by1 : @Ne Nat bb y := News.ne_fresh N11 hbn (.head _)
        have by2 : @Ne Nat bb dy := News.ne_fresh N11 hbn (.tail _ (.head _))
        have oM : ∀ p ∈ M, p.1 ≠ dy := fun p hp => Nat.ne_of_lt (m1 p (.tail _ (.tail _ (.tail _ (.tail _ hp)))))
        k_lt m1
        k_lt2 m2
        clear F11 N11
        k_steps
        rename l[Int.toNat _]? = some _ => hwv
        rename bb < _ ∧ y < _ ∧ _ => q1
        rename _ < _ ∧ bb < _ ∧ y < _ ∧ _ => q2
        rename Obj.IsDictOf _ _ _ => hod
        rename (_ == sysModules) = false => lo
        rename Fr _ _ _ _ => F13
        rename News _ _ _ _ => N13
        rw [Int.toNat_natCast] at hwv
        refine vector_new ⟨X, T⟩ F13 N13 (by k_extra "my depth") (by k_extra "my units") ?_
        intro z dz u5 u6 u7 u8 u9 n8 h8 tk8 F14 N14 m3 m4
        k_lt m3
        k_lt2 m4
        k_steps
        refine' set_dict (by k_asm) (by k_asm) (by k_asm) (InstAt.of_news (by k_asm) (by k_mem) (by k_mem)) rfl ?k1 ?k2 ?k3 ?k4 ?k5 ?k6 ?k7 ?k8 ?_
        case k1 => k_is
        case k2 => k_is
        case k3 => k_is
        case k4 => k_is
        case k5 => rfl
        case k6 => rfl
        case k7 => k_upd
        case k8 => exact Nat.le_of_ble_eq_true rfl
        intro h9 F15 N15
        k_steps
        rename Obj.IsDictOf _ _ _ => hod2
        refine hQ _ _ ?_
        exact ret _ _ _ (stays_back hg F15.keep hn (List.forall_mem_cons.mpr ⟨(N15 _ (nth 9)).1, List.forall_mem_cons.mpr ⟨(N15 _ (nth 10)).1, fun _ h => nomatch h⟩⟩))
          (.named l _ b y dy _ _ _ z dz _ _ t5 t6 t7 t8 t9 _ n1 _ _ u5 u6 u7 u8 u9 n8 _ hw hbest hwv hod2 lo (List.forall_mem_cons.mpr ⟨⟨(N15 _ (nth 5)).1, none_back hg (not_two (Nat.lt_trans mx m2) (Nat.lt_trans md m2)) (N15 _ (nth 5)).2.2⟩, List.forall_mem_cons.mpr ⟨⟨(N15 _ (nth 6)).1, none_back hg (not_two mx md) (N15 _ (nth 6)).2.2⟩,
            List.forall_mem_cons.mpr ⟨⟨(N15 _ (nth 7)).1, none_back hg (not_two l9.2.1 l9.2.2.1) (N15 _ (nth 7)).2.2⟩, List.forall_mem_cons.mpr ⟨⟨(N15 _ (nth 3)).1, none_back hg (not_two q1.2.2.2.2.2.1 q1.2.2.2.2.2.2.1) (N15 _ (nth 3)).2.2⟩,
            List.forall_mem_cons.mpr ⟨⟨(N15 _ (nth 0)).1, none_back hg (not_two (Nat.lt_trans m3.2.2.2.2.2.2.2.1 m4) (Nat.lt_trans m3.2.2.2.2.2.2.2.2.1 m4)) (N15 _ (nth 0)).2.2⟩, List.forall_mem_cons.mpr ⟨⟨(N15 _ (nth 1)).1, none_back hg (not_two m3.2.2.2.2.2.2.2.1 m3.2.2.2.2.2.2.2.2.1) (N15 _ (nth 1)).2.2⟩,
            List.forall_mem_cons.mpr ⟨⟨(N15 _ (nth 2)).1, none_back hg (not_two q2.2.2.2.2.2.2.1 q2.2.2.2.2.2.2.2.1) (N15 _ (nth 2)).2.2⟩, fun _ h => nomatch h⟩⟩⟩⟩⟩⟩⟩))
end
/-- the state of a Null as its making leaves it -/
abbrev nullD (w : World) (t0 t1 t2 : Tok) (n : Nat) : Obj :=
  dictOf [⟨PyData.keyHash w.params (Str.ofString "kind"), .str (Str.ofString "kind") t0, .str (Str.ofString "NULL") t1⟩, ⟨PyData.keyHash w.params (Str.ofString "attrs"), .str (Str.ofString "attrs") t2, .none⟩] n
section
variable {w : World} {A : Around} {s : Shared} {mg mb : Str → Option Value} {p : Program} {loose : List Str} {mean : ExcName → Option Value} {c : Heap} {Q E : Value → Shared → Prop}
set_option maxHeartbeats 4000000 in
theorem null_new {h₀ : Heap} {L : Addr} {m : Str → Option Value} {news : List (Addr × Obj)} (C : Amb (hd.heap_39 w.params) mg mb p loose mean h₀) (F : Fr h₀ L s.heap m) (N : News h₀ L s.heap news) (hroom : A.depth + 1 < recursionLimit) (hu : A.units + 400 < cLine)
    (ret : ∀ x dx t0 t1 t2 n h' tk', Fr h₀ L h' m → News h₀ L h' ((x, instObj 115 dx) :: (dx, nullD w t0 t1 t2 n) :: news) → (∀ q ∈ news, q.1 < dx) → dx < x → Q (.ref x) { s with heap := h', toks := tk' }) :
    wpAny (model PySem.Challenge.rw_pq1401_01.row.prog w) A (call (.ref 115) [] []) Q E s := by
  w_top off; revert C; k_fill; intro C
  refine call_cls F C.X N (by k_is) (by k_is) (by k_is) ?_
  intro x dx h1 F1 N1 l1 l2
  replace l2 : @LT.lt Nat _ dx x := l2
  have nx := N1 _ (.head _)
  have nd := N1 _ (.tail _ (.head _))
  refine enterCode (c := h₀) C F1.keep [(x, instObj 115 dx), (dx, dictOf [] 0)] (binds := [(Str.ofString "self", .ref x)])
    (List.forall_mem_cons.mpr ⟨nx.1, List.forall_mem_cons.mpr ⟨nd.1, fun _ h => nomatch h⟩⟩) (List.forall_mem_cons.mpr ⟨nx.2.2, List.forall_mem_cons.mpr ⟨nd.2.2, fun _ h => nomatch h⟩⟩)
    (by k_is) (by k_is) hroom (BindsTo.of_eq (by rfl)) (by exact locs rfl) (by rfl) (by rfl) (by rfl) (by decide) ?_
  intro g L2 h2 hg F2 N2 X2 T2 st2 hL2
  k_steps
  rename_i h4 h5 F5 N5
  have hx := N5 _ (nth 0)
  have hd := N5 _ (nth 1)
  exact ⟨rfl, ret x dx _ _ _ _ _ _ (Fr.hid F1 hg F5.keep (off2 nx.2.1 nd.2.1) (List.forall_mem_cons.mpr ⟨nx.2.2, List.forall_mem_cons.mpr ⟨nd.2.2, fun _ h => nomatch h⟩⟩))
    (List.forall_mem_cons.mpr ⟨⟨hx.1, nx.2⟩, List.forall_mem_cons.mpr ⟨⟨hd.1, nd.2⟩, News.hid (fun q hq => N1 q (.tail _ (.tail _ hq))) hg F5.keep fun q hq => off2 (Nat.ne_of_gt (Nat.lt_trans (l1 q hq) l2)) (Nat.ne_of_gt (l1 q hq))⟩⟩) l1 l2⟩
/-- what the extreme of nothing is -/
abbrev Empty3 (w : World) (h h' : Heap) (y dy l : Addr) (tk t5 t6 t7 t8 t9 : Tok) (n1 n2 : Nat) : Prop :=
  ∀ q ∈ [(y, instObj 144 dy), (dy, vecD w (.str (Str.ofString "integer") tk) (.ref l) .none t5 t6 t7 t8 t9 n1), (l, listOf #[] n2)], h'.get? q.1 = some q.2 ∧ h.get? q.1 = none
set_option maxHeartbeats 4000000 in
theorem which_null {x dx : Addr} {o : Int} {t0 t1 t2 to : Tok} {n : Nat} (C : Amb (hd.heap_39 w.params) mg mb p loose mean c) (st : c.StaysIn s.heap) (hx : s.heap.get? x = some (instObj 115 dx)) (hd : s.heap.get? dx = some (nullD w t0 t1 t2 n)) (cx : c.get? x = none) (cd : c.get? dx = none) (hne : @LT.lt Nat _ dx x)
    (hroom : A.depth + 6 < recursionLimit) (hu : A.units + 800 < cLine) (hh : A.handled = none)
    (ret : ∀ y dy l tk t5 t6 t7 t8 t9 n1 n2 h' tk', s.heap.StaysIn h' → Empty3 w s.heap h' y dy l tk t5 t6 t7 t8 t9 n1 n2 → Q (.ref y) { s with heap := h', toks := tk' }) :
    wpAny (model PySem.Challenge.rw_pq1401_01.row.prog w) A (call (.ref 179) [.ref x, .int o to] []) Q E s := by
  obtain ⟨hdl, dp, fr, gd, un⟩ := A
  obtain rfl : hdl = none := hh
  w_top off; revert C; k_fill; intro C
  have hn : ∀ q ∈ [(x, instObj 115 dx), (dx, nullD w t0 t1 t2 n)], s.heap.get? q.1 = some q.2 := List.forall_mem_cons.mpr ⟨hx, List.forall_mem_cons.mpr ⟨hd, fun _ h => nomatch h⟩⟩
  refine enter C st _ (binds := [(Str.ofString "v", .ref x), (Str.ofString "order", .int o to)]) hn (List.forall_mem_cons.mpr ⟨cx, List.forall_mem_cons.mpr ⟨cd, fun _ h => nomatch h⟩⟩) (by k_is) (by k_is) (by k_extra "my depth") (BindsTo.of_eq (by rfl)) (by exact locs rfl) (by rfl) (by rfl) (by rfl) (by decide) ?_
  intro g L h₁ hg F N X T stc hL
  k_steps
  rename IsRange _ _ _ _ _ _ _ _ => hr
  rename News _ _ _ _ => N7
  rename Fr _ _ _ _ => F7
  refine Mark.of (ks_range (σ := Int × Nat) (n := 0) (fun _ => _) (fun c => [(Str.ofString "best", .int c.1 c.2)]) [] (fun i c => c.1 = -1) (-1, _) rfl hr (range_small1 (by decide) (by decide) (by decide) (by decide)) rfl F7 N7
    (List.forall_mem_cons.mpr ⟨by with_unfolding_all rfl, fun _ h => nomatch h⟩) rfl (fun _ i _ _ _ _ _ hi => absurd hi (Nat.not_lt_zero i)) ?_)
  rintro ⟨be, tb⟩ u h tk p1 F8 N8
  clear F7 N7 hr
  obtain rfl : be = -1 := p1
  dsimp only [kstB] at F8
  k_steps
  rename Fr _ _ _ _ => F9
  rename News _ _ _ _ => N9
  rename _ ∧ _ ∧ _ => l8
  refine vector_new ⟨X, T⟩ F9 N9 (by k_extra "my depth") (by k_extra "my units") ?_
  intro y dy t5 t6 t7 t8 t9 n1 h6 tk6 F10 N10 m1 m2
  have mx := m1 _ (nth 2)
  have md := m1 _ (nth 3)
  have n2 := N10 _ (nth 2)
  exact ret y dy _ _ t5 t6 t7 t8 t9 n1 _ _ _ (stays_back hg F10.keep hn (List.forall_mem_cons.mpr ⟨(N10 _ (nth 4)).1, List.forall_mem_cons.mpr ⟨(N10 _ (nth 5)).1, fun _ h => nomatch h⟩⟩))
    (List.forall_mem_cons.mpr ⟨⟨(N10 _ (nth 0)).1, none_back hg (not_two (Nat.lt_trans mx m2) (Nat.lt_trans md m2)) (N10 _ (nth 0)).2.2⟩, List.forall_mem_cons.mpr ⟨⟨(N10 _ (nth 1)).1, none_back hg (not_two mx md) (N10 _ (nth 1)).2.2⟩,
      List.forall_mem_cons.mpr ⟨⟨n2.1, none_back hg (not_two l8.2.1 l8.2.2) n2.2.2⟩, fun _ h => nomatch h⟩⟩⟩)

set_option maxHeartbeats 4000000 in
theorem max_via {x : Value} {R : Heap → Heap → Value → Prop} (C : Amb (hd.heap_39 w.params) mg mb p loose mean c) (st : c.StaysIn s.heap) (hroom : A.depth + 1 < recursionLimit)
    (inner : ∀ (env : Env) (s' : Shared) (to : Tok) (E' Q' : Value → Shared → Prop), s.heap.StaysIn s'.heap → (∀ v h' tk', s'.heap.StaysIn h' → R s'.heap h' v → Q' v { s' with heap := h', toks := tk' }) → wpAny (model PySem.Challenge.rw_pq1401_01.row.prog w) (A.deeper env) (call (.ref 179) [x, .int 1 to] []) Q' E' s')
    (ret : ∀ h₁ v h' tk', s.heap.StaysIn h₁ → h₁.StaysIn h' → R h₁ h' v → Q v { s with heap := h', toks := tk' }) :
    wpAny (model PySem.Challenge.rw_pq1401_01.row.prog w) A (call (.ref 186) [x] []) Q E s := by
  w_top off; revert C; k_fill; intro C
  refine enter C st [] (binds := [(Str.ofString "v", x)]) (fun _ h => nomatch h) (fun _ h => nomatch h) (by k_is) (by k_is) (Nat.lt_of_succ_lt hroom) (BindsTo.of_eq (by rfl)) (by exact locs rfl) (by rfl) (by rfl) (by rfl) (by decide) ?_
  intro g L h₁ hg F N X T stc hL
  subst hg
  change Fr s.heap _ _ _ at F
  change News s.heap _ _ _ at N
  change (hd.heap_39 w.params).In s.heap at X
  change Top _ _ _ _ _ s.heap at T
  k_steps
  refine inner _ _ _ _ _ F.keep fun v h' tk' st' r => ?_
  k_steps
  exact ret _ _ _ _ F.keep st' r
set_option maxHeartbeats 4000000 in
theorem min_via {x : Value} {R : Heap → Heap → Value → Prop} (C : Amb (hd.heap_39 w.params) mg mb p loose mean c) (st : c.StaysIn s.heap) (hroom : A.depth + 1 < recursionLimit)
    (inner : ∀ (env : Env) (s' : Shared) (to : Tok) (E' Q' : Value → Shared → Prop), s.heap.StaysIn s'.heap → (∀ v h' tk', s'.heap.StaysIn h' → R s'.heap h' v → Q' v { s' with heap := h', toks := tk' }) → wpAny (model PySem.Challenge.rw_pq1401_01.row.prog w) (A.deeper env) (call (.ref 179) [x, .int (-1) to] []) Q' E' s')
    (ret : ∀ h₁ v h' tk', s.heap.StaysIn h₁ → h₁.StaysIn h' → R h₁ h' v → Q v { s with heap := h', toks := tk' }) :
    wpAny (model PySem.Challenge.rw_pq1401_01.row.prog w) A (call (.ref 193) [x] []) Q E s := by
  w_top off; revert C; k_fill; intro C
  refine enter C st [] (binds := [(Str.ofString "v", x)]) (fun _ h => nomatch h) (fun _ h => nomatch h) (by k_is) (by k_is) (Nat.lt_of_succ_lt hroom) (BindsTo.of_eq (by rfl)) (by exact locs rfl) (by rfl) (by rfl) (by rfl) (by decide) ?_
  intro g L h₁ hg F N X T stc hL
  subst hg
  change Fr s.heap _ _ _ at F
  change News s.heap _ _ _ at N
  change (hd.heap_39 w.params).In s.heap at X
  change Top _ _ _ _ _ s.heap at T
  k_steps
  refine inner _ _ _ _ _ F.keep fun v h' tk' st' r => ?_
  k_steps
  exact ret _ _ _ _ F.keep st' r
end
theorem Fr.but {h₀ h h' : Heap} {L l : Addr} {m : Str → Option Value} (F : Fr h₀ L h m) (hl : l ≠ L) (hn : h₀.get? l = none) (k : ∀ b o, b ≠ l → h.get? b = some o → h'.get? b = some o) : Fr h₀ L h' m :=
  ⟨F.ns.at' fun o e => k _ _ (Ne.symm hl) e, fun b o e => k _ _ (fun q => by rw [q, hn] at e; cases e) (F.keep _ _ e), F.above⟩
theorem News.put {h₀ h h' : Heap} {L l : Addr} {o o' : Obj} {news news' : List (Addr × Obj)} (N : News h₀ L h news) (hm : (l, o) ∈ news) (k : ∀ b o, b ≠ l → h.get? b = some o → h'.get? b = some o) (e : h'.get? l = some o')
    (hs : ∀ p ∈ news', p = (l, o') ∨ @Ne Nat p.1 l ∧ p ∈ news) : News h₀ L h' news' := fun p hp =>
  (hs p hp).elim (fun q => by rw [q]; exact ⟨e, (N _ hm).2⟩) fun ⟨ne, hp⟩ => ⟨k _ _ ne (N _ hp).1, (N _ hp).2⟩
set_option maxHeartbeats 4000000 in
/-- a draw, in the ledger's words -/
theorem stud_step {w : World} {A : Around} {s : Shared} {mg mb : Str → Option Value} {p : Program} {loose : List Str} {mean : ExcName → Option Value} {g : Heap} {Q E : Value → Shared → Prop} {L S : Addr} {m : Str → Option Value} {news : List (Addr × Obj)} {vs : List Value} {ns : List Int} {n : Nat} {many : Int} {tm : Tok}
    (C : Amb (hd.heap_39 w.params) mg mb p loose mean g) (F : Fr g L s.heap m) (N : News g L s.heap news) (hm : (S, listOf vs.toArray n) ∈ news) (hi : IntsAre vs ns) (hlen : ns.length ≤ 60) (h0 : 0 < many) (h9 : many < 1000)
    (hroom : A.depth < recursionLimit) (hu : A.units + 400 < cLine) (hh : A.handled = none)
    (ret : ∀ (r : Nat) t h' tk' vs' ns' n', (r : Int) < many → IntsAre vs' ns' → ns'.length ≤ 60 → Fr g L h' m → (∀ news', (∀ p ∈ news', p = (S, listOf vs'.toArray n') ∨ @Ne Nat p.1 S ∧ p ∈ news) → News g L h' news') → Q (.int r t) { s with heap := h', toks := tk' }) :
    wpAny (model PySem.Challenge.rw_pq1401_01.row.prog w) A (call (.ref 207) [.ref S, .int many tm] []) Q E s := by
  refine stud_spec C F.keep (N _ hm).1 (N _ hm).2.2 hi (Nat.le_trans hlen (by decide)) h0 h9 hroom hu hh ?_
  intro r t h2 tk2 sv2 sn2 n2 r0 r7 hsi2 hsl2 k2 hS2
  obtain ⟨m, rfl⟩ : ∃ m : Nat, r = m := ⟨r.toNat, (Int.toNat_of_nonneg r0).symm⟩
  exact ret m t h2 tk2 sv2 sn2 n2 r7 hsi2 (Nat.le_trans hsl2 hlen) (Fr.but F (N _ hm).2.1 (N _ hm).2.2 k2) fun _ => News.put N hm k2 hS2
section
variable {w : World} {mg mb : Str → Option Value} {p : Program} {loose : List Str} {mean : ExcName → Option Value} {c : Heap} {h : Heap} {x dx : Addr} {items : Value} {t0 t1 t2 t3 t4 tk : Tok} {n : Nat}
theorem NamesIs.plain (C : Amb (hd.heap_39 w.params) mg mb p loose mean c) (st : c.StaysIn h) (V : VecAt w h c x dx (.str (Str.ofString "integer") tk) items .none t0 t1 t2 t3 t4 n) : NamesIs w h x none := by
  intro A s Q E k hroom hh r0 r1
  have G : ∀ nm, GetsAttr w s.heap x nm .none := fun nm A2 s2 tn Q2 E2 k2 hr ret => get_attr_none C (stay2 st (stay2 k k2)) ((V.from k).from k2) hr ret
  exact names_none C (stay2 st k) (V.from k) (G _) (G _) hroom fun h' tk' => r0 h' tk' rfl
theorem GetsAttr.dict {ad : Addr} {od : Obj} {kvs : List (Str × Value)} {nm : Str} {r : Value} (C : Amb (hd.heap_39 w.params) mg mb p loose mean c) (st : c.StaysIn h) (V : VecAt w h c x dx (.str (Str.ofString "integer") tk) items (.ref ad) t0 t1 t2 t3 t4 n)
    (ha : h.get? ad = some od) (hc : c.get? ad = none) (lo : (ad == sysModules) = false) (hod : od.IsDictOf (PySem.strKind PySem.Challenge.rw_pq1401_01.row.prog w) kvs) (e : (valueAt kvs nm).getD .none = r) : GetsAttr w h x nm r := by
  subst e
  exact fun A2 s2 tn Q2 E2 k hr ret => get_attr_dict C (stay2 st k) (V.from k) (k _ _ ha) hc lo hod hr ret
theorem NamesIs.list {ad y dy lw : Addr} {od : Obj} {ws : List Value} {kind attrs' : Value} {t5 t6 t7 t8 t9 : Tok} {n' : Nat} (C : Amb (hd.heap_39 w.params) mg mb p loose mean c) (st : c.StaysIn h) (V : VecAt w h c x dx (.str (Str.ofString "integer") tk) items (.ref ad) t0 t1 t2 t3 t4 n)
    (ha : h.get? ad = some od) (hc : c.get? ad = none) (lo : (ad == sysModules) = false) (hod : od.IsDictOf (PySem.strKind PySem.Challenge.rw_pq1401_01.row.prog w) [(Str.ofString "names", .ref y)])
    (W : VecAt w h c y dy kind (.ref lw) attrs' t5 t6 t7 t8 t9 n') (hyx : @LT.lt Nat _ x dy) (hw : h.IsList lw ws.toArray) (hwl : ws.length ≤ 60) (hlw : lw ∉ [x, dx, y, dy]) : NamesIs w h x (some ws) := by
  intro A s Q E k hroom hh r0 r1
  have G := @GetsAttr.dict w mg mb p loose mean c h x dx items t0 t1 t2 t3 t4 tk n ad od _ (Str.ofString "dim") .none C st V ha hc lo hod (by rfl)
  have G2 := @GetsAttr.dict w mg mb p loose mean c h x dx items t0 t1 t2 t3 t4 tk n ad od _ (Str.ofString "names") (.ref y) C st V ha hc lo hod (by rfl)
  exact names_list C (stay2 st k) (V.from k) (W.from k) hyx (hw.at fun o e => k _ o e) hwl hlw (G.from k) (G2.from k) hroom fun b n' h' tk' k' e e' => r1 b n' ws h' tk' rfl k' e e'
theorem NamesIs.table {ad y1 dy1 l1 y dy li z dz lw : Addr} {od : Obj} {v : Value} {ws : List Value} {kind attrs' kind1 attrs1 attrs2 : Value} {t5 t6 t7 t8 t9 t10 t11 t12 t13 t14 t15 t16 t17 t18 t19 tk2 : Tok} {n' n1 n2 : Nat} (C : Amb (hd.heap_39 w.params) mg mb p loose mean c) (st : c.StaysIn h)
    (V : VecAt w h c x dx (.str (Str.ofString "integer") tk) items (.ref ad) t0 t1 t2 t3 t4 n)
    (ha : h.get? ad = some od) (hc : c.get? ad = none) (lo : (ad == sysModules) = false) (hod : od.IsDictOf (PySem.strKind PySem.Challenge.rw_pq1401_01.row.prog w) [(Str.ofString "dim", .ref y1), (Str.ofString "dimnames", .ref y)])
    (V1 : VecAt w h c y1 dy1 kind1 (.ref l1) attrs1 t5 t6 t7 t8 t9 n1) (hl1 : h.IsList l1 [v].toArray) (hl1' : l1 ∉ [y1, dy1])
    (V2 : VecAt w h c y dy kind (.ref li) attrs' t10 t11 t12 t13 t14 n') (W : VecAt w h c z dz (.str (Str.ofString "character") tk2) (.ref lw) attrs2 t15 t16 t17 t18 t19 n2) (hzy : @LT.lt Nat _ z dy)
    (hl : h.IsList li [.ref z].toArray) (hw : h.IsList lw ws.toArray) (hwl : ws.length ≤ 60) (hli : li ∉ [y, dy, z, dz]) (hlw : lw ∉ [y, dy, z, dz]) : NamesIs w h x (some ws) := by
  intro A s Q E k hroom hh r0 r1
  have G := @GetsAttr.dict w mg mb p loose mean c h x dx items t0 t1 t2 t3 t4 tk n ad od _ (Str.ofString "dim") (.ref y1) C st V ha hc lo hod (by rfl)
  have G2 := @GetsAttr.dict w mg mb p loose mean c h x dx items t0 t1 t2 t3 t4 tk n ad od _ (Str.ofString "dimnames") (.ref y) C st V ha hc lo hod (by rfl)
  exact names_table C (stay2 st k) (V.from k) (V1.from k) (hl1.at fun o e => k _ o e) hl1' (V2.from k) (W.from k) hzy (hl.at fun o e => k _ o e) (hw.at fun o e => k _ o e) hwl hli hlw (G.from k) (G2.from k) hroom hh fun b n' h' tk' k' e e' => r1 b n' ws h' tk' rfl k' e e'
end
/-- the state behind the dressing of v -/
def Dressed (w : World) (g : Heap) (L : Addr) (m : Str → Option Value) (x dx : Addr) (kd items : Value) (base : List (Addr × Obj)) (P : Value → Obj → List (Addr × Obj) → Prop) (s s' : Shared) : Prop :=
  ∀ R : Prop, (∀ (attrs : Value) (t0 t1 t2 t3 t4 : Tok) (n : Nat) (M : List (Addr × Obj)) (u : Str → Option Value) (h : Heap) (tk : Nat), s' = { s with heap := h, toks := tk } → Fr g L h (fun y => if y = Str.ofString "lists" then u y else m y) →
    News g L h ((x, instObj 144 dx) :: (dx, vecD w kd items attrs t0 t1 t2 t3 t4 n) :: (base ++ M)) → P attrs (vecD w kd items attrs t0 t1 t2 t3 t4 n) M → R) → R
/-- the names of v, wherever its parts stand -/
def Named (w : World) (g : Heap) (x dx : Addr) (ws : Option (List Value)) (_ : Value) (ob : Obj) (M : List (Addr × Obj)) : Prop :=
  ∀ h : Heap, g.StaysIn h → (∀ q ∈ (x, instObj 144 dx) :: (dx, ob) :: M, h.get? q.1 = some q.2) → NamesIs w h x ws
theorem Dressed.intro {w : World} {g : Heap} {L : Addr} {m : Str → Option Value} {x dx : Addr} {kd items : Value} {base : List (Addr × Obj)} {P : Value → Obj → List (Addr × Obj) → Prop} {s s' : Shared} {attrs : Value} {t0 t1 t2 t3 t4 : Tok} {n : Nat} {M : List (Addr × Obj)} {u : Str → Option Value} {h : Heap} {tk : Nat}
    (F : Fr g L h (fun y => if y = Str.ofString "lists" then u y else m y)) (N : News g L h (M ++ (x, instObj 144 dx) :: (dx, vecD w kd items attrs t0 t1 t2 t3 t4 n) :: base)) (p : P attrs (vecD w kd items attrs t0 t1 t2 t3 t4 n) M) (e : s' = { s with heap := h, toks := tk }) : Dressed w g L m x dx kd items base P s s' := fun R k =>
  k attrs t0 t1 t2 t3 t4 n M u h tk e F (fun q hq => N q ((List.mem_cons.mp hq).elim (fun e => e ▸ List.mem_append_right _ (.head _)) fun hq => (List.mem_cons.mp hq).elim (fun e => e ▸ List.mem_append_right _ (.tail _ (.head _))) fun hq =>
    (List.mem_append.mp hq).elim (fun h => List.mem_append_right _ (.tail _ (.tail _ h))) fun h => List.mem_append_left _ h)) p
theorem listAt {h : Heap} {l : Addr} {vs : Array Value} {n : Nat} (e : h.get? l = some (listOf vs n)) : h.IsList l vs := ⟨_, e, rfl, _, rfl⟩
theorem off4 {x y z a q : Addr} (h1 : @Ne Nat x q) (h2 : @Ne Nat y q) (h3 : @Ne Nat z q) (h4 : @Ne Nat a q) : q ∉ [x, y, z, a] := fun h => (List.mem_cons.mp h).elim (fun e => h1 e.symm) fun h => (List.mem_cons.mp h).elim (fun e => h2 e.symm) (off2 h3 h4)
theorem Named.mono {w : World} {g : Heap} {x dx : Addr} {ws : Option (List Value)} {v : Value} {ob : Obj} {M M' : List (Addr × Obj)} (d : Named w g x dx ws v ob M) (hs : ∀ q ∈ M, q ∈ M') : Named w g x dx ws v ob M' := fun h st hq =>
  d h st fun q hm => hq q ((List.mem_cons.mp hm).elim (fun e => e ▸ .head _) fun hm => (List.mem_cons.mp hm).elim (fun e => e ▸ .tail _ (.head _)) fun hm => .tail _ (.tail _ (hs q hm)))
/-- the best of the counts, or nothing -/
def BestIs (o : Int) (ns : List Int) (v : Value) : Prop := (ns = [] → v = .none) ∧ (ns ≠ [] → ∃ M t, v = .int M t ∧ M ∈ ns ∧ ∀ a ∈ ns, o * a ≤ o * M)
theorem BestIs.max {ns : List Int} {M : Int} {t : Tok} (hM : M ∈ ns) (h : ∀ a, a ∈ ns → a ≤ M) : BestIs 1 ns (.int M t) :=
  ⟨fun e => (by rw [e] at hM; cases hM), fun _ => ⟨M, t, rfl, hM, fun a ha => by rw [Int.one_mul, Int.one_mul]; exact h a ha⟩⟩
theorem BestIs.min {ns : List Int} {M : Int} {t : Tok} (hM : M ∈ ns) (h : ∀ a, a ∈ ns → M ≤ a) : BestIs (-1) ns (.int M t) :=
  ⟨fun e => (by rw [e] at hM; cases hM), fun _ => ⟨M, t, rfl, hM, fun a ha => by rw [Int.neg_one_mul, Int.neg_one_mul]; exact Int.neg_le_neg (h a ha)⟩⟩
def BestAfter (o : Int) (ns : List Int) (g : Heap) (L : Addr) (m : Str → Option Value) (news : List (Addr × Obj)) (s : Shared) (v : Value) (s' : Shared) : Prop := BestIs o ns v ∧ ∀ R : Prop, (∀ h tk, s' = { s with heap := h, toks := tk } → Fr g L h m → News g L h news → R) → R
theorem BestAfter.intro {o : Int} {ns : List Int} {g h : Heap} {L : Addr} {m : Str → Option Value} {news : List (Addr × Obj)} {p : Addr × Obj} {s s' : Shared} {v : Value} {tk : Nat} (b : BestIs o ns v) (F : Fr g L h m) (N : News g L h (p :: news)) (e : s' = { s with heap := h, toks := tk }) : BestAfter o ns g L m news s v s' := ⟨b, fun _ k => k h tk e F fun q hq => N q (.tail _ hq)⟩
theorem best_cut {Mo : Model} {A : Around} {code : Sem Value} {Q E : Value → Shared → Prop} {s : Shared} {g : Heap} {L : Addr} {m : Str → Option Value} {news : List (Addr × Obj)} (o : Int) (ns : List Int)
    (_ : Fr g L s.heap m) (_ : News g L s.heap news) (h1 : ∀ QQ : Value → Shared → Prop, (∀ v s', BestAfter o ns g L m news s v s' → QQ v s') → wpAny Mo A code QQ E s)
    (h2 : ∀ v h tk, Fr g L h m → News g L h news → BestIs o ns v → Q v { s with heap := h, toks := tk }) : wpAny Mo A code Q E s := wpAny_mono (h1 _ fun _ _ e => e) (fun v s' ⟨b, d⟩ => d _ fun h tk e F N => by subst e; exact h2 v h tk F N b) fun _ _ e => e
theorem Fr.dup {g h : Heap} {L : Addr} {m : Str → Option Value} {k : Str} (F : Fr g L h m) : Fr g L h (fun y => if y = k then m y else m y) := by simpa using F
theorem dress_cut {Mo : Model} {A : Around} {code : Sem Flow} {Q : Flow → Shared → Prop} {E : Value → Shared → Prop} {s : Shared} {w : World} {g : Heap} {L : Addr} {m : Str → Option Value} {x dx : Addr} {kd items at' : Value} {t0 t1 t2 t3 t4 : Tok} {n : Nat} {base : List (Addr × Obj)}
    (_ : Fr g L s.heap m) (_ : News g L s.heap ((x, instObj 144 dx) :: (dx, vecD w kd items at' t0 t1 t2 t3 t4 n) :: base)) (P : Value → Obj → List (Addr × Obj) → Prop)
    (h1 : ∀ QQ : Flow → Shared → Prop, (∀ s', Dressed w g L m x dx kd items base P s s' → QQ .next s') → wpAny Mo A code QQ E s)
    (h2 : ∀ (attrs : Value) (t0 t1 t2 t3 t4 : Tok) (n : Nat) (M : List (Addr × Obj)) (u : Str → Option Value) (h : Heap) (tk : Nat), Fr g L h (fun y => if y = Str.ofString "lists" then u y else m y) →
      News g L h ((x, instObj 144 dx) :: (dx, vecD w kd items attrs t0 t1 t2 t3 t4 n) :: (base ++ M)) → P attrs (vecD w kd items attrs t0 t1 t2 t3 t4 n) M → Q .next { s with heap := h, toks := tk }) :
    wpAny Mo A code Q E s := wpAny_mono (h1 (fun fl s' => fl = .next ∧ Dressed w g L m x dx kd items base P s s') fun _ d => ⟨rfl, d⟩) (fun fl s' ⟨e, d⟩ => by
      subst e
      exact d _ fun attrs t0 t1 t2 t3 t4 n M u h tk e F N P => by subst e; exact h2 attrs t0 t1 t2 t3 t4 n M u h tk F N P) fun _ _ e => e
section
variable {prog : Program} {w : World} {A : Around} {E : Value → Shared → Prop} {s : Shared} {env : Env} {h₀ : Heap} {target : Expr} {body : List Stmt} {Q : Flow → Shared → Prop}
/-- over a list that nothing in the loop touches, the ledger's part as it lies, some names forgotten -/
theorem turns_list {l : Addr} {vs : List Value} {m₀ : Str → Option Value} {Led : List (Addr × Obj)} (stored : List Str) (hh : A.handled = none) (hl : s.heap.IsList l vs.toArray) (hlL : l ≠ env.locals) (hlN : ∀ q ∈ Led, q.1 ≠ l)
    (F : Fr h₀ env.locals s.heap m₀) (N : News h₀ env.locals s.heap Led)
    (turn : ∀ (i : Nat) v (u : Str → Option Value) h tk own, vs[i]? = some v → OwnOff own (Led.map (·.1)) → Fr h₀ env.locals h (fun z => if stored.contains z then u z else m₀ z) → News h₀ env.locals h (Led ++ own) →
      ∀ QQ : Flow → Shared → Prop, (∀ f s', InvPostN h₀ env.locals (fun m nx => nx = Led ∧ ∀ z, stored.contains z = false → m z = m₀ z) own (Led.map (·.1)) { s with heap := h, toks := tk } Q f s' → QQ f s') → wpAny (model prog w) A (assign target env v) (fun _ s₃ => wpAny (model prog w) A (execs body env) QQ E s₃) E { s with heap := h, toks := tk })
    (done : ∀ (u : Str → Option Value) h tk, Fr h₀ env.locals h (fun z => if stored.contains z then u z else m₀ z) → News h₀ env.locals h Led → Q .next { s with heap := h, toks := tk }) :
    wpAny (model prog w) A (pyIter (.ref l)) (fun it s₂ => TurnsAt prog w A h₀ env target body Q E it s₂) E s := by
  obtain ⟨ol, hol, _⟩ := id hl
  have hne : l ≠ s.heap.objs.size := Nat.ne_of_lt (Heap.lt_size hol)
  refine wpAny_pyIter_list hl ?_
  have W := Walks.list (prog := prog) (w := w) hh s.heap.objs.size l hne vs.toArray
  have hfp : ∀ q ∈ Led, q.1 ∉ [s.heap.objs.size, l] := fun q hq h => (List.mem_cons.mp h).elim (fun e => absurd (Heap.lt_size (N q hq).1) (e ▸ Nat.lt_irrefl _)) fun h => hlN q hq (List.mem_singleton.mp h)
  have fr : ∀ {m : Str → Option Value} {h}, (∀ z, stored.contains z = false → m z = m₀ z) → Fr h₀ env.locals h m → Fr h₀ env.locals h (fun z => if stored.contains z then m z else m₀ z) := fun {m h} e f => by
    have : (fun z => if stored.contains z then m z else m₀ z) = m := funext fun z => by
      cases hz : stored.contains z with
      | true => rfl
      | false => exact (e z hz).symm
    rw [this]; exact f
  refine ⟨s.heap.objs.size, _, _, _, _, _, _, m₀, Led, fun _ m nx => nx = Led ∧ ∀ z, stored.contains z = false → m z = m₀ z, rfl, KTurns.ofWalks W fun i v s Q E st q => letGo_listiter st.1 q, ?_, ?_, ?_, ⟨⟨_, Heap.get?_push_size _ rfl, rfl, rfl⟩, hl.at fun o e => Heap.get?_push_of_some _ e⟩, F.push _, fun p hp => ⟨Heap.get?_push_of_some _ (N p hp).1, (N p hp).2⟩, ⟨rfl, fun _ _ => rfl⟩, ?_, ?_⟩
  · intro hm
    rcases List.mem_cons.mp hm with e | hm
    · exact absurd F.ns.lt (e ▸ Nat.lt_irrefl _)
    · exact hlL (List.mem_singleton.mp hm).symm
  · intro b hb
    rw [List.mem_singleton.mp hb]
    exact next_is_new F
  · exact fun p hp hI => hfp p hp (List.mem_cons.mpr (.inl (List.mem_singleton.mp hI)))
  · rintro i v m₁ news₁ h₁ tk₁ own hi hv ⟨rfl, hm⟩ hoff hown _ _ _ F₁ N₁
    have sep : OwnOff own (news₁.map (·.1)) := fun p hp b hb e => by
      obtain ⟨q, hq, rfl⟩ := List.mem_map.mp hb
      exact hfp q hq (e ▸ hown p hp)
    refine wpAny_mono (turn i v m₁ h₁ tk₁ own (by simpa using hv) sep (fr hm F₁) (fun p hp => N₁ p ((List.mem_append.mp hp).elim (fun h => List.mem_append.mpr (.inr h)) fun h => List.mem_append.mpr (.inl h))) _ fun _ _ e => e) (fun _ s₂ h₂ => wpAny_mono h₂ (fun f s₃ p => ?_) fun _ _ e => e) fun _ _ e => e
    have fin : InvEndN h₀ env.locals (fun m nx => nx = news₁ ∧ ∀ z, stored.contains z = false → m z = m₀ z) own (news₁.map (·.1)) { s with heap := h₁, toks := tk₁ } s₃ → LoopStepU h₀ env.locals [s.heap.objs.size] own (fun m nx => nx = news₁ ∧ ∀ z, stored.contains z = false → m z = m₀ z) { s with heap := h₁, toks := tk₁ } .next s₃ := by
      rintro ⟨h', tk, m', news', nx, e, F', N', hn, ho, ha, rfl, hm'⟩
      exact ⟨rfl, h', tk, m', nx, e, F', fun p hp => N' p ((List.mem_append.mp hp).elim (ho p) (hn p)), hoff, rfl, hm'⟩
    cases f with
    | ret v => exact .ret p
    | brk => exact .brk p
    | next => exact .next (fin p)
    | cont => exact .cont (fin p)
  · rintro h' tk m' news' F' N' _ ⟨rfl, hm⟩
    exact done m' h' tk (fr hm F') N'
end
section
variable {w : World} {A : Around} {s : Shared} {mg mb : Str → Option Value} {p : Program} {loose : List Str} {mean : ExcName → Option Value} {c : Heap} {Q E : Value → Shared → Prop}
theorem which_call {a x dx li : Addr} {lv : List Value} {ns : List Int} {ws : Option (List Value)} {o : Int} {attrs : Value} {t0 t1 t2 t3 t4 tq : Tok} {n : Nat} (ha : a = 186 ∧ o = 1 ∨ a = 193 ∧ o = -1) (C : Amb (hd.heap_39 w.params) mg mb p loose mean c) (st : c.StaysIn s.heap) (V : VecAt w s.heap c x dx (.str (Str.ofString "integer") tq) (.ref li) attrs t0 t1 t2 t3 t4 n)
    (hl : s.heap.IsList li lv.toArray) (hi : IntsAre lv ns) (hlen : ns.length ≤ 60) (hns : ∀ k ∈ ns, 0 ≤ k ∧ k ≤ 1000) (hli : li ∉ [x, dx]) (HN : NamesIs w s.heap x ws) (hws : ∀ l, ws = some l → l.length = ns.length) (hroom : A.depth + 7 < recursionLimit) (hu : A.units + 900 < cLine) (hh : A.handled = none)
    (ret : ∀ h₁ v h' tk', s.heap.StaysIn h₁ → h₁.StaysIn h' → Told w o ns ws h₁ h' v → Q v { s with heap := h', toks := tk' }) :
    wpAny (model PySem.Challenge.rw_pq1401_01.row.prog w) A (call (.ref a) [.ref x] []) Q E s := by
  have inner : ∀ (o : Int), (o = 1 ∨ o = -1) → ∀ (env : Env) (s' : Shared) (to : Tok) (E' Q' : Value → Shared → Prop), s.heap.StaysIn s'.heap → (∀ v h' tk', s'.heap.StaysIn h' → Told w o ns ws s'.heap h' v → Q' v { s' with heap := h', toks := tk' }) → wpAny (model PySem.Challenge.rw_pq1401_01.row.prog w) (A.deeper env) (call (.ref 179) [.ref x, .int o to] []) Q' E' s' := fun o ho env s' to E' Q' k r =>
    which_spec C (stay2 st k) (V.from k) (hl.at fun o e => k _ o e) hi hlen hns ho hli (fun A2 s2 Q2 E2 k2 => HN A2 s2 Q2 E2 (stay2 k k2)) hws (by k_extra "my depth") (by k_extra "my units") hh r
  rcases ha with ⟨rfl, rfl⟩ | ⟨rfl, rfl⟩
  · exact max_via C st (by k_extra "my depth") (inner 1 (.inl rfl)) ret
  · exact min_via C st (by k_extra "my depth") (inner (-1) (.inr rfl)) ret
theorem index_ints {l : Addr} {vs : List Value} {ns : List Int} {k : Int} {t : Tok} {n : Nat} (ho : s.heap.get? l = some (listOf vs.toArray n)) (hi : IntsAre vs ns) (hlen : ns.length ≤ 60) (hk : k ∈ ns) {b : Nat} (e : ns.idxOf k = b) (h : Q (.int (b : Nat) s.toks) { s with toks := s.toks + 1 }) :
    wpAny (model PySem.Challenge.rw_pq1401_01.row.prog w) A (call (.builtin "list.index") [.ref l, .int k t] []) Q E s := by
  subst e
  have hj := List.idxOf_lt_length_iff.mpr hk
  have hv : ∀ {j}, j < ns.length → j < vs.length := fun h => hi.length ▸ h
  have hjv := hv hj
  refine call_meets PySem.F.slot_list_index ⟨_, ho, rfl⟩ PySem.F.entry_list_index (PySem.F.args_list_index_2 _ _)
    (SeqAt.list_indexAt l vs.toArray n _ _ (.int k t) (isInt k) (ns.idxOf k) (by rw [List.size_toArray]; exact hv hj) (Int.lt_of_lt_of_le (Int.ofNat_lt.mpr (Nat.lt_of_lt_of_le hj hlen)) (by decide)) ?_ ?_) ⟨ho, fun y hy => (eq_isInt k t hi y (by simpa using hy)).at _ _, h⟩
  · show isInt k vs[ns.idxOf k] = true
    rw [isInt_at k hi _ (hv hj) hj, List.getElem_idxOf hj]
    exact decide_eq_true rfl
  · intro j hjs hlt
    have hjv2 := hv (Nat.lt_trans hlt hj)
    show isInt k vs[j] = false
    rw [isInt_at k hi j (hv (Nat.lt_trans hlt hj)) (Nat.lt_trans hlt hj)]
    exact ne_of_lt_idxOf hlt _
end
abbrev tup2 (a b : Value) : Obj := { cls := .type "tuple", data := .seq #[a, b] }
theorem two_turns {d1 d2 : Addr} {v v1 v2 : Value} {i : Nat} {ns : List Int} {Led : List (Addr × Obj)} {G : Prop} (hv : [Value.ref d1, .ref d2][i]? = some v) (B1 : BestIs 1 ns v1) (B2 : BestIs (-1) ns v2) (h1 : (d1, tup2 (.ref 186) v1) ∈ Led) (h2 : (d2, tup2 (.ref 193) v2) ∈ Led)
    (k : ∀ a o bv d, v = .ref d → (a = 186 ∧ o = 1 ∨ a = 193 ∧ o = -1) → BestIs o ns bv → (d, tup2 (.ref a) bv) ∈ Led → G) : G := by
  rcases i with _ | _ | i
  · cases hv; exact k _ _ _ _ rfl (.inl ⟨rfl, rfl⟩) B1 h1
  · cases hv; exact k _ _ _ _ rfl (.inr ⟨rfl, rfl⟩) B2 h2
  · cases hv
theorem AllLt.ne {d : Addr} : ∀ {M : List (Addr × Obj)}, AllLt d M → ∀ q ∈ M, q.1 ≠ d
  | [], _, _, h => nomatch h
  | p :: r, hl, q, h => (List.mem_cons.mp h).elim (fun e => e ▸ Nat.ne_of_lt hl.1) (AllLt.ne hl.2 q)
theorem word_ok : ∀ i : Nat, i < 7 → PyData.strOk (Str.ofString "w" ++ Str.ofString (toString (0 + (i : Int)))) = true := by decide +kernel
section
variable {prog : Program} {w : World} {A : Around} {E : Value → Shared → Prop} {s : Shared} {Q : Value → Shared → Prop}
theorem eq_ints {a b : Addr} {vs us : List Value} {ns ms : List Int} {n n' : Nat} {B : Bool} (ha : s.heap.get? a = some (listOf vs.toArray n)) (hi : IntsAre vs ns) (hb : s.heap.get? b = some (listOf us.toArray n')) (hi' : IntsAre us ms) (hu : A.units + 64 < cLine) (e : decide (ns = ms) = B) (h : Q (.bool B) s) :
    wpAny (model prog w) A (compareOp .Eq (.ref a) (.ref b)) Q E s := eq_intsK (listAt ha) hi (listAt hb) hi' hu (by rw [e]; exact h)
theorem ne_ints {a b : Addr} {vs us : List Value} {ns ms : List Int} {n n' : Nat} (ha : s.heap.get? a = some (listOf vs.toArray n)) (hi : IntsAre vs ns) (hb : s.heap.get? b = some (listOf us.toArray n')) (hi' : IntsAre us ms) (hu : A.units + 64 < cLine) (e : ns = ms) (h : Q (.bool false) s) :
    wpAny (model prog w) A (compareOp .NotEq (.ref a) (.ref b)) Q E s := ne_intsK (listAt ha) hi (listAt hb) hi' hu (by rw [decide_eq_true e]; exact h)
theorem ne_words {a b : Addr} {st : Str} {t t' : Tok} {n n' : Nat} (hs : PyData.strOk st = true) (ha : s.heap.get? a = some (listOf [.str st t].toArray n)) (hb : s.heap.get? b = some (listOf [.str st t'].toArray n')) (hu : A.units + 64 < cLine) (h : Q (.bool false) s) :
    wpAny (model prog w) A (compareOp .NotEq (.ref a) (.ref b)) Q E s := by
  have sh : SeqAt.shaped (.list [.str st]) = true := by simp [SeqAt.shaped, PyData.canLay0, PyData.canLayAll0, PyData.depth, PyData.depthAll, hs]
  refine ne_dataH_same (Reads.list (xs := [.str st]) ha rfl rfl (.cons (.str st t) .nil)) (Reads.list (xs := [.str st]) hb rfl rfl (.cons (.str st t') .nil)) sh sh hu (by simp [SeqAt.noMix, SeqAt.noMixAll]) ?_
  simp only [PySem.Spec.same, PySem.Spec.sameAll]
  simpa using h
end
theorem best_place {o : Int} {ns : List Int} {b : Nat} {M : Int} (ho : o = 1 ∨ o = -1) (hb : BestTo o ns b ns.length) (hM : M ∈ ns) (h : ∀ a ∈ ns, o * a ≤ o * M) : ns.idxOf M = b := by
  obtain ⟨hbl, hbb⟩ := hb
  have hi := List.idxOf_lt_length_iff.mpr hM
  have e1 : ns[ns.idxOf M]? = some M := by rw [List.getElem?_eq_getElem hi, List.getElem_idxOf]
  have e2 : ns[b]? = some ns[b] := List.getElem?_eq_getElem hbl
  have h1 := hbb _ _ _ hi e2 e1
  have h2 : o * ns[b] = o * M := Int.le_antisymm (h _ (List.getElem_mem hbl)) h1.2
  have h3 : ns[b] = M := by
    rcases ho with rfl | rfl
    · rw [Int.one_mul, Int.one_mul] at h2; exact h2
    · rw [Int.neg_one_mul, Int.neg_one_mul] at h2; exact Int.neg_inj.mp h2
  rcases Nat.lt_trichotomy (ns.idxOf M) b with h4 | h4 | h4
  · exact absurd (h1.1 h4) (by rw [h2]; exact Int.lt_irrefl _)
  · exact h4
  · exact absurd (ne_of_lt_idxOf h4 hbl) (by rw [h3]; simp)
theorem off_stored {stored : List Str} {u m₀ : Str → Option Value} {z : Str} (hz : stored.contains z = false) : ∀ ps : List (Str × Value), (ps.all fun p => stored.contains p.1) = true → kstB (fun z => if stored.contains z then u z else m₀ z) ps z = m₀ z
  | [], _ => if_neg (by rw [hz]; exact Bool.noConfusion)
  | p :: r, h => (if_neg fun e => Bool.noConfusion (hz.symm.trans ((congrArg stored.contains e).trans (Bool.and_eq_true_iff.mp h).1)) : kstB (fun z => if stored.contains z then u z else m₀ z) (p :: r) z = _).trans (off_stored hz r (Bool.and_eq_true_iff.mp h).2)
theorem turn_end {g h' : Heap} {L : Addr} {stored : List Str} {u m₀ : Str → Option Value} {Led own news' : List (Addr × Obj)} {s₁ : Shared} {tk : Nat} (ps : List (Str × Value)) (F : Fr g L h' (kstB (fun z => if stored.contains z then u z else m₀ z) ps)) (N : News g L h' news') (hps : (ps.all fun p => stored.contains p.1) = true) (hn : ∀ p ∈ Led ++ own, p ∈ news') :
    InvEndN g L (fun m nx => nx = Led ∧ ∀ z, stored.contains z = false → m z = m₀ z) own (Led.map (·.1)) s₁ { s₁ with heap := h', toks := tk } :=
  InvEndN.intro F N ⟨rfl, fun _ hz => off_stored hz ps hps⟩ rfl (fun p hp => hn p (List.mem_append_left _ hp)) fun p hp => hn p (List.mem_append_right _ hp)
section
variable {prog : Program} {w : World} {A : Around} {E : Value → Shared → Prop} {s : Shared} {env : Env} {h₀ : Heap} {x : Str} {body : List Stmt} {Q : Flow → Shared → Prop}
/-- the end of a turn of a loop whose ledger may grow -/
def GEnd {σ : Type} (h₀ : Heap) (L : Addr) (Led : σ → List (Addr × Obj)) (P : σ → Prop) (x : Str) (stored : List Str) (m₀ : Str → Option Value) (own : List (Addr × Obj)) (s s' : Shared) : Prop :=
  ∀ R : Prop, (∀ c h' tk m', s' = { s with heap := h', toks := tk } → Fr h₀ L h' m' → News h₀ L h' (Led c ++ own) → (∀ p ∈ own, ∀ q ∈ Led c, @Ne Nat p.1 q.1) → P c → (∀ z, z ≠ x → stored.contains z = false → m' z = m₀ z) → R) → R
def GPost {σ : Type} (h₀ : Heap) (L : Addr) (Led : σ → List (Addr × Obj)) (P : σ → Prop) (x : Str) (stored : List Str) (m₀ : Str → Option Value) (own : List (Addr × Obj)) (s : Shared) (f : Flow) (s' : Shared) : Prop := f = .next ∧ GEnd h₀ L Led P x stored m₀ own s s'
theorem GPost.intro {σ : Type} {h₀ h' : Heap} {L : Addr} {Led : σ → List (Addr × Obj)} {P : σ → Prop} {x : Str} {stored : List Str} {u m₀ : Str → Option Value} {own : List (Addr × Obj)} {s : Shared} {tk : Nat} (c : σ) (ps : List (Str × Value)) (F : Fr h₀ L h' (kstB (fun z => if stored.contains z then u z else m₀ z) ps)) (N : News h₀ L h' (Led c ++ own)) (off : ∀ p ∈ own, ∀ q ∈ Led c, @Ne Nat p.1 q.1) (hp : P c) (hps : (ps.all fun p => stored.contains p.1) = true) :
    GPost h₀ L Led P x stored m₀ own s .next { s with heap := h', toks := tk } := ⟨rfl, fun _ k => k c h' tk _ rfl F N off hp fun _ _ hz => off_stored hz ps hps⟩
/-- over a range by ones, the ledger growing -/
theorem grow_range {σ : Type} {r : Addr} {a₀ b₀ : Int} {t₀ u₀ v₀ : Tok} {n : Nat} {m₀ : Str → Option Value} (Led : σ → List (Addr × Obj)) (stored : List Str) (P : Nat → σ → Prop) (c₀ : σ)
    (hh : A.handled = none) (hr : IsRange s.heap r a₀ b₀ 1 t₀ u₀ v₀) (hsmall : Builtin.Range.small a₀ b₀ 1 = true) (hn : Builtin.Range.rangeSize a₀ b₀ 1 = (n : Int))
    (F : Fr h₀ env.locals s.heap m₀) (N : News h₀ env.locals s.heap (Led c₀)) (hp : P 0 c₀)
    (turn : ∀ (c : σ) (i : Nat) t (u : Str → Option Value) h tk own, i < n → (∀ p ∈ own, ∀ q ∈ Led c, @Ne Nat p.1 q.1) → P i c →
      Fr h₀ env.locals h (fun y => if y = x then some (.int (a₀ + (i : Int)) t) else if stored.contains y then u y else m₀ y) → News h₀ env.locals h (Led c ++ own) →
      wpAny (model prog w) A (execs body env) (GPost h₀ env.locals Led (P (i + 1)) x stored m₀ own { s with heap := h, toks := tk }) E { s with heap := h, toks := tk })
    (done : ∀ (c : σ) (u : Str → Option Value) h tk, P n c → Fr h₀ env.locals h (fun y => if y = x then u y else if stored.contains y then u y else m₀ y) → News h₀ env.locals h (Led c) → Q .next { s with heap := h, toks := tk }) :
    wpAny (model prog w) A (pyIter (.ref r)) (fun it s₂ => LoopAtV prog w A h₀ env x body Q E it s₂) E s := by
  refine wpAny_pyIter_range hr hsmall ?_
  have fr : ∀ {m : Str → Option Value} {h} {v : Str → Option Value}, (∀ z, z ≠ x → stored.contains z = false → m z = m₀ z) → Fr h₀ env.locals h (fun y => if y = x then v y else m y) → Fr h₀ env.locals h (fun y => if y = x then v y else if stored.contains y then m y else m₀ y) := fun {m h v} e f => by
    have : (fun y => if y = x then v y else if stored.contains y then m y else m₀ y) = fun y => if y = x then v y else m y := funext fun z => by
      by_cases hx : z = x
      · rw [if_pos hx, if_pos hx]
      · rw [if_neg hx, if_neg hx]
        cases hz : stored.contains z with
        | true => rfl
        | false => exact (e z hx hz).symm
    rw [this]; exact f
  have fr2 : ∀ {m : Str → Option Value} {h}, Fr h₀ env.locals h m → Fr h₀ env.locals h (fun y => if y = x then m y else m y) := fun {m h} f => by simpa using f
  refine ⟨s.heap.objs.size, _, _, _, _, _, m₀, Led c₀, fun i m nx => ∃ c, nx = Led c ∧ P i c ∧ ∀ z, z ≠ x → stored.contains z = false → m z = m₀ z, rfl, Walks.range hh s.heap.objs.size a₀ 1 n, ?_, ?_, ?_, (by show IsRangeIter _ _ _ _ _; rw [hn]; simpa using Heap.get?_push_size _ rfl), F.push _, fun p hp => ⟨Heap.get?_push_of_some _ (N p hp).1, (N p hp).2⟩, ⟨c₀, rfl, hp, fun _ _ _ => rfl⟩, ?_, ?_⟩
  · intro hm
    exact absurd F.ns.lt ((List.mem_singleton.mp hm) ▸ Nat.lt_irrefl _)
  · intro b hb
    rw [List.mem_singleton.mp hb]
    exact next_is_new F
  · exact fun p hp hI => absurd (Heap.lt_size (N p hp).1) ((List.mem_singleton.mp hI) ▸ Nat.lt_irrefl _)
  · rintro i v m₁ news₁ s₁ own ⟨h, tk, rfl⟩ hi ⟨t, rfl⟩ ⟨c, rfl, hP, hm⟩ hoff hown _ hall hst F₁ N₁
    have e1 : a₀ + (i : Int) * 1 = a₀ + (i : Int) := by rw [Int.mul_one]
    rw [e1] at F₁
    have sep : ∀ p ∈ own, ∀ q ∈ Led c, @Ne Nat p.1 q.1 := fun p hp q hq e => hoff q hq (e ▸ hown p hp)
    refine wpAny_mono (turn c i t m₁ h tk own hi sep hP (fr (v := fun _ => _) hm F₁) fun p hp => N₁ p ((List.mem_append.mp hp).elim (fun h => List.mem_append.mpr (.inr h)) fun h => List.mem_append.mpr (.inl h))) (fun f s₃ p => ?_) fun _ _ e => e
    obtain ⟨rfl, p⟩ := p
    refine p _ fun c' h' tk' m' e F' N' off' hP' hm' => .next ⟨rfl, h', tk', m', Led c', e, F', fun p hp => N' p ((List.mem_append.mp hp).elim (fun h => List.mem_append.mpr (.inr h)) fun h => List.mem_append.mpr (.inl h)), fun p hp hI => ?_, c', rfl, hP', hm'⟩
    have hI' := List.mem_singleton.mp hI
    exact off' _ (hall s.heap.objs.size (List.mem_singleton.mpr rfl) (next_is_new F) _ hst) _ hp hI'.symm
  · rintro h' tk m' news' F' N' _ ⟨c, rfl, hP, hm⟩
    exact done c m' h' tk hP (fr (v := m') hm (fr2 F')) N'
end
/-- the row as it grows: its tuples and how many -/
def RowOk (M : List (Addr × Obj)) (i : Nat) : Prop := ∃ qs, (∀ h : Heap, (∀ p ∈ M, h.get? p.1 = some p.2) → FracsAt h (M.map fun p => Value.ref p.1) qs) ∧ (∀ q ∈ qs, good q) ∧ qs.length = i
theorem RowOk.snoc {M : List (Addr × Obj)} {i : Nat} (r : RowOk M i) {a : Addr} {o : Obj} {q : Int × Int} (y : ∀ h : Heap, h.get? a = some o → FracAt h (.ref a) q) (g : good q) : RowOk (M ++ [(a, o)]) (i + 1) := by
  obtain ⟨qs, h1, h2, rfl⟩ := r
  refine ⟨qs ++ [q], fun h hp => ?_, fun p hp => (List.mem_append.mp hp).elim (h2 p) fun e => (List.mem_singleton.mp e) ▸ g, by rw [List.length_append]; rfl⟩
  rw [List.map_append]
  exact FracsAt.snoc (h1 h fun p hm => hp p (List.mem_append_left _ hm)) (y h (hp _ (List.mem_append_right _ (.head _))))
theorem FracAt.obj {h : Heap} {a : Addr} {q : Int × Int} (x : FracAt h (.ref a) q) {G : Prop} (k : ∀ o, h.get? a = some o → (∀ h' : Heap, h'.get? a = some o → FracAt h' (.ref a) q) → G) : G := by
  obtain ⟨b, t, u, e, o, ho, r⟩ := x
  cases e
  exact k o ho fun h' e => ⟨a, t, u, rfl, o, e, r⟩
theorem two_consts {t1 t2 : Addr} {v : Value} {i : Nat} {a b a' b' : Tok} {g h₀ : Heap} {L : Addr} {news : List (Addr × Obj)} {P : Addr → Prop} {G : Prop} (_ : News g L h₀ news) (hv : [Value.ref t1, .ref t2][i]? = some v) (h1 : (t1, tup2 (.int 1 a) (.int 0 b)) ∈ news) (h2 : (t2, tup2 (.int (-1) a') (.int 0 b')) ∈ news) (p1 : P t1) (p2 : P t2)
    (k : ∀ a o q, v = .ref a → (a, o) ∈ news → (∀ h : Heap, h.get? a = some o → FracAt h (.ref a) q) → good q → P a → G) : G := by
  have g : ∀ x : Int, x = 1 ∨ x = -1 → good (x, 0) := fun x hx => ⟨small_of_le (by rcases hx with rfl | rfl <;> decide) (by rcases hx with rfl | rfl <;> decide), small_of_le (show (-1000 : Int) ≤ 0 by decide) (show (0 : Int) ≤ 1000 by decide), show (0 : Int) ≤ 0 by decide, fun _ => hx⟩
  rcases i with _ | _ | i
  · cases hv; exact k _ _ (1, 0) rfl h1 (fun h e => ⟨_, _, _, rfl, _, e, rfl, _, rfl⟩) (g 1 (.inl rfl)) p1
  · cases hv; exact k _ _ (-1, 0) rfl h2 (fun h e => ⟨_, _, _, rfl, _, e, rfl, _, rfl⟩) (g (-1) (.inr rfl)) p2
  · cases hv
/-- what a turn of the row's loop leaves -/
theorem row_end {g h : Heap} {L S R a : Addr} {o : Obj} {q : Int × Int} {x : Str} {stored : List Str} {u m₀ : Str → Option Value} {B own M : List (Addr × Obj)} {s : Shared} {tk i k' nn : Nat} {sv : List Value} {sn : List Int} (ps : List (Str × Value)) (F : Fr g L h (kstB (fun z => if stored.contains z then u z else m₀ z) ps))
    (N : News g L h ((R, listOf ((M.map fun p : Addr × Obj => Value.ref p.1).toArray.push (Value.ref a)) k') :: (S, listOf sv.toArray nn) :: (B ++ (M ++ own)))) (Na : News g L h [(a, o)]) (hi : IntsAre sv sn) (hl : sn.length ≤ 60) (r : RowOk M i) (y : ∀ h : Heap, h.get? a = some o → FracAt h (.ref a) q) (hg : good q)
    (j4 : ∀ p ∈ M, @Ne Nat p.1 S ∧ @Ne Nat p.1 R) (ha : @Ne Nat R a ∧ @Ne Nat S a ∧ ∀ p ∈ M ++ own, @Ne Nat p.1 a) {v1 v2 : Obj} (off : ∀ p ∈ own, ∀ q ∈ (R, v1) :: (S, v2) :: (B ++ M), @Ne Nat p.1 q.1) (hps : (ps.all fun p => stored.contains p.1) = true) :
    GPost g L (fun c : List (Addr × Obj) × Nat × List Value × List Int × Nat => (R, listOf (c.1.map fun p => Value.ref p.1).toArray c.2.1) :: (S, listOf c.2.2.1.toArray c.2.2.2.2) :: (B ++ c.1)) (fun c => IntsAre c.2.2.1 c.2.2.2.1 ∧ c.2.2.2.1.length ≤ 60 ∧ RowOk c.1 (i + 1) ∧ ∀ p ∈ c.1, @Ne Nat p.1 S ∧ @Ne Nat p.1 R) x stored m₀ own s .next { s with heap := h, toks := tk } := by
  refine GPost.intro (M ++ [(a, o)], k', sv, sn, nn) ps F (fun p hp => ?_) (fun p hp z hz => ?_) ⟨hi, hl, r.snoc y hg, fun p hp => (List.mem_append.mp hp).elim (j4 p) fun e => by rw [List.mem_singleton.mp e]; exact ⟨Ne.symm ha.2.1, Ne.symm ha.1⟩⟩ hps
  · rcases List.mem_cons.mp hp with rfl | hp
    · dsimp only
      have e := N _ (.head _)
      rw [List.push_toArray] at e
      rw [List.map_append]
      exact e
    rcases List.mem_cons.mp hp with rfl | hp
    · exact N _ (.tail _ (.head _))
    have nt : ∀ p ∈ B ++ (M ++ own), _ := fun p hp => N p (.tail _ (.tail _ hp))
    rcases List.mem_append.mp hp with hp | hp
    · rcases List.mem_append.mp hp with hp | hp
      · exact nt p (List.mem_append_left _ hp)
      · rcases List.mem_append.mp hp with hp | hp
        · exact nt p (List.mem_append_right _ (List.mem_append_left _ hp))
        · exact Na p hp
    · exact nt p (List.mem_append_right _ (List.mem_append_right _ hp))
  · rcases List.mem_cons.mp hz with rfl | hz
    · exact off p hp (R, v1) (.head _)
    rcases List.mem_cons.mp hz with rfl | hz
    · exact off p hp (S, v2) (.tail _ (.head _))
    rcases List.mem_append.mp hz with hz | hz
    · exact off p hp _ (.tail _ (.tail _ (List.mem_append_left _ hz)))
    · rcases List.mem_append.mp hz with hz | hz
      · exact off p hp _ (.tail _ (.tail _ (List.mem_append_right _ hz)))
      · rw [List.mem_singleton.mp hz]
        exact ha.2.2 p (List.mem_append_right _ hp)
theorem pow_small {a : Nat} {d : Nat} (ha : 0 < a) (h : a ≤ 128) (hd : d ≤ 55) : 0 < ((a : Int) ^ d) ∧ small ((a : Int) ^ d) := by
  have h1 : a ^ d ≤ 128 ^ 55 := Nat.le_trans (Nat.pow_le_pow_left h d) (Nat.pow_le_pow_right (by decide) hd)
  have h2 : 0 < a ^ d := Nat.pow_pos ha
  rw [← Int.natCast_pow]
  refine ⟨Int.ofNat_lt.mpr h2, ?_⟩
  unfold small
  exact Nat.lt_of_le_of_lt h1 (by decide)
theorem FracsAt.not_tab {h : Heap} : ∀ {M : List (Addr × Obj)} {qs : List (Int × Int)}, FracsAt h (M.map fun p => Value.ref p.1) qs → h.get? 167 = some (tabObj #[]) → ∀ p ∈ M, @Ne Nat p.1 167
  | [], _, _, _, _, h => nomatch h
  | p :: r, _, .cons x xs, e, q, hq => (List.mem_cons.mp hq).elim (fun eq => by
      subst eq
      obtain ⟨a, t, u, e1, o, ho, hc, _⟩ := x
      cases e1
      intro e2
      rw [show q.1 = 167 from e2, e] at ho
      cases ho
      cases hc) fun hq => FracsAt.not_tab xs e q hq
/-- a heap that holds nothing but these objects -/
def only (h : Heap) (M : List (Addr × Obj)) : Heap := hideAll h ((List.range h.objs.size).filter fun b => !(M.map (·.1)).contains b)
theorem only_get {h : Heap} {M : List (Addr × Obj)} (hM : ∀ p ∈ M, h.get? p.1 = some p.2) : ∀ p ∈ M, (only h M).get? p.1 = some p.2 := fun p hp => hideAll_get _ (hM p hp) fun hb => by
  have := (List.mem_filter.mp hb).2
  rw [List.contains_iff_mem.mpr (List.mem_map_of_mem hp)] at this
  cases this
theorem only_stays {h h' : Heap} {M : List (Addr × Obj)} (hM : ∀ p ∈ M, h.get? p.1 = some p.2) (hM' : ∀ p ∈ M, h'.get? p.1 = some p.2) : (only h M).StaysIn h' := fun b o e => by
  have e1 := of_hideAll _ e
  cases hc : (M.map (·.1)).contains b with
  | true =>
    obtain ⟨p, hp, rfl⟩ := List.mem_map.mp (List.contains_iff_mem.mp hc)
    rw [hM p hp] at e1; cases e1; exact hM' p hp
  | false =>
    rw [only, hideAll_none _ (List.mem_filter.mpr ⟨List.mem_range.mpr (Heap.lt_size e1), by rw [hc]; rfl⟩)] at e; cases e
theorem only_none {h : Heap} {M : List (Addr × Obj)} {b : Addr} (hb : ∀ p ∈ M, @Ne Nat p.1 b) : (only h M).get? b = none := by
  cases e : (only h M).get? b with
  | none => rfl
  | some o =>
    have e1 := of_hideAll _ e
    rw [only, hideAll_none _ (List.mem_filter.mpr ⟨List.mem_range.mpr (Heap.lt_size e1), ?_⟩)] at e; · cases e
    cases hc : (M.map (·.1)).contains b with
    | false => rfl
    | true =>
      obtain ⟨p, hp, e2⟩ := List.mem_map.mp (List.contains_iff_mem.mp hc)
      exact absurd e2 (hb p hp)
theorem counted_eq {l l' : List (Int × Int)} {rs rs' : List ((Int × Int) × Int)} (hp : l.Perm l') (gl : ∀ q ∈ l', good q) (p1 : rs.Perm (l.map fun q => (q, (l.count q : Int)))) (p2 : rs'.Perm (l'.map fun q => (q, (l'.count q : Int))))
    (s1 : rs.Pairwise fun x y => rankK (2 ^ 2002) x.1 ≤ rankK (2 ^ 2002) y.1) (s2 : rs'.Pairwise fun x y => rankK (2 ^ 2002) x.1 ≤ rankK (2 ^ 2002) y.1) : rs = rs' := by
  have e : (l.map fun q => (q, (l.count q : Int))) = l.map fun q => (q, (l'.count q : Int)) := List.map_congr_left fun q _ => by rw [hp.count_eq]
  rw [e] at p1
  have p3 := (hp.map fun q => (q, (l'.count q : Int)))
  refine List.Perm.eq_of_pairwise (fun a b ha hb h1 h2 => ?_) s1 s2 (p1.trans (p3.trans p2.symm))
  obtain ⟨q, hq, rfl⟩ := List.mem_map.mp ((p1.trans p3).mem_iff.mp ha)
  obtain ⟨r, hr, rfl⟩ := List.mem_map.mp (p2.mem_iff.mp hb)
  have h3 : rankK (2 ^ 2002) q = rankK (2 ^ 2002) r := Int.le_antisymm h1 h2
  have gq := rank_good (gl q hq)
  have gr := rank_good (gl r hr)
  have k1 := rank_iff gq.1 gq.2 gr.1 gr.2
  have k2 := rank_iff gr.1 gr.2 gq.1 gq.2
  rw [h3] at k1 k2
  have n1 := fun h => Int.lt_irrefl _ (k1.mpr h)
  have n2 := fun h => Int.lt_irrefl _ (k2.mpr h)
  have e1 : q.1 = r.1 := Int.le_antisymm (Int.not_lt.mp fun h => n2 (.inl h)) (Int.not_lt.mp fun h => n1 (.inl h))
  have e2 : q.2 = r.2 := Int.le_antisymm (Int.not_lt.mp fun h => n2 (.inr ⟨e1.symm, h⟩)) (Int.not_lt.mp fun h => n1 (.inr ⟨e1, h⟩))
  obtain rfl : q = r := Prod.ext e1 e2
  rfl
section
variable {prog : Program} {w : World} {A : Around} {E : Value → Shared → Prop} {s : Shared} {Q : Value → Shared → Prop}
theorem lay_cdata : ∀ rs : List ((Int × Int) × Int), PyData.canLayAll0 (rs.map cdata) = true
  | [] => rfl
  | r :: t => by simp [PyData.canLayAll0, PyData.canLay0, cdata, lay_cdata t]
theorem deep_cdata : ∀ rs : List ((Int × Int) × Int), PyData.depthAll (rs.map cdata) ≤ 2
  | [] => Nat.zero_le _
  | r :: t => by
    simp only [List.map_cons, PyData.depthAll, cdata, PyData.depth]
    exact Nat.max_le.mpr ⟨by decide, deep_cdata t⟩
theorem mix_cdata : ∀ rs : List ((Int × Int) × Int), SeqAt.noMixAll (rs.map cdata) (rs.map cdata) = true
  | [] => rfl
  | r :: t => by simp [SeqAt.noMixAll, SeqAt.noMix, cdata, mix_cdata t]
theorem same_cdata : ∀ rs : List ((Int × Int) × Int), PySem.Spec.sameAll (rs.map cdata) (rs.map cdata) = true
  | [] => by simp [PySem.Spec.sameAll]
  | r :: t => by simp [PySem.Spec.sameAll, PySem.Spec.same, cdata, same_cdata t]
theorem ne_counts {a b : Addr} {vs us : List Value} {rs : List ((Int × Int) × Int)} {n n' : Nat} (ha : s.heap.get? a = some (listOf vs.toArray n)) (hb : s.heap.get? b = some (listOf us.toArray n')) (ra : ReadsAll s.heap vs (rs.map cdata) []) (rb : ReadsAll s.heap us (rs.map cdata) []) (hu : A.units + 64 < cLine) (h : Q (.bool false) s) :
    wpAny (model prog w) A (compareOp .NotEq (.ref a) (.ref b)) Q E s := by
  have sh : SeqAt.shaped (.list (rs.map cdata)) = true := by
    unfold SeqAt.shaped
    rw [show PyData.canLay0 (.list (rs.map cdata)) = true by simp only [PyData.canLay0]; exact lay_cdata rs, decide_eq_true]
    · rfl
    · simp only [PyData.depth]
      exact Nat.le_trans (Nat.add_le_add_right (deep_cdata rs) 1) (by decide : 2 + 1 ≤ 64)
  refine ne_dataH_same (Reads.list ha rfl rfl (by simpa using ra)) (Reads.list hb rfl rfl (by simpa using rb)) sh sh hu (by simp only [SeqAt.noMix]; exact mix_cdata rs) ?_
  rw [show PySem.Spec.same (.list (rs.map cdata)) (.list (rs.map cdata)) = true by simp only [PySem.Spec.same]; exact same_cdata rs]
  exact h
theorem fracs_reads {h : Heap} {vs : List Value} {qs : List (Int × Int)} (x : FracsAt h vs qs) : ReadsAll h vs (qs.map fun q => .tuple [.int q.1, .int q.2]) [] := by
  induction x with
  | nil => exact .nil
  | cons a _ ih => exact .cons a.reads ih
end
/-- the row in order, as the second list of the last loop -/
def ByAfter (G : Heap) (lq : List (Int × Int)) (g : Heap) (L : Addr) (m : Str → Option Value) (news : List (Addr × Obj)) (s : Shared) (v : Value) (s' : Shared) : Prop :=
  ∀ R : Prop, (∀ a vs qs n h tk, v = .ref a → s' = { s with heap := h, toks := tk } → Fr g L h m → News g L h ((a, listOf vs.toArray n) :: news) → FracsAt G vs qs → qs.Perm lq → Asc qs → R) → R
theorem ByAfter.intro {G : Heap} {lq : List (Int × Int)} {g h : Heap} {L a : Addr} {m : Str → Option Value} {news : List (Addr × Obj)} {s : Shared} {vs : List Value} {qs : List (Int × Int)} {n tk : Nat} (F : Fr g L h m) (N : News g L h ((a, listOf vs.toArray n) :: news)) (x : FracsAt G vs qs) (p : qs.Perm lq) (o : Asc qs) :
    ByAfter G lq g L m news s (.ref a) { s with heap := h, toks := tk } := fun _ k => k a vs qs n h tk rfl rfl F N x p o
theorem by_cut {Mo : Model} {A : Around} {code : Sem Value} {Q E : Value → Shared → Prop} {s : Shared} {g : Heap} {L : Addr} {m : Str → Option Value} {news : List (Addr × Obj)} (G : Heap) (lq : List (Int × Int)) (_ : Fr g L s.heap m) (_ : News g L s.heap news) (h1 : ∀ QQ : Value → Shared → Prop, (∀ v s', ByAfter G lq g L m news s v s' → QQ v s') → wpAny Mo A code QQ E s)
    (h2 : ∀ a vs qs n h tk, Fr g L h m → News g L h ((a, listOf vs.toArray n) :: news) → FracsAt G vs qs → qs.Perm lq → Asc qs → Q (.ref a) { s with heap := h, toks := tk }) : wpAny Mo A code Q E s :=
  wpAny_mono (h1 _ fun _ _ e => e) (fun v s' d => d _ fun a vs qs n h tk e1 e2 F N x p o => by subst e1; subst e2; exact h2 a vs qs n h tk F N x p o) fun _ _ e => e
theorem ne_none {prog : Program} {w : World} {A : Around} {E : Value → Shared → Prop} {s : Shared} {Q : Value → Shared → Prop} {a b : Addr} {vs : List Value} {qs : List (Int × Int)} {n n' : Nat} (ha : s.heap.get? a = some (listOf vs.toArray n)) (x : FracsAt s.heap vs qs) (hb : s.heap.get? b = some (listOf #[] n')) (hu : A.units + 64 < cLine) (h : Q (.bool (!decide (qs = []))) s) :
    wpAny (model prog w) A (compareOp .NotEq (.ref a) (.ref b)) Q E s := by
  have lay : ∀ qs : List (Int × Int), PyData.canLayAll0 (qs.map fun q => .tuple [.int q.1, .int q.2]) = true := fun qs => by
    induction qs with
    | nil => rfl
    | cons q r ih => simp [PyData.canLayAll0, PyData.canLay0, ih]
  have deep : ∀ qs : List (Int × Int), PyData.depthAll (qs.map fun q => .tuple [.int q.1, .int q.2]) ≤ 1 := fun qs => by
    induction qs with
    | nil => exact Nat.zero_le _
    | cons q r ih =>
      simp only [List.map_cons, PyData.depthAll, PyData.depth]
      exact Nat.max_le.mpr ⟨by decide, ih⟩
  have sh : SeqAt.shaped (.list (qs.map fun q => .tuple [.int q.1, .int q.2])) = true := by
    unfold SeqAt.shaped
    rw [show PyData.canLay0 (.list (qs.map fun q => .tuple [.int q.1, .int q.2])) = true by simp only [PyData.canLay0]; exact lay qs, decide_eq_true]
    · rfl
    · simp only [PyData.depth]
      exact Nat.le_trans (Nat.add_le_add_right (deep qs) 1) (by decide : 1 + 1 ≤ 64)
  refine ne_dataH_same (Reads.list ha rfl rfl (by simpa using fracs_reads x)) (Reads.list (xs := []) hb rfl rfl .nil) sh (by rfl) hu (by cases qs <;> rfl) ?_
  rw [show PySem.Spec.same (.list (qs.map fun q => .tuple [.int q.1, .int q.2])) (.list []) = decide (qs = []) by cases qs <;> simp [PySem.Spec.same, PySem.Spec.sameAll]]
  exact h
theorem two_lists {a1 a2 : Addr} {v : Value} {i n1 n2 : Nat} {vs1 vs2 : List Value} {qs1 qs2 lq : List (Int × Int)} {G : Heap} {R : Prop} {g h₀ : Heap} {L : Addr} {news : List (Addr × Obj)} (_ : News g L h₀ news) (hv : [Value.ref a1, .ref a2][i]? = some v) (h1 : (a1, listOf vs1.toArray n1) ∈ news) (h2 : (a2, listOf vs2.toArray n2) ∈ news)
    (f1 : FracsAt G vs1 qs1) (p1 : qs1.Perm lq) (o1 : Asc qs1) (f2 : FracsAt G vs2 qs2) (p2 : qs2.Perm lq) (o2 : Asc qs2) (k : ∀ a vs qs n, v = .ref a → (a, listOf vs.toArray n) ∈ news → FracsAt G vs qs → qs.Perm lq → Asc qs → R) : R := by
  rcases i with _ | _ | i
  · cases hv; exact k _ _ _ _ rfl h1 f1 p1 o1
  · cases hv; exact k _ _ _ _ rfl h2 f2 p2 o2
  · cases hv
local macro_rules | `(tactic| walk_at "compareOp NotEq ref ref") => `(tactic| k_extra "m compareOp ref ref")
local macro_rules | `(tactic| walk_at "compareOp Eq ref ref") => `(tactic| k_extra "m compareOp ref ref")
local macro_rules | `(tactic| walk_at "getItem ref str") => `(tactic| k_extra "m getItem ref str")
theorem lines13 : True := by
  k_with "m getItem ref str" => ((have hz : Stop 17 := (by assumption)); clear hz; refine Mark.mk ?_)
  k_with "m subscriptTail Name Name ref int" => ((have hz : Stop 18 := (by assumption)); clear hz; refine Mark.mk ?_)
  trivial
local macro_rules | `(tactic| walk_at "exec For Name List cons nil") => `(tactic| k_extra "m exec For Name Call cons nil")
local macro_rules | `(tactic| walk_at "subscriptTail List BinOp ref int") => `(tactic| k_extra "m subscriptTail Name Name ref int")
local macro_rules | `(tactic| walk_at "KdnMade") => `(tactic| k_extra "m KdnMade")
theorem lines14 : True := by
  k_with "m KdnMade" => (k_here; k_dflt (refine' kdn_made_str ?F ?N ?U ?d ?k ?n ?_; (case F => k_asm); (case N => k_asm); (case U => k_updF); (case d => k_asm); (case k => rfl); (case n => exact of_decide_eq_true (by rfl)); k_whole); intro _ _ _ _ _)
  trivial
local macro_rules | `(tactic| walk_at "call builtin:list.index") => `(tactic| k_extra "m list.index")
theorem lines15 : True := by
  k_with "m compareOp ref ref" => ((have hz : Stop 16 := (by assumption)); clear hz; refine Mark.mk ?_)
  k_with "m call ref" => (k_here; (with_reducible show wpAny _ _ (call (Value.ref _) _ _) _ _ _); (have hz : Stop 14 := (by assumption)); clear hz; refine Mark.mk ?_)
  trivial
set_option maxHeartbeats 8000000 in
theorem law_holds : PySem.Challenge.rw_pq1401_01.Holds := by
  refine hd ?_
  k_go0
  rename World => z2
  w_top off
  rename IntsAre _ _ => hI
  rename Frag.In _ _ => X
  rename Fr _ _ _ _ => F
  rename Top topProg _ _ _ _ _ => T
  rename News _ _ _ _ => N
  rename Heap.IsList _ _ _ => hl
  rename ¬ _ < _ => hlen
  rename CodeHd _ _ _ => CH
  rename Obj.data _ = _ => hcell
  rename CellsAre _ _ _ => X0
  rename _ < _ => l0
  try (rename Below _ _ _ _ => z0; clear z0)
  try (rename Dflts _ _ _ _ _ _ => z0; clear z0)
  try (rename True => z0; clear z0)
  try (rename ReadsAllW _ _ _ _ _ _ => z0; clear z0)
  try (rename Reads _ _ _ _ => z0; clear z0)
  try (rename Well _ _ _ _ => z0; clear z0)
  try (rename ReadsAll _ _ _ _ => z0; clear z0)
  try (rename WData.layableAll _ = _ => z0; clear z0)
  try (rename WShape.hasAll _ _ _ = _ => z0; clear z0)
  try (rename PyData.layable0 _ = _ => z0; clear z0)
  try (rename PyData.layableAll0 _ = _ => z0; clear z0)
  try (rename Spec.Shape.has _ _ = _ => z0; clear z0)
  try (rename TabsAt _ _ => z0; clear z0)
  try (rename TopW _ _ _ => z0; clear z0)
  try (rename TopE _ _ _ _ => z0; clear z0)
  try (rename Tables _ _ _ _ => z0; clear z0)
  try (rename LooseAre _ _ _ => z0; clear z0)
  try (rename Flt.MathXP _ _ _ => z0; clear z0)
  rename Shared.gens _ = _ => hgen
  try (rename Heap.CodeRec _ _ _ => z0; clear z0)
  try (rename Hook.says _ _ _ => z0; clear z0)
  try (rename Ground _ _ _ _ _ _ _ _ _ => z0; clear z0)
  have hstop : Stop 14 := trivial
  have hstop2 : Stop 11 := trivial
  generalize ghostOf _ _ = g at X F T N hl CH ⊢
  have hroom : (callerA).depth + 100 < recursionLimit := by decide
  have hu : (callerA).units + 3000 < cLine := by decide
  refine post fun LQ hLQ => ?_
  k_steps
  refine Mark.of (studs_spec ⟨X, T⟩ F.keep (hl.at fun o e => F.keep _ o e) hI (by omega) (by k_extra "my depth") (by k_extra "my units") (by rfl) ?_)
  intro S h1 tk1 sv sn n1 st1 hS hS1 hsi hsl
  have F1 := Fr.stay F st1
  have N1 := News.fresh F N st1 hS hS1
  have hS167 : @Ne Nat S 167 := News.ne_fresh N hS (nth 1)
  rename Shared => z1
  have hSc : @Ne Nat S (z1.heap.objs.size + 1) := News.ne_fresh N hS (nth 0)
  clear F N
  k_steps
  rename Obj => oc
  rename Fr _ _ _ _ => F
  rename News _ _ _ _ => N
  refine Mark.of (stud_step ⟨X, T⟩ F N (.head _) hsi hsl (by decide) (by decide) (by k_extra "my depth") (by k_extra "my units") rfl ?_)
  intro m t h2 tk2 sv2 sn2 n2 r7 hsi2 hsl2 F2 N2
  replace N2 := N2 [(S, listOf sv2.toArray n2), (z1.heap.objs.size + 1, oc), (167, tabObj #[])] (List.forall_mem_cons.mpr ⟨.inl rfl, List.forall_mem_cons.mpr ⟨.inr ⟨Ne.symm hSc, nth 1⟩, List.forall_mem_cons.mpr ⟨.inr ⟨Ne.symm hS167, nth 2⟩, fun _ h => nomatch h⟩⟩⟩)
  clear F N
  k_steps
  rename IsRange _ _ _ _ _ _ _ _ => hr
  rename Fr _ _ _ _ => F
  rename News _ _ _ _ => N
  have r7' : m < 7 := Int.ofNat_lt.mp r7
  refine Mark.of (LCg.CompSrc.range (n := m) (by rfl) F N hr (range_small1 (by decide) (by decide) (Int.le_trans (by decide) (Int.natCast_nonneg m)) (Int.le_trans (Int.le_of_lt r7) (by decide))) (by rw [range_size1, Int.sub_zero, Int.toNat_natCast]) (by rw [sizeLine_eq]; exact Nat.le_trans (Nat.le_of_lt r7') (by decide)) ?_)
  intro g'
  refine rest_inv (σ := List Value × List Int × Nat) (fun c => [(S, listOf c.1.toArray c.2.2), (z1.heap.objs.size + 1, oc), (167, tabObj #[])])
    (fun i ys c => IntsAre c.1 c.2.1 ∧ c.2.1.length ≤ 60 ∧ ∃ ks, IntsAre ys ks ∧ ∀ k ∈ ks, 0 ≤ k ∧ k < 9) (sv2, sn2, n2) ⟨hsi2, hsl2, [], .nil, fun _ h => nomatch h⟩ ?_ ?_
  · -- GOAL c1
    rintro ⟨sv3, sn3, n3⟩ i v ys I oI C oC D m₂ h tk E' hi2 ⟨tv, hv⟩ ⟨j1, j2, ks, j3, j4⟩ hyl hC hx F1 N1 off ne Q1 hQ1
    dsimp only at j1 j2 N1 off ⊢
    clear F N hr
    subst hv
    k_steps
    refine Mark.of (stud_step ⟨X, T⟩ F1 N1 (nth 3) j1 j2 (by decide) (by decide) (by k_extra "my depth") (by k_extra "my units") rfl ?_)
    intro r t h4 tk4 sv4 sn4 n4 q9 hsi4 hsl4 F4 N4
    exact hQ1 _ _ _ _ (sv4, sn4, n4) F4 (N4 [(I, oI), (C, oC), (D, _), (S, listOf sv4.toArray n4), (z1.heap.objs.size + 1, oc), (167, tabObj #[])]
      (List.forall_mem_cons.mpr ⟨.inr ⟨Ne.symm off.1.1, nth 0⟩, List.forall_mem_cons.mpr ⟨.inr ⟨Ne.symm off.1.2.1, nth 1⟩, List.forall_mem_cons.mpr ⟨.inr ⟨Ne.symm off.1.2.2, nth 2⟩, List.forall_mem_cons.mpr ⟨.inl rfl, List.forall_mem_cons.mpr ⟨.inr ⟨Ne.symm hSc, nth 4⟩, List.forall_mem_cons.mpr ⟨.inr ⟨Ne.symm hS167, nth 5⟩, fun _ h => nomatch h⟩⟩⟩⟩⟩⟩))
      (fun _ h => h) off trivial ⟨hsi4, hsl4, ks ++ [(r : Int)], IntsAre.append j3 (.cons _ _ .nil), fun k hk => (List.mem_append.mp hk).elim (j4 k) fun e => (List.mem_singleton.mp e) ▸ ⟨Int.natCast_nonneg r, q9⟩⟩
  · rintro ys ⟨sv3, sn3, n3⟩ hyl ⟨j1, j2, ns, hns, hnb⟩
    clear F N hr
    unfold LCg.FinA
    intro D h tk2 F N o1
    dsimp only at j1 j2 N o1 ⊢
    k_steps
    rename Fr _ _ _ _ => F
    rename News _ _ _ _ => N
    refine Mark.of (stud_step ⟨X, T⟩ F N (nth 1) j1 j2 (by decide) (by decide) (by k_extra "my depth") (by k_extra "my units") rfl ?_)
    intro dress td h5 tk5 sv5 sn5 n5 d3 hsi5 hsl5 F5 N5
    replace N5 := N5 [(D, listOf ys.toArray ys.length), (S, listOf sv5.toArray n5), (z1.heap.objs.size + 1, oc), (167, tabObj #[])] (List.forall_mem_cons.mpr ⟨.inr ⟨Ne.symm o1.1, nth 0⟩, List.forall_mem_cons.mpr ⟨.inl rfl, List.forall_mem_cons.mpr ⟨.inr ⟨Ne.symm hSc, nth 2⟩, List.forall_mem_cons.mpr ⟨.inr ⟨Ne.symm hS167, nth 3⟩, fun _ h => nomatch h⟩⟩⟩⟩)
    clear F N
    have hnl : ns.length = m := hns.length.symm.trans hyl
    k_steps
    rename IsRange _ _ _ _ _ _ _ _ => hr
    rename Fr _ _ _ _ => F
    rename News _ _ _ _ => N
    have hm7 : m < 7 := Int.ofNat_lt.mp r7
    have hn7 : ns.length < 7 := hnl ▸ hm7
    refine Mark.of (LCg.CompSrc.range (n := ns.length) (by rfl) F N hr (range_small1 (by decide) (by decide) (Int.le_trans (by decide) (Int.natCast_nonneg _)) (Int.le_trans (Int.ofNat_le.mpr (Nat.le_of_lt hn7)) (by decide))) (by rw [range_size1, Int.sub_zero, Int.toNat_natCast]) (by rw [sizeLine_eq]; exact Nat.le_trans (Nat.le_of_lt hn7) (by decide)) ?_)
    intro g'
    refine rest_inv (σ := Unit) (fun _ => [(D, listOf ys.toArray ys.length), (S, listOf sv5.toArray n5), (z1.heap.objs.size + 1, oc), (167, tabObj #[])])
      (fun i ws _ => ∀ y ∈ ws, ∃ st t, y = .str st t ∧ PyData.strOk st = true) () (fun _ h => nomatch h) ?_ ?_
    · -- GOAL c2
      rintro ⟨⟩ i v ws I oI C oC D' m₂ h tk E' hi2 ⟨tv, hv⟩ hw hyl2 hC hx F1 N1 off ne Q1 hQ1
      dsimp only at N1 off ⊢
      clear F N hr
      subst hv
      k_steps
      exact hQ1 _ _ _ _ () F1 N1 (fun _ h => h) off trivial (fun y hy => (List.mem_append.mp hy).elim (hw y) fun e => ⟨_, _, List.mem_singleton.mp e, word_ok i (Nat.lt_trans hi2 hn7)⟩)
    · rintro ws ⟨⟩ hwl hw
      clear F N hr
      unfold LCg.FinA
      intro W h tk2 F N o2
      dsimp only at N o2 ⊢
      k_steps
      rename Fr _ _ _ _ => F
      rename News _ _ _ _ => N
      rename _ ∧ _ => l9
      refine Mark.of (vector_new ⟨X, T⟩ F N (by k_extra "my depth") (by k_extra "my units") ?_)
      intro x dx t5 t6 t7 t8 t9 n6 h6 tk6 F6 N6 m1 m2
      clear F N
      k_lt m1
      k_lt2 m2
      have hstop3 : Stop 15 := trivial
      k_steps
      rename Fr _ _ _ _ => F
      rename News _ _ _ _ => N
      refine Mark.of (dress_cut F N (fun attrs ob M => (dress = 1 → Named z2 g x dx (some ws) attrs ob M) ∧ (dress ≠ 1 → attrs = .none ∧ M = [])) ?_ ?_)
      · -- GOAL d1
        intro QQ hQQ
        clear hstop3
        k_steps
        · rename Fr _ _ _ _ => F
          rename News _ _ _ _ => N
          rename _ < _ ∧ _ => l8
          refine Mark.of (vector_new ⟨X, T⟩ F N (by k_extra "my depth") (by k_extra "my units") ?_)
          intro z dz u5 u6 u7 u8 u9 n8 h8 tk8 F8 N8 m3 m4
          clear F N
          k_lt m3
          k_lt2 m4
          k_steps
          rename Fr _ _ _ _ => F
          rename News _ _ _ _ => N
          rename _ < _ ∧ _ => l9
          refine Mark.of (vector_new ⟨X, T⟩ F N (by k_extra "my depth") (by k_extra "my units") ?_)
          intro y dy r5 r6 r7 r8 r9 n9 h9 tk9 F9 N9 m5 m6
          clear F N
          k_lt m5
          k_lt2 m6
          k_steps
          rename Fr _ _ _ _ => F
          rename News _ _ _ _ => N
          rename _ < _ ∧ _ => l10
          refine Mark.of (vector_new ⟨X, T⟩ F N (by k_extra "my depth") (by k_extra "my units") ?_)
          intro y1 dy1 p5 p6 p7 p8 p9 n10 h10 tk10 F10 N10 m7 m8
          clear F N
          k_lt m7
          k_lt2 m8
          k_steps
          refine' set_dict (by k_asm) (by k_asm) (by k_asm) (InstAt.of_news (by k_asm) (by k_mem) (by k_mem)) rfl ?k1 ?k2 ?k3 ?k4 ?k5 ?k6 ?k7 ?k8 ?_
          case k1 => k_is
          case k2 => k_is
          case k3 => k_is
          case k4 => k_is
          case k5 => rfl
          case k6 => rfl
          case k7 => k_upd
          case k8 => exact Nat.le_of_ble_eq_true rfl
          intro h11 F11 N11
          k_steps
          rename Obj.IsDictOf _ _ _ => hod
          rename (_ == sysModules) = false => lo
          have N12 : News g _ h11 ([_, _, _, _, _, _, _, _, _, _] ++ (x, _) :: (dx, _) :: _) := N11
          have c := fun q hq => (N12 q hq).2.2
          refine hQQ _ ?_
          refine Dressed.intro F11 N12 ⟨fun _ h st hq => NamesIs.table ⟨X, T⟩ st ⟨hq _ (nth 0), hq _ (nth 1), c _ (nth 10), c _ (nth 11), m2⟩ (hq _ (nth 5)) (c _ (nth 3)) lo hod
            ⟨hq _ (nth 2), hq _ (nth 3), c _ (nth 0), c _ (nth 1), m8⟩ (listAt (hq _ (nth 4))) (off2 (Nat.ne_of_gt (Nat.lt_trans m7.1 m8)) (Nat.ne_of_gt m7.1))
            ⟨hq _ (nth 6), hq _ (nth 7), c _ (nth 4), c _ (nth 5), m6⟩ ⟨hq _ (nth 9), hq _ (nth 10), c _ (nth 7), c _ (nth 8), m4⟩ m5.2.1 (listAt (hq _ (nth 8))) (listAt (hq _ (nth 11))) (hwl ▸ Nat.le_trans (Nat.le_of_lt hn7) (by decide))
            (off4 (Nat.ne_of_gt (Nat.lt_trans m5.1 m6)) (Nat.ne_of_gt m5.1) (Nat.ne_of_lt l9.1) (Nat.ne_of_lt l9.2.1)) (off4 (Nat.ne_of_gt (Nat.lt_trans m5.2.2.2.1 m6)) (Nat.ne_of_gt m5.2.2.2.1) (Nat.ne_of_gt (Nat.lt_trans m3.1 m4)) (Nat.ne_of_gt m3.1)), fun h => absurd (Int.ofNat.inj (by assumption)) h⟩ rfl
        · refine hQQ _ ?_
          exact Dressed.intro (M := []) (Fr.dup F) N ⟨fun h => absurd (congrArg Int.ofNat h) (by assumption), fun _ => ⟨rfl, rfl⟩⟩ rfl
      · intro attrs t0 t1 t2 t3 t4 n7 M u h7 tk7 F7 N7 P7
        clear F N
        simp only [List.cons_append, List.nil_append] at N7
        k_steps
        refine Mark.of (dress_cut F7 N7 (fun attrs ob M' => Named z2 g x dx (if dress = 0 then none else some ws) attrs ob (M ++ M')) ?_ ?_)
        · -- GOAL d2
          intro QQ hQQ
          clear hstop3
          k_steps
          · rename Fr _ _ _ _ => F
            rename News _ _ _ _ => N
            rename _ < _ ∧ _ => l10
            obtain rfl : dress = 2 := Int.ofNat.inj (by assumption)
            obtain ⟨rfl, rfl⟩ := P7.2 (by decide)
            clear P7
            refine Mark.of (vector_new ⟨X, T⟩ F N (by k_extra "my depth") (by k_extra "my units") ?_)
            intro z dz u5 u6 u7 u8 u9 n8 h8 tk8 F8 N8 m3 m4
            clear F N
            k_lt m3
            k_lt2 m4
            k_steps
            refine' set_dict (by k_asm) (by k_asm) (by k_asm) (InstAt.of_news (by k_asm) (by k_mem) (by k_mem)) rfl ?k1 ?k2 ?k3 ?k4 ?k5 ?k6 ?k7 ?k8 ?_
            case k1 => k_is
            case k2 => k_is
            case k3 => k_is
            case k4 => k_is
            case k5 => rfl
            case k6 => rfl
            case k7 => k_upd
            case k8 => exact Nat.le_of_ble_eq_true rfl
            intro h11 F11 N11
            k_steps
            rename Obj.IsDictOf _ _ _ => hod
            rename (_ == sysModules) = false => lo
            have N12 : News g _ h11 ([_, _, _, _] ++ (x, _) :: (dx, _) :: _) := N11
            have c := fun q hq => (N12 q hq).2.2
            refine hQQ _ ?_
            exact Dressed.intro (Fr.dup F11) N12 (fun h st hq => NamesIs.list ⟨X, T⟩ st ⟨hq _ (nth 0), hq _ (nth 1), c _ (nth 4), c _ (nth 5), m2⟩ (hq _ (nth 5)) (c _ (nth 3)) lo hod
              ⟨hq _ (nth 2), hq _ (nth 3), c _ (nth 0), c _ (nth 1), m4⟩ m3.2.2.1 (listAt (hq _ (nth 4))) (hwl ▸ Nat.le_trans (Nat.le_of_lt hn7) (by decide)) (off4 (Nat.ne_of_lt l10.2.1) (Nat.ne_of_lt l10.2.2.1) (Nat.ne_of_gt (Nat.lt_trans m3.1 m4)) (Nat.ne_of_gt m3.1))) rfl
          · rename (_ : Int) ≠ _ => d2
            refine hQQ _ ?_
            refine Dressed.intro (M := []) (Fr.dup F7) N7 ?_ rfl
            rcases Nat.lt_or_eq_of_le (Nat.le_of_lt_succ (Int.ofNat_lt.mp d3)) with h2 | h2
            · rcases Nat.lt_or_eq_of_le (Nat.le_of_lt_succ h2) with h1 | h1
              · obtain rfl := Nat.lt_one_iff.mp h1
                obtain ⟨rfl, rfl⟩ := P7.2 (by decide)
                exact fun h st hq => NamesIs.plain ⟨X, T⟩ st ⟨hq _ (nth 0), hq _ (nth 1), (N7 _ (nth 0)).2.2, (N7 _ (nth 1)).2.2, m2⟩
              · subst h1
                exact Named.mono (P7.1 rfl) fun q hq => List.mem_append_left _ hq
            · exact absurd (congrArg Int.ofNat h2) d2
        · intro attrs t0 t1 t2 t3 t4 n7 M' u' h8 tk8 F8 N8 P8
          clear F7 N7 P7
          simp only [List.cons_append] at N8
          k_steps
          rename Fr _ _ _ _ => F
          rename News _ _ _ _ => N
          refine Mark.of (best_cut 1 ns F N ?_ ?_)
          · -- GOAL b1
            intro QQ hQQ
            clear hstop2
            k_steps
            · refine hQQ _ _ ?_; exact BestAfter.intro ⟨fun _ => rfl, fun h => absurd (of_decide_eq_true (by assumption)) h⟩ (by assumption) (by assumption) rfl
            · rename Fr _ _ _ _ => F1
              rename News _ _ _ _ => N1
              exact kso_max F1 N1 (listAt (N1 _ (nth 5)).1) hns (List.length_pos_iff.mpr (of_decide_eq_false (by assumption))) rfl fun h' M t tk F' N' a b => hQQ _ _ (BestAfter.intro (.max a b) F' N' rfl)
          · intro v1 h9 tk9 F9 N9 B1
            clear F N
            k_steps
            rename Fr _ _ _ _ => F
            rename News _ _ _ _ => N
            refine Mark.of (best_cut (-1) ns F N ?_ ?_)
            · -- GOAL b2
              intro QQ hQQ
              clear hstop2
              k_steps
              · refine hQQ _ _ ?_; exact BestAfter.intro ⟨fun _ => rfl, fun h => absurd (of_decide_eq_true (by assumption)) h⟩ (by assumption) (by assumption) rfl
              · rename Fr _ _ _ _ => F1
                rename News _ _ _ _ => N1
                exact kso_min F1 N1 (listAt (N1 _ (nth 6)).1) hns (List.length_pos_iff.mpr (of_decide_eq_false (by assumption))) rfl fun h' M t tk F' N' a b => hQQ _ _ (BestAfter.intro (.min a b) F' N' rfl)
            · intro v2 h10 tk10 F10 N10 B2
              clear F N
              k_steps
              rename Fr _ _ _ _ => F
              rename News _ _ _ _ => N
              rename _ < _ ∧ _ => l10
              refine turns_list [Str.ofString "fn", Str.ofString "best", Str.ofString "told", Str.ofString "spot", Str.ofString "heads"] rfl (listAt (N _ (nth 0)).1) (N _ (nth 0)).2.1 ?_ F (fun q hq => N q (.tail _ hq)) ?_ ?_
              · exact AllLt.ne l10
              · -- GOAL t
                intro i v uu h9 tk9 own hv hoff F1 N1 QQ hQQ
                clear F N
                simp only [List.cons_append] at N1
                refine two_turns (Led := [_, _]) hv B1 B2 (nth 1) (nth 0) ?_
                intro a o bv d ev hao hB hdm
                subst ev
                replace N1 : News _ _ _ (_ :: _) := List.forall_mem_cons.mpr ⟨N1 _ (List.mem_append_left _ hdm), N1⟩
                clear hdm hv hstop3
                have hstop4 : Stop 16 := trivial
                have hstop7 : Stop 21 := trivial
                k_steps
                rename Fr _ _ _ _ => F
                rename News _ _ _ _ => N
                have hk : keepIn (hd.heap_39 z2.params) (.ref a) = true := by rcases hao with ⟨rfl, _⟩ | ⟨rfl, _⟩ <;> k_is
                refine Mark.of (callWith_K X hk ?_)
                k_steps
                refine Mark.of (which_call hao ⟨X, T⟩ F.keep ⟨(N _ (nth 3)).1, (N _ (nth 4)).1, (N _ (nth 3)).2.2, (N _ (nth 4)).2.2, m2⟩ (listAt (N _ (nth 5)).1) hns (Nat.le_trans (Nat.le_of_lt hn7) (by decide)) (fun k hk => ⟨(hnb k hk).1, Int.le_trans (Int.le_of_lt (hnb k hk).2) (by decide)⟩) (off2 (Nat.ne_of_gt (Nat.lt_trans m1.1 m2)) (Nat.ne_of_gt m1.1))
                  (P8 _ F.keep (List.forall_mem_cons.mpr ⟨(N _ (nth 3)).1, List.forall_mem_cons.mpr ⟨(N _ (nth 4)).1, fun q hq => (N q (List.mem_of_mem_drop (i := 11) (List.mem_append_left own hq))).1⟩⟩)) (fun l e => by (split at e <;> cases e); exact hwl) (by k_extra "my depth") (by k_extra "my units") rfl ?_)
                intro h10 vt h11 tk11 k1 k2 td
                have F1 := Fr.stay F k1
                replace F := Fr.stay F1 k2
                replace N := News.stay N (stay2 k1 k2)
                cases td with
                | empty y dy l tk t5 t6 t7 t8 t9 n1 n2 e hq =>
                  subst e
                  replace N : News g _ h11 (_ :: _ :: _ :: (d, _) :: _) := (News.freshes F1 hq).append N
                  clear F1 hq
                  k_steps
                  rename News _ _ _ _ => N
                  refine Mark.of (eq_ints (N _ (nth 11)).1 hns (N _ (nth 0)).1 .nil (by k_extra "my units") rfl ?_)
                  have hstop4 : Stop 16 := trivial
                  k_steps
                  rename News _ _ _ _ => N
                  refine Mark.of (ne_ints (N _ (nth 4)).1 .nil (N _ (nth 0)).1 .nil (by k_extra "my units") rfl ?_)
                  k_steps
                  refine hQQ _ _ ?_
                  refine' turn_end (u := uu) [(Str.ofString "told", _), (Str.ofString "best", _), (Str.ofString "fn", _)] ?f N ?h (fun p hp => List.mem_of_mem_drop (i := 6) hp)
                  case f => rename Fr _ _ _ _ => F; exact F
                  case h => rfl
                | plain b y dy l tk t5 t6 t7 t8 t9 t10 n1 n2 e hb hq =>
                  have hne : ns ≠ [] := fun e => absurd hb.1 (by rw [e]; exact Nat.not_lt_zero _)
                  obtain rfl : dress = 0 := Decidable.byContradiction fun h => by rw [if_neg h] at e; cases e
                  obtain ⟨Mx, tM, rfl, hMx, hMb⟩ := hB.2 hne
                  have hpl := best_place (hao.elim (fun h => .inl h.2) fun h => .inr h.2) hb hMx hMb
                  replace N : News g _ h11 (_ :: _ :: _ :: (d, _) :: _) := (News.freshes F1 hq).append N
                  clear F1 hq hstop2
                  k_steps
                  rename News _ _ _ _ => N
                  refine Mark.of (eq_ints (N _ (nth 11)).1 hns (N _ (nth 0)).1 .nil (by k_extra "my units") (decide_eq_false hne) ?_)
                  have hstop4 : Stop 16 := trivial
                  k_steps
                  rename News _ _ _ _ => N
                  refine Mark.of (index_ints (N _ (nth 11)).1 hns (Nat.le_trans (Nat.le_of_lt hn7) (by decide)) hMx hpl ?_)
                  have hstop4 : Stop 16 := trivial
                  k_steps
                  rename News _ _ _ _ => N
                  refine Mark.of (ne_ints (N _ (nth 4)).1 (.cons _ _ .nil) (N _ (nth 0)).1 (.cons _ _ .nil) (by k_extra "my units") rfl ?_)
                  have hstop4 : Stop 16 := trivial
                  k_steps
                  refine hQQ _ _ ?_
                  refine' turn_end (u := uu) [(Str.ofString "heads", _), (Str.ofString "spot", _), (Str.ofString "told", _), (Str.ofString "best", _), (Str.ofString "fn", _)] ?f N ?h (fun p hp => List.mem_of_mem_drop (i := 6) hp)
                  case f => rename Fr _ _ _ _ => F; exact F
                  case h => rfl
                | named wl wv b y dy l ad od z dz l2 tk t5 t6 t7 t8 t9 t10 n1 n2 tk2 u5 u6 u7 u8 u9 m1 m2 e hb hwv hod lo hq =>
                  have hne : ns ≠ [] := fun e => absurd hb.1 (by rw [e]; exact Nat.not_lt_zero _)
                  have h0 : dress ≠ 0 := fun h => by rw [if_pos h] at e; cases e
                  obtain rfl : ws = wl := by rw [if_neg h0] at e; cases e; rfl
                  obtain ⟨st, tt, rfl, hst⟩ := hw wv (List.mem_of_getElem? hwv)
                  obtain ⟨Mx, tM, rfl, hMx, hMb⟩ := hB.2 hne
                  have hpl := best_place (hao.elim (fun h => .inl h.2) fun h => .inr h.2) hb hMx hMb
                  replace N : News g _ h11 (_ :: _ :: _ :: _ :: _ :: _ :: _ :: (d, _) :: _) := (News.freshes F1 hq).append N
                  clear F1 hq
                  k_steps
                  rename News _ _ _ _ => N
                  refine Mark.of (eq_ints (N _ (nth 15)).1 hns (N _ (nth 0)).1 .nil (by k_extra "my units") (decide_eq_false hne) ?_)
                  have hstop4 : Stop 16 := trivial
                  k_steps
                  rename News _ _ _ _ => N
                  refine Mark.of (index_ints (N _ (nth 15)).1 hns (Nat.le_trans (Nat.le_of_lt hn7) (by decide)) hMx hpl ?_)
                  have hstop4 : Stop 16 := trivial
                  k_steps
                  rename News _ _ _ _ => N
                  refine Mark.of ?_
                  have hstop5 : Stop 17 := trivial
                  clear hstop2
                  k_steps
                  rename News _ _ _ _ => N
                  refine Mark.of (kdt_getItem (knd := PySem.strKind _ _) N (nth 4) hod (strKind_is _ _ _ _) (by rfl) ?_)
                  have hstop4 : Stop 16 := trivial
                  k_steps
                  rename News _ _ _ _ => N
                  refine Mark.of (ne_ints (N _ (nth 4)).1 (.cons _ _ .nil) (N _ (nth 0)).1 (.cons _ _ .nil) (by k_extra "my units") rfl ?_)
                  have hstop2 : Stop 11 := trivial
                  k_steps
                  refine Mark.of ?_
                  clear hstop2
                  iterate 6 (first | (k_unfold; (try dsimp only)) | (k_end; wrow_close) | walk1 | (dsimp only; walk1) | (leave1; walk_say "STEP leave1"; try dsimp only))
                  refine PySem.W.ite_neg (fun h => h0 (Int.ofNat.inj (eq_of_beq (α := Int) h))) ?_
                  have hstop6 : Stop 18 := trivial
                  k_steps
                  rename News _ _ _ _ => N
                  refine Mark.of (item_any N (nth 15) hwl (Int.natCast_nonneg b) (Int.ofNat_lt.mpr hb.1) (Nat.le_trans (Nat.le_of_lt hn7) (by decide)) ?_)
                  intro vv hvv
                  rw [Int.toNat_natCast] at hvv
                  obtain rfl := Option.some.inj (hwv.symm.trans hvv)
                  have hstop4 : Stop 16 := trivial
                  k_steps
                  rename News _ _ _ _ => N
                  refine Mark.of (ne_words hst (N _ (nth 9)).1 (N _ (nth 0)).1 (by k_extra "my units") ?_)
                  k_steps
                  rename News _ _ _ _ => N
                  refine hQQ _ _ ?_
                  refine' turn_end (u := uu) [(Str.ofString "heads", _), (Str.ofString "spot", _), (Str.ofString "told", _), (Str.ofString "best", _), (Str.ofString "fn", _)] ?f N ?h (fun p hp => List.mem_of_mem_drop (i := 11) hp)
                  case f => rename Fr _ _ _ _ => F; exact F
                  case h => rfl
              · -- GOAL r
                intro u9 h9 tk9 F1 N1
                clear F N hstop3
                k_steps
                refine Mark.of (null_new ⟨X, T⟩ F1 N1 (by k_extra "my depth") (by k_extra "my units") ?_)
                intro y1 dy1 t5 t6 t7 n10 h10 tk10 F2 N2 m3 m4
                clear F1 N1
                k_lt m3
                k_lt2 m4
                have hstop4 : Stop 16 := trivial
                k_steps
                refine Mark.of (max_via (R := fun h h' v => ∃ y dy l tk t5 t6 t7 t8 t9 n1 n2, v = .ref y ∧ Empty3 z2 h h' y dy l tk t5 t6 t7 t8 t9 n1 n2) ⟨X, T⟩ F2.keep (by k_extra "my depth") (fun env s' to E' Q' k r =>
                  which_null ⟨X, T⟩ (stay2 F2.keep k) (k _ _ (N2 _ (nth 0)).1) (k _ _ (N2 _ (nth 1)).1) (N2 _ (nth 0)).2.2 (N2 _ (nth 1)).2.2 m4 (by k_extra "my depth") (by k_extra "my units") rfl fun y dy l tk t5 t6 t7 t8 t9 n1 n2 h' tk' k' e => r _ _ _ k' ⟨y, dy, l, tk, t5, t6, t7, t8, t9, n1, n2, rfl, e⟩) ?_)
                rintro h11 _ h12 tk12 k1 k2 ⟨y, dy, l, tk, v5, v6, v7, v8, v9, n11, n12, rfl, hq⟩
                have F3 := Fr.stay F2 k1
                have F4 := Fr.stay F3 k2
                have N4 : News g _ h12 (_ :: _ :: _ :: (y1, _) :: _) := (News.freshes F3 hq).append (News.stay N2 (stay2 k1 k2))
                clear F2 N2 F3 hq
                k_steps
                rename News _ _ _ _ => N
                refine Mark.of (ne_ints (N _ (nth 3)).1 .nil (N _ (nth 0)).1 .nil (by k_extra "my units") rfl ?_)
                have hstop4 : Stop 16 := trivial
                k_steps
                rename Fr _ _ _ _ => F
                rename News _ _ _ _ => N
                refine Mark.of (null_new ⟨X, T⟩ F N (by k_extra "my depth") (by k_extra "my units") ?_)
                intro y2 dy2 t5 t6 t7 n10 h10 tk10 F2 N2 m3 m4
                clear F N
                k_lt m3
                k_lt2 m4
                k_steps
                refine Mark.of (min_via (R := fun h h' v => ∃ y dy l tk t5 t6 t7 t8 t9 n1 n2, v = .ref y ∧ Empty3 z2 h h' y dy l tk t5 t6 t7 t8 t9 n1 n2) ⟨X, T⟩ F2.keep (by k_extra "my depth") (fun env s' to E' Q' k r =>
                  which_null ⟨X, T⟩ (stay2 F2.keep k) (k _ _ (N2 _ (nth 0)).1) (k _ _ (N2 _ (nth 1)).1) (N2 _ (nth 0)).2.2 (N2 _ (nth 1)).2.2 m4 (by k_extra "my depth") (by k_extra "my units") rfl fun y dy l tk t5 t6 t7 t8 t9 n1 n2 h' tk' k' e => r _ _ _ k' ⟨y, dy, l, tk, t5, t6, t7, t8, t9, n1, n2, rfl, e⟩) ?_)
                rintro h11 _ h12 tk12 k1 k2 ⟨y3, dy3, l3, tk, v5, v6, v7, v8, v9, n11, n12, rfl, hq⟩
                have F3 := Fr.stay F2 k1
                have F4 := Fr.stay F3 k2
                have N4 : News g _ h12 (_ :: _ :: _ :: (y2, _) :: _) := (News.freshes F3 hq).append (News.stay N2 (stay2 k1 k2))
                clear F2 N2 F3 hq
                k_steps
                rename News _ _ _ _ => N
                refine Mark.of (ne_ints (N _ (nth 3)).1 .nil (N _ (nth 0)).1 .nil (by k_extra "my units") rfl ?_)
                k_steps
                rename Fr _ _ _ _ => F
                rename News _ _ _ _ => N
                have N3 : News g _ _ [(S, _), (x, _), (dx, _), (_, _), (D, _), (_, _), (167, _)] := List.forall_mem_cons.mpr ⟨N _ (nth 19), List.forall_mem_cons.mpr ⟨N _ (nth 14), List.forall_mem_cons.mpr ⟨N _ (nth 15), List.forall_mem_cons.mpr ⟨N _ (nth 16), List.forall_mem_cons.mpr ⟨N _ (nth 18), List.forall_mem_cons.mpr ⟨N _ (nth 20), List.forall_mem_cons.mpr ⟨N _ (nth 21), fun _ h => nomatch h⟩⟩⟩⟩⟩⟩⟩
                clear N
                refine Mark.of (stud_step ⟨X, T⟩ F N3 (nth 0) hsi5 hsl5 (by decide) (by decide) (by k_extra "my depth") (by k_extra "my units") rfl ?_)
                intro ro tro h13 tk13 sv13 sn13 n13 r40 hsi13 hsl13 F13 N13
                replace N13 := N13 [(S, listOf sv13.toArray n13), (x, _), (dx, _), (_, _), (D, _), (z1.heap.objs.size + 1, oc), (167, tabObj #[])] (List.forall_mem_cons.mpr ⟨.inl rfl, List.forall_mem_cons.mpr ⟨.inr ⟨Nat.ne_of_gt (Nat.lt_trans m1.2.2.2.1 m2), nth 1⟩, List.forall_mem_cons.mpr ⟨.inr ⟨Nat.ne_of_gt m1.2.2.2.1, nth 2⟩, List.forall_mem_cons.mpr ⟨.inr ⟨Nat.ne_of_gt l9.2.2.1, nth 3⟩, List.forall_mem_cons.mpr ⟨.inr ⟨Ne.symm o1.1, nth 4⟩, List.forall_mem_cons.mpr ⟨.inr ⟨Ne.symm hSc, nth 5⟩, List.forall_mem_cons.mpr ⟨.inr ⟨Ne.symm hS167, nth 6⟩, fun _ h => nomatch h⟩⟩⟩⟩⟩⟩⟩)
                clear F N3
                k_steps
                rename Fr _ _ _ _ => F
                rename News _ _ _ _ => N
                rename _ < _ ∧ _ => lR
                rename_i R _ _
                refine Mark.of (stud_step ⟨X, T⟩ F N (nth 1) hsi13 hsl13 (by decide) (by decide) (by k_extra "my depth") (by k_extra "my units") rfl ?_)
                intro n8 t8 h14 tk14 sv14 sn14 n14 r8 hsi14 hsl14 F14 N14
                replace N14 := N14 [(R, listOf #[] _), (S, listOf sv14.toArray n14), (x, _), (dx, _), (_, _), (D, _), (z1.heap.objs.size + 1, oc), (167, tabObj #[])] (List.forall_mem_cons.mpr ⟨.inr ⟨Nat.ne_of_gt lR.1, nth 0⟩, List.forall_mem_cons.mpr ⟨.inl rfl, List.forall_mem_cons.mpr ⟨.inr ⟨Nat.ne_of_gt (Nat.lt_trans m1.2.2.2.1 m2), nth 2⟩, List.forall_mem_cons.mpr ⟨.inr ⟨Nat.ne_of_gt m1.2.2.2.1, nth 3⟩, List.forall_mem_cons.mpr ⟨.inr ⟨Nat.ne_of_gt l9.2.2.1, nth 4⟩, List.forall_mem_cons.mpr ⟨.inr ⟨Ne.symm o1.1, nth 5⟩, List.forall_mem_cons.mpr ⟨.inr ⟨Ne.symm hSc, nth 6⟩, List.forall_mem_cons.mpr ⟨.inr ⟨Ne.symm hS167, nth 7⟩, fun _ h => nomatch h⟩⟩⟩⟩⟩⟩⟩⟩)
                clear F N
                have r8' : Mark (n8 < 8) := Mark.of (Int.ofNat_lt.mp r8)
                clear r8
                k_steps
                rename IsRange _ _ _ _ _ _ _ _ => hr
                rename Fr _ _ _ _ => F
                rename News _ _ _ _ => N
                refine Mark.of (grow_range (σ := List (Addr × Obj) × Nat × List Value × List Int × Nat) (n := n8)
                  (fun c => (R, listOf (c.1.map fun p => Value.ref p.1).toArray c.2.1) :: (S, listOf c.2.2.1.toArray c.2.2.2.2) :: ([(x, _), (dx, _), (_, _), (D, _), (z1.heap.objs.size + 1, oc), (167, tabObj #[])] ++ c.1)) [Str.ofString "lap", Str.ofString "draw"]
                  (fun i c => IntsAre c.2.2.1 c.2.2.2.1 ∧ c.2.2.2.1.length ≤ 60 ∧ RowOk c.1 i ∧ ∀ p ∈ c.1, @Ne Nat p.1 S ∧ @Ne Nat p.1 R) ([], _, sv14, sn14, n14) rfl hr
                  (range_small1 (by decide) (by decide) (Int.le_trans (by decide) (Int.natCast_nonneg n8)) (Int.le_trans (Int.le_of_lt (Int.ofNat_lt.mpr (Mark.mk r8'))) (by decide))) (by rw [range_size1, Int.sub_zero, Int.toNat_natCast]) F N ⟨hsi14, hsl14, ⟨[], fun _ _ => .nil, fun _ h => (nomatch h), rfl⟩, fun _ h => nomatch h⟩ ?_ ?_)
                · -- GOAL w
                  rintro ⟨M5, kk, sv5, sn5, nn⟩ i t u h tk own hi hoff ⟨j1, j2, j3, j4⟩ F1 N1
                  clear F N hr
                  dsimp only at N1 hoff j1 j2 j3 j4
                  simp only [List.cons_append, List.nil_append] at N1
                  refine postE fun QQ hQQ => ?_
                  have hofs : ∀ p ∈ M5 ++ own, @Ne Nat p.1 S := fun p hp => (List.mem_append.mp hp).elim (fun h => (j4 p h).1) fun h => hoff p h _ (nth 1)
                  have hMl : (M5.map fun p : Addr × Obj => Value.ref p.1).length ≤ 1000 := by
                    obtain ⟨qs, hqf, _, hql⟩ := j3
                    rw [(hqf h fun p hp => (N1 p (List.mem_of_mem_drop (i := 8) (List.mem_append_left own hp))).1).length, hql]
                    exact Nat.le_trans (Nat.le_of_lt (Nat.lt_trans hi (Mark.mk r8'))) (by decide)
                  have hofr : ∀ p ∈ M5 ++ own, @Ne Nat p.1 R := fun p hp => (List.mem_append.mp hp).elim (fun h => (j4 p h).2) fun h => hoff p h _ (nth 0)
                  have hoR : ∀ {v1 v2 v3 v4 v5 v6 v7 : Obj} {b : Addr}, @LT.lt Nat _ b R → ∀ p ∈ (S, v1) :: ([(x, v2), (dx, v3), (b, v4), (D, v5), (z1.heap.objs.size + 1, v6), (167, v7)] ++ (M5 ++ own)), @Ne Nat p.1 R := fun hb => List.forall_mem_cons.mpr ⟨Nat.ne_of_lt lR.1, List.forall_mem_cons.mpr ⟨Nat.ne_of_lt lR.2.1, List.forall_mem_cons.mpr ⟨Nat.ne_of_lt lR.2.2.1, List.forall_mem_cons.mpr ⟨Nat.ne_of_lt hb, List.forall_mem_cons.mpr ⟨Nat.ne_of_lt lR.2.2.2.2.1, List.forall_mem_cons.mpr ⟨Nat.ne_of_lt lR.2.2.2.2.2.1, List.forall_mem_cons.mpr ⟨Nat.ne_of_lt lR.2.2.2.2.2.2, hofr⟩⟩⟩⟩⟩⟩⟩
                  k_steps
                  refine Mark.of (stud_step ⟨X, T⟩ F1 N1 (nth 1) j1 j2 (by decide) (by decide) (by k_extra "my depth") (by k_extra "my units") rfl ?_)
                  intro dr td2 h15 tk15 sv15 sn15 n15 r30 hsi15 hsl15 F15 N15
                  replace N15 := N15 ((R, _) :: (S, listOf sv15.toArray n15) :: (x, _) :: (dx, _) :: (_, _) :: (D, _) :: (z1.heap.objs.size + 1, oc) :: (167, tabObj #[]) :: (M5 ++ own)) (List.forall_mem_cons.mpr ⟨.inr ⟨Nat.ne_of_gt lR.1, nth 0⟩, List.forall_mem_cons.mpr ⟨.inl rfl, List.forall_mem_cons.mpr ⟨.inr ⟨Nat.ne_of_gt (Nat.lt_trans m1.2.2.2.1 m2), nth 2⟩, List.forall_mem_cons.mpr ⟨.inr ⟨Nat.ne_of_gt m1.2.2.2.1, nth 3⟩, List.forall_mem_cons.mpr ⟨.inr ⟨Nat.ne_of_gt l9.2.2.1, nth 4⟩, List.forall_mem_cons.mpr ⟨.inr ⟨Ne.symm o1.1, nth 5⟩, List.forall_mem_cons.mpr ⟨.inr ⟨Ne.symm hSc, nth 6⟩, List.forall_mem_cons.mpr ⟨.inr ⟨Ne.symm hS167, nth 7⟩, fun p hp => .inr ⟨hofs p hp, List.mem_of_mem_drop (i := 8) hp⟩⟩⟩⟩⟩⟩⟩⟩⟩)
                  clear F1 N1
                  have hstop6 : Stop 18 := trivial
                  iterate 10 (first | (k_unfold; (try dsimp only)) | (k_end; wrow_close) | walk1 | (dsimp only; walk1) | (leave1; walk_say "STEP leave1"; try dsimp only))
                  · -- GOAL w1
                    rename 27 < _ => h27
                    iterate 34 (first | (k_unfold; (try dsimp only)) | (k_end; wrow_close) | walk1 | (dsimp only; walk1) | (leave1; walk_say "STEP leave1"; try dsimp only))
                    rename News _ _ _ _ => N
                    rename R < _ ∧ _ => lt1
                    rename _ < _ ∧ R < _ ∧ _ => lt2
                    refine kba_turn (value' := PySem.Expr.Name (PySem.Str.ofString "_") ⟨0, 0, 0, 0⟩) (fun _ => rfl) ?_
                    refine item_any (len := 2) N (nth 0) rfl (Int.sub_nonneg_of_le (show (28 : Int) ≤ dr from h27)) (Int.sub_right_lt_of_lt_add r30) (by decide) ?_
                    intro v hv
                    have Np : News g _ _ [_, _, _] := fun q hq => N q (List.mem_append_left _ hq)
                    refine two_consts (P := fun b => @Ne Nat R b ∧ @Ne Nat S b ∧ ∀ p ∈ M5 ++ own, @Ne Nat p.1 b) Np hv (nth 2) (nth 1) ⟨Nat.ne_of_lt lt1.1, Nat.ne_of_lt lt1.2.1, AllLt.ne lt1.2.2.2.2.2.2.2.2⟩ ⟨Nat.ne_of_lt lt2.2.1, Nat.ne_of_lt lt2.2.2.1, AllLt.ne lt2.2.2.2.2.2.2.2.2.2⟩ ?_
                    intro a o q ev hao hy hg ha
                    subst ev
                    clear Np
                    k_steps
                    rename Fr _ _ _ _ => F
                    rename News _ _ _ _ => N
                    have Na : News g _ _ [(a, o)] := fun q hq => by rw [List.mem_singleton.mp hq]; exact N _ (List.mem_append_left _ hao)
                    refine hQQ _ _ ?_
                    refine' row_end (B := [_, _, _, _, _, _]) [(Str.ofString "draw", _), (Str.ofString "lap", _)] F (fun q hq => N q (List.mem_of_mem_drop (i := 3) hq)) Na hsi15 hsl15 j3 hy hg j4 ha hoff ?h
                    case h => rfl
                  · -- GOAL w2
                    k_steps
                    rename Fr _ _ _ _ => F
                    rename News _ _ _ _ => N
                    refine Mark.of (stud_step ⟨X, T⟩ F N (nth 1) hsi15 hsl15 (by decide) (by decide) (by k_extra "my depth") (by k_extra "my units") rfl ?_)
                    intro tp ttp h16 tk16 sv16 sn16 n16 r80 hsi16 hsl16 F16 N16
                    replace N16 := N16 ((R, _) :: (S, listOf sv16.toArray n16) :: (x, _) :: (dx, _) :: (_, _) :: (D, _) :: (z1.heap.objs.size + 1, oc) :: (167, tabObj #[]) :: (M5 ++ own)) (List.forall_mem_cons.mpr ⟨.inr ⟨Nat.ne_of_gt lR.1, nth 0⟩, List.forall_mem_cons.mpr ⟨.inl rfl, List.forall_mem_cons.mpr ⟨.inr ⟨Nat.ne_of_gt (Nat.lt_trans m1.2.2.2.1 m2), nth 2⟩, List.forall_mem_cons.mpr ⟨.inr ⟨Nat.ne_of_gt m1.2.2.2.1, nth 3⟩, List.forall_mem_cons.mpr ⟨.inr ⟨Nat.ne_of_gt l9.2.2.1, nth 4⟩, List.forall_mem_cons.mpr ⟨.inr ⟨Ne.symm o1.1, nth 5⟩, List.forall_mem_cons.mpr ⟨.inr ⟨Ne.symm hSc, nth 6⟩, List.forall_mem_cons.mpr ⟨.inr ⟨Ne.symm hS167, nth 7⟩, fun p hp => .inr ⟨hofs p hp, List.mem_of_mem_drop (i := 8) hp⟩⟩⟩⟩⟩⟩⟩⟩⟩)
                    clear F N
                    k_steps
                    have hpw := pow_small (a := 2 + ro + dr) (d := 1 + 2 * dr) (Nat.lt_of_lt_of_le (by decide) (Nat.le_trans (Nat.le_add_right 2 ro) (Nat.le_add_right _ dr))) (by omega) (by omega)
                    refine Mark.of (least_spec ⟨X, T⟩ F16.keep (by omega) (by omega) hpw.1 hpw.2 (by k_extra "my depth") (by k_extra "my units") rfl ?_)
                    intro a h17 tk17 q st17 hna hfa hg
                    refine hfa.obj fun o ho hy => ?_
                    have N18 := News.fresh F16 N16 st17 hna ho
                    have ha : @Ne Nat R a ∧ @Ne Nat S a ∧ ∀ p ∈ M5 ++ own, @Ne Nat p.1 a := ⟨Ne.symm (News.ne_fresh N16 hna (nth 0)), Ne.symm (News.ne_fresh N16 hna (nth 1)), fun p hp => Ne.symm (News.ne_fresh N16 hna (List.mem_of_mem_drop (i := 8) hp))⟩
                    have F18 := Fr.stay F16 st17
                    clear F16 N16 hfa
                    k_steps
                    rename Fr _ _ _ _ => F
                    rename News _ _ _ _ => N
                    refine hQQ _ _ ?_
                    refine' row_end (B := [_, _, _, _, _, _]) [(Str.ofString "draw", _), (Str.ofString "lap", _)] ?f (fun q hq => N q (.tail _ hq)) (fun q hq => by rw [List.mem_singleton.mp hq]; exact N _ (.head _)) hsi16 hsl16 j3 hy hg j4 ha hoff ?h
                    case f => exact F
                    case h => rfl
                · -- GOAL f
                  rintro ⟨M5, kk, sv5, sn5, nn⟩ u h tk ⟨j1, j2, ⟨qs, hqf, hqg, hql⟩, j4⟩ F1 N1
                  clear F N hr
                  dsimp only at N1 j1 j2 hqf hql j4
                  simp only [List.cons_append, List.nil_append] at N1
                  have hM0 : ∀ p ∈ M5, h.get? p.1 = some p.2 := fun p hp => (N1 p (List.mem_of_mem_drop (i := 8) hp)).1
                  have hML : M5.length < 8 := by
                    have e := (hqf h hM0).length
                    rw [List.length_map] at e
                    rw [e, hql]; exact Mark.mk r8'
                  have hqs : qs.length ≤ 60 := Nat.le_trans (Nat.le_of_eq hql) (Nat.le_trans (Nat.le_of_lt (Mark.mk r8')) (by decide))
                  have hM7 := FracsAt.not_tab (hqf h hM0) (N1 _ (nth 7)).1
                  have hG := hqf (only h M5) (only_get hM0)
                  have hGs := fun {h'} => @only_stays h h' M5 hM0
                  have hG7 : (only h M5).get? 167 = none := only_none hM7
                  generalize only h M5 = G at hG hGs hG7
                  k_steps
                  rename Fr _ _ _ _ => F
                  rename News _ _ _ _ => N
                  rename _ < _ ∧ _ => l11
                  refine Mark.of (asc_spec ⟨X, T⟩ F.keep CH (N _ (nth 8)).1 (N _ (nth 8)).2.2 (Nat.ne_of_gt l11.2.2.2.2.2.2.2.1) (listAt (N _ (nth 0)).1) (hGs fun p hp => (N p (List.mem_of_mem_drop (i := 9) hp)).1) hG7 hG hqg hqs (by k_extra "my depth") (by k_extra "my units") rfl ?_)
                  rintro a1 h3 tk3 vs1 qs1 n1 ka ha1 ha1' ⟨ps7, h7g⟩ fa1 pa1 oa1
                  have F3 := Fr.but F (N _ (nth 8)).2.1 (N _ (nth 8)).2.2 ka
                  have Nf := News.freshes F (M := [(a1, listOf vs1.toArray n1)]) (List.forall_mem_cons.mpr ⟨⟨ha1', ha1⟩, fun _ h => nomatch h⟩)
                  have kp := fun (q : Addr × Obj) (hq : q ∈ _) (hn : @Ne Nat q.1 167) => And.intro (ka _ _ hn (N q hq).1) (N q hq).2
                  have N3 : News g _ h3 ((a1, _) :: (R, _) :: (x, _) :: (dx, _) :: (_, _) :: (D, _) :: (167, tabObj ps7) :: M5) := List.forall_mem_cons.mpr ⟨Nf _ (.head _), List.forall_mem_cons.mpr ⟨kp _ (nth 1) (Nat.ne_of_gt lR.2.2.2.2.2.2), List.forall_mem_cons.mpr ⟨kp _ (nth 3) (Nat.ne_of_gt (Nat.lt_trans m1.2.2.2.2.2 m2)), List.forall_mem_cons.mpr ⟨kp _ (nth 4) (Nat.ne_of_gt m1.2.2.2.2.2),
                    List.forall_mem_cons.mpr ⟨kp _ (nth 5) (Nat.ne_of_gt l9.2.2.2.2), List.forall_mem_cons.mpr ⟨kp _ (nth 6) (Ne.symm (off1_mem o1 _ (nth 2))), List.forall_mem_cons.mpr ⟨⟨h7g, (N (167, tabObj #[]) (nth 8)).2⟩, fun p hp => kp p (List.mem_of_mem_drop (i := 9) hp) (hM7 p hp)⟩⟩⟩⟩⟩⟩⟩
                  clear F N Nf kp
                  k_steps
                  rename Fr _ _ _ _ => F
                  rename News _ _ _ _ => N
                  refine Mark.of (by_cut G qs F N ?_ ?_)
                  · -- GOAL f1
                    intro QQ hQQ
                    clear hstop2
                    have hstop4 : Stop 16 := trivial
                    k_steps
                    rename Fr _ _ _ _ => F
                    rename News _ _ _ _ => N
                    refine Mark.of (ne_none (N _ (nth 2)).1 (hqf _ fun p hp => (N p (List.mem_of_mem_drop (i := 8) hp)).1) (N _ (nth 0)).1 (by k_extra "my units") ?_)
                    k_steps
                    · rename News _ _ _ _ => N
                      obtain rfl : qs = [] := by assumption
                      refine hQQ _ _ ?_
                      exact ByAfter.intro (vs := []) (qs := []) (by assumption) (List.forall_mem_cons.mpr ⟨N _ (nth 0), fun q hq => N q (List.mem_of_mem_drop (i := 2) hq)⟩) .nil .nil (asc_small (by decide))
                    · have hne : qs ≠ [] := by assumption
                      rename Fr _ _ _ _ => F
                      rename News _ _ _ _ => N
                      refine Mark.of (rows_spec ⟨X, T⟩ F.keep (listAt (N _ (nth 0)).1) (hGs fun p hp => (N p (List.mem_of_mem_drop (i := 9) hp)).1) hG hqg hqs hne (by k_extra "my depth") (by k_extra "my units") rfl ?_)
                      intro a2 h5 tk5 vs2 qs2 n2 st2 hn2 ho2 fa2 pa2 oa2
                      refine hQQ _ _ ?_
                      exact ByAfter.intro (Fr.stay F st2) (List.forall_mem_cons.mpr ⟨News.fresh F N st2 hn2 ho2 _ (.head _), fun q hq => News.stay N st2 q (List.mem_of_mem_drop (i := 2) hq)⟩) fa2 pa2 oa2
                  · -- GOAL f2
                    intro a2 vs2 qs2 n2 h4 tk4 F4 N4 fa2 pa2 oa2
                    clear F N
                    k_steps
                    rename Fr _ _ _ _ => F
                    rename News _ _ _ _ => N
                    rename _ < _ ∧ _ => l12
                    refine Mark.of (ks_list (σ := Unit) (fun _ => (a2, _) :: (a1, _) :: (R, _) :: (x, _) :: (dx, _) :: (_, _) :: (D, _) :: (167, tabObj ps7) :: M5) (fun _ => []) [] (fun _ _ => True) () rfl (listAt (N _ (nth 0)).1) (N _ (nth 0)).2.1 ?_ F (fun q hq => N q (.tail _ hq)) (fun _ h => nomatch h) trivial ?_ ?_)
                    · exact AllLt.ne l12
                    · rintro ⟨⟩ i v u2 h5 tk5 own hi hv hoff _ F5 N5 Q2 hQ2
                      clear F N
                      dsimp only [kstB] at F5
                      simp only [List.cons_append] at N5
                      have Np : News g _ h5 [(a2, _), (a1, _)] := fun q hq => N5 q (List.mem_append_left _ hq)
                      refine two_lists Np hv (nth 1) (nth 0) fa1 pa1 oa1 fa2 pa2 oa2 ?_
                      intro a vs qs' n ev hm fa pa oa
                      subst ev
                      have gq : ∀ q ∈ qs', good q := fun q hq => hqg q (pa.mem_iff.mp hq)
                      have ln : qs'.length ≤ 60 := Nat.le_trans (Nat.le_of_eq pa.length_eq) hqs
                      replace N5 : News g _ h5 (_ :: _) := List.forall_mem_cons.mpr ⟨Np _ hm, N5⟩
                      clear Np hm hv
                      have hMm : ∀ {h' : Heap}, h5.StaysIn h' → G.StaysIn h' := fun st => hGs fun p hp => st _ _ (N5 p (List.mem_of_mem_drop (i := 9) (List.mem_append_left own hp))).1
                      k_steps
                      rename Fr _ _ _ _ => F
                      rename News _ _ _ _ => N
                      have fas := fa.keeps (hMm fun _ _ e => e)
                      refine Mark.of (in_order_spec ⟨X, T⟩ F.keep (listAt (N _ (nth 0)).1) fas gq (Nat.le_trans ln (by decide)) (asc_order oa) (by k_extra "my depth") rfl ?_)
                      intro h6 tk6 st6
                      have F6 := Fr.stay F st6
                      have N6 := News.stay N st6
                      clear F N
                      k_steps
                      rename Fr _ _ _ _ => F
                      rename News _ _ _ _ => N
                      refine Mark.of (counted_spec ⟨X, T⟩ F.keep (N _ (nth 0)).1 (fas.keeps st6) gq ln (by k_extra "my depth") (by k_extra "my units") rfl ?_)
                      intro b1 h7 tk7 ws1 rs1 k1 st7 hb1 hb1' rd1 pr1 sr1
                      have F7 := Fr.stay F st7
                      have N7 := News.fresh F N st7 hb1 hb1'
                      clear F N
                      k_steps
                      rename Fr _ _ _ _ => F
                      rename News _ _ _ _ => N
                      refine Mark.of (counted_spec ⟨X, T⟩ F.keep (N _ (nth 4)).1 (hG.keeps (hMm (stay2 st6 st7))) hqg hqs (by k_extra "my depth") (by k_extra "my units") rfl ?_)
                      intro b2 h8 tk8 ws2 rs2 k2 st8 hb2 hb2' rd2 pr2 sr2
                      have F8 := Fr.stay F st8
                      have N8 := News.fresh F N st8 hb2 hb2'
                      clear F N
                      obtain rfl := counted_eq pa hqg pr1 pr2 sr1 sr2
                      have hstop4 : Stop 16 := trivial
                      k_steps
                      rename Fr _ _ _ _ => F
                      rename News _ _ _ _ => N
                      refine Mark.of (ne_counts (N _ (nth 1)).1 (N _ (nth 0)).1 (ReadsAll.keeps st8 rd1) rd2 (by k_extra "my units") ?_)
                      k_steps
                      rename Fr _ _ _ _ => F
                      rename News _ _ _ _ => N
                      refine hQ2 _ _ ?_
                      exact ks_end () F N (fun p hp => List.mem_of_mem_drop (i := 3) (List.mem_append_left own hp)) (fun p hp => List.mem_of_mem_drop (i := 11) (List.mem_append_right _ hp)) rfl (fun _ h => nomatch h) (fun z h _ _ => if_neg h) trivial
                    · rintro ⟨⟩ u3 h5 tk5 _ F5 N5
                      clear F N
                      dsimp only [kstB] at F5
                      have hstop4 : Stop 16 := trivial
                      k_steps
                      rename News _ _ _ _ => N
                      refine Mark.of (eq_ints (N _ (nth 5)).1 hns (N _ (nth 6)).1 hns (by k_extra "my units") (decide_eq_true rfl) ?_)
                      refine hLQ _ _ ?_
                      iterate 1 (first | (k_unfold; (try dsimp only)) | walk1 | (dsimp only; walk1))
                      · refine goodW_bool F5 hgen (raisesW_false ?_) ?_
                        · wrow_none_raised
                        · kc_post
                      · exact ⟨⟨ps7, (N _ (nth 7)).1⟩, True.intro⟩
end Mine
set_option maxRecDepth 100000 in
theorem PySem.Challenge.cw_pq1401_01_holds : PySem.Challenge.rw_pq1401_01.Holds := by
  exact Mine.law_holds
