import PyProof.Rows.All
import Wide.All
import OpenK.AllK
import Wide.FinOn
import PySem.Challenge.RW_nt0603_01
set_option Elab.async false
namespace Mine
set_option genSizeOf false
set_option genSizeOfSpec false
noncomputable section
section H0
open PySem PySem.W PyProof.Rows
set_option maxRecDepth 100000
set_option maxHeartbeats 8000000
/-! the head: the top's run, reckoned by the kernel in one piece; no state is written out -/
noncomputable abbrev pw : Program := PySem.Challenge.pw_nt0603_01
noncomputable def p0 : Pos := { line := 0, col := 0, endLine := 0, endCol := 0 }
noncomputable def p1 : Pos := { line := 392, col := 0, endLine := 411, endCol := 15 }
noncomputable def env : Env := { scope := pw.main.scope, locals := mainNs, globals := mainNs, cells := [], code := .ref 13, frame := some 14 }
noncomputable def cE : Code := .body (behindTheImports pw) env
noncomputable def vw : Program := view pw [0, 2, 4, 5, 6, 7, 8, 9, 10, 11, 12, 13, 14, 15, 17, 18, 20, 21, 22, 23, 24, 26, 27, 29, 31, 32, 33, 34, 35, 36, 37, 38, 39, 40, 41]
noncomputable def segRunQ := @PySem.W.Fast.tw10110043849684766642
noncomputable def tabQ := PySem.W.Fast.tw14364793385576792824
noncomputable def topGoQ := @PySem.W.Fast.tw15667345088766844465
noncomputable def execsQ := @PySem.W.Fast.tw12563942051412417395
noncomputable def topRunQ := @PySem.W.Fast.tw14082659384304107361
noncomputable def seenQ := @PySem.W.Fast.tw4187177175401517315
noncomputable def modsQ := @PySem.W.Fast.tw5923862056798008813
noncomputable def saidQ := @PySem.W.Fast.tw9446332074065402090
noncomputable def s0 (w : World) (os : OsState) : Shared := ⟨boot_heap w.params, Array.mk [], boot_drawn, boot_toks, os⟩
noncomputable def r0 (w : World) (os : OsState) : Option (Shared × Thread) := topGoQ tabQ pw w 11 (some (.ref 6)) 12 (s0 w os) (topStub pw)
noncomputable def sa (w : World) (os : OsState) : Shared := match r0 w os with | some (s, _) => s | none => s0 w os
noncomputable def toBT : List Obj → Nat → BT → BT
  | [], _, t => t
  | o :: r, n, t => toBT r (n + 1) (t.ins n o)
noncomputable def sb (w : World) (os : OsState) : SharedT := ⟨toBT (sa w os).heap.objs.toList 0 .nil, 15, {}, #[], {}, 187, os⟩
noncomputable def rc (w : World) (os : OsState) : Option (Flow × SharedT × Code × Pos) :=
  segRunQ tabQ pw w 11 (some (.ref 6)) 1 3009 (sb w os) ⟨(execsQ (behindTheImports pw) env).wrap doneF deadEnd id id, cE, p0, [topFrame p0]⟩
noncomputable def sc (w : World) (os : OsState) : SharedT := match rc w os with | some (_, s, _) => s | none => sb w os
/-- the state behind the top -/
noncomputable def sd (w : World) (os : OsState) : Shared := (sc w os).abs
theorem tA (w : World) (os : OsState) : topGo treeTable pw w 11 (some (.ref 6)) 12 (s0 w os) (topStub pw) = some (sa w os, ⟨denote treeTable cE, cE, p0, [topFrame p0]⟩) := by
  rw [PySem.W.Fast.te15667345088766844465, PySem.W.Fast.te14364793385576792824, PySem.W.Fast.te11892475500146522536]
  kernel_rfl
theorem tB (w : World) (os : OsState) : (sb w os).abs = sa w os := by kernel_rfl
theorem tC (w : World) (os : OsState) : segRunT treeTable pw w 11 (some (.ref 6)) 1 3009 (sb w os) (piecesOf (behindTheImports pw) env cE p0 [topFrame p0]) = some (.next, sc w os, cE, p1) := by
  rw [PySem.W.Fast.te10110043849684766642, PySem.W.Fast.te14364793385576792824]
  unfold piecesOf
  rw [PySem.W.Fast.te12563942051412417395]
  kernel_rfl
end H0

section H1
open PySem PySem.W PyProof.Rows
set_option maxRecDepth 100000
set_option maxHeartbeats 8000000
theorem left_of {p q : Program} {loose : List Str} {Xt : Shared → Bool} {α : Type} {Yf : Shared → α} {Ya : World → α} {N : Nat} {H₀ : Params → Heap} {gs₀ : Array GenState} {d₀ : Drawn} {k₀ m₀ : Nat} {ann : Option Value} {M : Nat} (S : World → OsState → Shared)
    (open_ : ∀ w : World, (fencedOpening treeTable p w N).map (fun s => (s.heap, s.gens, s.drawn, s.toks)) = some (H₀ w.params, gs₀, d₀, k₀))
    (size : ∀ w : World, ((H₀ w.params).isNs mainGlobals && gs₀.size == 0, (H₀ w.params).objs.size, (H₀ w.params).nsMap mainGlobals "__annotations__") = (true, m₀, ann))
    (run : ∀ w os, topRun treeTable p w m₀ ann M ⟨H₀ w.params, gs₀, d₀, k₀, os⟩ (topStub p) = some (S w os)) (le : Nat.ble M N = true)
    (l1 : ∀ w os, (staticsOk (importedModules p.main.body) (H₀ w.params) (S w os).heap && namesBound p (S w os).heap && gensDone (S w os) && laidKept (H₀ w.params) (S w os).heap) = true)
    (l2 : ∀ w os, openSeen q loose (importedModules p.main.body) Xt true (S w os) = openGood q loose) (l3 : ∀ w os, Yf (S w os) = Ya w) : LeftO p q loose Xt Yf Ya N true := fun w => by
  obtain ⟨⟨h, gs, d, k, os⟩, e, e'⟩ := Option.map_eq_some_iff.mp (open_ w)
  obtain ⟨rfl, rfl, rfl, rfl⟩ : h = H₀ w.params ∧ gs = gs₀ ∧ d = d₀ ∧ k = k₀ := by simpa using e'
  obtain ⟨z1, z2, z3⟩ : _ ∧ _ ∧ _ := by simpa only [Prod.mk.injEq] using size w
  have r := topRun_mono (N - M) _ _ _ _ (run w os)
  rw [show M + (N - M) = N by have := Nat.le_of_ble_eq_true le; omega] at r
  have t : topFrom treeTable p w N ⟨H₀ w.params, gs, d, k, os⟩ = some (S w os) := by
    unfold topFrom
    dsimp only
    rw [z1, z2, z3, r]
    show (match staticsOk (importedModules p.main.body) (H₀ w.params) (S w os).heap && namesBound p (S w os).heap && gensDone (S w os) && laidKept (H₀ w.params) (S w os).heap with | true => _ | false => _) = _
    rw [l1 w os]
  unfold openEnds
  rw [e]
  show (topFrom treeTable p w N _).map _ = _
  rw [t]
  exact congrArg some (Prod.ext (l2 w os) (l3 w os))
theorem tD (w : World) (os : OsState) : topRun treeTable pw w 11 (some (.ref 6)) 2 (sd w os) ⟨doneF .next, cE, p1, [topFrame p0]⟩ = some (sd w os) := by
  rw [PySem.W.Fast.te14082659384304107361, PySem.W.Fast.te14364793385576792824]
  kernel_rfl
theorem tTop (w : World) (os : OsState) : topRun treeTable pw w 11 (some (.ref 6)) (12 + (1 + (3009 + 2))) (s0 w os) (topStub pw) = some (sd w os) := by
  refine go_top (tA w os) (piece_block (env := env) (q := p0) (s' := sa w os) (p' := p0) (by kernel_rfl) ?_)
  have h := segRun_of (tC w os)
  rw [tB w os] at h
  have k := piece_app (env := env) (q := p0) (l := behindTheImports pw) (rest := []) h (piece_nil (tD w os))
  rw [List.append_nil] at k
  exact k
theorem tOpen : ∀ w : World, (fencedOpening treeTable pw w 6126).map (fun s => (s.heap, s.gens, s.drawn, s.toks)) = some (boot_heap w.params, Array.mk [], boot_drawn, boot_toks) :=
  boot_open (by kernel_rfl) (by decide) (fun s => by kernel_rfl)
theorem tSize (w : World) : ((boot_heap w.params).isNs mainGlobals && (Array.mk [] : Array GenState).size == 0, (boot_heap w.params).objs.size, (boot_heap w.params).nsMap mainGlobals "__annotations__") = (true, 11, some (.ref 6)) := by
  rw [PySem.W.Fast.te8920871248978507458]
  kernel_rfl
theorem tL1 (w : World) (os : OsState) : (staticsOk (importedModules pw.main.body) (boot_heap w.params) (sd w os).heap && namesBound pw (sd w os).heap && gensDone (sd w os) && laidKept (boot_heap w.params) (sd w os).heap) = true := by
  rw [PySem.W.Fast.te5923862056798008813]
  kernel_rfl
end H1

section H2
open PySem PySem.W PyProof.Rows
set_option maxRecDepth 100000
set_option maxHeartbeats 8000000
noncomputable def xt (s : Shared) : Bool := xlAt vw [] s && recOk PySem.Challenge.rw_nt0603_01.row.records s
theorem tL2 (w : World) (os : OsState) : openSeen vw [] (importedModules pw.main.body) xt true (sd w os) = openGood vw [] := by
  rw [PySem.W.Fast.te5923862056798008813, PySem.W.Fast.te4187177175401517315]
  kernel_rfl
end H2

section H3
open PySem PySem.W PyProof.Rows
set_option maxRecDepth 100000
set_option maxHeartbeats 8000000
theorem tSaid : OpenLaw.wellSaid PySem.Challenge.rw_nt0603_01 = true := by
  rw [PySem.W.Fast.te9446332074065402090]; kernel_rfl
theorem head_of (H : Hook) (l3 : ∀ w os, H.obs (sd w os) = H.val w) {d : DefRec} {kwd : List (Str × Expr)} (said : PySem.Challenge.rw_nt0603_01.row.wellSaid = true)
    (hdef : defOf vw PySem.Challenge.rw_nt0603_01.row.name = some (d, kwd)) (hp : PySem.Challenge.rw_nt0603_01.row.prog.theDef PySem.Challenge.rw_nt0603_01.row.name = some (d.params, d.body, d.scope)) (hk : kwWritten? d.params.kwonlyargs d.params.kw_defaults = some kwd)
    (hw : PySem.Challenge.rw_nt0603_01.row.toRowW.promised) (call : WalkO vw [] (XL vw []) H.says PySem.Challenge.rw_nt0603_01.row.toRowW d kwd fun f vs => PySem.call f vs) : PySem.Challenge.rw_nt0603_01.row.Holds :=
  holds_open (q := vw) (loose := []) (Xt := xt) (XP := XL vw []) (Yf := H.obs) (Ya := H.val) (YP := H.says) (N := 6126) (left_of sd tOpen tSize tTop (by decide) tL1 tL2 l3) H.of H.keeps (fun s e => xl_of s (Bool.and_eq_true_iff.mp e).1) XL.keeps hdef hp hk
    (fun s e => recFacts_of (Bool.and_eq_true_iff.mp e).2) (by rfl) said (by decide +kernel) ⟨rfl, rfl, rfl, rfl, rfl, by decide +kernel⟩ hw call
local macro_rules | `(tactic| o_law) => `(tactic| refine holds_law tSaid fun said => ?_)
local macro_rules | `(tactic| o_head $H:term) => `(tactic| refine head_of $H (fun w os => by kernel_rfl) (by assumption) (by rfl) (by rfl) (by rfl) ?hw ?hc)
open_top hd for PySem.Challenge.rw_nt0603_01
end H3

section S0
open PySem PySem.W PyProof.Rows PySem.Calls
set_option maxRecDepth 100000
noncomputable abbrev Led := List (Addr × Obj)

/-- a call of the def at `f` with the ledger `news` ends, hands back `v` and leaves the ledger `news'`, as `R` says; `d` frames and `16*d` units deep at most -/
noncomputable def Claim (prog : Program) (w : World) (mean : ExcName → Option Value) (mg mb : Str → Option Value) (d : Nat) (f : Addr) (news : Led) (args : List Value) (R : Value → Led → Prop) : Prop :=
  ∀ (dp un : Nat) (gd : Option (List Code)) (cn : Str) (cs : Scope) (a : Addr) (ccd : Value) (cl : List (Str × Addr)) (outer : List Env) (A₀ : Around) (base h₀ : Heap) (L : Addr) (m : Str → Option Value) (s : Shared) (Q E : Value → Shared → Prop),
    Below A₀ base outer h₀ → Fr h₀ L s.heap m → (Mine.hd.heap_1 w.params).In h₀ → News h₀ L s.heap news → Top Mine.vw (looseW Mine.vw []) mean mg mb h₀ → cs.kind = .function →
    dp + d < recursionLimit → un + 16 * d < cLine →
    (∀ v news' h' tk, R v news' → Fr h₀ L h' m → News h₀ L h' news' → Q v { s with heap := h', toks := tk }) →
    wpAny (model prog w) (ktrTop dp un gd cn cs L a ccd cl outer) (call (.ref f) args) Q E s

theorem gentok9 {α : Type} {M : Model} {A : Around} {E : Value → Shared → Prop} {t : Sem α} {Q : α → Shared → Prop} {h g d o} {n : Nat} (H : ∀ tk : Nat, wpAny M A t Q E ⟨h, g, d, tk, o⟩) : wpAny M A t Q E ⟨h, g, d, n + 1, o⟩ := H _
theorem room_le {dp K k R : Nat} (h : dp + K < R) (e : Nat.ble (1 + k) K = true) : dp + 1 + k < R := by have := Nat.le_of_ble_eq_true e; omega
theorem units_le {un K k R : Nat} (h : un + 16 * K < R) (e : Nat.ble (3 + 16 * k) (16 * K) = true) : un + 3 + 16 * k < R := by have := Nat.le_of_ble_eq_true e; omega
end S0

local macro_rules | `(tactic| k_room) => `(tactic| ktr_room)
local macro_rules | `(tactic| ktr_room) => `(tactic| (apply room_le; assumption; rfl))
local macro_rules | `(tactic| ktr_units) => `(tactic| (apply units_le; assumption; rfl))
local macro_rules | `(tactic| walk_at $s:str) => `(tactic| k_extra $s)

section A1
open PySem PySem.W PyProof.Rows PySem.Calls
set_option maxRecDepth 100000
set_option maxHeartbeats 4000000
set_option genInjectivity false

/-- a text by its codes -/
def S (l : List Nat) : Str := ⟨l.toArray⟩

noncomputable def IsStr (v : Value) (x : Str) : Prop := ∃ u, v = .str x u
theorem IsStr.mk {x y : Str} {u : Tok} (e : x = y) : IsStr (.str x u) y := ⟨u, by rw [e]⟩
noncomputable def IsInt (v : Value) (x : Int) : Prop := ∃ u, v = .int x u
theorem IsInt.mk {x y : Int} {u : Tok} (e : x = y) : IsInt (.int x u) y := ⟨u, by rw [e]⟩

structure TA where
  (t dt st ds sg se ou er sts : Addr)

noncomputable def TA.all (T : TA) : List Addr := [T.t, T.dt, T.st, T.ds, T.sg, T.se, T.ou, T.er, T.sts]

/-- what can be seen of a tokenizer -/
structure D where
  xs : List Nat
  serr : List (List Dat)
  closed : Bool
  ret : Bool
  at_ : Nat
  state : Str
  out : List (List Dat)
  errs : List (List Dat)
  draft : Option (List Nat)
  foreign : Bool
  waiting : Bool
  done : Bool

structure TokS where
  (k0 k1 k2 k3 k4 k5 k6 k7 k8 k9 k10 k11 k12 k13 k14 k15 k16 k17 : Tok)
  (atk stk backk bufk codek lastk : Tok)
  (sgv sev ouv erv : List Value)
  (n1 n2 n3 n4 : Nat)

structure DK where
  (k0 k1 k2 k3 k4 k5 k6 k7 k8 k9 : Tok)

noncomputable def ent (w : World) (x : Str) (k : Tok) (v : Value) : DictEntry := ⟨PyData.keyHash w.params x, .str x k, v⟩

noncomputable def tokE (w : World) (T : TA) (d : D) (dv : Value) (σ : TokS) : List DictEntry :=
  [ent w "states" σ.k0 (.ref T.sts), ent w "stream" σ.k1 (.ref T.st), ent w "at" σ.k2 (.int d.at_ σ.atk), ent w "state" σ.k3 (.str d.state σ.stk),
   ent w "back" σ.k4 (.str "data" σ.backk), ent w "out" σ.k5 (.ref T.ou), ent w "errors" σ.k6 (.ref T.er), ent w "draft" σ.k7 dv,
   ent w "buffer" σ.k8 (.str "" σ.bufk), ent w "code" σ.k9 (.int 0 σ.codek), ent w "last" σ.k10 (.str "p" σ.lastk),
   ent w "is_foreign" σ.k11 (.bool d.foreign), ent w "is_waiting" σ.k12 (.bool d.waiting), ent w "is_done" σ.k13 (.bool d.done)]

noncomputable def strE (w : World) (T : TA) (d : D) (σ : TokS) : List DictEntry :=
  [ent w "signs" σ.k14 (.ref T.sg), ent w "is_closed" σ.k15 (.bool d.closed), ent w "is_return" σ.k16 (.bool d.ret), ent w "errors" σ.k17 (.ref T.se)]

noncomputable def stsKv : List (Str × Value) :=
  [("markup declaration open", .ref 119), ("bogus comment", .ref 126), ("CDATA section", .ref 140), ("CDATA section bracket", .ref 147), ("CDATA section end", .ref 154)]
/-- the table of the states -/
noncomputable def StsOk (w : World) (a : Addr) (o : Obj) : Prop := (a == sysModules) = false ∧ ∃ p, o.IsDictOf (PySem.strKind p w) stsKv
theorem StsOk.is {w : World} {a : Addr} {o : Obj} (h : StsOk w a o) (p : Program) : o.IsDictOf (PySem.strKind p w) stsKv := by
  obtain ⟨_, q, es, ep, h1, h2, h3, h4, h5⟩ := h
  refine ⟨es, ep, h1, h2, h3, ?_, h5⟩
  generalize es.toList = l at h4
  generalize stsKv = kv at h4
  induction h4 with
  | nil => exact .nil
  | cons a b _ ih => exact .cons a b ih
theorem StsOk.cls {w : World} {a : Addr} {o : Obj} (h : StsOk w a o) : o.cls = .type "dict" := by
  obtain ⟨_, q, es, ep, h, _⟩ := h
  exact h.1

noncomputable def drE (w : World) (k : DK) (l : List Nat) (tk : Tok) (al : Addr) : List DictEntry :=
  [ent w "kind" k.k0 (.str "comment" k.k8), ent w "name" k.k1 (.str "" k.k9), ent w "text" k.k2 (.str (S l) tk), ent w "public" k.k3 .none, ent w "system" k.k4 .none, ent w "is_quirks" k.k5 (.bool false), ent w "is_closing" k.k6 (.bool false), ent w "attrs" k.k7 (.ref al)]

noncomputable abbrev tupOf (vs : List Value) (n : Nat) : Obj := { cls := .type "tuple", data := .seq vs.toArray n }

/-- the value `v` is a tuple of flat items `r` -/
noncomputable def RowIs (nx : Led) (v : Value) (r : List Dat) : Prop := ∃ a vs n, v = .ref a ∧ (a, tupOf vs n) ∈ nx ∧ DatAll [] vs r

theorem RowIs.of {nx : Led} {a : Addr} {vs : List Value} {n : Nat} {r : List Dat} (m : (a, tupOf vs n) ∈ nx) (d : DatAll [] vs r) : RowIs nx (.ref a) r := ⟨a, vs, n, rfl, m, d⟩

inductive RowsAre (nx : Led) : List Value → List (List Dat) → Prop
  | nil : RowsAre nx [] []
  | cons {v vs r rs} : RowIs nx v r → RowsAre nx vs rs → RowsAre nx (v :: vs) (r :: rs)

inductive SignsAre : List Value → List Nat → Prop
  | nil : SignsAre [] []
  | cons {c u vs l} : SignsAre vs l → SignsAre (.str (S [c]) u :: vs) (c :: l)

noncomputable def DraftAt (w : World) (T : TA) (nx : Led) (dv : Value) : Option (List Nat) → Prop
  | none => dv = .none
  | some l => ∃ x dx al k tk n, dv = .ref x ∧ (x, instObj 73 dx) ∈ nx ∧ (dx, dictOf (drE w k l tk al) n) ∈ nx ∧ x ∉ T.all ∧ dx ∉ T.all

noncomputable def Keep (T : TA) (nx nx' : Led) : Prop := ∀ p ∈ nx, p.1 ∉ T.all → p.2.cls ≠ .type "dict" → p ∈ nx'

/-- the ledger `nx` holds a tokenizer at `T` whose state is `d`, its draft the value `dv`; of `n0` all is kept but the tokenizer's own and dicts -/
structure TokX (w : World) (T : TA) (n0 : Led) (d : D) (dv : Value) (nx : Led) : Prop where
  keep : Keep T n0 nx
  nodup : T.all.Nodup
  ex : ∃ (σ : TokS) (ks : Obj) (m1 m2 : Nat) (_ : StsOk w T.sts ks),
    (T.t, instObj 436 T.dt) ∈ nx ∧ (T.dt, dictOf (tokE w T d dv σ) m1) ∈ nx ∧ (T.st, instObj 273 T.ds) ∈ nx ∧ (T.ds, dictOf (strE w T d σ) m2) ∈ nx ∧
    (T.sg, listOf σ.sgv.toArray σ.n1) ∈ nx ∧ (T.se, listOf σ.sev.toArray σ.n2) ∈ nx ∧ (T.ou, listOf σ.ouv.toArray σ.n3) ∈ nx ∧ (T.er, listOf σ.erv.toArray σ.n4) ∈ nx ∧
    (T.sts, ks) ∈ nx ∧
    SignsAre σ.sgv d.xs ∧ RowsAre nx σ.sev d.serr ∧ RowsAre nx σ.ouv d.out ∧ RowsAre nx σ.erv d.errs
  draft : DraftAt w T nx dv d.draft

theorem TokX.mono {w T n0 d dv nx nx'} (h : TokX w T n0 d dv nx) (s : ∀ p ∈ nx, p ∈ nx') : TokX w T n0 d dv nx' := by
  have hr : ∀ {v r}, RowIs nx v r → RowIs nx' v r := fun ⟨a, vs, n, e, m, x⟩ => ⟨a, vs, n, e, s _ m, x⟩
  have hrs : ∀ {vs rs}, RowsAre nx vs rs → RowsAre nx' vs rs := by
    intro vs rs q
    induction q with
    | nil => exact .nil
    | cons a _ ih => exact .cons (hr a) ih
  obtain ⟨kp, nd, ⟨σ, ks, m1, m2, m3, a1, a2, a3, a4, a5, a6, a7, a8, a9, b1, b2, b3, b4⟩, dr⟩ := h
  refine ⟨fun p hp n q => s _ (kp p hp n q), nd, ⟨σ, ks, m1, m2, m3, s _ a1, s _ a2, s _ a3, s _ a4, s _ a5, s _ a6, s _ a7, s _ a8, s _ a9, b1, hrs b2, hrs b3, hrs b4⟩, ?_⟩
  cases hd : d.draft with
  | none => rw [hd] at dr; exact dr
  | some l =>
    rw [hd] at dr
    obtain ⟨x, dx, al, k, tk, n, e, m1, m2, q1, q2⟩ := dr
    exact ⟨x, dx, al, k, tk, n, e, s _ m1, s _ m2, q1, q2⟩

/-- the ledger with the object at `a` put anew -/
noncomputable def put (nx : Led) (a : Addr) (o : Obj) : Led := (a, o) :: nx.filter (fun p => decide (p.1 ≠ a))

theorem mem_put {nx : Led} {a b : Addr} {o o' : Obj} (h : (b, o') ∈ nx) (hn : b ≠ a) : (b, o') ∈ put nx a o :=
  .tail _ (List.mem_filter.mpr ⟨h, by simpa using hn⟩)
theorem mem_put_self {nx : Led} {a : Addr} {o : Obj} : (a, o) ∈ put nx a o := .head _

section
variable {prog : Program} {w : World} {A : Around} {E : Value → Shared → Prop} {s : Shared} {h₀ : Heap} {L : Addr} {m : Str → Option Value} {nx : Led} {T : TA} {n0 : Led} {d : D} {dv : Value}

theorem TokX.instT (h : TokX w T n0 d dv nx) (N : News h₀ L s.heap nx) : ∃ σ m1, InstAt s.heap T.t (instObj 436 T.dt) 436 (some (dictOf (tokE w T d dv σ) m1)) := by
  obtain ⟨kp, nd, ⟨σ, ks, m1, m2, m3, a1, a2, _⟩, dr⟩ := h
  exact ⟨σ, m1, InstAt.of_news N a1 a2⟩
theorem TokX.instS (h : TokX w T n0 d dv nx) (N : News h₀ L s.heap nx) : ∃ σ m1, InstAt s.heap T.st (instObj 273 T.ds) 273 (some (dictOf (strE w T d σ) m1)) := by
  obtain ⟨kp, nd, ⟨σ, ks, m1, m2, m3, a1, a2, a3, a4, _⟩, dr⟩ := h
  exact ⟨σ, m2, InstAt.of_news N a3 a4⟩
end
end A1

section A2
open PySem PySem.W PyProof.Rows PySem.Calls
set_option maxRecDepth 100000
set_option maxHeartbeats 4000000

theorem Keep.refl {T : TA} {nx : Led} : Keep T nx nx := fun _ h _ _ => h
theorem Keep.trans {T : TA} {a b c : Led} (h : Keep T a b) (k : Keep T b c) : Keep T a c := fun p hp n q => k p (h p hp n q) n q
theorem Keep.cons {T : TA} {a b : Led} {p : Addr × Obj} (h : Keep T a b) : Keep T a (p :: b) := fun q hq n z => .tail _ (h q hq n z)
theorem Keep.ofCons {T : TA} {a b : Led} {p : Addr × Obj} (h : Keep T (p :: a) b) : Keep T a b := fun q hq n z => h q (.tail _ hq) n z
noncomputable def KeepA (T : TA) (nx nx' : Led) : Prop := ∀ p ∈ nx, p.1 ∉ T.all → p ∈ nx'
theorem KeepA.refl {T : TA} {nx : Led} : KeepA T nx nx := fun _ h _ => h
theorem KeepA.trans {T : TA} {a b c : Led} (h : KeepA T a b) (k : KeepA T b c) : KeepA T a c := fun p hp n => k p (h p hp n) n
theorem KeepA.ofCons {T : TA} {a b : Led} {p : Addr × Obj} (h : KeepA T (p :: a) b) : KeepA T a b := fun q hq n => h q (.tail _ hq) n
theorem KeepA.keep {T : TA} {a b : Led} (h : KeepA T a b) : Keep T a b := fun p hp n _ => h p hp n
theorem KeepA.put {T : TA} {nx : Led} {a : Addr} {o : Obj} (h : a ∈ T.all) : KeepA T nx (put nx a o) := fun p hp n => mem_put (o' := p.2) (b := p.1) hp fun e => n (e ▸ h)

theorem TokX.mem {w T n0 d dv nx} (H : TokX w T n0 d dv nx) : ∀ a ∈ T.all, ∃ o, (a, o) ∈ nx := by
  obtain ⟨kp, nd, ⟨σ, ks, m1, m2, m3, a1, a2, a3, a4, a5, a6, a7, a8, a9, _⟩, dr⟩ := H
  intro a ha
  simp only [TA.all, List.mem_cons, List.not_mem_nil, or_false] at ha
  rcases ha with rfl | rfl | rfl | rfl | rfl | rfl | rfl | rfl | rfl
  · exact ⟨_, a1⟩
  · exact ⟨_, a2⟩
  · exact ⟨_, a3⟩
  · exact ⟨_, a4⟩
  · exact ⟨_, a5⟩
  · exact ⟨_, a6⟩
  · exact ⟨_, a7⟩
  · exact ⟨_, a8⟩
  · exact ⟨_, a9⟩
theorem TokX.off {w T n0 d dv nx} (H : TokX w T n0 d dv nx) {b c : Addr} (l : ∀ p ∈ nx, p.1 < b) (h : b ≤ c) : c ∉ T.all := fun hc => by
  obtain ⟨o, ho⟩ := H.mem c hc
  exact absurd (Nat.lt_of_lt_of_le (l _ ho) h) (Nat.lt_irrefl _)
theorem TokX.rebase {w T n0 d dv nx} (H : TokX w T n0 d dv nx) : TokX w T nx d dv nx := ⟨Keep.refl, H.nodup, H.ex, H.draft⟩
theorem TokX.base {w T n0 n1 d dv nx} (H : TokX w T n1 d dv nx) (k : Keep T n0 n1) : TokX w T n0 d dv nx := ⟨k.trans H.keep, H.nodup, H.ex, H.draft⟩
theorem TokX.cons1 {w T n0 d dv nx} {p : Addr × Obj} (h : TokX w T n0 d dv nx) : TokX w T n0 d dv (p :: nx) := h.mono fun _ h => .tail _ h
theorem TokX.cons2 {w T n0 d dv nx} {p q : Addr × Obj} (h : TokX w T n0 d dv nx) : TokX w T n0 d dv (p :: q :: nx) := h.cons1.cons1
theorem TokX.cons3 {w T n0 d dv nx} {p q r : Addr × Obj} (h : TokX w T n0 d dv nx) : TokX w T n0 d dv (p :: q :: r :: nx) := h.cons1.cons1.cons1
theorem News.inj {h₀ h : Heap} {L a : Addr} {nx : Led} {o o' : Obj} (N : News h₀ L h nx) (h1 : (a, o) ∈ nx) (h2 : (a, o') ∈ nx) : o = o' := by
  have e1 := (N _ h1).1
  have e2 := (N _ h2).1
  exact Option.some.inj (e1.symm.trans e2)
theorem S_nil : Str.ofString "" = S [] := by decide +kernel
theorem S_cdata : Str.ofString "[CDATA[" = S [91, 67, 68, 65, 84, 65, 91] := by decide +kernel
theorem S_nl : Str.ofString "\n" = S [10] := by decide +kernel
theorem S_cr : Str.ofString "\r" = S [13] := by decide +kernel
theorem S_app (a b : List Nat) : S a ++ S b = S (a ++ b) := by show Str.mk _ = Str.mk _; simp [S]
theorem S_fffd : Str.ofString "�" = S [65533] := by decide +kernel
theorem S_inj1 {a b : Nat} : S [a] = S [b] ↔ a = b := by
  constructor
  · intro h
    have := congrArg (fun x => x.cps.toList) h
    simpa [S] using this
  · intro h; rw [h]
theorem S_ne {a b : Nat} (h : (S [a] != S [b]) = true) : a ≠ b := fun e => by rw [e] at h; simp at h
theorem S_eq {a b : Nat} (h : (S [a] != S [b]) = false) : a = b := S_inj1.mp (by simpa using h)
theorem S_beq {a b : Nat} (h : (S [a] == S [b]) = true) : a = b := S_inj1.mp (by simpa using h)
theorem S_bne {a b : Nat} (h : (S [a] == S [b]) = false) : a ≠ b := fun e => by rw [e] at h; simp at h
theorem S_len (a : List Nat) : (S a).length = a.length := by show Array.size _ = _; simp [S]
theorem S_cps (a : List Nat) : (S a).cps.toList = a := rfl
noncomputable def Small (l : List Nat) : Prop := ∀ c ∈ l, c ≤ 1000000
theorem Small.get {l : List Nat} {i c : Nat} (h : Small l) (e : l[i]? = some c) : c ≤ 1000000 := h c (List.mem_of_getElem? e)
noncomputable def lowc (c : Nat) : Nat := if 65 ≤ c ∧ c ≤ 90 then c + 32 else c
noncomputable def upB (c : Nat) : Bool := decide (65 ≤ c ∧ c ≤ 90)
noncomputable def ovl (ps : List (Str × Value)) (m : Str → Option Value) : Str → Option Value := fun y => match ps.lookup y with | some v => some v | none => m y
theorem ovl_eq {m : Str → Option Value} : ∀ {ps : List (Str × Value)}, (∀ p ∈ ps, m p.1 = some p.2) → ovl ps m = m := by
  intro ps h
  funext y
  unfold ovl
  cases e : ps.lookup y with
  | none => rfl
  | some v =>
    have : (y, v) ∈ ps := by
      clear h
      induction ps with
      | nil => cases e
      | cons p r ih =>
        obtain ⟨a, b⟩ := p
        rw [List.lookup_cons] at e
        by_cases hq : (y == a) = true
        · rw [hq] at e; cases e; rw [beq_iff_eq.mp hq]; exact .head _
        · simp only [hq] at e; exact .tail _ (ih e)
    exact (h _ this).symm
theorem Fr.ovl {h₀ h : Heap} {L : Addr} {m : Str → Option Value} {ps : List (Str × Value)} (F : Fr h₀ L h m) (hm : ∀ p ∈ ps, m p.1 = some p.2) : Fr h₀ L h (ovl ps m) := by rw [ovl_eq hm]; exact F
theorem Fr.turn {h₀ h : Heap} {L : Addr} {x : Str} {v : Value} {m : Str → Option Value} {ps : List (Str × Value)} (F : Fr h₀ L h (fun y => if y = x then some v else m y)) (hm : ∀ p ∈ ps, m p.1 = some p.2) : Fr h₀ L h (Mine.ovl ((x, v) :: ps) m) := by
  have e : Mine.ovl ((x, v) :: ps) m = fun y => if y = x then some v else m y := by
    funext y
    have e2 := congrFun (ovl_eq hm) y
    unfold Mine.ovl at e2 ⊢
    rw [List.lookup_cons]
    by_cases h : y = x
    · subst h; simp
    · have : (y == x) = false := by simpa using h
      simp only [this, h, if_false]
      exact e2
  rw [e]; exact F
theorem dict_nt {es : List DictEntry} {n : Nat} : (dictOf es n).cls ≠ .type "tuple" := by show Value.type "dict" ≠ Value.type "tuple"; decide
theorem list_nt {es : Array Value} {n : Nat} : (listOf es n).cls ≠ .type "tuple" := by show Value.type "list" ≠ Value.type "tuple"; decide
theorem RowIs.put {h₀ h : Heap} {L b : Addr} {nx : Led} {o o' : Obj} {v r} (N : News h₀ L h nx) (m : (b, o) ∈ nx) (ho : o.cls ≠ .type "tuple") (H : RowIs nx v r) : RowIs (put nx b o') v r := by
  obtain ⟨a, vs, n, e, ma, x⟩ := H
  refine ⟨a, vs, n, e, mem_put ma fun q => ho ?_, x⟩
  subst q
  rw [News.inj N m ma]
theorem RowsAre.put {h₀ h : Heap} {L b : Addr} {nx : Led} {o o' : Obj} {vs rs} (N : News h₀ L h nx) (m : (b, o) ∈ nx) (ho : o.cls ≠ .type "tuple") (H : RowsAre nx vs rs) : RowsAre (put nx b o') vs rs := by
  induction H with
  | nil => exact .nil
  | cons a _ ih => exact .cons (a.put N m ho) ih
theorem RowsAre.snoc {nx : Led} {vs rs v r} (H : RowsAre nx vs rs) (h : RowIs nx v r) : RowsAre nx (vs ++ [v]) (rs ++ [r]) := by
  induction H with
  | nil => exact .cons h .nil
  | cons a _ ih => exact .cons a ih
theorem RowsAre.length {nx : Led} {vs rs} (H : RowsAre nx vs rs) : vs.length = rs.length := by
  induction H with
  | nil => rfl
  | cons _ _ ih => rw [List.length_cons, List.length_cons, ih]
theorem SignsAre.length {vs l} (H : SignsAre vs l) : vs.length = l.length := by
  induction H with
  | nil => rfl
  | cons _ ih => rw [List.length_cons, List.length_cons, ih]
theorem SignsAre.snoc {vs l c u} (H : SignsAre vs l) : SignsAre (vs ++ [.str (S [c]) u]) (l ++ [c]) := by
  induction H with
  | nil => exact .cons .nil
  | cons _ ih => exact .cons ih
theorem SignsAre.get {vs l} (H : SignsAre vs l) {i : Nat} {c : Nat} (h : l[i]? = some c) : ∃ u, vs[i]? = some (.str (S [c]) u) := by
  induction H generalizing i with
  | nil => cases h
  | cons _ ih =>
    cases i with
    | zero => cases h; exact ⟨_, rfl⟩
    | succ i => exact ih h
theorem DraftAt.put {w : World} {T : TA} {nx : Led} {dv : Value} {a : Addr} {o : Obj} (ha : a ∈ T.all) : ∀ {q : Option (List Nat)}, DraftAt w T nx dv q → DraftAt w T (put nx a o) dv q
  | none, h => h
  | some _, ⟨x, dx, al, k, tk, n, e, m1, m2, q1, q2⟩ => ⟨x, dx, al, k, tk, n, e, mem_put m1 (fun e => q1 (e ▸ ha)), mem_put m2 (fun e => q2 (e ▸ ha)), q1, q2⟩

theorem ne_at {l : List Addr} (nd : l.Nodup) (i j : Nat) {a b : Addr} (hi : l[i]? = some a) (hj : l[j]? = some b) (hij : i ≠ j) : a ≠ b := by
  intro e
  subst e
  obtain ⟨h1, e1⟩ := List.getElem?_eq_some_iff.mp hi
  obtain ⟨h2, e2⟩ := List.getElem?_eq_some_iff.mp hj
  exact hij ((List.getElem_inj nd).mp (e1.trans e2.symm))

section
variable {prog : Program} {w : World} {A : Around} {E : Value → Shared → Prop} {s : Shared} {h₀ : Heap} {L : Addr} {m : Str → Option Value} {nx : Led} {T : TA} {n0 : Led} {d : D} {dv : Value}

theorem news_put {o : Obj} {a : Addr} (N : News h₀ L s.heap nx) (ha : (a, o) ∈ nx) : News h₀ L s.heap ((a, o) :: nx.filter (fun p => decide (p.1 ≠ a))) := by
  intro p hp
  rcases List.mem_cons.mp hp with rfl | hp
  · exact N _ ha
  · exact N _ (List.mem_filter.mp hp).1
theorem upd_put {o o' : Obj} {a : Addr} : Upd a o o' ((a, o) :: nx.filter (fun p => decide (p.1 ≠ a))) (put nx a o') :=
  .head fun p hp => by simpa using (List.mem_filter.mp hp).2

theorem ord_S {c : Nat} {t : Tok} {Q : Value → Shared → Prop} (h : Q (.int c s.toks) { s with toks := s.toks + 1 }) : wpAny (model prog w) A (call (.builtin "ord") [.str (S [c]) t]) Q E s := P.ord_of_char h
theorem chr_S {i : Int} {n : Nat} {t : Tok} {Q : Value → Shared → Prop} (e : i = (n : Int)) (hn : n ≤ 1114111) (h : Q (.str (S [n]) s.toks) { s with toks := s.toks + 1 }) : wpAny (model prog w) A (call (.builtin "chr") [.int i t]) Q E s := by
  subst e
  exact chr_of_range (by omega) (by omega) h
theorem len_S {l : List Nat} {t : Tok} {Q : Value → Shared → Prop} (hl : l.length ≤ 1000000) (h : Q (.int l.length (s.toks + 1)) { s with toks := s.toks + 1 + 1 }) : wpAny (model prog w) A (call (.builtin "len") [.str (S l) t]) Q E s := by
  refine len_str (by rw [S_len]; omega) ?_
  rw [S_len]; exact h
theorem item_S {value slice : PySem.Expr} {l : List Nat} {i : Nat} {t u : Tok} {Q : Value → Shared → Prop} (hi : i < l.length) (hz : l.length ≤ 1000000) (h : ∀ c u', l[i]? = some c → Q (.str (S [c]) u') { s with toks := s.toks + 1 })
    (hs : subscripted slice false (.str (S l) t) (.int (i : Int) u) = operate [.str (S l) t, .int (i : Int) u] (getItem (.str (S l) t) (.int (i : Int) u)) := by with_unfolding_all rfl) :
    wpAny (model prog w) A (subscriptTail value slice (.str (S l) t) (.int (i : Int) u)) Q E s := by
  refine tail_any (typeIs_str s (S l) t) F.slot_str_getitem.lookup (P.getItem_str (c := l[i]) ?_ ?_ (h _ _ (List.getElem?_eq_getElem hi))) hs
  · simp; omega
  · have e : seqIndex? (i : Int) (S l).length = some i := by
      rw [S_len]; unfold seqIndex?; simp; omega
    rw [e]
    simp [S, hi]
theorem cast_pred {n : Nat} (h : 1 ≤ n) : (n : Int) - 1 = ((n - 1 : Nat) : Int) := by omega
theorem News.ofCons {h : Heap} {p : Addr × Obj} {l : Led} (N : News h₀ L h (p :: l)) : News h₀ L h l := fun q hq => N q (.tail _ hq)
theorem set_gen {x C dx : Addr} {es es' : List DictEntry} {n n' : Nat} {name : Str} {v : Value} {Q : Unit → Shared → Prop} (F : Fr h₀ L s.heap m) (X : (Mine.hd.heap_1 w.params).In h₀) (N : News h₀ L s.heap nx)
    (mx : (x, instObj C dx) ∈ nx) (mdx : (dx, dictOf es n) ∈ nx)
    (hs : findIn (Mine.hd.heap_1 w.params) (.ref C) "__setattr__" = some (some (.builtin "object.__setattr__"))) (hp : plainOver (Mine.hd.heap_1 w.params) C = true) (ht : takerIn (Mine.hd.heap_1 w.params) C name = some none) (hh : hasDictIn (Mine.hd.heap_1 w.params) C = true) (hl : (getL name es).isSome = true)
    (e : (putL name (PyData.keyHash w.params name) (.str name (s.toks + 1)) v es, putN name es n) = (es', n')) (hz : es'.length ≤ 1000)
    (h : ∀ h', Fr h₀ L h' m → News h₀ L h' (put nx dx (dictOf es' n')) → Q () { s with heap := h', toks := s.toks + 2 }) :
    wpAny (model prog w) A (setAttr (.ref x) name v) Q E s :=
  set_dict F X (news_put N mdx) (InstAt.of_news N mx mdx) rfl hs hp ht hh hl e upd_put hz h

theorem app_gen {a : Addr} {its : List Value} {n : Nat} {v : Value} {Q : Value → Shared → Prop} (F : Fr h₀ L s.heap m) (N : News h₀ L s.heap nx) (ma : (a, listOf its.toArray n) ∈ nx)
    (hsz : its.length ≤ 1000000) (h : ∀ h', Fr h₀ L h' m → News h₀ L h' (put nx a (listOf (its ++ [v]).toArray (n + 1))) → Q .none { s with heap := h' }) : wpAny (model prog w) A (call (.builtin "list.append") [.ref a, v]) Q E s := by
  refine append_K F (news_put N ma) upd_put (fun h' F' N' => h h' F' (by simpa using N')) ?_
  simp only [List.size_toArray, sizeLine]; omega

theorem TokX.handed (H : TokX w T n0 d dv nx) : handedIn dv = true := by
  have h := H.draft
  cases hd : d.draft with
  | none => rw [hd] at h; rw [show dv = .none from h]; rfl
  | some l => rw [hd] at h; obtain ⟨x, dx, al, k, tk, n, e, _⟩ := h; rw [e]; rfl

theorem get_states {expr : Bool} {Q : Value → Shared → Prop} (F : Fr h₀ L s.heap m) (X : (Mine.hd.heap_1 w.params).In h₀) (N : News h₀ L s.heap nx) (H : TokX w T n0 d dv nx)
    (h : Q (.ref T.sts) { s with toks := s.toks + 1 }) : wpAny (model prog w) A (getAttr (.ref T.t) "states" expr) Q E s := by
  obtain ⟨σ, m1, I⟩ := H.instT N
  refine' get_own F X I ?a ?b ?c ?d ?e ?f h
  case a => k_is
  case b => k_is
  case c => k_is
  case d => k_is
  case e => rfl
  case f => rfl

theorem get_stream {expr : Bool} {Q : Value → Shared → Prop} (F : Fr h₀ L s.heap m) (X : (Mine.hd.heap_1 w.params).In h₀) (N : News h₀ L s.heap nx) (H : TokX w T n0 d dv nx)
    (h : Q (.ref T.st) { s with toks := s.toks + 1 }) : wpAny (model prog w) A (getAttr (.ref T.t) "stream" expr) Q E s := by
  obtain ⟨σ, m1, I⟩ := H.instT N
  refine' get_own F X I ?a ?b ?c ?d ?e ?f h
  case a => k_is
  case b => k_is
  case c => k_is
  case d => k_is
  case e => rfl
  case f => rfl

theorem get_at {expr : Bool} {Q : Value → Shared → Prop} (F : Fr h₀ L s.heap m) (X : (Mine.hd.heap_1 w.params).In h₀) (N : News h₀ L s.heap nx) (H : TokX w T n0 d dv nx)
    (h : ∀ u, Q (.int d.at_ u) { s with toks := s.toks + 1 }) : wpAny (model prog w) A (getAttr (.ref T.t) "at" expr) Q E s := by
  obtain ⟨σ, m1, I⟩ := H.instT N
  refine' get_own F X I ?a ?b ?c ?d ?e ?f (h _)
  case a => k_is
  case b => k_is
  case c => k_is
  case d => k_is
  case e => rfl
  case f => rfl

theorem get_state {expr : Bool} {Q : Value → Shared → Prop} (F : Fr h₀ L s.heap m) (X : (Mine.hd.heap_1 w.params).In h₀) (N : News h₀ L s.heap nx) (H : TokX w T n0 d dv nx)
    (h : ∀ u, Q (.str d.state u) { s with toks := s.toks + 1 }) : wpAny (model prog w) A (getAttr (.ref T.t) "state" expr) Q E s := by
  obtain ⟨σ, m1, I⟩ := H.instT N
  refine' get_own F X I ?a ?b ?c ?d ?e ?f (h _)
  case a => k_is
  case b => k_is
  case c => k_is
  case d => k_is
  case e => rfl
  case f => rfl

theorem get_out {expr : Bool} {Q : Value → Shared → Prop} (F : Fr h₀ L s.heap m) (X : (Mine.hd.heap_1 w.params).In h₀) (N : News h₀ L s.heap nx) (H : TokX w T n0 d dv nx)
    (h : Q (.ref T.ou) { s with toks := s.toks + 1 }) : wpAny (model prog w) A (getAttr (.ref T.t) "out" expr) Q E s := by
  obtain ⟨σ, m1, I⟩ := H.instT N
  refine' get_own F X I ?a ?b ?c ?d ?e ?f h
  case a => k_is
  case b => k_is
  case c => k_is
  case d => k_is
  case e => rfl
  case f => rfl

theorem get_errors {expr : Bool} {Q : Value → Shared → Prop} (F : Fr h₀ L s.heap m) (X : (Mine.hd.heap_1 w.params).In h₀) (N : News h₀ L s.heap nx) (H : TokX w T n0 d dv nx)
    (h : Q (.ref T.er) { s with toks := s.toks + 1 }) : wpAny (model prog w) A (getAttr (.ref T.t) "errors" expr) Q E s := by
  obtain ⟨σ, m1, I⟩ := H.instT N
  refine' get_own F X I ?a ?b ?c ?d ?e ?f h
  case a => k_is
  case b => k_is
  case c => k_is
  case d => k_is
  case e => rfl
  case f => rfl

theorem get_draft {expr : Bool} {Q : Value → Shared → Prop} (F : Fr h₀ L s.heap m) (X : (Mine.hd.heap_1 w.params).In h₀) (N : News h₀ L s.heap nx) (H : TokX w T n0 d dv nx)
    (h : Q dv { s with toks := s.toks + 1 }) : wpAny (model prog w) A (getAttr (.ref T.t) "draft" expr) Q E s := by
  obtain ⟨σ, m1, I⟩ := H.instT N
  refine' get_own F X I ?a ?b ?c ?d ?e ?f h
  case a => k_is
  case b => k_is
  case c => k_is
  case d => k_is
  case e => rfl
  case f => exact H.handed

theorem get_last {expr : Bool} {Q : Value → Shared → Prop} (F : Fr h₀ L s.heap m) (X : (Mine.hd.heap_1 w.params).In h₀) (N : News h₀ L s.heap nx) (H : TokX w T n0 d dv nx)
    (h : ∀ u, Q (.str "p" u) { s with toks := s.toks + 1 }) : wpAny (model prog w) A (getAttr (.ref T.t) "last" expr) Q E s := by
  obtain ⟨σ, m1, I⟩ := H.instT N
  refine' get_own F X I ?a ?b ?c ?d ?e ?f (h _)
  case a => k_is
  case b => k_is
  case c => k_is
  case d => k_is
  case e => rfl
  case f => rfl

theorem get_foreign {expr : Bool} {Q : Value → Shared → Prop} (F : Fr h₀ L s.heap m) (X : (Mine.hd.heap_1 w.params).In h₀) (N : News h₀ L s.heap nx) (H : TokX w T n0 d dv nx)
    (h : Q (.bool d.foreign) { s with toks := s.toks + 1 }) : wpAny (model prog w) A (getAttr (.ref T.t) "is_foreign" expr) Q E s := by
  obtain ⟨σ, m1, I⟩ := H.instT N
  refine' get_own F X I ?a ?b ?c ?d ?e ?f h
  case a => k_is
  case b => k_is
  case c => k_is
  case d => k_is
  case e => rfl
  case f => rfl

theorem get_waiting {expr : Bool} {Q : Value → Shared → Prop} (F : Fr h₀ L s.heap m) (X : (Mine.hd.heap_1 w.params).In h₀) (N : News h₀ L s.heap nx) (H : TokX w T n0 d dv nx)
    (h : Q (.bool d.waiting) { s with toks := s.toks + 1 }) : wpAny (model prog w) A (getAttr (.ref T.t) "is_waiting" expr) Q E s := by
  obtain ⟨σ, m1, I⟩ := H.instT N
  refine' get_own F X I ?a ?b ?c ?d ?e ?f h
  case a => k_is
  case b => k_is
  case c => k_is
  case d => k_is
  case e => rfl
  case f => rfl

theorem get_done {expr : Bool} {Q : Value → Shared → Prop} (F : Fr h₀ L s.heap m) (X : (Mine.hd.heap_1 w.params).In h₀) (N : News h₀ L s.heap nx) (H : TokX w T n0 d dv nx)
    (h : Q (.bool d.done) { s with toks := s.toks + 1 }) : wpAny (model prog w) A (getAttr (.ref T.t) "is_done" expr) Q E s := by
  obtain ⟨σ, m1, I⟩ := H.instT N
  refine' get_own F X I ?a ?b ?c ?d ?e ?f h
  case a => k_is
  case b => k_is
  case c => k_is
  case d => k_is
  case e => rfl
  case f => rfl

theorem get_signs {expr : Bool} {Q : Value → Shared → Prop} (F : Fr h₀ L s.heap m) (X : (Mine.hd.heap_1 w.params).In h₀) (N : News h₀ L s.heap nx) (H : TokX w T n0 d dv nx)
    (h : Q (.ref T.sg) { s with toks := s.toks + 1 }) : wpAny (model prog w) A (getAttr (.ref T.st) "signs" expr) Q E s := by
  obtain ⟨σ, m1, I⟩ := H.instS N
  refine' get_own F X I ?a ?b ?c ?d ?e ?f h
  case a => k_is
  case b => k_is
  case c => k_is
  case d => k_is
  case e => rfl
  case f => rfl

theorem get_closed {expr : Bool} {Q : Value → Shared → Prop} (F : Fr h₀ L s.heap m) (X : (Mine.hd.heap_1 w.params).In h₀) (N : News h₀ L s.heap nx) (H : TokX w T n0 d dv nx)
    (h : Q (.bool d.closed) { s with toks := s.toks + 1 }) : wpAny (model prog w) A (getAttr (.ref T.st) "is_closed" expr) Q E s := by
  obtain ⟨σ, m1, I⟩ := H.instS N
  refine' get_own F X I ?a ?b ?c ?d ?e ?f h
  case a => k_is
  case b => k_is
  case c => k_is
  case d => k_is
  case e => rfl
  case f => rfl

theorem get_return {expr : Bool} {Q : Value → Shared → Prop} (F : Fr h₀ L s.heap m) (X : (Mine.hd.heap_1 w.params).In h₀) (N : News h₀ L s.heap nx) (H : TokX w T n0 d dv nx)
    (h : Q (.bool d.ret) { s with toks := s.toks + 1 }) : wpAny (model prog w) A (getAttr (.ref T.st) "is_return" expr) Q E s := by
  obtain ⟨σ, m1, I⟩ := H.instS N
  refine' get_own F X I ?a ?b ?c ?d ?e ?f h
  case a => k_is
  case b => k_is
  case c => k_is
  case d => k_is
  case e => rfl
  case f => rfl

theorem get_serr {expr : Bool} {Q : Value → Shared → Prop} (F : Fr h₀ L s.heap m) (X : (Mine.hd.heap_1 w.params).In h₀) (N : News h₀ L s.heap nx) (H : TokX w T n0 d dv nx)
    (h : Q (.ref T.se) { s with toks := s.toks + 1 }) : wpAny (model prog w) A (getAttr (.ref T.st) "errors" expr) Q E s := by
  obtain ⟨σ, m1, I⟩ := H.instS N
  refine' get_own F X I ?a ?b ?c ?d ?e ?f h
  case a => k_is
  case b => k_is
  case c => k_is
  case d => k_is
  case e => rfl
  case f => rfl

theorem DraftAt.instD {l : List Nat} {x : Addr} (H : DraftAt w T nx (.ref x) (some l)) (N : News h₀ L s.heap nx) : ∃ dx al k tk n, InstAt s.heap x (instObj 73 dx) 73 (some (dictOf (drE w k l tk al) n)) := by
  obtain ⟨x', dx, al, k, tk, n, e, m1, m2, _⟩ := H
  cases e
  exact ⟨dx, al, k, tk, n, InstAt.of_news N m1 m2⟩
theorem TokX.dr {l : List Nat} (H : TokX w T n0 d dv nx) (hd : d.draft = some l) : DraftAt w T nx dv (some l) := hd ▸ H.draft
theorem DraftAt.keepA {nx' : Led} : ∀ {q : Option (List Nat)}, DraftAt w T nx dv q → KeepA T nx nx' → DraftAt w T nx' dv q
  | none, h, _ => h
  | some _, ⟨x, dx, al, k, tk, n, e, m1, m2, q1, q2⟩, K => ⟨x, dx, al, k, tk, n, e, K _ m1 q1, K _ m2 q2, q1, q2⟩
theorem DraftAt.mono {nx' : Led} : ∀ {q : Option (List Nat)}, DraftAt w T nx dv q → (∀ p ∈ nx, p ∈ nx') → DraftAt w T nx' dv q
  | none, h, _ => h
  | some _, ⟨x, dx, al, k, tk, n, e, m1, m2, q1, q2⟩, K => ⟨x, dx, al, k, tk, n, e, K _ m1, K _ m2, q1, q2⟩

theorem getd_kind {expr : Bool} {Q : Value → Shared → Prop} {l : List Nat} {x : Addr} (F : Fr h₀ L s.heap m) (X : (Mine.hd.heap_1 w.params).In h₀) (N : News h₀ L s.heap nx) (H : DraftAt w T nx (.ref x) (some l))
    (h : ∀ u, Q (.str "comment" u) { s with toks := s.toks + 1 }) : wpAny (model prog w) A (getAttr (.ref x) "kind" expr) Q E s := by
  obtain ⟨dx, al, k, tk, n, I⟩ := H.instD N
  refine' get_own F X I ?a ?b ?c ?d ?e ?f (h _)
  case a => k_is
  case b => k_is
  case c => k_is
  case d => k_is
  case e => rfl
  case f => rfl

theorem getd_text {expr : Bool} {Q : Value → Shared → Prop} {l : List Nat} {x : Addr} (F : Fr h₀ L s.heap m) (X : (Mine.hd.heap_1 w.params).In h₀) (N : News h₀ L s.heap nx) (H : DraftAt w T nx (.ref x) (some l))
    (h : ∀ u, Q (.str (S l) u) { s with toks := s.toks + 1 }) : wpAny (model prog w) A (getAttr (.ref x) "text" expr) Q E s := by
  obtain ⟨dx, al, k, tk, n, I⟩ := H.instD N
  refine' get_own F X I ?a ?b ?c ?d ?e ?f (h _)
  case a => k_is
  case b => k_is
  case c => k_is
  case d => k_is
  case e => rfl
  case f => rfl

theorem tok_method {pl : Sem Bool} {Q : Value × List Value → Shared → Prop} {f : Addr} {name : Str} (F : Fr h₀ L s.heap m) (X : (Mine.hd.heap_1 w.params).In h₀) (N : News h₀ L s.heap nx) (H : TokX w T n0 d dv nx)
    (hg : plainGet (Mine.hd.heap_1 w.params) 436 name = true) (hf : findIn (Mine.hd.heap_1 w.params) (.ref 436) name = some (some (.ref f))) (ht : isFn (Mine.hd.heap_1 w.params) (.ref f) = true) (hl : ∀ σ, getL name (tokE w T d dv σ) = some none)
    (h : Q (.ref f, [.ref T.t]) s) : wpAny (model prog w) A (getMethod (.ref T.t) name pl) Q E s := by
  obtain ⟨σ, m1, I⟩ := H.instT N
  exact method_inst F X I hg hf ht (hl σ) h
theorem str_method {pl : Sem Bool} {Q : Value × List Value → Shared → Prop} {f : Addr} {name : Str} (F : Fr h₀ L s.heap m) (X : (Mine.hd.heap_1 w.params).In h₀) (N : News h₀ L s.heap nx) (H : TokX w T n0 d dv nx)
    (hg : plainGet (Mine.hd.heap_1 w.params) 273 name = true) (hf : findIn (Mine.hd.heap_1 w.params) (.ref 273) name = some (some (.ref f))) (ht : isFn (Mine.hd.heap_1 w.params) (.ref f) = true) (hl : ∀ σ, getL name (strE w T d σ) = some none)
    (h : Q (.ref f, [.ref T.st]) s) : wpAny (model prog w) A (getMethod (.ref T.st) name pl) Q E s := by
  obtain ⟨σ, m1, I⟩ := H.instS N
  exact method_inst F X I hg hf ht (hl σ) h
theorem dr_method {pl : Sem Bool} {Q : Value × List Value → Shared → Prop} {f : Addr} {name : Str} {l : List Nat} {x : Addr} (F : Fr h₀ L s.heap m) (X : (Mine.hd.heap_1 w.params).In h₀) (N : News h₀ L s.heap nx) (H : DraftAt w T nx (.ref x) (some l))
    (hg : plainGet (Mine.hd.heap_1 w.params) 73 name = true) (hf : findIn (Mine.hd.heap_1 w.params) (.ref 73) name = some (some (.ref f))) (ht : isFn (Mine.hd.heap_1 w.params) (.ref f) = true) (hl : ∀ k tk al, getL name (drE w k l tk al) = some none)
    (h : Q (.ref f, [.ref x]) s) : wpAny (model prog w) A (getMethod (.ref x) name pl) Q E s := by
  obtain ⟨dx, al, k, tk, n, I⟩ := H.instD N
  exact method_inst F X I hg hf ht (hl k tk al) h

theorem TokX.dt_put {d' : D} {dv' : Value} {es0 : List DictEntry} {n9 : Nat} (σ' : TokS) {ks : Obj} {m1 m2 : Nat} (N : News h₀ L s.heap nx) (kp : Keep T n0 nx) (nd : T.all.Nodup) (m3 : StsOk w T.sts ks) (a1 : (T.t, instObj 436 T.dt) ∈ nx) (a2 : (T.dt, dictOf es0 n9) ∈ nx) (a3 : (T.st, instObj 273 T.ds) ∈ nx) (a4 : (T.ds, dictOf (strE w T d' σ') m2) ∈ nx) (a5 : (T.sg, listOf σ'.sgv.toArray σ'.n1) ∈ nx) (a6 : (T.se, listOf σ'.sev.toArray σ'.n2) ∈ nx) (a7 : (T.ou, listOf σ'.ouv.toArray σ'.n3) ∈ nx) (a8 : (T.er, listOf σ'.erv.toArray σ'.n4) ∈ nx) (a9 : (T.sts, ks) ∈ nx)
    (b1 : SignsAre σ'.sgv d'.xs) (b2 : RowsAre nx σ'.sev d'.serr) (b3 : RowsAre nx σ'.ouv d'.out) (b4 : RowsAre nx σ'.erv d'.errs) (dr : DraftAt w T (put nx T.dt (dictOf (tokE w T d' dv' σ') m1)) dv' d'.draft) : TokX w T n0 d' dv' (put nx T.dt (dictOf (tokE w T d' dv' σ') m1)) :=
  ⟨kp.trans (KeepA.keep (KeepA.put (by simp [TA.all]))), nd, ⟨σ', ks, m1, m2, m3, mem_put a1 (ne_at nd 0 1 rfl rfl (by decide)), mem_put_self, mem_put a3 (ne_at nd 2 1 rfl rfl (by decide)), mem_put a4 (ne_at nd 3 1 rfl rfl (by decide)), mem_put a5 (ne_at nd 4 1 rfl rfl (by decide)), mem_put a6 (ne_at nd 5 1 rfl rfl (by decide)), mem_put a7 (ne_at nd 6 1 rfl rfl (by decide)), mem_put a8 (ne_at nd 7 1 rfl rfl (by decide)), mem_put a9 (ne_at nd 8 1 rfl rfl (by decide)), b1, b2.put N a2 dict_nt, b3.put N a2 dict_nt, b4.put N a2 dict_nt⟩, dr⟩

theorem TokX.ds_put {d' : D} {dv' : Value} {es0 : List DictEntry} {n9 : Nat} (σ' : TokS) {ks : Obj} {m1 m2 : Nat} (N : News h₀ L s.heap nx) (kp : Keep T n0 nx) (nd : T.all.Nodup) (m3 : StsOk w T.sts ks) (a1 : (T.t, instObj 436 T.dt) ∈ nx) (a2 : (T.dt, dictOf (tokE w T d' dv' σ') m1) ∈ nx) (a3 : (T.st, instObj 273 T.ds) ∈ nx) (a4 : (T.ds, dictOf es0 n9) ∈ nx) (a5 : (T.sg, listOf σ'.sgv.toArray σ'.n1) ∈ nx) (a6 : (T.se, listOf σ'.sev.toArray σ'.n2) ∈ nx) (a7 : (T.ou, listOf σ'.ouv.toArray σ'.n3) ∈ nx) (a8 : (T.er, listOf σ'.erv.toArray σ'.n4) ∈ nx) (a9 : (T.sts, ks) ∈ nx)
    (b1 : SignsAre σ'.sgv d'.xs) (b2 : RowsAre nx σ'.sev d'.serr) (b3 : RowsAre nx σ'.ouv d'.out) (b4 : RowsAre nx σ'.erv d'.errs) (dr : DraftAt w T (put nx T.ds (dictOf (strE w T d' σ') m2)) dv' d'.draft) : TokX w T n0 d' dv' (put nx T.ds (dictOf (strE w T d' σ') m2)) :=
  ⟨kp.trans (KeepA.keep (KeepA.put (by simp [TA.all]))), nd, ⟨σ', ks, m1, m2, m3, mem_put a1 (ne_at nd 0 3 rfl rfl (by decide)), mem_put a2 (ne_at nd 1 3 rfl rfl (by decide)), mem_put a3 (ne_at nd 2 3 rfl rfl (by decide)), mem_put_self, mem_put a5 (ne_at nd 4 3 rfl rfl (by decide)), mem_put a6 (ne_at nd 5 3 rfl rfl (by decide)), mem_put a7 (ne_at nd 6 3 rfl rfl (by decide)), mem_put a8 (ne_at nd 7 3 rfl rfl (by decide)), mem_put a9 (ne_at nd 8 3 rfl rfl (by decide)), b1, b2.put N a4 dict_nt, b3.put N a4 dict_nt, b4.put N a4 dict_nt⟩, dr⟩

theorem set_at {i : Int} {k : Nat} {u : Tok} {Q : Unit → Shared → Prop} (F : Fr h₀ L s.heap m) (X : (Mine.hd.heap_1 w.params).In h₀) (N : News h₀ L s.heap nx) (H : TokX w T n0 d dv nx) (e : i = (k : Int))
    (h : ∀ h' nx', Fr h₀ L h' m → News h₀ L h' nx' → TokX w T n0 { d with at_ := k } dv nx' → KeepA T nx nx' → Q () { s with heap := h', toks := s.toks + 2 }) :
    wpAny (model prog w) A (setAttr (.ref T.t) "at" (.int i u)) Q E s := by
  subst e
  obtain ⟨kp, nd, ⟨σ, ks, m1, m2, m3, a1, a2, a3, a4, a5, a6, a7, a8, a9, b1, b2, b3, b4⟩, dr⟩ := H
  refine' set_gen F X N a1 a2 ?a ?b ?c ?d ?e (es' := (tokE w T { d with at_ := k } dv { σ with atk := u })) (n' := m1) ?f ?g (fun h' F' N' => h h' _ F' N' ?k (KeepA.put (by simp [TA.all])))
  case a => k_is
  case b => k_is
  case c => k_is
  case d => k_is
  case e => rfl
  case f => rfl
  case g => exact Nat.le_of_ble_eq_true rfl
  case k =>
    exact TokX.dt_put { σ with atk := u } N kp nd m3 a1 a2 a3 a4 a5 a6 a7 a8 a9 b1 b2 b3 b4 (DraftAt.put (by simp [TA.all]) dr)

theorem set_state {x : Str} {u : Tok} {Q : Unit → Shared → Prop} (F : Fr h₀ L s.heap m) (X : (Mine.hd.heap_1 w.params).In h₀) (N : News h₀ L s.heap nx) (H : TokX w T n0 d dv nx) 
    (h : ∀ h' nx', Fr h₀ L h' m → News h₀ L h' nx' → TokX w T n0 { d with state := x } dv nx' → KeepA T nx nx' → Q () { s with heap := h', toks := s.toks + 2 }) :
    wpAny (model prog w) A (setAttr (.ref T.t) "state" (.str x u)) Q E s := by
  skip
  obtain ⟨kp, nd, ⟨σ, ks, m1, m2, m3, a1, a2, a3, a4, a5, a6, a7, a8, a9, b1, b2, b3, b4⟩, dr⟩ := H
  refine' set_gen F X N a1 a2 ?a ?b ?c ?d ?e (es' := (tokE w T { d with state := x } dv { σ with stk := u })) (n' := m1) ?f ?g (fun h' F' N' => h h' _ F' N' ?k (KeepA.put (by simp [TA.all])))
  case a => k_is
  case b => k_is
  case c => k_is
  case d => k_is
  case e => rfl
  case f => rfl
  case g => exact Nat.le_of_ble_eq_true rfl
  case k =>
    exact TokX.dt_put { σ with stk := u } N kp nd m3 a1 a2 a3 a4 a5 a6 a7 a8 a9 b1 b2 b3 b4 (DraftAt.put (by simp [TA.all]) dr)

theorem set_waiting {b : Bool} {Q : Unit → Shared → Prop} (F : Fr h₀ L s.heap m) (X : (Mine.hd.heap_1 w.params).In h₀) (N : News h₀ L s.heap nx) (H : TokX w T n0 d dv nx) 
    (h : ∀ h' nx', Fr h₀ L h' m → News h₀ L h' nx' → TokX w T n0 { d with waiting := b } dv nx' → KeepA T nx nx' → Q () { s with heap := h', toks := s.toks + 2 }) :
    wpAny (model prog w) A (setAttr (.ref T.t) "is_waiting" (.bool b)) Q E s := by
  skip
  obtain ⟨kp, nd, ⟨σ, ks, m1, m2, m3, a1, a2, a3, a4, a5, a6, a7, a8, a9, b1, b2, b3, b4⟩, dr⟩ := H
  refine' set_gen F X N a1 a2 ?a ?b ?c ?d ?e (es' := (tokE w T { d with waiting := b } dv σ)) (n' := m1) ?f ?g (fun h' F' N' => h h' _ F' N' ?k (KeepA.put (by simp [TA.all])))
  case a => k_is
  case b => k_is
  case c => k_is
  case d => k_is
  case e => rfl
  case f => rfl
  case g => exact Nat.le_of_ble_eq_true rfl
  case k =>
    exact TokX.dt_put σ N kp nd m3 a1 a2 a3 a4 a5 a6 a7 a8 a9 b1 b2 b3 b4 (DraftAt.put (by simp [TA.all]) dr)

theorem set_done {b : Bool} {Q : Unit → Shared → Prop} (F : Fr h₀ L s.heap m) (X : (Mine.hd.heap_1 w.params).In h₀) (N : News h₀ L s.heap nx) (H : TokX w T n0 d dv nx) 
    (h : ∀ h' nx', Fr h₀ L h' m → News h₀ L h' nx' → TokX w T n0 { d with done := b } dv nx' → KeepA T nx nx' → Q () { s with heap := h', toks := s.toks + 2 }) :
    wpAny (model prog w) A (setAttr (.ref T.t) "is_done" (.bool b)) Q E s := by
  skip
  obtain ⟨kp, nd, ⟨σ, ks, m1, m2, m3, a1, a2, a3, a4, a5, a6, a7, a8, a9, b1, b2, b3, b4⟩, dr⟩ := H
  refine' set_gen F X N a1 a2 ?a ?b ?c ?d ?e (es' := (tokE w T { d with done := b } dv σ)) (n' := m1) ?f ?g (fun h' F' N' => h h' _ F' N' ?k (KeepA.put (by simp [TA.all])))
  case a => k_is
  case b => k_is
  case c => k_is
  case d => k_is
  case e => rfl
  case f => rfl
  case g => exact Nat.le_of_ble_eq_true rfl
  case k =>
    exact TokX.dt_put σ N kp nd m3 a1 a2 a3 a4 a5 a6 a7 a8 a9 b1 b2 b3 b4 (DraftAt.put (by simp [TA.all]) dr)

theorem set_foreign {b : Bool} {Q : Unit → Shared → Prop} (F : Fr h₀ L s.heap m) (X : (Mine.hd.heap_1 w.params).In h₀) (N : News h₀ L s.heap nx) (H : TokX w T n0 d dv nx) 
    (h : ∀ h' nx', Fr h₀ L h' m → News h₀ L h' nx' → TokX w T n0 { d with foreign := b } dv nx' → KeepA T nx nx' → Q () { s with heap := h', toks := s.toks + 2 }) :
    wpAny (model prog w) A (setAttr (.ref T.t) "is_foreign" (.bool b)) Q E s := by
  skip
  obtain ⟨kp, nd, ⟨σ, ks, m1, m2, m3, a1, a2, a3, a4, a5, a6, a7, a8, a9, b1, b2, b3, b4⟩, dr⟩ := H
  refine' set_gen F X N a1 a2 ?a ?b ?c ?d ?e (es' := (tokE w T { d with foreign := b } dv σ)) (n' := m1) ?f ?g (fun h' F' N' => h h' _ F' N' ?k (KeepA.put (by simp [TA.all])))
  case a => k_is
  case b => k_is
  case c => k_is
  case d => k_is
  case e => rfl
  case f => rfl
  case g => exact Nat.le_of_ble_eq_true rfl
  case k =>
    exact TokX.dt_put σ N kp nd m3 a1 a2 a3 a4 a5 a6 a7 a8 a9 b1 b2 b3 b4 (DraftAt.put (by simp [TA.all]) dr)

theorem set_closed {b : Bool} {Q : Unit → Shared → Prop} (F : Fr h₀ L s.heap m) (X : (Mine.hd.heap_1 w.params).In h₀) (N : News h₀ L s.heap nx) (H : TokX w T n0 d dv nx) 
    (h : ∀ h' nx', Fr h₀ L h' m → News h₀ L h' nx' → TokX w T n0 { d with closed := b } dv nx' → KeepA T nx nx' → Q () { s with heap := h', toks := s.toks + 2 }) :
    wpAny (model prog w) A (setAttr (.ref T.st) "is_closed" (.bool b)) Q E s := by
  skip
  obtain ⟨kp, nd, ⟨σ, ks, m1, m2, m3, a1, a2, a3, a4, a5, a6, a7, a8, a9, b1, b2, b3, b4⟩, dr⟩ := H
  refine' set_gen F X N a3 a4 ?a ?b ?c ?d ?e (es' := (strE w T { d with closed := b } σ)) (n' := m2) ?f ?g (fun h' F' N' => h h' _ F' N' ?k (KeepA.put (by simp [TA.all])))
  case a => k_is
  case b => k_is
  case c => k_is
  case d => k_is
  case e => rfl
  case f => rfl
  case g => exact Nat.le_of_ble_eq_true rfl
  case k =>
    exact TokX.ds_put σ N kp nd m3 a1 a2 a3 a4 a5 a6 a7 a8 a9 b1 b2 b3 b4 (DraftAt.put (by simp [TA.all]) dr)

theorem set_return {b : Bool} {Q : Unit → Shared → Prop} (F : Fr h₀ L s.heap m) (X : (Mine.hd.heap_1 w.params).In h₀) (N : News h₀ L s.heap nx) (H : TokX w T n0 d dv nx) 
    (h : ∀ h' nx', Fr h₀ L h' m → News h₀ L h' nx' → TokX w T n0 { d with ret := b } dv nx' → KeepA T nx nx' → Q () { s with heap := h', toks := s.toks + 2 }) :
    wpAny (model prog w) A (setAttr (.ref T.st) "is_return" (.bool b)) Q E s := by
  skip
  obtain ⟨kp, nd, ⟨σ, ks, m1, m2, m3, a1, a2, a3, a4, a5, a6, a7, a8, a9, b1, b2, b3, b4⟩, dr⟩ := H
  refine' set_gen F X N a3 a4 ?a ?b ?c ?d ?e (es' := (strE w T { d with ret := b } σ)) (n' := m2) ?f ?g (fun h' F' N' => h h' _ F' N' ?k (KeepA.put (by simp [TA.all])))
  case a => k_is
  case b => k_is
  case c => k_is
  case d => k_is
  case e => rfl
  case f => rfl
  case g => exact Nat.le_of_ble_eq_true rfl
  case k =>
    exact TokX.ds_put σ N kp nd m3 a1 a2 a3 a4 a5 a6 a7 a8 a9 b1 b2 b3 b4 (DraftAt.put (by simp [TA.all]) dr)

theorem set_draft_none  {Q : Unit → Shared → Prop} (F : Fr h₀ L s.heap m) (X : (Mine.hd.heap_1 w.params).In h₀) (N : News h₀ L s.heap nx) (H : TokX w T n0 d dv nx) 
    (h : ∀ h' nx', Fr h₀ L h' m → News h₀ L h' nx' → TokX w T n0 { d with draft := none } .none nx' → KeepA T nx nx' → Q () { s with heap := h', toks := s.toks + 2 }) :
    wpAny (model prog w) A (setAttr (.ref T.t) "draft" .none) Q E s := by
  skip
  obtain ⟨kp, nd, ⟨σ, ks, m1, m2, m3, a1, a2, a3, a4, a5, a6, a7, a8, a9, b1, b2, b3, b4⟩, dr⟩ := H
  refine' set_gen F X N a1 a2 ?a ?b ?c ?d ?e (es' := (tokE w T { d with draft := none } .none σ)) (n' := m1) ?f ?g (fun h' F' N' => h h' _ F' N' ?k (KeepA.put (by simp [TA.all])))
  case a => k_is
  case b => k_is
  case c => k_is
  case d => k_is
  case e => rfl
  case f => rfl
  case g => exact Nat.le_of_ble_eq_true rfl
  case k =>
    exact TokX.dt_put σ N kp nd m3 a1 a2 a3 a4 a5 a6 a7 a8 a9 b1 b2 b3 b4 (rfl)

theorem set_draft {y : Addr} {l : List Nat} {Q : Unit → Shared → Prop} (F : Fr h₀ L s.heap m) (X : (Mine.hd.heap_1 w.params).In h₀) (N : News h₀ L s.heap nx) (H : TokX w T n0 d dv nx) (hy : DraftAt w T nx (.ref y) (some l))
    (h : ∀ h' nx', Fr h₀ L h' m → News h₀ L h' nx' → TokX w T n0 { d with draft := some l } (.ref y) nx' → KeepA T nx nx' → Q () { s with heap := h', toks := s.toks + 2 }) :
    wpAny (model prog w) A (setAttr (.ref T.t) "draft" (.ref y)) Q E s := by
  skip
  obtain ⟨kp, nd, ⟨σ, ks, m1, m2, m3, a1, a2, a3, a4, a5, a6, a7, a8, a9, b1, b2, b3, b4⟩, dr⟩ := H
  refine' set_gen F X N a1 a2 ?a ?b ?c ?d ?e (es' := (tokE w T { d with draft := some l } (.ref y) σ)) (n' := m1) ?f ?g (fun h' F' N' => h h' _ F' N' ?k (KeepA.put (by simp [TA.all])))
  case a => k_is
  case b => k_is
  case c => k_is
  case d => k_is
  case e => rfl
  case f => rfl
  case g => exact Nat.le_of_ble_eq_true rfl
  case k =>
    exact TokX.dt_put σ N kp nd m3 a1 a2 a3 a4 a5 a6 a7 a8 a9 b1 b2 b3 b4 (DraftAt.put (q := some l) (by simp [TA.all]) hy)

theorem app_er {Q : Value → Shared → Prop} {v : Value} {r : List Dat} (F : Fr h₀ L s.heap m) (N : News h₀ L s.heap nx) (H : TokX w T n0 d dv nx) (hv : RowIs nx v r) (hz : d.errs.length ≤ 1000000)
    (h : ∀ h' nx', Fr h₀ L h' m → News h₀ L h' nx' → TokX w T n0 { d with errs := d.errs ++ [r] } dv nx' → KeepA T nx nx' → Q .none { s with heap := h' }) :
    wpAny (model prog w) A (call (.builtin "list.append") [.ref T.er, v]) Q E s := by
  skip
  obtain ⟨kp, nd, ⟨σ, ks, m1, m2, m3, a1, a2, a3, a4, a5, a6, a7, a8, a9, b1, b2, b3, b4⟩, dr⟩ := H
  refine app_gen F N a8 (by rw [b4.length]; exact hz) (fun h' F' N' => h h' _ F' N' ?k (KeepA.put (by simp [TA.all])))
  refine ⟨kp.trans (KeepA.keep (KeepA.put (by simp [TA.all]))), nd, ⟨{ σ with erv := σ.erv ++ [v], n4 := σ.n4 + 1 }, ks, m1, m2, m3, mem_put a1 (ne_at nd 0 7 rfl rfl (by decide)), mem_put a2 (ne_at nd 1 7 rfl rfl (by decide)), mem_put a3 (ne_at nd 2 7 rfl rfl (by decide)), mem_put a4 (ne_at nd 3 7 rfl rfl (by decide)), mem_put a5 (ne_at nd 4 7 rfl rfl (by decide)), mem_put a6 (ne_at nd 5 7 rfl rfl (by decide)), mem_put a7 (ne_at nd 6 7 rfl rfl (by decide)), mem_put_self, mem_put a9 (ne_at nd 8 7 rfl rfl (by decide)), b1, (b2.put N a8 list_nt), (b3.put N a8 list_nt), (b4.put N a8 list_nt).snoc (hv.put N a8 list_nt)⟩, ?_⟩
  exact DraftAt.put (by simp [TA.all]) dr

theorem app_ou {Q : Value → Shared → Prop} {v : Value} {r : List Dat} (F : Fr h₀ L s.heap m) (N : News h₀ L s.heap nx) (H : TokX w T n0 d dv nx) (hv : RowIs nx v r) (hz : d.out.length ≤ 1000000)
    (h : ∀ h' nx', Fr h₀ L h' m → News h₀ L h' nx' → TokX w T n0 { d with out := d.out ++ [r] } dv nx' → KeepA T nx nx' → Q .none { s with heap := h' }) :
    wpAny (model prog w) A (call (.builtin "list.append") [.ref T.ou, v]) Q E s := by
  skip
  obtain ⟨kp, nd, ⟨σ, ks, m1, m2, m3, a1, a2, a3, a4, a5, a6, a7, a8, a9, b1, b2, b3, b4⟩, dr⟩ := H
  refine app_gen F N a7 (by rw [b3.length]; exact hz) (fun h' F' N' => h h' _ F' N' ?k (KeepA.put (by simp [TA.all])))
  refine ⟨kp.trans (KeepA.keep (KeepA.put (by simp [TA.all]))), nd, ⟨{ σ with ouv := σ.ouv ++ [v], n3 := σ.n3 + 1 }, ks, m1, m2, m3, mem_put a1 (ne_at nd 0 6 rfl rfl (by decide)), mem_put a2 (ne_at nd 1 6 rfl rfl (by decide)), mem_put a3 (ne_at nd 2 6 rfl rfl (by decide)), mem_put a4 (ne_at nd 3 6 rfl rfl (by decide)), mem_put a5 (ne_at nd 4 6 rfl rfl (by decide)), mem_put a6 (ne_at nd 5 6 rfl rfl (by decide)), mem_put_self, mem_put a8 (ne_at nd 7 6 rfl rfl (by decide)), mem_put a9 (ne_at nd 8 6 rfl rfl (by decide)), b1, (b2.put N a7 list_nt), (b3.put N a7 list_nt).snoc (hv.put N a7 list_nt), (b4.put N a7 list_nt)⟩, ?_⟩
  exact DraftAt.put (by simp [TA.all]) dr

theorem app_se {Q : Value → Shared → Prop} {v : Value} {r : List Dat} (F : Fr h₀ L s.heap m) (N : News h₀ L s.heap nx) (H : TokX w T n0 d dv nx) (hv : RowIs nx v r) (hz : d.serr.length ≤ 1000000)
    (h : ∀ h' nx', Fr h₀ L h' m → News h₀ L h' nx' → TokX w T n0 { d with serr := d.serr ++ [r] } dv nx' → KeepA T nx nx' → Q .none { s with heap := h' }) :
    wpAny (model prog w) A (call (.builtin "list.append") [.ref T.se, v]) Q E s := by
  skip
  obtain ⟨kp, nd, ⟨σ, ks, m1, m2, m3, a1, a2, a3, a4, a5, a6, a7, a8, a9, b1, b2, b3, b4⟩, dr⟩ := H
  refine app_gen F N a6 (by rw [b2.length]; exact hz) (fun h' F' N' => h h' _ F' N' ?k (KeepA.put (by simp [TA.all])))
  refine ⟨kp.trans (KeepA.keep (KeepA.put (by simp [TA.all]))), nd, ⟨{ σ with sev := σ.sev ++ [v], n2 := σ.n2 + 1 }, ks, m1, m2, m3, mem_put a1 (ne_at nd 0 5 rfl rfl (by decide)), mem_put a2 (ne_at nd 1 5 rfl rfl (by decide)), mem_put a3 (ne_at nd 2 5 rfl rfl (by decide)), mem_put a4 (ne_at nd 3 5 rfl rfl (by decide)), mem_put a5 (ne_at nd 4 5 rfl rfl (by decide)), mem_put_self, mem_put a7 (ne_at nd 6 5 rfl rfl (by decide)), mem_put a8 (ne_at nd 7 5 rfl rfl (by decide)), mem_put a9 (ne_at nd 8 5 rfl rfl (by decide)), b1, (b2.put N a6 list_nt).snoc (hv.put N a6 list_nt), (b3.put N a6 list_nt), (b4.put N a6 list_nt)⟩, ?_⟩
  exact DraftAt.put (by simp [TA.all]) dr

theorem app_sg {Q : Value → Shared → Prop} {c : Nat} {x : Str} {u : Tok} (F : Fr h₀ L s.heap m) (N : News h₀ L s.heap nx) (H : TokX w T n0 d dv nx) (hx : x = S [c]) (hz : d.xs.length ≤ 1000000)
    (h : ∀ h' nx', Fr h₀ L h' m → News h₀ L h' nx' → TokX w T n0 { d with xs := d.xs ++ [c] } dv nx' → KeepA T nx nx' → Q .none { s with heap := h' }) :
    wpAny (model prog w) A (call (.builtin "list.append") [.ref T.sg, .str x u]) Q E s := by
  subst hx
  obtain ⟨kp, nd, ⟨σ, ks, m1, m2, m3, a1, a2, a3, a4, a5, a6, a7, a8, a9, b1, b2, b3, b4⟩, dr⟩ := H
  refine app_gen F N a5 (by rw [b1.length]; exact hz) (fun h' F' N' => h h' _ F' N' ?k (KeepA.put (by simp [TA.all])))
  refine ⟨kp.trans (KeepA.keep (KeepA.put (by simp [TA.all]))), nd, ⟨{ σ with sgv := σ.sgv ++ [.str (S [c]) u], n1 := σ.n1 + 1 }, ks, m1, m2, m3, mem_put a1 (ne_at nd 0 4 rfl rfl (by decide)), mem_put a2 (ne_at nd 1 4 rfl rfl (by decide)), mem_put a3 (ne_at nd 2 4 rfl rfl (by decide)), mem_put a4 (ne_at nd 3 4 rfl rfl (by decide)), mem_put_self, mem_put a6 (ne_at nd 5 4 rfl rfl (by decide)), mem_put a7 (ne_at nd 6 4 rfl rfl (by decide)), mem_put a8 (ne_at nd 7 4 rfl rfl (by decide)), mem_put a9 (ne_at nd 8 4 rfl rfl (by decide)), b1.snoc, (b2.put N a5 list_nt), (b3.put N a5 list_nt), (b4.put N a5 list_nt)⟩, ?_⟩
  exact DraftAt.put (by simp [TA.all]) dr

theorem setd_text {Q : Unit → Shared → Prop} {l l' : List Nat} {x : Addr} {y : Str} {u : Tok} (F : Fr h₀ L s.heap m) (X : (Mine.hd.heap_1 w.params).In h₀) (N : News h₀ L s.heap nx) (H : TokX w T n0 d (.ref x) nx) (hd : d.draft = some l) (hy : y = S l')
    (h : ∀ h' nx', Fr h₀ L h' m → News h₀ L h' nx' → TokX w T n0 { d with draft := some l' } (.ref x) nx' → Q () { s with heap := h', toks := s.toks + 2 }) :
    wpAny (model prog w) A (setAttr (.ref x) "text" (.str y u)) Q E s := by
  subst hy
  obtain ⟨kp, nd, ⟨σ, ks, m1, m2, m3, a1, a2, a3, a4, a5, a6, a7, a8, a9, b1, b2, b3, b4⟩, dr⟩ := H
  rw [hd] at dr
  obtain ⟨x', dx, al, k, tk, n, e, c1, c2, q1, q2⟩ := dr
  cases e
  have nn : ∀ b ∈ T.all, b ≠ dx := fun b hb q => q2 (q ▸ hb)
  refine' set_gen F X N c1 c2 ?a ?b ?c ?d ?e (es' := drE w k l' u al) (n' := n) ?f ?g (fun h' F' N' => h h' _ F' N' ?k)
  case a => k_is
  case b => k_is
  case c => k_is
  case d => k_is
  case e => rfl
  case f => rfl
  case g => exact Nat.le_of_ble_eq_true rfl
  case k =>
    have kk : Keep T nx (put nx dx (dictOf (drE w k l' u al) n)) := by
      intro p hp n q
      refine mem_put (o' := p.2) (b := p.1) hp fun e => q ?_
      have e2 : p.2 = dictOf (drE w k l tk al) _ := News.inj (a := dx) N (show (dx, p.2) ∈ nx from e ▸ hp) c2
      rw [e2]
    refine ⟨kp.trans kk, nd, ⟨σ, ks, m1, m2, m3, mem_put a1 (nn _ (by simp [TA.all])), mem_put a2 (nn _ (by simp [TA.all])), mem_put a3 (nn _ (by simp [TA.all])), mem_put a4 (nn _ (by simp [TA.all])), mem_put a5 (nn _ (by simp [TA.all])), mem_put a6 (nn _ (by simp [TA.all])), mem_put a7 (nn _ (by simp [TA.all])), mem_put a8 (nn _ (by simp [TA.all])), mem_put a9 (nn _ (by simp [TA.all])), b1, b2.put N c2 dict_nt, b3.put N c2 dict_nt, b4.put N c2 dict_nt⟩, ?_⟩
    refine ⟨x, dx, al, k, u, n, rfl, mem_put c1 fun e => ?_, mem_put_self, q1, q2⟩
    subst e
    have := News.inj N c1 c2
    cases this

theorem len_sg {Q : Value → Shared → Prop} (N : News h₀ L s.heap nx) (H : TokX w T n0 d dv nx) (hz : d.xs.length ≤ 1000000) (h : Q (.int d.xs.length (s.toks + 1)) { s with toks := s.toks + 1 + 1 }) :
    wpAny (model prog w) A (call (.builtin "len") [.ref T.sg]) Q E s := by
  obtain ⟨kp, nd, ⟨σ, ks, m1, m2, m3, a1, a2, a3, a4, a5, a6, a7, a8, a9, b1, b2, b3, b4⟩, dr⟩ := H
  have e : (σ.sgv.toArray.size : Int) = d.xs.length := by rw [List.size_toArray, b1.length]
  refine len_list ⟨_, (N _ a5).1, rfl, _, rfl⟩ (by rw [e]; omega) ?_
  rw [e]; exact h
theorem item_sg {value slice : PySem.Expr} {k : Int} {u : Tok} {i : Nat} {Q : Value → Shared → Prop} (N : News h₀ L s.heap nx) (H : TokX w T n0 d dv nx) (hk : k = (i : Int)) (hi : i < d.xs.length) (hz : d.xs.length ≤ 1000000) (h : ∀ c u, d.xs[i]? = some c → Q (.str (S [c]) u) s)
    (hs : subscripted slice false (.ref T.sg) (.int k u) = operate [.ref T.sg, .int k u] (getItem (.ref T.sg) (.int k u)) := by with_unfolding_all rfl) :
    wpAny (model prog w) A (subscriptTail value slice (.ref T.sg) (.int k u)) Q E s := by
  obtain ⟨kp, nd, ⟨σ, ks, m1, m2, m3, a1, a2, a3, a4, a5, a6, a7, a8, a9, b1, b2, b3, b4⟩, dr⟩ := H
  subst hk
  obtain ⟨u', hu⟩ := b1.get (List.getElem?_eq_getElem hi)
  have hl : s.heap.IsList T.sg σ.sgv.toArray := ⟨_, (N _ a5).1, rfl, _, rfl⟩
  exact tail_any hl.typeIs slot_list_getitem.lookup (wpAny_getItem_list hl (by omega) (by omega) (by simpa using hu) (h _ _ (List.getElem?_eq_getElem hi))) hs
theorem app_method {a : Addr} {its : Array Value} {n : Nat} {pl : Sem Bool} {Q : Value × List Value → Shared → Prop} (N : News h₀ L s.heap nx) (ma : (a, listOf its n) ∈ nx) (h : Q (.builtin "list.append", [.ref a]) s) : wpAny (model prog w) A (getMethod (.ref a) "append" pl) Q E s :=
  getMethod_append_N N ma h
theorem app_method_er {pl : Sem Bool} {Q : Value × List Value → Shared → Prop} (N : News h₀ L s.heap nx) (H : TokX w T n0 d dv nx) (h : Q (.builtin "list.append", [.ref T.er]) s) : wpAny (model prog w) A (getMethod (.ref T.er) "append" pl) Q E s := by
  obtain ⟨kp, nd, ⟨σ, ks, m1, m2, m3, a1, a2, a3, a4, a5, a6, a7, a8, a9, b1, b2, b3, b4⟩, dr⟩ := H
  exact getMethod_append_N N a8 h
theorem app_method_ou {pl : Sem Bool} {Q : Value × List Value → Shared → Prop} (N : News h₀ L s.heap nx) (H : TokX w T n0 d dv nx) (h : Q (.builtin "list.append", [.ref T.ou]) s) : wpAny (model prog w) A (getMethod (.ref T.ou) "append" pl) Q E s := by
  obtain ⟨kp, nd, ⟨σ, ks, m1, m2, m3, a1, a2, a3, a4, a5, a6, a7, a8, a9, b1, b2, b3, b4⟩, dr⟩ := H
  exact getMethod_append_N N a7 h
theorem app_method_se {pl : Sem Bool} {Q : Value × List Value → Shared → Prop} (N : News h₀ L s.heap nx) (H : TokX w T n0 d dv nx) (h : Q (.builtin "list.append", [.ref T.se]) s) : wpAny (model prog w) A (getMethod (.ref T.se) "append" pl) Q E s := by
  obtain ⟨kp, nd, ⟨σ, ks, m1, m2, m3, a1, a2, a3, a4, a5, a6, a7, a8, a9, b1, b2, b3, b4⟩, dr⟩ := H
  exact getMethod_append_N N a6 h
theorem app_method_sg {pl : Sem Bool} {Q : Value × List Value → Shared → Prop} (N : News h₀ L s.heap nx) (H : TokX w T n0 d dv nx) (h : Q (.builtin "list.append", [.ref T.sg]) s) : wpAny (model prog w) A (getMethod (.ref T.sg) "append" pl) Q E s := by
  obtain ⟨kp, nd, ⟨σ, ks, m1, m2, m3, a1, a2, a3, a4, a5, a6, a7, a8, a9, b1, b2, b3, b4⟩, dr⟩ := H
  exact getMethod_append_N N a5 h

theorem Claim.use {mean : ExcName → Option Value} {mg mb : Str → Option Value} {k : Nat} {f : Addr} {args : List Value} {R : Value → Led → Prop} {dp un : Nat} {gd : Option (List Code)} {cn : Str} {cs : Scope} {a : Addr} {ccd : Value} {cl : List (Str × Addr)} {outer : List Env} {A₀ : Around} {base : Heap} {Q : Value → Shared → Prop}
    (C : Claim prog w mean mg mb k f nx args R) (B : Below A₀ base outer h₀) (F : Fr h₀ L s.heap m) (X : (Mine.hd.heap_1 w.params).In h₀) (N : News h₀ L s.heap nx) (Tp : Top Mine.vw (looseW Mine.vw []) mean mg mb h₀) (hk : cs.kind = .function)
    (hd : dp + k < recursionLimit) (hu : un + 16 * k < cLine) (h : ∀ v nx' h' tk, R v nx' → Fr h₀ L h' m → News h₀ L h' nx' → Q v { s with heap := h', toks := tk }) :
    wpAny (model prog w) (ktrTop dp un gd cn cs L a ccd cl outer) (call (.ref f) args) Q E s := C _ _ _ _ _ _ _ _ _ _ _ _ _ _ _ _ _ B F X N Tp hk hd hu h
end
end A2

section L1
open PySem PySem.W PyProof.Rows PySem.Calls
set_option maxRecDepth 100000
set_option maxHeartbeats 4000000

noncomputable def IterObj (o : Obj) : Prop := o.cls = .type "str_ascii_iterator" ∨ o.cls = .type "str_iterator" ∨ o.cls = .type "range_iterator" ∨ o.cls = .type "list_iterator"
noncomputable def dropA (nx : Led) (I : Addr) : Led := nx.filter (fun p => decide (p.1 ≠ I))
theorem mem_dropA {nx : Led} {I : Addr} {p : Addr × Obj} : p ∈ dropA nx I ↔ p ∈ nx ∧ p.1 ≠ I := by simp [dropA]

/-- what a turn of a loop over the iterator at `I` leaves -/
noncomputable def TurnPost (h₀ : Heap) (L I : Addr) (oI : Obj) (exO : Led) (J : (Str → Option Value) → Led → Prop) (s : Shared) (Q : Flow → Shared → Prop) (f : Flow) (s₂ : Shared) : Prop :=
  match f with
  | .ret v => Q (.ret v) s₂
  | .brk => Q .next s₂
  | _ => ∃ h' tk' m' nx', s₂ = { s with heap := h', toks := tk' } ∧ Fr h₀ L h' m' ∧ News h₀ L h' ((I, oI) :: nx') ∧ (∀ p ∈ nx', p.1 ≠ I) ∧ (∀ p ∈ exO, p ∈ nx') ∧ J m' nx'

theorem turnPost_ret {h₀ : Heap} {L I : Addr} {oI : Obj} {exO : Led} {J : (Str → Option Value) → Led → Prop} {s s₂ : Shared} {Q : Flow → Shared → Prop} {v : Value} (h : Q (.ret v) s₂) : TurnPost h₀ L I oI exO J s Q (.ret v) s₂ := h
theorem turnPost_next {h₀ h' : Heap} {L I : Addr} {oI : Obj} {exO nx' : Led} {J : (Str → Option Value) → Led → Prop} {s : Shared} {Q : Flow → Shared → Prop} {m' : Str → Option Value} {tk : Tok} (F : Fr h₀ L h' m') (N : News h₀ L h' ((I, oI) :: nx')) (hne : ∀ p ∈ nx', p.1 ≠ I) (hx : ∀ p ∈ exO, p ∈ nx') (hj : J m' nx') :
    TurnPost h₀ L I oI exO J s Q .next { s with heap := h', toks := tk } := ⟨h', tk, m', nx', rfl, F, N, hne, hx, hj⟩
section
variable {prog : Program} {w : World} {A : Around} {E : Value → Shared → Prop} {s : Shared} {env : Env} {h₀ : Heap} {x : Str} {body : List Stmt} {Q : Flow → Shared → Prop}

theorem loop_gen {I : Addr} {ex : List Addr} {exO : Led} {n : Nat} {P : Nat → Value → Prop} {St : Nat → Heap → Prop} {m₀ : Str → Option Value} {nx : Led} (J : Nat → (Str → Option Value) → Led → Prop)
    (W : Walks prog w A I (I :: ex) [I] n P St) (hcls : ∀ i h, St i h → ∃ o, h.get? I = some o ∧ IterObj o) (hexO : ∀ b ∈ ex, b ∈ exO.map (·.1)) (hxn : ∀ p ∈ exO, p ∈ nx)
    (hL : env.locals ∉ I :: ex) (hI : h₀.get? I = none) (hnI : ∀ p ∈ nx, p.1 ≠ I) (hst : St 0 s.heap) (F : Fr h₀ env.locals s.heap m₀) (N : News h₀ env.locals s.heap nx) (hj : J 0 m₀ nx)
    (turn : ∀ i v m₁ nx₁ h tk oI, i < n → P i v → IterObj oI → (∀ p ∈ nx₁, p.1 ≠ I) → (∀ p ∈ exO, p ∈ nx₁) → J i m₁ nx₁ → Fr h₀ env.locals h (fun y => if y = x then some v else m₁ y) → News h₀ env.locals h ((I, oI) :: nx₁) →
      wpAny (model prog w) A (execs body env) (TurnPost h₀ env.locals I oI exO (J (i + 1)) { s with heap := h, toks := tk } Q) E { s with heap := h, toks := tk })
    (done : ∀ m₁ nx₁ h tk, J n m₁ nx₁ → Fr h₀ env.locals h m₁ → News h₀ env.locals h nx₁ → (∀ p ∈ exO, p ∈ nx₁) → Q .next { s with heap := h, toks := tk }) :
    LoopAtV prog w A h₀ env x body Q E (.ref I) s := by
  refine ⟨I, I :: ex, [I], n, P, St, m₀, nx, (fun i m nx => (∀ p ∈ exO, p ∈ nx) ∧ J i m nx), rfl, W, hL, ?_, ?_, hst, F, N, ⟨hxn, hj⟩, ?_, ?_⟩
  · intro b hb
    rw [List.mem_singleton.mp hb]; exact hI
  · intro p hp hq
    exact hnI p hp (List.mem_singleton.mp hq)
  · rintro i v m₁ nx₁ s₁ own ⟨hh, tk, rfl⟩ hin hP ⟨hx, hJ⟩ hoff hown hget hfp hst' F₁ N₁
    obtain ⟨oI, hoI, hit⟩ := hcls _ _ hst'
    have hIo : (I, oI) ∈ own := hfp I (.head _) hI oI hoI
    have hne : ∀ p ∈ nx₁, p.1 ≠ I := fun p hp e => hoff p hp (List.mem_singleton.mpr e)
    have N₂ : News h₀ env.locals hh ((I, oI) :: nx₁) := by
      intro p hp
      rcases List.mem_cons.mp hp with rfl | hp
      · exact N₁ _ (List.mem_append.mpr (.inl hIo))
      · exact N₁ _ (List.mem_append.mpr (.inr hp))
    have fin : ∀ s₂, (∃ h' tk' m' nx', s₂ = { s with heap := h', toks := tk' } ∧ Fr h₀ env.locals h' m' ∧ News h₀ env.locals h' ((I, oI) :: nx') ∧ (∀ p ∈ nx', p.1 ≠ I) ∧ (∀ p ∈ exO, p ∈ nx') ∧ J (i + 1) m' nx') →
        LoopStepU h₀ env.locals [I] own (fun m nx => (∀ p ∈ exO, p ∈ nx) ∧ J (i + 1) m nx) { s with heap := hh, toks := tk } .next s₂ := by
      rintro s₂ ⟨h', tk', m', nx', rfl, F', N', hn', hx', hJ'⟩
      refine ⟨rfl, h', tk', m', nx', rfl, F', ?_, fun p hp hq => hn' p hp (List.mem_singleton.mp hq), hx', hJ'⟩
      intro p hp
      rcases List.mem_append.mp hp with hp | hp
      · have h1 := hown p hp
        have h2 : hh.get? p.1 = some p.2 := hget p hp
        by_cases e : p.1 = I
        · have : p = (I, oI) := by
            refine Prod.ext e ?_
            have h3 : hh.get? I = some p.2 := e ▸ h2
            exact Option.some.inj (h3.symm.trans hoI)
          rw [this]
          exact N' _ (.head _)
        · have h3 : p.1 ∈ ex := by
            rcases List.mem_cons.mp h1 with h | h
            · exact absurd h e
            · exact h
          obtain ⟨q, hq, eq⟩ := List.mem_map.mp (hexO _ h3)
          have h4 : hh.get? q.1 = some q.2 := (N₁ q (List.mem_append.mpr (.inr (hx q hq)))).1
          have : p = q := Prod.ext eq.symm (Option.some.inj (h2.symm.trans (eq ▸ h4)))
          rw [this]
          exact N' _ (.tail _ (hx' q hq))
      · exact N' _ (.tail _ hp)
    refine wpAny_mono (turn i v m₁ nx₁ hh tk oI hin hP hit hne hx hJ F₁ N₂) (fun f s₂ p => ?_) fun _ _ e => e
    cases f with
    | ret v => exact p
    | brk => exact p
    | next => exact fin s₂ p
    | cont => exact fin s₂ p
  · rintro h' tk m' nx' F' N' _ ⟨hx, hJ⟩
    exact done m' nx' h' tk hJ F' N' hx

theorem range_loop {r : Addr} {b : Int} {n : Nat} {t u v : Tok} {m₀ : Str → Option Value} {nx : Led} (J : Nat → (Str → Option Value) → Led → Prop) (hb : b = (n : Int)) (hn : n ≤ 1000000)
    (hh : A.handled = none) (hr : IsRange s.heap r 0 b 1 t u v) (F : Fr h₀ env.locals s.heap m₀) (N : News h₀ env.locals s.heap nx) (hj : J 0 m₀ nx)
    (turn : ∀ I i m₁ nx₁ h tk oI t, i < n → IterObj oI → (∀ p ∈ nx₁, p.1 ≠ I) → J i m₁ nx₁ → Fr h₀ env.locals h (fun y => if y = x then some (.int (i : Int) t) else m₁ y) → News h₀ env.locals h ((I, oI) :: nx₁) →
      wpAny (model prog w) A (execs body env) (TurnPost h₀ env.locals I oI [] (J (i + 1)) { s with heap := h, toks := tk } Q) E { s with heap := h, toks := tk })
    (done : ∀ m₁ nx₁ h tk, J n m₁ nx₁ → Fr h₀ env.locals h m₁ → News h₀ env.locals h nx₁ → Q .next { s with heap := h, toks := tk }) :
    wpAny (model prog w) A (pyIter (.ref r)) (fun it s₂ => LoopAtV prog w A h₀ env x body Q E it s₂) E s := by
  subst hb
  have hsz : Builtin.Range.rangeSize 0 (n : Int) 1 = (n : Int) := by
    unfold Builtin.Range.rangeSize
    simp
    try omega
  have hsm : Builtin.Range.small 0 (n : Int) 1 = true := by
    unfold Builtin.Range.small
    rw [hsz]
    simp [Builtin.Range.rangeFitsLong]
    try omega
  refine wpAny_pyIter_range hr hsm ?_
  rw [hsz]
  have W := Walks.range (prog := prog) (w := w) hh s.heap.objs.size 0 1 n
  refine loop_gen (exO := []) (ex := []) J W ?_ (fun _ h => nomatch h) (fun _ h => nomatch h) ?_ (next_is_new F) ?_ ?_ (F.push _) (fun p hp => ⟨Heap.get?_push_of_some _ (N p hp).1, (N p hp).2⟩) hj ?_ ?_
  · intro i h st
    exact ⟨_, st, .inr (.inr (.inl rfl))⟩
  · intro hm
    exact absurd F.ns.lt ((List.mem_singleton.mp hm) ▸ Nat.lt_irrefl _)
  · intro p hp e
    exact absurd (Heap.lt_size (N p hp).1) (e ▸ Nat.lt_irrefl _)
  · have : IsRangeIter (s.heap.push { cls := .type "range_iterator", data := .fields #[rawInt 0, rawInt (n : Int), rawInt 1] }) s.heap.objs.size 0 n 1 := Heap.get?_push_size _ rfl
    simpa using this
  · rintro i v m₁ nx₁ h tk oI hin hP hit hne _ hJ F₁ N₁
    obtain ⟨t', rfl⟩ := hP
    have e : (0 + (i : Int) * 1 : Int) = (i : Int) := by omega
    rw [e] at F₁
    exact turn _ i m₁ nx₁ h tk oI t' hin hit hne hJ F₁ N₁
  · intro m₁ nx₁ h tk hJ F' N' _
    exact done m₁ nx₁ h tk hJ F' N'

theorem text_loop {l : List Nat} {t : Tok} {m₀ : Str → Option Value} {nx : Led} (J : Nat → (Str → Option Value) → Led → Prop)
    (hh : A.handled = none) (F : Fr h₀ env.locals s.heap m₀) (N : News h₀ env.locals s.heap nx) (hj : J 0 m₀ nx)
    (turn : ∀ I i c m₁ nx₁ h tk oI t, l[i]? = some c → IterObj oI → (∀ p ∈ nx₁, p.1 ≠ I) → J i m₁ nx₁ → Fr h₀ env.locals h (fun y => if y = x then some (.str (S [c]) t) else m₁ y) → News h₀ env.locals h ((I, oI) :: nx₁) →
      wpAny (model prog w) A (execs body env) (TurnPost h₀ env.locals I oI [] (J (i + 1)) { s with heap := h, toks := tk } Q) E { s with heap := h, toks := tk })
    (done : ∀ m₁ nx₁ h tk, J l.length m₁ nx₁ → Fr h₀ env.locals h m₁ → News h₀ env.locals h nx₁ → Q .next { s with heap := h, toks := tk }) :
    wpAny (model prog w) A (pyIter (.str (S l) t)) (fun it s₂ => LoopAtV prog w A h₀ env x body Q E it s₂) E s := by
  have hsz : (S l).cps.size = l.length := by simp [S]
  have key : ∀ (o : Obj) (ty : String), IterObj o → o.isFreed = false → ∀ (W : Walks prog w A s.heap.objs.size [s.heap.objs.size] [s.heap.objs.size] (S l).cps.size (SignAt (S l)) (fun i h => h.IsStrIter s.heap.objs.size ty (S l) t i)),
      (ty = "str_ascii_iterator" ∨ ty = "str_iterator") → (s.heap.push o).IsStrIter s.heap.objs.size ty (S l) t 0 → LoopAtV prog w A h₀ env x body Q E (.ref s.heap.objs.size) { s with heap := s.heap.push o } := by
    intro o ty _ _ W hty st
    rw [hsz] at W
    refine loop_gen (s := { s with heap := s.heap.push o }) (exO := []) (ex := []) J W ?_ (fun _ h => nomatch h) (fun _ h => nomatch h) ?_ (next_is_new F) ?_ st (F.push _) (fun p hp => ⟨Heap.get?_push_of_some _ (N p hp).1, (N p hp).2⟩) hj ?_ ?_
    · rintro i h ⟨o', ho', hc, _⟩
      refine ⟨o', ho', ?_⟩
      rcases hty with rfl | rfl
      · exact .inl hc
      · exact .inr (.inl hc)
    · intro hm
      exact absurd F.ns.lt ((List.mem_singleton.mp hm) ▸ Nat.lt_irrefl _)
    · intro p hp e
      exact absurd (Heap.lt_size (N p hp).1) (e ▸ Nat.lt_irrefl _)
    · rintro i v m₁ nx₁ h tk oI hin ⟨c, u, hc, rfl⟩ hit hne _ hJ F₁ N₁
      exact turn _ i c m₁ nx₁ h tk oI u (by simpa [S] using hc) hit hne hJ F₁ N₁
    · intro m₁ nx₁ h tk hJ F' N' _
      exact done m₁ nx₁ h tk hJ F' N'
  cases ha : (S l).cps.all (· < 128)
  · exact wpAny_pyIter_wide ha (key _ "str_iterator" (.inr (.inl rfl)) rfl (Walks.strWide hh _ _ t) (.inr rfl) ⟨_, Heap.get?_push_size _ rfl, rfl, rfl⟩)
  · exact wpAny_pyIter_ascii ha (key _ "str_ascii_iterator" (.inl rfl) rfl (Walks.strAscii hh _ _ t) (.inl rfl) ⟨_, Heap.get?_push_size _ rfl, rfl, rfl⟩)

theorem list_loop {a : Addr} {vs : List Value} {k : Nat} {m₀ : Str → Option Value} {nx : Led} (J : Nat → (Str → Option Value) → Led → Prop)
    (hh : A.handled = none) (ha : (a, listOf vs.toArray k) ∈ nx) (F : Fr h₀ env.locals s.heap m₀) (N : News h₀ env.locals s.heap nx) (hj : J 0 m₀ nx)
    (turn : ∀ I i v m₁ nx₁ h tk oI, vs[i]? = some v → IterObj oI → (∀ p ∈ nx₁, p.1 ≠ I) → (a, listOf vs.toArray k) ∈ nx₁ → J i m₁ nx₁ → Fr h₀ env.locals h (fun y => if y = x then some v else m₁ y) → News h₀ env.locals h ((I, oI) :: nx₁) →
      wpAny (model prog w) A (execs body env) (TurnPost h₀ env.locals I oI [(a, listOf vs.toArray k)] (J (i + 1)) { s with heap := h, toks := tk } Q) E { s with heap := h, toks := tk })
    (done : ∀ m₁ nx₁ h tk, J vs.length m₁ nx₁ → Fr h₀ env.locals h m₁ → News h₀ env.locals h nx₁ → Q .next { s with heap := h, toks := tk }) :
    wpAny (model prog w) A (pyIter (.ref a)) (fun it s₂ => LoopAtV prog w A h₀ env x body Q E it s₂) E s := by
  have hoa := (N _ ha).1
  have hl : s.heap.IsList a vs.toArray := ⟨_, hoa, rfl, _, rfl⟩
  have hne : a ≠ s.heap.objs.size := Nat.ne_of_lt (Heap.lt_size hoa)
  refine wpAny_pyIter_list hl ?_
  have W := Walks.list (prog := prog) (w := w) hh s.heap.objs.size a hne vs.toArray
  have hsz : vs.toArray.size = vs.length := by simp
  rw [hsz] at W
  refine loop_gen (exO := [(a, listOf vs.toArray k)]) (ex := [a]) J W ?_ (fun b hb => by rw [List.mem_singleton.mp hb]; exact .head _) (fun p hp => by rw [List.mem_singleton.mp hp]; exact ha) ?_ (next_is_new F) ?_ ?_ (F.push _) (fun p hp => ⟨Heap.get?_push_of_some _ (N p hp).1, (N p hp).2⟩) hj ?_ ?_
  · rintro i h ⟨⟨o', ho', hc, _⟩, _⟩
    exact ⟨o', ho', .inr (.inr (.inr hc))⟩
  · intro hm
    rcases List.mem_cons.mp hm with e | hm
    · exact absurd F.ns.lt (e ▸ Nat.lt_irrefl _)
    · exact (N _ ha).2.1 (List.mem_singleton.mp hm).symm
  · intro p hp e
    exact absurd (Heap.lt_size (N p hp).1) (e ▸ Nat.lt_irrefl _)
  · exact ⟨⟨_, Heap.get?_push_size _ rfl, rfl, rfl⟩, hl.at fun o e => Heap.get?_push_of_some _ e⟩
  · rintro i v m₁ nx₁ h tk oI hin hP hit hn1 hx hJ F₁ N₁
    exact turn _ i v m₁ nx₁ h tk oI (by simpa using hP) hit hn1 (hx _ (.head _)) hJ F₁ N₁
  · intro m₁ nx₁ h tk hJ F' N' _
    exact done m₁ nx₁ h tk hJ F' N'
end

theorem IterObj.nt {o : Obj} (h : IterObj o) : o.cls ≠ .type "tuple" ∧ o.cls ≠ .type "dict" ∧ o.cls ≠ .type "list" ∧ ∀ a, o.cls ≠ .ref a := by
  rcases h with h | h | h | h <;> rw [h] <;> refine ⟨by decide, by decide, by decide, fun a => by intro e; cases e⟩

section
variable {w : World} {h₀ h : Heap} {L I : Addr} {oI : Obj} {T : TA} {n0 nx₁ nx : Led} {d : D} {dv : Value}
theorem off_iter (N : News h₀ L h nx) (hm : (I, oI) ∈ nx) (hi : IterObj oI) {p : Addr × Obj} (hp : p ∈ nx) (hq : ¬ IterObj p.2) : p ∈ dropA nx I := by
  refine mem_dropA.mpr ⟨hp, fun e => hq ?_⟩
  have : p.2 = oI := News.inj (a := I) N (e ▸ hp) hm
  rw [this]; exact hi
theorem not_iter_tup {vs : List Value} {n : Nat} : ¬ IterObj (tupOf vs n) := fun h => h.nt.1 rfl
theorem not_iter_list {vs : Array Value} {n : Nat} : ¬ IterObj (listOf vs n) := fun h => h.nt.2.2.1 rfl
theorem not_iter_dict {es : List DictEntry} {n : Nat} : ¬ IterObj (dictOf es n) := fun h => h.nt.2.1 rfl
theorem not_iter_inst {C dx : Addr} : ¬ IterObj (instObj C dx) := fun h => h.nt.2.2.2 C rfl

theorem TokX.turn (H : TokX w T ((I, oI) :: nx₁) d dv nx) (N : News h₀ L h nx) (hi : IterObj oI) (hI : I ∉ T.all) (hn : ∀ p ∈ nx₁, p.1 ≠ I) : (I, oI) ∈ nx ∧ TokX w T nx₁ d dv (dropA nx I) := by
  have hm : (I, oI) ∈ nx := H.keep _ (.head _) hI hi.nt.2.1
  refine ⟨hm, ?_⟩
  have dr : ∀ {p : Addr × Obj}, p ∈ nx → ¬ IterObj p.2 → p ∈ dropA nx I := fun hp hq => off_iter N hm hi hp hq
  have hr : ∀ {v r}, RowIs nx v r → RowIs (dropA nx I) v r := fun ⟨a, vs, n, e, m, x⟩ => ⟨a, vs, n, e, dr m not_iter_tup, x⟩
  have hrs : ∀ {vs rs}, RowsAre nx vs rs → RowsAre (dropA nx I) vs rs := by
    intro vs rs q
    induction q with
    | nil => exact .nil
    | cons a _ ih => exact .cons (hr a) ih
  obtain ⟨kp, nd, ⟨σ, ks, m1, m2, m3, a1, a2, a3, a4, a5, a6, a7, a8, a9, b1, b2, b3, b4⟩, dd⟩ := H
  refine ⟨fun p hp n q => mem_dropA.mpr ⟨kp p (.tail _ hp) n q, hn p hp⟩, nd, ⟨σ, ks, m1, m2, m3, dr a1 not_iter_inst, dr a2 not_iter_dict, dr a3 not_iter_inst, dr a4 not_iter_dict, dr a5 not_iter_list, dr a6 not_iter_list, dr a7 not_iter_list, dr a8 not_iter_list, dr a9 (fun h => h.nt.2.1 m3.cls), b1, hrs b2, hrs b3, hrs b4⟩, ?_⟩
  cases hd : d.draft with
  | none => rw [hd] at dd; exact dd
  | some l =>
    rw [hd] at dd
    obtain ⟨x, dx, al, k, tk, n, e, m1, m2, q1, q2⟩ := dd
    exact ⟨x, dx, al, k, tk, n, e, dr m1 not_iter_inst, dr m2 not_iter_dict, q1, q2⟩
theorem TokX.offI (H : TokX w T n0 d dv nx₁) (hn : ∀ p ∈ nx₁, p.1 ≠ I) : I ∉ T.all := fun h => by
  obtain ⟨o, ho⟩ := H.mem I h
  exact hn _ ho rfl
theorem TokX.cast {d' : D} (H : TokX w T n0 d dv nx) (e : d = d') : TokX w T n0 d' dv nx := e ▸ H
theorem turnPost_tok {exO : Led} {J : (Str → Option Value) → Led → Prop} {s : Shared} {Q : Flow → Shared → Prop} {m : Str → Option Value} {tk : Tok} {d0 : D} {dv' : Value}
    (F : Fr h₀ L h m) (N : News h₀ L h nx) (hi : IterObj oI) (hn : ∀ p ∈ nx₁, p.1 ≠ I) (H0 : TokX w T n0 d0 dv' nx₁) (H : TokX w T ((I, oI) :: nx₁) d dv nx) (hx : ∀ p ∈ exO, p ∈ dropA nx I)
    (hj : TokX w T n0 d dv (dropA nx I) → J m (dropA nx I)) : TurnPost h₀ L I oI exO J s Q .next { s with heap := h, toks := tk } := by
  obtain ⟨hm, H1⟩ := H.turn N hi (H0.offI hn) hn
  refine turnPost_next F (fun p hp => ?_) (fun p hp => (mem_dropA.mp hp).2) hx (hj (H1.base H0.keep))
  rcases List.mem_cons.mp hp with rfl | hp
  · exact N _ hm
  · exact N _ (mem_dropA.mp hp).1
end
end L1

section P0
open PySem PySem.W PyProof.Rows PySem.Calls
set_option maxRecDepth 100000
set_option maxHeartbeats 4000000
/-- what `looks` answers -/
noncomputable def looksF (xs : List Nat) (closed folded : Bool) : Nat → List Nat → Int
  | _, [] => 1
  | k, w :: ws => match xs[k]? with
    | none => if closed then 0 else -1
    | some c => if (if folded then lowc c else c) = w then looksF xs closed folded (k + 1) ws else 0

noncomputable def surr (n : Nat) : Bool := decide (55296 ≤ n ∧ n ≤ 57343)
noncomputable def nonch (n : Nat) : Bool := decide ((64976 ≤ n ∧ n ≤ 65007) ∨ (n ≤ 1114111 ∧ n % 65536 ≥ 65534))
noncomputable def ctl (n : Nat) : Bool := decide (n ≤ 31 ∨ (127 ≤ n ∧ n ≤ 159))
noncomputable def errS (n : Nat) : Str := if surr n then "surrogate-in-input-stream" else if nonch n then "noncharacter-in-input-stream" else if ctl n && !(decide (n = 0 ∨ n = 9 ∨ n = 10 ∨ n = 12 ∨ n = 13)) then "control-character-in-input-stream" else ""
noncomputable def feed1 (c : Nat) (d : D) : D :=
  if c = 13 then { d with xs := d.xs ++ [10], ret := true }
  else if c ≠ 10 ∨ d.ret = false then { d with serr := d.serr ++ (if errS c = "" then [] else [[.str (errS c), .int d.xs.length]]), xs := d.xs ++ [c], ret := false }
  else { d with ret := false }
noncomputable def feedL (l : List Nat) (d : D) : D := l.foldl (fun d c => feed1 c d) d

noncomputable def ROW (l : List Nat) : List Dat := [.str "comment", .str (S l)]
noncomputable def chrR (c : Nat) : List Dat := [.str "char", .str (S [c])]
noncomputable def errR (x : Str) (k : Nat) : List Dat := [.str x, .int k]

/-- the rules -/
noncomputable def wDash : List Nat := [45, 45]
noncomputable def wDoc : List Nat := [100, 111, 99, 116, 121, 112, 101]
noncomputable def wCd : List Nat := [91, 67, 68, 65, 84, 65, 91]
noncomputable def ruleM (d : D) : D :=
  if looksF d.xs d.closed false d.at_ wDash = 1 then { d with at_ := d.at_ + 2, draft := some [], state := "comment start" }
  else if looksF d.xs d.closed true d.at_ wDoc = 1 then { d with at_ := d.at_ + 7, state := "DOCTYPE" }
  else if looksF d.xs d.closed false d.at_ wCd = 1 then
    (if d.foreign then { d with at_ := d.at_ + 7, state := "CDATA section" }
     else { d with at_ := d.at_ + 7, errs := d.errs ++ [errR "cdata-in-html-content" (d.at_ + 6)], draft := some wCd, state := "bogus comment" })
  else if looksF d.xs d.closed false d.at_ wDash = -1 ∨ looksF d.xs d.closed true d.at_ wDoc = -1 ∨ looksF d.xs d.closed false d.at_ wCd = -1 then { d with waiting := true }
  else { d with errs := d.errs ++ [errR "incorrectly-opened-comment" d.at_], draft := some [], state := "bogus comment" }
noncomputable def ruleB (d : D) : D :=
  match d.xs[d.at_]? with
  | none => { d with at_ := d.at_ + 1, out := d.out ++ [ROW (d.draft.getD [])] ++ [[.str "eof"]], draft := none, done := true }
  | some c =>
    if c = 62 then { d with at_ := d.at_ + 1, state := "data", out := d.out ++ [ROW (d.draft.getD [])], draft := none }
    else if c = 0 then { d with at_ := d.at_ + 1, errs := d.errs ++ [errR "unexpected-null-character" d.at_], draft := some (d.draft.getD [] ++ [65533]) }
    else { d with at_ := d.at_ + 1, draft := some (d.draft.getD [] ++ [c]) }
noncomputable def ruleS (d : D) : D :=
  match d.xs[d.at_]? with
  | none => { d with at_ := d.at_ + 1, errs := d.errs ++ [errR "eof-in-cdata" d.at_], out := d.out ++ [[.str "eof"]], done := true }
  | some c => if c = 93 then { d with at_ := d.at_ + 1, state := "CDATA section bracket" } else { d with at_ := d.at_ + 1, out := d.out ++ [chrR c] }
noncomputable def ruleK (d : D) : D :=
  if d.xs[d.at_]? = some 93 then { d with at_ := d.at_ + 1, state := "CDATA section end" }
  else { d with out := d.out ++ [chrR 93], state := "CDATA section" }
noncomputable def ruleE (d : D) : D :=
  if d.xs[d.at_]? = some 93 then { d with at_ := d.at_ + 1, out := d.out ++ [chrR 93] }
  else if d.xs[d.at_]? = some 62 then { d with at_ := d.at_ + 1, state := "data" }
  else { d with out := d.out ++ [chrR 93, chrR 93], state := "CDATA section" }

inductive St | mdo | bog | cs | cb | ce
noncomputable def St.str : St → Str
  | .mdo => "markup declaration open" | .bog => "bogus comment" | .cs => "CDATA section" | .cb => "CDATA section bracket" | .ce => "CDATA section end"
noncomputable def St.rule : St → D → D
  | .mdo => ruleM | .bog => ruleB | .cs => ruleS | .cb => ruleK | .ce => ruleE
/-- the states that the tokenizer comes into: those with a rule, those without -/
inductive StD : Str → Option St → Prop
  | st (q : St) : StD q.str (some q)
  | data : StD "data" none
  | com : StD "comment start" none
  | doc : StD "DOCTYPE" none
noncomputable def St.addr : St → Addr
  | .mdo => 119 | .bog => 126 | .cs => 140 | .cb => 147 | .ce => 154
theorem St.val (q : St) : valueAt stsKv q.str = some (.ref q.addr) := by cases q <;> decide +kernel
noncomputable def known (x : Str) : Bool := (valueAt stsKv x).isSome
theorem St.known (q : St) : known q.str = true := by unfold Mine.known; rw [q.val]; rfl
theorem known_st {x : Str} (h : known x = true) : ∃ q : St, x = q.str := by
  unfold Mine.known valueAt at h
  rw [Option.isSome_map] at h
  obtain ⟨p, hp⟩ := Option.isSome_iff_exists.mp h
  have h1 := List.mem_of_find?_eq_some hp
  have h2 : p.1 = x := by simpa using List.find?_some hp
  unfold stsKv at h1
  simp only [List.mem_cons, List.not_mem_nil, or_false] at h1
  rcases h1 with rfl | rfl | rfl | rfl | rfl
  · exact ⟨.mdo, h2.symm⟩
  · exact ⟨.bog, h2.symm⟩
  · exact ⟨.cs, h2.symm⟩
  · exact ⟨.cb, h2.symm⟩
  · exact ⟨.ce, h2.symm⟩
noncomputable def readyD (d : D) : Bool := !(d.done || d.waiting || !known d.state) && (d.closed || decide (d.at_ < d.xs.length))
noncomputable def stepD (q : St) (d : D) : D :=
  let d2 := q.rule { d with waiting := false }
  if d2.waiting then { d2 with at_ := d.at_ } else d2
/-- the state by its text -/
noncomputable def stOf (x : Str) : St := if x = St.mdo.str then .mdo else if x = St.bog.str then .bog else if x = St.cs.str then .cs else if x = St.cb.str then .cb else .ce
theorem stOf_str (q : St) : stOf q.str = q := by
  cases q <;> unfold stOf <;> repeat (first | rw [if_pos rfl] | rw [if_neg (by decide +kernel)])
noncomputable def runD : Nat → D → D
  | 0, d => d
  | n + 1, d => if readyD d then runD n (stepD (stOf d.state) d) else d
end P0

section P1
open PySem PySem.W PyProof.Rows PySem.Calls
set_option maxRecDepth 100000
set_option maxHeartbeats 4000000
structure WF (n : Nat) (d : D) : Prop where
  xs : d.xs.length ≤ 1000
  small : Small d.xs
  out : d.out.length + 10 * n ≤ 100000
  errs : d.errs.length + 10 * n ≤ 100000
  dr : d.state = St.bog.str → d.done = false → ∃ l, d.draft = some l ∧ l.length + 10 * n ≤ 100000

theorem ready_known {d : D} (h : readyD d = true) : known d.state = true := by
  unfold readyD at h
  simp only [Bool.and_eq_true, Bool.not_eq_true', Bool.or_eq_false_iff] at h
  simpa using h.1.2
/-- what a rule leaves -/
structure Leaves (n : Nat) (d d' : D) : Prop where
  xs : d'.xs = d.xs
  out : d'.out.length ≤ d.out.length + 10
  errs : d'.errs.length ≤ d.errs.length + 10
  dr : d'.state = St.bog.str → d'.done = false → ∃ l, d'.draft = some l ∧ l.length + 10 * n ≤ 100000
theorem not_bog {x : Str} {P : Prop} (h : x = St.bog.str) (g : decide (x = St.bog.str) = false) : P := absurd h (of_decide_eq_false g)
theorem nb_comment : ¬ (Str.ofString "comment start" = St.bog.str) := by decide +kernel
theorem nb_doctype : ¬ (Str.ofString "DOCTYPE" = St.bog.str) := by decide +kernel
theorem nb_cs : ¬ (Str.ofString "CDATA section" = St.bog.str) := by decide +kernel
theorem nb_cb : ¬ (Str.ofString "CDATA section bracket" = St.bog.str) := by decide +kernel
theorem nb_ce : ¬ (Str.ofString "CDATA section end" = St.bog.str) := by decide +kernel
theorem nb_data : ¬ (Str.ofString "data" = St.bog.str) := by decide +kernel
theorem rule_leaves {n : Nat} {q : St} {d : D} (hq : d.state = q.str) (hdn : d.done = false) (W : WF (n + 1) d) : Leaves n d (q.rule d) := by
  have h10 := W.out
  have d0 : ∃ l, some ([] : List Nat) = some l ∧ l.length + 10 * n ≤ 100000 := ⟨_, rfl, by simp; omega⟩
  have d7 : ∃ l, some wCd = some l ∧ l.length + 10 * n ≤ 100000 := ⟨_, rfl, by simp [wCd]; omega⟩
  cases q with
  | mdo =>
    have hs : d.state = St.bog.str → False := fun h => by rw [hq] at h; exact not_bog h (by decide +kernel)
    show Leaves n d (ruleM d)
    unfold ruleM
    split
    · exact ⟨rfl, by simp, by simp, fun h _ => (nb_comment h).elim⟩
    split
    · exact ⟨rfl, by simp, by simp, fun h _ => (nb_doctype h).elim⟩
    split
    · split
      · exact ⟨rfl, by simp, by simp, fun h _ => (nb_cs h).elim⟩
      · exact ⟨rfl, by simp, by simp, fun h _ => d7⟩
    split
    · exact ⟨rfl, by simp, by simp, fun h _ => (hs h).elim⟩
    · exact ⟨rfl, by simp, by simp, fun h _ => d0⟩
  | bog =>
    obtain ⟨l, hl, hz⟩ := W.dr hq hdn
    show Leaves n d (ruleB d)
    unfold ruleB
    rw [hl]
    split
    · exact ⟨rfl, by simp, by simp, fun _ h => nomatch h⟩
    split
    · exact ⟨rfl, by simp, by simp, fun h _ => (nb_data h).elim⟩
    split
    · exact ⟨rfl, by simp, by simp, fun h _ => ⟨_, rfl, by simp; omega⟩⟩
    · exact ⟨rfl, by simp, by simp, fun h _ => ⟨_, rfl, by simp; omega⟩⟩
  | cs =>
    have hs : d.state = St.bog.str → False := fun h => by rw [hq] at h; exact not_bog h (by decide +kernel)
    show Leaves n d (ruleS d)
    unfold ruleS
    split
    · exact ⟨rfl, by simp, by simp, fun h _ => (hs h).elim⟩
    split
    · exact ⟨rfl, by simp, by simp, fun h _ => (nb_cb h).elim⟩
    · exact ⟨rfl, by simp, by simp, fun h _ => (hs h).elim⟩
  | cb =>
    have hs : d.state = St.bog.str → False := fun h => by rw [hq] at h; exact not_bog h (by decide +kernel)
    show Leaves n d (ruleK d)
    unfold ruleK
    split
    · exact ⟨rfl, by simp, by simp, fun h _ => (nb_ce h).elim⟩
    · exact ⟨rfl, by simp, by simp, fun h _ => (nb_cs h).elim⟩
  | ce =>
    have hs : d.state = St.bog.str → False := fun h => by rw [hq] at h; exact not_bog h (by decide +kernel)
    show Leaves n d (ruleE d)
    unfold ruleE
    split
    · exact ⟨rfl, by simp, by simp, fun h _ => (hs h).elim⟩
    split
    · exact ⟨rfl, by simp, by simp, fun h _ => (nb_data h).elim⟩
    · exact ⟨rfl, by simp, by simp, fun h _ => (nb_cs h).elim⟩
theorem ready_done {d : D} (h : readyD d = true) : d.done = false := by
  unfold readyD at h
  simp only [Bool.and_eq_true, Bool.not_eq_true', Bool.or_eq_false_iff] at h
  exact h.1.1.1
theorem WF.unwait {n : Nat} {d : D} (W : WF n d) : WF n { d with waiting := false } := ⟨W.xs, W.small, W.out, W.errs, W.dr⟩
theorem WF.step {n : Nat} {q : St} {d : D} (hq : d.state = q.str) (hdn : d.done = false) (W : WF (n + 1) d) : WF n (stepD q d) := by
  have R := rule_leaves (d := { d with waiting := false }) hq hdn W.unwait
  have h1 := W.out
  have h2 := W.errs
  have h3 := R.out
  have h4 := R.errs
  dsimp only at h3 h4
  have G : WF n (q.rule { d with waiting := false }) := ⟨by rw [R.xs]; exact W.xs, by rw [R.xs]; exact W.small, by omega, by omega, R.dr⟩
  unfold stepD
  dsimp only
  split
  · exact ⟨G.xs, G.small, G.out, G.errs, G.dr⟩
  · exact G
end P1

section X1
open PySem PySem.W PyProof.Rows PySem.Calls
set_option maxRecDepth 100000
set_option maxHeartbeats 4000000
open Builtin Builtin.Str StrLaws

theorem S_dash : Str.ofString "--" = S wDash := by decide +kernel
theorem S_doc : Str.ofString "doctype" = S wDoc := by decide +kernel
theorem S_cd : Str.ofString "[CDATA[" = S wCd := by decide +kernel
theorem S_gt : Str.ofString ">" = S [62] := by decide +kernel
theorem S_nul : Str.ofString "\x00" = S [0] := by decide +kernel
theorem S_br : Str.ofString "]" = S [93] := by decide +kernel
theorem S_brbr : Str.ofString "]]" = S [93, 93] := by decide +kernel
theorem S_length (l : List Nat) : (S l).length = l.length := S_len l
theorem S_of (x : Str) : x = S x.cps.toList := by cases x; simp [S]
theorem S_inj {a b : List Nat} (h : S a = S b) : a = b := by
  have := congrArg (fun x => x.cps.toList) h
  simpa [S] using this

/-! cuts -/
theorem slice_eq (x : Str) (l u : Option Int) : Txt.slice x l u = sliceText x l u := rfl
theorem idx_min (j : Nat) (lo : Option Int) (n : Nat) : strSliceIndices lo (some (j : Int)) 1 n = strSliceIndices lo (some ((min j n : Nat) : Int)) 1 n := by
  have a : ¬ ((j : Int) < 0) := by omega
  have b : ¬ (((min j n : Nat) : Int) < 0) := by omega
  have c : min (((min j n : Nat)) : Int) (n : Int) = min (j : Int) (n : Int) := by omega
  have t : (1 : Int) > 0 := by decide
  simp only [strSliceIndices, a, b, if_false, t, if_true, c]
theorem idx_min_lo (j : Nat) (hi : Option Int) (n : Nat) : strSliceIndices (some (j : Int)) hi 1 n = strSliceIndices (some ((min j n : Nat) : Int)) hi 1 n := by
  have a : ¬ ((j : Int) < 0) := by omega
  have b : ¬ (((min j n : Nat) : Int) < 0) := by omega
  have c : min (((min j n : Nat)) : Int) (n : Int) = min (j : Int) (n : Int) := by omega
  have t : (1 : Int) > 0 := by decide
  simp only [strSliceIndices, a, b, if_false, t, if_true, c]
theorem slice_to (l : List Nat) (j : Nat) : Txt.slice (S l) none (some (j : Int)) = S (l.take j) := by
  have e : Txt.slice (S l) none (some (j : Int)) = sliceText (S l) none (some ((min j l.length : Nat) : Int)) := by
    rw [slice_eq]; unfold sliceText; rw [S_length, idx_min]
  rw [e, sliceText_to (by rw [S_cps]; omega), S_cps, List.drop_zero]
  show S _ = S _
  congr 1
  rw [show (((min j l.length : Nat) : Int) - 0).toNat = min j l.length by omega]
  exact (List.take_eq_take_min (l := l) (i := j)).symm
theorem slice_from (l : List Nat) (i : Nat) : Txt.slice (S l) (some (i : Int)) none = S (l.drop i) := by
  have e : Txt.slice (S l) (some (i : Int)) none = sliceText (S l) (some ((min i l.length : Nat) : Int)) none := by
    rw [slice_eq]; unfold sliceText; rw [S_length, idx_min_lo]
  rw [e, sliceText_from (by rw [S_cps]; omega), S_cps]
  show S _ = S _
  congr 1
  rw [Int.toNat_natCast, List.take_of_length_le (by rw [List.length_drop]; omega)]
  by_cases h : i ≤ l.length
  · rw [show min i l.length = i by omega]
  · rw [show min i l.length = l.length by omega, List.drop_length, List.drop_eq_nil_of_le (by omega)]
theorem slice_mid (l : List Nat) (i j : Nat) (hij : i ≤ j) (hj : j ≤ l.length) : Txt.slice (S l) (some (i : Int)) (some (j : Int)) = S ((l.drop i).take (j - i)) := by
  rw [slice_eq, sliceText_nat _ hij (by rw [S_length]; exact hj)]
  rfl

/-! finds -/
theorem at_iff (l w : List Nat) (i : Nat) : At (S l) (S w) (S l).length i ↔ (i ≤ l.length ∧ w <+: l.drop i) := by
  unfold At
  rw [subAt_eq, S_length, S_length, S_cps, S_cps, beq_iff_eq]
  constructor
  · rintro ⟨h1, h2⟩
    refine ⟨by omega, ?_⟩
    rw [← h2]; exact List.take_prefix _ _
  · rintro ⟨h1, h2⟩
    have h3 := h2.length_le
    rw [List.length_drop] at h3
    exact ⟨by omega, (List.prefix_iff_eq_take.mp h2).symm⟩
theorem find_spec (l w : List Nat) : (Txt.find (S l) (S w) = -1 ∧ ∀ i, i ≤ l.length → ¬ w <+: l.drop i) ∨ ∃ i : Nat, Txt.find (S l) (S w) = (i : Int) ∧ i ≤ l.length ∧ w <+: l.drop i ∧ ∀ k, k < i → ¬ w <+: l.drop k := by
  unfold Txt.find
  rcases occ_head (S l) (S w) 1 (Nat.le_refl _) with ⟨h1, h2⟩ | ⟨i, r, h1, h2, h3⟩
  · rw [h1]
    exact .inl ⟨rfl, fun i hi h => h2 i ((at_iff l w i).mpr ⟨hi, h⟩)⟩
  · rw [h1]
    have h4 := (at_iff l w i).mp h2
    exact .inr ⟨i, rfl, h4.1, h4.2, fun k hk h => h3 k hk ((at_iff l w k).mpr ⟨by omega, h⟩)⟩
theorem ends_iff (l w : List Nat) : Txt.endswith (S l) (S w) = true ↔ w <:+ l := by
  unfold Txt.endswith
  rw [Bool.and_eq_true, decide_eq_true_eq, subAt_eq, S_length, S_length, S_cps, S_cps, beq_iff_eq]
  constructor
  · rintro ⟨h1, h2⟩
    rw [← h2, List.take_of_length_le (by rw [List.length_drop]; omega)]
    exact List.drop_suffix _ _
  · intro h
    have h3 := h.length_le
    refine ⟨by omega, ?_⟩
    rw [List.take_of_length_le (by rw [List.length_drop]; omega)]
    exact (List.suffix_iff_eq_drop.mp h).symm

/-! replaces -/
noncomputable def replL (w z : List Nat) : Nat → List Nat → List Nat
  | 0, l => l
  | _ + 1, [] => []
  | n + 1, c :: t => if w <+: (c :: t) then z ++ replL w z n ((c :: t).drop w.length) else c :: replL w z n t
theorem replL_skip (w z : List Nat) (hw : w ≠ []) : ∀ (k n : Nat) (l : List Nat), k ≤ l.length → (∀ i, i < k → ¬ w <+: l.drop i) → replL w z (n + k) l = l.take k ++ replL w z n (l.drop k)
  | 0, n, l, _, _ => by simp
  | k + 1, n, [], h, _ => by simp at h
  | k + 1, n, c :: t, h, hn => by
    have h0 := hn 0 (by omega)
    rw [List.drop_zero] at h0
    rw [show n + (k + 1) = (n + k) + 1 by omega]
    rw [show replL w z (n + k + 1) (c :: t) = if w <+: (c :: t) then z ++ replL w z (n + k) ((c :: t).drop w.length) else c :: replL w z (n + k) t from rfl]
    rw [if_neg h0, replL_skip w z hw k n t (by simp at h; omega) (fun i hi => by simpa using hn (i + 1) (by omega))]
    rfl
theorem replL_fuel (w z : List Nat) (hw : 1 ≤ w.length) : ∀ (n m : Nat) (l : List Nat), l.length ≤ n → l.length ≤ m → replL w z n l = replL w z m l
  | 0, 0, _, _, _ => rfl
  | 0, m + 1, [], _, _ => rfl
  | n + 1, 0, [], _, _ => rfl
  | n + 1, m + 1, [], _, _ => rfl
  | 0, _ + 1, c :: t, h, _ => by simp at h
  | _ + 1, 0, c :: t, _, h => by simp at h
  | n + 1, m + 1, c :: t, h1, h2 => by
    unfold replL
    have g1 : t.length ≤ n := by simpa using h1
    have g2 : t.length ≤ m := by simpa using h2
    have e1 : ((c :: t).drop w.length).length ≤ t.length := by rw [List.length_drop, List.length_cons]; omega
    rw [replL_fuel w z hw n m t g1 g2, replL_fuel w z hw n m _ (by omega) (by omega)]
noncomputable def repl (w z l : List Nat) : List Nat := replL w z l.length l
theorem repl_cons (w z : List Nat) (hw : 1 ≤ w.length) (c : Nat) (t : List Nat) : repl w z (c :: t) = if w <+: (c :: t) then z ++ repl w z ((c :: t).drop w.length) else c :: repl w z t := by
  have e1 : ((c :: t).drop w.length).length ≤ t.length := by rw [List.length_drop, List.length_cons]; omega
  show replL w z (t.length + 1) (c :: t) = _
  unfold replL
  rw [replL_fuel w z hw t.length _ _ e1 (Nat.le_refl _)]
  rfl
theorem repl_skip (w z : List Nat) (hw : 1 ≤ w.length) (l : List Nat) (k : Nat) (hk : k ≤ l.length) (hn : ∀ i, i < k → ¬ w <+: l.drop i) : repl w z l = l.take k ++ repl w z (l.drop k) := by
  unfold repl
  rw [List.length_drop]
  have := replL_skip w z (by intro h; rw [h] at hw; simp at hw) k (l.length - k) l hk hn
  rw [show l.length - k + k = l.length by omega] at this
  exact this
theorem repl_at (w z : List Nat) (hw : 1 ≤ w.length) (l : List Nat) (h : w <+: l) : repl w z l = z ++ repl w z (l.drop w.length) := by
  cases l with
  | nil => exfalso; have := h.length_le; rw [List.length_nil] at this; omega
  | cons c t => rw [repl_cons w z hw, if_pos h]
theorem join_toList (z : Str) (p q : Str) (r : List Str) : (Str.join z (p :: q :: r)).cps.toList = p.cps.toList ++ z.cps.toList ++ (Str.join z (q :: r)).cps.toList := by
  show (p ++ z ++ Str.join z (q :: r)).cps.toList = _
  simp only [Str.cps_append, Array.toList_append]
theorem parts_repl (l w z : List Nat) (hw : 1 ≤ w.length) : ∀ (cuts : List Nat) (a f : Nat), a ≤ l.length → ChainG (S l) (S w) (S l).length a cuts f → (∀ k, f ≤ k → ¬ At (S l) (S w) (S l).length k) →
    (Str.join (S z) (partsFrom (S l) (S w).length a cuts)).cps.toList = repl w z (l.drop a)
  | [], a, f, ha, hc, hn => by
    have e : f = a := hc
    subst e
    show (strSub (S l) f (S l).length).cps.toList = _
    rw [strSub_toList, S_cps, S_length]
    have hk := repl_skip w z hw (l.drop f) (l.drop f).length (Nat.le_refl _) (fun i hi h => hn (f + i) (by omega) ((at_iff l w _).mpr ⟨by rw [List.length_drop] at hi; omega, by rwa [List.drop_drop] at h⟩))
    rw [hk, List.length_drop]
    have e2 : List.drop (l.length - f) (List.drop f l) = [] := List.drop_eq_nil_of_le (by rw [List.length_drop]; omega)
    rw [e2]
    show _ = _ ++ replL w z 0 []
    rw [show replL w z 0 [] = [] from rfl, List.append_nil]
  | c :: r, a, f, ha, hc, hn => by
    obtain ⟨h1, h2, h3, h4⟩ := hc
    obtain ⟨p, q, e⟩ := partsFrom_ne (S l) (S w).length (c + (S w).length) r
    have h2' := (at_iff l w c).mp h2
    have hl := h2.1
    rw [S_length, S_length] at hl
    have ih := parts_repl l w z hw r (c + (S w).length) f (by rw [S_length]; omega) h4 hn
    show (Str.join (S z) (strSub (S l) a c :: partsFrom (S l) (S w).length (c + (S w).length) r)).cps.toList = _
    rw [e] at ih ⊢
    rw [join_toList, ih, strSub_toList, S_cps, S_cps, S_length]
    have hk := repl_skip w z hw (l.drop a) (c - a) (by rw [List.length_drop]; omega) (fun i hi h => h3 (a + i) (by omega) (by omega) ((at_iff l w _).mpr ⟨by omega, by rwa [List.drop_drop] at h⟩))
    rw [hk, List.drop_drop, show a + (c - a) = c by omega, repl_at w z hw _ h2'.2, List.drop_drop, List.append_assoc]
theorem replace_S (l w z : List Nat) (hw : 1 ≤ w.length) : Txt.replace (S l) (S w) (S z) = S (repl w z l) := by
  have key : ∀ f, ChainG (S l) (S w) (S l).length 0 (occurrences (S l) (S w) 0 (S l).length ((S l).length + 1)) f → (∀ k, f ≤ k → ¬ At (S l) (S w) (S l).length k) →
      Txt.replace (S l) (S w) (S z) = S (repl w z l) := by
    intro f h1 h2
    have h := parts_repl l w z hw _ 0 f (Nat.zero_le _) h1 h2
    rw [List.drop_zero] at h
    unfold Txt.replace
    have hw0 : ((S w).length == 0) = false := by rw [S_length]; exact beq_false_of_ne (by omega)
    rw [hw0, Bool.false_and, Bool.or_false]
    cases he : (occurrences (S l) (S w) 0 (S l).length ((S l).length + 1)).isEmpty
    · rw [if_neg Bool.false_ne_true, glued_eq_join, partsBetween_eq]
      rw [S_of (Str.join (S z) _), h]
    · rw [if_pos rfl]
      rw [List.isEmpty_iff.mp he] at h
      have h' : (strSub (S l) 0 (S l).length).cps.toList = repl w z l := h
      rw [sub_whole, S_cps] at h'
      rw [← h']
  obtain ⟨f, h1, h2⟩ := occ_tight (S l) (S w) (by rw [S_length]; exact hw)
  exact key f h1 h2
theorem repl_one (c d : Nat) : ∀ l : List Nat, repl [c] [d] l = l.map (fun a => if a = c then d else a)
  | [] => rfl
  | a :: t => by
    rw [repl_cons [c] [d] (Nat.le_refl 1)]
    by_cases h : a = c
    · subst h
      rw [if_pos (by simp), List.map_cons, if_pos rfl, ← repl_one a d t]
      rfl
    · rw [if_neg (by simpa using fun e => h e.symm), List.map_cons, if_neg h, repl_one c d t]

/-! letters -/
theorem placed_map (l : List Nat) (f : Nat → Nat → List Nat) (g : Nat → Nat) (h : ∀ i c, l[i]? = some c → f i c = [g c]) : (⟨placed (S l) f⟩ : Str) = S (l.map g) := by
  unfold placed
  apply congrArg Str.mk
  have e : (S l).cps.mapIdx (fun i c => (f i c).toArray) = (l.map fun c => #[g c]).toArray := by
    apply Array.toList_inj.mp
    apply List.ext_getElem?
    intro i
    rw [Array.toList_mapIdx, List.getElem?_mapIdx, S_cps, List.getElem?_map]
    cases hi : l[i]? with
    | none => rfl
    | some c => simp [h i c hi]
  rw [e]
  apply Array.toList_inj.mp
  rw [Array.toList_flatten]
  simp only [List.map_map]
  clear h e
  induction l with
  | nil => rfl
  | cons a t ih => rw [List.map_cons, List.flatten_cons, ih]; rfl

/-- the signs that a drawn text is made of -/
noncomputable def SG : List Nat := [91, 93, 62, 45, 0, 13, 10, 1, 64976, 12, 31, 32, 126, 127, 159, 160, 64975, 65007, 65008, 67, 68, 65, 84, 79, 89, 80, 69, 99, 100, 97, 116, 111, 121, 112, 101]
noncomputable def InSG (l : List Nat) : Prop := ∀ c ∈ l, c ∈ SG
theorem sg_low : ∀ c ∈ SG, Unicode.lowerOf c = [lowc c] ∧ lowc c ∈ SG ∧ c ≠ 0x3A3 ∧ c ≤ 1000000 ∧ ∃ d, Unicode.upperOf c = [d] ∧ d ∈ SG := by
  intro c hc
  simp only [SG, List.mem_cons, List.not_mem_nil, or_false] at hc
  rcases hc with rfl | rfl | rfl | rfl | rfl | rfl | rfl | rfl | rfl | rfl | rfl | rfl | rfl | rfl | rfl | rfl | rfl | rfl | rfl | rfl | rfl | rfl | rfl | rfl | rfl | rfl | rfl | rfl | rfl | rfl | rfl | rfl | rfl | rfl | rfl <;>
    exact ⟨by decide +kernel, by decide +kernel, by decide, by decide, _, by with_unfolding_all rfl, by decide +kernel⟩
theorem lower_S {l : List Nat} (h : InSG l) : Txt.lower (S l) = S (l.map lowc) := by
  unfold Txt.lower
  refine placed_map l _ lowc fun i c hi => ?_
  have hc := sg_low c (h c (List.mem_of_getElem? hi))
  have e : (S l).cps[i]? = some c := by simpa [S] using hi
  unfold Unicode.lowerAt
  rw [e]
  have n : (c == 0x3A3) = false := beq_false_of_ne hc.2.2.1
  simp only [n, Bool.false_and, Bool.false_eq_true, if_false]
  exact hc.1
theorem upper_S1 {c : Nat} (h : c ∈ SG) : ∃ d, Txt.upper (S [c]) = S [d] ∧ d ∈ SG := by
  obtain ⟨d, h1, h2⟩ := (sg_low c h).2.2.2.2
  refine ⟨d, ?_, h2⟩
  unfold Txt.upper
  refine placed_map [c] _ (fun _ => d) fun i a hi => ?_
  have : a = c := by
    cases i with
    | zero => simpa using hi.symm
    | succ i => simp at hi
  rw [this]; exact h1
theorem InSG.low {l : List Nat} (h : InSG l) : InSG (l.map lowc) := by
  intro c hc
  obtain ⟨a, ha, rfl⟩ := List.mem_map.mp hc
  exact (sg_low a (h a ha)).2.1
theorem InSG.small {l : List Nat} (h : InSG l) : Small l := fun c hc => (sg_low c (h c hc)).2.2.2.1
theorem InSG.app {a b : List Nat} (h : InSG a) (g : InSG b) : InSG (a ++ b) := fun c hc => (List.mem_append.mp hc).elim (h c) (g c)
theorem InSG.take {l : List Nat} (h : InSG l) (n : Nat) : InSG (l.take n) := fun c hc => h c (List.mem_of_mem_take hc)
theorem InSG.drop {l : List Nat} (h : InSG l) (n : Nat) : InSG (l.drop n) := fun c hc => h c (List.mem_of_mem_drop hc)
theorem InSG.get {l : List Nat} {i c : Nat} (h : InSG l) (e : l[i]? = some c) : c ∈ SG := h c (List.mem_of_getElem? e)
theorem InSG.nil : InSG [] := fun _ h => nomatch h
theorem InSG.one {c : Nat} (h : c ∈ SG) : InSG [c] := fun a ha => (List.mem_singleton.mp ha) ▸ h
end X1

section B1
open PySem PySem.W PyProof.Rows PySem.Calls
set_option maxRecDepth 100000
set_option maxHeartbeats 4000000
theorem lines_B1_1 : True := by
  w_top off
  k_with_none
  k_with "execs cons" => k_fold
  k_with "exec If" => k_fold
  k_with "exec Assign" => k_fold
  k_with "exec Expr" => k_fold
  k_with "exec Return" => k_fold
  k_with "callWith" => k_fold
  k_with "call ref" => k_fold
  k_with "mine steps" => repeat' ((fail_if_success (with_reducible show wpAny _ _ (pyIter _) _ _ _)); (fail_if_success (with_reducible show wpAny _ _ (exec (Stmt.For _ (Expr.Name _ _) _ _ _) _) _ _ _)); first | (k_unfold; (try dsimp only)) | walk1 | (dsimp only; walk1) | (leave1; (try dsimp only)))
  k_with "mine H" => (first | (with_reducible assumption) | (with_reducible refine' TokX.cons1 ?zhhh; (case zhhh => with_reducible assumption)) | (with_reducible refine' TokX.cons2 ?zhhh; (case zhhh => with_reducible assumption)) | (with_reducible refine' TokX.cons3 ?zhhh; (case zhhh => with_reducible assumption)))
  k_with "mine row" => (first | (with_reducible assumption) | (apply RowIs.of; k_mem; (repeat' constructor); done))
  k_with "mine HD" => (first | (with_reducible assumption) | (exact TokX.dr (by with_reducible assumption) rfl) | (exact TokX.dr (by with_reducible assumption) (by with_reducible assumption)) | (exact DraftAt.keepA (by with_reducible assumption) (by with_reducible assumption)) | (exact TokX.dr (by with_reducible assumption) (by assumption)))
  k_with "mine fxnh" => ((case zhF => k_asm); (case zhX => k_asm); (case zhN => k_asm); (case zhH => walk_at "mine H"))
  k_with "getAttr ref" => k_dflt (first | (with_reducible refine' get_at ?zhF ?zhX ?zhN ?zhH ?_; walk_at "mine fxnh"; intro _) | (with_reducible refine' get_stream ?zhF ?zhX ?zhN ?zhH ?_; walk_at "mine fxnh") | (with_reducible refine' get_signs ?zhF ?zhX ?zhN ?zhH ?_; walk_at "mine fxnh") | (with_reducible refine' get_out ?zhF ?zhX ?zhN ?zhH ?_; walk_at "mine fxnh") | (with_reducible refine' get_errors ?zhF ?zhX ?zhN ?zhH ?_; walk_at "mine fxnh") | (with_reducible refine' get_draft ?zhF ?zhX ?zhN ?zhH ?_; walk_at "mine fxnh") | (with_reducible refine' get_state ?zhF ?zhX ?zhN ?zhH ?_; walk_at "mine fxnh"; intro _) | (with_reducible refine' get_states ?zhF ?zhX ?zhN ?zhH ?_; walk_at "mine fxnh") | (with_reducible refine' get_waiting ?zhF ?zhX ?zhN ?zhH ?_; walk_at "mine fxnh") | (with_reducible refine' get_done ?zhF ?zhX ?zhN ?zhH ?_; walk_at "mine fxnh") | (with_reducible refine' get_foreign ?zhF ?zhX ?zhN ?zhH ?_; walk_at "mine fxnh") | (with_reducible refine' get_last ?zhF ?zhX ?zhN ?zhH ?_; walk_at "mine fxnh"; intro _) | (with_reducible refine' get_closed ?zhF ?zhX ?zhN ?zhH ?_; walk_at "mine fxnh") | (with_reducible refine' get_return ?zhF ?zhX ?zhN ?zhH ?_; walk_at "mine fxnh") | (with_reducible refine' get_serr ?zhF ?zhX ?zhN ?zhH ?_; walk_at "mine fxnh") | (with_reducible refine' getd_text ?zhF ?zhX ?zhN ?zhH ?_; (case zhF => k_asm); (case zhX => k_asm); (case zhN => k_asm); (case zhH => walk_at "mine HD"); intro _) | (with_reducible refine' getd_kind ?zhF ?zhX ?zhN ?zhH ?_; (case zhF => k_asm); (case zhX => k_asm); (case zhN => k_asm); (case zhH => walk_at "mine HD"); intro _))
  k_with "setAttr ref" => k_dflt (first | (with_reducible refine' set_state ?zhF ?zhX ?zhN ?zhH ?_; walk_at "mine fxnh"; intro _ _ _ _ _ _) | (with_reducible refine' set_waiting ?zhF ?zhX ?zhN ?zhH ?_; walk_at "mine fxnh"; intro _ _ _ _ _ _) | (with_reducible refine' set_done ?zhF ?zhX ?zhN ?zhH ?_; walk_at "mine fxnh"; intro _ _ _ _ _ _) | (with_reducible refine' set_foreign ?zhF ?zhX ?zhN ?zhH ?_; walk_at "mine fxnh"; intro _ _ _ _ _ _) | (with_reducible refine' set_closed ?zhF ?zhX ?zhN ?zhH ?_; walk_at "mine fxnh"; intro _ _ _ _ _ _) | (with_reducible refine' set_return ?zhF ?zhX ?zhN ?zhH ?_; walk_at "mine fxnh"; intro _ _ _ _ _ _) | (with_reducible refine' set_draft_none ?zhF ?zhX ?zhN ?zhH ?_; walk_at "mine fxnh"; intro _ _ _ _ _ _) | (with_reducible refine' set_draft ?zhF ?zhX ?zhN ?zhH ?zhhy ?_; walk_at "mine fxnh"; (case zhhy => with_reducible assumption); intro _ _ _ _ _ _) | (with_reducible refine' setd_text ?zhF ?zhX ?zhN ?zhH ?zhhd ?zhhy ?_; walk_at "mine fxnh"; (case zhhd => first | with_reducible assumption | rfl); (case zhhy => first | exact rfl | exact S_app _ _ | (rw [S_fffd]; exact S_app _ _)); intro _ _ _ _ _) | ((with_reducible show wpAny _ _ (setAttr (Value.ref (TA.t _)) (PySem.Str.ofString "at") _) _ _ _); refine' set_at ?zhF ?zhX ?zhN ?zhH (Int.natCast_add _ _).symm ?_; walk_at "mine fxnh"; intro _ _ _ _ _ _) | ((with_reducible show wpAny _ _ (setAttr (Value.ref (TA.t _)) (PySem.Str.ofString "at") _) _ _ _); refine' set_at ?zhF ?zhX ?zhN ?zhH (cast_pred ?zhp) ?_; walk_at "mine fxnh"; (case zhp => first | with_reducible assumption | omega); intro _ _ _ _ _ _) | ((with_reducible show wpAny _ _ (setAttr (Value.ref (TA.t _)) (PySem.Str.ofString "at") _) _ _ _); refine' set_at ?zhF ?zhX ?zhN ?zhH (Eq.refl (Nat.cast _)) ?_; walk_at "mine fxnh"; intro _ _ _ _ _ _))
  k_with "getMethod ref" => k_dflt (first | ((with_reducible show wpAny _ _ (getMethod (Value.ref (TA.t _)) _ _) _ _ _); refine' tok_method ?zhF ?zhX ?zhN ?zhH ?zhg ?zhf ?zht ?zhl ?_; walk_at "mine fxnh"; (case zhg => k_dflt k_is); (case zhf => k_dflt k_is); (case zht => k_dflt k_is); (case zhl => intro _; rfl)) | ((with_reducible show wpAny _ _ (getMethod (Value.ref (TA.st _)) _ _) _ _ _); refine' str_method ?zhF ?zhX ?zhN ?zhH ?zhg ?zhf ?zht ?zhl ?_; walk_at "mine fxnh"; (case zhg => k_dflt k_is); (case zhf => k_dflt k_is); (case zht => k_dflt k_is); (case zhl => intro _; rfl)) | (refine' dr_method ?zhF ?zhX ?zhN ?zhH ?zhg ?zhf ?zht ?zhl ?_; (case zhF => k_asm); (case zhX => k_asm); (case zhN => k_asm); (case zhH => walk_at "mine HD"); (case zhg => k_dflt k_is); (case zhf => k_dflt k_is); (case zht => k_dflt k_is); (case zhl => intro _ _ _; rfl)) | ((with_reducible show wpAny _ _ (getMethod (Value.ref (TA.er _)) _ _) _ _ _); refine' app_method_er ?zhN ?zhH ?_; (case zhN => k_asm); (case zhH => walk_at "mine H")) | ((with_reducible show wpAny _ _ (getMethod (Value.ref (TA.ou _)) _ _) _ _ _); refine' app_method_ou ?zhN ?zhH ?_; (case zhN => k_asm); (case zhH => walk_at "mine H")) | ((with_reducible show wpAny _ _ (getMethod (Value.ref (TA.se _)) _ _) _ _ _); refine' app_method_se ?zhN ?zhH ?_; (case zhN => k_asm); (case zhH => walk_at "mine H")) | ((with_reducible show wpAny _ _ (getMethod (Value.ref (TA.sg _)) _ _) _ _ _); refine' app_method_sg ?zhN ?zhH ?_; (case zhN => k_asm); (case zhH => walk_at "mine H")))
  k_with "call builtin:list.append" => k_dflt (first | ((with_reducible show wpAny _ _ (call _ [Value.ref (TA.er _), _]) _ _ _); refine' app_er ?zhF ?zhN ?zhH ?zhr ?zhz ?_; (case zhF => k_asm); (case zhN => k_asm); (case zhH => walk_at "mine H"); (case zhr => walk_at "mine row"); (case zhz => walk_at "mine size"); intro _ _ _ _ _ _) | ((with_reducible show wpAny _ _ (call _ [Value.ref (TA.ou _), _]) _ _ _); refine' app_ou ?zhF ?zhN ?zhH ?zhr ?zhz ?_; (case zhF => k_asm); (case zhN => k_asm); (case zhH => walk_at "mine H"); (case zhr => walk_at "mine row"); (case zhz => walk_at "mine size"); intro _ _ _ _ _ _) | ((with_reducible show wpAny _ _ (call _ [Value.ref (TA.se _), _]) _ _ _); refine' app_se ?zhF ?zhN ?zhH ?zhr ?zhz ?_; (case zhF => k_asm); (case zhN => k_asm); (case zhH => walk_at "mine H"); (case zhr => walk_at "mine row"); (case zhz => walk_at "mine size"); intro _ _ _ _ _ _) | ((with_reducible show wpAny _ _ (call _ [Value.ref (TA.sg _), _]) _ _ _); refine' app_sg ?zhF ?zhN ?zhH ?zhhx ?zhz ?_; (case zhF => k_asm); (case zhN => k_asm); (case zhH => walk_at "mine H"); (case zhhx => first | exact S_nl | exact rfl); (case zhz => walk_at "mine size"); intro _ _ _ _ _ _))
  k_with "mine size" => first | with_reducible assumption | ((try dsimp only at *); omega) | ((try dsimp only at *); simp only [List.length_append, List.length_cons, List.length_nil, List.length_take, List.length_drop, List.length_map] at *; omega)
  k_with "call builtin:len" => k_dflt ((with_reducible refine' len_S ?zhz ?_); (case zhz => walk_at "mine size"))
  k_with "call builtin:ord" => k_dflt (with_reducible refine' ord_S ?_)
  k_with "call builtin:chr" => k_dflt (refine' chr_S (Int.natCast_add _ _).symm ?zhz ?_; (case zhz => omega))
  k_with "call builtin:len" => k_dflt (with_reducible refine' len_sg ?zhN ?zhH ?zhz ?_; (case zhN => k_asm); (case zhH => walk_at "mine H"); (case zhz => walk_at "mine size"))
  k_with "mine slen" => (simp only [S_fffd, S_len, S_nil, List.length_append, List.length_cons, List.length_nil, sizeLine]; omega)
  k_with "binaryOp Add str str" => k_dflt (refine' PyProof.Rows.add_str ?_ ?zhz9; (case zhz9 => walk_at "mine slen"); intro _ _)
  k_with "mine news" => first | k_asm | exact News.ofCons (by assumption)
  k_with "mine for" => ((rename Fr _ _ _ _ => lF'); (with_unfolding_all refine' For_invVF lF' ?zhk1 ?zhk2 ?_; (case zhk1 => exact rfl); (case zhk2 => exact rfl)))
  k_with "mine name" => k_dflt ((refine' nameX_L ?zhF ?zhv ?_ ?zha ?zhb ?zhc); (case zhF => k_asm); (case zha => rfl); (case zhb => rfl); (case zhv => rfl); (case zhc => decide))
  k_with "mine locs" => ((repeat' (refine List.forall_mem_cons.mpr ⟨rfl, ?_⟩)); exact fun _ h => nomatch h)
  k_with "subscriptTail" => k_dflt ((with_reducible show wpAny _ _ (subscriptTail _ _ (Value.ref (TA.sg _)) (Value.int _ _)) _ _ _); refine' item_sg ?zhN ?zhH ?zhe ?zhhi ?zhz ?_; (case zhN => k_asm); (case zhH => walk_at "mine H"); (case zhe => first | exact rfl | exact (Int.natCast_add _ _).symm); (case zhhi => (try dsimp only at *); omega); (case zhz => walk_at "mine size"); intro c9 u9 hc9)
  k_with "subscriptTail" => k_dflt ((with_reducible show wpAny _ _ (subscriptTail _ _ (Value.str _ _) (Value.int _ _)) _ _ _); refine' item_S ?zhhi ?zhz ?_; (case zhhi => (try dsimp only at *); omega); (case zhz => walk_at "mine size"); intro c9 u9 hc9)
  k_with "subscriptTail Name Name str int" => k_dflt ((with_reducible show wpAny _ _ (subscriptTail _ _ (Value.str _ _) (Value.int _ _)) _ _ _); refine' item_S ?zhhi ?zhz ?_; (case zhhi => (try dsimp only at *); omega); (case zhz => walk_at "mine size"); intro c9 u9 hc9)
  trivial

variable {prog : Program} {w : World} {mean : ExcName → Option Value} {mg mb : Str → Option Value} {T : TA} {n0 : Led} {d : D} {dv : Value} {nx : Led}

theorem to_ok (x : Str) (u : Tok) (H : TokX w T n0 d dv nx) : Claim prog w mean mg mb 2 320 nx [.ref T.t, .str x u] (fun v nx' => TokX w T n0 { d with state := x } dv nx' ∧ v = .none) := by
  unfold Claim
  intro dp un gd cn cs a ccd cl outer A₀ base h₀ L m s Q E B F X N Tp hk hd hu hret
  refine wpAny_call ?_
  k_dflt cell_enter
  walk_at "mine steps"
  exact hret _ _ _ _ ⟨by assumption, rfl⟩ (by k_asm) (by k_asm)

theorem wait_ok (H : TokX w T n0 d dv nx) : Claim prog w mean mg mb 2 398 nx [.ref T.t] (fun v nx' => TokX w T n0 { d with waiting := true } dv nx' ∧ v = .none) := by
  unfold Claim
  intro dp un gd cn cs a ccd cl outer A₀ base h₀ L m s Q E B F X N Tp hk hd hu hret
  refine wpAny_call ?_
  k_dflt cell_enter
  walk_at "mine steps"
  exact hret _ _ _ _ ⟨by assumption, rfl⟩ (by k_asm) (by k_asm)

theorem take_ok (n : Nat) (u : Tok) (H : TokX w T n0 d dv nx) : Claim prog w mean mg mb 2 391 nx [.ref T.t, .int n u] (fun v nx' => TokX w T n0 { d with at_ := d.at_ + n } dv nx' ∧ v = .none) := by
  unfold Claim
  intro dp un gd cn cs a ccd cl outer A₀ base h₀ L m s Q E B F X N Tp hk hd hu hret
  refine wpAny_call ?_
  k_dflt cell_enter
  walk_at "mine steps"
  exact hret _ _ _ _ ⟨by assumption, rfl⟩ (by k_asm) (by k_asm)

theorem again_ok (x : Str) (u : Tok) (hz : 1 ≤ d.at_) (H : TokX w T n0 d dv nx) : Claim prog w mean mg mb 2 327 nx [.ref T.t, .str x u] (fun v nx' => TokX w T n0 { d with at_ := d.at_ - 1, state := x } dv nx' ∧ v = .none) := by
  unfold Claim
  intro dp un gd cn cs a ccd cl outer A₀ base h₀ L m s Q E B F X N Tp hk hd hu hret
  refine wpAny_call ?_
  k_dflt cell_enter
  walk_at "mine steps"
  exact hret _ _ _ _ ⟨by assumption, rfl⟩ (by k_asm) (by k_asm)

theorem sign_ok (x : Str) (u : Tok) (hz : d.out.length ≤ 1000000) (H : TokX w T n0 d dv nx) : Claim prog w mean mg mb 2 348 nx [.ref T.t, .str x u] (fun v nx' => TokX w T n0 { d with out := d.out ++ [[.str "char", .str x]] } dv nx' ∧ v = .none) := by
  unfold Claim
  intro dp un gd cn cs a ccd cl outer A₀ base h₀ L m s Q E B F X N Tp hk hd hu hret
  refine wpAny_call ?_
  k_dflt cell_enter
  walk_at "mine steps"
  exact hret _ _ _ _ ⟨by assumption, rfl⟩ (by k_asm) (by k_asm)

theorem eof_ok (hz : d.out.length ≤ 1000000) (H : TokX w T n0 d dv nx) : Claim prog w mean mg mb 2 369 nx [.ref T.t] (fun v nx' => TokX w T n0 { d with out := d.out ++ [[.str "eof"]], done := true } dv nx' ∧ v = .none) := by
  unfold Claim
  intro dp un gd cn cs a ccd cl outer A₀ base h₀ L m s Q E B F X N Tp hk hd hu hret
  refine wpAny_call ?_
  k_dflt cell_enter
  walk_at "mine steps"
  exact hret _ _ _ _ ⟨by assumption, rfl⟩ (by k_asm) (by k_asm)

theorem error_ok (x : Str) (u : Tok) (hz : d.errs.length ≤ 1000000) (H : TokX w T n0 d dv nx) : Claim prog w mean mg mb 2 334 nx [.ref T.t, .str x u] (fun v nx' => TokX w T n0 { d with errs := d.errs ++ [[.str x, .int ((d.at_ : Int) - 1)]] } dv nx' ∧ v = .none) := by
  unfold Claim
  intro dp un gd cn cs a ccd cl outer A₀ base h₀ L m s Q E B F X N Tp hk hd hu hret
  refine wpAny_call ?_
  k_dflt cell_enter
  walk_at "mine steps"
  exact hret _ _ _ _ ⟨by assumption, rfl⟩ (by k_asm) (by k_asm)

theorem next_ok (hz : d.xs.length ≤ 1000000) (H : TokX w T n0 d dv nx) : Claim prog w mean mg mb 2 313 nx [.ref T.t] (fun v nx' => TokX w T n0 { d with at_ := d.at_ + 1 } dv nx' ∧ IsStr v (S (d.xs[d.at_]?.toList))) := by
  unfold Claim
  intro dp un gd cn cs a ccd cl outer A₀ base h₀ L m s Q E B F X N Tp hk hd hu hret
  refine wpAny_call ?_
  k_dflt cell_enter
  walk_at "mine steps"
  · dsimp only at *
    exact hret _ _ _ _ ⟨by assumption, .mk (by rw [‹d.xs[d.at_]? = some _›]; rfl)⟩ (by k_asm) (by k_asm)
  · dsimp only at *
    exact hret _ _ _ _ ⟨by assumption, .mk (by rw [List.getElem?_eq_none (by omega)]; rfl)⟩ (by k_asm) (by k_asm)

end B1

section B2
open PySem PySem.W PyProof.Rows PySem.Calls
set_option maxRecDepth 100000
set_option maxHeartbeats 4000000
theorem lines_B2_1 : True := by
  w_top off
  k_with_none
  k_with "execs cons" => k_fold
  k_with "exec If" => k_fold
  k_with "exec Assign" => k_fold
  k_with "exec Expr" => k_fold
  k_with "exec Return" => k_fold
  k_with "callWith" => k_fold
  k_with "call ref" => k_fold
  k_with "eval Call Attribute" => k_fold
  k_with "eval Call" => k_fold
  k_with "isTrue Compare" => k_fold
  k_with "isTrue" => k_fold
  k_with "eval BinOp" => k_fold
  k_with "eval Compare" => k_fold
  k_with "eval BoolOp" => k_fold
  k_with "eval IfExp" => k_fold
  k_with "eval Subscript" => k_fold
  k_with "execs cons" => k_dflt (refine' gentok9 ?_; intro tk9)
  k_with "execs nil" => k_dflt (refine' gentok9 ?_; intro tk9)
  k_with "mine steps" => repeat' ((fail_if_success (with_reducible show wpAny _ _ (pyIter _) _ _ _)); (fail_if_success (with_reducible show wpAny _ _ (exec (Stmt.For _ (Expr.Name _ _) _ _ _) _) _ _ _)); first | (k_unfold; (try dsimp only)) | walk1 | (dsimp only; walk1) | (leave1; (try dsimp only)))
  k_with "mine H" => (first | (with_reducible assumption) | (with_reducible refine' TokX.cons1 ?zhhh; (case zhhh => with_reducible assumption)) | (with_reducible refine' TokX.cons2 ?zhhh; (case zhhh => with_reducible assumption)) | (with_reducible refine' TokX.cons3 ?zhhh; (case zhhh => with_reducible assumption)))
  k_with "mine row" => (first | (with_reducible assumption) | (apply RowIs.of; k_mem; (repeat' constructor); done))
  k_with "mine HD" => (first | (with_reducible assumption) | (exact TokX.dr (by with_reducible assumption) rfl) | (exact TokX.dr (by with_reducible assumption) (by with_reducible assumption)) | (exact DraftAt.keepA (by with_reducible assumption) (by with_reducible assumption)) | (exact TokX.dr (by with_reducible assumption) (by assumption)))
  k_with "mine fxnh" => ((case zhF => k_asm); (case zhX => k_asm); (case zhN => k_asm); (case zhH => walk_at "mine H"))
  k_with "getAttr ref" => k_dflt (first | (with_reducible refine' get_at ?zhF ?zhX ?zhN ?zhH ?_; walk_at "mine fxnh"; intro _) | (with_reducible refine' get_stream ?zhF ?zhX ?zhN ?zhH ?_; walk_at "mine fxnh") | (with_reducible refine' get_signs ?zhF ?zhX ?zhN ?zhH ?_; walk_at "mine fxnh") | (with_reducible refine' get_out ?zhF ?zhX ?zhN ?zhH ?_; walk_at "mine fxnh") | (with_reducible refine' get_errors ?zhF ?zhX ?zhN ?zhH ?_; walk_at "mine fxnh") | (with_reducible refine' get_draft ?zhF ?zhX ?zhN ?zhH ?_; walk_at "mine fxnh") | (with_reducible refine' get_state ?zhF ?zhX ?zhN ?zhH ?_; walk_at "mine fxnh"; intro _) | (with_reducible refine' get_states ?zhF ?zhX ?zhN ?zhH ?_; walk_at "mine fxnh") | (with_reducible refine' get_waiting ?zhF ?zhX ?zhN ?zhH ?_; walk_at "mine fxnh") | (with_reducible refine' get_done ?zhF ?zhX ?zhN ?zhH ?_; walk_at "mine fxnh") | (with_reducible refine' get_foreign ?zhF ?zhX ?zhN ?zhH ?_; walk_at "mine fxnh") | (with_reducible refine' get_last ?zhF ?zhX ?zhN ?zhH ?_; walk_at "mine fxnh"; intro _) | (with_reducible refine' get_closed ?zhF ?zhX ?zhN ?zhH ?_; walk_at "mine fxnh") | (with_reducible refine' get_return ?zhF ?zhX ?zhN ?zhH ?_; walk_at "mine fxnh") | (with_reducible refine' get_serr ?zhF ?zhX ?zhN ?zhH ?_; walk_at "mine fxnh") | (with_reducible refine' getd_text ?zhF ?zhX ?zhN ?zhH ?_; (case zhF => k_asm); (case zhX => k_asm); (case zhN => k_asm); (case zhH => walk_at "mine HD"); intro _) | (with_reducible refine' getd_kind ?zhF ?zhX ?zhN ?zhH ?_; (case zhF => k_asm); (case zhX => k_asm); (case zhN => k_asm); (case zhH => walk_at "mine HD"); intro _))
  k_with "setAttr ref" => k_dflt (first | (with_reducible refine' set_state ?zhF ?zhX ?zhN ?zhH ?_; walk_at "mine fxnh"; intro _ _ _ _ _ _) | (with_reducible refine' set_waiting ?zhF ?zhX ?zhN ?zhH ?_; walk_at "mine fxnh"; intro _ _ _ _ _ _) | (with_reducible refine' set_done ?zhF ?zhX ?zhN ?zhH ?_; walk_at "mine fxnh"; intro _ _ _ _ _ _) | (with_reducible refine' set_foreign ?zhF ?zhX ?zhN ?zhH ?_; walk_at "mine fxnh"; intro _ _ _ _ _ _) | (with_reducible refine' set_closed ?zhF ?zhX ?zhN ?zhH ?_; walk_at "mine fxnh"; intro _ _ _ _ _ _) | (with_reducible refine' set_return ?zhF ?zhX ?zhN ?zhH ?_; walk_at "mine fxnh"; intro _ _ _ _ _ _) | (with_reducible refine' set_draft_none ?zhF ?zhX ?zhN ?zhH ?_; walk_at "mine fxnh"; intro _ _ _ _ _ _) | (with_reducible refine' set_draft ?zhF ?zhX ?zhN ?zhH ?zhhy ?_; walk_at "mine fxnh"; (case zhhy => with_reducible assumption); intro _ _ _ _ _ _) | (with_reducible refine' setd_text ?zhF ?zhX ?zhN ?zhH ?zhhd ?zhhy ?_; walk_at "mine fxnh"; (case zhhd => first | with_reducible assumption | rfl); (case zhhy => first | exact rfl | exact S_app _ _ | (rw [S_fffd]; exact S_app _ _)); intro _ _ _ _ _) | ((with_reducible show wpAny _ _ (setAttr (Value.ref (TA.t _)) (PySem.Str.ofString "at") _) _ _ _); refine' set_at ?zhF ?zhX ?zhN ?zhH (Int.natCast_add _ _).symm ?_; walk_at "mine fxnh"; intro _ _ _ _ _ _) | ((with_reducible show wpAny _ _ (setAttr (Value.ref (TA.t _)) (PySem.Str.ofString "at") _) _ _ _); refine' set_at ?zhF ?zhX ?zhN ?zhH (cast_pred ?zhp) ?_; walk_at "mine fxnh"; (case zhp => first | with_reducible assumption | omega); intro _ _ _ _ _ _) | ((with_reducible show wpAny _ _ (setAttr (Value.ref (TA.t _)) (PySem.Str.ofString "at") _) _ _ _); refine' set_at ?zhF ?zhX ?zhN ?zhH (Eq.refl (Nat.cast _)) ?_; walk_at "mine fxnh"; intro _ _ _ _ _ _))
  k_with "getMethod ref" => k_dflt (first | ((with_reducible show wpAny _ _ (getMethod (Value.ref (TA.t _)) _ _) _ _ _); refine' tok_method ?zhF ?zhX ?zhN ?zhH ?zhg ?zhf ?zht ?zhl ?_; walk_at "mine fxnh"; (case zhg => k_dflt k_is); (case zhf => k_dflt k_is); (case zht => k_dflt k_is); (case zhl => intro _; rfl)) | ((with_reducible show wpAny _ _ (getMethod (Value.ref (TA.st _)) _ _) _ _ _); refine' str_method ?zhF ?zhX ?zhN ?zhH ?zhg ?zhf ?zht ?zhl ?_; walk_at "mine fxnh"; (case zhg => k_dflt k_is); (case zhf => k_dflt k_is); (case zht => k_dflt k_is); (case zhl => intro _; rfl)) | (refine' dr_method ?zhF ?zhX ?zhN ?zhH ?zhg ?zhf ?zht ?zhl ?_; (case zhF => k_asm); (case zhX => k_asm); (case zhN => k_asm); (case zhH => walk_at "mine HD"); (case zhg => k_dflt k_is); (case zhf => k_dflt k_is); (case zht => k_dflt k_is); (case zhl => intro _ _ _; rfl)) | ((with_reducible show wpAny _ _ (getMethod (Value.ref (TA.er _)) _ _) _ _ _); refine' app_method_er ?zhN ?zhH ?_; (case zhN => k_asm); (case zhH => walk_at "mine H")) | ((with_reducible show wpAny _ _ (getMethod (Value.ref (TA.ou _)) _ _) _ _ _); refine' app_method_ou ?zhN ?zhH ?_; (case zhN => k_asm); (case zhH => walk_at "mine H")) | ((with_reducible show wpAny _ _ (getMethod (Value.ref (TA.se _)) _ _) _ _ _); refine' app_method_se ?zhN ?zhH ?_; (case zhN => k_asm); (case zhH => walk_at "mine H")) | ((with_reducible show wpAny _ _ (getMethod (Value.ref (TA.sg _)) _ _) _ _ _); refine' app_method_sg ?zhN ?zhH ?_; (case zhN => k_asm); (case zhH => walk_at "mine H")))
  k_with "call builtin:list.append" => k_dflt (first | ((with_reducible show wpAny _ _ (call _ [Value.ref (TA.er _), _]) _ _ _); refine' app_er ?zhF ?zhN ?zhH ?zhr ?zhz ?_; (case zhF => k_asm); (case zhN => k_asm); (case zhH => walk_at "mine H"); (case zhr => walk_at "mine row"); (case zhz => walk_at "mine size"); intro _ _ _ _ _ _) | ((with_reducible show wpAny _ _ (call _ [Value.ref (TA.ou _), _]) _ _ _); refine' app_ou ?zhF ?zhN ?zhH ?zhr ?zhz ?_; (case zhF => k_asm); (case zhN => k_asm); (case zhH => walk_at "mine H"); (case zhr => walk_at "mine row"); (case zhz => walk_at "mine size"); intro _ _ _ _ _ _) | ((with_reducible show wpAny _ _ (call _ [Value.ref (TA.se _), _]) _ _ _); refine' app_se ?zhF ?zhN ?zhH ?zhr ?zhz ?_; (case zhF => k_asm); (case zhN => k_asm); (case zhH => walk_at "mine H"); (case zhr => walk_at "mine row"); (case zhz => walk_at "mine size"); intro _ _ _ _ _ _) | ((with_reducible show wpAny _ _ (call _ [Value.ref (TA.sg _), _]) _ _ _); refine' app_sg ?zhF ?zhN ?zhH ?zhhx ?zhz ?_; (case zhF => k_asm); (case zhN => k_asm); (case zhH => walk_at "mine H"); (case zhhx => first | exact S_nl | exact rfl); (case zhz => walk_at "mine size"); intro _ _ _ _ _ _))
  k_with "mine size" => first | with_reducible assumption | ((try dsimp only at *); omega) | ((try dsimp only at *); simp only [List.length_append, List.length_cons, List.length_nil, List.length_take, List.length_drop, List.length_map] at *; omega)
  k_with "call builtin:len" => k_dflt ((with_reducible refine' len_S ?zhz ?_); (case zhz => walk_at "mine size"))
  k_with "call builtin:ord" => k_dflt (with_reducible refine' ord_S ?_)
  k_with "call builtin:chr" => k_dflt (refine' chr_S (Int.natCast_add _ _).symm ?zhz ?_; (case zhz => omega))
  k_with "call builtin:len" => k_dflt (with_reducible refine' len_sg ?zhN ?zhH ?zhz ?_; (case zhN => k_asm); (case zhH => walk_at "mine H"); (case zhz => walk_at "mine size"))
  k_with "mine slen" => (simp only [S_fffd, S_len, S_nil, List.length_append, List.length_cons, List.length_nil, sizeLine]; omega)
  k_with "binaryOp Add str str" => k_dflt (refine' PyProof.Rows.add_str ?_ ?zhz9; (case zhz9 => walk_at "mine slen"); intro _ _)
  k_with "mine news" => first | k_asm | exact News.ofCons (by assumption)
  k_with "mine for" => ((rename Fr _ _ _ _ => lF'); (with_unfolding_all refine' For_invVF lF' ?zhk1 ?zhk2 ?_; (case zhk1 => exact rfl); (case zhk2 => exact rfl)))
  k_with "mine name" => k_dflt ((refine' nameX_L ?zhF ?zhv ?_ ?zha ?zhb ?zhc); (case zhF => k_asm); (case zha => rfl); (case zhb => rfl); (case zhv => rfl); (case zhc => decide))
  k_with "mine locs" => ((repeat' (refine List.forall_mem_cons.mpr ⟨rfl, ?_⟩)); exact fun _ h => nomatch h)
  k_with "subscriptTail" => k_dflt ((with_reducible show wpAny _ _ (subscriptTail _ _ (Value.ref (TA.sg _)) (Value.int _ _)) _ _ _); refine' item_sg ?zhN ?zhH ?zhe ?zhhi ?zhz ?_; (case zhN => k_asm); (case zhH => walk_at "mine H"); (case zhe => first | exact rfl | exact (Int.natCast_add _ _).symm); (case zhhi => (try dsimp only at *); omega); (case zhz => walk_at "mine size"); intro c9 u9 hc9)
  k_with "subscriptTail" => k_dflt ((with_reducible show wpAny _ _ (subscriptTail _ _ (Value.str _ _) (Value.int _ _)) _ _ _); refine' item_S ?zhhi ?zhz ?_; (case zhhi => (try dsimp only at *); omega); (case zhz => walk_at "mine size"); intro c9 u9 hc9)
  k_with "subscriptTail Name Name str int" => k_dflt ((with_reducible show wpAny _ _ (subscriptTail _ _ (Value.str _ _) (Value.int _ _)) _ _ _); refine' item_S ?zhhi ?zhz ?_; (case zhhi => (try dsimp only at *); omega); (case zhz => walk_at "mine size"); intro c9 u9 hc9)
  trivial

variable {prog : Program} {w : World} {mean : ExcName → Option Value} {mg mb : Str → Option Value} {T : TA} {n0 : Led} {d : D} {dv : Value} {nx : Led}


theorem draft_ok (u1 u2 : Tok) (H : TokX w T n0 d dv nx) : Claim prog w mean mg mb 4 73 nx [.str "comment" u1, .str "" u2] (fun v nx' => ∃ x, v = .ref x ∧ DraftAt w T nx' (.ref x) (some []) ∧ TokX w T n0 d dv nx' ∧ KeepA T nx nx') := by
  unfold Claim
  intro dp un gd cn cs a ccd cl outer A₀ base h₀ L m s Q E B F X N Tp hk hd hu hret
  obtain ⟨k1, k2, k3, k4, k5⟩ := cs
  obtain rfl : k1 = .function := hk
  walk_at "mine steps"
  refine' hret _ _ _ _ ?R ?F ?N
  case F => k_asm
  case N => k_asm
  case R =>
    refine ⟨_, rfl, ⟨_, _, _, ⟨_, _, _, _, _, _, _, _, _, _⟩, _, _, rfl, by k_mem, by k_mem, ?_, ?_⟩, H.cons3, fun p hp _ => List.Mem.tail _ (List.Mem.tail _ (List.Mem.tail _ hp))⟩
    · exact H.off ‹∀ (p : Addr × Obj), p ∈ nx → p.fst < _› (Nat.le_of_lt (by assumption))
    · exact H.off ‹∀ (p : Addr × Obj), p ∈ nx → p.fst < _› (Nat.le_refl _)

theorem lines_B2_2 : True := by
  k_with "call ref" => ((with_reducible show wpAny _ _ (call (Value.ref 73) _) _ _ _); k_dflt (refine' Claim.use (draft_ok _ _ ?zhH) ?zhB ?zhF ?zhX ?zhN ?zhT ?zhkk ?zhd ?zhu ?_; (case zhB => k_asm); (case zhF => k_asm); (case zhX => k_asm); (case zhN => k_asm); (case zhT => k_asm); (case zhkk => rfl); (case zhH => walk_at "mine H"); (case zhd => ktr_room); (case zhu => ktr_units); rintro _ _ _ _ ⟨_, hv9, _, _, _⟩ _ _; subst hv9))
  trivial


theorem open_comment_ok (x : Str) (u : Tok) (l : List Nat) (hx : x = S l) (H : TokX w T n0 d dv nx) : Claim prog w mean mg mb 6 84 nx [.ref T.t, .str x u] (fun v nx' => ∃ y, TokX w T n0 { d with draft := some l } (.ref y) nx' ∧ v = .none) := by
  subst hx
  unfold Claim
  intro dp un gd cn cs a ccd cl outer A₀ base h₀ L m s Q E B F X N Tp hk hd hu hret
  refine wpAny_call ?_
  k_dflt cell_enter
  walk_at "mine steps"
  exact hret _ _ _ _ ⟨_, by assumption, rfl⟩ (by k_asm) (by k_asm)

theorem token_ok {l : List Nat} {x : Addr} (H : TokX w T n0 d dv nx) (HD : DraftAt w T nx (.ref x) (some l)) : Claim prog w mean mg mb 3 70 nx [.ref x] (fun v nx' => RowIs nx' v [.str "comment", .str (S l)] ∧ TokX w T n0 d dv nx' ∧ KeepA T nx nx') := by
  unfold Claim
  intro dp un gd cn cs a ccd cl outer A₀ base h₀ L m s Q E B F X N Tp hk hd hu hret
  refine wpAny_call ?_
  k_dflt cell_enter
  walk_at "mine steps"
  refine' hret _ _ _ _ ?R ?F ?N
  case F => k_asm
  case N => k_asm
  case R => exact ⟨by walk_at "mine row", H.cons1, fun p hp _ => List.Mem.tail _ hp⟩

theorem lines_B2_3 : True := by
  k_with "subscriptTail" => (k_dflt (refine' item_tupleT ?zht ?zha ?zhb ?zhc ?zhd ?_; (case zht => exact News.isTup (by k_asm) (by with_reducible assumption)); (case zha => decide); (case zhb => decide); (case zhc => rfl); (case zhd => rfl)))
  trivial


theorem emit_ok {l : List Nat} {v : Value} (hr : RowIs nx v [.str "comment", .str (S l)]) (hz : d.out.length ≤ 1000000) (H : TokX w T n0 d dv nx) : Claim prog w mean mg mb 3 341 nx [.ref T.t, v] (fun v nx' => TokX w T n0 { d with out := d.out ++ [[.str "comment", .str (S l)]] } dv nx' ∧ v = .none) := by
  have hr' := hr
  obtain ⟨a9, vs9, n9, rfl, m9, dd9⟩ := hr'
  cases dd9 with
  | cons e1 dd9 =>
  cases dd9 with
  | cons e2 dd9 =>
  cases dd9
  cases e1
  cases e2
  unfold Claim
  intro dp un gd cn cs a ccd cl outer A₀ base h₀ L m s Q E B F X N Tp hk hd hu hret
  refine wpAny_call ?_
  k_dflt cell_enter
  walk_at "mine steps"
  exact hret _ _ _ _ ⟨by assumption, rfl⟩ (by k_asm) (by k_asm)

theorem lines_B2_4 : True := by
  k_with "call ref" => ((with_reducible show wpAny _ _ (call (Value.ref 70) _) _ _ _); k_dflt (refine' Claim.use (token_ok ?zhH ?zhHD) ?zhB ?zhF ?zhX ?zhN ?zhT ?zhkk ?zhd ?zhu ?_; (case zhB => k_asm); (case zhF => k_asm); (case zhX => k_asm); (case zhN => k_asm); (case zhT => k_asm); (case zhkk => rfl); (case zhH => walk_at "mine H"); (case zhHD => walk_at "mine HD"); (case zhd => ktr_room); (case zhu => ktr_units); rintro _ _ _ _ ⟨_, _, _⟩ _ _))
  k_with "call ref" => ((with_reducible show wpAny _ _ (call (Value.ref 341) _) _ _ _); k_dflt (refine' Claim.use (emit_ok ?zhr ?zhz ?zhH) ?zhB ?zhF ?zhX ?zhN ?zhT ?zhkk ?zhd ?zhu ?_; (case zhB => k_asm); (case zhF => k_asm); (case zhX => k_asm); (case zhN => k_asm); (case zhT => k_asm); (case zhkk => rfl); (case zhr => with_reducible assumption); (case zhH => walk_at "mine H"); (case zhz => walk_at "mine size"); (case zhd => ktr_room); (case zhu => ktr_units); rintro _ _ _ _ ⟨_, hv9⟩ _ _; subst hv9))
  k_with "call ref" => ((with_reducible show wpAny _ _ (call (Value.ref 334) _) _ _ _); k_dflt (refine' Claim.use (error_ok _ _ ?zhz ?zhH) ?zhB ?zhF ?zhX ?zhN ?zhT ?zhkk ?zhd ?zhu ?_; (case zhB => k_asm); (case zhF => k_asm); (case zhX => k_asm); (case zhN => k_asm); (case zhT => k_asm); (case zhkk => rfl); (case zhH => walk_at "mine H"); (case zhz => walk_at "mine size"); (case zhd => ktr_room); (case zhu => ktr_units); rintro _ _ _ _ ⟨_, hv9⟩ _ _; subst hv9))
  trivial


theorem emit_draft_ok {l : List Nat} (hd : d.draft = some l) (hz : d.out.length ≤ 1000000) (H : TokX w T n0 d dv nx) : Claim prog w mean mg mb 5 362 nx [.ref T.t] (fun v nx' => TokX w T n0 { d with out := d.out ++ [[.str "comment", .str (S l)]], draft := none } .none nx' ∧ v = .none) := by
  have HD := TokX.dr H hd
  obtain ⟨x, hx⟩ : ∃ x, dv = .ref x := by obtain ⟨x, _, _, _, _, _, e, _⟩ := id HD; exact ⟨x, e⟩
  subst hx
  unfold Claim
  intro dp un gd cn cs a ccd cl outer A₀ base h₀ L m s Q E B F X N Tp hk hd hu hret
  refine wpAny_call ?_
  k_dflt cell_enter
  walk_at "mine steps"
  exact hret _ _ _ _ ⟨by assumption, rfl⟩ (by k_asm) (by k_asm)

theorem null_ok {l : List Nat} (hd : d.draft = some l) (hl : l.length ≤ 1000000) (hz : d.errs.length ≤ 1000000) (H : TokX w T n0 d dv nx) : Claim prog w mean mg mb 5 98 nx [.ref T.t] (fun v nx' => TokX w T n0 { d with errs := d.errs ++ [[.str "unexpected-null-character", .int ((d.at_ : Int) - 1)]], draft := some (l ++ [65533]) } dv nx' ∧ v = .none) := by
  have HD := TokX.dr H hd
  obtain ⟨x, hx⟩ : ∃ x, dv = .ref x := by obtain ⟨x, _, _, _, _, _, e, _⟩ := id HD; exact ⟨x, e⟩
  subst hx
  unfold Claim
  intro dp un gd cn cs a ccd cl outer A₀ base h₀ L m s Q E B F X N Tp hk hd hu hret
  refine wpAny_call ?_
  k_dflt cell_enter
  walk_at "mine steps"
  exact hret _ _ _ _ ⟨by assumption, rfl⟩ (by k_asm) (by k_asm)

theorem lines_B2_5 : True := by
  k_with "call ref" => ((with_reducible show wpAny _ _ (call (Value.ref 320) _) _ _ _); k_dflt (refine' Claim.use (to_ok _ _ ?zhH) ?zhB ?zhF ?zhX ?zhN ?zhT ?zhkk ?zhd ?zhu ?_; (case zhB => k_asm); (case zhF => k_asm); (case zhX => k_asm); (case zhN => k_asm); (case zhT => k_asm); (case zhkk => rfl); (case zhH => walk_at "mine H"); (case zhd => ktr_room); (case zhu => ktr_units); rintro _ _ _ _ ⟨_, hv9⟩ _ _; subst hv9))
  k_with "call ref" => ((with_reducible show wpAny _ _ (call (Value.ref 362) _) _ _ _); k_dflt (refine' Claim.use (emit_draft_ok ?zhhd ?zhz ?zhH) ?zhB ?zhF ?zhX ?zhN ?zhT ?zhkk ?zhd ?zhu ?_; (case zhB => k_asm); (case zhF => k_asm); (case zhX => k_asm); (case zhN => k_asm); (case zhT => k_asm); (case zhkk => rfl); (case zhH => walk_at "mine H"); (case zhhd => first | rfl | with_reducible assumption); (case zhz => walk_at "mine size"); (case zhd => ktr_room); (case zhu => ktr_units); rintro _ _ _ _ ⟨_, hv9⟩ _ _; subst hv9))
  trivial


theorem close_ok {l : List Nat} (hd : d.draft = some l) (hz : d.out.length ≤ 1000000) (H : TokX w T n0 d dv nx) : Claim prog w mean mg mb 8 91 nx [.ref T.t] (fun v nx' => TokX w T n0 { d with state := "data", out := d.out ++ [[.str "comment", .str (S l)]], draft := none } .none nx' ∧ v = .none) := by
  unfold Claim
  intro dp un gd cn cs a ccd cl outer A₀ base h₀ L m s Q E B F X N Tp hk hd hu hret
  refine wpAny_call ?_
  k_dflt cell_enter
  walk_at "mine steps"
  exact hret _ _ _ _ ⟨by assumption, rfl⟩ (by k_asm) (by k_asm)

end B2

section B3
open PySem PySem.W PyProof.Rows PySem.Calls
set_option maxRecDepth 100000
set_option maxHeartbeats 4000000
theorem lines_B3_1 : True := by
  w_top off
  k_with_none
  k_with "execs cons" => k_fold
  k_with "exec If" => k_fold
  k_with "exec Assign" => k_fold
  k_with "exec Expr" => k_fold
  k_with "exec Return" => k_fold
  k_with "callWith" => k_fold
  k_with "call ref" => k_fold
  k_with "mine steps" => repeat' ((fail_if_success (with_reducible show wpAny _ _ (pyIter _) _ _ _)); (fail_if_success (with_reducible show wpAny _ _ (exec (Stmt.For _ (Expr.Name _ _) _ _ _) _) _ _ _)); first | (k_unfold; (try dsimp only)) | walk1 | (dsimp only; walk1) | (leave1; (try dsimp only)))
  k_with "mine H" => (first | (with_reducible assumption) | (with_reducible refine' TokX.cons1 ?zhhh; (case zhhh => with_reducible assumption)) | (with_reducible refine' TokX.cons2 ?zhhh; (case zhhh => with_reducible assumption)) | (with_reducible refine' TokX.cons3 ?zhhh; (case zhhh => with_reducible assumption)))
  k_with "mine row" => (first | (with_reducible assumption) | (apply RowIs.of; k_mem; (repeat' constructor); done))
  k_with "mine HD" => (first | (with_reducible assumption) | (exact TokX.dr (by with_reducible assumption) rfl) | (exact TokX.dr (by with_reducible assumption) (by with_reducible assumption)) | (exact DraftAt.keepA (by with_reducible assumption) (by with_reducible assumption)) | (exact TokX.dr (by with_reducible assumption) (by assumption)))
  k_with "mine fxnh" => ((case zhF => k_asm); (case zhX => k_asm); (case zhN => k_asm); (case zhH => walk_at "mine H"))
  k_with "getAttr ref" => k_dflt (first | (with_reducible refine' get_at ?zhF ?zhX ?zhN ?zhH ?_; walk_at "mine fxnh"; intro _) | (with_reducible refine' get_stream ?zhF ?zhX ?zhN ?zhH ?_; walk_at "mine fxnh") | (with_reducible refine' get_signs ?zhF ?zhX ?zhN ?zhH ?_; walk_at "mine fxnh") | (with_reducible refine' get_out ?zhF ?zhX ?zhN ?zhH ?_; walk_at "mine fxnh") | (with_reducible refine' get_errors ?zhF ?zhX ?zhN ?zhH ?_; walk_at "mine fxnh") | (with_reducible refine' get_draft ?zhF ?zhX ?zhN ?zhH ?_; walk_at "mine fxnh") | (with_reducible refine' get_state ?zhF ?zhX ?zhN ?zhH ?_; walk_at "mine fxnh"; intro _) | (with_reducible refine' get_states ?zhF ?zhX ?zhN ?zhH ?_; walk_at "mine fxnh") | (with_reducible refine' get_waiting ?zhF ?zhX ?zhN ?zhH ?_; walk_at "mine fxnh") | (with_reducible refine' get_done ?zhF ?zhX ?zhN ?zhH ?_; walk_at "mine fxnh") | (with_reducible refine' get_foreign ?zhF ?zhX ?zhN ?zhH ?_; walk_at "mine fxnh") | (with_reducible refine' get_last ?zhF ?zhX ?zhN ?zhH ?_; walk_at "mine fxnh"; intro _) | (with_reducible refine' get_closed ?zhF ?zhX ?zhN ?zhH ?_; walk_at "mine fxnh") | (with_reducible refine' get_return ?zhF ?zhX ?zhN ?zhH ?_; walk_at "mine fxnh") | (with_reducible refine' get_serr ?zhF ?zhX ?zhN ?zhH ?_; walk_at "mine fxnh") | (with_reducible refine' getd_text ?zhF ?zhX ?zhN ?zhH ?_; (case zhF => k_asm); (case zhX => k_asm); (case zhN => k_asm); (case zhH => walk_at "mine HD"); intro _) | (with_reducible refine' getd_kind ?zhF ?zhX ?zhN ?zhH ?_; (case zhF => k_asm); (case zhX => k_asm); (case zhN => k_asm); (case zhH => walk_at "mine HD"); intro _))
  k_with "setAttr ref" => k_dflt (first | (with_reducible refine' set_state ?zhF ?zhX ?zhN ?zhH ?_; walk_at "mine fxnh"; intro _ _ _ _ _ _) | (with_reducible refine' set_waiting ?zhF ?zhX ?zhN ?zhH ?_; walk_at "mine fxnh"; intro _ _ _ _ _ _) | (with_reducible refine' set_done ?zhF ?zhX ?zhN ?zhH ?_; walk_at "mine fxnh"; intro _ _ _ _ _ _) | (with_reducible refine' set_foreign ?zhF ?zhX ?zhN ?zhH ?_; walk_at "mine fxnh"; intro _ _ _ _ _ _) | (with_reducible refine' set_closed ?zhF ?zhX ?zhN ?zhH ?_; walk_at "mine fxnh"; intro _ _ _ _ _ _) | (with_reducible refine' set_return ?zhF ?zhX ?zhN ?zhH ?_; walk_at "mine fxnh"; intro _ _ _ _ _ _) | (with_reducible refine' set_draft_none ?zhF ?zhX ?zhN ?zhH ?_; walk_at "mine fxnh"; intro _ _ _ _ _ _) | (with_reducible refine' set_draft ?zhF ?zhX ?zhN ?zhH ?zhhy ?_; walk_at "mine fxnh"; (case zhhy => with_reducible assumption); intro _ _ _ _ _ _) | (with_reducible refine' setd_text ?zhF ?zhX ?zhN ?zhH ?zhhd ?zhhy ?_; walk_at "mine fxnh"; (case zhhd => first | with_reducible assumption | rfl); (case zhhy => first | exact rfl | exact S_app _ _ | (rw [S_fffd]; exact S_app _ _)); intro _ _ _ _ _) | ((with_reducible show wpAny _ _ (setAttr (Value.ref (TA.t _)) (PySem.Str.ofString "at") _) _ _ _); refine' set_at ?zhF ?zhX ?zhN ?zhH (Int.natCast_add _ _).symm ?_; walk_at "mine fxnh"; intro _ _ _ _ _ _) | ((with_reducible show wpAny _ _ (setAttr (Value.ref (TA.t _)) (PySem.Str.ofString "at") _) _ _ _); refine' set_at ?zhF ?zhX ?zhN ?zhH (cast_pred ?zhp) ?_; walk_at "mine fxnh"; (case zhp => first | with_reducible assumption | omega); intro _ _ _ _ _ _) | ((with_reducible show wpAny _ _ (setAttr (Value.ref (TA.t _)) (PySem.Str.ofString "at") _) _ _ _); refine' set_at ?zhF ?zhX ?zhN ?zhH (Eq.refl (Nat.cast _)) ?_; walk_at "mine fxnh"; intro _ _ _ _ _ _))
  k_with "getMethod ref" => k_dflt (first | ((with_reducible show wpAny _ _ (getMethod (Value.ref (TA.t _)) _ _) _ _ _); refine' tok_method ?zhF ?zhX ?zhN ?zhH ?zhg ?zhf ?zht ?zhl ?_; walk_at "mine fxnh"; (case zhg => k_dflt k_is); (case zhf => k_dflt k_is); (case zht => k_dflt k_is); (case zhl => intro _; rfl)) | ((with_reducible show wpAny _ _ (getMethod (Value.ref (TA.st _)) _ _) _ _ _); refine' str_method ?zhF ?zhX ?zhN ?zhH ?zhg ?zhf ?zht ?zhl ?_; walk_at "mine fxnh"; (case zhg => k_dflt k_is); (case zhf => k_dflt k_is); (case zht => k_dflt k_is); (case zhl => intro _; rfl)) | (refine' dr_method ?zhF ?zhX ?zhN ?zhH ?zhg ?zhf ?zht ?zhl ?_; (case zhF => k_asm); (case zhX => k_asm); (case zhN => k_asm); (case zhH => walk_at "mine HD"); (case zhg => k_dflt k_is); (case zhf => k_dflt k_is); (case zht => k_dflt k_is); (case zhl => intro _ _ _; rfl)) | ((with_reducible show wpAny _ _ (getMethod (Value.ref (TA.er _)) _ _) _ _ _); refine' app_method_er ?zhN ?zhH ?_; (case zhN => k_asm); (case zhH => walk_at "mine H")) | ((with_reducible show wpAny _ _ (getMethod (Value.ref (TA.ou _)) _ _) _ _ _); refine' app_method_ou ?zhN ?zhH ?_; (case zhN => k_asm); (case zhH => walk_at "mine H")) | ((with_reducible show wpAny _ _ (getMethod (Value.ref (TA.se _)) _ _) _ _ _); refine' app_method_se ?zhN ?zhH ?_; (case zhN => k_asm); (case zhH => walk_at "mine H")) | ((with_reducible show wpAny _ _ (getMethod (Value.ref (TA.sg _)) _ _) _ _ _); refine' app_method_sg ?zhN ?zhH ?_; (case zhN => k_asm); (case zhH => walk_at "mine H")))
  k_with "call builtin:list.append" => k_dflt (first | ((with_reducible show wpAny _ _ (call _ [Value.ref (TA.er _), _]) _ _ _); refine' app_er ?zhF ?zhN ?zhH ?zhr ?zhz ?_; (case zhF => k_asm); (case zhN => k_asm); (case zhH => walk_at "mine H"); (case zhr => walk_at "mine row"); (case zhz => walk_at "mine size"); intro _ _ _ _ _ _) | ((with_reducible show wpAny _ _ (call _ [Value.ref (TA.ou _), _]) _ _ _); refine' app_ou ?zhF ?zhN ?zhH ?zhr ?zhz ?_; (case zhF => k_asm); (case zhN => k_asm); (case zhH => walk_at "mine H"); (case zhr => walk_at "mine row"); (case zhz => walk_at "mine size"); intro _ _ _ _ _ _) | ((with_reducible show wpAny _ _ (call _ [Value.ref (TA.se _), _]) _ _ _); refine' app_se ?zhF ?zhN ?zhH ?zhr ?zhz ?_; (case zhF => k_asm); (case zhN => k_asm); (case zhH => walk_at "mine H"); (case zhr => walk_at "mine row"); (case zhz => walk_at "mine size"); intro _ _ _ _ _ _) | ((with_reducible show wpAny _ _ (call _ [Value.ref (TA.sg _), _]) _ _ _); refine' app_sg ?zhF ?zhN ?zhH ?zhhx ?zhz ?_; (case zhF => k_asm); (case zhN => k_asm); (case zhH => walk_at "mine H"); (case zhhx => first | exact S_nl | exact rfl); (case zhz => walk_at "mine size"); intro _ _ _ _ _ _))
  k_with "mine size" => first | with_reducible assumption | ((try dsimp only at *); omega) | ((try dsimp only at *); simp only [List.length_append, List.length_cons, List.length_nil, List.length_take, List.length_drop, List.length_map] at *; omega)
  k_with "call builtin:len" => k_dflt ((with_reducible refine' len_S ?zhz ?_); (case zhz => walk_at "mine size"))
  k_with "call builtin:ord" => k_dflt (with_reducible refine' ord_S ?_)
  k_with "call builtin:chr" => k_dflt (refine' chr_S (Int.natCast_add _ _).symm ?zhz ?_; (case zhz => omega))
  k_with "call builtin:len" => k_dflt (with_reducible refine' len_sg ?zhN ?zhH ?zhz ?_; (case zhN => k_asm); (case zhH => walk_at "mine H"); (case zhz => walk_at "mine size"))
  k_with "mine slen" => (simp only [S_fffd, S_len, S_nil, List.length_append, List.length_cons, List.length_nil, sizeLine]; omega)
  k_with "binaryOp Add str str" => k_dflt (refine' PyProof.Rows.add_str ?_ ?zhz9; (case zhz9 => walk_at "mine slen"); intro _ _)
  k_with "mine news" => first | k_asm | exact News.ofCons (by assumption)
  k_with "mine for" => ((rename Fr _ _ _ _ => lF'); (with_unfolding_all refine' For_invVF lF' ?zhk1 ?zhk2 ?_; (case zhk1 => exact rfl); (case zhk2 => exact rfl)))
  k_with "mine name" => k_dflt ((refine' nameX_L ?zhF ?zhv ?_ ?zha ?zhb ?zhc); (case zhF => k_asm); (case zha => rfl); (case zhb => rfl); (case zhv => rfl); (case zhc => decide))
  k_with "mine locs" => ((repeat' (refine List.forall_mem_cons.mpr ⟨rfl, ?_⟩)); exact fun _ h => nomatch h)
  k_with "subscriptTail" => k_dflt ((with_reducible show wpAny _ _ (subscriptTail _ _ (Value.ref (TA.sg _)) (Value.int _ _)) _ _ _); refine' item_sg ?zhN ?zhH ?zhe ?zhhi ?zhz ?_; (case zhN => k_asm); (case zhH => walk_at "mine H"); (case zhe => first | exact rfl | exact (Int.natCast_add _ _).symm); (case zhhi => (try dsimp only at *); omega); (case zhz => walk_at "mine size"); intro c9 u9 hc9)
  k_with "subscriptTail" => k_dflt ((with_reducible show wpAny _ _ (subscriptTail _ _ (Value.str _ _) (Value.int _ _)) _ _ _); refine' item_S ?zhhi ?zhz ?_; (case zhhi => (try dsimp only at *); omega); (case zhz => walk_at "mine size"); intro c9 u9 hc9)
  k_with "subscriptTail Name Name str int" => k_dflt ((with_reducible show wpAny _ _ (subscriptTail _ _ (Value.str _ _) (Value.int _ _)) _ _ _); refine' item_S ?zhhi ?zhz ?_; (case zhhi => (try dsimp only at *); omega); (case zhz => walk_at "mine size"); intro c9 u9 hc9)
  trivial

variable {prog : Program} {w : World} {mean : ExcName → Option Value} {mg mb : Str → Option Value} {T : TA} {n0 : Led} {d : D} {dv : Value} {nx : Led}

theorem lt_A {c : Nat} : (S [c]).cps.toList < (Str.ofString "A").cps.toList ↔ c < 65 := by
  rw [show (Str.ofString "A").cps.toList = [65] from by decide +kernel, S_cps, List.cons_lt_cons_iff]
  simp
theorem lt_Z {c : Nat} : (Str.ofString "Z").cps.toList < (S [c]).cps.toList ↔ 90 < c := by
  rw [show (Str.ofString "Z").cps.toList = [90] from by decide +kernel, S_cps, List.cons_lt_cons_iff]
  simp

theorem is_upper_ok (c : Nat) (u : Tok) : Claim prog w mean mg mb 2 200 nx [.str (S [c]) u] (fun v nx' => nx' = nx ∧ v = .bool (upB c)) := by
  unfold Claim
  intro dp un gd cn cs a ccd cl outer A₀ base h₀ L m s Q E B F X N Tp hk hd hu hret
  refine wpAny_call ?_
  k_dflt cell_enter
  walk_at "mine steps"
  · refine hret _ nx _ _ ⟨rfl, ?_⟩ (by k_asm) (by k_asm)
    have h9 := ‹(S [c]).cps.toList < (Str.ofString "A").cps.toList›
    rw [lt_A] at h9
    have e : upB c = false := by unfold upB; exact decide_eq_false (by omega)
    rw [e, decide_eq_true (lt_A.mpr h9)]; rfl
  · refine hret _ nx _ _ ⟨rfl, ?_⟩ (by k_asm) (by k_asm)
    have h9 := ‹¬ (S [c]).cps.toList < (Str.ofString "A").cps.toList›
    rw [lt_A] at h9
    have e : decide ((Str.ofString "Z").cps.toList < (S [c]).cps.toList) = decide (90 < c) := decide_eq_decide.mpr lt_Z
    rw [e]
    unfold upB
    congr 1
    by_cases h : 90 < c
    · rw [decide_eq_true h, decide_eq_false (by omega)]; rfl
    · rw [decide_eq_false h, decide_eq_true (by omega)]; rfl

theorem lines_B3_2 : True := by
  k_with "call ref" => ((with_reducible show wpAny _ _ (call (Value.ref 200) _) _ _ _); k_dflt (refine' Claim.use (is_upper_ok _ _) ?zhB ?zhF ?zhX ?zhN ?zhT ?zhkk ?zhd ?zhu ?_; (case zhB => k_asm); (case zhF => k_asm); (case zhX => k_asm); (case zhN => k_asm); (case zhT => k_asm); (case zhkk => rfl); (case zhd => ktr_room); (case zhu => ktr_units); rintro _ _ _ _ ⟨hn9, hv9⟩ _ _; replace hn9 := Eq.symm hn9; subst hn9; subst hv9))
  trivial


theorem lower_ok (c : Nat) (u : Tok) (hz : c ≤ 1000000) : Claim prog w mean mg mb 4 207 nx [.str (S [c]) u] (fun v nx' => nx' = nx ∧ IsStr v (S [lowc c])) := by
  unfold Claim
  intro dp un gd cn cs a ccd cl outer A₀ base h₀ L m s Q E B F X N Tp hk hd hu hret
  refine wpAny_call ?_
  k_dflt cell_enter
  walk_at "mine steps"
  · refine hret _ nx _ _ ⟨rfl, .mk ?_⟩ (by k_asm) (by k_asm)
    have h9 := of_decide_eq_true ‹upB c = true›
    unfold lowc; rw [if_pos h9]
    exact congrArg (fun n => S [n]) (by omega)
  · refine hret _ nx _ _ ⟨rfl, .mk ?_⟩ (by k_asm) (by k_asm)
    have h8 : upB c = false := by first | assumption | simpa using ‹¬ upB c = true›
    have h9 : ¬ (65 ≤ c ∧ c ≤ 90) := of_decide_eq_false h8
    unfold lowc; rw [if_neg h9]

theorem looksF_none {xs word : List Nat} {closed folded : Bool} {k i : Nat} (hi : i < word.length) (hx : xs.length ≤ k) : looksF xs closed folded k (word.drop i) = if closed then 0 else -1 := by
  rw [List.drop_eq_getElem_cons hi]
  unfold looksF
  rw [List.getElem?_eq_none hx]
theorem looksF_some {xs word : List Nat} {closed folded : Bool} {k i w c : Nat} (hw : word[i]? = some w) (hx : xs[k]? = some c) :
    looksF xs closed folded k (word.drop i) = if (if folded = true then lowc c else c) = w then looksF xs closed folded (k + 1) (word.drop (i + 1)) else 0 := by
  obtain ⟨hi, rfl⟩ := List.getElem?_eq_some_iff.mp hw
  rw [List.drop_eq_getElem_cons hi]
  conv => lhs; unfold looksF
  rw [hx]

theorem lines_B3_3 : True := by
  k_with "TurnPost" => k_dflt ((with_reducible show TurnPost _ _ _ _ _ _ _ _ (Flow.ret _) _); (with_reducible refine turnPost_ret ?_); (try dsimp only))
  k_with "mine chr" => first | assumption | omega | exact Small.get (by assumption) (by assumption)
  k_with "call ref" => ((with_reducible show wpAny _ _ (call (Value.ref 207) _) _ _ _); k_dflt (refine' Claim.use (lower_ok _ _ ?zhz) ?zhB ?zhF ?zhX ?zhN ?zhT ?zhkk ?zhd ?zhu ?_; (case zhB => k_asm); (case zhF => k_asm); (case zhX => k_asm); (case zhN => k_asm); (case zhT => k_asm); (case zhkk => rfl); (case zhz => walk_at "mine chr"); (case zhd => ktr_room); (case zhu => ktr_units); rintro _ _ _ _ ⟨hn9, _, hv9⟩ _ _; replace hn9 := Eq.symm hn9; subst hn9; subst hv9))
  trivial


noncomputable def looksL (T : TA) (word : List Nat) (u : Tok) (f : Bool) : List (Str × Value) := [("self", .ref T.t), ("word", .str (S word) u), ("is_folded", .bool f), ("signs", .ref T.sg)]
theorem looks3_ok (word : List Nat) {x : Str} (u : Tok) (f : Bool) (ew : x = S word) (hz : d.xs.length ≤ 1000000) (hx : Small d.xs) (hw : word.length ≤ 1000) (H : TokX w T n0 d dv nx) : Claim prog w mean mg mb 8 384 nx [.ref T.t, .str x u, .bool f] (fun v nx' => nx' = nx ∧ IsInt v (looksF d.xs d.closed f d.at_ word)) := by
  subst ew
  unfold Claim
  intro dp un gd cn cs a ccd cl outer A₀ base h₀ L m s Q E B F X N Tp hk hd hu hret
  obtain ⟨k1, k2, k3, k4, k5⟩ := cs
  obtain rfl : k1 = .function := hk
  walk_at "mine steps"

  refine' range_loop (n := word.length) (fun i m1 nx1 => (∀ p ∈ looksL T word u f, m1 p.1 = some p.2) ∧ nx1 = nx ∧ looksF d.xs d.closed f d.at_ word = looksF d.xs d.closed f (d.at_ + i) (word.drop i)) ?hb ?hn ?hh ?hr ?F ?N ?hj ?turn ?done
  case hb => rfl
  case hn => omega
  case hh => rfl
  case hr => assumption
  case F => k_asm
  case N => k_asm
  case hj => exact ⟨by walk_at "mine locs", rfl, by simp⟩
  case turn =>
    rintro I i m1 nx1 h tk oI t hi hit hne ⟨hm, rfl, hj⟩ F1 N1
    have F2 := Mine.Fr.turn F1 hm
    clear F1
    unfold looksL at F2
    walk_at "mine steps"
    · exact hret _ _ _ _ ⟨rfl, .mk (by rw [hj, looksF_none hi (by omega), ‹d.closed = true›]; rfl)⟩ (by k_asm) (News.ofCons (p := (I, oI)) (by k_asm))
    · exact hret _ _ _ _ ⟨rfl, .mk (by rw [hj, looksF_none hi (by omega), ‹d.closed = false›]; rfl)⟩ (by k_asm) (News.ofCons (p := (I, oI)) (by k_asm))
    · have e1 := looksF_some (closed := d.closed) (folded := f) ‹word[i]? = some _› ‹d.xs[d.at_ + i]? = some _›
      have e2 := S_ne ‹(S [_] != S [_]) = true›
      exact hret _ _ _ _ ⟨rfl, .mk (by rw [hj, e1, ‹f = true›, if_pos rfl, if_neg e2])⟩ (by k_asm) (News.ofCons (p := (I, oI)) (by k_asm))
    · have e1 := looksF_some (closed := d.closed) (folded := f) ‹word[i]? = some _› ‹d.xs[d.at_ + i]? = some _›
      have e2 := S_eq ‹(S [_] != S [_]) = false›
      exact turnPost_next (by k_asm) (by k_asm) hne (fun _ h => nomatch h) ⟨by walk_at "mine locs", rfl, by rw [hj, e1, ‹f = true›, if_pos rfl, if_pos e2]; rfl⟩
    · have e1 := looksF_some (closed := d.closed) (folded := f) ‹word[i]? = some _› ‹d.xs[d.at_ + i]? = some _›
      have e2 := S_ne ‹(S [_] != S [_]) = true›
      exact hret _ _ _ _ ⟨rfl, .mk (by rw [hj, e1, ‹f = false›]; simp [e2])⟩ (by k_asm) (News.ofCons (p := (I, oI)) (by k_asm))
    · have e1 := looksF_some (closed := d.closed) (folded := f) ‹word[i]? = some _› ‹d.xs[d.at_ + i]? = some _›
      have e2 := S_eq ‹(S [_] != S [_]) = false›
      exact turnPost_next (by k_asm) (by k_asm) hne (fun _ h => nomatch h) ⟨by walk_at "mine locs", rfl, by rw [hj, e1, ‹f = false›]; simp [e2]; rfl⟩
  case done =>
    rintro m1 nx1 h tk ⟨hm, rfl, hj⟩ F1 N1
    have F2 := Mine.Fr.ovl F1 hm
    clear F1
    unfold looksL at F2
    dsimp only
    walk_at "mine steps"
    exact hret _ _ _ _ ⟨rfl, .mk (by rw [hj]; simp [looksF])⟩ (by k_asm) (by k_asm)


theorem looks2_ok (word : List Nat) {x : Str} (u : Tok) (ew : x = S word) (hz : d.xs.length ≤ 1000000) (hx : Small d.xs) (hw : word.length ≤ 1000) (H : TokX w T n0 d dv nx) : Claim prog w mean mg mb 8 384 nx [.ref T.t, .str x u] (fun v nx' => nx' = nx ∧ IsInt v (looksF d.xs d.closed false d.at_ word)) := by
  subst ew
  unfold Claim
  intro dp un gd cn cs a ccd cl outer A₀ base h₀ L m s Q E B F X N Tp hk hd hu hret
  obtain ⟨k1, k2, k3, k4, k5⟩ := cs
  obtain rfl : k1 = .function := hk
  walk_at "mine steps"

  refine' range_loop (n := word.length) (fun i m1 nx1 => (∀ p ∈ looksL T word u false, m1 p.1 = some p.2) ∧ nx1 = nx ∧ looksF d.xs d.closed false d.at_ word = looksF d.xs d.closed false (d.at_ + i) (word.drop i)) ?hb ?hn ?hh ?hr ?F ?N ?hj ?turn ?done
  case hb => rfl
  case hn => omega
  case hh => rfl
  case hr => assumption
  case F => k_asm
  case N => k_asm
  case hj => exact ⟨by walk_at "mine locs", rfl, by simp⟩
  case turn =>
    rintro I i m1 nx1 h tk oI t hi hit hne ⟨hm, rfl, hj⟩ F1 N1
    have F2 := Mine.Fr.turn F1 hm
    clear F1
    unfold looksL at F2
    walk_at "mine steps"
    · exact hret _ _ _ _ ⟨rfl, .mk (by rw [hj, looksF_none hi (by omega), ‹d.closed = true›]; rfl)⟩ (by k_asm) (News.ofCons (p := (I, oI)) (by k_asm))
    · exact hret _ _ _ _ ⟨rfl, .mk (by rw [hj, looksF_none hi (by omega), ‹d.closed = false›]; rfl)⟩ (by k_asm) (News.ofCons (p := (I, oI)) (by k_asm))
    · have e1 := looksF_some (closed := d.closed) (folded := false) ‹word[i]? = some _› ‹d.xs[d.at_ + i]? = some _›
      have e2 := S_ne ‹(S [_] != S [_]) = true›
      exact hret _ _ _ _ ⟨rfl, .mk (by rw [hj, e1]; simp [e2])⟩ (by k_asm) (News.ofCons (p := (I, oI)) (by k_asm))
    · have e1 := looksF_some (closed := d.closed) (folded := false) ‹word[i]? = some _› ‹d.xs[d.at_ + i]? = some _›
      have e2 := S_eq ‹(S [_] != S [_]) = false›
      exact turnPost_next (by k_asm) (by k_asm) hne (fun _ h => nomatch h) ⟨by walk_at "mine locs", rfl, by rw [hj, e1]; simp [e2]; rfl⟩
  case done =>
    rintro m1 nx1 h tk ⟨hm, rfl, hj⟩ F1 N1
    have F2 := Mine.Fr.ovl F1 hm
    clear F1
    unfold looksL at F2
    dsimp only
    walk_at "mine steps"
    exact hret _ _ _ _ ⟨rfl, .mk (by rw [hj]; simp [looksF])⟩ (by k_asm) (by k_asm)


end B3

section B4
open PySem PySem.W PyProof.Rows PySem.Calls
set_option maxRecDepth 100000
set_option maxHeartbeats 4000000
theorem lines_B4_1 : True := by
  w_top off
  k_with_none
  k_with "execs cons" => k_fold
  k_with "exec If" => k_fold
  k_with "exec Assign" => k_fold
  k_with "exec Expr" => k_fold
  k_with "exec Return" => k_fold
  k_with "callWith" => k_fold
  k_with "call ref" => k_fold
  k_with "eval Call Attribute" => k_fold
  k_with "eval Call" => k_fold
  k_with "isTrue Compare" => k_fold
  k_with "isTrue" => k_fold
  k_with "eval BinOp" => k_fold
  k_with "eval Compare" => k_fold
  k_with "eval BoolOp" => k_fold
  k_with "eval IfExp" => k_fold
  k_with "eval Subscript" => k_fold
  k_with "mine steps" => repeat' ((fail_if_success (with_reducible show wpAny _ _ (pyIter _) _ _ _)); (fail_if_success (with_reducible show wpAny _ _ (exec (Stmt.For _ (Expr.Name _ _) _ _ _) _) _ _ _)); first | (k_unfold; (try dsimp only)) | walk1 | (dsimp only; walk1) | (leave1; (try dsimp only)))
  k_with "mine H" => (first | (with_reducible assumption) | (with_reducible refine' TokX.cons1 ?zhhh; (case zhhh => with_reducible assumption)) | (with_reducible refine' TokX.cons2 ?zhhh; (case zhhh => with_reducible assumption)) | (with_reducible refine' TokX.cons3 ?zhhh; (case zhhh => with_reducible assumption)))
  k_with "mine row" => (first | (with_reducible assumption) | (apply RowIs.of; k_mem; (repeat' constructor); done))
  k_with "mine HD" => (first | (with_reducible assumption) | (exact TokX.dr (by with_reducible assumption) rfl) | (exact TokX.dr (by with_reducible assumption) (by with_reducible assumption)) | (exact DraftAt.keepA (by with_reducible assumption) (by with_reducible assumption)) | (exact TokX.dr (by with_reducible assumption) (by assumption)))
  k_with "mine fxnh" => ((case zhF => k_asm); (case zhX => k_asm); (case zhN => k_asm); (case zhH => walk_at "mine H"))
  k_with "getAttr ref" => k_dflt (first | (with_reducible refine' get_at ?zhF ?zhX ?zhN ?zhH ?_; walk_at "mine fxnh"; intro _) | (with_reducible refine' get_stream ?zhF ?zhX ?zhN ?zhH ?_; walk_at "mine fxnh") | (with_reducible refine' get_signs ?zhF ?zhX ?zhN ?zhH ?_; walk_at "mine fxnh") | (with_reducible refine' get_out ?zhF ?zhX ?zhN ?zhH ?_; walk_at "mine fxnh") | (with_reducible refine' get_errors ?zhF ?zhX ?zhN ?zhH ?_; walk_at "mine fxnh") | (with_reducible refine' get_draft ?zhF ?zhX ?zhN ?zhH ?_; walk_at "mine fxnh") | (with_reducible refine' get_state ?zhF ?zhX ?zhN ?zhH ?_; walk_at "mine fxnh"; intro _) | (with_reducible refine' get_states ?zhF ?zhX ?zhN ?zhH ?_; walk_at "mine fxnh") | (with_reducible refine' get_waiting ?zhF ?zhX ?zhN ?zhH ?_; walk_at "mine fxnh") | (with_reducible refine' get_done ?zhF ?zhX ?zhN ?zhH ?_; walk_at "mine fxnh") | (with_reducible refine' get_foreign ?zhF ?zhX ?zhN ?zhH ?_; walk_at "mine fxnh") | (with_reducible refine' get_last ?zhF ?zhX ?zhN ?zhH ?_; walk_at "mine fxnh"; intro _) | (with_reducible refine' get_closed ?zhF ?zhX ?zhN ?zhH ?_; walk_at "mine fxnh") | (with_reducible refine' get_return ?zhF ?zhX ?zhN ?zhH ?_; walk_at "mine fxnh") | (with_reducible refine' get_serr ?zhF ?zhX ?zhN ?zhH ?_; walk_at "mine fxnh") | (with_reducible refine' getd_text ?zhF ?zhX ?zhN ?zhH ?_; (case zhF => k_asm); (case zhX => k_asm); (case zhN => k_asm); (case zhH => walk_at "mine HD"); intro _) | (with_reducible refine' getd_kind ?zhF ?zhX ?zhN ?zhH ?_; (case zhF => k_asm); (case zhX => k_asm); (case zhN => k_asm); (case zhH => walk_at "mine HD"); intro _))
  k_with "setAttr ref" => k_dflt (first | (with_reducible refine' set_state ?zhF ?zhX ?zhN ?zhH ?_; walk_at "mine fxnh"; intro _ _ _ _ _ _) | (with_reducible refine' set_waiting ?zhF ?zhX ?zhN ?zhH ?_; walk_at "mine fxnh"; intro _ _ _ _ _ _) | (with_reducible refine' set_done ?zhF ?zhX ?zhN ?zhH ?_; walk_at "mine fxnh"; intro _ _ _ _ _ _) | (with_reducible refine' set_foreign ?zhF ?zhX ?zhN ?zhH ?_; walk_at "mine fxnh"; intro _ _ _ _ _ _) | (with_reducible refine' set_closed ?zhF ?zhX ?zhN ?zhH ?_; walk_at "mine fxnh"; intro _ _ _ _ _ _) | (with_reducible refine' set_return ?zhF ?zhX ?zhN ?zhH ?_; walk_at "mine fxnh"; intro _ _ _ _ _ _) | (with_reducible refine' set_draft_none ?zhF ?zhX ?zhN ?zhH ?_; walk_at "mine fxnh"; intro _ _ _ _ _ _) | (with_reducible refine' set_draft ?zhF ?zhX ?zhN ?zhH ?zhhy ?_; walk_at "mine fxnh"; (case zhhy => with_reducible assumption); intro _ _ _ _ _ _) | (with_reducible refine' setd_text ?zhF ?zhX ?zhN ?zhH ?zhhd ?zhhy ?_; walk_at "mine fxnh"; (case zhhd => first | with_reducible assumption | rfl); (case zhhy => first | exact rfl | exact S_app _ _ | (rw [S_fffd]; exact S_app _ _)); intro _ _ _ _ _) | ((with_reducible show wpAny _ _ (setAttr (Value.ref (TA.t _)) (PySem.Str.ofString "at") _) _ _ _); refine' set_at ?zhF ?zhX ?zhN ?zhH (Int.natCast_add _ _).symm ?_; walk_at "mine fxnh"; intro _ _ _ _ _ _) | ((with_reducible show wpAny _ _ (setAttr (Value.ref (TA.t _)) (PySem.Str.ofString "at") _) _ _ _); refine' set_at ?zhF ?zhX ?zhN ?zhH (cast_pred ?zhp) ?_; walk_at "mine fxnh"; (case zhp => first | with_reducible assumption | omega); intro _ _ _ _ _ _) | ((with_reducible show wpAny _ _ (setAttr (Value.ref (TA.t _)) (PySem.Str.ofString "at") _) _ _ _); refine' set_at ?zhF ?zhX ?zhN ?zhH (Eq.refl (Nat.cast _)) ?_; walk_at "mine fxnh"; intro _ _ _ _ _ _))
  k_with "getMethod ref" => k_dflt (first | ((with_reducible show wpAny _ _ (getMethod (Value.ref (TA.t _)) _ _) _ _ _); refine' tok_method ?zhF ?zhX ?zhN ?zhH ?zhg ?zhf ?zht ?zhl ?_; walk_at "mine fxnh"; (case zhg => k_dflt k_is); (case zhf => k_dflt k_is); (case zht => k_dflt k_is); (case zhl => intro _; rfl)) | ((with_reducible show wpAny _ _ (getMethod (Value.ref (TA.st _)) _ _) _ _ _); refine' str_method ?zhF ?zhX ?zhN ?zhH ?zhg ?zhf ?zht ?zhl ?_; walk_at "mine fxnh"; (case zhg => k_dflt k_is); (case zhf => k_dflt k_is); (case zht => k_dflt k_is); (case zhl => intro _; rfl)) | (refine' dr_method ?zhF ?zhX ?zhN ?zhH ?zhg ?zhf ?zht ?zhl ?_; (case zhF => k_asm); (case zhX => k_asm); (case zhN => k_asm); (case zhH => walk_at "mine HD"); (case zhg => k_dflt k_is); (case zhf => k_dflt k_is); (case zht => k_dflt k_is); (case zhl => intro _ _ _; rfl)) | ((with_reducible show wpAny _ _ (getMethod (Value.ref (TA.er _)) _ _) _ _ _); refine' app_method_er ?zhN ?zhH ?_; (case zhN => k_asm); (case zhH => walk_at "mine H")) | ((with_reducible show wpAny _ _ (getMethod (Value.ref (TA.ou _)) _ _) _ _ _); refine' app_method_ou ?zhN ?zhH ?_; (case zhN => k_asm); (case zhH => walk_at "mine H")) | ((with_reducible show wpAny _ _ (getMethod (Value.ref (TA.se _)) _ _) _ _ _); refine' app_method_se ?zhN ?zhH ?_; (case zhN => k_asm); (case zhH => walk_at "mine H")) | ((with_reducible show wpAny _ _ (getMethod (Value.ref (TA.sg _)) _ _) _ _ _); refine' app_method_sg ?zhN ?zhH ?_; (case zhN => k_asm); (case zhH => walk_at "mine H")))
  k_with "call builtin:list.append" => k_dflt (first | ((with_reducible show wpAny _ _ (call _ [Value.ref (TA.er _), _]) _ _ _); refine' app_er ?zhF ?zhN ?zhH ?zhr ?zhz ?_; (case zhF => k_asm); (case zhN => k_asm); (case zhH => walk_at "mine H"); (case zhr => walk_at "mine row"); (case zhz => walk_at "mine size"); intro _ _ _ _ _ _) | ((with_reducible show wpAny _ _ (call _ [Value.ref (TA.ou _), _]) _ _ _); refine' app_ou ?zhF ?zhN ?zhH ?zhr ?zhz ?_; (case zhF => k_asm); (case zhN => k_asm); (case zhH => walk_at "mine H"); (case zhr => walk_at "mine row"); (case zhz => walk_at "mine size"); intro _ _ _ _ _ _) | ((with_reducible show wpAny _ _ (call _ [Value.ref (TA.se _), _]) _ _ _); refine' app_se ?zhF ?zhN ?zhH ?zhr ?zhz ?_; (case zhF => k_asm); (case zhN => k_asm); (case zhH => walk_at "mine H"); (case zhr => walk_at "mine row"); (case zhz => walk_at "mine size"); intro _ _ _ _ _ _) | ((with_reducible show wpAny _ _ (call _ [Value.ref (TA.sg _), _]) _ _ _); refine' app_sg ?zhF ?zhN ?zhH ?zhhx ?zhz ?_; (case zhF => k_asm); (case zhN => k_asm); (case zhH => walk_at "mine H"); (case zhhx => first | exact S_nl | exact rfl); (case zhz => walk_at "mine size"); intro _ _ _ _ _ _))
  k_with "mine size" => first | with_reducible assumption | ((try dsimp only at *); omega) | ((try dsimp only at *); simp only [List.length_append, List.length_cons, List.length_nil, List.length_take, List.length_drop, List.length_map] at *; omega)
  k_with "call builtin:len" => k_dflt ((with_reducible refine' len_S ?zhz ?_); (case zhz => walk_at "mine size"))
  k_with "call builtin:ord" => k_dflt (with_reducible refine' ord_S ?_)
  k_with "call builtin:chr" => k_dflt (refine' chr_S (Int.natCast_add _ _).symm ?zhz ?_; (case zhz => omega))
  k_with "call builtin:len" => k_dflt (with_reducible refine' len_sg ?zhN ?zhH ?zhz ?_; (case zhN => k_asm); (case zhH => walk_at "mine H"); (case zhz => walk_at "mine size"))
  k_with "mine slen" => (simp only [S_fffd, S_len, S_nil, List.length_append, List.length_cons, List.length_nil, sizeLine]; omega)
  k_with "binaryOp Add str str" => k_dflt (refine' PyProof.Rows.add_str ?_ ?zhz9; (case zhz9 => walk_at "mine slen"); intro _ _)
  k_with "mine news" => first | k_asm | exact News.ofCons (by assumption)
  k_with "mine for" => ((rename Fr _ _ _ _ => lF'); (with_unfolding_all refine' For_invVF lF' ?zhk1 ?zhk2 ?_; (case zhk1 => exact rfl); (case zhk2 => exact rfl)))
  k_with "mine name" => k_dflt ((refine' nameX_L ?zhF ?zhv ?_ ?zha ?zhb ?zhc); (case zhF => k_asm); (case zha => rfl); (case zhb => rfl); (case zhv => rfl); (case zhc => decide))
  k_with "mine locs" => ((repeat' (refine List.forall_mem_cons.mpr ⟨rfl, ?_⟩)); exact fun _ h => nomatch h)
  k_with "subscriptTail" => k_dflt ((with_reducible show wpAny _ _ (subscriptTail _ _ (Value.ref (TA.sg _)) (Value.int _ _)) _ _ _); refine' item_sg ?zhN ?zhH ?zhe ?zhhi ?zhz ?_; (case zhN => k_asm); (case zhH => walk_at "mine H"); (case zhe => first | exact rfl | exact (Int.natCast_add _ _).symm); (case zhhi => (try dsimp only at *); omega); (case zhz => walk_at "mine size"); intro c9 u9 hc9)
  k_with "subscriptTail" => k_dflt ((with_reducible show wpAny _ _ (subscriptTail _ _ (Value.str _ _) (Value.int _ _)) _ _ _); refine' item_S ?zhhi ?zhz ?_; (case zhhi => (try dsimp only at *); omega); (case zhz => walk_at "mine size"); intro c9 u9 hc9)
  k_with "subscriptTail Name Name str int" => k_dflt ((with_reducible show wpAny _ _ (subscriptTail _ _ (Value.str _ _) (Value.int _ _)) _ _ _); refine' item_S ?zhhi ?zhz ?_; (case zhhi => (try dsimp only at *); omega); (case zhz => walk_at "mine size"); intro c9 u9 hc9)
  trivial

variable {prog : Program} {w : World} {mean : ExcName → Option Value} {mg mb : Str → Option Value} {T : TA} {n0 : Led} {d : D} {dv : Value} {nx : Led}

theorem surr_ok (c : Nat) (u : Tok) : Claim prog w mean mg mb 2 214 nx [.int c u] (fun v nx' => nx' = nx ∧ v = .bool (surr c)) := by
  unfold Claim
  intro dp un gd cn cs a ccd cl outer A₀ base h₀ L m s Q E B F X N Tp hk hd hu hret
  refine wpAny_call ?_
  k_dflt cell_enter
  walk_at "mine steps"
  all_goals (refine hret _ nx _ _ ⟨rfl, congrArg Value.bool ?_⟩ (by k_asm) (by k_asm); unfold surr; refine decide_eq_decide.mpr ?_; first | omega | (rw [Int.fmod_eq_emod_of_nonneg _ (by decide)]; omega))

theorem nonch_ok (c : Nat) (u : Tok) : Claim prog w mean mg mb 2 221 nx [.int c u] (fun v nx' => nx' = nx ∧ v = .bool (nonch c)) := by
  unfold Claim
  intro dp un gd cn cs a ccd cl outer A₀ base h₀ L m s Q E B F X N Tp hk hd hu hret
  refine wpAny_call ?_
  k_dflt cell_enter
  walk_at "mine steps"
  all_goals (refine hret _ nx _ _ ⟨rfl, congrArg Value.bool ?_⟩ (by k_asm) (by k_asm); unfold nonch; refine decide_eq_decide.mpr ?_; first | omega | (rw [Int.fmod_eq_emod_of_nonneg _ (by decide)]; omega))

theorem ctl_ok (c : Nat) (u : Tok) : Claim prog w mean mg mb 2 228 nx [.int c u] (fun v nx' => nx' = nx ∧ v = .bool (ctl c)) := by
  unfold Claim
  intro dp un gd cn cs a ccd cl outer A₀ base h₀ L m s Q E B F X N Tp hk hd hu hret
  refine wpAny_call ?_
  k_dflt cell_enter
  walk_at "mine steps"
  all_goals (refine hret _ nx _ _ ⟨rfl, congrArg Value.bool ?_⟩ (by k_asm) (by k_asm); unfold ctl; refine decide_eq_decide.mpr ?_; first | omega | (rw [Int.fmod_eq_emod_of_nonneg _ (by decide)]; omega))

theorem lines_B4_2 : True := by
  k_with "call ref" => ((with_reducible show wpAny _ _ (call (Value.ref 214) _) _ _ _); k_dflt (refine' Claim.use (surr_ok _ _) ?zhB ?zhF ?zhX ?zhN ?zhT ?zhkk ?zhd ?zhu ?_; (case zhB => k_asm); (case zhF => k_asm); (case zhX => k_asm); (case zhN => k_asm); (case zhT => k_asm); (case zhkk => rfl); (case zhd => ktr_room); (case zhu => ktr_units); rintro _ _ _ _ ⟨hn9, hv9⟩ _ _; replace hn9 := Eq.symm hn9; subst hn9; subst hv9))
  k_with "call ref" => ((with_reducible show wpAny _ _ (call (Value.ref 221) _) _ _ _); k_dflt (refine' Claim.use (nonch_ok _ _) ?zhB ?zhF ?zhX ?zhN ?zhT ?zhkk ?zhd ?zhu ?_; (case zhB => k_asm); (case zhF => k_asm); (case zhX => k_asm); (case zhN => k_asm); (case zhT => k_asm); (case zhkk => rfl); (case zhd => ktr_room); (case zhu => ktr_units); rintro _ _ _ _ ⟨hn9, hv9⟩ _ _; replace hn9 := Eq.symm hn9; subst hn9; subst hv9))
  k_with "call ref" => ((with_reducible show wpAny _ _ (call (Value.ref 228) _) _ _ _); k_dflt (refine' Claim.use (ctl_ok _ _) ?zhB ?zhF ?zhX ?zhN ?zhT ?zhkk ?zhd ?zhu ?_; (case zhB => k_asm); (case zhF => k_asm); (case zhX => k_asm); (case zhN => k_asm); (case zhT => k_asm); (case zhkk => rfl); (case zhd => ktr_room); (case zhu => ktr_units); rintro _ _ _ _ ⟨hn9, hv9⟩ _ _; replace hn9 := Eq.symm hn9; subst hn9; subst hv9))
  trivial


theorem nat_int {k : Int} {n c : Nat} (h : k = (n : Int)) : k = (c : Int) ↔ c = n := by subst h; exact ⟨fun e => (Int.ofNat.inj e).symm, fun e => congrArg Int.ofNat e.symm⟩
theorem any_in (c : Nat) : (([0, 9, 10, 12, 13] : List Int).any fun x => x == (c : Int)) = decide (c = 0 ∨ c = 9 ∨ c = 10 ∨ c = 12 ∨ c = 13) := by
  rw [Bool.eq_iff_iff]
  simp
  exact or_congr (nat_int (n := 0) rfl) (or_congr (nat_int (n := 9) rfl) (or_congr (nat_int (n := 10) rfl) (or_congr (nat_int (n := 12) rfl) (nat_int (n := 13) rfl))))

theorem input_ok (c : Nat) (u : Tok) : Claim prog w mean mg mb 4 235 nx [.int c u] (fun v nx' => nx' = nx ∧ IsStr v (errS c)) := by
  unfold Claim
  intro dp un gd cn cs a ccd cl outer A₀ base h₀ L m s Q E B F X N Tp hk hd hu hret
  refine wpAny_call ?_
  k_dflt cell_enter
  walk_at "mine steps"
  · exact hret _ nx _ _ ⟨rfl, .mk (by unfold errS; rw [‹surr c = true›]; rfl)⟩ (by k_asm) (by k_asm)
  · exact hret _ nx _ _ ⟨rfl, .mk (by unfold errS; rw [‹surr c = false›, ‹nonch c = true›]; rfl)⟩ (by k_asm) (by k_asm)
  · have e := ‹List.any _ _ = true›
    rw [any_in] at e
    exact hret _ nx _ _ ⟨rfl, .mk (by unfold errS; rw [‹surr c = false›, ‹nonch c = false›, ‹ctl c = true›, e]; rfl)⟩ (by k_asm) (by walk_at "mine news")
  · have e := ‹List.any _ _ = false›
    rw [any_in] at e
    exact hret _ nx _ _ ⟨rfl, .mk (by unfold errS; rw [‹surr c = false›, ‹nonch c = false›, ‹ctl c = true›, e]; rfl)⟩ (by k_asm) (by walk_at "mine news")
  · exact hret _ nx _ _ ⟨rfl, .mk (by unfold errS; rw [‹surr c = false›, ‹nonch c = false›, ‹ctl c = false›]; rfl)⟩ (by k_asm) (by k_asm)

theorem lines_B4_3 : True := by
  k_with "call ref" => ((with_reducible show wpAny _ _ (call (Value.ref 235) _) _ _ _); k_dflt (refine' Claim.use (input_ok _ _) ?zhB ?zhF ?zhX ?zhN ?zhT ?zhkk ?zhd ?zhu ?_; (case zhB => k_asm); (case zhF => k_asm); (case zhX => k_asm); (case zhN => k_asm); (case zhT => k_asm); (case zhkk => rfl); (case zhd => ktr_room); (case zhu => ktr_units); rintro _ _ _ _ ⟨hn9, _, hv9⟩ _ _; replace hn9 := Eq.symm hn9; subst hn9; subst hv9))
  trivial


theorem feed1_len (c : Nat) (d : D) : (feed1 c d).xs.length ≤ d.xs.length + 1 ∧ (feed1 c d).serr.length ≤ d.serr.length + 1 := by
  unfold feed1
  split
  · simp
  · split
    · split <;> simp
    · simp
theorem feedL_len : ∀ (l : List Nat) (d : D), (feedL l d).xs.length ≤ d.xs.length + l.length ∧ (feedL l d).serr.length ≤ d.serr.length + l.length
  | [], d => by simp [feedL]
  | c :: l, d => by
    have h1 := feed1_len c d
    have h2 := feedL_len l (feed1 c d)
    have e : feedL (c :: l) d = feedL l (feed1 c d) := rfl
    rw [e, List.length_cons]
    omega
theorem feedL_snoc {l : List Nat} {i c : Nat} (d : D) (h : l[i]? = some c) : feedL (l.take (i + 1)) d = feed1 c (feedL (l.take i) d) := by
  rw [List.take_add_one, h]
  simp [feedL]

theorem lines_B4_4 : True := by
  k_with "TurnPost" => k_dflt ((with_reducible show TurnPost _ _ _ _ _ _ _ _ (Flow.ret _) _); (with_reducible refine turnPost_ret ?_); (try dsimp only))
  k_with "mine chr" => first | assumption | omega | exact Small.get (by assumption) (by assumption)
  trivial


theorem feed_cr {c : Nat} {d : D} (h : decide (c = 13) = true) : { d with xs := d.xs ++ [10], ret := decide (c = 13) } = feed1 c d := by
  rw [h]; unfold feed1; rw [if_pos (of_decide_eq_true h)]
theorem feed_er {c : Nat} {d : D} (h : decide (c = 13) = false) (h2 : (!decide (c = 10)) = true ∨ d.ret = false) (h3 : (!decide (errS c = "")) = true) : { d with xs := d.xs ++ [c], serr := d.serr ++ [[.str (errS c), .int d.xs.length]], ret := decide (c = 13) } = feed1 c d := by
  rw [h]; unfold feed1; rw [if_neg (of_decide_eq_false h), if_pos, if_neg]
  · simpa using h3
  · exact h2.imp (fun h => by simpa using h) id
theorem feed_no {c : Nat} {d : D} (h : decide (c = 13) = false) (h2 : (!decide (c = 10)) = true ∨ d.ret = false) (h3 : (!decide (errS c = "")) = false) : { d with xs := d.xs ++ [c], ret := decide (c = 13) } = feed1 c d := by
  rw [h]; unfold feed1; rw [if_neg (of_decide_eq_false h), if_pos, if_pos, List.append_nil]
  · simpa using h3
  · exact h2.imp (fun h => by simpa using h) id
theorem feed_nl {c : Nat} {d : D} (h : decide (c = 13) = false) (h2 : (!decide (c = 10)) = false) (h3 : d.ret = true) : { d with ret := decide (c = 13) } = feed1 c d := by
  rw [h]; unfold feed1; rw [if_neg (of_decide_eq_false h), if_neg]
  rw [h3]
  have := of_decide_eq_true (by simpa using h2 : decide (c = 10) = true)
  simp [this]

theorem beq_cr {c : Nat} : (S [c] == Str.ofString "\x0d") = decide (c = 13) := by
  rw [S_cr, Bool.eq_iff_iff, beq_iff_eq, S_inj1, decide_eq_true_iff]
theorem bne_nl {c : Nat} : (S [c] != Str.ofString "\n") = !decide (c = 10) := by
  rw [S_nl, bne, Bool.not_inj_iff, Bool.eq_iff_iff, beq_iff_eq, S_inj1, decide_eq_true_iff]
theorem bne_e {x : Str} : (x != Str.ofString "") = !decide (x = "") := by
  rw [bne, Bool.not_inj_iff, Bool.eq_iff_iff, beq_iff_eq, decide_eq_true_iff]

noncomputable def feedPs (T : TA) (l : List Nat) (u : Tok) : List (Str × Value) := [("self", .ref T.st), ("text", .str (S l) u)]
theorem sfeed_ok (l : List Nat) (u : Tok) (hc : d.closed = false) (hz : d.xs.length + l.length ≤ 1000) (hs : d.serr.length + l.length ≤ 1000) (H : TokX w T n0 d dv nx) : Claim prog w mean mg mb 8 256 nx [.ref T.st, .str (S l) u] (fun v nx' => TokX w T n0 (feedL l d) dv nx' ∧ v = .none) := by
  unfold Claim
  intro dp un gd cn cs a ccd cl outer A₀ base h₀ L m s Q E B F X N Tp hk hd hu hret
  refine wpAny_call ?_
  k_dflt cell_enter
  walk_at "mine steps"
  walk_at "mine for"
  walk_at "mine name"
  refine' text_loop (l := l) (fun i m1 nx1 => (∀ p ∈ feedPs T l u, m1 p.1 = some p.2) ∧ TokX w T n0 (feedL (l.take i) d) dv nx1) ?hh ?F ?N ?hj ?turn ?done
  case hh => rfl
  case F => k_asm
  case N => k_asm
  case hj => exact ⟨by walk_at "mine locs", by simpa [feedL] using H⟩
  case turn =>
    rintro I i c m1 nx1 h tk oI t hi hit hne ⟨hm, H0⟩ F1 N1
    have F2 := Mine.Fr.turn F1 hm
    clear F1
    unfold feedPs at F2
    have hl9 := feedL_len (l.take i) d
    have hl8 : (l.take i).length ≤ l.length := by rw [List.length_take]; omega
    have es := feedL_snoc d hi
    generalize feedL (l.take i) d = d9 at *
    have hz9 : d9.xs.length ≤ 1000000 := by omega
    have hs9 : d9.serr.length ≤ 1000000 := by omega
    have H1 := H0.cons1 (p := (I, oI)) |>.rebase
    walk_at "mine steps"
    all_goals refine turnPost_tok (by k_asm) (by k_asm) hit hne H0 (by with_reducible assumption) (fun _ h => nomatch h) fun Hn => ⟨by walk_at "mine locs", ?_⟩
    all_goals (rw [es]; refine Hn.cast ?_)
    all_goals simp only [beq_cr, bne_nl, bne_e] at *
    all_goals first
      | exact feed_cr ‹_›
      | exact feed_er ‹_› (.inl ‹_›) ‹_›
      | exact feed_no ‹_› (.inl ‹_›) ‹_›
      | exact feed_er ‹_› (.inr ‹_›) ‹_›
      | exact feed_no ‹_› (.inr ‹_›) ‹_›
      | exact feed_nl ‹_› ‹_› ‹_›
  case done =>
    rintro m1 nx1 h tk ⟨hm, H1⟩ F1 N1
    have F2 := Mine.Fr.ovl F1 hm
    clear F1
    unfold feedPs at F2
    dsimp only
    walk_at "mine steps"
    exact hret _ _ _ _ ⟨by simpa using H1, rfl⟩ (by k_asm) (by k_asm)


end B4

section B5
open PySem PySem.W PyProof.Rows PySem.Calls
set_option maxRecDepth 100000
set_option maxHeartbeats 4000000
theorem lines_B5_1 : True := by
  w_top off
  k_with_none
  k_with "execs cons" => k_fold
  k_with "exec If" => k_fold
  k_with "exec Assign" => k_fold
  k_with "exec Expr" => k_fold
  k_with "exec Return" => k_fold
  k_with "callWith" => k_fold
  k_with "call ref" => k_fold
  k_with "eval Call Attribute" => k_fold
  k_with "eval Call" => k_fold
  k_with "isTrue Compare" => k_fold
  k_with "isTrue" => k_fold
  k_with "eval BinOp" => k_fold
  k_with "eval Compare" => k_fold
  k_with "eval BoolOp" => k_fold
  k_with "eval IfExp" => k_fold
  k_with "eval Subscript" => k_fold
  k_with "mine steps" => repeat' ((fail_if_success (with_reducible show wpAny _ _ (pyIter _) _ _ _)); (fail_if_success (with_reducible show wpAny _ _ (exec (Stmt.For _ (Expr.Name _ _) _ _ _) _) _ _ _)); first | (k_unfold; (try dsimp only)) | walk1 | (dsimp only; walk1) | (leave1; (try dsimp only)))
  k_with "mine H" => (first | (with_reducible assumption) | (with_reducible refine' TokX.cons1 ?zhhh; (case zhhh => with_reducible assumption)) | (with_reducible refine' TokX.cons2 ?zhhh; (case zhhh => with_reducible assumption)) | (with_reducible refine' TokX.cons3 ?zhhh; (case zhhh => with_reducible assumption)))
  k_with "mine row" => (first | (with_reducible assumption) | (apply RowIs.of; k_mem; (repeat' constructor); done))
  k_with "mine HD" => (first | (with_reducible assumption) | (exact TokX.dr (by with_reducible assumption) rfl) | (exact TokX.dr (by with_reducible assumption) (by with_reducible assumption)) | (exact DraftAt.keepA (by with_reducible assumption) (by with_reducible assumption)) | (exact TokX.dr (by with_reducible assumption) (by assumption)))
  k_with "mine fxnh" => ((case zhF => k_asm); (case zhX => k_asm); (case zhN => k_asm); (case zhH => walk_at "mine H"))
  k_with "getAttr ref" => k_dflt (first | (with_reducible refine' get_at ?zhF ?zhX ?zhN ?zhH ?_; walk_at "mine fxnh"; intro _) | (with_reducible refine' get_stream ?zhF ?zhX ?zhN ?zhH ?_; walk_at "mine fxnh") | (with_reducible refine' get_signs ?zhF ?zhX ?zhN ?zhH ?_; walk_at "mine fxnh") | (with_reducible refine' get_out ?zhF ?zhX ?zhN ?zhH ?_; walk_at "mine fxnh") | (with_reducible refine' get_errors ?zhF ?zhX ?zhN ?zhH ?_; walk_at "mine fxnh") | (with_reducible refine' get_draft ?zhF ?zhX ?zhN ?zhH ?_; walk_at "mine fxnh") | (with_reducible refine' get_state ?zhF ?zhX ?zhN ?zhH ?_; walk_at "mine fxnh"; intro _) | (with_reducible refine' get_states ?zhF ?zhX ?zhN ?zhH ?_; walk_at "mine fxnh") | (with_reducible refine' get_waiting ?zhF ?zhX ?zhN ?zhH ?_; walk_at "mine fxnh") | (with_reducible refine' get_done ?zhF ?zhX ?zhN ?zhH ?_; walk_at "mine fxnh") | (with_reducible refine' get_foreign ?zhF ?zhX ?zhN ?zhH ?_; walk_at "mine fxnh") | (with_reducible refine' get_last ?zhF ?zhX ?zhN ?zhH ?_; walk_at "mine fxnh"; intro _) | (with_reducible refine' get_closed ?zhF ?zhX ?zhN ?zhH ?_; walk_at "mine fxnh") | (with_reducible refine' get_return ?zhF ?zhX ?zhN ?zhH ?_; walk_at "mine fxnh") | (with_reducible refine' get_serr ?zhF ?zhX ?zhN ?zhH ?_; walk_at "mine fxnh") | (with_reducible refine' getd_text ?zhF ?zhX ?zhN ?zhH ?_; (case zhF => k_asm); (case zhX => k_asm); (case zhN => k_asm); (case zhH => walk_at "mine HD"); intro _) | (with_reducible refine' getd_kind ?zhF ?zhX ?zhN ?zhH ?_; (case zhF => k_asm); (case zhX => k_asm); (case zhN => k_asm); (case zhH => walk_at "mine HD"); intro _))
  k_with "setAttr ref" => k_dflt (first | (with_reducible refine' set_state ?zhF ?zhX ?zhN ?zhH ?_; walk_at "mine fxnh"; intro _ _ _ _ _ _) | (with_reducible refine' set_waiting ?zhF ?zhX ?zhN ?zhH ?_; walk_at "mine fxnh"; intro _ _ _ _ _ _) | (with_reducible refine' set_done ?zhF ?zhX ?zhN ?zhH ?_; walk_at "mine fxnh"; intro _ _ _ _ _ _) | (with_reducible refine' set_foreign ?zhF ?zhX ?zhN ?zhH ?_; walk_at "mine fxnh"; intro _ _ _ _ _ _) | (with_reducible refine' set_closed ?zhF ?zhX ?zhN ?zhH ?_; walk_at "mine fxnh"; intro _ _ _ _ _ _) | (with_reducible refine' set_return ?zhF ?zhX ?zhN ?zhH ?_; walk_at "mine fxnh"; intro _ _ _ _ _ _) | (with_reducible refine' set_draft_none ?zhF ?zhX ?zhN ?zhH ?_; walk_at "mine fxnh"; intro _ _ _ _ _ _) | (with_reducible refine' set_draft ?zhF ?zhX ?zhN ?zhH ?zhhy ?_; walk_at "mine fxnh"; (case zhhy => with_reducible assumption); intro _ _ _ _ _ _) | (with_reducible refine' setd_text ?zhF ?zhX ?zhN ?zhH ?zhhd ?zhhy ?_; walk_at "mine fxnh"; (case zhhd => first | with_reducible assumption | rfl); (case zhhy => first | exact rfl | exact S_app _ _ | (rw [S_fffd]; exact S_app _ _)); intro _ _ _ _ _) | ((with_reducible show wpAny _ _ (setAttr (Value.ref (TA.t _)) (PySem.Str.ofString "at") _) _ _ _); refine' set_at ?zhF ?zhX ?zhN ?zhH (Int.natCast_add _ _).symm ?_; walk_at "mine fxnh"; intro _ _ _ _ _ _) | ((with_reducible show wpAny _ _ (setAttr (Value.ref (TA.t _)) (PySem.Str.ofString "at") _) _ _ _); refine' set_at ?zhF ?zhX ?zhN ?zhH (cast_pred ?zhp) ?_; walk_at "mine fxnh"; (case zhp => first | with_reducible assumption | omega); intro _ _ _ _ _ _) | ((with_reducible show wpAny _ _ (setAttr (Value.ref (TA.t _)) (PySem.Str.ofString "at") _) _ _ _); refine' set_at ?zhF ?zhX ?zhN ?zhH (Eq.refl (Nat.cast _)) ?_; walk_at "mine fxnh"; intro _ _ _ _ _ _))
  k_with "getMethod ref" => k_dflt (first | ((with_reducible show wpAny _ _ (getMethod (Value.ref (TA.t _)) _ _) _ _ _); refine' tok_method ?zhF ?zhX ?zhN ?zhH ?zhg ?zhf ?zht ?zhl ?_; walk_at "mine fxnh"; (case zhg => k_dflt k_is); (case zhf => k_dflt k_is); (case zht => k_dflt k_is); (case zhl => intro _; rfl)) | ((with_reducible show wpAny _ _ (getMethod (Value.ref (TA.st _)) _ _) _ _ _); refine' str_method ?zhF ?zhX ?zhN ?zhH ?zhg ?zhf ?zht ?zhl ?_; walk_at "mine fxnh"; (case zhg => k_dflt k_is); (case zhf => k_dflt k_is); (case zht => k_dflt k_is); (case zhl => intro _; rfl)) | (refine' dr_method ?zhF ?zhX ?zhN ?zhH ?zhg ?zhf ?zht ?zhl ?_; (case zhF => k_asm); (case zhX => k_asm); (case zhN => k_asm); (case zhH => walk_at "mine HD"); (case zhg => k_dflt k_is); (case zhf => k_dflt k_is); (case zht => k_dflt k_is); (case zhl => intro _ _ _; rfl)) | ((with_reducible show wpAny _ _ (getMethod (Value.ref (TA.er _)) _ _) _ _ _); refine' app_method_er ?zhN ?zhH ?_; (case zhN => k_asm); (case zhH => walk_at "mine H")) | ((with_reducible show wpAny _ _ (getMethod (Value.ref (TA.ou _)) _ _) _ _ _); refine' app_method_ou ?zhN ?zhH ?_; (case zhN => k_asm); (case zhH => walk_at "mine H")) | ((with_reducible show wpAny _ _ (getMethod (Value.ref (TA.se _)) _ _) _ _ _); refine' app_method_se ?zhN ?zhH ?_; (case zhN => k_asm); (case zhH => walk_at "mine H")) | ((with_reducible show wpAny _ _ (getMethod (Value.ref (TA.sg _)) _ _) _ _ _); refine' app_method_sg ?zhN ?zhH ?_; (case zhN => k_asm); (case zhH => walk_at "mine H")))
  k_with "call builtin:list.append" => k_dflt (first | ((with_reducible show wpAny _ _ (call _ [Value.ref (TA.er _), _]) _ _ _); refine' app_er ?zhF ?zhN ?zhH ?zhr ?zhz ?_; (case zhF => k_asm); (case zhN => k_asm); (case zhH => walk_at "mine H"); (case zhr => walk_at "mine row"); (case zhz => walk_at "mine size"); intro _ _ _ _ _ _) | ((with_reducible show wpAny _ _ (call _ [Value.ref (TA.ou _), _]) _ _ _); refine' app_ou ?zhF ?zhN ?zhH ?zhr ?zhz ?_; (case zhF => k_asm); (case zhN => k_asm); (case zhH => walk_at "mine H"); (case zhr => walk_at "mine row"); (case zhz => walk_at "mine size"); intro _ _ _ _ _ _) | ((with_reducible show wpAny _ _ (call _ [Value.ref (TA.se _), _]) _ _ _); refine' app_se ?zhF ?zhN ?zhH ?zhr ?zhz ?_; (case zhF => k_asm); (case zhN => k_asm); (case zhH => walk_at "mine H"); (case zhr => walk_at "mine row"); (case zhz => walk_at "mine size"); intro _ _ _ _ _ _) | ((with_reducible show wpAny _ _ (call _ [Value.ref (TA.sg _), _]) _ _ _); refine' app_sg ?zhF ?zhN ?zhH ?zhhx ?zhz ?_; (case zhF => k_asm); (case zhN => k_asm); (case zhH => walk_at "mine H"); (case zhhx => first | exact S_nl | exact rfl); (case zhz => walk_at "mine size"); intro _ _ _ _ _ _))
  k_with "mine size" => first | with_reducible assumption | ((try dsimp only at *); omega) | ((try dsimp only at *); simp only [List.length_append, List.length_cons, List.length_nil, List.length_take, List.length_drop, List.length_map] at *; omega)
  k_with "call builtin:len" => k_dflt ((with_reducible refine' len_S ?zhz ?_); (case zhz => walk_at "mine size"))
  k_with "call builtin:ord" => k_dflt (with_reducible refine' ord_S ?_)
  k_with "call builtin:chr" => k_dflt (refine' chr_S (Int.natCast_add _ _).symm ?zhz ?_; (case zhz => omega))
  k_with "call builtin:len" => k_dflt (with_reducible refine' len_sg ?zhN ?zhH ?zhz ?_; (case zhN => k_asm); (case zhH => walk_at "mine H"); (case zhz => walk_at "mine size"))
  k_with "mine slen" => (simp only [S_fffd, S_len, S_nil, List.length_append, List.length_cons, List.length_nil, sizeLine]; omega)
  k_with "binaryOp Add str str" => k_dflt (refine' PyProof.Rows.add_str ?_ ?zhz9; (case zhz9 => walk_at "mine slen"); intro _ _)
  k_with "mine news" => first | k_asm | exact News.ofCons (by assumption)
  k_with "mine for" => ((rename Fr _ _ _ _ => lF'); (with_unfolding_all refine' For_invVF lF' ?zhk1 ?zhk2 ?_; (case zhk1 => exact rfl); (case zhk2 => exact rfl)))
  k_with "mine name" => k_dflt ((refine' nameX_L ?zhF ?zhv ?_ ?zha ?zhb ?zhc); (case zhF => k_asm); (case zha => rfl); (case zhb => rfl); (case zhv => rfl); (case zhc => decide))
  k_with "mine locs" => ((repeat' (refine List.forall_mem_cons.mpr ⟨rfl, ?_⟩)); exact fun _ h => nomatch h)
  k_with "subscriptTail" => k_dflt ((with_reducible show wpAny _ _ (subscriptTail _ _ (Value.ref (TA.sg _)) (Value.int _ _)) _ _ _); refine' item_sg ?zhN ?zhH ?zhe ?zhhi ?zhz ?_; (case zhN => k_asm); (case zhH => walk_at "mine H"); (case zhe => first | exact rfl | exact (Int.natCast_add _ _).symm); (case zhhi => (try dsimp only at *); omega); (case zhz => walk_at "mine size"); intro c9 u9 hc9)
  k_with "subscriptTail" => k_dflt ((with_reducible show wpAny _ _ (subscriptTail _ _ (Value.str _ _) (Value.int _ _)) _ _ _); refine' item_S ?zhhi ?zhz ?_; (case zhhi => (try dsimp only at *); omega); (case zhz => walk_at "mine size"); intro c9 u9 hc9)
  k_with "subscriptTail Name Name str int" => k_dflt ((with_reducible show wpAny _ _ (subscriptTail _ _ (Value.str _ _) (Value.int _ _)) _ _ _); refine' item_S ?zhhi ?zhz ?_; (case zhhi => (try dsimp only at *); omega); (case zhz => walk_at "mine size"); intro c9 u9 hc9)
  trivial

variable {prog : Program} {w : World} {mean : ExcName → Option Value} {mg mb : Str → Option Value} {T : TA} {n0 : Led} {d : D} {dv : Value} {nx : Led}

theorem send_ok (H : TokX w T n0 d dv nx) : Claim prog w mean mg mb 2 263 nx [.ref T.st] (fun v nx' => TokX w T n0 { d with closed := true } dv nx' ∧ v = .none) := by
  unfold Claim
  intro dp un gd cn cs a ccd cl outer A₀ base h₀ L m s Q E B F X N Tp hk hd hu hret
  refine wpAny_call ?_
  k_dflt cell_enter
  walk_at "mine steps"
  exact hret _ _ _ _ ⟨by assumption, rfl⟩ (by k_asm) (by k_asm)

theorem lines_B5_2 : True := by
  k_with "call ref" => ((with_reducible show wpAny _ _ (call (Value.ref 256) _) _ _ _); k_dflt (refine' Claim.use (sfeed_ok _ _ ?zhc ?zhz ?zhs ?zhH) ?zhB ?zhF ?zhX ?zhN ?zhT ?zhkk ?zhd ?zhu ?_; (case zhB => k_asm); (case zhF => k_asm); (case zhX => k_asm); (case zhN => k_asm); (case zhT => k_asm); (case zhkk => rfl); (case zhc => first | with_reducible assumption | assumption); (case zhz => walk_at "mine size"); (case zhs => walk_at "mine size"); (case zhH => walk_at "mine H"); (case zhd => ktr_room); (case zhu => ktr_units); rintro _ _ _ _ ⟨_, hv9⟩ _ _; subst hv9))
  k_with "call ref" => ((with_reducible show wpAny _ _ (call (Value.ref 263) _) _ _ _); k_dflt (refine' Claim.use (send_ok ?zhH) ?zhB ?zhF ?zhX ?zhN ?zhT ?zhkk ?zhd ?zhu ?_; (case zhB => k_asm); (case zhF => k_asm); (case zhX => k_asm); (case zhN => k_asm); (case zhT => k_asm); (case zhkk => rfl); (case zhH => walk_at "mine H"); (case zhd => ktr_room); (case zhu => ktr_units); rintro _ _ _ _ ⟨_, hv9⟩ _ _; subst hv9))
  trivial


theorem tfeed_ok (l : List Nat) (u : Tok) (hc : d.closed = false) (hz : d.xs.length + l.length ≤ 1000) (hs : d.serr.length + l.length ≤ 1000) (H : TokX w T n0 d dv nx) : Claim prog w mean mg mb 10 299 nx [.ref T.t, .str (S l) u] (fun v nx' => TokX w T n0 { feedL l d with waiting := false } dv nx' ∧ v = .none) := by
  unfold Claim
  intro dp un gd cn cs a ccd cl outer A₀ base h₀ L m s Q E B F X N Tp hk hd hu hret
  refine wpAny_call ?_
  k_dflt cell_enter
  walk_at "mine steps"
  exact hret _ _ _ _ ⟨by assumption, rfl⟩ (by k_asm) (by k_asm)

theorem tend_ok (H : TokX w T n0 d dv nx) : Claim prog w mean mg mb 4 306 nx [.ref T.t] (fun v nx' => TokX w T n0 { d with closed := true, waiting := false } dv nx' ∧ v = .none) := by
  unfold Claim
  intro dp un gd cn cs a ccd cl outer A₀ base h₀ L m s Q E B F X N Tp hk hd hu hret
  refine wpAny_call ?_
  k_dflt cell_enter
  walk_at "mine steps"
  exact hret _ _ _ _ ⟨by assumption, rfl⟩ (by k_asm) (by k_asm)

theorem lines_B5_3 : True := by
  k_with "call ref" => ((with_reducible show wpAny _ _ (call (Value.ref 384) _) _ _ _); k_dflt (refine' Claim.use (looks2_ok _ _ ?zhhx ?zhz ?zhs ?zhw ?zhH) ?zhB ?zhF ?zhX ?zhN ?zhT ?zhkk ?zhd ?zhu ?_; (case zhB => k_asm); (case zhF => k_asm); (case zhX => k_asm); (case zhN => k_asm); (case zhT => k_asm); (case zhkk => rfl); (case zhhx => first | exact S_dash | exact S_doc | exact S_cd); (case zhs => first | with_reducible assumption | assumption); (case zhw => decide); (case zhH => walk_at "mine H"); (case zhz => walk_at "mine size"); (case zhd => ktr_room); (case zhu => ktr_units); rintro _ _ _ _ ⟨hn9, _, hv9⟩ _ _; replace hn9 := Eq.symm hn9; subst hn9; subst hv9))
  k_with "call ref" => ((with_reducible show wpAny _ _ (call (Value.ref 384) _) _ _ _); k_dflt (refine' Claim.use (looks3_ok _ _ _ ?zhhx ?zhz ?zhs ?zhw ?zhH) ?zhB ?zhF ?zhX ?zhN ?zhT ?zhkk ?zhd ?zhu ?_; (case zhB => k_asm); (case zhF => k_asm); (case zhX => k_asm); (case zhN => k_asm); (case zhT => k_asm); (case zhkk => rfl); (case zhhx => first | exact S_dash | exact S_doc | exact S_cd); (case zhs => first | with_reducible assumption | assumption); (case zhw => decide); (case zhH => walk_at "mine H"); (case zhz => walk_at "mine size"); (case zhd => ktr_room); (case zhu => ktr_units); rintro _ _ _ _ ⟨hn9, _, hv9⟩ _ _; replace hn9 := Eq.symm hn9; subst hn9; subst hv9))
  trivial


noncomputable def untold (d : D) : Bool := (looksF d.xs d.closed false d.at_ wDash == -1) || (looksF d.xs d.closed true d.at_ wDoc == -1) || (looksF d.xs d.closed false d.at_ wCd == -1)

theorem untold_ok (hz : d.xs.length ≤ 1000000) (hx : Small d.xs) (H : TokX w T n0 d dv nx) : Claim prog w mean mg mb 10 105 nx [.ref T.t] (fun v nx' => nx' = nx ∧ v = .bool (untold d)) := by
  unfold Claim
  intro dp un gd cn cs a ccd cl outer A₀ base h₀ L m s Q E B F X N Tp hk hd hu hret
  refine wpAny_call ?_
  k_dflt cell_enter
  walk_at "mine steps"
  · exact hret _ nx _ _ ⟨rfl, by have q0 := ‹looksF d.xs d.closed false d.at_ wDash = -1›; simp [untold, q0]⟩ (by k_asm) (by k_asm)
  · exact hret _ nx _ _ ⟨rfl, by have q0 := ‹looksF d.xs d.closed false d.at_ wDash ≠ -1›; have q1 := ‹looksF d.xs d.closed true d.at_ wDoc = -1›; simp [untold, q0, q1]⟩ (by k_asm) (by k_asm)
  · exact hret _ nx _ _ ⟨rfl, by have q0 := ‹looksF d.xs d.closed false d.at_ wDash ≠ -1›; have q1 := ‹looksF d.xs d.closed true d.at_ wDoc ≠ -1›; simp [untold, q0, q1]⟩ (by k_asm) (by k_asm)


theorem beq_o {o : Option Nat} {k : Nat} {x : Str} (hx : x = S [k]) : (S o.toList == x) = decide (o = some k) := by
  rw [hx, Bool.eq_iff_iff, beq_iff_eq, decide_eq_true_iff]
  constructor
  · intro h
    have := congrArg (fun x => x.cps.toList) h
    cases o with
    | none => simp [S] at this
    | some c => simpa [S] using this
  · rintro rfl; rfl
theorem beq_n {o : Option Nat} : (S o.toList == Str.ofString "") = decide (o = none) := by
  rw [S_nil, Bool.eq_iff_iff, beq_iff_eq, decide_eq_true_iff]
  constructor
  · intro h
    have := congrArg (fun x => x.cps.toList) h
    cases o with
    | none => rfl
    | some c => simp [S] at this
  · rintro rfl; rfl
theorem beq_o1 {o : Option Nat} {k : Nat} {x : Str} (hx : x = S [k]) (h : (S o.toList == x) = true) : o = some k := of_decide_eq_true ((beq_o hx).symm.trans h)
theorem beq_o0 {o : Option Nat} {k : Nat} {x : Str} (hx : x = S [k]) (h : (S o.toList == x) = false) : o ≠ some k := of_decide_eq_false ((beq_o hx).symm.trans h)
theorem beq_n1 {o : Option Nat} (h : (S o.toList == Str.ofString "") = true) : o = none := of_decide_eq_true (beq_n.symm.trans h)
theorem beq_n0 {o : Option Nat} (h : (S o.toList == Str.ofString "") = false) : ∃ c, o = some c := by
  have := of_decide_eq_false (beq_n.symm.trans h)
  cases o with
  | none => exact absurd rfl this
  | some c => exact ⟨c, rfl⟩
theorem untold_iff {d : D} : untold d = true ↔ (looksF d.xs d.closed false d.at_ wDash = -1 ∨ looksF d.xs d.closed true d.at_ wDoc = -1 ∨ looksF d.xs d.closed false d.at_ wCd = -1) := by
  unfold untold
  rw [Bool.or_eq_true, Bool.or_eq_true, beq_iff_eq, beq_iff_eq, beq_iff_eq]
  exact or_assoc
section
variable {d : D}
theorem ruleM_1 (h : looksF d.xs d.closed false d.at_ wDash = 1) : { d with at_ := d.at_ + 2, draft := some [], state := "comment start" } = ruleM d := by
  unfold ruleM; rw [if_pos h]
theorem ruleM_2 (h : looksF d.xs d.closed false d.at_ wDash ≠ 1) (h2 : looksF d.xs d.closed true d.at_ wDoc = 1) : { d with at_ := d.at_ + 7, state := "DOCTYPE" } = ruleM d := by
  unfold ruleM; rw [if_neg h, if_pos h2]
theorem ruleM_3 (h : looksF d.xs d.closed false d.at_ wDash ≠ 1) (h2 : looksF d.xs d.closed true d.at_ wDoc ≠ 1) (h3 : looksF d.xs d.closed false d.at_ wCd = 1) :
    (if d.foreign = true then { d with at_ := d.at_ + 7, state := "CDATA section" } else { d with at_ := d.at_ + 7, errs := d.errs ++ [[.str "cdata-in-html-content", .int (((d.at_ + 7 : Nat) : Int) - 1)]], draft := some wCd, state := "bogus comment" }) = ruleM d := by
  have e : (((d.at_ + 7 : Nat) : Int) - 1) = ((d.at_ + 6 : Nat) : Int) := by omega
  rw [e]
  unfold ruleM; rw [if_neg h, if_neg h2, if_pos h3]; rfl
theorem ruleM_4 (h : looksF d.xs d.closed false d.at_ wDash ≠ 1) (h2 : looksF d.xs d.closed true d.at_ wDoc ≠ 1) (h3 : looksF d.xs d.closed false d.at_ wCd ≠ 1) (h4 : untold d = true) : { d with waiting := true } = ruleM d := by
  unfold ruleM; rw [if_neg h, if_neg h2, if_neg h3, if_pos (untold_iff.mp h4)]
theorem ruleM_5 (h : looksF d.xs d.closed false d.at_ wDash ≠ 1) (h2 : looksF d.xs d.closed true d.at_ wDoc ≠ 1) (h3 : looksF d.xs d.closed false d.at_ wCd ≠ 1) (h4 : untold d = false) :
    { d with at_ := d.at_ + 1 - 1, errs := d.errs ++ [[.str "incorrectly-opened-comment", .int (((d.at_ + 1 : Nat) : Int) - 1)]], draft := some [], state := "bogus comment" } = ruleM d := by
  have e : (((d.at_ + 1 : Nat) : Int) - 1) = ((d.at_ : Nat) : Int) := by omega
  rw [e]
  unfold ruleM; rw [if_neg h, if_neg h2, if_neg h3, if_neg (fun q => by rw [untold_iff.mpr q] at h4; cases h4)]; rfl
theorem ruleB_1 {l : List Nat} (hd : d.draft = some l) (h : (S d.xs[d.at_]?.toList == Str.ofString ">") = true) : { d with at_ := d.at_ + 1, state := "data", out := d.out ++ [ROW l], draft := none } = ruleB d := by
  unfold ruleB; rw [beq_o1 S_gt h, hd]; rfl
theorem ruleB_2 {l : List Nat} (hd : d.draft = some l) (h : (S d.xs[d.at_]?.toList == Str.ofString "") = true) : { d with at_ := d.at_ + 1, out := d.out ++ [ROW l] ++ [[.str "eof"]], draft := none, done := true } = ruleB d := by
  unfold ruleB; rw [beq_n1 h, hd]; rfl
theorem ruleB_3 {l : List Nat} (hd : d.draft = some l) (h : (S d.xs[d.at_]?.toList == Str.ofString "\x00") = true) : { d with at_ := d.at_ + 1, errs := d.errs ++ [[.str "unexpected-null-character", .int (((d.at_ + 1 : Nat) : Int) - 1)]], draft := some (l ++ [65533]) } = ruleB d := by
  have e : (((d.at_ + 1 : Nat) : Int) - 1) = ((d.at_ : Nat) : Int) := by omega
  rw [e]
  unfold ruleB; rw [beq_o1 S_nul h, hd]; rfl
theorem ruleB_4 {l : List Nat} (hd : d.draft = some l) (h : (S d.xs[d.at_]?.toList == Str.ofString ">") = false) (h2 : (S d.xs[d.at_]?.toList == Str.ofString "") = false) (h3 : (S d.xs[d.at_]?.toList == Str.ofString "\x00") = false) : { d with at_ := d.at_ + 1, draft := some (l ++ d.xs[d.at_]?.toList) } = ruleB d := by
  obtain ⟨c, hc⟩ := beq_n0 h2
  have h1 := beq_o0 S_gt h
  have h0 := beq_o0 S_nul h3
  rw [hc] at h1 h0
  unfold ruleB; rw [hc, hd]
  have n1 : ¬ c = 62 := fun e => h1 (by rw [e])
  have n0 : ¬ c = 0 := fun e => h0 (by rw [e])
  simp only [if_neg n1, if_neg n0]; rfl
theorem ruleS_1 (h : (S d.xs[d.at_]?.toList == Str.ofString "]") = true) : { d with at_ := d.at_ + 1, state := "CDATA section bracket" } = ruleS d := by
  unfold ruleS; rw [beq_o1 S_br h]; rfl
theorem ruleS_2 (h : (S d.xs[d.at_]?.toList == Str.ofString "") = true) : { d with at_ := d.at_ + 1, errs := d.errs ++ [[.str "eof-in-cdata", .int (((d.at_ + 1 : Nat) : Int) - 1)]], out := d.out ++ [[.str "eof"]], done := true } = ruleS d := by
  have e : (((d.at_ + 1 : Nat) : Int) - 1) = ((d.at_ : Nat) : Int) := by omega
  rw [e]
  unfold ruleS; rw [beq_n1 h]; rfl
theorem ruleS_3 (h : (S d.xs[d.at_]?.toList == Str.ofString "]") = false) (h2 : (S d.xs[d.at_]?.toList == Str.ofString "") = false) : { d with at_ := d.at_ + 1, out := d.out ++ [[.str "char", .str (S d.xs[d.at_]?.toList)]] } = ruleS d := by
  obtain ⟨c, hc⟩ := beq_n0 h2
  have h1 := beq_o0 S_br h
  rw [hc] at h1
  unfold ruleS; rw [hc]
  have n1 : ¬ c = 93 := fun e => h1 (by rw [e])
  simp only [if_neg n1]; rfl
theorem ruleK_1 (h : (S d.xs[d.at_]?.toList == Str.ofString "]") = true) : { d with at_ := d.at_ + 1, state := "CDATA section end" } = ruleK d := by
  unfold ruleK; rw [if_pos (beq_o1 S_br h)]
theorem ruleK_2 (h : (S d.xs[d.at_]?.toList == Str.ofString "]") = false) : { d with at_ := d.at_ + 1 - 1, out := d.out ++ [[.str "char", .str "]"]], state := "CDATA section" } = ruleK d := by
  unfold ruleK; rw [if_neg (beq_o0 S_br h)]; rfl
theorem ruleE_1 (h : (S d.xs[d.at_]?.toList == Str.ofString "]") = true) : { d with at_ := d.at_ + 1, out := d.out ++ [[.str "char", .str "]"]] } = ruleE d := by
  unfold ruleE; rw [if_pos (beq_o1 S_br h)]; rfl
theorem ruleE_2 (h : (S d.xs[d.at_]?.toList == Str.ofString "]") = false) (h2 : (S d.xs[d.at_]?.toList == Str.ofString ">") = true) : { d with at_ := d.at_ + 1, state := "data" } = ruleE d := by
  unfold ruleE; rw [if_neg (beq_o0 S_br h), if_pos (beq_o1 S_gt h2)]
theorem ruleE_3 (h : (S d.xs[d.at_]?.toList == Str.ofString "]") = false) (h2 : (S d.xs[d.at_]?.toList == Str.ofString ">") = false) : { d with at_ := d.at_ + 1 - 1, out := d.out ++ [93, 93].map chrR, state := "CDATA section" } = ruleE d := by
  unfold ruleE; rw [if_neg (beq_o0 S_br h), if_neg (beq_o0 S_gt h2)]; rfl
end

theorem lines_B5_4 : True := by
  k_with "call ref" => ((with_reducible show wpAny _ _ (call (Value.ref 320) _) _ _ _); k_dflt (refine' Claim.use (to_ok _ _ ?zhH) ?zhB ?zhF ?zhX ?zhN ?zhT ?zhkk ?zhd ?zhu ?_; (case zhB => k_asm); (case zhF => k_asm); (case zhX => k_asm); (case zhN => k_asm); (case zhT => k_asm); (case zhkk => rfl); (case zhH => walk_at "mine H"); (case zhd => ktr_room); (case zhu => ktr_units); rintro _ _ _ _ ⟨_, hv9⟩ _ _; subst hv9))
  k_with "call ref" => ((with_reducible show wpAny _ _ (call (Value.ref 334) _) _ _ _); k_dflt (refine' Claim.use (error_ok _ _ ?zhz ?zhH) ?zhB ?zhF ?zhX ?zhN ?zhT ?zhkk ?zhd ?zhu ?_; (case zhB => k_asm); (case zhF => k_asm); (case zhX => k_asm); (case zhN => k_asm); (case zhT => k_asm); (case zhkk => rfl); (case zhH => walk_at "mine H"); (case zhz => walk_at "mine size"); (case zhd => ktr_room); (case zhu => ktr_units); rintro _ _ _ _ ⟨_, hv9⟩ _ _; subst hv9))
  k_with "call ref" => ((with_reducible show wpAny _ _ (call (Value.ref 84) _) _ _ _); k_dflt (refine' Claim.use (open_comment_ok _ _ _ ?zhhx ?zhH) ?zhB ?zhF ?zhX ?zhN ?zhT ?zhkk ?zhd ?zhu ?_; (case zhB => k_asm); (case zhF => k_asm); (case zhX => k_asm); (case zhN => k_asm); (case zhT => k_asm); (case zhkk => rfl); (case zhhx => first | exact S_nil | exact S_cdata); (case zhH => walk_at "mine H"); (case zhd => ktr_room); (case zhu => ktr_units); rintro _ _ _ _ ⟨_, _, hv9⟩ _ _; subst hv9))
  k_with "call ref" => ((with_reducible show wpAny _ _ (call (Value.ref 313) _) _ _ _); k_dflt (refine' Claim.use (next_ok ?zhz ?zhH) ?zhB ?zhF ?zhX ?zhN ?zhT ?zhkk ?zhd ?zhu ?_; (case zhB => k_asm); (case zhF => k_asm); (case zhX => k_asm); (case zhN => k_asm); (case zhT => k_asm); (case zhkk => rfl); (case zhH => walk_at "mine H"); (case zhz => walk_at "mine size"); (case zhd => ktr_room); (case zhu => ktr_units); rintro _ _ _ _ ⟨_, _, hv9⟩ _ _; subst hv9))
  k_with "call ref" => ((with_reducible show wpAny _ _ (call (Value.ref 327) _) _ _ _); k_dflt (refine' Claim.use (again_ok _ _ ?zhz ?zhH) ?zhB ?zhF ?zhX ?zhN ?zhT ?zhkk ?zhd ?zhu ?_; (case zhB => k_asm); (case zhF => k_asm); (case zhX => k_asm); (case zhN => k_asm); (case zhT => k_asm); (case zhkk => rfl); (case zhH => walk_at "mine H"); (case zhz => walk_at "mine size"); (case zhd => ktr_room); (case zhu => ktr_units); rintro _ _ _ _ ⟨_, hv9⟩ _ _; subst hv9))
  k_with "call ref" => ((with_reducible show wpAny _ _ (call (Value.ref 398) _) _ _ _); k_dflt (refine' Claim.use (wait_ok ?zhH) ?zhB ?zhF ?zhX ?zhN ?zhT ?zhkk ?zhd ?zhu ?_; (case zhB => k_asm); (case zhF => k_asm); (case zhX => k_asm); (case zhN => k_asm); (case zhT => k_asm); (case zhkk => rfl); (case zhH => walk_at "mine H"); (case zhd => ktr_room); (case zhu => ktr_units); rintro _ _ _ _ ⟨_, hv9⟩ _ _; subst hv9))
  k_with "call ref" => ((with_reducible show wpAny _ _ (call (Value.ref 391) _) _ _ _); k_dflt (refine' Claim.use (take_ok _ _ ?zhH) ?zhB ?zhF ?zhX ?zhN ?zhT ?zhkk ?zhd ?zhu ?_; (case zhB => k_asm); (case zhF => k_asm); (case zhX => k_asm); (case zhN => k_asm); (case zhT => k_asm); (case zhkk => rfl); (case zhH => walk_at "mine H"); (case zhd => ktr_room); (case zhu => ktr_units); rintro _ _ _ _ ⟨_, hv9⟩ _ _; subst hv9))
  k_with "call ref" => ((with_reducible show wpAny _ _ (call (Value.ref 348) _) _ _ _); k_dflt (refine' Claim.use (sign_ok _ _ ?zhz ?zhH) ?zhB ?zhF ?zhX ?zhN ?zhT ?zhkk ?zhd ?zhu ?_; (case zhB => k_asm); (case zhF => k_asm); (case zhX => k_asm); (case zhN => k_asm); (case zhT => k_asm); (case zhkk => rfl); (case zhH => walk_at "mine H"); (case zhz => walk_at "mine size"); (case zhd => ktr_room); (case zhu => ktr_units); rintro _ _ _ _ ⟨_, hv9⟩ _ _; subst hv9))
  k_with "call ref" => ((with_reducible show wpAny _ _ (call (Value.ref 369) _) _ _ _); k_dflt (refine' Claim.use (eof_ok ?zhz ?zhH) ?zhB ?zhF ?zhX ?zhN ?zhT ?zhkk ?zhd ?zhu ?_; (case zhB => k_asm); (case zhF => k_asm); (case zhX => k_asm); (case zhN => k_asm); (case zhT => k_asm); (case zhkk => rfl); (case zhH => walk_at "mine H"); (case zhz => walk_at "mine size"); (case zhd => ktr_room); (case zhu => ktr_units); rintro _ _ _ _ ⟨_, hv9⟩ _ _; subst hv9))
  k_with "call ref" => ((with_reducible show wpAny _ _ (call (Value.ref 362) _) _ _ _); k_dflt (refine' Claim.use (emit_draft_ok ?zhhd ?zhz ?zhH) ?zhB ?zhF ?zhX ?zhN ?zhT ?zhkk ?zhd ?zhu ?_; (case zhB => k_asm); (case zhF => k_asm); (case zhX => k_asm); (case zhN => k_asm); (case zhT => k_asm); (case zhkk => rfl); (case zhH => walk_at "mine H"); (case zhhd => first | rfl | with_reducible assumption); (case zhz => walk_at "mine size"); (case zhd => ktr_room); (case zhu => ktr_units); rintro _ _ _ _ ⟨_, hv9⟩ _ _; subst hv9))
  k_with "call ref" => ((with_reducible show wpAny _ _ (call (Value.ref 91) _) _ _ _); k_dflt (refine' Claim.use (close_ok ?zhhd ?zhz ?zhH) ?zhB ?zhF ?zhX ?zhN ?zhT ?zhkk ?zhd ?zhu ?_; (case zhB => k_asm); (case zhF => k_asm); (case zhX => k_asm); (case zhN => k_asm); (case zhT => k_asm); (case zhkk => rfl); (case zhH => walk_at "mine H"); (case zhhd => first | rfl | with_reducible assumption); (case zhz => walk_at "mine size"); (case zhd => ktr_room); (case zhu => ktr_units); rintro _ _ _ _ ⟨_, hv9⟩ _ _; subst hv9))
  k_with "call ref" => ((with_reducible show wpAny _ _ (call (Value.ref 98) _) _ _ _); k_dflt (refine' Claim.use (null_ok ?zhhd ?zhl ?zhz ?zhH) ?zhB ?zhF ?zhX ?zhN ?zhT ?zhkk ?zhd ?zhu ?_; (case zhB => k_asm); (case zhF => k_asm); (case zhX => k_asm); (case zhN => k_asm); (case zhT => k_asm); (case zhkk => rfl); (case zhH => walk_at "mine H"); (case zhhd => first | rfl | with_reducible assumption); (case zhl => walk_at "mine size"); (case zhz => walk_at "mine size"); (case zhd => ktr_room); (case zhu => ktr_units); rintro _ _ _ _ ⟨_, hv9⟩ _ _; subst hv9))
  trivial


theorem open_cdata_ok (hz : d.errs.length ≤ 1000000) (H : TokX w T n0 d dv nx) : Claim prog w mean mg mb 10 112 nx [.ref T.t] (fun v nx' => ∃ y, TokX w T n0 (if d.foreign then { d with state := "CDATA section" } else { d with errs := d.errs ++ [[.str "cdata-in-html-content", .int ((d.at_ : Int) - 1)]], draft := some wCd, state := "bogus comment" }) y nx' ∧ v = .none) := by
  unfold Claim
  intro dp un gd cn cs a ccd cl outer A₀ base h₀ L m s Q E B F X N Tp hk hd hu hret
  refine wpAny_call ?_
  k_dflt cell_enter
  walk_at "mine steps"
  · exact hret _ _ _ _ ⟨_, TokX.cast (by with_reducible assumption) (by rw [‹d.foreign = true›]; rfl), rfl⟩ (by k_asm) (by k_asm)
  · exact hret _ _ _ _ ⟨_, TokX.cast (by with_reducible assumption) (by rw [‹d.foreign = false›]; rfl), rfl⟩ (by k_asm) (by k_asm)

theorem lines_B5_5 : True := by
  k_with "call ref" => ((with_reducible show wpAny _ _ (call (Value.ref 105) _) _ _ _); k_dflt (refine' Claim.use (untold_ok ?zhz ?zhs ?zhH) ?zhB ?zhF ?zhX ?zhN ?zhT ?zhkk ?zhd ?zhu ?_; (case zhB => k_asm); (case zhF => k_asm); (case zhX => k_asm); (case zhN => k_asm); (case zhT => k_asm); (case zhkk => rfl); (case zhH => walk_at "mine H"); (case zhz => walk_at "mine size"); (case zhs => first | with_reducible assumption | assumption); (case zhd => ktr_room); (case zhu => ktr_units); rintro _ _ _ _ ⟨hn9, hv9⟩ _ _; replace hn9 := Eq.symm hn9; subst hn9; subst hv9))
  k_with "call ref" => ((with_reducible show wpAny _ _ (call (Value.ref 112) _) _ _ _); k_dflt (refine' Claim.use (open_cdata_ok ?zhz ?zhH) ?zhB ?zhF ?zhX ?zhN ?zhT ?zhkk ?zhd ?zhu ?_; (case zhB => k_asm); (case zhF => k_asm); (case zhX => k_asm); (case zhN => k_asm); (case zhT => k_asm); (case zhkk => rfl); (case zhH => walk_at "mine H"); (case zhz => walk_at "mine size"); (case zhd => ktr_room); (case zhu => ktr_units); rintro _ _ _ _ ⟨_, _, hv9⟩ _ _; subst hv9))
  trivial


noncomputable def etPs (T : TA) (l : List Nat) (u : Tok) : List (Str × Value) := [("self", .ref T.t), ("text", .str (S l) u)]
theorem emit_text_ok (l : List Nat) {x : Str} (u : Tok) (hx : x = S l) (hz : d.out.length + l.length ≤ 1000000) (H : TokX w T n0 d dv nx) : Claim prog w mean mg mb 4 355 nx [.ref T.t, .str x u] (fun v nx' => TokX w T n0 { d with out := d.out ++ l.map chrR } dv nx' ∧ v = .none) := by
  subst hx
  unfold Claim
  intro dp un gd cn cs a ccd cl outer A₀ base h₀ L m s Q E B F X N Tp hk hd hu hret
  refine wpAny_call ?_
  k_dflt cell_enter
  walk_at "mine steps"
  walk_at "mine for"
  walk_at "mine name"
  refine' text_loop (l := l) (fun i m1 nx1 => (∀ p ∈ etPs T l u, m1 p.1 = some p.2) ∧ TokX w T n0 { d with out := d.out ++ (l.take i).map chrR } dv nx1) ?hh ?F ?N ?hj ?turn ?done
  case hh => rfl
  case F => k_asm
  case N => k_asm
  case hj => exact ⟨by walk_at "mine locs", by simpa using H⟩
  case turn =>
    rintro I i c m1 nx1 h tk oI t hi hit hne ⟨hm, H0⟩ F1 N1
    have F2 := Mine.Fr.turn F1 hm
    clear F1
    unfold etPs at F2
    have hl8 : (l.take i).length ≤ l.length := by rw [List.length_take]; omega
    have es : d.out ++ (l.take (i + 1)).map chrR = d.out ++ (l.take i).map chrR ++ [chrR c] := by rw [List.take_add_one, hi]; simp
    have ez : (d.out ++ (l.take i).map chrR).length ≤ 1000000 := by rw [List.length_append, List.length_map]; omega
    generalize d.out ++ (l.take i).map chrR = o9 at *
    have H1 := H0.cons1 (p := (I, oI)) |>.rebase
    walk_at "mine steps"
    all_goals refine turnPost_tok (by k_asm) (by k_asm) hit hne H0 (by with_reducible assumption) (fun _ h => nomatch h) fun Hn => ⟨by walk_at "mine locs", ?_⟩
    all_goals (rw [es]; exact Hn)
  case done =>
    rintro m1 nx1 h tk ⟨hm, H1⟩ F1 N1
    have F2 := Mine.Fr.ovl F1 hm
    clear F1
    unfold etPs at F2
    dsimp only
    walk_at "mine steps"
    exact hret _ _ _ _ ⟨by simpa using H1, rfl⟩ (by k_asm) (by k_asm)


theorem lines_B5_6 : True := by
  k_with "call ref" => ((with_reducible show wpAny _ _ (call (Value.ref 355) _) _ _ _); k_dflt (refine' Claim.use (emit_text_ok _ _ ?zhhx ?zhz ?zhH) ?zhB ?zhF ?zhX ?zhN ?zhT ?zhkk ?zhd ?zhu ?_; (case zhB => k_asm); (case zhF => k_asm); (case zhX => k_asm); (case zhN => k_asm); (case zhT => k_asm); (case zhkk => rfl); (case zhhx => exact S_brbr); (case zhH => walk_at "mine H"); (case zhz => (try dsimp only [List.length]) <;> (walk_at "mine size")); (case zhd => ktr_room); (case zhu => ktr_units); rintro _ _ _ _ ⟨_, hv9⟩ _ _; subst hv9))
  trivial


theorem mdo_ok (hz : d.xs.length ≤ 1000) (hx : Small d.xs) (ho : d.out.length ≤ 100000) (he : d.errs.length ≤ 100000) (H : TokX w T n0 d dv nx) : Claim prog w mean mg mb 12 119 nx [.ref T.t] (fun v nx' => ∃ y, TokX w T n0 (ruleM d) y nx' ∧ v = .none) := by
  unfold Claim
  intro dp un gd cn cs a ccd cl outer A₀ base h₀ L m s Q E B F X N Tp hk hd hu hret
  refine wpAny_call ?_
  k_dflt cell_enter
  walk_at "mine steps"
  all_goals exact hret _ _ _ _ ⟨_, TokX.cast (by with_reducible assumption) (by first | exact ruleM_1 ‹_› | exact ruleM_2 ‹_› ‹_› | exact ruleM_3 ‹_› ‹_› ‹_› | exact ruleM_4 ‹_› ‹_› ‹_› ‹_› | exact ruleM_5 ‹_› ‹_› ‹_› ‹_›), rfl⟩ (by k_asm) (by k_asm)

theorem bogus_ok (l : List Nat) (hdr : d.draft = some l) (hl : l.length ≤ 100000) (hz : d.xs.length ≤ 1000) (hx : Small d.xs) (ho : d.out.length ≤ 100000) (he : d.errs.length ≤ 100000) (H : TokX w T n0 d dv nx) : Claim prog w mean mg mb 10 126 nx [.ref T.t] (fun v nx' => ∃ y, TokX w T n0 (ruleB d) y nx' ∧ v = .none) := by
  have HD := TokX.dr H hdr
  obtain ⟨x, hx⟩ : ∃ x, dv = .ref x := by obtain ⟨x, _, _, _, _, _, e, _⟩ := id HD; exact ⟨x, e⟩
  subst hx
  clear HD
  have q9 : d.xs[d.at_]?.toList.length ≤ 1 := by cases d.xs[d.at_]? <;> simp
  unfold Claim
  intro dp un gd cn cs a ccd cl outer A₀ base h₀ L m s Q E B F X N Tp hk hd hu hret
  refine wpAny_call ?_
  k_dflt cell_enter
  walk_at "mine steps"
  all_goals exact hret _ _ _ _ ⟨_, TokX.cast (by with_reducible assumption) (by first | exact ruleB_1 hdr ‹_› | exact ruleB_2 hdr ‹_› | exact ruleB_3 hdr ‹_› | exact ruleB_4 hdr ‹_› ‹_› ‹_›), rfl⟩ (by k_asm) (by k_asm)

theorem cds_ok (hz : d.xs.length ≤ 1000) (hx : Small d.xs) (ho : d.out.length ≤ 100000) (he : d.errs.length ≤ 100000) (H : TokX w T n0 d dv nx) : Claim prog w mean mg mb 10 140 nx [.ref T.t] (fun v nx' => ∃ y, TokX w T n0 (ruleS d) y nx' ∧ v = .none) := by
  unfold Claim
  intro dp un gd cn cs a ccd cl outer A₀ base h₀ L m s Q E B F X N Tp hk hd hu hret
  refine wpAny_call ?_
  k_dflt cell_enter
  walk_at "mine steps"
  all_goals exact hret _ _ _ _ ⟨_, TokX.cast (by with_reducible assumption) (by first | exact ruleS_1 ‹_› | exact ruleS_2 ‹_› | exact ruleS_3 ‹_› ‹_›), rfl⟩ (by k_asm) (by k_asm)

theorem cdb_ok (hz : d.xs.length ≤ 1000) (hx : Small d.xs) (ho : d.out.length ≤ 100000) (he : d.errs.length ≤ 100000) (H : TokX w T n0 d dv nx) : Claim prog w mean mg mb 10 147 nx [.ref T.t] (fun v nx' => ∃ y, TokX w T n0 (ruleK d) y nx' ∧ v = .none) := by
  unfold Claim
  intro dp un gd cn cs a ccd cl outer A₀ base h₀ L m s Q E B F X N Tp hk hd hu hret
  refine wpAny_call ?_
  k_dflt cell_enter
  walk_at "mine steps"
  all_goals exact hret _ _ _ _ ⟨_, TokX.cast (by with_reducible assumption) (by first | exact ruleK_1 ‹_› | exact ruleK_2 ‹_›), rfl⟩ (by k_asm) (by k_asm)

theorem cde_ok (hz : d.xs.length ≤ 1000) (hx : Small d.xs) (ho : d.out.length ≤ 100000) (he : d.errs.length ≤ 100000) (H : TokX w T n0 d dv nx) : Claim prog w mean mg mb 10 154 nx [.ref T.t] (fun v nx' => ∃ y, TokX w T n0 (ruleE d) y nx' ∧ v = .none) := by
  unfold Claim
  intro dp un gd cn cs a ccd cl outer A₀ base h₀ L m s Q E B F X N Tp hk hd hu hret
  refine wpAny_call ?_
  k_dflt cell_enter
  walk_at "mine steps"
  all_goals exact hret _ _ _ _ ⟨_, TokX.cast (by with_reducible assumption) (by first | exact ruleE_1 ‹_› | exact ruleE_2 ‹_› ‹_› | exact ruleE_3 ‹_› ‹_›), rfl⟩ (by k_asm) (by k_asm)

end B5

section B6
open PySem PySem.W PyProof.Rows PySem.Calls
set_option maxRecDepth 100000
set_option maxHeartbeats 4000000
theorem lines_B6_1 : True := by
  w_top off
  k_with_none
  k_with "execs cons" => k_fold
  k_with "exec If" => k_fold
  k_with "exec Assign" => k_fold
  k_with "exec Expr" => k_fold
  k_with "exec Return" => k_fold
  k_with "callWith" => k_fold
  k_with "call ref" => k_fold
  k_with "mine steps" => repeat' ((fail_if_success (with_reducible show wpAny _ _ (pyIter _) _ _ _)); (fail_if_success (with_reducible show wpAny _ _ (exec (Stmt.For _ (Expr.Name _ _) _ _ _) _) _ _ _)); first | (k_unfold; (try dsimp only)) | walk1 | (dsimp only; walk1) | (leave1; (try dsimp only)))
  k_with "mine H" => (first | (with_reducible assumption) | (with_reducible refine' TokX.cons1 ?zhhh; (case zhhh => with_reducible assumption)) | (with_reducible refine' TokX.cons2 ?zhhh; (case zhhh => with_reducible assumption)) | (with_reducible refine' TokX.cons3 ?zhhh; (case zhhh => with_reducible assumption)))
  k_with "mine row" => (first | (with_reducible assumption) | (apply RowIs.of; k_mem; (repeat' constructor); done))
  k_with "mine HD" => (first | (with_reducible assumption) | (exact TokX.dr (by with_reducible assumption) rfl) | (exact TokX.dr (by with_reducible assumption) (by with_reducible assumption)) | (exact DraftAt.keepA (by with_reducible assumption) (by with_reducible assumption)) | (exact TokX.dr (by with_reducible assumption) (by assumption)))
  k_with "mine fxnh" => ((case zhF => k_asm); (case zhX => k_asm); (case zhN => k_asm); (case zhH => walk_at "mine H"))
  k_with "getAttr ref" => k_dflt (first | (with_reducible refine' get_at ?zhF ?zhX ?zhN ?zhH ?_; walk_at "mine fxnh"; intro _) | (with_reducible refine' get_stream ?zhF ?zhX ?zhN ?zhH ?_; walk_at "mine fxnh") | (with_reducible refine' get_signs ?zhF ?zhX ?zhN ?zhH ?_; walk_at "mine fxnh") | (with_reducible refine' get_out ?zhF ?zhX ?zhN ?zhH ?_; walk_at "mine fxnh") | (with_reducible refine' get_errors ?zhF ?zhX ?zhN ?zhH ?_; walk_at "mine fxnh") | (with_reducible refine' get_draft ?zhF ?zhX ?zhN ?zhH ?_; walk_at "mine fxnh") | (with_reducible refine' get_state ?zhF ?zhX ?zhN ?zhH ?_; walk_at "mine fxnh"; intro _) | (with_reducible refine' get_states ?zhF ?zhX ?zhN ?zhH ?_; walk_at "mine fxnh") | (with_reducible refine' get_waiting ?zhF ?zhX ?zhN ?zhH ?_; walk_at "mine fxnh") | (with_reducible refine' get_done ?zhF ?zhX ?zhN ?zhH ?_; walk_at "mine fxnh") | (with_reducible refine' get_foreign ?zhF ?zhX ?zhN ?zhH ?_; walk_at "mine fxnh") | (with_reducible refine' get_last ?zhF ?zhX ?zhN ?zhH ?_; walk_at "mine fxnh"; intro _) | (with_reducible refine' get_closed ?zhF ?zhX ?zhN ?zhH ?_; walk_at "mine fxnh") | (with_reducible refine' get_return ?zhF ?zhX ?zhN ?zhH ?_; walk_at "mine fxnh") | (with_reducible refine' get_serr ?zhF ?zhX ?zhN ?zhH ?_; walk_at "mine fxnh") | (with_reducible refine' getd_text ?zhF ?zhX ?zhN ?zhH ?_; (case zhF => k_asm); (case zhX => k_asm); (case zhN => k_asm); (case zhH => walk_at "mine HD"); intro _) | (with_reducible refine' getd_kind ?zhF ?zhX ?zhN ?zhH ?_; (case zhF => k_asm); (case zhX => k_asm); (case zhN => k_asm); (case zhH => walk_at "mine HD"); intro _))
  k_with "setAttr ref" => k_dflt (first | (with_reducible refine' set_state ?zhF ?zhX ?zhN ?zhH ?_; walk_at "mine fxnh"; intro _ _ _ _ _ _) | (with_reducible refine' set_waiting ?zhF ?zhX ?zhN ?zhH ?_; walk_at "mine fxnh"; intro _ _ _ _ _ _) | (with_reducible refine' set_done ?zhF ?zhX ?zhN ?zhH ?_; walk_at "mine fxnh"; intro _ _ _ _ _ _) | (with_reducible refine' set_foreign ?zhF ?zhX ?zhN ?zhH ?_; walk_at "mine fxnh"; intro _ _ _ _ _ _) | (with_reducible refine' set_closed ?zhF ?zhX ?zhN ?zhH ?_; walk_at "mine fxnh"; intro _ _ _ _ _ _) | (with_reducible refine' set_return ?zhF ?zhX ?zhN ?zhH ?_; walk_at "mine fxnh"; intro _ _ _ _ _ _) | (with_reducible refine' set_draft_none ?zhF ?zhX ?zhN ?zhH ?_; walk_at "mine fxnh"; intro _ _ _ _ _ _) | (with_reducible refine' set_draft ?zhF ?zhX ?zhN ?zhH ?zhhy ?_; walk_at "mine fxnh"; (case zhhy => with_reducible assumption); intro _ _ _ _ _ _) | (with_reducible refine' setd_text ?zhF ?zhX ?zhN ?zhH ?zhhd ?zhhy ?_; walk_at "mine fxnh"; (case zhhd => first | with_reducible assumption | rfl); (case zhhy => first | exact rfl | exact S_app _ _ | (rw [S_fffd]; exact S_app _ _)); intro _ _ _ _ _) | ((with_reducible show wpAny _ _ (setAttr (Value.ref (TA.t _)) (PySem.Str.ofString "at") _) _ _ _); refine' set_at ?zhF ?zhX ?zhN ?zhH (Int.natCast_add _ _).symm ?_; walk_at "mine fxnh"; intro _ _ _ _ _ _) | ((with_reducible show wpAny _ _ (setAttr (Value.ref (TA.t _)) (PySem.Str.ofString "at") _) _ _ _); refine' set_at ?zhF ?zhX ?zhN ?zhH (cast_pred ?zhp) ?_; walk_at "mine fxnh"; (case zhp => first | with_reducible assumption | omega); intro _ _ _ _ _ _) | ((with_reducible show wpAny _ _ (setAttr (Value.ref (TA.t _)) (PySem.Str.ofString "at") _) _ _ _); refine' set_at ?zhF ?zhX ?zhN ?zhH (Eq.refl (Nat.cast _)) ?_; walk_at "mine fxnh"; intro _ _ _ _ _ _))
  k_with "getMethod ref" => k_dflt (first | ((with_reducible show wpAny _ _ (getMethod (Value.ref (TA.t _)) _ _) _ _ _); refine' tok_method ?zhF ?zhX ?zhN ?zhH ?zhg ?zhf ?zht ?zhl ?_; walk_at "mine fxnh"; (case zhg => k_dflt k_is); (case zhf => k_dflt k_is); (case zht => k_dflt k_is); (case zhl => intro _; rfl)) | ((with_reducible show wpAny _ _ (getMethod (Value.ref (TA.st _)) _ _) _ _ _); refine' str_method ?zhF ?zhX ?zhN ?zhH ?zhg ?zhf ?zht ?zhl ?_; walk_at "mine fxnh"; (case zhg => k_dflt k_is); (case zhf => k_dflt k_is); (case zht => k_dflt k_is); (case zhl => intro _; rfl)) | (refine' dr_method ?zhF ?zhX ?zhN ?zhH ?zhg ?zhf ?zht ?zhl ?_; (case zhF => k_asm); (case zhX => k_asm); (case zhN => k_asm); (case zhH => walk_at "mine HD"); (case zhg => k_dflt k_is); (case zhf => k_dflt k_is); (case zht => k_dflt k_is); (case zhl => intro _ _ _; rfl)) | ((with_reducible show wpAny _ _ (getMethod (Value.ref (TA.er _)) _ _) _ _ _); refine' app_method_er ?zhN ?zhH ?_; (case zhN => k_asm); (case zhH => walk_at "mine H")) | ((with_reducible show wpAny _ _ (getMethod (Value.ref (TA.ou _)) _ _) _ _ _); refine' app_method_ou ?zhN ?zhH ?_; (case zhN => k_asm); (case zhH => walk_at "mine H")) | ((with_reducible show wpAny _ _ (getMethod (Value.ref (TA.se _)) _ _) _ _ _); refine' app_method_se ?zhN ?zhH ?_; (case zhN => k_asm); (case zhH => walk_at "mine H")) | ((with_reducible show wpAny _ _ (getMethod (Value.ref (TA.sg _)) _ _) _ _ _); refine' app_method_sg ?zhN ?zhH ?_; (case zhN => k_asm); (case zhH => walk_at "mine H")))
  k_with "call builtin:list.append" => k_dflt (first | ((with_reducible show wpAny _ _ (call _ [Value.ref (TA.er _), _]) _ _ _); refine' app_er ?zhF ?zhN ?zhH ?zhr ?zhz ?_; (case zhF => k_asm); (case zhN => k_asm); (case zhH => walk_at "mine H"); (case zhr => walk_at "mine row"); (case zhz => walk_at "mine size"); intro _ _ _ _ _ _) | ((with_reducible show wpAny _ _ (call _ [Value.ref (TA.ou _), _]) _ _ _); refine' app_ou ?zhF ?zhN ?zhH ?zhr ?zhz ?_; (case zhF => k_asm); (case zhN => k_asm); (case zhH => walk_at "mine H"); (case zhr => walk_at "mine row"); (case zhz => walk_at "mine size"); intro _ _ _ _ _ _) | ((with_reducible show wpAny _ _ (call _ [Value.ref (TA.se _), _]) _ _ _); refine' app_se ?zhF ?zhN ?zhH ?zhr ?zhz ?_; (case zhF => k_asm); (case zhN => k_asm); (case zhH => walk_at "mine H"); (case zhr => walk_at "mine row"); (case zhz => walk_at "mine size"); intro _ _ _ _ _ _) | ((with_reducible show wpAny _ _ (call _ [Value.ref (TA.sg _), _]) _ _ _); refine' app_sg ?zhF ?zhN ?zhH ?zhhx ?zhz ?_; (case zhF => k_asm); (case zhN => k_asm); (case zhH => walk_at "mine H"); (case zhhx => first | exact S_nl | exact rfl); (case zhz => walk_at "mine size"); intro _ _ _ _ _ _))
  k_with "mine size" => first | with_reducible assumption | ((try dsimp only at *); omega) | ((try dsimp only at *); simp only [List.length_append, List.length_cons, List.length_nil, List.length_take, List.length_drop, List.length_map] at *; omega)
  k_with "call builtin:len" => k_dflt ((with_reducible refine' len_S ?zhz ?_); (case zhz => walk_at "mine size"))
  k_with "call builtin:ord" => k_dflt (with_reducible refine' ord_S ?_)
  k_with "call builtin:chr" => k_dflt (refine' chr_S (Int.natCast_add _ _).symm ?zhz ?_; (case zhz => omega))
  k_with "call builtin:len" => k_dflt (with_reducible refine' len_sg ?zhN ?zhH ?zhz ?_; (case zhN => k_asm); (case zhH => walk_at "mine H"); (case zhz => walk_at "mine size"))
  k_with "mine slen" => (simp only [S_fffd, S_len, S_nil, List.length_append, List.length_cons, List.length_nil, sizeLine]; omega)
  k_with "binaryOp Add str str" => k_dflt (refine' PyProof.Rows.add_str ?_ ?zhz9; (case zhz9 => walk_at "mine slen"); intro _ _)
  k_with "mine news" => first | k_asm | exact News.ofCons (by assumption)
  k_with "mine for" => ((rename Fr _ _ _ _ => lF'); (with_unfolding_all refine' For_invVF lF' ?zhk1 ?zhk2 ?_; (case zhk1 => exact rfl); (case zhk2 => exact rfl)))
  k_with "mine name" => k_dflt ((refine' nameX_L ?zhF ?zhv ?_ ?zha ?zhb ?zhc); (case zhF => k_asm); (case zha => rfl); (case zhb => rfl); (case zhv => rfl); (case zhc => decide))
  k_with "mine locs" => ((repeat' (refine List.forall_mem_cons.mpr ⟨rfl, ?_⟩)); exact fun _ h => nomatch h)
  k_with "subscriptTail" => k_dflt ((with_reducible show wpAny _ _ (subscriptTail _ _ (Value.ref (TA.sg _)) (Value.int _ _)) _ _ _); refine' item_sg ?zhN ?zhH ?zhe ?zhhi ?zhz ?_; (case zhN => k_asm); (case zhH => walk_at "mine H"); (case zhe => first | exact rfl | exact (Int.natCast_add _ _).symm); (case zhhi => (try dsimp only at *); omega); (case zhz => walk_at "mine size"); intro c9 u9 hc9)
  k_with "subscriptTail" => k_dflt ((with_reducible show wpAny _ _ (subscriptTail _ _ (Value.str _ _) (Value.int _ _)) _ _ _); refine' item_S ?zhhi ?zhz ?_; (case zhhi => (try dsimp only at *); omega); (case zhz => walk_at "mine size"); intro c9 u9 hc9)
  k_with "subscriptTail Name Name str int" => k_dflt ((with_reducible show wpAny _ _ (subscriptTail _ _ (Value.str _ _) (Value.int _ _)) _ _ _); refine' item_S ?zhhi ?zhz ?_; (case zhhi => (try dsimp only at *); omega); (case zhz => walk_at "mine size"); intro c9 u9 hc9)
  trivial

variable {prog : Program} {w : World} {mean : ExcName → Option Value} {mg mb : Str → Option Value} {T : TA} {n0 : Led} {d : D} {dv : Value} {nx : Led}

section
variable {A : Around} {E : Value → Shared → Prop} {s : Shared} {h₀ : Heap} {L : Addr}
theorem sts_notin {x : Str} {u : Tok} {Q : Value → Shared → Prop} (N : News h₀ L s.heap nx) (H : TokX w T n0 d dv nx) (h : Q (.bool (!known x)) { s with toks := s.toks + 1 }) : wpAny (model prog w) A (compareOp .NotIn (.str x u) (.ref T.sts)) Q E s := by
  obtain ⟨kp, nd, ⟨σ, ks, m1, m2, m3, a1, a2, a3, a4, a5, a6, a7, a8, a9, _⟩, dr⟩ := H
  exact kdg_notin (knd := PySem.strKind prog w) N a9 (m3.is prog) m3.1 (strKind_is _ _ _ _) (known x) rfl h
theorem sts_item {value slice : PySem.Expr} {q : St} {x : Str} {u : Tok} {Q : Value → Shared → Prop} (N : News h₀ L s.heap nx) (H : TokX w T n0 d dv nx) (hq : x = q.str) (h : Q (.ref q.addr) { s with toks := s.toks + 1 })
    (hs : subscripted slice false (.ref T.sts) (.str x u) = operate [.ref T.sts, .str x u] (getItem (.ref T.sts) (.str x u)) := by with_unfolding_all rfl) :
    wpAny (model prog w) A (subscriptTail value slice (.ref T.sts) (.str x u)) Q E s := by
  obtain ⟨kp, nd, ⟨σ, ks, m1, m2, m3, a1, a2, a3, a4, a5, a6, a7, a8, a9, _⟩, dr⟩ := H
  have hD := kda_dict (knd := PySem.strKind prog w) N a9 (m3.is prog)
  exact tail_any hD.typeIs PySem.slot_dict_getitem.lookup (wpAny_getItem_of (strKind_is _ _ _ _) hD.mapOf (by rw [hq]; exact q.val) h) hs
end
theorem lines_B6_2 : True := by
  k_with "compareOp NotIn str ref" => k_dflt (with_reducible refine' sts_notin ?zhN ?zhH ?_; (case zhN => k_asm); (case zhH => walk_at "mine H"))
  k_with "subscriptTail" => k_dflt ((with_reducible show wpAny _ _ (subscriptTail _ _ (Value.ref (TA.sts _)) (Value.str _ _)) _ _ _); refine' sts_item ?zhN ?zhH ?zhq ?_; (case zhN => k_asm); (case zhH => walk_at "mine H"); (case zhq => assumption); (try dsimp only [St.addr]))
  trivial

theorem Claim.le {k k' : Nat} {f : Addr} {args : List Value} {R : Value → Led → Prop} (C : Claim prog w mean mg mb k f nx args R) (h : k ≤ k') : Claim prog w mean mg mb k' f nx args R := by
  intro dp un gd cn cs a ccd cl outer A₀ base h₀ L m s Q E B F X N Tp hk hd hu hret
  exact C dp un gd cn cs a ccd cl outer A₀ base h₀ L m s Q E B F X N Tp hk (by omega) (by omega) hret
theorem rule_ok (q : St) (n : Nat) (hq : d.state = q.str) (hdn : d.done = false) (W : WF (n + 1) d) (H : TokX w T n0 d dv nx) : Claim prog w mean mg mb 12 q.addr nx [.ref T.t] (fun v nx' => ∃ y, TokX w T n0 (q.rule d) y nx' ∧ v = .none) := by
  have h1 := W.xs
  have h2 := W.small
  have h3 := W.out
  have h4 := W.errs
  cases q with
  | mdo => exact mdo_ok h1 h2 (by omega) (by omega) H
  | bog =>
    obtain ⟨l, hl, hz⟩ := W.dr hq hdn
    exact (bogus_ok l hl (by omega) h1 h2 (by omega) (by omega) H).le (by decide)
  | cs => exact (cds_ok h1 h2 (by omega) (by omega) H).le (by decide)
  | cb => exact (cdb_ok h1 h2 (by omega) (by omega) H).le (by decide)
  | ce => exact (cde_ok h1 h2 (by omega) (by omega) H).le (by decide)

theorem lines_B6_3 : True := by
  k_with "call ref" => ((with_reducible show wpAny _ _ (call (Value.ref 119) _) _ _ _); k_dflt (refine' Claim.use (rule_ok .mdo _ ?zhq ?zhdn ?zhW ?zhH) ?zhB ?zhF ?zhX ?zhN ?zhT ?zhkk ?zhd ?zhu ?_; (case zhB => k_asm); (case zhF => k_asm); (case zhX => k_asm); (case zhN => k_asm); (case zhT => k_asm); (case zhkk => rfl); (case zhH => walk_at "mine H"); (case zhq => first | with_reducible assumption | assumption); (case zhdn => first | with_reducible assumption | assumption); (case zhW => exact WF.unwait ‹_›); (case zhd => ktr_room); (case zhu => ktr_units); rintro _ _ _ _ ⟨_, _, hv9⟩ _ _; subst hv9))
  k_with "call ref" => ((with_reducible show wpAny _ _ (call (Value.ref 126) _) _ _ _); k_dflt (refine' Claim.use (rule_ok .bog _ ?zhq ?zhdn ?zhW ?zhH) ?zhB ?zhF ?zhX ?zhN ?zhT ?zhkk ?zhd ?zhu ?_; (case zhB => k_asm); (case zhF => k_asm); (case zhX => k_asm); (case zhN => k_asm); (case zhT => k_asm); (case zhkk => rfl); (case zhH => walk_at "mine H"); (case zhq => first | with_reducible assumption | assumption); (case zhdn => first | with_reducible assumption | assumption); (case zhW => exact WF.unwait ‹_›); (case zhd => ktr_room); (case zhu => ktr_units); rintro _ _ _ _ ⟨_, _, hv9⟩ _ _; subst hv9))
  k_with "call ref" => ((with_reducible show wpAny _ _ (call (Value.ref 140) _) _ _ _); k_dflt (refine' Claim.use (rule_ok .cs _ ?zhq ?zhdn ?zhW ?zhH) ?zhB ?zhF ?zhX ?zhN ?zhT ?zhkk ?zhd ?zhu ?_; (case zhB => k_asm); (case zhF => k_asm); (case zhX => k_asm); (case zhN => k_asm); (case zhT => k_asm); (case zhkk => rfl); (case zhH => walk_at "mine H"); (case zhq => first | with_reducible assumption | assumption); (case zhdn => first | with_reducible assumption | assumption); (case zhW => exact WF.unwait ‹_›); (case zhd => ktr_room); (case zhu => ktr_units); rintro _ _ _ _ ⟨_, _, hv9⟩ _ _; subst hv9))
  k_with "call ref" => ((with_reducible show wpAny _ _ (call (Value.ref 147) _) _ _ _); k_dflt (refine' Claim.use (rule_ok .cb _ ?zhq ?zhdn ?zhW ?zhH) ?zhB ?zhF ?zhX ?zhN ?zhT ?zhkk ?zhd ?zhu ?_; (case zhB => k_asm); (case zhF => k_asm); (case zhX => k_asm); (case zhN => k_asm); (case zhT => k_asm); (case zhkk => rfl); (case zhH => walk_at "mine H"); (case zhq => first | with_reducible assumption | assumption); (case zhdn => first | with_reducible assumption | assumption); (case zhW => exact WF.unwait ‹_›); (case zhd => ktr_room); (case zhu => ktr_units); rintro _ _ _ _ ⟨_, _, hv9⟩ _ _; subst hv9))
  k_with "call ref" => ((with_reducible show wpAny _ _ (call (Value.ref 154) _) _ _ _); k_dflt (refine' Claim.use (rule_ok .ce _ ?zhq ?zhdn ?zhW ?zhH) ?zhB ?zhF ?zhX ?zhN ?zhT ?zhkk ?zhd ?zhu ?_; (case zhB => k_asm); (case zhF => k_asm); (case zhX => k_asm); (case zhN => k_asm); (case zhT => k_asm); (case zhkk => rfl); (case zhH => walk_at "mine H"); (case zhq => first | with_reducible assumption | assumption); (case zhdn => first | with_reducible assumption | assumption); (case zhW => exact WF.unwait ‹_›); (case zhd => ktr_room); (case zhu => ktr_units); rintro _ _ _ _ ⟨_, _, hv9⟩ _ _; subst hv9))
  trivial


theorem step_1 {q : St} {d : D} (h : (q.rule { d with waiting := false }).waiting = true) : { q.rule { d with waiting := false } with at_ := d.at_ } = stepD q d := by
  unfold stepD; dsimp only; rw [if_pos h]
theorem step_2 {q : St} {d : D} (h : (q.rule { d with waiting := false }).waiting = false) : q.rule { d with waiting := false } = stepD q d := by
  unfold stepD; dsimp only; rw [if_neg (by rw [h]; exact Bool.noConfusion)]

theorem step_ok (q : St) (n : Nat) (hq : d.state = q.str) (hdn : d.done = false) (W : WF (n + 1) d) (H : TokX w T n0 d dv nx) : Claim prog w mean mg mb 14 419 nx [.ref T.t] (fun v nx' => ∃ y, TokX w T n0 (stepD q d) y nx' ∧ v = .none) := by
  have hkn : known d.state = true := by rw [hq]; exact q.known
  cases q
  all_goals unfold Claim
  all_goals intro dp un gd cn cs a ccd cl outer A₀ base h₀ L m s Q E B F X N Tp hk hd hu hret
  all_goals refine wpAny_call ?_
  all_goals k_dflt cell_enter
  all_goals walk_at "mine steps"
  all_goals exact hret _ _ _ _ ⟨_, TokX.cast (by with_reducible assumption) (by first | exact step_1 ‹_› | exact step_2 ‹_›), rfl⟩ (by k_asm) (by k_asm)

theorem is_ready_ok (hz : d.xs.length ≤ 1000) (H : TokX w T n0 d dv nx) : Claim prog w mean mg mb 4 426 nx [.ref T.t] (fun v nx' => nx' = nx ∧ v = .bool (readyD d)) := by
  unfold Claim
  intro dp un gd cn cs a ccd cl outer A₀ base h₀ L m s Q E B F X N Tp hk hd hu hret
  refine wpAny_call ?_
  k_dflt cell_enter
  walk_at "mine steps"
  · exact hret _ nx _ _ ⟨rfl, by unfold readyD; rw [‹d.done = true›]; rfl⟩ (by k_asm) (by k_asm)
  · exact hret _ nx _ _ ⟨rfl, by unfold readyD; rw [‹d.done = false›, ‹d.waiting = true›]; rfl⟩ (by k_asm) (by k_asm)
  · exact hret _ nx _ _ ⟨rfl, by unfold readyD; rw [‹d.done = false›, ‹d.waiting = false›, ‹known d.state = true›, ‹d.closed = true›]; rfl⟩ (by k_asm) (by k_asm)
  · exact hret _ nx _ _ ⟨rfl, by unfold readyD; rw [‹d.done = false›, ‹d.waiting = false›, ‹known d.state = true›, ‹d.closed = false›]; simp⟩ (by k_asm) (by k_asm)
  · exact hret _ nx _ _ ⟨rfl, by unfold readyD; rw [‹d.done = false›, ‹d.waiting = false›, ‹known d.state = false›]; rfl⟩ (by k_asm) (by k_asm)

end B6

section B7
open PySem PySem.W PyProof.Rows PySem.Calls
set_option maxRecDepth 100000
set_option maxHeartbeats 4000000
theorem lines_B7_1 : True := by
  w_top off
  k_with_none
  k_with "execs cons" => k_fold
  k_with "exec If" => k_fold
  k_with "exec Assign" => k_fold
  k_with "exec Expr" => k_fold
  k_with "exec Return" => k_fold
  k_with "callWith" => k_fold
  k_with "call ref" => k_fold
  k_with "mine steps" => repeat' ((fail_if_success (with_reducible show wpAny _ _ (pyIter _) _ _ _)); (fail_if_success (with_reducible show wpAny _ _ (exec (Stmt.For _ (Expr.Name _ _) _ _ _) _) _ _ _)); first | (k_unfold; (try dsimp only)) | walk1 | (dsimp only; walk1) | (leave1; (try dsimp only)))
  k_with "mine H" => (first | (with_reducible assumption) | (with_reducible refine' TokX.cons1 ?zhhh; (case zhhh => with_reducible assumption)) | (with_reducible refine' TokX.cons2 ?zhhh; (case zhhh => with_reducible assumption)) | (with_reducible refine' TokX.cons3 ?zhhh; (case zhhh => with_reducible assumption)))
  k_with "mine row" => (first | (with_reducible assumption) | (apply RowIs.of; k_mem; (repeat' constructor); done))
  k_with "mine HD" => (first | (with_reducible assumption) | (exact TokX.dr (by with_reducible assumption) rfl) | (exact TokX.dr (by with_reducible assumption) (by with_reducible assumption)) | (exact DraftAt.keepA (by with_reducible assumption) (by with_reducible assumption)) | (exact TokX.dr (by with_reducible assumption) (by assumption)))
  k_with "mine fxnh" => ((case zhF => k_asm); (case zhX => k_asm); (case zhN => k_asm); (case zhH => walk_at "mine H"))
  k_with "getAttr ref" => k_dflt (first | (with_reducible refine' get_at ?zhF ?zhX ?zhN ?zhH ?_; walk_at "mine fxnh"; intro _) | (with_reducible refine' get_stream ?zhF ?zhX ?zhN ?zhH ?_; walk_at "mine fxnh") | (with_reducible refine' get_signs ?zhF ?zhX ?zhN ?zhH ?_; walk_at "mine fxnh") | (with_reducible refine' get_out ?zhF ?zhX ?zhN ?zhH ?_; walk_at "mine fxnh") | (with_reducible refine' get_errors ?zhF ?zhX ?zhN ?zhH ?_; walk_at "mine fxnh") | (with_reducible refine' get_draft ?zhF ?zhX ?zhN ?zhH ?_; walk_at "mine fxnh") | (with_reducible refine' get_state ?zhF ?zhX ?zhN ?zhH ?_; walk_at "mine fxnh"; intro _) | (with_reducible refine' get_states ?zhF ?zhX ?zhN ?zhH ?_; walk_at "mine fxnh") | (with_reducible refine' get_waiting ?zhF ?zhX ?zhN ?zhH ?_; walk_at "mine fxnh") | (with_reducible refine' get_done ?zhF ?zhX ?zhN ?zhH ?_; walk_at "mine fxnh") | (with_reducible refine' get_foreign ?zhF ?zhX ?zhN ?zhH ?_; walk_at "mine fxnh") | (with_reducible refine' get_last ?zhF ?zhX ?zhN ?zhH ?_; walk_at "mine fxnh"; intro _) | (with_reducible refine' get_closed ?zhF ?zhX ?zhN ?zhH ?_; walk_at "mine fxnh") | (with_reducible refine' get_return ?zhF ?zhX ?zhN ?zhH ?_; walk_at "mine fxnh") | (with_reducible refine' get_serr ?zhF ?zhX ?zhN ?zhH ?_; walk_at "mine fxnh") | (with_reducible refine' getd_text ?zhF ?zhX ?zhN ?zhH ?_; (case zhF => k_asm); (case zhX => k_asm); (case zhN => k_asm); (case zhH => walk_at "mine HD"); intro _) | (with_reducible refine' getd_kind ?zhF ?zhX ?zhN ?zhH ?_; (case zhF => k_asm); (case zhX => k_asm); (case zhN => k_asm); (case zhH => walk_at "mine HD"); intro _))
  k_with "setAttr ref" => k_dflt (first | (with_reducible refine' set_state ?zhF ?zhX ?zhN ?zhH ?_; walk_at "mine fxnh"; intro _ _ _ _ _ _) | (with_reducible refine' set_waiting ?zhF ?zhX ?zhN ?zhH ?_; walk_at "mine fxnh"; intro _ _ _ _ _ _) | (with_reducible refine' set_done ?zhF ?zhX ?zhN ?zhH ?_; walk_at "mine fxnh"; intro _ _ _ _ _ _) | (with_reducible refine' set_foreign ?zhF ?zhX ?zhN ?zhH ?_; walk_at "mine fxnh"; intro _ _ _ _ _ _) | (with_reducible refine' set_closed ?zhF ?zhX ?zhN ?zhH ?_; walk_at "mine fxnh"; intro _ _ _ _ _ _) | (with_reducible refine' set_return ?zhF ?zhX ?zhN ?zhH ?_; walk_at "mine fxnh"; intro _ _ _ _ _ _) | (with_reducible refine' set_draft_none ?zhF ?zhX ?zhN ?zhH ?_; walk_at "mine fxnh"; intro _ _ _ _ _ _) | (with_reducible refine' set_draft ?zhF ?zhX ?zhN ?zhH ?zhhy ?_; walk_at "mine fxnh"; (case zhhy => with_reducible assumption); intro _ _ _ _ _ _) | (with_reducible refine' setd_text ?zhF ?zhX ?zhN ?zhH ?zhhd ?zhhy ?_; walk_at "mine fxnh"; (case zhhd => first | with_reducible assumption | rfl); (case zhhy => first | exact rfl | exact S_app _ _ | (rw [S_fffd]; exact S_app _ _)); intro _ _ _ _ _) | ((with_reducible show wpAny _ _ (setAttr (Value.ref (TA.t _)) (PySem.Str.ofString "at") _) _ _ _); refine' set_at ?zhF ?zhX ?zhN ?zhH (Int.natCast_add _ _).symm ?_; walk_at "mine fxnh"; intro _ _ _ _ _ _) | ((with_reducible show wpAny _ _ (setAttr (Value.ref (TA.t _)) (PySem.Str.ofString "at") _) _ _ _); refine' set_at ?zhF ?zhX ?zhN ?zhH (cast_pred ?zhp) ?_; walk_at "mine fxnh"; (case zhp => first | with_reducible assumption | omega); intro _ _ _ _ _ _) | ((with_reducible show wpAny _ _ (setAttr (Value.ref (TA.t _)) (PySem.Str.ofString "at") _) _ _ _); refine' set_at ?zhF ?zhX ?zhN ?zhH (Eq.refl (Nat.cast _)) ?_; walk_at "mine fxnh"; intro _ _ _ _ _ _))
  k_with "getMethod ref" => k_dflt (first | ((with_reducible show wpAny _ _ (getMethod (Value.ref (TA.t _)) _ _) _ _ _); refine' tok_method ?zhF ?zhX ?zhN ?zhH ?zhg ?zhf ?zht ?zhl ?_; walk_at "mine fxnh"; (case zhg => k_dflt k_is); (case zhf => k_dflt k_is); (case zht => k_dflt k_is); (case zhl => intro _; rfl)) | ((with_reducible show wpAny _ _ (getMethod (Value.ref (TA.st _)) _ _) _ _ _); refine' str_method ?zhF ?zhX ?zhN ?zhH ?zhg ?zhf ?zht ?zhl ?_; walk_at "mine fxnh"; (case zhg => k_dflt k_is); (case zhf => k_dflt k_is); (case zht => k_dflt k_is); (case zhl => intro _; rfl)) | (refine' dr_method ?zhF ?zhX ?zhN ?zhH ?zhg ?zhf ?zht ?zhl ?_; (case zhF => k_asm); (case zhX => k_asm); (case zhN => k_asm); (case zhH => walk_at "mine HD"); (case zhg => k_dflt k_is); (case zhf => k_dflt k_is); (case zht => k_dflt k_is); (case zhl => intro _ _ _; rfl)) | ((with_reducible show wpAny _ _ (getMethod (Value.ref (TA.er _)) _ _) _ _ _); refine' app_method_er ?zhN ?zhH ?_; (case zhN => k_asm); (case zhH => walk_at "mine H")) | ((with_reducible show wpAny _ _ (getMethod (Value.ref (TA.ou _)) _ _) _ _ _); refine' app_method_ou ?zhN ?zhH ?_; (case zhN => k_asm); (case zhH => walk_at "mine H")) | ((with_reducible show wpAny _ _ (getMethod (Value.ref (TA.se _)) _ _) _ _ _); refine' app_method_se ?zhN ?zhH ?_; (case zhN => k_asm); (case zhH => walk_at "mine H")) | ((with_reducible show wpAny _ _ (getMethod (Value.ref (TA.sg _)) _ _) _ _ _); refine' app_method_sg ?zhN ?zhH ?_; (case zhN => k_asm); (case zhH => walk_at "mine H")))
  k_with "call builtin:list.append" => k_dflt (first | ((with_reducible show wpAny _ _ (call _ [Value.ref (TA.er _), _]) _ _ _); refine' app_er ?zhF ?zhN ?zhH ?zhr ?zhz ?_; (case zhF => k_asm); (case zhN => k_asm); (case zhH => walk_at "mine H"); (case zhr => walk_at "mine row"); (case zhz => walk_at "mine size"); intro _ _ _ _ _ _) | ((with_reducible show wpAny _ _ (call _ [Value.ref (TA.ou _), _]) _ _ _); refine' app_ou ?zhF ?zhN ?zhH ?zhr ?zhz ?_; (case zhF => k_asm); (case zhN => k_asm); (case zhH => walk_at "mine H"); (case zhr => walk_at "mine row"); (case zhz => walk_at "mine size"); intro _ _ _ _ _ _) | ((with_reducible show wpAny _ _ (call _ [Value.ref (TA.se _), _]) _ _ _); refine' app_se ?zhF ?zhN ?zhH ?zhr ?zhz ?_; (case zhF => k_asm); (case zhN => k_asm); (case zhH => walk_at "mine H"); (case zhr => walk_at "mine row"); (case zhz => walk_at "mine size"); intro _ _ _ _ _ _) | ((with_reducible show wpAny _ _ (call _ [Value.ref (TA.sg _), _]) _ _ _); refine' app_sg ?zhF ?zhN ?zhH ?zhhx ?zhz ?_; (case zhF => k_asm); (case zhN => k_asm); (case zhH => walk_at "mine H"); (case zhhx => first | exact S_nl | exact rfl); (case zhz => walk_at "mine size"); intro _ _ _ _ _ _))
  k_with "mine size" => first | with_reducible assumption | ((try dsimp only at *); omega) | ((try dsimp only at *); simp only [List.length_append, List.length_cons, List.length_nil, List.length_take, List.length_drop, List.length_map] at *; omega)
  k_with "call builtin:len" => k_dflt ((with_reducible refine' len_S ?zhz ?_); (case zhz => walk_at "mine size"))
  k_with "call builtin:ord" => k_dflt (with_reducible refine' ord_S ?_)
  k_with "call builtin:chr" => k_dflt (refine' chr_S (Int.natCast_add _ _).symm ?zhz ?_; (case zhz => omega))
  k_with "call builtin:len" => k_dflt (with_reducible refine' len_sg ?zhN ?zhH ?zhz ?_; (case zhN => k_asm); (case zhH => walk_at "mine H"); (case zhz => walk_at "mine size"))
  k_with "mine slen" => (simp only [S_fffd, S_len, S_nil, List.length_append, List.length_cons, List.length_nil, sizeLine]; omega)
  k_with "binaryOp Add str str" => k_dflt (refine' PyProof.Rows.add_str ?_ ?zhz9; (case zhz9 => walk_at "mine slen"); intro _ _)
  k_with "mine news" => first | k_asm | exact News.ofCons (by assumption)
  k_with "mine for" => ((rename Fr _ _ _ _ => lF'); (with_unfolding_all refine' For_invVF lF' ?zhk1 ?zhk2 ?_; (case zhk1 => exact rfl); (case zhk2 => exact rfl)))
  k_with "mine name" => k_dflt ((refine' nameX_L ?zhF ?zhv ?_ ?zha ?zhb ?zhc); (case zhF => k_asm); (case zha => rfl); (case zhb => rfl); (case zhv => rfl); (case zhc => decide))
  k_with "mine locs" => ((repeat' (refine List.forall_mem_cons.mpr ⟨rfl, ?_⟩)); exact fun _ h => nomatch h)
  k_with "subscriptTail" => k_dflt ((with_reducible show wpAny _ _ (subscriptTail _ _ (Value.ref (TA.sg _)) (Value.int _ _)) _ _ _); refine' item_sg ?zhN ?zhH ?zhe ?zhhi ?zhz ?_; (case zhN => k_asm); (case zhH => walk_at "mine H"); (case zhe => first | exact rfl | exact (Int.natCast_add _ _).symm); (case zhhi => (try dsimp only at *); omega); (case zhz => walk_at "mine size"); intro c9 u9 hc9)
  k_with "subscriptTail" => k_dflt ((with_reducible show wpAny _ _ (subscriptTail _ _ (Value.str _ _) (Value.int _ _)) _ _ _); refine' item_S ?zhhi ?zhz ?_; (case zhhi => (try dsimp only at *); omega); (case zhz => walk_at "mine size"); intro c9 u9 hc9)
  k_with "subscriptTail Name Name str int" => k_dflt ((with_reducible show wpAny _ _ (subscriptTail _ _ (Value.str _ _) (Value.int _ _)) _ _ _); refine' item_S ?zhhi ?zhz ?_; (case zhhi => (try dsimp only at *); omega); (case zhz => walk_at "mine size"); intro c9 u9 hc9)
  trivial

variable {prog : Program} {w : World} {mean : ExcName → Option Value} {mg mb : Str → Option Value} {T : TA} {n0 : Led} {d : D} {dv : Value} {nx : Led}

theorem lines_B7_2 : True := by
  k_with "mine steps" => repeat' ((fail_if_success (with_reducible show wpAny _ _ (exec (Stmt.While _ _ _ _) _) _ _ _)); (fail_if_success (with_reducible show WhileStep _ _ _ _ _ _ _)); first | (k_unfold; (try dsimp only)) | walk1 | (dsimp only; walk1) | (leave1; (try dsimp only)))
  k_with "call ref" => ((with_reducible show wpAny _ _ (call (Value.ref 426) _) _ _ _); k_dflt (refine' Claim.use (is_ready_ok ?zhz ?zhH) ?zhB ?zhF ?zhX ?zhN ?zhT ?zhkk ?zhd ?zhu ?_; (case zhB => k_asm); (case zhF => k_asm); (case zhX => k_asm); (case zhN => k_asm); (case zhT => k_asm); (case zhkk => rfl); (case zhH => walk_at "mine H"); (case zhz => exact WF.xs ‹_›); (case zhd => ktr_room); (case zhu => ktr_units); rintro _ _ _ _ ⟨hn9, hv9⟩ _ _; replace hn9 := Eq.symm hn9; subst hn9; subst hv9))
  k_with "call ref" => ((with_reducible show wpAny _ _ (call (Value.ref 419) _) _ _ _); k_dflt (refine' Claim.use (step_ok _ _ ?zhq ?zhdn ?zhW ?zhH) ?zhB ?zhF ?zhX ?zhN ?zhT ?zhkk ?zhd ?zhu ?_; (case zhB => k_asm); (case zhF => k_asm); (case zhX => k_asm); (case zhN => k_asm); (case zhT => k_asm); (case zhkk => rfl); (case zhH => walk_at "mine H"); (case zhq => first | with_reducible assumption | assumption); (case zhdn => first | with_reducible assumption | assumption); (case zhW => first | with_reducible assumption | assumption); (case zhd => ktr_room); (case zhu => ktr_units); rintro _ _ _ _ ⟨_, _, hv9⟩ _ _; subst hv9))
  trivial


theorem stOf_spec {x : Str} (h : known x = true) : x = (stOf x).str := by
  obtain ⟨q, rfl⟩ := known_st h
  rw [stOf_str]
theorem runD_stop {n : Nat} {d : D} (h : readyD d = false) : runD n d = d := by
  cases n with
  | zero => rfl
  | succ n => show (if readyD d = true then _ else d) = d; rw [if_neg (by rw [h]; exact Bool.noConfusion)]
theorem runD_go {n : Nat} {d : D} (h : readyD d = true) (hr : readyD (runD n d) = false) : ∃ k, n = k + 1 ∧ runD n d = runD k (stepD (stOf d.state) d) := by
  cases n with
  | zero => rw [show runD 0 d = d from rfl, h] at hr; cases hr
  | succ n => exact ⟨n, rfl, if_pos h⟩

theorem run_ok (n : Nat) (W : WF n d) (hr : readyD (runD n d) = false) (H : TokX w T n0 d dv nx) : Claim prog w mean mg mb 16 433 nx [.ref T.t] (fun v nx' => ∃ y, TokX w T n0 (runD n d) y nx' ∧ v = .bool (runD n d).done) := by
  unfold Claim
  intro dp un gd cn cs a ccd cl outer A₀ base h₀ L m s Q E B F X N Tp hk hd hu hret
  refine wpAny_call ?_
  k_dflt cell_enter
  walk_at "mine steps"
  refine' While_inv (fun k m1 nx1 => (∀ p ∈ [(("self" : Str), Value.ref T.t)], m1 p.1 = some p.2) ∧ ∃ d' y, TokX w T n0 d' y nx1 ∧ WF k d' ∧ runD k d' = runD n d) (n₀ := n) ?F ?N ?J ?turn (by passes_own)
  case F => k_asm
  case N => k_asm
  case J => exact ⟨by walk_at "mine locs", d, dv, H, W, rfl⟩
  case turn =>
    rintro k m1 nx1 h1 tk1 F1 N1 ⟨hm, d', y, H1, W1, e1⟩
    have F2 := Mine.Fr.ovl F1 hm
    clear F1
    have gd := @runD_go k d'
    rw [e1] at gd
    cases hr9 : readyD d' with
    | true =>
      obtain ⟨k', rfl, e2⟩ := gd hr9 hr
      have hq9 := stOf_spec (ready_known hr9)
      have hdn9 := ready_done hr9
      walk_at "mine steps"
      exact WhileStep.intro (by k_asm) (by k_asm) (Nat.lt_succ_self _) ⟨by walk_at "mine locs", _, _, by with_reducible assumption, WF.step hq9 hdn9 W1, e2.symm⟩
    | false =>
      rw [runD_stop hr9] at e1
      subst e1
      walk_at "mine steps"
      exact hret _ _ _ _ ⟨_, by with_reducible assumption, rfl⟩ (by k_asm) (by k_asm)


end B7

section B8
open PySem PySem.W PyProof.Rows PySem.Calls
set_option maxRecDepth 100000
set_option maxHeartbeats 4000000
theorem lines_B8_1 : True := by
  w_top off
  k_with_none
  k_with "execs cons" => k_fold
  k_with "exec If" => k_fold
  k_with "exec Assign" => k_fold
  k_with "exec Expr" => k_fold
  k_with "exec Return" => k_fold
  k_with "callWith" => k_fold
  k_with "call ref" => k_fold
  k_with "execs cons" => k_dflt (refine' gentok9 ?_; intro tk9)
  k_with "execs nil" => k_dflt (refine' gentok9 ?_; intro tk9)
  k_with "mine steps" => repeat' ((fail_if_success (with_reducible show wpAny _ _ (pyIter _) _ _ _)); (fail_if_success (with_reducible show wpAny _ _ (exec (Stmt.For _ (Expr.Name _ _) _ _ _) _) _ _ _)); first | (k_unfold; (try dsimp only)) | walk1 | (dsimp only; walk1) | (leave1; (try dsimp only)))
  k_with "mine H" => (first | (with_reducible assumption) | (with_reducible refine' TokX.cons1 ?zhhh; (case zhhh => with_reducible assumption)) | (with_reducible refine' TokX.cons2 ?zhhh; (case zhhh => with_reducible assumption)) | (with_reducible refine' TokX.cons3 ?zhhh; (case zhhh => with_reducible assumption)))
  k_with "mine row" => (first | (with_reducible assumption) | (apply RowIs.of; k_mem; (repeat' constructor); done))
  k_with "mine HD" => (first | (with_reducible assumption) | (exact TokX.dr (by with_reducible assumption) rfl) | (exact TokX.dr (by with_reducible assumption) (by with_reducible assumption)) | (exact DraftAt.keepA (by with_reducible assumption) (by with_reducible assumption)) | (exact TokX.dr (by with_reducible assumption) (by assumption)))
  k_with "mine fxnh" => ((case zhF => k_asm); (case zhX => k_asm); (case zhN => k_asm); (case zhH => walk_at "mine H"))
  k_with "getAttr ref" => k_dflt (first | (with_reducible refine' get_at ?zhF ?zhX ?zhN ?zhH ?_; walk_at "mine fxnh"; intro _) | (with_reducible refine' get_stream ?zhF ?zhX ?zhN ?zhH ?_; walk_at "mine fxnh") | (with_reducible refine' get_signs ?zhF ?zhX ?zhN ?zhH ?_; walk_at "mine fxnh") | (with_reducible refine' get_out ?zhF ?zhX ?zhN ?zhH ?_; walk_at "mine fxnh") | (with_reducible refine' get_errors ?zhF ?zhX ?zhN ?zhH ?_; walk_at "mine fxnh") | (with_reducible refine' get_draft ?zhF ?zhX ?zhN ?zhH ?_; walk_at "mine fxnh") | (with_reducible refine' get_state ?zhF ?zhX ?zhN ?zhH ?_; walk_at "mine fxnh"; intro _) | (with_reducible refine' get_states ?zhF ?zhX ?zhN ?zhH ?_; walk_at "mine fxnh") | (with_reducible refine' get_waiting ?zhF ?zhX ?zhN ?zhH ?_; walk_at "mine fxnh") | (with_reducible refine' get_done ?zhF ?zhX ?zhN ?zhH ?_; walk_at "mine fxnh") | (with_reducible refine' get_foreign ?zhF ?zhX ?zhN ?zhH ?_; walk_at "mine fxnh") | (with_reducible refine' get_last ?zhF ?zhX ?zhN ?zhH ?_; walk_at "mine fxnh"; intro _) | (with_reducible refine' get_closed ?zhF ?zhX ?zhN ?zhH ?_; walk_at "mine fxnh") | (with_reducible refine' get_return ?zhF ?zhX ?zhN ?zhH ?_; walk_at "mine fxnh") | (with_reducible refine' get_serr ?zhF ?zhX ?zhN ?zhH ?_; walk_at "mine fxnh") | (with_reducible refine' getd_text ?zhF ?zhX ?zhN ?zhH ?_; (case zhF => k_asm); (case zhX => k_asm); (case zhN => k_asm); (case zhH => walk_at "mine HD"); intro _) | (with_reducible refine' getd_kind ?zhF ?zhX ?zhN ?zhH ?_; (case zhF => k_asm); (case zhX => k_asm); (case zhN => k_asm); (case zhH => walk_at "mine HD"); intro _))
  k_with "setAttr ref" => k_dflt (first | (with_reducible refine' set_state ?zhF ?zhX ?zhN ?zhH ?_; walk_at "mine fxnh"; intro _ _ _ _ _ _) | (with_reducible refine' set_waiting ?zhF ?zhX ?zhN ?zhH ?_; walk_at "mine fxnh"; intro _ _ _ _ _ _) | (with_reducible refine' set_done ?zhF ?zhX ?zhN ?zhH ?_; walk_at "mine fxnh"; intro _ _ _ _ _ _) | (with_reducible refine' set_foreign ?zhF ?zhX ?zhN ?zhH ?_; walk_at "mine fxnh"; intro _ _ _ _ _ _) | (with_reducible refine' set_closed ?zhF ?zhX ?zhN ?zhH ?_; walk_at "mine fxnh"; intro _ _ _ _ _ _) | (with_reducible refine' set_return ?zhF ?zhX ?zhN ?zhH ?_; walk_at "mine fxnh"; intro _ _ _ _ _ _) | (with_reducible refine' set_draft_none ?zhF ?zhX ?zhN ?zhH ?_; walk_at "mine fxnh"; intro _ _ _ _ _ _) | (with_reducible refine' set_draft ?zhF ?zhX ?zhN ?zhH ?zhhy ?_; walk_at "mine fxnh"; (case zhhy => with_reducible assumption); intro _ _ _ _ _ _) | (with_reducible refine' setd_text ?zhF ?zhX ?zhN ?zhH ?zhhd ?zhhy ?_; walk_at "mine fxnh"; (case zhhd => first | with_reducible assumption | rfl); (case zhhy => first | exact rfl | exact S_app _ _ | (rw [S_fffd]; exact S_app _ _)); intro _ _ _ _ _) | ((with_reducible show wpAny _ _ (setAttr (Value.ref (TA.t _)) (PySem.Str.ofString "at") _) _ _ _); refine' set_at ?zhF ?zhX ?zhN ?zhH (Int.natCast_add _ _).symm ?_; walk_at "mine fxnh"; intro _ _ _ _ _ _) | ((with_reducible show wpAny _ _ (setAttr (Value.ref (TA.t _)) (PySem.Str.ofString "at") _) _ _ _); refine' set_at ?zhF ?zhX ?zhN ?zhH (cast_pred ?zhp) ?_; walk_at "mine fxnh"; (case zhp => first | with_reducible assumption | omega); intro _ _ _ _ _ _) | ((with_reducible show wpAny _ _ (setAttr (Value.ref (TA.t _)) (PySem.Str.ofString "at") _) _ _ _); refine' set_at ?zhF ?zhX ?zhN ?zhH (Eq.refl (Nat.cast _)) ?_; walk_at "mine fxnh"; intro _ _ _ _ _ _))
  k_with "getMethod ref" => k_dflt (first | ((with_reducible show wpAny _ _ (getMethod (Value.ref (TA.t _)) _ _) _ _ _); refine' tok_method ?zhF ?zhX ?zhN ?zhH ?zhg ?zhf ?zht ?zhl ?_; walk_at "mine fxnh"; (case zhg => k_dflt k_is); (case zhf => k_dflt k_is); (case zht => k_dflt k_is); (case zhl => intro _; rfl)) | ((with_reducible show wpAny _ _ (getMethod (Value.ref (TA.st _)) _ _) _ _ _); refine' str_method ?zhF ?zhX ?zhN ?zhH ?zhg ?zhf ?zht ?zhl ?_; walk_at "mine fxnh"; (case zhg => k_dflt k_is); (case zhf => k_dflt k_is); (case zht => k_dflt k_is); (case zhl => intro _; rfl)) | (refine' dr_method ?zhF ?zhX ?zhN ?zhH ?zhg ?zhf ?zht ?zhl ?_; (case zhF => k_asm); (case zhX => k_asm); (case zhN => k_asm); (case zhH => walk_at "mine HD"); (case zhg => k_dflt k_is); (case zhf => k_dflt k_is); (case zht => k_dflt k_is); (case zhl => intro _ _ _; rfl)) | ((with_reducible show wpAny _ _ (getMethod (Value.ref (TA.er _)) _ _) _ _ _); refine' app_method_er ?zhN ?zhH ?_; (case zhN => k_asm); (case zhH => walk_at "mine H")) | ((with_reducible show wpAny _ _ (getMethod (Value.ref (TA.ou _)) _ _) _ _ _); refine' app_method_ou ?zhN ?zhH ?_; (case zhN => k_asm); (case zhH => walk_at "mine H")) | ((with_reducible show wpAny _ _ (getMethod (Value.ref (TA.se _)) _ _) _ _ _); refine' app_method_se ?zhN ?zhH ?_; (case zhN => k_asm); (case zhH => walk_at "mine H")) | ((with_reducible show wpAny _ _ (getMethod (Value.ref (TA.sg _)) _ _) _ _ _); refine' app_method_sg ?zhN ?zhH ?_; (case zhN => k_asm); (case zhH => walk_at "mine H")))
  k_with "call builtin:list.append" => k_dflt (first | ((with_reducible show wpAny _ _ (call _ [Value.ref (TA.er _), _]) _ _ _); refine' app_er ?zhF ?zhN ?zhH ?zhr ?zhz ?_; (case zhF => k_asm); (case zhN => k_asm); (case zhH => walk_at "mine H"); (case zhr => walk_at "mine row"); (case zhz => walk_at "mine size"); intro _ _ _ _ _ _) | ((with_reducible show wpAny _ _ (call _ [Value.ref (TA.ou _), _]) _ _ _); refine' app_ou ?zhF ?zhN ?zhH ?zhr ?zhz ?_; (case zhF => k_asm); (case zhN => k_asm); (case zhH => walk_at "mine H"); (case zhr => walk_at "mine row"); (case zhz => walk_at "mine size"); intro _ _ _ _ _ _) | ((with_reducible show wpAny _ _ (call _ [Value.ref (TA.se _), _]) _ _ _); refine' app_se ?zhF ?zhN ?zhH ?zhr ?zhz ?_; (case zhF => k_asm); (case zhN => k_asm); (case zhH => walk_at "mine H"); (case zhr => walk_at "mine row"); (case zhz => walk_at "mine size"); intro _ _ _ _ _ _) | ((with_reducible show wpAny _ _ (call _ [Value.ref (TA.sg _), _]) _ _ _); refine' app_sg ?zhF ?zhN ?zhH ?zhhx ?zhz ?_; (case zhF => k_asm); (case zhN => k_asm); (case zhH => walk_at "mine H"); (case zhhx => first | exact S_nl | exact rfl); (case zhz => walk_at "mine size"); intro _ _ _ _ _ _))
  k_with "mine size" => first | with_reducible assumption | ((try dsimp only at *); omega) | ((try dsimp only at *); simp only [List.length_append, List.length_cons, List.length_nil, List.length_take, List.length_drop, List.length_map] at *; omega)
  k_with "call builtin:len" => k_dflt ((with_reducible refine' len_S ?zhz ?_); (case zhz => walk_at "mine size"))
  k_with "call builtin:ord" => k_dflt (with_reducible refine' ord_S ?_)
  k_with "call builtin:chr" => k_dflt (refine' chr_S (Int.natCast_add _ _).symm ?zhz ?_; (case zhz => omega))
  k_with "call builtin:len" => k_dflt (with_reducible refine' len_sg ?zhN ?zhH ?zhz ?_; (case zhN => k_asm); (case zhH => walk_at "mine H"); (case zhz => walk_at "mine size"))
  k_with "mine slen" => (simp only [S_fffd, S_len, S_nil, List.length_append, List.length_cons, List.length_nil, sizeLine]; omega)
  k_with "binaryOp Add str str" => k_dflt (refine' PyProof.Rows.add_str ?_ ?zhz9; (case zhz9 => walk_at "mine slen"); intro _ _)
  k_with "mine news" => first | k_asm | exact News.ofCons (by assumption)
  k_with "mine for" => ((rename Fr _ _ _ _ => lF'); (with_unfolding_all refine' For_invVF lF' ?zhk1 ?zhk2 ?_; (case zhk1 => exact rfl); (case zhk2 => exact rfl)))
  k_with "mine name" => k_dflt ((refine' nameX_L ?zhF ?zhv ?_ ?zha ?zhb ?zhc); (case zhF => k_asm); (case zha => rfl); (case zhb => rfl); (case zhv => rfl); (case zhc => decide))
  k_with "mine locs" => ((repeat' (refine List.forall_mem_cons.mpr ⟨rfl, ?_⟩)); exact fun _ h => nomatch h)
  k_with "subscriptTail" => k_dflt ((with_reducible show wpAny _ _ (subscriptTail _ _ (Value.ref (TA.sg _)) (Value.int _ _)) _ _ _); refine' item_sg ?zhN ?zhH ?zhe ?zhhi ?zhz ?_; (case zhN => k_asm); (case zhH => walk_at "mine H"); (case zhe => first | exact rfl | exact (Int.natCast_add _ _).symm); (case zhhi => (try dsimp only at *); omega); (case zhz => walk_at "mine size"); intro c9 u9 hc9)
  k_with "subscriptTail" => k_dflt ((with_reducible show wpAny _ _ (subscriptTail _ _ (Value.str _ _) (Value.int _ _)) _ _ _); refine' item_S ?zhhi ?zhz ?_; (case zhhi => (try dsimp only at *); omega); (case zhz => walk_at "mine size"); intro c9 u9 hc9)
  k_with "subscriptTail Name Name str int" => k_dflt ((with_reducible show wpAny _ _ (subscriptTail _ _ (Value.str _ _) (Value.int _ _)) _ _ _); refine' item_S ?zhhi ?zhz ?_; (case zhhi => (try dsimp only at *); omega); (case zhz => walk_at "mine size"); intro c9 u9 hc9)
  trivial

variable {prog : Program} {w : World} {mean : ExcName → Option Value} {mg mb : Str → Option Value} {T : TA} {n0 : Led} {d : D} {dv : Value} {nx : Led}

noncomputable def d0 : D := { xs := [], serr := [], closed := false, ret := false, at_ := 0, state := "markup declaration open", out := [], errs := [], draft := none, foreign := false, waiting := false, done := false }

theorem lt_all {a b : Nat} {l : List Nat} (h : a < b) (p : List.Pairwise (· < ·) (b :: l)) : List.Pairwise (· < ·) (a :: b :: l) :=
  List.pairwise_cons.mpr ⟨fun _ hx => (List.mem_cons.mp hx).elim (fun e => e ▸ h) (fun q => Nat.lt_trans h ((List.pairwise_cons.mp p).1 _ q)), p⟩
theorem perm9 {x1 e1 x0 e0 l3 l2 l1 l0 sts : Nat} : List.Perm [sts, e1, x1, e0, x0, l3, l2, l1, l0] [x1, e1, x0, e0, l3, l2, l1, l0, sts] :=
  (List.perm_append_comm (l₁ := [sts]) (l₂ := [e1, x1, e0, x0, l3, l2, l1, l0])).trans ((List.Perm.swap x1 e1 _).trans (.cons _ (.cons _ (List.Perm.swap x0 e0 _))))
theorem nodup9 {x1 e1 x0 e0 l3 l2 l1 l0 sts : Nat} (c8 : sts < e1) (c1 : e1 < x1) (c2 : x1 < e0) (c3 : e0 < x0) (c4 : x0 < l3) (c5 : l3 < l2) (c6 : l2 < l1) (c7 : l1 < l0) : [x1, e1, x0, e0, l3, l2, l1, l0, sts].Nodup :=
  perm9.nodup ((lt_all c8 (lt_all c1 (lt_all c2 (lt_all c3 (lt_all c4 (lt_all c5 (lt_all c6 (lt_all c7 (List.pairwise_singleton _ _))))))))).imp Nat.ne_of_lt)
theorem off9 {x1 e1 x0 e0 l3 l2 l1 l0 sts p : Nat} (c0 : p < e1) (c1 : e1 < x1) (c2 : x1 < e0) (c3 : e0 < x0) (c4 : x0 < l3) (c5 : l3 < l2) (c6 : l2 < l1) (c7 : l1 < l0) (hn : p ≠ sts) (hm : p ∈ [x1, e1, x0, e0, l3, l2, l1, l0, sts]) : False := by
  have hs := lt_all c0 (lt_all c1 (lt_all c2 (lt_all c3 (lt_all c4 (lt_all c5 (lt_all c6 (lt_all c7 (List.pairwise_singleton _ _))))))))
  rcases List.mem_cons.mp (perm9.mem_iff.mpr hm) with e | hq
  · exact hn e
  · exact Nat.lt_irrefl _ ((List.pairwise_cons.mp hs).1 _ hq)

theorem tok_build {nx' : Led} {x1 e1 x0 e0 l3 l2 l1 l0 sts : Addr} {o : Obj} {k0 k1 k2 k3 k4 k5 k6 k7 k8 k9 k10 k11 k12 k13 k14 k15 k16 k17 atk stk backk bufk codek lastk : Tok} {n1 n2 n3 n4 n5 n6 : Nat}
    (h1 : (x1, instObj 436 e1) ∈ nx')
    (h2 : (e1, dictOf [ent w "states" k0 (.ref sts), ent w "stream" k1 (.ref x0), ent w "at" k2 (.int 0 atk), ent w "state" k3 (.str "markup declaration open" stk),
      ent w "back" k4 (.str "data" backk), ent w "out" k5 (.ref l1), ent w "errors" k6 (.ref l0), ent w "draft" k7 .none, ent w "buffer" k8 (.str "" bufk), ent w "code" k9 (.int 0 codek), ent w "last" k10 (.str "p" lastk),
      ent w "is_foreign" k11 (.bool false), ent w "is_waiting" k12 (.bool false), ent w "is_done" k13 (.bool false)] n1) ∈ nx')
    (h3 : (x0, instObj 273 e0) ∈ nx') (h4 : (e0, dictOf [ent w "signs" k14 (.ref l3), ent w "is_closed" k15 (.bool false), ent w "is_return" k16 (.bool false), ent w "errors" k17 (.ref l2)] n2) ∈ nx')
    (h5 : (l3, listOf #[] n3) ∈ nx') (h6 : (l2, listOf #[] n4) ∈ nx') (h7 : (l1, listOf #[] n5) ∈ nx') (h8 : (l0, listOf #[] n6) ∈ nx') (hs : (sts, o) ∈ nx) (hok : StsOk w sts o) (hsub : ∀ p ∈ nx, p ∈ nx')
    (c0 : ∀ p ∈ nx, p.1 < e1) (c1 : e1 < x1) (c2 : x1 < e0) (c3 : e0 < x0) (c4 : x0 < l3) (c5 : l3 < l2) (c6 : l2 < l1) (c7 : l1 < l0) :
    ∃ T : TA, Value.ref x1 = .ref T.t ∧ T.sts = sts ∧ TokX w T nx d0 .none nx' ∧ ∀ p ∈ nx, p.1 ≠ sts → p.1 ∉ T.all := by
  have c8 : sts < e1 := c0 _ hs
  refine ⟨⟨x1, e1, x0, e0, l3, l2, l1, l0, sts⟩, rfl, rfl, ⟨fun p hp _ _ => hsub p hp, ?_, ⟨⟨k0, k1, k2, k3, k4, k5, k6, k7, k8, k9, k10, k11, k12, k13, k14, k15, k16, k17, atk, stk, backk, bufk, codek, lastk, [], [], [], [], n3, n4, n5, n6⟩, o, n1, n2, hok, h1, h2, h3, h4, h5, h6, h7, h8, hsub _ hs, .nil, .nil, .nil, .nil⟩, rfl⟩, ?_⟩
  · exact nodup9 c8 c1 c2 c3 c4 c5 c6 c7
  · intro p hp hn hm
    exact off9 (c0 p hp) c1 c2 c3 c4 c5 c6 c7 hn hm

theorem tok_ok (sts : Addr) (o : Obj) (u1 u2 : Tok) (hs : (sts, o) ∈ nx) (hok : StsOk w sts o) : Claim prog w mean mg mb 8 436 nx [.ref sts, .str "markup declaration open" u1, .str "p" u2] (fun v nx' => ∃ T : TA, v = .ref T.t ∧ T.sts = sts ∧ TokX w T nx d0 .none nx' ∧ ∀ p ∈ nx, p.1 ≠ sts → p.1 ∉ T.all) := by
  unfold Claim
  intro dp un gd cn cs a ccd cl outer A₀ base h₀ L m s Q E B F X N Tp hk hd hu hret
  obtain ⟨k1, k2, k3, k4, k5⟩ := cs
  obtain rfl : k1 = .function := hk
  walk_at "mine steps"
  refine' hret _ _ _ _ ?R ?F ?N
  case F => k_asm
  case N => k_asm
  case R =>
    refine tok_build (o := o) (by k_mem) (by k_mem) (by k_mem) (by k_mem) (by k_mem) (by k_mem) (by k_mem) (by k_mem) hs hok (fun p hp => .tail _ (.tail _ (.tail _ (.tail _ (.tail _ (.tail _ (.tail _ (.tail _ hp)))))))) (by assumption) (by assumption) ?_ ?_ ?_ ?_ ?_ ?_
    all_goals first | assumption | exact And.left (by assumption)

end B8

section P2
open PySem PySem.W PyProof.Rows PySem.Calls
set_option maxRecDepth 100000
set_option maxHeartbeats 4000000
/-! what the law reckons -/
noncomputable def streamAt (c k : Nat) : List (List Dat) :=
  (if c = 64976 ∨ c = 65007 then [errR "noncharacter-in-input-stream" k] else []) ++ (if c = 1 ∨ c = 31 ∨ c = 127 ∨ c = 159 then [errR "control-character-in-input-stream" k] else [])
noncomputable def streamF : Nat → List Nat → List (List Dat)
  | _, [] => []
  | k, c :: t => streamAt c k ++ streamF (k + 1) t
theorem streamF_snoc (c : Nat) : ∀ (k : Nat) (l : List Nat), streamF k (l ++ [c]) = streamF k l ++ streamAt c (k + l.length)
  | k, [] => by simp [streamF]
  | k, a :: t => by
    show streamAt a k ++ streamF (k + 1) (t ++ [c]) = streamAt a k ++ streamF (k + 1) t ++ _
    rw [streamF_snoc c (k + 1) t, List.append_assoc, List.length_cons, show k + 1 + t.length = k + (t.length + 1) by omega]
inductive Kd | comment | doctype | cdata | wait | bogus
noncomputable def Kd.str : Kd → Str
  | .comment => "comment" | .doctype => "doctype" | .cdata => "cdata" | .wait => "wait" | .bogus => "bogus"
noncomputable def kindF (l : List Nat) (e : Bool) : Kd :=
  if l.take 2 = wDash then .comment
  else if (l.take 7).map lowc = wDoc then .doctype
  else if l.take 7 = wCd then .cdata
  else if e = false ∧ (l = wDash.take l.length ∨ l = wCd.take l.length) then .wait
  else if e = false ∧ l.length < 7 ∧ (l.take 7).map lowc = wDoc.take l.length then .wait
  else .bogus
structure Due where
  (out errs : List (List Dat))
  (state : Str)
  (at_ : Int)
  (kept : List Nat)
  (wait done : Bool)
noncomputable def sectionF (l : List Nat) (e : Bool) : Due :=
  let b := l.drop 7
  let f := Txt.find (S b) (Str.ofString "]]>")
  if 0 ≤ f then ⟨(b.take f.toNat).map chrR, [], "data", f + 10, [], false, false⟩
  else if e then ⟨b.map chrR ++ [[.str "eof"]], [errR "eof-in-cdata" l.length], "", l.length + 1, [], false, true⟩
  else if Txt.endswith (S b) (Str.ofString "]]") then ⟨(b.take (b.length - 2)).map chrR, [], "CDATA section end", l.length, [], false, false⟩
  else if Txt.endswith (S b) (Str.ofString "]") then ⟨(b.take (b.length - 1)).map chrR, [], "CDATA section bracket", l.length, [], false, false⟩
  else ⟨b.map chrR, [], "CDATA section", l.length, [], false, false⟩
noncomputable def nullRows (k : Nat) : List Nat → List (List Dat)
  | [] => []
  | c :: t => (if c = 0 then [errR "unexpected-null-character" k] else []) ++ nullRows (k + 1) t
noncomputable def nul (c : Nat) : Nat := if c = 0 then 65533 else c
noncomputable def bogusF (l : List Nat) (e : Bool) (first : List Dat) : Due :=
  let f := Txt.find (S l) (Str.ofString ">")
  let r := if f < 0 then l else l.take f.toNat
  if 0 ≤ f then ⟨[ROW (r.map nul)], first :: nullRows 0 r, "data", f + 1, [], false, false⟩
  else if e then ⟨[ROW (r.map nul), [.str "eof"]], first :: nullRows 0 r, "", l.length + 1, [], false, true⟩
  else ⟨[], first :: nullRows 0 r, "bogus comment", l.length, r.map nul, false, false⟩
noncomputable def dueF (l : List Nat) (e foreign : Bool) : Due :=
  match kindF l e with
  | .wait => ⟨[], [], "markup declaration open", 0, [], decide (l ≠ []), false⟩
  | .comment => ⟨[], [], "comment start", 2, [], false, false⟩
  | .doctype => ⟨[], [], "DOCTYPE", 7, [], false, false⟩
  | .bogus => bogusF l e (errR "incorrectly-opened-comment" 0)
  | .cdata => if foreign then sectionF l e else bogusF l e (errR "cdata-in-html-content" 6)
end P2

section P3
open PySem PySem.W PyProof.Rows PySem.Calls
set_option maxRecDepth 100000
set_option maxHeartbeats 4000000
noncomputable def seenF (d : D) : Due := ⟨d.out, d.errs, if d.done then "" else d.state, d.at_, if d.done then [] else d.draft.getD [], d.waiting, d.done⟩
/-! what can be compared -/
/-- a flat item that can be compared -/
noncomputable def flatOk : Dat → Bool
  | .int _ => true
  | .str x => PyData.strOk x
  | _ => false
noncomputable def RowsOk (rows : List (List Dat)) : Prop := ∀ r ∈ rows, ∀ d ∈ r, flatOk d = true
structure DueOk (r : Due) : Prop where
  out : RowsOk r.out
  errs : RowsOk r.errs
  state : PyData.strOk r.state = true
  kept : PyData.strOk (S r.kept) = true
noncomputable def norm (raw : List Nat) : List Nat := repl [13] [10] (repl [13, 10] [10] raw)
noncomputable def crlf (raw : List Nat) : List Nat := repl [13, 10] [10] raw
theorem crlf_nil : crlf [] = [] := rfl
theorem crlf_one (a : Nat) : crlf [a] = [a] := by
  unfold crlf
  rw [repl_cons _ _ (by decide), if_neg (by intro h; have := h.length_le; simp at this)]
  rfl
theorem crlf_two (a b : Nat) (t : List Nat) : crlf (a :: b :: t) = if a = 13 ∧ b = 10 then 10 :: crlf t else a :: crlf (b :: t) := by
  unfold crlf
  rw [repl_cons _ _ (by decide)]
  by_cases h : a = 13 ∧ b = 10
  · obtain ⟨rfl, rfl⟩ := h
    rw [if_pos (show [13, 10] <+: 13 :: 10 :: t from ⟨t, rfl⟩), if_pos ⟨rfl, rfl⟩]
    rfl
  · rw [if_neg h, if_neg]
    intro hp
    obtain ⟨r, hr⟩ := hp
    simp at hr
    exact h ⟨hr.1.symm, hr.2.1.symm⟩
theorem crlf_snoc (c : Nat) : ∀ (n : Nat) (raw : List Nat), raw.length ≤ n → ¬ (c = 10 ∧ raw.getLast? = some 13) → crlf (raw ++ [c]) = crlf raw ++ [c]
  | _, [], _, _ => by rw [List.nil_append, crlf_one]; rfl
  | _, [a], _, h => by
    show crlf (a :: c :: []) = _
    rw [crlf_two, if_neg (fun q => h ⟨q.2, by simp [q.1]⟩), crlf_one, crlf_one]; rfl
  | 0, _ :: _ :: _, hl, _ => by simp at hl
  | n + 1, a :: b :: t, hl, h => by
    show crlf (a :: b :: (t ++ [c])) = _
    rw [crlf_two, crlf_two]
    by_cases h1 : a = 13 ∧ b = 10
    · rw [if_pos h1, if_pos h1, crlf_snoc c n t (by simp at hl; omega) (fun q => h ⟨q.1, by
        cases t with
        | nil => simp at q
        | cons x y => rw [List.getLast?_cons_cons, List.getLast?_cons_cons]; exact q.2⟩)]
      rfl
    · rw [if_neg h1, if_neg h1]
      have := crlf_snoc c n (b :: t) (by simp at hl ⊢; omega) (fun q => h ⟨q.1, by rw [List.getLast?_cons_cons]; exact q.2⟩)
      rw [List.cons_append] at this
      rw [this]; rfl
theorem crlf_end : ∀ (n : Nat) (r : List Nat), r.length ≤ n → crlf (r ++ [13, 10]) = crlf r ++ [10]
  | _, [], _ => by rw [List.nil_append, crlf_two, if_pos ⟨rfl, rfl⟩]; rfl
  | _, [a], _ => by
    show crlf (a :: 13 :: [10]) = _
    rw [crlf_two, if_neg (by omega), crlf_two, if_pos ⟨rfl, rfl⟩, crlf_one]; rfl
  | 0, _ :: _ :: _, hl => by simp at hl
  | n + 1, a :: b :: t, hl => by
    show crlf (a :: b :: (t ++ [13, 10])) = _
    rw [crlf_two, crlf_two]
    by_cases h1 : a = 13 ∧ b = 10
    · rw [if_pos h1, if_pos h1, crlf_end n t (by simp at hl; omega)]; rfl
    · rw [if_neg h1, if_neg h1]
      have := crlf_end n (b :: t) (by simp at hl ⊢; omega)
      rw [List.cons_append] at this
      rw [this]; rfl
theorem norm_eq (raw : List Nat) : norm raw = (crlf raw).map (fun a => if a = 13 then 10 else a) := repl_one 13 10 _
theorem norm_nil : norm [] = [] := rfl
theorem norm_snoc (raw : List Nat) (c : Nat) : norm (raw ++ [c]) = if c = 13 then norm raw ++ [10] else if c = 10 ∧ raw.getLast? = some 13 then norm raw else norm raw ++ [c] := by
  by_cases h : c = 10 ∧ raw.getLast? = some 13
  · rw [if_neg (by omega), if_pos h]
    obtain ⟨r, hr⟩ := List.getLast?_eq_some_iff.mp h.2
    rw [h.1, hr, List.append_assoc]
    show norm (r ++ [13, 10]) = norm (r ++ [13])
    rw [norm_eq, norm_eq, crlf_end r.length r (Nat.le_refl _), crlf_snoc 13 r.length r (Nat.le_refl _) (by omega)]
    simp
  · rw [norm_eq, crlf_snoc c raw.length raw (Nat.le_refl _) h, if_neg h, List.map_append, ← norm_eq]
    by_cases h13 : c = 13
    · rw [if_pos h13, h13]; rfl
    · rw [if_neg h13]; simp [h13]

/-! what is fed -/
structure Fed (raw : List Nat) (d : D) : Prop where
  xs : d.xs = norm raw
  serr : d.serr = streamF 0 (norm raw)
  ret : d.ret = decide (raw.getLast? = some 13)
theorem errS_sg {c : Nat} (h : c ∈ SG) (k : Nat) : (if errS c = "" then ([] : List (List Dat)) else [[.str (errS c), .int k]]) = streamAt c k := by
  simp only [SG, List.mem_cons, List.not_mem_nil, or_false] at h
  rcases h with rfl | rfl | rfl | rfl | rfl | rfl | rfl | rfl | rfl | rfl | rfl | rfl | rfl | rfl | rfl | rfl | rfl | rfl | rfl | rfl | rfl | rfl | rfl | rfl | rfl | rfl | rfl | rfl | rfl | rfl | rfl | rfl | rfl | rfl | rfl <;>
    first
    | (rw [if_pos (by decide +kernel)]; rfl)
    | (rw [if_neg (by decide +kernel)]; first | (rw [show errS 64976 = "noncharacter-in-input-stream" by decide +kernel]; rfl) | (rw [show errS 65007 = "noncharacter-in-input-stream" by decide +kernel]; rfl) | (rw [show errS 1 = "control-character-in-input-stream" by decide +kernel]; rfl) | (rw [show errS 31 = "control-character-in-input-stream" by decide +kernel]; rfl) | (rw [show errS 127 = "control-character-in-input-stream" by decide +kernel]; rfl) | (rw [show errS 159 = "control-character-in-input-stream" by decide +kernel]; rfl))
theorem fed_one {raw : List Nat} {d : D} {c : Nat} (h : c ∈ SG) (F : Fed raw d) : Fed (raw ++ [c]) (feed1 c d) := by
  have e := norm_snoc raw c
  have el : (raw ++ [c]).getLast? = some c := by simp
  unfold feed1
  by_cases h13 : c = 13
  · rw [if_pos h13] at e ⊢
    refine ⟨by rw [e, ← F.xs], ?_, ?_⟩
    · rw [e, streamF_snoc, ← F.serr]
      simp [streamAt]
    · rw [el, h13]; simp
  · rw [if_neg h13] at e ⊢
    have r13 : decide ((raw ++ [c]).getLast? = some 13) = false := by rw [el]; simp [h13]
    by_cases h10 : c = 10 ∧ raw.getLast? = some 13
    · rw [if_pos h10] at e
      rw [if_neg (by rw [F.ret]; simp [h10.1, h10.2])]
      exact ⟨by rw [e]; exact F.xs, by rw [e]; exact F.serr, r13.symm⟩
    · rw [if_neg h10] at e
      rw [if_pos (by
        rw [F.ret]
        by_cases h9 : c = 10
        · right; simp; exact fun q => h10 ⟨h9, q⟩
        · left; exact h9)]
      refine ⟨by rw [e, ← F.xs], ?_, r13.symm⟩
      rw [e, streamF_snoc, ← F.serr, Nat.zero_add, errS_sg h, F.xs]
theorem fed_all {raw : List Nat} : ∀ {l : List Nat} {d : D}, InSG l → Fed raw d → Fed (raw ++ l) (feedL l d)
  | [], d, _, F => by rw [List.append_nil]; exact F
  | c :: l, d, h, F => by
    have := fed_all (raw := raw ++ [c]) (l := l) (d := feed1 c d) (fun a ha => h a (.tail _ ha)) (fed_one (h c (.head _)) F)
    rw [List.append_assoc] at this
    exact this
theorem norm_sg {raw : List Nat} (h : InSG raw) : InSG (norm raw) := by
  have key : ∀ (l : List Nat) (r : List Nat), InSG r → InSG (norm r) → InSG l → InSG (norm (r ++ l)) := by
    intro l
    induction l with
    | nil => intro r _ h2 _; rw [List.append_nil]; exact h2
    | cons c l ih =>
      intro r h1 h2 h3
      have hc := h3 c (.head _)
      have := ih (r ++ [c]) (h1.app (InSG.one hc)) (by
        rw [norm_snoc]
        split
        · exact h2.app (InSG.one (by decide))
        · split
          · exact h2
          · exact h2.app (InSG.one hc)) (fun a ha => h3 a (.tail _ ha))
      rw [List.append_assoc] at this
      exact this
  exact key raw [] InSG.nil InSG.nil h
/-- feeding leaves the rest -/
theorem feed1_rest (c : Nat) (d : D) : ∃ a b r, feed1 c d = { d with xs := a, serr := b, ret := r } := by
  unfold feed1
  split
  · exact ⟨_, _, _, rfl⟩
  · split <;> exact ⟨_, _, _, rfl⟩
theorem feedL_rest : ∀ (l : List Nat) (d : D), ∃ a b r, feedL l d = { d with xs := a, serr := b, ret := r }
  | [], d => ⟨_, _, _, rfl⟩
  | c :: l, d => by
    obtain ⟨a, b, r, e⟩ := feed1_rest c d
    obtain ⟨a', b', r', e'⟩ := feedL_rest l (feed1 c d)
    refine ⟨a', b', r', ?_⟩
    show feedL l (feed1 c d) = _
    rw [e', e]
end P3

section P4
open PySem PySem.W PyProof.Rows PySem.Calls
set_option maxRecDepth 100000
set_option maxHeartbeats 4000000
/-! looks -/
theorem looks_iff (closed fold : Bool) (xs : List Nat) : ∀ (k : Nat) (word : List Nat), k ≤ xs.length → looksF xs closed fold k word =
    if word <+: (xs.drop k).map (fun c => if fold then lowc c else c) then 1
    else if (xs.drop k).map (fun c => if fold then lowc c else c) <+: word then (if closed then 0 else -1) else 0
  | k, [], _ => by
    unfold looksF
    rw [if_pos (List.nil_prefix)]
  | k, w :: ws, hk => by
    unfold looksF
    cases hx : xs[k]? with
    | none =>
      have hl : xs.length ≤ k := List.getElem?_eq_none_iff.mp hx
      rw [List.drop_eq_nil_of_le hl, List.map_nil]
      have q1 : ¬ (w :: ws <+: []) := fun h => by have := h.length_le; simp at this
      rw [if_neg q1, if_pos (List.nil_prefix)]
    | some c =>
      obtain ⟨hi, hc⟩ := List.getElem?_eq_some_iff.mp hx
      rw [List.drop_eq_getElem_cons hi, hc, List.map_cons]
      dsimp only
      have ih := looks_iff closed fold xs (k + 1) ws hi
      by_cases h : (if fold = true then lowc c else c) = w
      · rw [if_pos h, ih, h]
        simp only [List.cons_prefix_cons, true_and]
      · rw [if_neg h, if_neg (by rw [List.cons_prefix_cons]; exact fun q => h q.1.symm), if_neg (by rw [List.cons_prefix_cons]; exact fun q => h q.1)]
theorem looks_plain (xs word : List Nat) (closed : Bool) : looksF xs closed false 0 word = if word <+: xs then 1 else if xs <+: word then (if closed then 0 else -1) else 0 := by
  rw [looks_iff closed false xs 0 word (Nat.zero_le _)]
  simp
theorem looks_fold (xs word : List Nat) (closed : Bool) : looksF xs closed true 0 word = if word <+: xs.map lowc then 1 else if xs.map lowc <+: word then (if closed then 0 else -1) else 0 := by
  rw [looks_iff closed true xs 0 word (Nat.zero_le _)]
  simp
theorem pre_take {w l : List Nat} : w <+: l ↔ l.take w.length = w := by
  rw [List.prefix_iff_eq_take]; exact eq_comm
theorem take_pre {w l : List Nat} : l <+: w ↔ l = w.take l.length := List.prefix_iff_eq_take
/-- what the first rule sees is the kind -/
theorem rule_kind (d : D) (h0 : d.at_ = 0) : ruleM d = match kindF d.xs d.closed with
    | .comment => { d with at_ := 2, draft := some [], state := "comment start" }
    | .doctype => { d with at_ := 7, state := "DOCTYPE" }
    | .cdata => if d.foreign then { d with at_ := 7, state := "CDATA section" } else { d with at_ := 7, errs := d.errs ++ [errR "cdata-in-html-content" 6], draft := some wCd, state := "bogus comment" }
    | .wait => { d with waiting := true }
    | .bogus => { d with errs := d.errs ++ [errR "incorrectly-opened-comment" 0], draft := some [], state := "bogus comment" } := by
  unfold ruleM kindF
  rw [h0, looks_plain, looks_fold, looks_plain]
  have e1 : wDash <+: d.xs ↔ d.xs.take 2 = wDash := pre_take
  have e2 : wDoc <+: d.xs.map lowc ↔ (d.xs.take 7).map lowc = wDoc := by rw [pre_take, ← List.map_take]; rfl
  have e3 : wCd <+: d.xs ↔ d.xs.take 7 = wCd := pre_take
  by_cases h1 : d.xs.take 2 = wDash
  · rw [if_pos h1, if_pos (e1.mpr h1), if_pos rfl]
  have n1 : ¬ wDash <+: d.xs := fun h => h1 (e1.mp h)
  rw [if_neg h1, if_neg n1]
  have k1 : ¬ (if d.xs <+: wDash then (if d.closed = true then (0 : Int) else -1) else 0) = 1 := by split <;> (try split) <;> decide
  rw [if_neg k1]
  by_cases h2 : (d.xs.take 7).map lowc = wDoc
  · rw [if_pos h2, if_pos (e2.mpr h2), if_pos rfl]
  have n2 : ¬ wDoc <+: d.xs.map lowc := fun h => h2 (e2.mp h)
  rw [if_neg h2, if_neg n2]
  have k2 : ¬ (if d.xs.map lowc <+: wDoc then (if d.closed = true then (0 : Int) else -1) else 0) = 1 := by split <;> (try split) <;> decide
  rw [if_neg k2]
  by_cases h3 : d.xs.take 7 = wCd
  · rw [if_pos h3, if_pos (e3.mpr h3), if_pos rfl]
  have n3 : ¬ wCd <+: d.xs := fun h => h3 (e3.mp h)
  rw [if_neg h3, if_neg n3]
  have k3 : ¬ (if d.xs <+: wCd then (if d.closed = true then (0 : Int) else -1) else 0) = 1 := by split <;> (try split) <;> decide
  rw [if_neg k3]
  have t1 : d.xs <+: wDash ↔ d.xs = wDash.take d.xs.length := take_pre
  have t3 : d.xs <+: wCd ↔ d.xs = wCd.take d.xs.length := take_pre
  have t2 : d.xs.map lowc <+: wDoc ↔ d.xs.length < 7 ∧ (d.xs.take 7).map lowc = wDoc.take d.xs.length := by
    rw [take_pre, List.length_map]
    constructor
    · intro h
      have hl : d.xs.length ≤ 7 := by
        have := congrArg List.length h
        rw [List.length_map, List.length_take] at this
        simp [wDoc] at this; omega
      have e : d.xs.take 7 = d.xs := List.take_of_length_le hl
      refine ⟨?_, by rw [e]; exact h⟩
      rcases Nat.lt_or_eq_of_le hl with q | q
      · exact q
      · exact absurd (by rw [e, h, q]; rfl) h2
    · rintro ⟨hl, h⟩
      rw [List.take_of_length_le (Nat.le_of_lt hl)] at h; exact h
  cases hc : d.closed with
  | true =>
    have z : ∀ p : Prop, [Decidable p] → ¬ (if p then (if true = true then (0 : Int) else -1) else 0) = -1 := fun p _ => by split <;> decide
    rw [if_neg (by rintro (h | h | h) <;> exact z _ h), if_neg (by simp), if_neg (by simp)]
  | false =>
    have z : ∀ p : Prop, [Decidable p] → ((if p then (if false = true then (0 : Int) else -1) else 0) = -1 ↔ p) := fun p _ => by by_cases q : p <;> simp [q]
    simp only [z, true_and]
    by_cases g1 : d.xs = wDash.take d.xs.length ∨ d.xs = wCd.take d.xs.length
    · rw [if_pos g1, if_pos]
      rcases g1 with g | g
      · exact .inl (t1.mpr g)
      · exact .inr (.inr (t3.mpr g))
    · rw [if_neg g1]
      by_cases g2 : d.xs.length < 7 ∧ (d.xs.take 7).map lowc = wDoc.take d.xs.length
      · rw [if_pos g2, if_pos (.inr (.inl (t2.mpr g2)))]
      · rw [if_neg g2, if_neg]
        rintro (h | h | h)
        · exact g1 (.inl (t1.mp h))
        · exact g2 (t2.mp h)
        · exact g1 (.inr (t3.mp h))
end P4

section P5
open PySem PySem.W PyProof.Rows PySem.Calls
set_option maxRecDepth 100000
set_option maxHeartbeats 4000000
theorem unw {d : D} (h : d.waiting = false) : { d with waiting := false } = d := by cases d; cases h; rfl
theorem step_is {d : D} {q : St} (hq : d.state = q.str) (hw : d.waiting = false) (h2 : (q.rule d).waiting = false) : stepD (stOf d.state) d = q.rule d := by
  rw [hq, stOf_str]
  unfold stepD
  dsimp only
  rw [unw hw, if_neg (by rw [h2]; exact Bool.noConfusion)]
theorem ready_is {d : D} {q : St} (hq : d.state = q.str) (hw : d.waiting = false) (hd : d.done = false) : readyD d = (d.closed || decide (d.at_ < d.xs.length)) := by
  unfold readyD
  rw [hq, hw, hd, q.known]; rfl
theorem run_succ {n : Nat} {d d2 : D} (hr : readyD d = true) (hs : stepD (stOf d.state) d = d2) : runD (n + 1) d = runD n d2 := by
  rw [← hs]; exact if_pos hr
theorem run_halt {n : Nat} {d : D} (h : readyD d = false) : runD n d = d := by
  cases n with
  | zero => rfl
  | succ n => exact if_neg (by rw [h]; exact Bool.noConfusion)
theorem not_known {d : D} (h : known d.state = false) : readyD d = false := by unfold readyD; rw [h]; simp
theorem known_data : known "data" = false := by decide +kernel
theorem known_com : known "comment start" = false := by decide +kernel
theorem known_doc : known "DOCTYPE" = false := by decide +kernel
theorem done_halt {d : D} (h : d.done = true) : readyD d = false := by unfold readyD; rw [h]; simp
theorem drop_get {l q : List Nat} {k c : Nat} (h : l.drop k = c :: q) : l[k]? = some c ∧ l.drop (k + 1) = q ∧ k < l.length := by
  have hk : k < l.length := by
    rcases Nat.lt_or_ge k l.length with g | g
    · exact g
    · rw [List.drop_eq_nil_of_le g] at h; cases h
  rw [List.drop_eq_getElem_cons hk] at h
  injection h with h1 h2
  exact ⟨by rw [List.getElem?_eq_getElem hk, h1], h2, hk⟩
theorem drop_nil {l : List Nat} {k : Nat} (hk : k ≤ l.length) (h : l.drop k = []) : k = l.length := by
  have := congrArg List.length h
  rw [List.length_drop] at this
  simp at this; omega

/-! the bogus comment -/
structure Bog (d : D) (k : Nat) (t : List Nat) : Prop where
  st : d.state = St.bog.str
  w : d.waiting = false
  dn : d.done = false
  at_ : d.at_ = k
  dr : d.draft = some t
  le : k ≤ d.xs.length
noncomputable def bogNext (d : D) (k : Nat) (t : List Nat) : D := { d with at_ := k, draft := some t }
theorem bog_run : ∀ (q : List Nat) (d : D) (k : Nat) (t : List Nat) (n : Nat), Bog d k t → d.xs.drop k = q → q.length + 1 ≤ n →
    (62 ∉ q → d.closed = false → runD n d = { d with at_ := k + q.length, draft := some (t ++ q.map nul), errs := d.errs ++ nullRows k q }) ∧
    (62 ∉ q → d.closed = true → runD n d = { d with at_ := k + q.length + 1, draft := none, done := true, out := d.out ++ [ROW (t ++ q.map nul), [.str "eof"]], errs := d.errs ++ nullRows k q }) ∧
    (∀ r rest, q = r ++ 62 :: rest → 62 ∉ r → runD n d = { d with at_ := k + r.length + 1, state := "data", draft := none, out := d.out ++ [ROW (t ++ r.map nul)], errs := d.errs ++ nullRows k r })
  | [], d, k, t, n, B, hq, hn => by
    have hk := drop_nil B.le hq
    have hg : d.xs[d.at_]? = none := by rw [B.at_]; exact List.getElem?_eq_none (by omega)
    have hr := ready_is B.st B.w B.dn
    have hlt : decide (d.at_ < d.xs.length) = false := decide_eq_false (by rw [B.at_]; omega)
    refine ⟨fun _ hc => ?_, fun _ hc => ?_, fun r rest h _ => by cases r <;> cases h⟩
    · rw [hc, hlt] at hr
      rw [run_halt (by rw [hr]; rfl)]
      have h1 := B.at_
      have h2 := B.dr
      cases d
      simp_all [nullRows]
    · rw [hc] at hr
      have e : ruleB d = { d with at_ := d.at_ + 1, out := d.out ++ [ROW t, [.str "eof"]], draft := none, done := true } := by
        unfold ruleB; rw [hg, B.dr]; simp
      obtain ⟨m, rfl⟩ : ∃ m, n = m + 1 := ⟨n - 1, by omega⟩
      have hs := step_is (q := .bog) B.st B.w (by show (ruleB d).waiting = false; rw [e]; exact B.w)
      rw [run_succ (by rw [hr]; rfl) hs]
      show runD m (ruleB d) = _
      rw [e, run_halt (done_halt rfl), B.at_]
      simp [nullRows]
  | c :: q, d, k, t, n, B, hq, hn => by
    obtain ⟨hg, hq', hlt⟩ := drop_get hq
    have hg' : d.xs[d.at_]? = some c := by rw [B.at_]; exact hg
    have hr : readyD d = true := by
      rw [ready_is B.st B.w B.dn, B.at_, decide_eq_true hlt, Bool.or_true]
    obtain ⟨m, rfl⟩ : ∃ m, n = m + 1 := ⟨n - 1, by omega⟩
    by_cases h62 : c = 62
    · have e : ruleB d = { d with at_ := d.at_ + 1, state := "data", out := d.out ++ [ROW t], draft := none } := by
        unfold ruleB; rw [hg', B.dr]; simp [h62]
      have hs := step_is (q := .bog) B.st B.w (by show (ruleB d).waiting = false; rw [e]; exact B.w)
      have key : runD (m + 1) d = { d with at_ := k + 1, state := "data", out := d.out ++ [ROW t], draft := none } := by
        rw [run_succ hr hs]
        show runD m (ruleB d) = _
        rw [e, run_halt (not_known known_data), B.at_]
      refine ⟨fun h => absurd (by rw [h62]; exact .head _) h, fun h => absurd (by rw [h62]; exact .head _) h, fun r rest h hn62 => ?_⟩
      cases r with
      | nil => rw [key]; simp [nullRows]
      | cons a r => injection h with h1 _; exact absurd (by rw [← h1, h62]; exact .head _) hn62
    · have e : ruleB d = { d with at_ := d.at_ + 1, errs := d.errs ++ (if c = 0 then [errR "unexpected-null-character" k] else []), draft := some (t ++ [nul c]) } := by
        unfold ruleB; rw [hg', B.dr, ← B.at_]
        by_cases h0 : c = 0
        · subst h0; simp [nul]
        · simp [h62, h0, nul]
      have hs := step_is (q := .bog) B.st B.w (by show (ruleB d).waiting = false; rw [e]; exact B.w)
      have hrun : runD (m + 1) d = runD m (ruleB d) := run_succ hr hs
      have B2 : Bog (ruleB d) (k + 1) (t ++ [nul c]) := by
        rw [e]; exact ⟨B.st, B.w, B.dn, by show d.at_ + 1 = _; rw [B.at_], rfl, hlt⟩
      have ex : (ruleB d).xs = d.xs := by rw [e]
      obtain ⟨i1, i2, i3⟩ := bog_run q (ruleB d) (k + 1) (t ++ [nul c]) m B2 (by rw [ex]; exact hq') (by simp at hn; omega)
      have hn' : ∀ r : List Nat, nullRows k (c :: r) = (if c = 0 then [errR "unexpected-null-character" k] else []) ++ nullRows (k + 1) r := fun _ => rfl
      refine ⟨fun h hc => ?_, fun h hc => ?_, fun r rest h hn62 => ?_⟩
      · rw [hrun, i1 (fun q => h (.tail _ q)) (by rw [e]; exact hc), e, hn']
        simp [List.append_assoc, Nat.add_comm, Nat.add_left_comm]
      · rw [hrun, i2 (fun q => h (.tail _ q)) (by rw [e]; exact hc), e, hn']
        simp [List.append_assoc, Nat.add_comm, Nat.add_left_comm]
      · cases r with
        | nil => injection h with h1 _; exact absurd h1 h62
        | cons a r =>
          injection h with h1 h2
          subst h1
          rw [hrun, i3 r rest h2 (fun q => hn62 (.tail _ q)), e, hn']
          simp [List.append_assoc, Nat.add_comm, Nat.add_left_comm]
end P5

section P6
open PySem PySem.W PyProof.Rows PySem.Calls
set_option maxRecDepth 100000
set_option maxHeartbeats 4000000
/-! CDATA sections -/
inductive CR
  | fin (out : List Nat) (m : Nat)
  | go (out : List Nat) (j : Nat)
noncomputable def CR.pre (o : List Nat) : CR → CR
  | .fin out m => .fin (o ++ out) (m + 1)
  | .go out j => .go (o ++ out) j
noncomputable def cdF : Nat → List Nat → CR
  | j, [] => .go [] j
  | 0, c :: q => if c = 93 then (cdF 1 q).pre [] else (cdF 0 q).pre [c]
  | 1, c :: q => if c = 93 then (cdF 2 q).pre [] else (cdF 0 q).pre [93, c]
  | _ + 2, c :: q => if c = 93 then (cdF 2 q).pre [93] else if c = 62 then .fin [] 1 else (cdF 0 q).pre [93, 93, c]
noncomputable def pend (j : Nat) : List Nat := List.replicate j 93
noncomputable def wE : List Nat := [93, 93, 62]
/-- what `cdF` says of the text that is not given out yet -/
noncomputable def CdSpec (w : List Nat) (q : List Nat) : CR → Prop
  | .go o j => (∀ i, ¬ wE <+: w.drop i) ∧ w = o ++ pend j ∧ j ≤ 2 ∧ (j < 2 → o.getLast? ≠ some 93)
  | .fin o m => m ≤ q.length ∧ w = o ++ wE ++ q.drop m ∧ ∀ i, i < o.length → ¬ wE <+: w.drop i
theorem no_pre {c : Nat} {t : List Nat} (h : c ≠ 93) : ¬ wE <+: c :: t := by
  intro q; rw [wE, List.cons_prefix_cons] at q; exact h q.1.symm
theorem no_pre2 {a c : Nat} {t : List Nat} (h : c ≠ 93) : ¬ wE <+: a :: c :: t := by
  intro q; rw [wE, List.cons_prefix_cons, List.cons_prefix_cons] at q; exact h q.2.1.symm
theorem no_pre3 {a b c : Nat} {t : List Nat} (h : c ≠ 62) : ¬ wE <+: a :: b :: c :: t := by
  intro q; rw [wE, List.cons_prefix_cons, List.cons_prefix_cons, List.cons_prefix_cons] at q; exact h q.2.2.1.symm
theorem last_cons {a : Nat} {o : List Nat} (h : o ≠ []) : (a :: o).getLast? = o.getLast? := by
  cases o with
  | nil => exact absurd rfl h
  | cons b t => rw [List.getLast?_cons_cons]
theorem spec_pre1 {w q : List Nat} {c a : Nat} (hp : ¬ wE <+: a :: w) (hl : ∀ o j, w = o ++ pend j → j < 2 → o = [] → a ≠ 93) : ∀ {r : CR}, CdSpec w q r → CdSpec (a :: w) (c :: q) (r.pre [a])
  | .go o j, ⟨h1, h2, h3, h4⟩ => by
    refine ⟨fun i => ?_, by rw [h2]; rfl, h3, fun hj => ?_⟩
    · cases i with
      | zero => exact hp
      | succ i => exact h1 i
    · by_cases ho : o = []
      · subst ho; intro q; simp at q; exact hl [] j h2 hj rfl q
      · show (a :: o).getLast? ≠ _
        rw [last_cons ho]; exact h4 hj
  | .fin o m, ⟨h1, h2, h3⟩ => by
    refine ⟨by simp; exact h1, by rw [h2]; rfl, fun i hi => ?_⟩
    cases i with
    | zero => exact hp
    | succ i => exact h3 i (by simpa using hi)
theorem spec_same {w q : List Nat} {c : Nat} : ∀ {r : CR}, CdSpec w q r → CdSpec w (c :: q) (r.pre [])
  | .go o j, h => h
  | .fin o m, ⟨h1, h2, h3⟩ => ⟨by simp; exact h1, h2, h3⟩
theorem pre_pre (a b : List Nat) : ∀ r : CR, (match r.pre b with | .fin out m => CR.fin (a ++ out) m | .go out j => .go (a ++ out) j) = r.pre (a ++ b)
  | .go _ _ => by simp [CR.pre]
  | .fin _ _ => by simp [CR.pre]
/-- more signs ahead -/
theorem spec_more {w q : List Nat} {a : Nat} (hp : ¬ wE <+: a :: w) (hl : ∀ o j, w = o ++ pend j → j < 2 → o = [] → a ≠ 93) : ∀ {r : CR}, CdSpec w q r → CdSpec (a :: w) q (match r with | .fin out m => CR.fin (a :: out) m | .go out j => .go (a :: out) j)
  | .go o j, ⟨h1, h2, h3, h4⟩ => by
    refine ⟨fun i => ?_, by rw [h2]; rfl, h3, fun hj => ?_⟩
    · cases i with
      | zero => exact hp
      | succ i => exact h1 i
    · by_cases ho : o = []
      · subst ho; intro q; simp at q; exact hl [] j h2 hj rfl q
      · show (a :: o).getLast? ≠ _
        rw [last_cons ho]; exact h4 hj
  | .fin o m, ⟨h1, h2, h3⟩ => by
    refine ⟨h1, by rw [h2]; rfl, fun i hi => ?_⟩
    cases i with
    | zero => exact hp
    | succ i => exact h3 i (by simpa using hi)
theorem cd_spec : ∀ (j : Nat) (q : List Nat), j ≤ 2 → CdSpec (pend j ++ q) q (cdF j q)
  | j, [], hj => by
    have e : cdF j [] = .go [] j := by cases j with
      | zero => rfl
      | succ j => cases j <;> rfl
    rw [e, List.append_nil]
    refine ⟨fun i h => ?_, rfl, hj, fun _ h => by simp at h⟩
    have h1 := h.length_le
    rw [List.length_drop] at h1
    simp [pend, wE] at h1
    omega
  | 0, c :: q, _ => by
    show CdSpec (c :: q) (c :: q) (if c = 93 then (cdF 1 q).pre [] else (cdF 0 q).pre [c])
    by_cases h : c = 93
    · subst h; rw [if_pos rfl]; exact spec_same (cd_spec 1 q (by omega))
    · rw [if_neg h]
      exact spec_pre1 (no_pre h) (fun _ _ _ _ _ => h) (cd_spec 0 q (by omega))
  | 1, c :: q, _ => by
    show CdSpec (93 :: c :: q) (c :: q) (if c = 93 then (cdF 2 q).pre [] else (cdF 0 q).pre [93, c])
    by_cases h : c = 93
    · subst h; rw [if_pos rfl]; exact spec_same (cd_spec 2 q (by omega))
    · rw [if_neg h]
      have s1 : CdSpec (c :: q) (c :: q) ((cdF 0 q).pre [c]) := spec_pre1 (no_pre h) (fun _ _ _ _ _ => h) (cd_spec 0 q (by omega))
      have s2 := spec_more (a := 93) (no_pre2 h) (fun o j e hj ho => by
        subst ho
        rw [List.nil_append] at e
        exfalso
        cases j with
        | zero => cases e
        | succ j => cases e; exact h rfl) s1
      have e := pre_pre [93] [c] (cdF 0 q)
      simp only [List.singleton_append] at e
      rw [← e]; exact s2
  | j + 2, c :: q, hj => by
    have j0 : j = 0 := by omega
    subst j0
    show CdSpec (93 :: 93 :: c :: q) (c :: q) (if c = 93 then (cdF 2 q).pre [93] else if c = 62 then .fin [] 1 else (cdF 0 q).pre [93, 93, c])
    by_cases h : c = 93
    · subst h; rw [if_pos rfl]
      refine spec_pre1 (no_pre3 (by decide)) (fun o j e hj ho => ?_) (cd_spec 2 q (by omega))
      subst ho
      exfalso
      have := congrArg List.length e
      simp [pend] at this
      omega
    · rw [if_neg h]
      by_cases h62 : c = 62
      · subst h62; rw [if_pos rfl]
        exact ⟨by simp, rfl, fun i hi => by simp at hi⟩
      · rw [if_neg h62]
        have s1 : CdSpec (c :: q) (c :: q) ((cdF 0 q).pre [c]) := spec_pre1 (no_pre h) (fun _ _ _ _ _ => h) (cd_spec 0 q (by omega))
        have s2 := spec_more (a := 93) (no_pre2 h) (fun o j e hj ho => by
          subst ho
          rw [List.nil_append] at e
          exfalso
          cases j with
          | zero => cases e
          | succ j => cases e; exact h rfl) s1
        have e := pre_pre [93] [c] (cdF 0 q)
        simp only [List.singleton_append] at e
        rw [e] at s2
        have s3 := spec_more (a := 93) (no_pre3 h62) (fun o j e hj ho => by
          subst ho
          rw [List.nil_append] at e
          exfalso
          cases j with
          | zero => cases e
          | succ j =>
            cases j with
            | zero => cases e
            | succ j => omega) s2
        have e2 := pre_pre [93] [93, c] (cdF 0 q)
        simp only [List.singleton_append] at e2
        rw [← e2]; exact s3
end P6

section P7
open PySem PySem.W PyProof.Rows PySem.Calls
set_option maxRecDepth 100000
set_option maxHeartbeats 4000000
noncomputable def cdSt : Nat → St
  | 0 => .cs | 1 => .cb | _ => .ce
structure Cd (d : D) (k j : Nat) : Prop where
  st : d.state = (cdSt j).str
  w : d.waiting = false
  dn : d.done = false
  at_ : d.at_ = k
  le : k ≤ d.xs.length
noncomputable def cdRes (d : D) (k n : Nat) (q : List Nat) : CR → Prop
  | .fin o m => runD n d = { d with at_ := k + m, state := "data", out := d.out ++ o.map chrR }
  | .go o j => (d.closed = false → runD n d = { d with at_ := k + q.length, state := (cdSt j).str, out := d.out ++ o.map chrR }) ∧
    (d.closed = true → runD n d = { d with at_ := k + q.length + 1, state := St.cs.str, out := d.out ++ (o ++ pend j).map chrR ++ [[.str "eof"]], errs := d.errs ++ [errR "eof-in-cdata" (k + q.length)], done := true })
theorem step_q {d : D} {q : St} {n : Nat} {d2 : D} (hq : d.state = q.str) (hw : d.waiting = false) (hr : readyD d = true) (e : q.rule d = d2) (h2 : d2.waiting = false) : runD (n + 1) d = runD n d2 := by
  rw [run_succ hr (step_is hq hw (by rw [e]; exact h2)), e]
/-- one sign further, `out` grown by `o` -/
theorem cdRes_pre {d : D} {k n c : Nat} {q o : List Nat} {st : Str} : ∀ {r : CR}, cdRes { d with at_ := k + 1, state := st, out := d.out ++ o.map chrR } (k + 1) n q r → ∀ n', runD n' d = runD n { d with at_ := k + 1, state := st, out := d.out ++ o.map chrR } → cdRes d k n' (c :: q) (r.pre o)
  | .fin p m, h, n', e => by
    show runD n' d = _
    rw [e, show runD n _ = _ from h]
    simp [List.append_assoc, Nat.add_comm, Nat.add_left_comm]
  | .go p j, ⟨h1, h2⟩, n', e => by
    refine ⟨fun hc => ?_, fun hc => ?_⟩
    · rw [e, h1 hc]; simp [List.append_assoc, Nat.add_comm, Nat.add_left_comm]
    · rw [e, h2 hc]; simp [List.append_assoc, Nat.add_comm, Nat.add_left_comm]
theorem cd_run : ∀ (q : List Nat) (d : D) (k j n : Nat), j ≤ 2 → Cd d k j → d.xs.drop k = q → 3 * q.length + 3 ≤ n → cdRes d k n q (cdF j q)
  | [], d, k, j, n, hj, B, hq, hn => by
    have e : cdF j [] = .go [] j := by cases j with
      | zero => rfl
      | succ j => cases j <;> rfl
    rw [e]
    have hk := drop_nil B.le hq
    have hg : d.xs[d.at_]? = none := by rw [B.at_]; exact List.getElem?_eq_none (by omega)
    have hlt : decide (d.at_ < d.xs.length) = false := decide_eq_false (by rw [B.at_]; omega)
    have hr := ready_is B.st B.w B.dn
    refine ⟨fun hc => ?_, fun hc => ?_⟩
    · rw [hc, hlt] at hr
      rw [run_halt (by rw [hr]; rfl)]
      have h1 := B.at_
      have h2 := B.st
      cases d
      simp_all
    · have cs : ∀ (d : D) (n : Nat), d.closed = true → d.state = St.cs.str → d.waiting = false → d.done = false → d.at_ = k → d.xs[k]? = none → 1 ≤ n →
          runD n d = { d with at_ := k + 1, out := d.out ++ [[.str "eof"]], errs := d.errs ++ [errR "eof-in-cdata" k], done := true } := by
        intro d n hc hs hw hd ha hx hn
        obtain ⟨m, rfl⟩ : ∃ m, n = m + 1 := ⟨n - 1, by omega⟩
        have e : St.cs.rule d = { d with at_ := k + 1, out := d.out ++ [[.str "eof"]], errs := d.errs ++ [errR "eof-in-cdata" k], done := true } := by
          show ruleS d = _
          unfold ruleS; rw [ha, hx]
        rw [step_q hs hw (by rw [ready_is hs hw hd, hc]; rfl) e hw, run_halt (done_halt rfl)]
      rw [hc] at hr
      rw [B.at_] at hg
      simp only [List.length_nil] at hn
      match j, hj, B with
      | 0, _, B =>
        rw [cs d n hc B.st B.w B.dn B.at_ hg (by omega)]
        have := B.st
        cases d
        simp_all [pend, cdSt]
      | 1, _, B =>
        obtain ⟨m, rfl⟩ : ∃ m, n = m + 1 := ⟨n - 1, by omega⟩
        have e : St.cb.rule d = { d with out := d.out ++ [chrR 93], state := "CDATA section" } := by
          show ruleK d = _
          unfold ruleK; rw [B.at_, hg, if_neg (by simp)]
        rw [step_q (q := .cb) B.st B.w (by rw [hr]; rfl) e B.w, cs { d with out := d.out ++ [chrR 93], state := "CDATA section" } m hc rfl B.w B.dn B.at_ hg (by omega)]
        simp [pend, St.str]
      | 2, _, B =>
        obtain ⟨m, rfl⟩ : ∃ m, n = m + 1 := ⟨n - 1, by omega⟩
        have e : St.ce.rule d = { d with out := d.out ++ [chrR 93, chrR 93], state := "CDATA section" } := by
          show ruleE d = _
          unfold ruleE; rw [B.at_, hg, if_neg (by simp), if_neg (by simp)]
        rw [step_q (q := .ce) B.st B.w (by rw [hr]; rfl) e B.w, cs { d with out := d.out ++ [chrR 93, chrR 93], state := "CDATA section" } m hc rfl B.w B.dn B.at_ hg (by omega)]
        simp [pend, St.str, List.replicate]
  | c :: q, d, k, j, n, hj, B, hq, hn => by
    obtain ⟨hg, hq', hlt⟩ := drop_get hq
    have hr : ∀ (d' : D) (s : St), d'.xs = d.xs → d'.state = s.str → d'.waiting = false → d'.done = false → d'.at_ = k → readyD d' = true := fun d' s hx h1 h2 h3 h4 => by
      rw [ready_is h1 h2 h3, h4, hx, decide_eq_true hlt, Bool.or_true]
    have hn3 : 3 * q.length + 6 ≤ n := by simp at hn; omega
    -- a sign that is no bracket, met in the section's own state
    have plain : ∀ (d' : D) (n' : Nat) (o : List Nat), c ≠ 93 → d'.xs = d.xs → d'.state = St.cs.str → d'.waiting = false → d'.done = false → d'.at_ = k → d' = { d with state := St.cs.str, out := d.out ++ o.map chrR } → 3 * q.length + 4 ≤ n' → ∀ n'', runD n'' d = runD n' d' → cdRes d k n'' (c :: q) ((cdF 0 q).pre (o ++ [c])) := by
      intro d' n' o h hx h1 h2 h3 h4 he hn' n'' hrun
      obtain ⟨m, rfl⟩ : ∃ m, n' = m + 1 := ⟨n' - 1, by omega⟩
      have e : St.cs.rule d' = { d with at_ := k + 1, state := St.cs.str, out := d.out ++ (o ++ [c]).map chrR } := by
        show ruleS d' = _
        unfold ruleS
        rw [h4, hx, hg]
        simp only [if_neg h]
        rw [he]; simp [List.append_assoc]
      have s1 : runD (m + 1) d' = runD m { d with at_ := k + 1, state := St.cs.str, out := d.out ++ (o ++ [c]).map chrR } := step_q h1 h2 (hr d' .cs hx h1 h2 h3 h4) e B.w
      exact cdRes_pre (cd_run q { d with at_ := k + 1, state := St.cs.str, out := d.out ++ (o ++ [c]).map chrR } (k + 1) 0 m (by omega) ⟨rfl, B.w, B.dn, rfl, hlt⟩ hq' (by omega)) n'' (hrun.trans s1)
    have brk : ∀ (j' : Nat) (o : List Nat) (d2 : D), j' ≤ 2 → (cdSt j).rule d = d2 → d2 = { d with at_ := k + 1, state := (cdSt j').str, out := d.out ++ o.map chrR } → cdRes d k n (c :: q) ((cdF j' q).pre o) := by
      intro j' o d2 hj' e he
      obtain ⟨m, rfl⟩ : ∃ m, n = m + 1 := ⟨n - 1, by omega⟩
      subst he
      have s1 := step_q (n := m) B.st B.w (hr d (cdSt j) rfl B.st B.w B.dn B.at_) e B.w
      exact cdRes_pre (cd_run q { d with at_ := k + 1, state := (cdSt j').str, out := d.out ++ o.map chrR } (k + 1) j' m hj' ⟨rfl, B.w, B.dn, rfl, hlt⟩ hq' (by omega)) _ s1
    match j, hj, B, brk with
    | 0, _, B, brk =>
      show cdRes d k n (c :: q) (if c = 93 then (cdF 1 q).pre [] else (cdF 0 q).pre [c])
      by_cases h : c = 93
      · rw [if_pos h]
        refine brk 1 [] _ (by omega) rfl ?_
        show ruleS d = _
        unfold ruleS; rw [B.at_, hg]; simp [h, cdSt, St.str]
      · rw [if_neg h]
        exact plain d n [] h rfl B.st B.w B.dn B.at_ (by have := B.st; cases d; simp_all [cdSt]) (by omega) n rfl
    | 1, _, B, brk =>
      show cdRes d k n (c :: q) (if c = 93 then (cdF 2 q).pre [] else (cdF 0 q).pre [93, c])
      by_cases h : c = 93
      · rw [if_pos h]
        refine brk 2 [] _ (by omega) rfl ?_
        show ruleK d = _
        unfold ruleK; rw [B.at_, hg]; simp [h, cdSt, St.str]
      · rw [if_neg h]
        obtain ⟨m, rfl⟩ : ∃ m, n = m + 1 := ⟨n - 1, by omega⟩
        have e : St.cb.rule d = { d with state := St.cs.str, out := d.out ++ [93].map chrR } := by
          show ruleK d = _
          unfold ruleK; rw [B.at_, hg, if_neg (by simpa using h)]; rfl
        exact plain { d with state := St.cs.str, out := d.out ++ [93].map chrR } m [93] h rfl rfl B.w B.dn B.at_ rfl (by omega) (m + 1) (step_q (q := .cb) B.st B.w (hr d .cb rfl B.st B.w B.dn B.at_) e B.w)
    | 2, _, B, brk =>
      show cdRes d k n (c :: q) (if c = 93 then (cdF 2 q).pre [93] else if c = 62 then .fin [] 1 else (cdF 0 q).pre [93, 93, c])
      by_cases h : c = 93
      · rw [if_pos h]
        refine brk 2 [93] _ (by omega) rfl ?_
        show ruleE d = _
        have hst := B.st
        unfold ruleE; rw [B.at_, hg, if_pos (by simp [h])]
        cases d
        simp_all [cdSt, St.str]
      · rw [if_neg h]
        obtain ⟨m, rfl⟩ : ∃ m, n = m + 1 := ⟨n - 1, by omega⟩
        by_cases h62 : c = 62
        · rw [if_pos h62]
          have e : St.ce.rule d = { d with at_ := k + 1, state := "data" } := by
            show ruleE d = _
            unfold ruleE; rw [B.at_, hg, if_neg (by simpa using h), if_pos (by simp [h62])]
          show runD (m + 1) d = _
          rw [step_q (q := .ce) B.st B.w (hr d .ce rfl B.st B.w B.dn B.at_) e B.w, run_halt (not_known known_data)]
          simp
        · rw [if_neg h62]
          have e : St.ce.rule d = { d with state := St.cs.str, out := d.out ++ [93, 93].map chrR } := by
            show ruleE d = _
            unfold ruleE; rw [B.at_, hg, if_neg (by simpa using h), if_neg (by simpa using h62)]; rfl
          exact plain { d with state := St.cs.str, out := d.out ++ [93, 93].map chrR } m [93, 93] h rfl rfl B.w B.dn B.at_ rfl (by omega) (m + 1) (step_q (q := .ce) B.st B.w (hr d .ce rfl B.st B.w B.dn B.at_) e B.w)
end P7

section P8
open PySem PySem.W PyProof.Rows PySem.Calls
set_option maxRecDepth 100000
set_option maxHeartbeats 4000000
/-! what a run keeps -/
structure Keeps (d d' : D) : Prop where
  xs : d'.xs = d.xs
  serr : d'.serr = d.serr
  closed : d'.closed = d.closed
  ret : d'.ret = d.ret
  foreign : d'.foreign = d.foreign
theorem Keeps.refl (d : D) : Keeps d d := ⟨rfl, rfl, rfl, rfl, rfl⟩
theorem Keeps.trans {a b c : D} (h : Keeps a b) (g : Keeps b c) : Keeps a c := ⟨g.xs.trans h.xs, g.serr.trans h.serr, g.closed.trans h.closed, g.ret.trans h.ret, g.foreign.trans h.foreign⟩
theorem rule_keeps (q : St) (d : D) : Keeps d (q.rule d) := by
  cases q with
  | mdo => show Keeps d (ruleM d); unfold ruleM; (repeat' split) <;> exact ⟨rfl, rfl, rfl, rfl, rfl⟩
  | bog => show Keeps d (ruleB d); unfold ruleB; (repeat' split) <;> exact ⟨rfl, rfl, rfl, rfl, rfl⟩
  | cs => show Keeps d (ruleS d); unfold ruleS; (repeat' split) <;> exact ⟨rfl, rfl, rfl, rfl, rfl⟩
  | cb => show Keeps d (ruleK d); unfold ruleK; (repeat' split) <;> exact ⟨rfl, rfl, rfl, rfl, rfl⟩
  | ce => show Keeps d (ruleE d); unfold ruleE; (repeat' split) <;> exact ⟨rfl, rfl, rfl, rfl, rfl⟩
theorem step_keeps (q : St) (d : D) : Keeps d (stepD q d) := by
  have h := rule_keeps q { d with waiting := false }
  have h' : Keeps d (q.rule { d with waiting := false }) := ⟨h.xs, h.serr, h.closed, h.ret, h.foreign⟩
  unfold stepD
  dsimp only
  split
  · exact ⟨h'.xs, h'.serr, h'.closed, h'.ret, h'.foreign⟩
  · exact h'
theorem run_keeps : ∀ (n : Nat) (d : D), Keeps d (runD n d)
  | 0, d => .refl d
  | n + 1, d => by
    unfold runD
    split
    · exact (step_keeps _ d).trans (run_keeps n _)
    · exact .refl d
theorem run_add : ∀ (a b : Nat) (d : D), runD (a + b) d = runD b (runD a d)
  | 0, b, d => by rw [Nat.zero_add]; rfl
  | a + 1, b, d => by
    by_cases h : readyD d = true
    · rw [show a + 1 + b = (a + b) + 1 by omega, run_succ h rfl, run_succ h rfl, run_add a b]
    · have h : readyD d = false := by simpa using h
      rw [run_halt h, run_halt h, run_halt h]
theorem WF.run : ∀ {m n : Nat} {d : D}, WF (m + n) d → WF n (runD m d)
  | 0, n, d, W => by rw [Nat.zero_add] at W; exact W
  | m + 1, n, d, W => by
    by_cases h : readyD d = true
    · rw [run_succ h rfl]
      obtain ⟨q, hq⟩ := known_st (ready_known h)
      rw [show m + 1 + n = (m + n) + 1 by omega] at W
      refine WF.run (m := m) ?_
      rw [hq, stOf_str]
      exact W.step hq (ready_done h)
    · have h : readyD d = false := by simpa using h
      rw [run_halt h]
      have h1 := W.out
      have h2 := W.errs
      exact ⟨W.xs, W.small, by omega, by omega, fun a b => by
        obtain ⟨l, hl, hz⟩ := W.dr a b
        exact ⟨l, hl, by omega⟩⟩
/-! more text behind -/
noncomputable def ext (d : D) (q : List Nat) (c : Bool) (s : List (List Dat)) (r : Bool) : D := { d with xs := d.xs ++ q, closed := c, serr := s, ret := r, waiting := false }
theorem looks_more {xs q : List Nat} {c fold : Bool} : ∀ (k : Nat) (w : List Nat), looksF xs false fold k w ≠ -1 → looksF (xs ++ q) c fold k w = looksF xs false fold k w
  | k, [], _ => by unfold looksF; rfl
  | k, a :: w, h => by
    unfold looksF at h ⊢
    cases hx : xs[k]? with
    | none => rw [hx] at h; exact absurd rfl h
    | some b =>
      obtain ⟨hi, _⟩ := List.getElem?_eq_some_iff.mp hx
      rw [hx] at h
      rw [List.getElem?_append_left hi, hx]
      dsimp only at h ⊢
      by_cases g : (if fold = true then lowc b else b) = a
      · rw [if_pos g] at h; rw [if_pos g, if_pos g, looks_more (k + 1) w h]
      · rw [if_neg g, if_neg g]
/-- a rule that does not wait does the same with more text behind -/
theorem looks_one {xs q : List Nat} {c fold : Bool} {k : Nat} {w : List Nat} (h : looksF xs false fold k w = 1) : looksF (xs ++ q) c fold k w = 1 := by
  rw [looks_more k w (by rw [h]; decide), h]
theorem looks_lt {xs : List Nat} {fold : Bool} : ∀ {k : Nat} {w : List Nat}, looksF xs false fold k w = -1 → xs.length < k + w.length
  | k, [], h => by unfold looksF at h; exact absurd h (by decide)
  | k, a :: w, h => by
    unfold looksF at h
    cases hx : xs[k]? with
    | none => have := List.getElem?_eq_none_iff.mp hx; simp; omega
    | some b =>
      rw [hx] at h
      dsimp only at h
      by_cases g : (if fold = true then lowc b else b) = a
      · rw [if_pos g] at h; have := looks_lt h; simp; omega
      · rw [if_neg g] at h; exact absurd h (by decide)
theorem looks_le {xs : List Nat} {fold c : Bool} : ∀ {k : Nat} {w : List Nat}, k ≤ xs.length → looksF xs c fold k w = 1 → k + w.length ≤ xs.length
  | k, [], hk, _ => hk
  | k, a :: w, hk, h => by
    unfold looksF at h
    cases hx : xs[k]? with
    | none => rw [hx] at h; cases c <;> simp at h
    | some b =>
      obtain ⟨hi, _⟩ := List.getElem?_eq_some_iff.mp hx
      rw [hx] at h
      dsimp only at h
      by_cases g : (if fold = true then lowc b else b) = a
      · rw [if_pos g] at h; have := looks_le hi h; simp; omega
      · rw [if_neg g] at h; exact absurd h (by decide)
theorem ruleM_more {d : D} {q : List Nat} {c : Bool} {s : List (List Dat)} {r : Bool} (hc : d.closed = false) (hw : d.waiting = false) (hk : d.at_ ≤ d.xs.length) :
    ruleM d = { d with waiting := true } ∨ ((ruleM d).waiting = false ∧ ruleM (ext d q c s r) = ext (ruleM d) q c s r) := by
  have X : ∀ (fold : Bool) (w : List Nat), looksF d.xs d.closed fold d.at_ w ≠ -1 → looksF (ext d q c s r).xs (ext d q c s r).closed fold (ext d q c s r).at_ w = looksF d.xs d.closed fold d.at_ w := fun fold w h => by
    rw [hc] at h ⊢; exact looks_more d.at_ w h
  have no : ∀ {f1 f2 : Bool} {w1 w2 : List Nat}, looksF d.xs d.closed f1 d.at_ w1 = 1 → w2.length ≤ w1.length → looksF d.xs d.closed f2 d.at_ w2 ≠ -1 := fun h hl e => by
    rw [hc] at e h
    have := looks_le hk h
    have := looks_lt e
    omega
  unfold ruleM
  by_cases h1 : looksF d.xs d.closed false d.at_ wDash = 1
  · right
    rw [if_pos h1, if_pos (by rw [X _ _ (by rw [h1]; decide)]; exact h1)]
    exact ⟨hw, rfl⟩
  rw [if_neg h1]
  by_cases h2 : looksF d.xs d.closed true d.at_ wDoc = 1
  · right
    rw [if_pos h2, if_neg (by rw [X _ _ (no h2 (by decide))]; exact h1), if_pos (by rw [X _ _ (by rw [h2]; decide)]; exact h2)]
    exact ⟨hw, rfl⟩
  rw [if_neg h2]
  by_cases h3 : looksF d.xs d.closed false d.at_ wCd = 1
  · right
    have k1 : ¬ looksF (ext d q c s r).xs (ext d q c s r).closed false (ext d q c s r).at_ wDash = 1 := by rw [X _ _ (no h3 (by decide))]; exact h1
    have k2 : ¬ looksF (ext d q c s r).xs (ext d q c s r).closed true (ext d q c s r).at_ wDoc = 1 := by rw [X _ _ (no h3 (by decide))]; exact h2
    have k3 : looksF (ext d q c s r).xs (ext d q c s r).closed false (ext d q c s r).at_ wCd = 1 := by rw [X _ _ (by rw [h3]; decide)]; exact h3
    rw [if_pos h3, if_neg k1, if_neg k2, if_pos k3]
    by_cases hf : d.foreign = true
    · rw [if_pos hf, if_pos (show (ext d q c s r).foreign = true from hf)]; exact ⟨hw, rfl⟩
    · rw [if_neg hf, if_neg (show ¬ (ext d q c s r).foreign = true from hf)]; exact ⟨hw, rfl⟩
  rw [if_neg h3]
  by_cases h4 : looksF d.xs d.closed false d.at_ wDash = -1 ∨ looksF d.xs d.closed true d.at_ wDoc = -1 ∨ looksF d.xs d.closed false d.at_ wCd = -1
  · left; rw [if_pos h4]
  · right
    have n1 : looksF d.xs d.closed false d.at_ wDash ≠ -1 := fun h => h4 (.inl h)
    have n2 : looksF d.xs d.closed true d.at_ wDoc ≠ -1 := fun h => h4 (.inr (.inl h))
    have n3 : looksF d.xs d.closed false d.at_ wCd ≠ -1 := fun h => h4 (.inr (.inr h))
    rw [if_neg h4, X _ _ n1, X _ _ n2, X _ _ n3, if_neg h1, if_neg h2, if_neg h3, if_neg h4]
    exact ⟨hw, rfl⟩
theorem rule_more {q' : St} {d : D} {q : List Nat} {c : Bool} {s : List (List Dat)} {r : Bool} (hc : d.closed = false) (hw : d.waiting = false) (hk : d.at_ < d.xs.length) :
    q'.rule d = { d with waiting := true } ∨ ((q'.rule d).waiting = false ∧ q'.rule (ext d q c s r) = ext (q'.rule d) q c s r) := by
  have X : (ext d q c s r).xs[(ext d q c s r).at_]? = d.xs[d.at_]? := by
    show (d.xs ++ q)[d.at_]? = _
    rw [List.getElem?_append_left hk]
  cases q' with
  | mdo => exact ruleM_more hc hw (Nat.le_of_lt hk)
  | bog =>
    right
    show (ruleB d).waiting = false ∧ ruleB _ = ext (ruleB d) q c s r
    unfold ruleB
    rw [X]
    cases d.xs[d.at_]? with
    | none => exact ⟨hw, rfl⟩
    | some a =>
      dsimp only
      by_cases h : a = 62
      · rw [if_pos h, if_pos h]; exact ⟨hw, rfl⟩
      rw [if_neg h, if_neg h]
      by_cases h : a = 0
      · rw [if_pos h, if_pos h]; exact ⟨hw, rfl⟩
      · rw [if_neg h, if_neg h]; exact ⟨hw, rfl⟩
  | cs =>
    right
    show (ruleS d).waiting = false ∧ ruleS _ = ext (ruleS d) q c s r
    unfold ruleS
    rw [X]
    cases d.xs[d.at_]? with
    | none => exact ⟨hw, rfl⟩
    | some a =>
      dsimp only
      by_cases h : a = 93
      · rw [if_pos h, if_pos h]; exact ⟨hw, rfl⟩
      · rw [if_neg h, if_neg h]; exact ⟨hw, rfl⟩
  | cb =>
    right
    show (ruleK d).waiting = false ∧ ruleK _ = ext (ruleK d) q c s r
    unfold ruleK
    rw [X]
    by_cases h : d.xs[d.at_]? = some 93
    · rw [if_pos h, if_pos h]; exact ⟨hw, rfl⟩
    · rw [if_neg h, if_neg h]; exact ⟨hw, rfl⟩
  | ce =>
    right
    show (ruleE d).waiting = false ∧ ruleE _ = ext (ruleE d) q c s r
    unfold ruleE
    rw [X]
    by_cases h : d.xs[d.at_]? = some 93
    · rw [if_pos h, if_pos h]; exact ⟨hw, rfl⟩
    rw [if_neg h, if_neg h]
    by_cases h : d.xs[d.at_]? = some 62
    · rw [if_pos h, if_pos h]; exact ⟨hw, rfl⟩
    · rw [if_neg h, if_neg h]; exact ⟨hw, rfl⟩
/-- a run over a first part is the first part of a run over the whole -/
theorem run_more {q : List Nat} {c : Bool} {s : List (List Dat)} {r : Bool} : ∀ (n : Nat) (d : D), d.closed = false → d.waiting = false → ∃ m, m ≤ n ∧ ∀ k, runD (m + k) (ext d q c s r) = runD k (ext (runD n d) q c s r)
  | 0, d, _, _ => ⟨0, Nat.le_refl _, fun k => by rw [Nat.zero_add]; rfl⟩
  | n + 1, d, hc, hw => by
    by_cases h : readyD d = true
    · obtain ⟨q', hq⟩ := known_st (ready_known h)
      have hdn := ready_done h
      have hr := ready_is hq hw hdn
      rw [h, hc, Bool.false_or] at hr
      have hk : d.at_ < d.xs.length := of_decide_eq_true hr.symm
      rcases rule_more (q' := q') (q := q) (c := c) (s := s) (r := r) hc hw hk with e | ⟨e1, e2⟩
      · -- it waits
        have hs : stepD (stOf d.state) d = { d with waiting := true } := by
          rw [show stOf d.state = q' by rw [hq, stOf_str]]
          unfold stepD
          dsimp only
          rw [unw hw, e]; exact if_pos rfl
        rw [run_succ h hs, run_halt (by unfold readyD; simp)]
        exact ⟨0, Nat.zero_le _, fun k => by rw [Nat.zero_add]; rfl⟩
      · have hs := step_is hq hw e1
        rw [run_succ h hs]
        have hke := rule_keeps q' d
        obtain ⟨m, hm, H⟩ := run_more (q := q) (c := c) (s := s) (r := r) n (q'.rule d) (hke.closed.trans hc) e1
        refine ⟨m + 1, by omega, fun k => ?_⟩
        have hr2 : readyD (ext d q c s r) = true := by
          rw [ready_is (q := q') (d := ext d q c s r) hq rfl hdn]
          have : (ext d q c s r).at_ < (ext d q c s r).xs.length := by
            show d.at_ < (d.xs ++ q).length
            rw [List.length_append]; omega
          rw [decide_eq_true this, Bool.or_true]
        have hs2 := step_is (d := ext d q c s r) (q := q') hq rfl (by rw [e2]; rfl)
        rw [show m + 1 + k = (m + k) + 1 by omega, run_succ hr2 hs2, e2, H k]
    · have h : readyD d = false := by simpa using h
      rw [run_halt h]
      exact ⟨0, Nat.zero_le _, fun k => by rw [Nat.zero_add]⟩
end P8

section P9
open PySem PySem.W PyProof.Rows PySem.Calls
set_option maxRecDepth 100000
set_option maxHeartbeats 4000000
/-! one run over a whole text -/
noncomputable def start (fo : Bool) (tx : List Nat) (c : Bool) (s : List (List Dat)) (r : Bool) : D :=
  { xs := tx, serr := s, closed := c, ret := r, at_ := 0, state := "markup declaration open", out := [], errs := [], draft := none, foreign := fo, waiting := false, done := false }
structure Shot (tx : List Nat) (e : D) (r : Due) : Prop where
  ready : readyD e = false
  seen : seenF e = r
  dr : ∀ l, e.draft = some l → l.length ≤ tx.length + 10
theorem S_end : Str.ofString "]]>" = S wE := by decide +kernel
theorem find_at {l w : List Nat} {i : Nat} (hi : i ≤ l.length) (h : w <+: l.drop i) (hn : ∀ k, k < i → ¬ w <+: l.drop k) : Txt.find (S l) (S w) = (i : Int) := by
  rcases find_spec l w with ⟨_, q⟩ | ⟨j, e, _, hj, hk⟩
  · exact absurd h (q i hi)
  · rcases Nat.lt_trichotomy i j with g | g | g
    · exact absurd h (hk i g)
    · rw [e, g]
    · exact absurd hj (hn j g)
theorem find_no {l w : List Nat} (h : ∀ i, ¬ w <+: l.drop i) : Txt.find (S l) (S w) = -1 := by
  rcases find_spec l w with ⟨e, _⟩ | ⟨j, _, _, hj, _⟩
  · exact e
  · exact absurd hj (h j)
theorem gt_no {l : List Nat} (h : 62 ∉ l) : Txt.find (S l) (Str.ofString ">") = -1 := by
  rw [S_gt]
  refine find_no fun i q => h ?_
  exact List.mem_of_mem_drop (q.subset (.head _))
theorem gt_at {a r : List Nat} (h : 62 ∉ a) : Txt.find (S (a ++ 62 :: r)) (Str.ofString ">") = (a.length : Int) := by
  rw [S_gt]
  refine find_at (by simp) (by simp) fun k hk q => h ?_
  rw [List.drop_append_of_le_length (Nat.le_of_lt hk), List.drop_eq_getElem_cons hk, List.cons_append, List.cons_prefix_cons] at q
  rw [q.1]
  exact List.getElem_mem hk
theorem nullRows_app : ∀ (a b : List Nat) (k : Nat), nullRows k (a ++ b) = nullRows k a ++ nullRows (k + a.length) b
  | [], b, k => by simp [nullRows]
  | c :: a, b, k => by
    show (if c = 0 then _ else _) ++ nullRows (k + 1) (a ++ b) = ((if c = 0 then _ else _) ++ nullRows (k + 1) a) ++ _
    rw [nullRows_app a b (k + 1), List.append_assoc, List.length_cons, show k + 1 + a.length = k + (a.length + 1) by omega]
theorem bogusF_hit {tx : List Nat} {c : Bool} {first : List Dat} {k : Nat} (h : Txt.find (S tx) (Str.ofString ">") = (k : Int)) :
    bogusF tx c first = ⟨[ROW ((tx.take k).map nul)], first :: nullRows 0 (tx.take k), "data", (k : Int) + 1, [], false, false⟩ := by
  unfold bogusF
  dsimp only
  have h1 : ¬ (k : Int) < 0 := by omega
  rw [h, if_neg h1, if_pos (Int.natCast_nonneg _), Int.toNat_natCast]
theorem bogusF_miss {tx : List Nat} {c : Bool} {first : List Dat} (h : Txt.find (S tx) (Str.ofString ">") = -1) :
    bogusF tx c first = if c = true then ⟨[ROW (tx.map nul), [.str "eof"]], first :: nullRows 0 tx, "", tx.length + 1, [], false, true⟩ else ⟨[], first :: nullRows 0 tx, "bogus comment", tx.length, tx.map nul, false, false⟩ := by
  unfold bogusF
  dsimp only
  have h1 : ¬ (0 : Int) ≤ -1 := by omega
  have h2 : (-1 : Int) < 0 := by omega
  rw [h, if_neg h1, if_pos h2]
theorem bogus_shot {tx w q : List Nat} {d : D} {first : List Dat} {n : Nat} (hx : d.xs = tx) (e : tx = w ++ q) (B : Bog d w.length w) (hw : 62 ∉ w) (hn : w.map nul = w) (h0 : nullRows 0 w = []) (ho : d.out = []) (he : d.errs = [first]) (hN : q.length + 1 ≤ n) :
    Shot tx (runD n d) (bogusF tx d.closed first) := by
  have hd : d.xs.drop w.length = q := by rw [hx, e, List.drop_left]
  obtain ⟨i1, i2, i3⟩ := bog_run q d w.length w n B hd hN
  have hl : tx.length = w.length + q.length := by rw [e, List.length_append]
  by_cases h : 62 ∈ q
  · obtain ⟨r, rest, hq, hr⟩ := List.eq_append_cons_of_mem h
    have hnr : 62 ∉ w ++ r := fun g => (List.mem_append.mp g).elim hw hr
    have et : tx = (w ++ r) ++ 62 :: rest := by rw [e, hq, List.append_assoc]
    rw [i3 r rest hq hr]
    refine ⟨not_known known_data, ?_, fun l hl => nomatch hl⟩
    have hf : Txt.find (S tx) (Str.ofString ">") = ((w ++ r).length : Int) := by rw [et]; exact gt_at hnr
    have ht : tx.take (w ++ r).length = w ++ r := by rw [et, List.take_left]
    rw [bogusF_hit hf, ht, nullRows_app, h0, Nat.zero_add, List.map_append, hn]
    unfold seenF
    dsimp only
    rw [B.dn, ho, he]
    simp [B.w, List.length_append]
  · have hnr : 62 ∉ tx := fun g => (List.mem_append.mp (e ▸ g)).elim hw h
    have hf := gt_no hnr
    have hm : tx.map nul = w ++ q.map nul := by rw [e, List.map_append, hn]
    have hz : nullRows 0 tx = nullRows w.length q := by rw [e, nullRows_app, h0, Nat.zero_add, List.nil_append]
    cases hc : d.closed with
    | false =>
      rw [i1 h hc]
      refine ⟨?_, ?_, fun l hl2 => ?_⟩
      · unfold readyD; rw [hc, hx]; simp [hl]
      · rw [bogusF_miss hf, if_neg (by decide), hm, hz]
        unfold seenF
        dsimp only
        rw [B.dn, ho, he]
        simp [B.w, B.st, hl, St.str]
      · injection hl2 with hl2
        rw [← hl2, hl]; simp
    | true =>
      rw [i2 h hc]
      refine ⟨done_halt rfl, ?_, fun l hl => nomatch hl⟩
      rw [bogusF_miss hf, if_pos rfl, hm, hz]
      unfold seenF
      dsimp only
      rw [ho, he]
      simp [B.w, hl]
theorem suff_no {o : List Nat} {j : Nat} (hj : j ≤ 2) (hl : j < 2 → o.getLast? ≠ some 93) : ([93, 93] <:+ o ++ pend j ↔ j = 2) ∧ ([93] <:+ o ++ pend j ↔ 1 ≤ j) := by
  have one : ∀ l : List Nat, [93] <:+ l → l.getLast? = some 93 := by
    rintro l ⟨t, rfl⟩; simp
  have two : ∀ l : List Nat, [93, 93] <:+ l ++ [93] → l.getLast? = some 93 := by
    rintro l ⟨t, e⟩
    have : l = t ++ [93] := by
      have e2 : (t ++ [93]) ++ [93] = l ++ [93] := by rw [← e]; simp
      exact (List.append_cancel_right e2).symm
    rw [this]; simp
  have three : ∀ l : List Nat, [93, 93] <:+ l → [93] <:+ l := by
    rintro l ⟨t, rfl⟩; exact ⟨t ++ [93], by simp⟩
  match j, hj with
  | 0, _ =>
    rw [show pend 0 = [] from rfl, List.append_nil]
    have h1 : ¬ [93] <:+ o := fun h => hl (by omega) (one _ h)
    exact ⟨⟨fun h => absurd (three _ h) h1, fun h => by omega⟩, ⟨fun h => absurd h h1, fun h => by omega⟩⟩
  | 1, _ =>
    refine ⟨⟨fun h => absurd (two _ h) (hl (by omega)), fun h => by omega⟩, ⟨fun _ => by omega, fun _ => ⟨o, rfl⟩⟩⟩
  | 2, _ =>
    exact ⟨⟨fun _ => rfl, fun _ => ⟨o, rfl⟩⟩, ⟨fun _ => by omega, fun _ => ⟨o ++ [93], by simp [pend, List.replicate]⟩⟩⟩
theorem sectionF_hit {tx q : List Nat} {c : Bool} {k : Nat} (hd : tx.drop 7 = q) (h : Txt.find (S q) (Str.ofString "]]>") = (k : Int)) :
    sectionF tx c = ⟨(q.take k).map chrR, [], "data", (k : Int) + 10, [], false, false⟩ := by
  unfold sectionF
  dsimp only
  rw [hd, h, if_pos (Int.natCast_nonneg _), Int.toNat_natCast]
theorem sectionF_miss {tx q : List Nat} {c : Bool} (hd : tx.drop 7 = q) (h : Txt.find (S q) (Str.ofString "]]>") = -1) :
    sectionF tx c = if c = true then ⟨q.map chrR ++ [[.str "eof"]], [errR "eof-in-cdata" tx.length], "", tx.length + 1, [], false, true⟩
      else if Txt.endswith (S q) (Str.ofString "]]") = true then ⟨(q.take (q.length - 2)).map chrR, [], "CDATA section end", tx.length, [], false, false⟩
      else if Txt.endswith (S q) (Str.ofString "]") = true then ⟨(q.take (q.length - 1)).map chrR, [], "CDATA section bracket", tx.length, [], false, false⟩
      else ⟨q.map chrR, [], "CDATA section", tx.length, [], false, false⟩ := by
  unfold sectionF
  dsimp only
  have h1 : ¬ (0 : Int) ≤ -1 := by omega
  rw [hd, h, if_neg h1]
theorem section_shot {tx q : List Nat} {d : D} {n : Nat} (hx : d.xs = tx) (e : tx = wCd ++ q) (B : Cd d 7 0) (ho : d.out = []) (he : d.errs = []) (hdr : d.draft = none) (hN : 3 * q.length + 3 ≤ n) :
    Shot tx (runD n d) (sectionF tx d.closed) := by
  have hd : tx.drop 7 = q := by rw [e]; rfl
  have hl : tx.length = 7 + q.length := by rw [e, List.length_append]; rfl
  have R := cd_run q d 7 0 n (by omega) B (by rw [hx]; exact hd) hN
  have Sp := cd_spec 0 q (by omega)
  rw [show pend 0 ++ q = q from rfl] at Sp
  revert R Sp
  cases cdF 0 q with
  | fin o m =>
    rintro R ⟨h1, h2, h3⟩
    have hq : q.drop o.length = wE ++ q.drop m := by
      rw [h2, List.append_assoc, List.drop_left, ← List.append_assoc, ← h2]
    have hm : m = o.length + 3 := by
      have := congrArg List.length h2
      simp [wE] at this
      omega
    have hf : Txt.find (S q) (Str.ofString "]]>") = (o.length : Int) := by
      rw [S_end]
      refine find_at (by omega) ?_ h3
      rw [hq]; exact List.prefix_append _ _
    have ht : q.take o.length = o := by
      have := congrArg (List.take o.length) h2
      rw [this, List.append_assoc, List.take_left]
    rw [show runD n d = _ from R]
    refine ⟨not_known known_data, ?_, fun l hl2 => ?_⟩
    · rw [sectionF_hit hd hf, ht]
      unfold seenF
      dsimp only
      rw [B.dn, ho, he]
      simp [B.w, hdr, hm]; omega
    · dsimp only at hl2; rw [hdr] at hl2; cases hl2
  | go o j =>
    rintro ⟨R1, R2⟩ ⟨h1, h2, h3, h4⟩
    have hf : Txt.find (S q) (Str.ofString "]]>") = -1 := by rw [S_end]; exact find_no h1
    cases hc : d.closed with
    | true =>
      rw [R2 hc]
      refine ⟨done_halt rfl, ?_, fun l hl2 => ?_⟩
      · rw [sectionF_miss hd hf, if_pos rfl]
        unfold seenF
        dsimp only
        rw [ho, he, ← h2]
        simp [B.w, hl]
      · dsimp only at hl2; rw [hdr] at hl2; cases hl2
    | false =>
      rw [R1 hc]
      obtain ⟨s2, s1⟩ := suff_no (o := o) (j := j) h3 h4
      rw [← h2] at s2 s1
      refine ⟨?_, ?_, fun l hl2 => ?_⟩
      · unfold readyD; rw [hc, hx]; simp [hl]
      · have e2 : Txt.endswith (S q) (Str.ofString "]]") = true ↔ j = 2 := by rw [S_brbr, ends_iff]; exact s2
        have e1 : Txt.endswith (S q) (Str.ofString "]") = true ↔ 1 ≤ j := by rw [S_br, ends_iff]; exact s1
        have hp : q.take (q.length - j) = o := by
          have hl2 : q.length - j = o.length := by rw [h2]; simp [pend]
          rw [hl2]
          have := congrArg (List.take o.length) h2
          rw [this, List.take_left]
        rw [sectionF_miss hd hf, if_neg (by decide)]
        have fin : ∀ (X : Str) (Y : List (List Dat)), X = (cdSt j).str → Y = o.map chrR → seenF { d with at_ := 7 + q.length, state := (cdSt j).str, out := d.out ++ o.map chrR } = ⟨Y, [], X, tx.length, [], false, false⟩ := fun X Y hX hY => by
          rw [hX, hY]
          unfold seenF
          dsimp only
          rw [B.dn, ho, he]
          simp [B.w, hdr, hl]
        match j, h3, hp, e1, e2, fin with
        | 0, _, hp, e1, e2, fin =>
          rw [if_neg (by rw [e2]; omega), if_neg (by rw [e1]; omega)]
          rw [Nat.sub_zero, List.take_length] at hp
          exact fin _ _ rfl (by rw [hp])
        | 1, _, hp, e1, e2, fin =>
          rw [if_neg (by rw [e2]; omega), if_pos (by rw [e1]; omega), hp]
          exact fin _ _ rfl rfl
        | 2, _, hp, e1, e2, fin =>
          rw [if_pos (by rw [e2]), hp]
          exact fin _ _ rfl rfl
      · dsimp only at hl2; rw [hdr] at hl2; cases hl2
end P9

section Q1
open PySem PySem.W PyProof.Rows PySem.Calls
set_option maxRecDepth 100000
set_option maxHeartbeats 4000000
theorem known_mdo : known "markup declaration open" = true := by decide +kernel
theorem shot {fo c r : Bool} {tx : List Nat} {s : List (List Dat)} {n : Nat} (hn : 3 * tx.length + 10 ≤ n) : Shot tx (runD n (start fo tx c s r)) (dueF tx c fo) := by
  have hst : (start fo tx c s r).state = St.mdo.str := rfl
  have hr := ready_is (d := start fo tx c s r) (q := .mdo) rfl rfl rfl
  rw [show (start fo tx c s r).closed = c from rfl, show (start fo tx c s r).at_ = 0 from rfl, show (start fo tx c s r).xs = tx from rfl] at hr
  by_cases h0 : c = false ∧ tx = []
  · obtain ⟨rfl, rfl⟩ := h0
    rw [run_halt (by rw [hr]; rfl)]
    exact ⟨by rw [hr]; rfl, rfl, fun l hl => nomatch hl⟩
  have hr1 : readyD (start fo tx c s r) = true := by
    rw [hr]
    cases c with
    | true => rfl
    | false =>
      have : tx ≠ [] := fun e => h0 ⟨rfl, e⟩
      have : 0 < tx.length := List.length_pos_iff.mpr this
      simp [this]
  have hrule := rule_kind (start fo tx c s r) rfl
  rw [show (start fo tx c s r).closed = c from rfl, show (start fo tx c s r).xs = tx from rfl] at hrule
  obtain ⟨m, rfl⟩ : ∃ m, n = m + 1 := ⟨n - 1, by omega⟩
  have hkd : ∀ K, kindF tx c = K → dueF tx c fo = (match K with
    | .wait => ⟨[], [], "markup declaration open", 0, [], decide (tx ≠ []), false⟩
    | .comment => ⟨[], [], "comment start", 2, [], false, false⟩
    | .doctype => ⟨[], [], "DOCTYPE", 7, [], false, false⟩
    | .bogus => bogusF tx c (errR "incorrectly-opened-comment" 0)
    | .cdata => if fo then sectionF tx c else bogusF tx c (errR "cdata-in-html-content" 6)) := fun K hK => by unfold dueF; rw [hK]; first | done | (cases K <;> rfl)
  cases hK : kindF tx c with
  | wait =>
    rw [hkd _ hK]
    rw [hK] at hrule
    have hs : stepD (stOf (start fo tx c s r).state) (start fo tx c s r) = { start fo tx c s r with waiting := true } := by
      show stepD (stOf St.mdo.str) _ = _
      rw [stOf_str]
      unfold stepD
      dsimp only
      rw [unw (show (start fo tx c s r).waiting = false from rfl), show St.mdo.rule (start fo tx c s r) = _ from hrule]
      rfl
    have hc : c = false ∧ tx ≠ [] := by
      have : c = false := by
        cases c with
        | false => rfl
        | true =>
          unfold kindF at hK
          split at hK
          · cases hK
          split at hK
          · cases hK
          split at hK
          · cases hK
          rw [if_neg (by simp), if_neg (by simp)] at hK
          cases hK
      exact ⟨this, fun e => h0 ⟨this, e⟩⟩
    have hnr : readyD { start fo tx c s r with waiting := true } = false := by unfold readyD; simp
    rw [run_succ hr1 hs, run_halt hnr]
    refine ⟨hnr, ?_, fun l hl => nomatch hl⟩
    unfold seenF
    simp [start, hc.2]
  | comment =>
    rw [hkd _ hK]
    rw [hK] at hrule
    rw [step_q (q := .mdo) rfl rfl hr1 hrule rfl, run_halt (not_known known_com)]
    exact ⟨not_known known_com, rfl, fun l hl => by injection hl with hl; rw [← hl]; simp⟩
  | doctype =>
    rw [hkd _ hK]
    rw [hK] at hrule
    rw [step_q (q := .mdo) rfl rfl hr1 hrule rfl, run_halt (not_known known_doc)]
    exact ⟨not_known known_doc, rfl, fun l hl => nomatch hl⟩
  | bogus =>
    rw [hkd _ hK]
    rw [hK] at hrule
    rw [step_q (q := .mdo) rfl rfl hr1 hrule rfl]
    exact bogus_shot (w := []) (q := tx) (d := { start fo tx c s r with errs := (start fo tx c s r).errs ++ [errR "incorrectly-opened-comment" 0], draft := some [], state := "bogus comment" }) rfl rfl ⟨rfl, rfl, rfl, rfl, rfl, Nat.zero_le _⟩ (by simp) rfl rfl rfl rfl (by omega)
  | cdata =>
    rw [hkd _ hK]
    rw [hK] at hrule
    have h7 : tx.take 7 = wCd := by
      unfold kindF at hK
      split at hK
      · cases hK
      split at hK
      · cases hK
      split at hK
      · assumption
      · split at hK
        · cases hK
        · split at hK <;> cases hK
    have hx : tx = wCd ++ tx.drop 7 := by
      have := List.take_append_drop 7 tx
      rw [h7] at this
      exact this.symm
    have hle : 7 ≤ tx.length := by
      have := congrArg List.length h7
      rw [List.length_take] at this
      simp [wCd] at this
      omega
    have hdl : (tx.drop 7).length ≤ tx.length := by rw [List.length_drop]; omega
    cases fo with
    | true =>
      rw [step_q (q := .mdo) rfl rfl hr1 hrule rfl]
      exact section_shot (q := tx.drop 7) (d := { start true tx c s r with at_ := 7, state := "CDATA section" }) rfl hx ⟨rfl, rfl, rfl, rfl, hle⟩ rfl rfl rfl (by omega)
    | false =>
      rw [step_q (q := .mdo) rfl rfl hr1 hrule rfl]
      exact bogus_shot (w := wCd) (q := tx.drop 7) (d := { start false tx c s r with at_ := 7, errs := (start false tx c s r).errs ++ [errR "cdata-in-html-content" 6], draft := some wCd, state := "bogus comment" }) rfl hx ⟨rfl, rfl, rfl, rfl, rfl, hle⟩ (by decide) (by decide) (by decide) rfl rfl (by omega)
end Q1

section Q2
open PySem PySem.W PyProof.Rows PySem.Calls
set_option maxRecDepth 100000
set_option maxHeartbeats 4000000
/-! what can be compared -/
noncomputable def Cp (l : List Nat) : Prop := ∀ c ∈ l, c < 1114112
theorem strOk_S {l : List Nat} (h : Cp l) : PyData.strOk (S l) = true := by
  unfold PyData.strOk S
  simp
  exact h
theorem Cp.sg {l : List Nat} (h : InSG l) : Cp l := fun c hc => by
  have := (sg_low c (h c hc)).2.2.2.1
  omega
theorem Cp.nul {l : List Nat} (h : Cp l) : Cp (l.map nul) := fun c hc => by
  obtain ⟨a, ha, e⟩ := List.mem_map.mp hc
  rw [← e]
  unfold Mine.nul
  split
  · omega
  · exact h a ha
theorem Cp.take {l : List Nat} (h : Cp l) (n : Nat) : Cp (l.take n) := fun c hc => h c (List.mem_of_mem_take hc)
theorem Cp.drop {l : List Nat} (h : Cp l) (n : Nat) : Cp (l.drop n) := fun c hc => h c (List.mem_of_mem_drop hc)
theorem RowsOk.nil : RowsOk [] := fun _ h => nomatch h
theorem RowsOk.cons {r : List Dat} {rs : List (List Dat)} (h : ∀ d ∈ r, flatOk d = true) (g : RowsOk rs) : RowsOk (r :: rs) := fun x hx => by
  rcases List.mem_cons.mp hx with rfl | hx
  · exact h
  · exact g x hx
theorem RowsOk.app {a b : List (List Dat)} (h : RowsOk a) (g : RowsOk b) : RowsOk (a ++ b) := fun x hx => (List.mem_append.mp hx).elim (h x) (g x)
theorem errR_ok {x : Str} {k : Nat} (h : PyData.strOk x = true) : ∀ d ∈ errR x k, flatOk d = true := by
  intro d hd
  simp only [errR, List.mem_cons, List.not_mem_nil, or_false] at hd
  rcases hd with rfl | rfl
  · exact h
  · rfl
theorem ROW_ok {l : List Nat} (h : Cp l) : ∀ d ∈ ROW l, flatOk d = true := by
  intro d hd
  simp only [ROW, List.mem_cons, List.not_mem_nil, or_false] at hd
  rcases hd with rfl | rfl
  · show PyData.strOk _ = true; decide +kernel
  · exact strOk_S h
theorem chr_rows {l : List Nat} (h : Cp l) : RowsOk (l.map chrR) := by
  intro r hr d hd
  obtain ⟨c, hc, rfl⟩ := List.mem_map.mp hr
  simp only [chrR, List.mem_cons, List.not_mem_nil, or_false] at hd
  rcases hd with rfl | rfl
  · show PyData.strOk _ = true; decide +kernel
  · exact strOk_S fun a ha => by rw [List.mem_singleton.mp ha]; exact h c hc
theorem eofR_ok : ∀ d ∈ ([.str "eof"] : List Dat), flatOk d = true := by
  intro d hd
  rw [List.mem_singleton.mp hd]
  show PyData.strOk _ = true; decide +kernel
theorem null_rows : ∀ (l : List Nat) (k : Nat), RowsOk (nullRows k l)
  | [], _ => .nil
  | c :: t, k => by
    show RowsOk ((if c = 0 then _ else _) ++ nullRows (k + 1) t)
    refine RowsOk.app ?_ (null_rows t (k + 1))
    split
    · exact .cons (errR_ok (by decide +kernel)) .nil
    · exact .nil
theorem stream_rows : ∀ (l : List Nat) (k : Nat), RowsOk (streamF k l)
  | [], _ => .nil
  | c :: t, k => by
    show RowsOk (streamAt c k ++ streamF (k + 1) t)
    refine RowsOk.app ?_ (stream_rows t (k + 1))
    unfold streamAt
    refine RowsOk.app ?_ ?_
    · split
      · exact .cons (errR_ok (by decide +kernel)) .nil
      · exact .nil
    · split
      · exact .cons (errR_ok (by decide +kernel)) .nil
      · exact .nil
theorem bogus_due {l : List Nat} {e : Bool} {x : Str} {k : Nat} (h : Cp l) (hx : PyData.strOk x = true) : DueOk (bogusF l e (errR x k)) := by
  unfold bogusF
  dsimp only
  have hr : Cp (if Txt.find (S l) (Str.ofString ">") < 0 then l else l.take (Txt.find (S l) (Str.ofString ">")).toNat) := by
    split
    · exact h
    · exact h.take _
  have he := RowsOk.cons (errR_ok (k := k) hx) (null_rows (if Txt.find (S l) (Str.ofString ">") < 0 then l else l.take (Txt.find (S l) (Str.ofString ">")).toNat) 0)
  split
  · exact ⟨.cons (ROW_ok hr.nul) .nil, he, by (try dsimp only); decide +kernel, by (try dsimp only); decide +kernel⟩
  split
  · exact ⟨.cons (ROW_ok hr.nul) (.cons eofR_ok .nil), he, by (try dsimp only); decide +kernel, by (try dsimp only); decide +kernel⟩
  · exact ⟨.nil, he, by (try dsimp only); decide +kernel, strOk_S hr.nul⟩
theorem section_due {l : List Nat} {e : Bool} (h : Cp l) : DueOk (sectionF l e) := by
  unfold sectionF
  dsimp only
  have hd := h.drop 7
  split
  · exact ⟨chr_rows (hd.take _), .nil, by (try dsimp only); decide +kernel, by (try dsimp only); decide +kernel⟩
  split
  · exact ⟨(chr_rows hd).app (.cons eofR_ok .nil), .cons (errR_ok (by (try dsimp only); decide +kernel)) .nil, by (try dsimp only); decide +kernel, by (try dsimp only); decide +kernel⟩
  split
  · exact ⟨chr_rows (hd.take _), .nil, by (try dsimp only); decide +kernel, by (try dsimp only); decide +kernel⟩
  split
  · exact ⟨chr_rows (hd.take _), .nil, by (try dsimp only); decide +kernel, by (try dsimp only); decide +kernel⟩
  · exact ⟨chr_rows hd, .nil, by (try dsimp only); decide +kernel, by (try dsimp only); decide +kernel⟩
theorem dueF_ok {l : List Nat} {e fo : Bool} (h : InSG l) : DueOk (dueF l e fo) := by
  have h := Cp.sg h
  unfold dueF
  split
  · exact ⟨.nil, .nil, by (try dsimp only); decide +kernel, by (try dsimp only); decide +kernel⟩
  · exact ⟨.nil, .nil, by (try dsimp only); decide +kernel, by (try dsimp only); decide +kernel⟩
  · exact ⟨.nil, .nil, by (try dsimp only); decide +kernel, by (try dsimp only); decide +kernel⟩
  · exact bogus_due h (by (try dsimp only); decide +kernel)
  · split
    · exact section_due h
    · exact bogus_due h (by (try dsimp only); decide +kernel)
/-! the tokenizer between two pieces -/
structure Inv (fo : Bool) (raw : List Nat) (d : D) : Prop where
  fed : Fed raw d
  sg : InSG raw
  closed : d.closed = false
  is : ∃ m s r, m ≤ 400 ∧ d = runD m (start fo (norm raw) false s r)
theorem norm_len {raw : List Nat} : ∀ {l : List Nat}, (norm (raw ++ l)).length ≤ (norm raw).length + l.length
  | [] => by simp
  | c :: l => by
    have h := norm_len (raw := raw ++ [c]) (l := l)
    rw [List.append_assoc] at h
    have h2 : (norm (raw ++ [c])).length ≤ (norm raw).length + 1 := by
      rw [norm_snoc]; split
      · simp
      · split <;> simp
    simp at h ⊢; omega
theorem Inv.start (fo : Bool) : Inv fo [] (start fo [] false [] false) :=
  ⟨⟨rfl, rfl, rfl⟩, .nil, rfl, 0, [], false, by omega, rfl⟩
theorem feed1_xs (c : Nat) (d : D) : ∃ q, (feed1 c d).xs = d.xs ++ q := by
  unfold feed1
  split
  · exact ⟨_, rfl⟩
  · split
    · exact ⟨_, rfl⟩
    · exact ⟨[], by simp⟩
theorem feedL_xs : ∀ (l : List Nat) (d : D), ∃ q, (feedL l d).xs = d.xs ++ q
  | [], d => ⟨[], by simp [feedL]⟩
  | c :: l, d => by
    obtain ⟨q, e⟩ := feed1_xs c d
    obtain ⟨q', e'⟩ := feedL_xs l (feed1 c d)
    exact ⟨q ++ q', by show (feedL l (feed1 c d)).xs = _; rw [e', e, List.append_assoc]⟩
theorem wf_start {n : Nat} {fo c r : Bool} {tx : List Nat} {s : List (List Dat)} (hn : n ≤ 10000) (hl : tx.length ≤ 1000) (hs : Small tx) : WF n (start fo tx c s r) :=
  ⟨hl, hs, by show 0 + _ ≤ _; omega, by show 0 + _ ≤ _; omega, fun h => absurd h (by show ¬ (Str.ofString "markup declaration open" = St.bog.str); decide +kernel)⟩
/-- what `_law_is_right` wants to know of a run -/
structure Ran (fo e : Bool) (raw : List Nat) (d' d1 : D) : Prop where
  wf : WF 400 d'
  eq : d1 = runD 400 d'
  ready : readyD (runD 400 d') = false
  sg : InSG (norm raw)
  st : d1.serr = streamF 0 (norm raw)
  sok : RowsOk (streamF 0 (norm raw))
  seen : seenF d1 = dueF (norm raw) e fo
  ok : DueOk (dueF (norm raw) e fo)
  dz : ∀ l, d1.draft = some l → l.length ≤ 100000
theorem ran {fo c : Bool} {raw raw' : List Nat} {d : D} {q : List Nat} {s : List (List Dat)} {r : Bool} (V : Inv fo raw d) (hq : norm raw ++ q = norm raw') (hz : raw'.length ≤ 100) (hsg : InSG raw') (hs : s = streamF 0 (norm raw')) (hr : r = decide (raw'.getLast? = some 13)) :
    Ran fo c raw' (ext d q c s r) (runD 400 (ext d q c s r)) ∧ runD 400 (ext d q c s r) = runD 400 (start fo (norm raw') c s r) ∧ Fed raw' (runD 400 (ext d q c s r)) ∧ (runD 400 (ext d q c s r)).closed = c := by
  obtain ⟨m, s0, r0, hm, hd⟩ := V.is
  obtain ⟨m', hm', H⟩ := run_more (q := q) (c := c) (s := s) (r := r) m (start fo (norm raw) false s0 r0) rfl rfl
  rw [← hd] at H
  have e0 : ext (start fo (norm raw) false s0 r0) q c s r = start fo (norm raw') c s r := by rw [← hq]; rfl
  rw [e0] at H
  have hl : (norm raw').length ≤ 100 := by
    have := norm_len (raw := []) (l := raw')
    rw [List.nil_append, norm_nil] at this
    simp at this; omega
  have h0 : runD m' (start fo (norm raw') c s r) = ext d q c s r := H 0
  have h4 := H 400
  have S1 : Shot (norm raw') (runD 400 (start fo (norm raw') c s r)) (dueF (norm raw') c fo) := shot (by omega)
  have e1 : runD 400 (ext d q c s r) = runD 400 (start fo (norm raw') c s r) := by
    rw [← h4, Nat.add_comm, run_add, run_halt S1.ready]
  have K := run_keeps 400 (start fo (norm raw') c s r)
  have hn := norm_sg hsg
  have W : WF 400 (ext d q c s r) := by
    rw [← h0]
    exact WF.run (wf_start (by omega) (by omega) hn.small)
  refine ⟨⟨W, rfl, by rw [e1]; exact S1.ready, hn, ?_, stream_rows _ _, by rw [e1]; exact S1.seen, dueF_ok hn, fun l h => ?_⟩, e1, ?_, ?_⟩
  · rw [e1, K.serr]; exact hs
  · rw [e1] at h; have := S1.dr l h; omega
  · rw [e1]
    exact ⟨K.xs, K.serr.trans hs, K.ret.trans hr⟩
  · rw [e1]; exact K.closed
/-- a piece more -/
theorem Inv.feed {fo : Bool} {raw l : List Nat} {d : D} (V : Inv fo raw d) (hz : (raw ++ l).length ≤ 100) (hsg : InSG l) :
    Ran fo false (raw ++ l) { feedL l d with waiting := false } (runD 400 { feedL l d with waiting := false }) ∧ Inv fo (raw ++ l) (runD 400 { feedL l d with waiting := false }) := by
  have F := fed_all hsg V.fed
  obtain ⟨a, b, r, e⟩ := feedL_rest l d
  obtain ⟨q, eq⟩ := feedL_xs l d
  have hx : norm raw ++ q = norm (raw ++ l) := by rw [← F.xs, eq, V.fed.xs]
  have ea : a = d.xs ++ q := by rw [← eq, e]
  have hb : b = streamF 0 (norm (raw ++ l)) := by rw [← F.serr, e]
  have hr : r = decide ((raw ++ l).getLast? = some 13) := by rw [← F.ret, e]
  have e2 : { feedL l d with waiting := false } = ext d q false b r := by
    have hc := V.closed
    rw [e, ea]
    cases d
    cases hc
    rfl
  rw [e2]
  obtain ⟨R, e1, F1, hc⟩ := ran (c := false) V hx hz (V.sg.app hsg) hb hr
  exact ⟨R, F1, V.sg.app hsg, hc, 400, b, r, Nat.le_refl _, e1⟩
/-- the end -/
theorem Inv.end {fo : Bool} {raw : List Nat} {d : D} (V : Inv fo raw d) (hz : raw.length ≤ 100) :
    Ran fo true raw { d with closed := true, waiting := false } (runD 400 { d with closed := true, waiting := false }) := by
  have e2 : { d with closed := true, waiting := false } = ext d [] true d.serr d.ret := by
    unfold ext; rw [List.append_nil]
  rw [e2]
  exact (ran (c := true) V (List.append_nil _) hz V.sg V.fed.serr V.fed.ret).1
/-- the sizes of what has been fed -/
theorem Inv.sizes {fo : Bool} {raw : List Nat} {d : D} (V : Inv fo raw d) (hz : raw.length ≤ 100) : d.xs.length ≤ 100 ∧ d.serr.length ≤ 200 := by
  have hl : (norm raw).length ≤ 100 := by
    have := norm_len (raw := []) (l := raw)
    rw [List.nil_append, norm_nil] at this
    simp at this; omega
  have key : ∀ (l : List Nat) (k : Nat), (streamF k l).length ≤ 2 * l.length := by
    intro l
    induction l with
    | nil => intro k; exact Nat.le_refl _
    | cons c t ih =>
      intro k
      have h1 : (streamAt c k).length ≤ 2 := by
        unfold streamAt
        rw [List.length_append]
        have : ∀ (p : Prop) [Decidable p] (x : List Dat), (if p then [x] else ([] : List (List Dat))).length ≤ 1 := fun p _ x => by split <;> simp
        have a := this (c = 64976 ∨ c = 65007) (errR "noncharacter-in-input-stream" k)
        have b := this (c = 1 ∨ c = 31 ∨ c = 127 ∨ c = 159) (errR "control-character-in-input-stream" k)
        omega
      have := ih (k + 1)
      show (streamAt c k ++ streamF (k + 1) t).length ≤ _
      rw [List.length_append, List.length_cons]
      omega
  have := key (norm raw) 0
  rw [V.fed.xs, V.fed.serr]
  exact ⟨hl, by omega⟩
end Q2

section C1
open PySem PySem.W PyProof.Rows PySem.Calls
set_option maxRecDepth 100000
set_option maxHeartbeats 4000000
theorem lines_C1_1 : True := by
  w_top off
  k_with_none
  k_with "execs cons" => k_fold
  k_with "exec If" => k_fold
  k_with "exec Assign" => k_fold
  k_with "exec Expr" => k_fold
  k_with "exec Return" => k_fold
  k_with "callWith" => k_fold
  k_with "call ref" => k_fold
  k_with "mine steps" => repeat' ((fail_if_success (with_reducible show wpAny _ _ (pyIter _) _ _ _)); (fail_if_success (with_reducible show wpAny _ _ (exec (Stmt.For _ (Expr.Name _ _) _ _ _) _) _ _ _)); first | (k_unfold; (try dsimp only)) | walk1 | (dsimp only; walk1) | (leave1; (try dsimp only)))
  k_with "mine H" => (first | (with_reducible assumption) | (with_reducible refine' TokX.cons1 ?zhhh; (case zhhh => with_reducible assumption)) | (with_reducible refine' TokX.cons2 ?zhhh; (case zhhh => with_reducible assumption)) | (with_reducible refine' TokX.cons3 ?zhhh; (case zhhh => with_reducible assumption)))
  k_with "mine row" => (first | (with_reducible assumption) | (apply RowIs.of; k_mem; (repeat' constructor); done))
  k_with "mine HD" => (first | (with_reducible assumption) | (exact TokX.dr (by with_reducible assumption) rfl) | (exact TokX.dr (by with_reducible assumption) (by with_reducible assumption)) | (exact DraftAt.keepA (by with_reducible assumption) (by with_reducible assumption)) | (exact TokX.dr (by with_reducible assumption) (by assumption)))
  k_with "mine fxnh" => ((case zhF => k_asm); (case zhX => k_asm); (case zhN => k_asm); (case zhH => walk_at "mine H"))
  k_with "getAttr ref" => k_dflt (first | (with_reducible refine' get_at ?zhF ?zhX ?zhN ?zhH ?_; walk_at "mine fxnh"; intro _) | (with_reducible refine' get_stream ?zhF ?zhX ?zhN ?zhH ?_; walk_at "mine fxnh") | (with_reducible refine' get_signs ?zhF ?zhX ?zhN ?zhH ?_; walk_at "mine fxnh") | (with_reducible refine' get_out ?zhF ?zhX ?zhN ?zhH ?_; walk_at "mine fxnh") | (with_reducible refine' get_errors ?zhF ?zhX ?zhN ?zhH ?_; walk_at "mine fxnh") | (with_reducible refine' get_draft ?zhF ?zhX ?zhN ?zhH ?_; walk_at "mine fxnh") | (with_reducible refine' get_state ?zhF ?zhX ?zhN ?zhH ?_; walk_at "mine fxnh"; intro _) | (with_reducible refine' get_states ?zhF ?zhX ?zhN ?zhH ?_; walk_at "mine fxnh") | (with_reducible refine' get_waiting ?zhF ?zhX ?zhN ?zhH ?_; walk_at "mine fxnh") | (with_reducible refine' get_done ?zhF ?zhX ?zhN ?zhH ?_; walk_at "mine fxnh") | (with_reducible refine' get_foreign ?zhF ?zhX ?zhN ?zhH ?_; walk_at "mine fxnh") | (with_reducible refine' get_last ?zhF ?zhX ?zhN ?zhH ?_; walk_at "mine fxnh"; intro _) | (with_reducible refine' get_closed ?zhF ?zhX ?zhN ?zhH ?_; walk_at "mine fxnh") | (with_reducible refine' get_return ?zhF ?zhX ?zhN ?zhH ?_; walk_at "mine fxnh") | (with_reducible refine' get_serr ?zhF ?zhX ?zhN ?zhH ?_; walk_at "mine fxnh") | (with_reducible refine' getd_text ?zhF ?zhX ?zhN ?zhH ?_; (case zhF => k_asm); (case zhX => k_asm); (case zhN => k_asm); (case zhH => walk_at "mine HD"); intro _) | (with_reducible refine' getd_kind ?zhF ?zhX ?zhN ?zhH ?_; (case zhF => k_asm); (case zhX => k_asm); (case zhN => k_asm); (case zhH => walk_at "mine HD"); intro _))
  k_with "setAttr ref" => k_dflt (first | (with_reducible refine' set_state ?zhF ?zhX ?zhN ?zhH ?_; walk_at "mine fxnh"; intro _ _ _ _ _ _) | (with_reducible refine' set_waiting ?zhF ?zhX ?zhN ?zhH ?_; walk_at "mine fxnh"; intro _ _ _ _ _ _) | (with_reducible refine' set_done ?zhF ?zhX ?zhN ?zhH ?_; walk_at "mine fxnh"; intro _ _ _ _ _ _) | (with_reducible refine' set_foreign ?zhF ?zhX ?zhN ?zhH ?_; walk_at "mine fxnh"; intro _ _ _ _ _ _) | (with_reducible refine' set_closed ?zhF ?zhX ?zhN ?zhH ?_; walk_at "mine fxnh"; intro _ _ _ _ _ _) | (with_reducible refine' set_return ?zhF ?zhX ?zhN ?zhH ?_; walk_at "mine fxnh"; intro _ _ _ _ _ _) | (with_reducible refine' set_draft_none ?zhF ?zhX ?zhN ?zhH ?_; walk_at "mine fxnh"; intro _ _ _ _ _ _) | (with_reducible refine' set_draft ?zhF ?zhX ?zhN ?zhH ?zhhy ?_; walk_at "mine fxnh"; (case zhhy => with_reducible assumption); intro _ _ _ _ _ _) | (with_reducible refine' setd_text ?zhF ?zhX ?zhN ?zhH ?zhhd ?zhhy ?_; walk_at "mine fxnh"; (case zhhd => first | with_reducible assumption | rfl); (case zhhy => first | exact rfl | exact S_app _ _ | (rw [S_fffd]; exact S_app _ _)); intro _ _ _ _ _) | ((with_reducible show wpAny _ _ (setAttr (Value.ref (TA.t _)) (PySem.Str.ofString "at") _) _ _ _); refine' set_at ?zhF ?zhX ?zhN ?zhH (Int.natCast_add _ _).symm ?_; walk_at "mine fxnh"; intro _ _ _ _ _ _) | ((with_reducible show wpAny _ _ (setAttr (Value.ref (TA.t _)) (PySem.Str.ofString "at") _) _ _ _); refine' set_at ?zhF ?zhX ?zhN ?zhH (cast_pred ?zhp) ?_; walk_at "mine fxnh"; (case zhp => first | with_reducible assumption | omega); intro _ _ _ _ _ _) | ((with_reducible show wpAny _ _ (setAttr (Value.ref (TA.t _)) (PySem.Str.ofString "at") _) _ _ _); refine' set_at ?zhF ?zhX ?zhN ?zhH (Eq.refl (Nat.cast _)) ?_; walk_at "mine fxnh"; intro _ _ _ _ _ _))
  k_with "getMethod ref" => k_dflt (first | ((with_reducible show wpAny _ _ (getMethod (Value.ref (TA.t _)) _ _) _ _ _); refine' tok_method ?zhF ?zhX ?zhN ?zhH ?zhg ?zhf ?zht ?zhl ?_; walk_at "mine fxnh"; (case zhg => k_dflt k_is); (case zhf => k_dflt k_is); (case zht => k_dflt k_is); (case zhl => intro _; rfl)) | ((with_reducible show wpAny _ _ (getMethod (Value.ref (TA.st _)) _ _) _ _ _); refine' str_method ?zhF ?zhX ?zhN ?zhH ?zhg ?zhf ?zht ?zhl ?_; walk_at "mine fxnh"; (case zhg => k_dflt k_is); (case zhf => k_dflt k_is); (case zht => k_dflt k_is); (case zhl => intro _; rfl)) | (refine' dr_method ?zhF ?zhX ?zhN ?zhH ?zhg ?zhf ?zht ?zhl ?_; (case zhF => k_asm); (case zhX => k_asm); (case zhN => k_asm); (case zhH => walk_at "mine HD"); (case zhg => k_dflt k_is); (case zhf => k_dflt k_is); (case zht => k_dflt k_is); (case zhl => intro _ _ _; rfl)) | ((with_reducible show wpAny _ _ (getMethod (Value.ref (TA.er _)) _ _) _ _ _); refine' app_method_er ?zhN ?zhH ?_; (case zhN => k_asm); (case zhH => walk_at "mine H")) | ((with_reducible show wpAny _ _ (getMethod (Value.ref (TA.ou _)) _ _) _ _ _); refine' app_method_ou ?zhN ?zhH ?_; (case zhN => k_asm); (case zhH => walk_at "mine H")) | ((with_reducible show wpAny _ _ (getMethod (Value.ref (TA.se _)) _ _) _ _ _); refine' app_method_se ?zhN ?zhH ?_; (case zhN => k_asm); (case zhH => walk_at "mine H")) | ((with_reducible show wpAny _ _ (getMethod (Value.ref (TA.sg _)) _ _) _ _ _); refine' app_method_sg ?zhN ?zhH ?_; (case zhN => k_asm); (case zhH => walk_at "mine H")))
  k_with "call builtin:list.append" => k_dflt (first | ((with_reducible show wpAny _ _ (call _ [Value.ref (TA.er _), _]) _ _ _); refine' app_er ?zhF ?zhN ?zhH ?zhr ?zhz ?_; (case zhF => k_asm); (case zhN => k_asm); (case zhH => walk_at "mine H"); (case zhr => walk_at "mine row"); (case zhz => walk_at "mine size"); intro _ _ _ _ _ _) | ((with_reducible show wpAny _ _ (call _ [Value.ref (TA.ou _), _]) _ _ _); refine' app_ou ?zhF ?zhN ?zhH ?zhr ?zhz ?_; (case zhF => k_asm); (case zhN => k_asm); (case zhH => walk_at "mine H"); (case zhr => walk_at "mine row"); (case zhz => walk_at "mine size"); intro _ _ _ _ _ _) | ((with_reducible show wpAny _ _ (call _ [Value.ref (TA.se _), _]) _ _ _); refine' app_se ?zhF ?zhN ?zhH ?zhr ?zhz ?_; (case zhF => k_asm); (case zhN => k_asm); (case zhH => walk_at "mine H"); (case zhr => walk_at "mine row"); (case zhz => walk_at "mine size"); intro _ _ _ _ _ _) | ((with_reducible show wpAny _ _ (call _ [Value.ref (TA.sg _), _]) _ _ _); refine' app_sg ?zhF ?zhN ?zhH ?zhhx ?zhz ?_; (case zhF => k_asm); (case zhN => k_asm); (case zhH => walk_at "mine H"); (case zhhx => first | exact S_nl | exact rfl); (case zhz => walk_at "mine size"); intro _ _ _ _ _ _))
  k_with "mine size" => first | with_reducible assumption | ((try dsimp only at *); omega) | ((try dsimp only at *); simp only [List.length_append, List.length_cons, List.length_nil, List.length_take, List.length_drop, List.length_map] at *; omega)
  k_with "call builtin:len" => k_dflt ((with_reducible refine' len_S ?zhz ?_); (case zhz => walk_at "mine size"))
  k_with "call builtin:ord" => k_dflt (with_reducible refine' ord_S ?_)
  k_with "call builtin:chr" => k_dflt (refine' chr_S (Int.natCast_add _ _).symm ?zhz ?_; (case zhz => omega))
  k_with "call builtin:len" => k_dflt (with_reducible refine' len_sg ?zhN ?zhH ?zhz ?_; (case zhN => k_asm); (case zhH => walk_at "mine H"); (case zhz => walk_at "mine size"))
  k_with "mine slen" => (simp only [S_fffd, S_len, S_nil, List.length_append, List.length_cons, List.length_nil, sizeLine]; omega)
  k_with "binaryOp Add str str" => k_dflt (refine' PyProof.Rows.add_str ?_ ?zhz9; (case zhz9 => walk_at "mine slen"); intro _ _)
  k_with "mine news" => first | k_asm | exact News.ofCons (by assumption)
  k_with "mine for" => ((rename Fr _ _ _ _ => lF'); (with_unfolding_all refine' For_invVF lF' ?zhk1 ?zhk2 ?_; (case zhk1 => exact rfl); (case zhk2 => exact rfl)))
  k_with "mine name" => k_dflt ((refine' nameX_L ?zhF ?zhv ?_ ?zha ?zhb ?zhc); (case zhF => k_asm); (case zha => rfl); (case zhb => rfl); (case zhv => rfl); (case zhc => decide))
  k_with "mine locs" => ((repeat' (refine List.forall_mem_cons.mpr ⟨rfl, ?_⟩)); exact fun _ h => nomatch h)
  k_with "subscriptTail" => k_dflt ((with_reducible show wpAny _ _ (subscriptTail _ _ (Value.ref (TA.sg _)) (Value.int _ _)) _ _ _); refine' item_sg ?zhN ?zhH ?zhe ?zhhi ?zhz ?_; (case zhN => k_asm); (case zhH => walk_at "mine H"); (case zhe => first | exact rfl | exact (Int.natCast_add _ _).symm); (case zhhi => (try dsimp only at *); omega); (case zhz => walk_at "mine size"); intro c9 u9 hc9)
  k_with "subscriptTail" => k_dflt ((with_reducible show wpAny _ _ (subscriptTail _ _ (Value.str _ _) (Value.int _ _)) _ _ _); refine' item_S ?zhhi ?zhz ?_; (case zhhi => (try dsimp only at *); omega); (case zhz => walk_at "mine size"); intro c9 u9 hc9)
  k_with "subscriptTail Name Name str int" => k_dflt ((with_reducible show wpAny _ _ (subscriptTail _ _ (Value.str _ _) (Value.int _ _)) _ _ _); refine' item_S ?zhhi ?zhz ?_; (case zhhi => (try dsimp only at *); omega); (case zhz => walk_at "mine size"); intro c9 u9 hc9)
  trivial

variable {prog : Program} {w : World} {mean : ExcName → Option Value} {mg mb : Str → Option Value} {T : TA} {n0 : Led} {d : D} {dv : Value} {nx : Led}

/-- as `Claim`, of a def that reads the script -/
noncomputable def ClaimS (prog : Program) (w : World) (mean : ExcName → Option Value) (mg mb : Str → Option Value) (d : Nat) (f : Addr) (news : Led) (sc : Addr) (vs : List Value) (args : List Value) (R : Value → Led → Prop) : Prop :=
  ∀ (dp un : Nat) (gd : Option (List Code)) (cn : Str) (cs : Scope) (a : Addr) (ccd : Value) (cl : List (Str × Addr)) (outer : List Env) (A₀ : Around) (base h₀ : Heap) (L : Addr) (m : Str → Option Value) (s : Shared) (Q E : Value → Shared → Prop),
    Below A₀ base outer h₀ → Fr h₀ L s.heap m → (Mine.hd.heap_1 w.params).In h₀ → News h₀ L s.heap news → Top Mine.vw (looseW Mine.vw []) mean mg mb h₀ → cs.kind = .function → base.IsList sc vs.toArray →
    dp + d < recursionLimit → un + 16 * d < cLine →
    (∀ v news' h' tk, R v news' → Fr h₀ L h' m → News h₀ L h' news' → Q v { s with heap := h', toks := tk }) →
    wpAny (model prog w) (ktrTop dp un gd cn cs L a ccd cl outer) (call (.ref f) args) Q E s
theorem ClaimS.use {A₀ : Around} {E : Value → Shared → Prop} {s : Shared} {h₀ : Heap} {L : Addr} {m : Str → Option Value} {sc : Addr} {vs : List Value} {k : Nat} {f : Addr} {args : List Value} {R : Value → Led → Prop} {dp un : Nat} {gd : Option (List Code)} {cn : Str} {cs : Scope} {a : Addr} {ccd : Value} {cl : List (Str × Addr)} {outer : List Env} {base : Heap} {Q : Value → Shared → Prop}
    (C : ClaimS prog w mean mg mb k f nx sc vs args R) (B : Below A₀ base outer h₀) (F : Fr h₀ L s.heap m) (X : (Mine.hd.heap_1 w.params).In h₀) (N : News h₀ L s.heap nx) (Tp : Top Mine.vw (looseW Mine.vw []) mean mg mb h₀) (hk : cs.kind = .function) (hl : base.IsList sc vs.toArray)
    (hd : dp + k < recursionLimit) (hu : un + 16 * k < cLine) (h : ∀ v nx' h' tk, R v nx' → Fr h₀ L h' m → News h₀ L h' nx' → Q v { s with heap := h', toks := tk }) :
    wpAny (model prog w) (ktrTop dp un gd cn cs L a ccd cl outer) (call (.ref f) args) Q E s := C _ _ _ _ _ _ _ _ _ _ _ _ _ _ _ _ _ B F X N Tp hk hl hd hu h

theorem digit_ok {sc : Addr} {vs : List Value} {ns : List Int} (hi : IntsAre vs ns) (hz : ns.length ≤ 63) (p : Int) (u : Tok) (h0 : 0 ≤ p) (hp : p < 12) : ClaimS prog w mean mg mb 2 447 nx sc vs [.ref sc, .int p u] (fun v nx' => nx' = nx ∧ ∃ i u', v = .int i u') := by
  unfold ClaimS
  intro dp un gd cn cs a ccd cl outer A₀ base h₀ L m s Q E B F X N Tp hk hl hd hu hret
  refine wpAny_call ?_
  k_dflt cell_enter
  walk_at "mine steps"
  all_goals exact hret _ nx _ _ ⟨rfl, _, _, rfl⟩ (by k_asm) (by walk_at "mine news")


noncomputable def okS (n : Nat) (x : Str) : Bool := decide (x.length ≤ n) && x.cps.toList.all (fun c => SG.contains c)
theorem okS_is {n : Nat} {x : Str} (h : okS n x = true) : ∃ l, x = S l ∧ l.length ≤ n ∧ InSG l := by
  unfold okS at h
  rw [Bool.and_eq_true, decide_eq_true_eq, List.all_eq_true] at h
  refine ⟨x.cps.toList, S_of x, ?_, fun c hc => by simpa using h.2 c hc⟩
  have := h.1
  rwa [S_of x, S_len] at this
section
variable {A : Around} {E : Value → Shared → Prop} {s : Shared} {h₀ : Heap} {L : Addr} {m : Str → Option Value} {value slice : PySem.Expr} {Q : Value → Shared → Prop}
theorem item_menu {a : Addr} {vs : List Value} {n z : Nat} {k : Int} {u : Tok} (N : News h₀ L s.heap nx) (m : (a, listOf vs.toArray n) ∈ nx)
    (hP : ∀ v ∈ vs, ∃ x t, v = .str x t ∧ okS z x = true) (h0 : 0 ≤ k) (h1 : k < vs.length) (hz : vs.length ≤ 1000) (h : ∀ l t, l.length ≤ z → InSG l → Q (.str (S l) t) s)
    (hs : subscripted slice false (.ref a) (.int k u) = operate [.ref a, .int k u] (getItem (.ref a) (.int k u)) := by with_unfolding_all rfl) :
    wpAny (model prog w) A (subscriptTail value slice (.ref a) (.int k u)) Q E s := by
  have hl : s.heap.IsList a vs.toArray := ⟨_, (N _ m).1, rfl, _, rfl⟩
  have hk : k.toNat < vs.length := by omega
  obtain ⟨x, t, e, hx⟩ := hP _ (List.getElem_mem hk)
  obtain ⟨l, rfl, h2, h3⟩ := okS_is hx
  exact tail_any hl.typeIs slot_list_getitem.lookup (wpAny_getItem_list hl h0 (by omega) (by simp [hk, e]) (h l t h2 h3)) hs
theorem upper1 {c : Nat} {t : Tok} (hc : c ∈ SG) (h : ∀ d u k, d ∈ SG → Q (.str (S [d]) u) { s with toks := k }) : wpAny (model prog w) A (call (.builtin "str.upper") [.str (S [c]) t]) Q E s := by
  obtain ⟨d, e, hd⟩ := upper_S1 hc
  refine SCL.upper (by rw [S_len]; exact Nat.le_of_ble_eq_true rfl) fun _ => ?_
  rw [e]; exact h d _ _ hd
theorem lowerS {l : List Nat} {t : Tok} (hl : InSG l) (hz : l.length ≤ 1000000) (h : ∀ u k, Q (.str (S (l.map lowc)) u) { s with toks := k }) : wpAny (model prog w) A (call (.builtin "str.lower") [.str (S l) t]) Q E s := by
  refine SCL.lower (by rw [S_len]; omega) fun _ => ?_
  rw [lower_S hl]; exact h _ _
theorem cut_to {l : List Nat} {y : Str} {t : Tok} {j : Int} {uj : Tok} (hy : y = S l) (hF : Fr h₀ L s.heap m) (hN : News h₀ L s.heap nx) (h0 : 0 ≤ j) (hz : l.length ≤ 1000000)
    (h : ∀ h' t' k, Fr h₀ L h' m → News h₀ L h' nx → Q (.str (S (l.take j.toNat)) t') { s with heap := h', toks := k })
    (hs : subscripted slice false (.str y t) (.ref s.heap.objs.size) = operate [.ref s.heap.objs.size, .str y t] (getItem (.str y t) (.ref s.heap.objs.size)) := by with_unfolding_all rfl)
    (ht : ∀ r, letTemporaryGo value (.str y t) r = pure () := by intro _; with_unfolding_all rfl) :
    wpAny (model prog w) A (subscriptTail value slice (.str y t) (.ref s.heap.objs.size)) Q E { s with heap := s.heap.push { cls := .type "slice", data := .fields #[.none, .int j uj, .none] } } := by
  subst hy
  refine slice_strN_ns (hsz := by rw [S_len, sizeLine_eq]; omega) hF hN (fun h' t' k a b => ?_) hs ht
  have e : Txt.slice (S l) none (some j) = S (l.take j.toNat) := by
    rw [← slice_to]; congr 2; omega
  rw [e]; exact h h' t' k a b
theorem cut_from {l : List Nat} {y : Str} {t : Tok} {j : Int} {uj : Tok} (hy : y = S l) (hF : Fr h₀ L s.heap m) (hN : News h₀ L s.heap nx) (h0 : 0 ≤ j) (hz : l.length ≤ 1000000)
    (h : ∀ h' t' k, Fr h₀ L h' m → News h₀ L h' nx → Q (.str (S (l.drop j.toNat)) t') { s with heap := h', toks := k })
    (hs : subscripted slice false (.str y t) (.ref s.heap.objs.size) = operate [.ref s.heap.objs.size, .str y t] (getItem (.str y t) (.ref s.heap.objs.size)) := by with_unfolding_all rfl)
    (ht : ∀ r, letTemporaryGo value (.str y t) r = pure () := by intro _; with_unfolding_all rfl) :
    wpAny (model prog w) A (subscriptTail value slice (.str y t) (.ref s.heap.objs.size)) Q E { s with heap := s.heap.push { cls := .type "slice", data := .fields #[.int j uj, .none, .none] } } := by
  subst hy
  refine slice_strN_sn (hsz := by rw [S_len, sizeLine_eq]; omega) hF hN (fun h' t' k a b => ?_) hs ht
  have e : Txt.slice (S l) (some j) none = S (l.drop j.toNat) := by
    rw [← slice_from]; congr 2; omega
  rw [e]; exact h h' t' k a b
theorem toNat_sub9 {i j : Int} (h0 : 0 ≤ i) (h1 : i ≤ j) : (j - i).toNat = j.toNat - i.toNat := by
  obtain ⟨a, rfl⟩ := Int.eq_ofNat_of_zero_le h0
  obtain ⟨b, rfl⟩ := Int.eq_ofNat_of_zero_le (Int.le_trans h0 h1)
  exact Int.toNat_sub b a
theorem cut_mid {l : List Nat} {y : Str} {t : Tok} {i j : Int} {ui uj : Tok} (hy : y = S l) (hF : Fr h₀ L s.heap m) (hN : News h₀ L s.heap nx) (h0 : 0 ≤ i) (h1 : i ≤ j) (h2 : j ≤ l.length) (hz : l.length ≤ 1000000)
    (h : ∀ h' t' k, Fr h₀ L h' m → News h₀ L h' nx → Q (.str (S ((l.drop i.toNat).take (j - i).toNat)) t') { s with heap := h', toks := k })
    (hs : subscripted slice false (.str y t) (.ref s.heap.objs.size) = operate [.ref s.heap.objs.size, .str y t] (getItem (.str y t) (.ref s.heap.objs.size)) := by with_unfolding_all rfl)
    (ht : ∀ r, letTemporaryGo value (.str y t) r = pure () := by intro _; with_unfolding_all rfl) :
    wpAny (model prog w) A (subscriptTail value slice (.str y t) (.ref s.heap.objs.size)) Q E { s with heap := s.heap.push { cls := .type "slice", data := .fields #[.int i ui, .int j uj, .none] } } := by
  subst hy
  refine slice_strN_ss (hsz := by rw [S_len, sizeLine_eq]; omega) hF hN (fun h' t' k a b => ?_) hs ht
  have e : Txt.slice (S l) (some i) (some j) = S ((l.drop i.toNat).take (j - i).toNat) := by
    rw [toNat_sub9 h0 h1, ← slice_mid l i.toNat j.toNat (by omega) (by omega)]; congr 2 <;> omega
  rw [e]; exact h h' t' k a b
end

section
variable {A : Around} {E : Value → Shared → Prop} {s : Shared} {env : Env} {h₀ : Heap} {x : Str} {body : List Stmt} {Q : Flow → Shared → Prop}
/-- `range_loop`, its invariant over a datum that is found later -/
theorem range_loopX {α : Type} (c : α) {r : Addr} {b : Int} {n : Nat} {t u v : Tok} {m₀ : Str → Option Value} (J : α → Nat → (Str → Option Value) → Led → Prop) (hr : IsRange s.heap r 0 b 1 t u v) (hb : b = (n : Int)) (hn : n ≤ 1000000)
    (hh : A.handled = none) (F : Fr h₀ env.locals s.heap m₀) (N : News h₀ env.locals s.heap nx) (hj : J c 0 m₀ nx)
    (turn : ∀ I i m₁ nx₁ h tk oI t, i < n → IterObj oI → (∀ p ∈ nx₁, p.1 ≠ I) → J c i m₁ nx₁ → Fr h₀ env.locals h (fun y => if y = x then some (.int (i : Int) t) else m₁ y) → News h₀ env.locals h ((I, oI) :: nx₁) →
      wpAny (model prog w) A (execs body env) (TurnPost h₀ env.locals I oI [] (J c (i + 1)) { s with heap := h, toks := tk } Q) E { s with heap := h, toks := tk })
    (done : ∀ m₁ nx₁ h tk, J c n m₁ nx₁ → Fr h₀ env.locals h m₁ → News h₀ env.locals h nx₁ → Q .next { s with heap := h, toks := tk }) :
    wpAny (model prog w) A (pyIter (.ref r)) (fun it s₂ => LoopAtV prog w A h₀ env x body Q E it s₂) E s := range_loop (J c) hb hn hh hr F N hj turn done
theorem list_loopX {α : Type} (c : α) {a : Addr} {vs : List Value} {k : Nat} {m₀ : Str → Option Value} (J : α → Nat → (Str → Option Value) → Led → Prop)
    (hh : A.handled = none) (ha : (a, listOf vs.toArray k) ∈ nx) (F : Fr h₀ env.locals s.heap m₀) (N : News h₀ env.locals s.heap nx) (hj : J c 0 m₀ nx)
    (turn : ∀ I i v m₁ nx₁ h tk oI, vs[i]? = some v → IterObj oI → (∀ p ∈ nx₁, p.1 ≠ I) → (a, listOf vs.toArray k) ∈ nx₁ → J c i m₁ nx₁ → Fr h₀ env.locals h (fun y => if y = x then some v else m₁ y) → News h₀ env.locals h ((I, oI) :: nx₁) →
      wpAny (model prog w) A (execs body env) (TurnPost h₀ env.locals I oI [(a, listOf vs.toArray k)] (J c (i + 1)) { s with heap := h, toks := tk } Q) E { s with heap := h, toks := tk })
    (done : ∀ m₁ nx₁ h tk, J c vs.length m₁ nx₁ → Fr h₀ env.locals h m₁ → News h₀ env.locals h nx₁ → Q .next { s with heap := h, toks := tk }) :
    wpAny (model prog w) A (pyIter (.ref a)) (fun it s₂ => LoopAtV prog w A h₀ env x body Q E it s₂) E s := list_loop (J c) hh ha F N hj turn done
end

end C1

section C2
open PySem PySem.W PyProof.Rows PySem.Calls
set_option maxRecDepth 100000
set_option maxHeartbeats 4000000
theorem lines_C2_1 : True := by
  w_top off
  k_with_none
  k_with "execs cons" => k_fold
  k_with "exec If" => k_fold
  k_with "exec Assign" => k_fold
  k_with "exec Expr" => k_fold
  k_with "exec Return" => k_fold
  k_with "callWith" => k_fold
  k_with "call ref" => k_fold
  k_with "execs cons" => k_dflt (refine' gentok9 ?_; intro tk9)
  k_with "execs nil" => k_dflt (refine' gentok9 ?_; intro tk9)
  k_with "mine steps" => repeat' ((fail_if_success (with_reducible show wpAny _ _ (pyIter _) _ _ _)); (fail_if_success (with_reducible show wpAny _ _ (exec (Stmt.For _ (Expr.Name _ _) _ _ _) _) _ _ _)); first | (k_unfold; (try dsimp only)) | walk1 | (dsimp only; walk1) | (leave1; (try dsimp only)))
  k_with "mine H" => (first | (with_reducible assumption) | (with_reducible refine' TokX.cons1 ?zhhh; (case zhhh => with_reducible assumption)) | (with_reducible refine' TokX.cons2 ?zhhh; (case zhhh => with_reducible assumption)) | (with_reducible refine' TokX.cons3 ?zhhh; (case zhhh => with_reducible assumption)))
  k_with "mine row" => (first | (with_reducible assumption) | (apply RowIs.of; k_mem; (repeat' constructor); done))
  k_with "mine HD" => (first | (with_reducible assumption) | (exact TokX.dr (by with_reducible assumption) rfl) | (exact TokX.dr (by with_reducible assumption) (by with_reducible assumption)) | (exact DraftAt.keepA (by with_reducible assumption) (by with_reducible assumption)) | (exact TokX.dr (by with_reducible assumption) (by assumption)))
  k_with "mine fxnh" => ((case zhF => k_asm); (case zhX => k_asm); (case zhN => k_asm); (case zhH => walk_at "mine H"))
  k_with "getAttr ref" => k_dflt (first | (with_reducible refine' get_at ?zhF ?zhX ?zhN ?zhH ?_; walk_at "mine fxnh"; intro _) | (with_reducible refine' get_stream ?zhF ?zhX ?zhN ?zhH ?_; walk_at "mine fxnh") | (with_reducible refine' get_signs ?zhF ?zhX ?zhN ?zhH ?_; walk_at "mine fxnh") | (with_reducible refine' get_out ?zhF ?zhX ?zhN ?zhH ?_; walk_at "mine fxnh") | (with_reducible refine' get_errors ?zhF ?zhX ?zhN ?zhH ?_; walk_at "mine fxnh") | (with_reducible refine' get_draft ?zhF ?zhX ?zhN ?zhH ?_; walk_at "mine fxnh") | (with_reducible refine' get_state ?zhF ?zhX ?zhN ?zhH ?_; walk_at "mine fxnh"; intro _) | (with_reducible refine' get_states ?zhF ?zhX ?zhN ?zhH ?_; walk_at "mine fxnh") | (with_reducible refine' get_waiting ?zhF ?zhX ?zhN ?zhH ?_; walk_at "mine fxnh") | (with_reducible refine' get_done ?zhF ?zhX ?zhN ?zhH ?_; walk_at "mine fxnh") | (with_reducible refine' get_foreign ?zhF ?zhX ?zhN ?zhH ?_; walk_at "mine fxnh") | (with_reducible refine' get_last ?zhF ?zhX ?zhN ?zhH ?_; walk_at "mine fxnh"; intro _) | (with_reducible refine' get_closed ?zhF ?zhX ?zhN ?zhH ?_; walk_at "mine fxnh") | (with_reducible refine' get_return ?zhF ?zhX ?zhN ?zhH ?_; walk_at "mine fxnh") | (with_reducible refine' get_serr ?zhF ?zhX ?zhN ?zhH ?_; walk_at "mine fxnh") | (with_reducible refine' getd_text ?zhF ?zhX ?zhN ?zhH ?_; (case zhF => k_asm); (case zhX => k_asm); (case zhN => k_asm); (case zhH => walk_at "mine HD"); intro _) | (with_reducible refine' getd_kind ?zhF ?zhX ?zhN ?zhH ?_; (case zhF => k_asm); (case zhX => k_asm); (case zhN => k_asm); (case zhH => walk_at "mine HD"); intro _))
  k_with "setAttr ref" => k_dflt (first | (with_reducible refine' set_state ?zhF ?zhX ?zhN ?zhH ?_; walk_at "mine fxnh"; intro _ _ _ _ _ _) | (with_reducible refine' set_waiting ?zhF ?zhX ?zhN ?zhH ?_; walk_at "mine fxnh"; intro _ _ _ _ _ _) | (with_reducible refine' set_done ?zhF ?zhX ?zhN ?zhH ?_; walk_at "mine fxnh"; intro _ _ _ _ _ _) | (with_reducible refine' set_foreign ?zhF ?zhX ?zhN ?zhH ?_; walk_at "mine fxnh"; intro _ _ _ _ _ _) | (with_reducible refine' set_closed ?zhF ?zhX ?zhN ?zhH ?_; walk_at "mine fxnh"; intro _ _ _ _ _ _) | (with_reducible refine' set_return ?zhF ?zhX ?zhN ?zhH ?_; walk_at "mine fxnh"; intro _ _ _ _ _ _) | (with_reducible refine' set_draft_none ?zhF ?zhX ?zhN ?zhH ?_; walk_at "mine fxnh"; intro _ _ _ _ _ _) | (with_reducible refine' set_draft ?zhF ?zhX ?zhN ?zhH ?zhhy ?_; walk_at "mine fxnh"; (case zhhy => with_reducible assumption); intro _ _ _ _ _ _) | (with_reducible refine' setd_text ?zhF ?zhX ?zhN ?zhH ?zhhd ?zhhy ?_; walk_at "mine fxnh"; (case zhhd => first | with_reducible assumption | rfl); (case zhhy => first | exact rfl | exact S_app _ _ | (rw [S_fffd]; exact S_app _ _)); intro _ _ _ _ _) | ((with_reducible show wpAny _ _ (setAttr (Value.ref (TA.t _)) (PySem.Str.ofString "at") _) _ _ _); refine' set_at ?zhF ?zhX ?zhN ?zhH (Int.natCast_add _ _).symm ?_; walk_at "mine fxnh"; intro _ _ _ _ _ _) | ((with_reducible show wpAny _ _ (setAttr (Value.ref (TA.t _)) (PySem.Str.ofString "at") _) _ _ _); refine' set_at ?zhF ?zhX ?zhN ?zhH (cast_pred ?zhp) ?_; walk_at "mine fxnh"; (case zhp => first | with_reducible assumption | omega); intro _ _ _ _ _ _) | ((with_reducible show wpAny _ _ (setAttr (Value.ref (TA.t _)) (PySem.Str.ofString "at") _) _ _ _); refine' set_at ?zhF ?zhX ?zhN ?zhH (Eq.refl (Nat.cast _)) ?_; walk_at "mine fxnh"; intro _ _ _ _ _ _))
  k_with "getMethod ref" => k_dflt (first | ((with_reducible show wpAny _ _ (getMethod (Value.ref (TA.t _)) _ _) _ _ _); refine' tok_method ?zhF ?zhX ?zhN ?zhH ?zhg ?zhf ?zht ?zhl ?_; walk_at "mine fxnh"; (case zhg => k_dflt k_is); (case zhf => k_dflt k_is); (case zht => k_dflt k_is); (case zhl => intro _; rfl)) | ((with_reducible show wpAny _ _ (getMethod (Value.ref (TA.st _)) _ _) _ _ _); refine' str_method ?zhF ?zhX ?zhN ?zhH ?zhg ?zhf ?zht ?zhl ?_; walk_at "mine fxnh"; (case zhg => k_dflt k_is); (case zhf => k_dflt k_is); (case zht => k_dflt k_is); (case zhl => intro _; rfl)) | (refine' dr_method ?zhF ?zhX ?zhN ?zhH ?zhg ?zhf ?zht ?zhl ?_; (case zhF => k_asm); (case zhX => k_asm); (case zhN => k_asm); (case zhH => walk_at "mine HD"); (case zhg => k_dflt k_is); (case zhf => k_dflt k_is); (case zht => k_dflt k_is); (case zhl => intro _ _ _; rfl)) | ((with_reducible show wpAny _ _ (getMethod (Value.ref (TA.er _)) _ _) _ _ _); refine' app_method_er ?zhN ?zhH ?_; (case zhN => k_asm); (case zhH => walk_at "mine H")) | ((with_reducible show wpAny _ _ (getMethod (Value.ref (TA.ou _)) _ _) _ _ _); refine' app_method_ou ?zhN ?zhH ?_; (case zhN => k_asm); (case zhH => walk_at "mine H")) | ((with_reducible show wpAny _ _ (getMethod (Value.ref (TA.se _)) _ _) _ _ _); refine' app_method_se ?zhN ?zhH ?_; (case zhN => k_asm); (case zhH => walk_at "mine H")) | ((with_reducible show wpAny _ _ (getMethod (Value.ref (TA.sg _)) _ _) _ _ _); refine' app_method_sg ?zhN ?zhH ?_; (case zhN => k_asm); (case zhH => walk_at "mine H")))
  k_with "call builtin:list.append" => k_dflt (first | ((with_reducible show wpAny _ _ (call _ [Value.ref (TA.er _), _]) _ _ _); refine' app_er ?zhF ?zhN ?zhH ?zhr ?zhz ?_; (case zhF => k_asm); (case zhN => k_asm); (case zhH => walk_at "mine H"); (case zhr => walk_at "mine row"); (case zhz => walk_at "mine size"); intro _ _ _ _ _ _) | ((with_reducible show wpAny _ _ (call _ [Value.ref (TA.ou _), _]) _ _ _); refine' app_ou ?zhF ?zhN ?zhH ?zhr ?zhz ?_; (case zhF => k_asm); (case zhN => k_asm); (case zhH => walk_at "mine H"); (case zhr => walk_at "mine row"); (case zhz => walk_at "mine size"); intro _ _ _ _ _ _) | ((with_reducible show wpAny _ _ (call _ [Value.ref (TA.se _), _]) _ _ _); refine' app_se ?zhF ?zhN ?zhH ?zhr ?zhz ?_; (case zhF => k_asm); (case zhN => k_asm); (case zhH => walk_at "mine H"); (case zhr => walk_at "mine row"); (case zhz => walk_at "mine size"); intro _ _ _ _ _ _) | ((with_reducible show wpAny _ _ (call _ [Value.ref (TA.sg _), _]) _ _ _); refine' app_sg ?zhF ?zhN ?zhH ?zhhx ?zhz ?_; (case zhF => k_asm); (case zhN => k_asm); (case zhH => walk_at "mine H"); (case zhhx => first | exact S_nl | exact rfl); (case zhz => walk_at "mine size"); intro _ _ _ _ _ _))
  k_with "mine size" => first | with_reducible assumption | ((try dsimp only at *); omega) | ((try dsimp only at *); simp only [List.length_append, List.length_cons, List.length_nil, List.length_take, List.length_drop, List.length_map] at *; omega)
  k_with "call builtin:len" => k_dflt ((with_reducible refine' len_S ?zhz ?_); (case zhz => walk_at "mine size"))
  k_with "call builtin:ord" => k_dflt (with_reducible refine' ord_S ?_)
  k_with "call builtin:chr" => k_dflt (refine' chr_S (Int.natCast_add _ _).symm ?zhz ?_; (case zhz => omega))
  k_with "call builtin:len" => k_dflt (with_reducible refine' len_sg ?zhN ?zhH ?zhz ?_; (case zhN => k_asm); (case zhH => walk_at "mine H"); (case zhz => walk_at "mine size"))
  k_with "mine slen" => (simp only [S_fffd, S_len, S_nil, List.length_append, List.length_cons, List.length_nil, sizeLine]; omega)
  k_with "binaryOp Add str str" => k_dflt (refine' PyProof.Rows.add_str ?_ ?zhz9; (case zhz9 => walk_at "mine slen"); intro _ _)
  k_with "mine news" => first | k_asm | exact News.ofCons (by assumption)
  k_with "mine for" => ((rename Fr _ _ _ _ => lF'); (with_unfolding_all refine' For_invVF lF' ?zhk1 ?zhk2 ?_; (case zhk1 => exact rfl); (case zhk2 => exact rfl)))
  k_with "mine name" => k_dflt ((refine' nameX_L ?zhF ?zhv ?_ ?zha ?zhb ?zhc); (case zhF => k_asm); (case zha => rfl); (case zhb => rfl); (case zhv => rfl); (case zhc => decide))
  k_with "mine locs" => ((repeat' (refine List.forall_mem_cons.mpr ⟨rfl, ?_⟩)); exact fun _ h => nomatch h)
  k_with "subscriptTail" => k_dflt ((with_reducible show wpAny _ _ (subscriptTail _ _ (Value.ref (TA.sg _)) (Value.int _ _)) _ _ _); refine' item_sg ?zhN ?zhH ?zhe ?zhhi ?zhz ?_; (case zhN => k_asm); (case zhH => walk_at "mine H"); (case zhe => first | exact rfl | exact (Int.natCast_add _ _).symm); (case zhhi => (try dsimp only at *); omega); (case zhz => walk_at "mine size"); intro c9 u9 hc9)
  k_with "subscriptTail" => k_dflt ((with_reducible show wpAny _ _ (subscriptTail _ _ (Value.str _ _) (Value.int _ _)) _ _ _); refine' item_S ?zhhi ?zhz ?_; (case zhhi => (try dsimp only at *); omega); (case zhz => walk_at "mine size"); intro c9 u9 hc9)
  k_with "subscriptTail Name Name str int" => k_dflt ((with_reducible show wpAny _ _ (subscriptTail _ _ (Value.str _ _) (Value.int _ _)) _ _ _); refine' item_S ?zhhi ?zhz ?_; (case zhhi => (try dsimp only at *); omega); (case zhz => walk_at "mine size"); intro c9 u9 hc9)
  trivial

variable {prog : Program} {w : World} {mean : ExcName → Option Value} {mg mb : Str → Option Value} {T : TA} {n0 : Led} {d : D} {dv : Value} {nx : Led}

theorem lines_C2_2 : True := by
  k_with "call ref" => ((with_reducible show wpAny _ _ (call (Value.ref 447) _) _ _ _); k_dflt (refine' ClaimS.use (digit_ok ?zhhi ?zhz _ _ ?zhh0 ?zhhp) ?zhB ?zhF ?zhX ?zhN ?zhT ?zhkk ?zhhl ?zhd ?zhu ?_; (case zhB => k_asm); (case zhF => k_asm); (case zhX => k_asm); (case zhN => k_asm); (case zhT => k_asm); (case zhkk => rfl); (case zhhl => with_reducible assumption); (case zhhi => assumption); (case zhz => assumption); (case zhh0 => first | decide | omega); (case zhhp => first | decide | omega); (case zhd => ktr_room); (case zhu => ktr_units); rintro _ _ _ _ ⟨hn9, _, _, hv9⟩ _ _; replace hn9 := Eq.symm hn9; subst hn9; subst hv9))
  k_with "subscriptTail" => k_dflt ((with_reducible show wpAny _ _ (subscriptTail _ _ (Value.ref _) (Value.int (Int.fmod _ _) _)) _ _ _); refine' item_menu (z := 7) ?zhN ?zhm ?zhhP ?zhh0 ?zhh1 ?zhz ?_; (case zhN => k_asm); (case zhm => k_mem); (case zhhP => ((repeat (refine List.forall_mem_cons.mpr ⟨⟨_, _, rfl, by decide +kernel⟩, ?_⟩)); exact fun _ h => nomatch h)); (case zhh0 => exact Int.fmod_nonneg_of_pos _ (by decide)); (case zhh1 => exact Int.fmod_lt_of_pos _ (by decide)); (case zhz => exact Nat.le_of_ble_eq_true rfl); intro l9 u9 hz9 hs9)
  k_with "mine lit" => first | exact rfl | exact S_dash | exact S_doc | exact S_cd
  k_with "mine nat" => first | (with_reducible assumption) | decide | omega | (k_fmods; omega)
  k_with "subscriptTail" => k_dflt (first | ((with_reducible show wpAny _ _ (subscriptTail _ (Expr.Slice none (some _) none _) (Value.str _ _) _) _ _ _); refine' cut_to (s := ⟨_, _, _, _, _⟩) ?zhy ?zhF ?zhN ?zhh0 ?zhz ?_; (case zhy => walk_at "mine lit"); (case zhF => k_asm); (case zhN => k_asm); (case zhh0 => walk_at "mine nat"); (case zhz => walk_at "mine size"); intro _ _ _ _ _) | ((with_reducible show wpAny _ _ (subscriptTail _ (Expr.Slice (some _) none none _) (Value.str _ _) _) _ _ _); refine' cut_from (s := ⟨_, _, _, _, _⟩) ?zhy ?zhF ?zhN ?zhh0 ?zhz ?_; (case zhy => walk_at "mine lit"); (case zhF => k_asm); (case zhN => k_asm); (case zhh0 => walk_at "mine nat"); (case zhz => walk_at "mine size"); intro _ _ _ _ _) | ((with_reducible show wpAny _ _ (subscriptTail _ (Expr.Slice (some _) (some _) none _) (Value.str _ _) _) _ _ _); refine' cut_mid (s := ⟨_, _, _, _, _⟩) ?zhy ?zhF ?zhN ?zhh0 ?zhh1 ?zhh2 ?zhz ?_; (case zhy => walk_at "mine lit"); (case zhF => k_asm); (case zhN => k_asm); (case zhh0 => walk_at "mine nat"); (case zhh1 => walk_at "mine nat"); (case zhh2 => walk_at "mine nat"); (case zhz => walk_at "mine size"); intro _ _ _ _ _))
  k_with "mine sg" => first | (with_reducible assumption) | ((refine InSG.get ?_ (by assumption)); assumption) | (apply InSG.one; first | assumption | ((refine InSG.get ?_ (by assumption)); assumption) | ((refine (sg_low _ ?_).2.1); (refine InSG.get ?_ (by assumption)); assumption)) | exact InSG.take (by assumption) _ | exact InSG.drop (by assumption) _
  k_with "call builtin:str.upper" => k_dflt (refine' upper1 ?zhh ?_; (case zhh => walk_at "mine sg"); intro _ _ _ _)
  k_with "call builtin:str.lower" => k_dflt (refine' lowerS ?zhh ?zhz ?_; (case zhh => walk_at "mine sg"); (case zhz => walk_at "mine size"); intro _ _; (try rw [List.map_cons, List.map_nil]))
  k_with "binaryOp Pow int int" => k_dflt (refine' pow_int_small ?zha ?zhb ?zhc ?_; (case zha => walk_at "mine nat"); (case zhb => walk_at "mine nat"); (case zhc => decide))
  k_with "binaryOp FloorDiv int int" => k_dflt ((with_reducible show wpAny _ _ (binaryOp _ _ (Value.int (HPow.hPow _ _) _)) _ _ _); refine' floordiv_int ?zhb ?_; (case zhb => exact Int.ne_of_gt (Int.pow_pos (by decide))))
  k_with "TurnPost" => k_dflt ((with_reducible show TurnPost _ _ _ _ _ _ _ _ (Flow.ret _) _); (with_reducible refine turnPost_ret ?_); (try dsimp only))
  k_with "mine chr" => first | assumption | omega | exact Small.get (by assumption) (by assumption)
  k_with "mine wloop" => (refine' range_loop (n := List.length ?zhw) (fun i m1 nx1 => (∃ f u, m1 "flips" = some (.int f u)) ∧ (∃ u, m1 "word" = some (.str (S ?zhw) u)) ∧ (InSG ?zhw ∧ List.length ?zhw ≤ 7) ∧ nx1 = nx ∧ ∃ o u, m1 "out" = some (.str (S o) u) ∧ o.length = i ∧ InSG o) ?zhhb ?zhhn ?zhhh ?zhhr ?zhF ?zhN ?zhhj ?_ ?_; (case zhhb => exact rfl); (case zhhr => assumption); (case zhhn => walk_at "mine size"); (case zhhh => rfl); (case zhF => k_asm); (case zhN => exact News.ofCons (by k_asm)); (case zhhj => exact ⟨⟨_, _, rfl⟩, ⟨_, rfl⟩, ⟨by walk_at "mine sg", by walk_at "mine size"⟩, rfl, [], _, by rw [← S_nil]; rfl, rfl, InSG.nil⟩))
  trivial

theorem word_ok {sc : Addr} {vs : List Value} {ns : List Int} (hi : IntsAre vs ns) (hz : ns.length ≤ 63) : ClaimS prog w mean mg mb 4 454 nx sc vs [.ref sc] (fun v nx' => nx' = nx ∧ ∃ l u', v = .str (S l) u' ∧ l.length ≤ 7 ∧ InSG l) := by
  unfold ClaimS
  intro dp un gd cn cs a ccd cl outer A₀ base h₀ L m s Q E B F X N Tp hk hl hd hu hret
  refine wpAny_call ?_
  k_dflt cell_enter
  walk_at "mine steps"
  · walk_at "mine wloop"
    · rintro I i m1 nx1 h tk oI t hi9 hit hne ⟨⟨f, u, hf⟩, ⟨u2, hw⟩, ⟨hsw, hlw⟩, rfl, o, u3, ho, hlo, hso⟩ F1 N1
      have F2 := Mine.Fr.turn (ps := [("flips", .int f u), ("word", .str (S _) u2), ("out", .str (S o) u3)]) F1 (List.forall_mem_cons.mpr ⟨hf, List.forall_mem_cons.mpr ⟨hw, List.forall_mem_cons.mpr ⟨ho, fun _ h => nomatch h⟩⟩⟩)
      clear F1
      walk_at "mine steps"
      all_goals exact turnPost_next (by k_asm) (by k_asm) hne (fun _ h => nomatch h) ⟨⟨_, _, rfl⟩, ⟨_, rfl⟩, ⟨hsw, hlw⟩, rfl, o ++ [_], _, congrArg (fun x => some (Value.str x _)) (S_app o [_]), by rw [List.length_append, hlo]; rfl, InSG.app hso (by walk_at "mine sg")⟩
    · rintro m1 nx1 h tk ⟨⟨f, u, hf⟩, ⟨u2, hw⟩, ⟨hsw, hlw⟩, rfl, o, u3, ho, hlo, hso⟩ F1 N1
      have F2 := Mine.Fr.ovl (ps := [("out", .str (S o) u3)]) F1 (List.forall_mem_cons.mpr ⟨ho, fun _ h => nomatch h⟩)
      clear F1
      walk_at "mine steps"
      exact hret _ _ _ _ ⟨rfl, o, _, rfl, by omega, hso⟩ (by k_asm) (by k_asm)
  · walk_at "mine wloop"
    · rintro I i m1 nx1 h tk oI t hi9 hit hne ⟨⟨f, u, hf⟩, ⟨u2, hw⟩, ⟨hsw, hlw⟩, rfl, o, u3, ho, hlo, hso⟩ F1 N1
      have F2 := Mine.Fr.turn (ps := [("flips", .int f u), ("word", .str (S _) u2), ("out", .str (S o) u3)]) F1 (List.forall_mem_cons.mpr ⟨hf, List.forall_mem_cons.mpr ⟨hw, List.forall_mem_cons.mpr ⟨ho, fun _ h => nomatch h⟩⟩⟩)
      clear F1
      walk_at "mine steps"
      all_goals exact turnPost_next (by k_asm) (by k_asm) hne (fun _ h => nomatch h) ⟨⟨_, _, rfl⟩, ⟨_, rfl⟩, ⟨hsw, hlw⟩, rfl, o ++ [_], _, congrArg (fun x => some (Value.str x _)) (S_app o [_]), by rw [List.length_append, hlo]; rfl, InSG.app hso (by walk_at "mine sg")⟩
    · rintro m1 nx1 h tk ⟨⟨f, u, hf⟩, ⟨u2, hw⟩, ⟨hsw, hlw⟩, rfl, o, u3, ho, hlo, hso⟩ F1 N1
      have F2 := Mine.Fr.ovl (ps := [("out", .str (S o) u3)]) F1 (List.forall_mem_cons.mpr ⟨ho, fun _ h => nomatch h⟩)
      clear F1
      walk_at "mine steps"
      exact hret _ _ _ _ ⟨rfl, o, _, rfl, by omega, hso⟩ (by k_asm) (by k_asm)

end C2

section C3
open PySem PySem.W PyProof.Rows PySem.Calls
set_option maxRecDepth 100000
set_option maxHeartbeats 4000000
theorem lines_C3_1 : True := by
  w_top off
  k_with_none
  k_with "execs cons" => k_fold
  k_with "exec If" => k_fold
  k_with "exec Assign" => k_fold
  k_with "exec Expr" => k_fold
  k_with "exec Return" => k_fold
  k_with "callWith" => k_fold
  k_with "call ref" => k_fold
  k_with "eval Call Attribute" => k_fold
  k_with "eval Call" => k_fold
  k_with "mine steps" => repeat' ((fail_if_success (with_reducible show wpAny _ _ (pyIter _) _ _ _)); (fail_if_success (with_reducible show wpAny _ _ (exec (Stmt.For _ (Expr.Name _ _) _ _ _) _) _ _ _)); first | (k_unfold; (try dsimp only)) | walk1 | (dsimp only; walk1) | (leave1; (try dsimp only)))
  k_with "mine H" => (first | (with_reducible assumption) | (with_reducible refine' TokX.cons1 ?zhhh; (case zhhh => with_reducible assumption)) | (with_reducible refine' TokX.cons2 ?zhhh; (case zhhh => with_reducible assumption)) | (with_reducible refine' TokX.cons3 ?zhhh; (case zhhh => with_reducible assumption)))
  k_with "mine row" => (first | (with_reducible assumption) | (apply RowIs.of; k_mem; (repeat' constructor); done))
  k_with "mine HD" => (first | (with_reducible assumption) | (exact TokX.dr (by with_reducible assumption) rfl) | (exact TokX.dr (by with_reducible assumption) (by with_reducible assumption)) | (exact DraftAt.keepA (by with_reducible assumption) (by with_reducible assumption)) | (exact TokX.dr (by with_reducible assumption) (by assumption)))
  k_with "mine fxnh" => ((case zhF => k_asm); (case zhX => k_asm); (case zhN => k_asm); (case zhH => walk_at "mine H"))
  k_with "getAttr ref" => k_dflt (first | (with_reducible refine' get_at ?zhF ?zhX ?zhN ?zhH ?_; walk_at "mine fxnh"; intro _) | (with_reducible refine' get_stream ?zhF ?zhX ?zhN ?zhH ?_; walk_at "mine fxnh") | (with_reducible refine' get_signs ?zhF ?zhX ?zhN ?zhH ?_; walk_at "mine fxnh") | (with_reducible refine' get_out ?zhF ?zhX ?zhN ?zhH ?_; walk_at "mine fxnh") | (with_reducible refine' get_errors ?zhF ?zhX ?zhN ?zhH ?_; walk_at "mine fxnh") | (with_reducible refine' get_draft ?zhF ?zhX ?zhN ?zhH ?_; walk_at "mine fxnh") | (with_reducible refine' get_state ?zhF ?zhX ?zhN ?zhH ?_; walk_at "mine fxnh"; intro _) | (with_reducible refine' get_states ?zhF ?zhX ?zhN ?zhH ?_; walk_at "mine fxnh") | (with_reducible refine' get_waiting ?zhF ?zhX ?zhN ?zhH ?_; walk_at "mine fxnh") | (with_reducible refine' get_done ?zhF ?zhX ?zhN ?zhH ?_; walk_at "mine fxnh") | (with_reducible refine' get_foreign ?zhF ?zhX ?zhN ?zhH ?_; walk_at "mine fxnh") | (with_reducible refine' get_last ?zhF ?zhX ?zhN ?zhH ?_; walk_at "mine fxnh"; intro _) | (with_reducible refine' get_closed ?zhF ?zhX ?zhN ?zhH ?_; walk_at "mine fxnh") | (with_reducible refine' get_return ?zhF ?zhX ?zhN ?zhH ?_; walk_at "mine fxnh") | (with_reducible refine' get_serr ?zhF ?zhX ?zhN ?zhH ?_; walk_at "mine fxnh") | (with_reducible refine' getd_text ?zhF ?zhX ?zhN ?zhH ?_; (case zhF => k_asm); (case zhX => k_asm); (case zhN => k_asm); (case zhH => walk_at "mine HD"); intro _) | (with_reducible refine' getd_kind ?zhF ?zhX ?zhN ?zhH ?_; (case zhF => k_asm); (case zhX => k_asm); (case zhN => k_asm); (case zhH => walk_at "mine HD"); intro _))
  k_with "setAttr ref" => k_dflt (first | (with_reducible refine' set_state ?zhF ?zhX ?zhN ?zhH ?_; walk_at "mine fxnh"; intro _ _ _ _ _ _) | (with_reducible refine' set_waiting ?zhF ?zhX ?zhN ?zhH ?_; walk_at "mine fxnh"; intro _ _ _ _ _ _) | (with_reducible refine' set_done ?zhF ?zhX ?zhN ?zhH ?_; walk_at "mine fxnh"; intro _ _ _ _ _ _) | (with_reducible refine' set_foreign ?zhF ?zhX ?zhN ?zhH ?_; walk_at "mine fxnh"; intro _ _ _ _ _ _) | (with_reducible refine' set_closed ?zhF ?zhX ?zhN ?zhH ?_; walk_at "mine fxnh"; intro _ _ _ _ _ _) | (with_reducible refine' set_return ?zhF ?zhX ?zhN ?zhH ?_; walk_at "mine fxnh"; intro _ _ _ _ _ _) | (with_reducible refine' set_draft_none ?zhF ?zhX ?zhN ?zhH ?_; walk_at "mine fxnh"; intro _ _ _ _ _ _) | (with_reducible refine' set_draft ?zhF ?zhX ?zhN ?zhH ?zhhy ?_; walk_at "mine fxnh"; (case zhhy => with_reducible assumption); intro _ _ _ _ _ _) | (with_reducible refine' setd_text ?zhF ?zhX ?zhN ?zhH ?zhhd ?zhhy ?_; walk_at "mine fxnh"; (case zhhd => first | with_reducible assumption | rfl); (case zhhy => first | exact rfl | exact S_app _ _ | (rw [S_fffd]; exact S_app _ _)); intro _ _ _ _ _) | ((with_reducible show wpAny _ _ (setAttr (Value.ref (TA.t _)) (PySem.Str.ofString "at") _) _ _ _); refine' set_at ?zhF ?zhX ?zhN ?zhH (Int.natCast_add _ _).symm ?_; walk_at "mine fxnh"; intro _ _ _ _ _ _) | ((with_reducible show wpAny _ _ (setAttr (Value.ref (TA.t _)) (PySem.Str.ofString "at") _) _ _ _); refine' set_at ?zhF ?zhX ?zhN ?zhH (cast_pred ?zhp) ?_; walk_at "mine fxnh"; (case zhp => first | with_reducible assumption | omega); intro _ _ _ _ _ _) | ((with_reducible show wpAny _ _ (setAttr (Value.ref (TA.t _)) (PySem.Str.ofString "at") _) _ _ _); refine' set_at ?zhF ?zhX ?zhN ?zhH (Eq.refl (Nat.cast _)) ?_; walk_at "mine fxnh"; intro _ _ _ _ _ _))
  k_with "getMethod ref" => k_dflt (first | ((with_reducible show wpAny _ _ (getMethod (Value.ref (TA.t _)) _ _) _ _ _); refine' tok_method ?zhF ?zhX ?zhN ?zhH ?zhg ?zhf ?zht ?zhl ?_; walk_at "mine fxnh"; (case zhg => k_dflt k_is); (case zhf => k_dflt k_is); (case zht => k_dflt k_is); (case zhl => intro _; rfl)) | ((with_reducible show wpAny _ _ (getMethod (Value.ref (TA.st _)) _ _) _ _ _); refine' str_method ?zhF ?zhX ?zhN ?zhH ?zhg ?zhf ?zht ?zhl ?_; walk_at "mine fxnh"; (case zhg => k_dflt k_is); (case zhf => k_dflt k_is); (case zht => k_dflt k_is); (case zhl => intro _; rfl)) | (refine' dr_method ?zhF ?zhX ?zhN ?zhH ?zhg ?zhf ?zht ?zhl ?_; (case zhF => k_asm); (case zhX => k_asm); (case zhN => k_asm); (case zhH => walk_at "mine HD"); (case zhg => k_dflt k_is); (case zhf => k_dflt k_is); (case zht => k_dflt k_is); (case zhl => intro _ _ _; rfl)) | ((with_reducible show wpAny _ _ (getMethod (Value.ref (TA.er _)) _ _) _ _ _); refine' app_method_er ?zhN ?zhH ?_; (case zhN => k_asm); (case zhH => walk_at "mine H")) | ((with_reducible show wpAny _ _ (getMethod (Value.ref (TA.ou _)) _ _) _ _ _); refine' app_method_ou ?zhN ?zhH ?_; (case zhN => k_asm); (case zhH => walk_at "mine H")) | ((with_reducible show wpAny _ _ (getMethod (Value.ref (TA.se _)) _ _) _ _ _); refine' app_method_se ?zhN ?zhH ?_; (case zhN => k_asm); (case zhH => walk_at "mine H")) | ((with_reducible show wpAny _ _ (getMethod (Value.ref (TA.sg _)) _ _) _ _ _); refine' app_method_sg ?zhN ?zhH ?_; (case zhN => k_asm); (case zhH => walk_at "mine H")))
  k_with "call builtin:list.append" => k_dflt (first | ((with_reducible show wpAny _ _ (call _ [Value.ref (TA.er _), _]) _ _ _); refine' app_er ?zhF ?zhN ?zhH ?zhr ?zhz ?_; (case zhF => k_asm); (case zhN => k_asm); (case zhH => walk_at "mine H"); (case zhr => walk_at "mine row"); (case zhz => walk_at "mine size"); intro _ _ _ _ _ _) | ((with_reducible show wpAny _ _ (call _ [Value.ref (TA.ou _), _]) _ _ _); refine' app_ou ?zhF ?zhN ?zhH ?zhr ?zhz ?_; (case zhF => k_asm); (case zhN => k_asm); (case zhH => walk_at "mine H"); (case zhr => walk_at "mine row"); (case zhz => walk_at "mine size"); intro _ _ _ _ _ _) | ((with_reducible show wpAny _ _ (call _ [Value.ref (TA.se _), _]) _ _ _); refine' app_se ?zhF ?zhN ?zhH ?zhr ?zhz ?_; (case zhF => k_asm); (case zhN => k_asm); (case zhH => walk_at "mine H"); (case zhr => walk_at "mine row"); (case zhz => walk_at "mine size"); intro _ _ _ _ _ _) | ((with_reducible show wpAny _ _ (call _ [Value.ref (TA.sg _), _]) _ _ _); refine' app_sg ?zhF ?zhN ?zhH ?zhhx ?zhz ?_; (case zhF => k_asm); (case zhN => k_asm); (case zhH => walk_at "mine H"); (case zhhx => first | exact S_nl | exact rfl); (case zhz => walk_at "mine size"); intro _ _ _ _ _ _))
  k_with "mine size" => first | with_reducible assumption | ((try dsimp only at *); omega) | ((try dsimp only at *); simp only [List.length_append, List.length_cons, List.length_nil, List.length_take, List.length_drop, List.length_map] at *; omega)
  k_with "call builtin:len" => k_dflt ((with_reducible refine' len_S ?zhz ?_); (case zhz => walk_at "mine size"))
  k_with "call builtin:ord" => k_dflt (with_reducible refine' ord_S ?_)
  k_with "call builtin:chr" => k_dflt (refine' chr_S (Int.natCast_add _ _).symm ?zhz ?_; (case zhz => omega))
  k_with "call builtin:len" => k_dflt (with_reducible refine' len_sg ?zhN ?zhH ?zhz ?_; (case zhN => k_asm); (case zhH => walk_at "mine H"); (case zhz => walk_at "mine size"))
  k_with "mine slen" => (simp only [S_fffd, S_len, S_nil, List.length_append, List.length_cons, List.length_nil, sizeLine]; omega)
  k_with "binaryOp Add str str" => k_dflt (refine' PyProof.Rows.add_str ?_ ?zhz9; (case zhz9 => walk_at "mine slen"); intro _ _)
  k_with "mine news" => first | k_asm | exact News.ofCons (by assumption)
  k_with "mine for" => ((rename Fr _ _ _ _ => lF'); (with_unfolding_all refine' For_invVF lF' ?zhk1 ?zhk2 ?_; (case zhk1 => exact rfl); (case zhk2 => exact rfl)))
  k_with "mine name" => k_dflt ((refine' nameX_L ?zhF ?zhv ?_ ?zha ?zhb ?zhc); (case zhF => k_asm); (case zha => rfl); (case zhb => rfl); (case zhv => rfl); (case zhc => decide))
  k_with "mine locs" => ((repeat' (refine List.forall_mem_cons.mpr ⟨rfl, ?_⟩)); exact fun _ h => nomatch h)
  k_with "subscriptTail" => k_dflt ((with_reducible show wpAny _ _ (subscriptTail _ _ (Value.ref (TA.sg _)) (Value.int _ _)) _ _ _); refine' item_sg ?zhN ?zhH ?zhe ?zhhi ?zhz ?_; (case zhN => k_asm); (case zhH => walk_at "mine H"); (case zhe => first | exact rfl | exact (Int.natCast_add _ _).symm); (case zhhi => (try dsimp only at *); omega); (case zhz => walk_at "mine size"); intro c9 u9 hc9)
  k_with "subscriptTail" => k_dflt ((with_reducible show wpAny _ _ (subscriptTail _ _ (Value.str _ _) (Value.int _ _)) _ _ _); refine' item_S ?zhhi ?zhz ?_; (case zhhi => (try dsimp only at *); omega); (case zhz => walk_at "mine size"); intro c9 u9 hc9)
  k_with "subscriptTail Name Name str int" => k_dflt ((with_reducible show wpAny _ _ (subscriptTail _ _ (Value.str _ _) (Value.int _ _)) _ _ _); refine' item_S ?zhhi ?zhz ?_; (case zhhi => (try dsimp only at *); omega); (case zhz => walk_at "mine size"); intro c9 u9 hc9)
  trivial

variable {prog : Program} {w : World} {mean : ExcName → Option Value} {mg mb : Str → Option Value} {T : TA} {n0 : Led} {d : D} {dv : Value} {nx : Led}

theorem lines_C3_2 : True := by
  k_with "call ref" => ((with_reducible show wpAny _ _ (call (Value.ref 447) _) _ _ _); k_dflt (refine' ClaimS.use (digit_ok ?zhhi ?zhz _ _ ?zhh0 ?zhhp) ?zhB ?zhF ?zhX ?zhN ?zhT ?zhkk ?zhhl ?zhd ?zhu ?_; (case zhB => k_asm); (case zhF => k_asm); (case zhX => k_asm); (case zhN => k_asm); (case zhT => k_asm); (case zhkk => rfl); (case zhhl => with_reducible assumption); (case zhhi => assumption); (case zhz => assumption); (case zhh0 => first | decide | omega); (case zhhp => first | decide | omega); (case zhd => ktr_room); (case zhu => ktr_units); rintro _ _ _ _ ⟨hn9, _, _, hv9⟩ _ _; replace hn9 := Eq.symm hn9; subst hn9; subst hv9))
  k_with "call ref" => ((with_reducible show wpAny _ _ (call (Value.ref 454) _) _ _ _); k_dflt (refine' ClaimS.use (word_ok ?zhhi ?zhz) ?zhB ?zhF ?zhX ?zhN ?zhT ?zhkk ?zhhl ?zhd ?zhu ?_; (case zhB => k_asm); (case zhF => k_asm); (case zhX => k_asm); (case zhN => k_asm); (case zhT => k_asm); (case zhkk => rfl); (case zhhl => with_reducible assumption); (case zhhi => assumption); (case zhz => assumption); (case zhd => ktr_room); (case zhu => ktr_units); rintro _ _ _ _ ⟨hn9, _, _, hv9, _, _⟩ _ _; replace hn9 := Eq.symm hn9; subst hn9; subst hv9))
  k_with "subscriptTail" => k_dflt ((with_reducible show wpAny _ _ (subscriptTail _ _ (Value.ref _) (Value.int (Int.fmod _ _) _)) _ _ _); refine' item_menu (z := 3) ?zhN ?zhm ?zhhP ?zhh0 ?zhh1 ?zhz ?_; (case zhN => k_asm); (case zhm => k_mem); (case zhhP => ((repeat (refine List.forall_mem_cons.mpr ⟨⟨_, _, rfl, by decide +kernel⟩, ?_⟩)); exact fun _ h => nomatch h)); (case zhh0 => exact Int.fmod_nonneg_of_pos _ (by decide)); (case zhh1 => exact Int.fmod_lt_of_pos _ (by decide)); (case zhz => exact Nat.le_of_ble_eq_true rfl); intro l9 u9 hz9 hs9)
  k_with "mine lit" => first | exact rfl | exact S_dash | exact S_doc | exact S_cd
  k_with "mine nat" => first | (with_reducible assumption) | decide | omega | (k_fmods; omega)
  k_with "subscriptTail" => k_dflt (first | ((with_reducible show wpAny _ _ (subscriptTail _ (Expr.Slice none (some _) none _) (Value.str _ _) _) _ _ _); refine' cut_to (s := ⟨_, _, _, _, _⟩) ?zhy ?zhF ?zhN ?zhh0 ?zhz ?_; (case zhy => walk_at "mine lit"); (case zhF => k_asm); (case zhN => k_asm); (case zhh0 => walk_at "mine nat"); (case zhz => walk_at "mine size"); intro _ _ _ _ _) | ((with_reducible show wpAny _ _ (subscriptTail _ (Expr.Slice (some _) none none _) (Value.str _ _) _) _ _ _); refine' cut_from (s := ⟨_, _, _, _, _⟩) ?zhy ?zhF ?zhN ?zhh0 ?zhz ?_; (case zhy => walk_at "mine lit"); (case zhF => k_asm); (case zhN => k_asm); (case zhh0 => walk_at "mine nat"); (case zhz => walk_at "mine size"); intro _ _ _ _ _) | ((with_reducible show wpAny _ _ (subscriptTail _ (Expr.Slice (some _) (some _) none _) (Value.str _ _) _) _ _ _); refine' cut_mid (s := ⟨_, _, _, _, _⟩) ?zhy ?zhF ?zhN ?zhh0 ?zhh1 ?zhh2 ?zhz ?_; (case zhy => walk_at "mine lit"); (case zhF => k_asm); (case zhN => k_asm); (case zhh0 => walk_at "mine nat"); (case zhh1 => walk_at "mine nat"); (case zhh2 => walk_at "mine nat"); (case zhz => walk_at "mine size"); intro _ _ _ _ _))
  k_with "mine sg" => first | (with_reducible assumption) | ((refine InSG.get ?_ (by assumption)); assumption) | (apply InSG.one; first | assumption | ((refine InSG.get ?_ (by assumption)); assumption) | ((refine (sg_low _ ?_).2.1); (refine InSG.get ?_ (by assumption)); assumption)) | exact InSG.take (by assumption) _ | exact InSG.drop (by assumption) _
  k_with "call builtin:str.upper" => k_dflt (refine' upper1 ?zhh ?_; (case zhh => walk_at "mine sg"); intro _ _ _ _)
  k_with "call builtin:str.lower" => k_dflt (refine' lowerS ?zhh ?zhz ?_; (case zhh => walk_at "mine sg"); (case zhz => walk_at "mine size"); intro _ _; (try rw [List.map_cons, List.map_nil]))
  k_with "binaryOp Pow int int" => k_dflt (refine' pow_int_small ?zha ?zhb ?zhc ?_; (case zha => walk_at "mine nat"); (case zhb => walk_at "mine nat"); (case zhc => decide))
  k_with "binaryOp FloorDiv int int" => k_dflt ((with_reducible show wpAny _ _ (binaryOp _ _ (Value.int (HPow.hPow _ _) _)) _ _ _); refine' floordiv_int ?zhb ?_; (case zhb => exact Int.ne_of_gt (Int.pow_pos (by decide))))
  k_with "TurnPost" => k_dflt ((with_reducible show TurnPost _ _ _ _ _ _ _ _ (Flow.ret _) _); (with_reducible refine turnPost_ret ?_); (try dsimp only))
  k_with "mine chr" => first | assumption | omega | exact Small.get (by assumption) (by assumption)
  trivial


theorem text_ok {sc : Addr} {vs : List Value} {ns : List Int} (hi : IntsAre vs ns) (hz : ns.length ≤ 63) : ClaimS prog w mean mg mb 6 461 nx sc vs [.ref sc] (fun v nx' => nx' = nx ∧ ∃ l u', v = .str (S l) u' ∧ l.length ≤ 20 ∧ InSG l) := by
  unfold ClaimS
  intro dp un gd cn cs a ccd cl outer A₀ base h₀ L m s Q E B F X N Tp hk hl hd hu hret
  refine wpAny_call ?_
  k_dflt cell_enter
  walk_at "mine steps"
  k_fmods
  refine' range_loopX (_, _) (n := Int.toNat _) (fun c i m1 nx1 => nx1 = c.1 ∧ (m1 "script" = some (.ref sc) ∧ m1 "parts" = some (.ref c.2)) ∧ ∃ o u, m1 "text" = some (.str (S o) u) ∧ o.length ≤ 7 + 3 * i ∧ InSG o) (by assumption) (by refine (Int.toNat_of_nonneg ?_).symm; omega) (by omega) rfl (by k_asm) (by k_asm) (by exact ⟨rfl, ⟨rfl, rfl⟩, _, _, rfl, by omega, by assumption⟩) ?_ ?_
  · rintro I i m1 nx1 h tk oI t hi9 hit hne ⟨rfl, ⟨hsc, hps⟩, o, u3, ho, hlo, hso⟩ F1 N1
    have F2 := Mine.Fr.turn (ps := [("script", .ref sc), ("parts", .ref _), ("text", .str (S o) u3)]) F1 (List.forall_mem_cons.mpr ⟨hsc, List.forall_mem_cons.mpr ⟨hps, List.forall_mem_cons.mpr ⟨ho, fun _ h => nomatch h⟩⟩⟩)
    clear F1
    walk_at "mine steps"
    exact turnPost_next (by k_asm) (by k_asm) hne (fun _ h => nomatch h) ⟨rfl, ⟨rfl, rfl⟩, _, _, congrArg (fun x => some (Value.str x _)) (S_app o _), by rw [List.length_append]; omega, InSG.app hso (by assumption)⟩
  · rintro m1 nx1 h tk ⟨rfl, ⟨hsc, hps⟩, o, u3, ho, hlo, hso⟩ F1 N1
    have F2 := Mine.Fr.ovl (ps := [("text", .str (S o) u3)]) F1 (List.forall_mem_cons.mpr ⟨ho, fun _ h => nomatch h⟩)
    clear F1
    walk_at "mine steps"
    exact hret _ nx _ _ ⟨rfl, o.take 20, _, rfl, by rw [List.length_take]; omega, InSG.take hso 20⟩ (by k_asm) (News.ofCons (News.ofCons (News.ofCons (by k_asm))))

end C3

section C4
open PySem PySem.W PyProof.Rows PySem.Calls
set_option maxRecDepth 100000
set_option maxHeartbeats 4000000
theorem lines_C4_1 : True := by
  w_top off
  k_with_none
  k_with "execs cons" => k_fold
  k_with "exec If" => k_fold
  k_with "exec Assign" => k_fold
  k_with "exec Expr" => k_fold
  k_with "exec Return" => k_fold
  k_with "callWith" => k_fold
  k_with "call ref" => k_fold
  k_with "execs cons" => k_dflt (refine' gentok9 ?_; intro tk9)
  k_with "execs nil" => k_dflt (refine' gentok9 ?_; intro tk9)
  k_with "mine steps" => repeat' ((fail_if_success (with_reducible show wpAny _ _ (pyIter _) _ _ _)); (fail_if_success (with_reducible show wpAny _ _ (exec (Stmt.For _ (Expr.Name _ _) _ _ _) _) _ _ _)); first | (k_unfold; (try dsimp only)) | walk1 | (dsimp only; walk1) | (leave1; (try dsimp only)))
  k_with "mine H" => (first | (with_reducible assumption) | (with_reducible refine' TokX.cons1 ?zhhh; (case zhhh => with_reducible assumption)) | (with_reducible refine' TokX.cons2 ?zhhh; (case zhhh => with_reducible assumption)) | (with_reducible refine' TokX.cons3 ?zhhh; (case zhhh => with_reducible assumption)))
  k_with "mine row" => (first | (with_reducible assumption) | (apply RowIs.of; k_mem; (repeat' constructor); done))
  k_with "mine HD" => (first | (with_reducible assumption) | (exact TokX.dr (by with_reducible assumption) rfl) | (exact TokX.dr (by with_reducible assumption) (by with_reducible assumption)) | (exact DraftAt.keepA (by with_reducible assumption) (by with_reducible assumption)) | (exact TokX.dr (by with_reducible assumption) (by assumption)))
  k_with "mine fxnh" => ((case zhF => k_asm); (case zhX => k_asm); (case zhN => k_asm); (case zhH => walk_at "mine H"))
  k_with "getAttr ref" => k_dflt (first | (with_reducible refine' get_at ?zhF ?zhX ?zhN ?zhH ?_; walk_at "mine fxnh"; intro _) | (with_reducible refine' get_stream ?zhF ?zhX ?zhN ?zhH ?_; walk_at "mine fxnh") | (with_reducible refine' get_signs ?zhF ?zhX ?zhN ?zhH ?_; walk_at "mine fxnh") | (with_reducible refine' get_out ?zhF ?zhX ?zhN ?zhH ?_; walk_at "mine fxnh") | (with_reducible refine' get_errors ?zhF ?zhX ?zhN ?zhH ?_; walk_at "mine fxnh") | (with_reducible refine' get_draft ?zhF ?zhX ?zhN ?zhH ?_; walk_at "mine fxnh") | (with_reducible refine' get_state ?zhF ?zhX ?zhN ?zhH ?_; walk_at "mine fxnh"; intro _) | (with_reducible refine' get_states ?zhF ?zhX ?zhN ?zhH ?_; walk_at "mine fxnh") | (with_reducible refine' get_waiting ?zhF ?zhX ?zhN ?zhH ?_; walk_at "mine fxnh") | (with_reducible refine' get_done ?zhF ?zhX ?zhN ?zhH ?_; walk_at "mine fxnh") | (with_reducible refine' get_foreign ?zhF ?zhX ?zhN ?zhH ?_; walk_at "mine fxnh") | (with_reducible refine' get_last ?zhF ?zhX ?zhN ?zhH ?_; walk_at "mine fxnh"; intro _) | (with_reducible refine' get_closed ?zhF ?zhX ?zhN ?zhH ?_; walk_at "mine fxnh") | (with_reducible refine' get_return ?zhF ?zhX ?zhN ?zhH ?_; walk_at "mine fxnh") | (with_reducible refine' get_serr ?zhF ?zhX ?zhN ?zhH ?_; walk_at "mine fxnh") | (with_reducible refine' getd_text ?zhF ?zhX ?zhN ?zhH ?_; (case zhF => k_asm); (case zhX => k_asm); (case zhN => k_asm); (case zhH => walk_at "mine HD"); intro _) | (with_reducible refine' getd_kind ?zhF ?zhX ?zhN ?zhH ?_; (case zhF => k_asm); (case zhX => k_asm); (case zhN => k_asm); (case zhH => walk_at "mine HD"); intro _))
  k_with "setAttr ref" => k_dflt (first | (with_reducible refine' set_state ?zhF ?zhX ?zhN ?zhH ?_; walk_at "mine fxnh"; intro _ _ _ _ _ _) | (with_reducible refine' set_waiting ?zhF ?zhX ?zhN ?zhH ?_; walk_at "mine fxnh"; intro _ _ _ _ _ _) | (with_reducible refine' set_done ?zhF ?zhX ?zhN ?zhH ?_; walk_at "mine fxnh"; intro _ _ _ _ _ _) | (with_reducible refine' set_foreign ?zhF ?zhX ?zhN ?zhH ?_; walk_at "mine fxnh"; intro _ _ _ _ _ _) | (with_reducible refine' set_closed ?zhF ?zhX ?zhN ?zhH ?_; walk_at "mine fxnh"; intro _ _ _ _ _ _) | (with_reducible refine' set_return ?zhF ?zhX ?zhN ?zhH ?_; walk_at "mine fxnh"; intro _ _ _ _ _ _) | (with_reducible refine' set_draft_none ?zhF ?zhX ?zhN ?zhH ?_; walk_at "mine fxnh"; intro _ _ _ _ _ _) | (with_reducible refine' set_draft ?zhF ?zhX ?zhN ?zhH ?zhhy ?_; walk_at "mine fxnh"; (case zhhy => with_reducible assumption); intro _ _ _ _ _ _) | (with_reducible refine' setd_text ?zhF ?zhX ?zhN ?zhH ?zhhd ?zhhy ?_; walk_at "mine fxnh"; (case zhhd => first | with_reducible assumption | rfl); (case zhhy => first | exact rfl | exact S_app _ _ | (rw [S_fffd]; exact S_app _ _)); intro _ _ _ _ _) | ((with_reducible show wpAny _ _ (setAttr (Value.ref (TA.t _)) (PySem.Str.ofString "at") _) _ _ _); refine' set_at ?zhF ?zhX ?zhN ?zhH (Int.natCast_add _ _).symm ?_; walk_at "mine fxnh"; intro _ _ _ _ _ _) | ((with_reducible show wpAny _ _ (setAttr (Value.ref (TA.t _)) (PySem.Str.ofString "at") _) _ _ _); refine' set_at ?zhF ?zhX ?zhN ?zhH (cast_pred ?zhp) ?_; walk_at "mine fxnh"; (case zhp => first | with_reducible assumption | omega); intro _ _ _ _ _ _) | ((with_reducible show wpAny _ _ (setAttr (Value.ref (TA.t _)) (PySem.Str.ofString "at") _) _ _ _); refine' set_at ?zhF ?zhX ?zhN ?zhH (Eq.refl (Nat.cast _)) ?_; walk_at "mine fxnh"; intro _ _ _ _ _ _))
  k_with "getMethod ref" => k_dflt (first | ((with_reducible show wpAny _ _ (getMethod (Value.ref (TA.t _)) _ _) _ _ _); refine' tok_method ?zhF ?zhX ?zhN ?zhH ?zhg ?zhf ?zht ?zhl ?_; walk_at "mine fxnh"; (case zhg => k_dflt k_is); (case zhf => k_dflt k_is); (case zht => k_dflt k_is); (case zhl => intro _; rfl)) | ((with_reducible show wpAny _ _ (getMethod (Value.ref (TA.st _)) _ _) _ _ _); refine' str_method ?zhF ?zhX ?zhN ?zhH ?zhg ?zhf ?zht ?zhl ?_; walk_at "mine fxnh"; (case zhg => k_dflt k_is); (case zhf => k_dflt k_is); (case zht => k_dflt k_is); (case zhl => intro _; rfl)) | (refine' dr_method ?zhF ?zhX ?zhN ?zhH ?zhg ?zhf ?zht ?zhl ?_; (case zhF => k_asm); (case zhX => k_asm); (case zhN => k_asm); (case zhH => walk_at "mine HD"); (case zhg => k_dflt k_is); (case zhf => k_dflt k_is); (case zht => k_dflt k_is); (case zhl => intro _ _ _; rfl)) | ((with_reducible show wpAny _ _ (getMethod (Value.ref (TA.er _)) _ _) _ _ _); refine' app_method_er ?zhN ?zhH ?_; (case zhN => k_asm); (case zhH => walk_at "mine H")) | ((with_reducible show wpAny _ _ (getMethod (Value.ref (TA.ou _)) _ _) _ _ _); refine' app_method_ou ?zhN ?zhH ?_; (case zhN => k_asm); (case zhH => walk_at "mine H")) | ((with_reducible show wpAny _ _ (getMethod (Value.ref (TA.se _)) _ _) _ _ _); refine' app_method_se ?zhN ?zhH ?_; (case zhN => k_asm); (case zhH => walk_at "mine H")) | ((with_reducible show wpAny _ _ (getMethod (Value.ref (TA.sg _)) _ _) _ _ _); refine' app_method_sg ?zhN ?zhH ?_; (case zhN => k_asm); (case zhH => walk_at "mine H")))
  k_with "call builtin:list.append" => k_dflt (first | ((with_reducible show wpAny _ _ (call _ [Value.ref (TA.er _), _]) _ _ _); refine' app_er ?zhF ?zhN ?zhH ?zhr ?zhz ?_; (case zhF => k_asm); (case zhN => k_asm); (case zhH => walk_at "mine H"); (case zhr => walk_at "mine row"); (case zhz => walk_at "mine size"); intro _ _ _ _ _ _) | ((with_reducible show wpAny _ _ (call _ [Value.ref (TA.ou _), _]) _ _ _); refine' app_ou ?zhF ?zhN ?zhH ?zhr ?zhz ?_; (case zhF => k_asm); (case zhN => k_asm); (case zhH => walk_at "mine H"); (case zhr => walk_at "mine row"); (case zhz => walk_at "mine size"); intro _ _ _ _ _ _) | ((with_reducible show wpAny _ _ (call _ [Value.ref (TA.se _), _]) _ _ _); refine' app_se ?zhF ?zhN ?zhH ?zhr ?zhz ?_; (case zhF => k_asm); (case zhN => k_asm); (case zhH => walk_at "mine H"); (case zhr => walk_at "mine row"); (case zhz => walk_at "mine size"); intro _ _ _ _ _ _) | ((with_reducible show wpAny _ _ (call _ [Value.ref (TA.sg _), _]) _ _ _); refine' app_sg ?zhF ?zhN ?zhH ?zhhx ?zhz ?_; (case zhF => k_asm); (case zhN => k_asm); (case zhH => walk_at "mine H"); (case zhhx => first | exact S_nl | exact rfl); (case zhz => walk_at "mine size"); intro _ _ _ _ _ _))
  k_with "mine size" => first | with_reducible assumption | ((try dsimp only at *); omega) | ((try dsimp only at *); simp only [List.length_append, List.length_cons, List.length_nil, List.length_take, List.length_drop, List.length_map] at *; omega)
  k_with "call builtin:len" => k_dflt ((with_reducible refine' len_S ?zhz ?_); (case zhz => walk_at "mine size"))
  k_with "call builtin:ord" => k_dflt (with_reducible refine' ord_S ?_)
  k_with "call builtin:chr" => k_dflt (refine' chr_S (Int.natCast_add _ _).symm ?zhz ?_; (case zhz => omega))
  k_with "call builtin:len" => k_dflt (with_reducible refine' len_sg ?zhN ?zhH ?zhz ?_; (case zhN => k_asm); (case zhH => walk_at "mine H"); (case zhz => walk_at "mine size"))
  k_with "mine slen" => (simp only [S_fffd, S_len, S_nil, List.length_append, List.length_cons, List.length_nil, sizeLine]; omega)
  k_with "binaryOp Add str str" => k_dflt (refine' PyProof.Rows.add_str ?_ ?zhz9; (case zhz9 => walk_at "mine slen"); intro _ _)
  k_with "mine news" => first | k_asm | exact News.ofCons (by assumption)
  k_with "mine for" => ((rename Fr _ _ _ _ => lF'); (with_unfolding_all refine' For_invVF lF' ?zhk1 ?zhk2 ?_; (case zhk1 => exact rfl); (case zhk2 => exact rfl)))
  k_with "mine name" => k_dflt ((refine' nameX_L ?zhF ?zhv ?_ ?zha ?zhb ?zhc); (case zhF => k_asm); (case zha => rfl); (case zhb => rfl); (case zhv => rfl); (case zhc => decide))
  k_with "mine locs" => ((repeat' (refine List.forall_mem_cons.mpr ⟨rfl, ?_⟩)); exact fun _ h => nomatch h)
  k_with "subscriptTail" => k_dflt ((with_reducible show wpAny _ _ (subscriptTail _ _ (Value.ref (TA.sg _)) (Value.int _ _)) _ _ _); refine' item_sg ?zhN ?zhH ?zhe ?zhhi ?zhz ?_; (case zhN => k_asm); (case zhH => walk_at "mine H"); (case zhe => first | exact rfl | exact (Int.natCast_add _ _).symm); (case zhhi => (try dsimp only at *); omega); (case zhz => walk_at "mine size"); intro c9 u9 hc9)
  k_with "subscriptTail" => k_dflt ((with_reducible show wpAny _ _ (subscriptTail _ _ (Value.str _ _) (Value.int _ _)) _ _ _); refine' item_S ?zhhi ?zhz ?_; (case zhhi => (try dsimp only at *); omega); (case zhz => walk_at "mine size"); intro c9 u9 hc9)
  k_with "subscriptTail Name Name str int" => k_dflt ((with_reducible show wpAny _ _ (subscriptTail _ _ (Value.str _ _) (Value.int _ _)) _ _ _); refine' item_S ?zhhi ?zhz ?_; (case zhhi => (try dsimp only at *); omega); (case zhz => walk_at "mine size"); intro c9 u9 hc9)
  trivial

variable {prog : Program} {w : World} {mean : ExcName → Option Value} {mg mb : Str → Option Value} {T : TA} {n0 : Led} {d : D} {dv : Value} {nx : Led}

/-- a list of texts -/
inductive StrsL : List Value → List (List Nat) → Prop
  | nil : StrsL [] []
  | cons {l : List Nat} {u : Tok} {vs : List Value} {ls : List (List Nat)} : StrsL vs ls → StrsL (.str (S l) u :: vs) (l :: ls)
theorem StrsL.snoc {vs ls l u} (h : StrsL vs ls) : StrsL (vs ++ [.str (S l) u]) (ls ++ [l]) := by
  induction h with
  | nil => exact .cons .nil
  | cons _ ih => exact .cons ih
theorem StrsL.length {vs ls} (h : StrsL vs ls) : vs.length = ls.length := by
  induction h with
  | nil => rfl
  | cons _ ih => rw [List.length_cons, List.length_cons, ih]
theorem StrsL.get {vs ls} (h : StrsL vs ls) {i : Nat} {v : Value} (e : vs[i]? = some v) : ∃ l u, ls[i]? = some l ∧ v = .str (S l) u := by
  induction h generalizing i with
  | nil => cases e
  | cons _ ih =>
    cases i with
    | zero => cases e; exact ⟨_, _, rfl, rfl⟩
    | succ i => exact ih e
theorem py3 {i : Nat} (h : i < 20) (x : Int) : Builtin.divisionGoesByPylong x ((3 : Int) ^ i) = false := by
  refine PyProof.noPylong_of_log2 ?_
  rw [Int.natAbs_pow]
  have h1 : (Int.natAbs 3) ^ i ≤ 3 ^ 20 := Nat.pow_le_pow_right (by decide) (Nat.le_of_lt h)
  have h0 : (Int.natAbs 3) ^ i ≠ 0 := Nat.ne_of_gt (Nat.pow_pos (by decide))
  have h2 : ((Int.natAbs 3) ^ i).log2 < 40 := (Nat.log2_lt h0).mpr (Nat.lt_of_le_of_lt h1 (by decide))
  omega
section
variable {A : Around} {E : Value → Shared → Prop} {s : Shared} {h₀ : Heap} {L D : Addr} {m : Str → Option Value} {vs : List Value} {x v : Value} {n : Nat} {u : Tok}
theorem last_get {value slice : PySem.Expr} {Q : Value → Shared → Prop} (N : News h₀ L s.heap nx) (mD : (D, listOf (vs ++ [x]).toArray n) ∈ nx) (hz : vs.length ≤ 1000000) (h : Q x s)
    (hs : subscripted slice false (.ref D) (.int (-1) u) = operate [.ref D, .int (-1) u] (getItem (.ref D) (.int (-1) u)) := by with_unfolding_all rfl) :
    wpAny (model prog w) A (subscriptTail value slice (.ref D) (.int (-1) u)) Q E s := by
  have hl : s.heap.IsList D (vs ++ [x]).toArray := ⟨_, (N _ mD).1, rfl, _, rfl⟩
  have hn : ((vs ++ [x]).toArray.size : Int) = vs.length + 1 := by simp
  refine tail_any hl.typeIs slot_list_getitem.lookup (wpAny_getItem_list_neg hl (by decide) (by rw [hn]; omega) (by decide) ?_ h) hs
  rw [hn, show (-1 + ((vs.length : Int) + 1)).toNat = vs.length by omega]
  simp
theorem last_set {nx' : Led} {Q : Unit → Shared → Prop} (F : Fr h₀ L s.heap m) (N : News h₀ L s.heap nx) (U : Upd D (listOf (vs ++ [x]).toArray n) (listOf (vs ++ [v]).toArray n) nx nx') (hz : vs.length ≤ 1000000)
    (h : ∀ h', Fr h₀ L h' m → News h₀ L h' nx' → Q () { s with heap := h' }) : wpAny (model prog w) A (setItem (.ref D) (.int (-1) u) v) Q E s := by
  obtain ⟨pre, post, rfl, rfl, a, b⟩ := U.split
  have z := N (D, listOf (vs ++ [x]).toArray n) (List.mem_append.mpr (.inr (.head _)))
  have hl : s.heap.IsList D (vs ++ [x]).toArray := PySem.IsL.isList (n := n) z.1
  have hsz : (vs ++ [x]).toArray.size = vs.length + 1 := by simp
  have hidx : seqIndex? (-1) (vs ++ [x]).toArray.size = some vs.length := by
    rw [hsz]; unfold seqIndex?; simp; omega
  have hx : (vs ++ [x]).toArray[vs.length]? = some x := by simp
  unfold setItem
  refine wpAny_holding ?_
  refine wpAny_bind (wpAny_sequenceKey hl.typeIs (by decide) ?_)
  refine wpAny_bind (wpAny_callSpecial?_slot (name := Str.ofString "__setitem__") hl.typeIs slot_list_setitem
    (wpAny_call_entry slot_list_setitem hl.typeIs entry_list_setitem ?_ (args_list_setitem _ _ _)))
  show wpAny _ _ (Builtin.List.listSubscript? (.int (-1) u) >>= _) _ _ s
  refine wpAny_bind (wpAny_listSubscript_int (fitsIndex_neg (by decide) (by decide)) ?_)
  show wpAny _ _ ((Builtin.List.listItems (.ref D) >>= fun xs => pure ((seqIndex? (-1) xs.size).bind fun i => xs[i]?.map (i, ·))) >>= _) _ _ s
  refine wpAny_bind (wpAny_bind ?_)
  show wpAny _ _ (seqItems? (.ref D) >>= _) _ _ s
  refine wpAny_bind (wpAny_seqItems z.1 rfl (wpAny_pure (wpAny_pure ?_)))
  rw [hidx]
  simp only [Option.bind_some, hx, Option.map_some]
  show wpAny _ _ (setSeqItemAt D vs.length v >>= _) _ _ s
  refine wpAny_bind (wpAny_setSeqItemAt z.1 rfl ?_)
  have fin : Q () { s with heap := s.heap.update D (Obj.mapSeq (·.setIfInBounds vs.length v)) } := by
    refine h _ (F.change (Heap.SameBut.update ..) z.2.1 z.2.2) (ki_turn _ N a b ?_ ?_)
    · apply Array.toList_inj.mp
      simp
    · simp
  exact wpAny_bind (wpAny_pure (wpAny_pure ⟨.none, rfl, wpAny_pure fin⟩))
end

theorem lines_C4_2 : True := by
  k_with "mine sg" => first | (with_reducible assumption) | ((refine InSG.get ?_ (by assumption)); assumption) | (apply InSG.one; first | assumption | ((refine InSG.get ?_ (by assumption)); assumption) | ((refine (sg_low _ ?_).2.1); (refine InSG.get ?_ (by assumption)); assumption)) | exact InSG.take (by assumption) _ | exact InSG.drop (by assumption) _
  k_with "call builtin:str.upper" => k_dflt (refine' upper1 ?zhh ?_; (case zhh => walk_at "mine sg"); intro _ _ _ _)
  k_with "call builtin:str.lower" => k_dflt (refine' lowerS ?zhh ?zhz ?_; (case zhh => walk_at "mine sg"); (case zhz => walk_at "mine size"); intro _ _; (try rw [List.map_cons, List.map_nil]))
  k_with "binaryOp Pow int int" => k_dflt (refine' pow_int_small ?zha ?zhb ?zhc ?_; (case zha => walk_at "mine nat"); (case zhb => walk_at "mine nat"); (case zhc => decide))
  k_with "binaryOp FloorDiv int int" => k_dflt ((with_reducible show wpAny _ _ (binaryOp _ _ (Value.int (HPow.hPow _ _) _)) _ _ _); refine' floordiv_int ?zhb ?_ (Or.inl (py3 ?zhq _)); (case zhq => (rw [Int.toNat_natCast]; omega)); (case zhb => exact Int.ne_of_gt (Int.pow_pos (by decide))))
  k_with "TurnPost" => k_dflt ((with_reducible show TurnPost _ _ _ _ _ _ _ _ (Flow.ret _) _); (with_reducible refine turnPost_ret ?_); (try dsimp only))
  k_with "mine chr" => first | assumption | omega | exact Small.get (by assumption) (by assumption)
  k_with "mine asz" => (simp only [List.size_toArray, List.length_append, List.length_cons, List.length_nil, sizeLine_eq]; omega)
  k_with "subscriptTail" => k_dflt ((with_reducible show wpAny _ _ (subscriptTail _ _ (Value.ref _) (Value.int (-1) _)) _ _ _); refine' last_get ?zhN ?zhm ?zhz ?_; (case zhN => k_asm); (case zhm => k_mem); (case zhz => omega))
  k_with "setItem ref int" => k_dflt ((with_reducible show wpAny _ _ (setItem (Value.ref _) (Value.int (-1) _) _) _ _ _); refine' last_set ?zhF ?zhN ?zhU ?zhz ?_; (case zhF => k_asm); (case zhN => k_asm); (case zhU => first | k_upd | (exact Upd.tail (by assumption) (Upd.head (by assumption))) | (exact Upd.tail (by assumption) (Upd.tail (by assumption) (Upd.head (by assumption))))); (case zhz => omega); intro _ _ _)
  k_with "call builtin:list.append" => k_dflt (refine' append_K ?zhF ?zhN ?zhU ?_ ?zhz; (case zhF => k_asm); (case zhN => k_asm); (case zhU => first | k_upd | (exact Upd.tail (by assumption) (Upd.head (by assumption))) | (exact Upd.tail (by assumption) (Upd.tail (by assumption) (Upd.head (by assumption))))); (case zhz => walk_at "mine asz"); intro _ _ _)
  trivial

/-- the pieces list at work -/
noncomputable def PcJ (b : Nat) (l : List Nat) (o : Obj) : Prop := ∃ (vs : List Value) (ls : List (List Nat)) (a : List Nat) (ua : Tok) (n : Nat), o = listOf (vs ++ [Value.str (S a) ua]).toArray n ∧ StrsL vs ls ∧ ls.flatten ++ a = l ∧ vs.length ≤ b
theorem PcJ.le {b c : Nat} {l : List Nat} {o : Obj} (h : PcJ b l o) (k : b ≤ c) : PcJ c l o := by
  obtain ⟨vs, ls, a, ua, n, h1, h2, h3, h4⟩ := h
  exact ⟨vs, ls, a, ua, n, h1, h2, h3, Nat.le_trans h4 k⟩

theorem pieces_ok (l : List Nat) (u : Tok) (num : Int) (u2 : Tok) (hz : l.length ≤ 20) : Claim prog w mean mg mb 4 468 nx [.str (S l) u, .int num u2] (fun v nx' => ∃ D o, v = .ref D ∧ nx' = (D, o) :: nx ∧ (∀ p ∈ nx, p.1 ≠ D) ∧ PcJ 60 l o) := by
  unfold Claim
  intro dp un gd cn cs a ccd cl outer A₀ base h₀ L m s Q E B F X N Tp hk hd hu hret
  refine wpAny_call ?_
  k_dflt cell_enter
  walk_at "mine steps"
  refine' range_loopX _ (n := l.length) (fun c i m1 nx1 => (m1 "pieces" = some (.ref c) ∧ m1 "text" = some (.str (S l) u) ∧ m1 "number" = some (.int num u2)) ∧ (∀ p ∈ nx, p.1 ≠ c) ∧ ∃ o, nx1 = (c, o) :: nx ∧ PcJ (3 * i) (l.take i) o) (by assumption) rfl (by omega) rfl (by k_asm) (by k_asm) (by exact ⟨⟨rfl, rfl, rfl⟩, (fun p hp => Nat.ne_of_lt (‹∀ (p : Addr × Obj), p ∈ nx → p.fst < _› p hp)), _, rfl, [], [], [], _, 0, by rw [← S_nil]; rfl, .nil, rfl, Nat.zero_le _⟩) ?_ ?_
  · rintro I i m1 nx1 h tk oI t hi9 hit hne ⟨⟨h1, h2, h3⟩, hf, o, rfl, vs9, ls9, a9, ua, n9, rfl, hS, hfl, hv⟩ F1 N1
    have F2 := Mine.Fr.turn (ps := [("pieces", .ref _), ("text", .str (S l) u), ("number", .int num u2)]) F1 (List.forall_mem_cons.mpr ⟨h1, List.forall_mem_cons.mpr ⟨h2, List.forall_mem_cons.mpr ⟨h3, fun _ h => nomatch h⟩⟩⟩)
    clear F1
    have hIc := Ne.symm (hne _ (List.Mem.head _))
    dsimp only at hIc
    have ha9 : a9.length ≤ 20 := by
      have := congrArg List.length hfl
      rw [List.length_append, List.length_take] at this
      omega
    walk_at "mine steps"
    all_goals refine' range_loopX _ (n := Int.toNat _) (fun c j m2 nx2 => (m2 "pieces" = some (.ref c) ∧ m2 "text" = some (.str (S l) u) ∧ m2 "number" = some (.int num u2)) ∧ ∃ o, nx2 = (I, oI) :: (c, o) :: nx ∧ PcJ (3 * i + j) (l.take (i + 1)) o) (by assumption) (by refine (Int.toNat_of_nonneg ?_).symm; decide) (by decide) rfl (by k_asm) (by k_asm) (by exact ⟨⟨rfl, rfl, rfl⟩, _, rfl, vs9, ls9, a9 ++ [_], _, n9, by rw [← S_app], hS, by rw [← List.append_assoc, hfl, List.take_add_one, ‹l[i]? = some _›]; rfl, hv⟩) ?_ ?_
    · rintro I2 j m2 nx2 h' tk' oI2 t2 hj9 hit2 hne2 ⟨⟨g1, g2, g3⟩, o, rfl, vs8, ls8, a8, ua8, n8, rfl, hS8, hfl8, hv8⟩ F3 N3
      have F4 := Mine.Fr.turn (ps := [("pieces", .ref _), ("text", .str (S l) u), ("number", .int num u2)]) F3 (List.forall_mem_cons.mpr ⟨g1, List.forall_mem_cons.mpr ⟨g2, List.forall_mem_cons.mpr ⟨g3, fun _ h => nomatch h⟩⟩⟩)
      clear F3
      have hI2 := Ne.symm (hne2 _ (List.Mem.tail _ (List.Mem.head _)))
      dsimp only at hI2
      walk_at "mine steps"
      exact turnPost_next (by k_asm) (by k_asm) (List.forall_mem_cons.mpr ⟨hne2 _ (.head _), List.forall_mem_cons.mpr ⟨Ne.symm hI2, fun p hp => hne2 p (.tail _ (.tail _ hp))⟩⟩) (fun _ h => nomatch h) ⟨⟨rfl, rfl, rfl⟩, _, rfl, vs8 ++ [.str (S a8) ua8], ls8 ++ [a8], [], _, n8 + 1, by rw [← S_nil, List.push_toArray], hS8.snoc, by simpa using hfl8, by rw [List.length_append, List.length_singleton]; omega⟩
    · rintro m2 nx2 h' tk' ⟨⟨g1, g2, g3⟩, o, rfl, P8⟩ F3 N3
      have F4 := Mine.Fr.ovl (ps := [("pieces", .ref _), ("text", .str (S l) u), ("number", .int num u2)]) F3 (List.forall_mem_cons.mpr ⟨g1, List.forall_mem_cons.mpr ⟨g2, List.forall_mem_cons.mpr ⟨g3, fun _ h => nomatch h⟩⟩⟩)
      clear F3
      dsimp only
      walk_at "mine steps"
      exact turnPost_next (by k_asm) (by k_asm) (List.forall_mem_cons.mpr ⟨Ne.symm hIc, fun p hp => hne p (.tail _ hp)⟩) (fun _ h => nomatch h) ⟨⟨rfl, rfl, rfl⟩, hf, _, rfl, P8.le (by omega)⟩
    · rintro I2 j m2 nx2 h' tk' oI2 t2 hj9 hit2 hne2 ⟨⟨g1, g2, g3⟩, o, rfl, vs8, ls8, a8, ua8, n8, rfl, hS8, hfl8, hv8⟩ F3 N3
      have F4 := Mine.Fr.turn (ps := [("pieces", .ref _), ("text", .str (S l) u), ("number", .int num u2)]) F3 (List.forall_mem_cons.mpr ⟨g1, List.forall_mem_cons.mpr ⟨g2, List.forall_mem_cons.mpr ⟨g3, fun _ h => nomatch h⟩⟩⟩)
      clear F3
      have hI2 := Ne.symm (hne2 _ (List.Mem.tail _ (List.Mem.head _)))
      dsimp only at hI2
      walk_at "mine steps"
      exact turnPost_next (by k_asm) (by k_asm) (List.forall_mem_cons.mpr ⟨hne2 _ (.head _), List.forall_mem_cons.mpr ⟨Ne.symm hI2, fun p hp => hne2 p (.tail _ (.tail _ hp))⟩⟩) (fun _ h => nomatch h) ⟨⟨rfl, rfl, rfl⟩, _, rfl, vs8 ++ [.str (S a8) ua8], ls8 ++ [a8], [], _, n8 + 1, by rw [← S_nil, List.push_toArray], hS8.snoc, by simpa using hfl8, by rw [List.length_append, List.length_singleton]; omega⟩
    · rintro m2 nx2 h' tk' ⟨⟨g1, g2, g3⟩, o, rfl, P8⟩ F3 N3
      have F4 := Mine.Fr.ovl (ps := [("pieces", .ref _), ("text", .str (S l) u), ("number", .int num u2)]) F3 (List.forall_mem_cons.mpr ⟨g1, List.forall_mem_cons.mpr ⟨g2, List.forall_mem_cons.mpr ⟨g3, fun _ h => nomatch h⟩⟩⟩)
      clear F3
      dsimp only
      walk_at "mine steps"
      exact turnPost_next (by k_asm) (by k_asm) (List.forall_mem_cons.mpr ⟨Ne.symm hIc, fun p hp => hne p (.tail _ hp)⟩) (fun _ h => nomatch h) ⟨⟨rfl, rfl, rfl⟩, hf, _, rfl, P8.le (by omega)⟩
    · rintro I2 j m2 nx2 h' tk' oI2 t2 hj9 hit2 hne2 ⟨⟨g1, g2, g3⟩, o, rfl, vs8, ls8, a8, ua8, n8, rfl, hS8, hfl8, hv8⟩ F3 N3
      have F4 := Mine.Fr.turn (ps := [("pieces", .ref _), ("text", .str (S l) u), ("number", .int num u2)]) F3 (List.forall_mem_cons.mpr ⟨g1, List.forall_mem_cons.mpr ⟨g2, List.forall_mem_cons.mpr ⟨g3, fun _ h => nomatch h⟩⟩⟩)
      clear F3
      have hI2 := Ne.symm (hne2 _ (List.Mem.tail _ (List.Mem.head _)))
      dsimp only at hI2
      walk_at "mine steps"
      exact turnPost_next (by k_asm) (by k_asm) (List.forall_mem_cons.mpr ⟨hne2 _ (.head _), List.forall_mem_cons.mpr ⟨Ne.symm hI2, fun p hp => hne2 p (.tail _ (.tail _ hp))⟩⟩) (fun _ h => nomatch h) ⟨⟨rfl, rfl, rfl⟩, _, rfl, vs8 ++ [.str (S a8) ua8], ls8 ++ [a8], [], _, n8 + 1, by rw [← S_nil, List.push_toArray], hS8.snoc, by simpa using hfl8, by rw [List.length_append, List.length_singleton]; omega⟩
    · rintro m2 nx2 h' tk' ⟨⟨g1, g2, g3⟩, o, rfl, P8⟩ F3 N3
      have F4 := Mine.Fr.ovl (ps := [("pieces", .ref _), ("text", .str (S l) u), ("number", .int num u2)]) F3 (List.forall_mem_cons.mpr ⟨g1, List.forall_mem_cons.mpr ⟨g2, List.forall_mem_cons.mpr ⟨g3, fun _ h => nomatch h⟩⟩⟩)
      clear F3
      dsimp only
      walk_at "mine steps"
      exact turnPost_next (by k_asm) (by k_asm) (List.forall_mem_cons.mpr ⟨Ne.symm hIc, fun p hp => hne p (.tail _ hp)⟩) (fun _ h => nomatch h) ⟨⟨rfl, rfl, rfl⟩, hf, _, rfl, P8.le (by omega)⟩
  · rintro m1 nx1 h tk ⟨⟨h1, h2, h3⟩, hf, o, rfl, vs9, ls9, a9, ua, n9, rfl, hS, hfl, hv⟩ F1 N1
    have F2 := Mine.Fr.ovl (ps := [("pieces", .ref _)]) F1 (List.forall_mem_cons.mpr ⟨h1, fun _ h => nomatch h⟩)
    clear F1
    walk_at "mine steps"
    exact hret _ _ _ _ ⟨_, _, rfl, rfl, hf, vs9, ls9, a9, ua, n9, rfl, hS, by rw [hfl, List.take_length], by omega⟩ (by k_asm) (by k_asm)


end C4

section C5
open PySem PySem.W PyProof.Rows PySem.Calls
set_option maxRecDepth 100000
set_option maxHeartbeats 4000000
theorem lines_C5_1 : True := by
  w_top off
  k_with_none
  k_with "execs cons" => k_fold
  k_with "exec If" => k_fold
  k_with "exec Assign" => k_fold
  k_with "exec Expr" => k_fold
  k_with "exec Return" => k_fold
  k_with "callWith" => k_fold
  k_with "call ref" => k_fold
  k_with "mine steps" => repeat' ((fail_if_success (with_reducible show wpAny _ _ (pyIter _) _ _ _)); (fail_if_success (with_reducible show wpAny _ _ (exec (Stmt.For _ (Expr.Name _ _) _ _ _) _) _ _ _)); first | (k_unfold; (try dsimp only)) | walk1 | (dsimp only; walk1) | (leave1; (try dsimp only)))
  k_with "mine H" => (first | (with_reducible assumption) | (with_reducible refine' TokX.cons1 ?zhhh; (case zhhh => with_reducible assumption)) | (with_reducible refine' TokX.cons2 ?zhhh; (case zhhh => with_reducible assumption)) | (with_reducible refine' TokX.cons3 ?zhhh; (case zhhh => with_reducible assumption)))
  k_with "mine row" => (first | (with_reducible assumption) | (apply RowIs.of; k_mem; (repeat' constructor); done))
  k_with "mine HD" => (first | (with_reducible assumption) | (exact TokX.dr (by with_reducible assumption) rfl) | (exact TokX.dr (by with_reducible assumption) (by with_reducible assumption)) | (exact DraftAt.keepA (by with_reducible assumption) (by with_reducible assumption)) | (exact TokX.dr (by with_reducible assumption) (by assumption)))
  k_with "mine fxnh" => ((case zhF => k_asm); (case zhX => k_asm); (case zhN => k_asm); (case zhH => walk_at "mine H"))
  k_with "getAttr ref" => k_dflt (first | (with_reducible refine' get_at ?zhF ?zhX ?zhN ?zhH ?_; walk_at "mine fxnh"; intro _) | (with_reducible refine' get_stream ?zhF ?zhX ?zhN ?zhH ?_; walk_at "mine fxnh") | (with_reducible refine' get_signs ?zhF ?zhX ?zhN ?zhH ?_; walk_at "mine fxnh") | (with_reducible refine' get_out ?zhF ?zhX ?zhN ?zhH ?_; walk_at "mine fxnh") | (with_reducible refine' get_errors ?zhF ?zhX ?zhN ?zhH ?_; walk_at "mine fxnh") | (with_reducible refine' get_draft ?zhF ?zhX ?zhN ?zhH ?_; walk_at "mine fxnh") | (with_reducible refine' get_state ?zhF ?zhX ?zhN ?zhH ?_; walk_at "mine fxnh"; intro _) | (with_reducible refine' get_states ?zhF ?zhX ?zhN ?zhH ?_; walk_at "mine fxnh") | (with_reducible refine' get_waiting ?zhF ?zhX ?zhN ?zhH ?_; walk_at "mine fxnh") | (with_reducible refine' get_done ?zhF ?zhX ?zhN ?zhH ?_; walk_at "mine fxnh") | (with_reducible refine' get_foreign ?zhF ?zhX ?zhN ?zhH ?_; walk_at "mine fxnh") | (with_reducible refine' get_last ?zhF ?zhX ?zhN ?zhH ?_; walk_at "mine fxnh"; intro _) | (with_reducible refine' get_closed ?zhF ?zhX ?zhN ?zhH ?_; walk_at "mine fxnh") | (with_reducible refine' get_return ?zhF ?zhX ?zhN ?zhH ?_; walk_at "mine fxnh") | (with_reducible refine' get_serr ?zhF ?zhX ?zhN ?zhH ?_; walk_at "mine fxnh") | (with_reducible refine' getd_text ?zhF ?zhX ?zhN ?zhH ?_; (case zhF => k_asm); (case zhX => k_asm); (case zhN => k_asm); (case zhH => walk_at "mine HD"); intro _) | (with_reducible refine' getd_kind ?zhF ?zhX ?zhN ?zhH ?_; (case zhF => k_asm); (case zhX => k_asm); (case zhN => k_asm); (case zhH => walk_at "mine HD"); intro _))
  k_with "setAttr ref" => k_dflt (first | (with_reducible refine' set_state ?zhF ?zhX ?zhN ?zhH ?_; walk_at "mine fxnh"; intro _ _ _ _ _ _) | (with_reducible refine' set_waiting ?zhF ?zhX ?zhN ?zhH ?_; walk_at "mine fxnh"; intro _ _ _ _ _ _) | (with_reducible refine' set_done ?zhF ?zhX ?zhN ?zhH ?_; walk_at "mine fxnh"; intro _ _ _ _ _ _) | (with_reducible refine' set_foreign ?zhF ?zhX ?zhN ?zhH ?_; walk_at "mine fxnh"; intro _ _ _ _ _ _) | (with_reducible refine' set_closed ?zhF ?zhX ?zhN ?zhH ?_; walk_at "mine fxnh"; intro _ _ _ _ _ _) | (with_reducible refine' set_return ?zhF ?zhX ?zhN ?zhH ?_; walk_at "mine fxnh"; intro _ _ _ _ _ _) | (with_reducible refine' set_draft_none ?zhF ?zhX ?zhN ?zhH ?_; walk_at "mine fxnh"; intro _ _ _ _ _ _) | (with_reducible refine' set_draft ?zhF ?zhX ?zhN ?zhH ?zhhy ?_; walk_at "mine fxnh"; (case zhhy => with_reducible assumption); intro _ _ _ _ _ _) | (with_reducible refine' setd_text ?zhF ?zhX ?zhN ?zhH ?zhhd ?zhhy ?_; walk_at "mine fxnh"; (case zhhd => first | with_reducible assumption | rfl); (case zhhy => first | exact rfl | exact S_app _ _ | (rw [S_fffd]; exact S_app _ _)); intro _ _ _ _ _) | ((with_reducible show wpAny _ _ (setAttr (Value.ref (TA.t _)) (PySem.Str.ofString "at") _) _ _ _); refine' set_at ?zhF ?zhX ?zhN ?zhH (Int.natCast_add _ _).symm ?_; walk_at "mine fxnh"; intro _ _ _ _ _ _) | ((with_reducible show wpAny _ _ (setAttr (Value.ref (TA.t _)) (PySem.Str.ofString "at") _) _ _ _); refine' set_at ?zhF ?zhX ?zhN ?zhH (cast_pred ?zhp) ?_; walk_at "mine fxnh"; (case zhp => first | with_reducible assumption | omega); intro _ _ _ _ _ _) | ((with_reducible show wpAny _ _ (setAttr (Value.ref (TA.t _)) (PySem.Str.ofString "at") _) _ _ _); refine' set_at ?zhF ?zhX ?zhN ?zhH (Eq.refl (Nat.cast _)) ?_; walk_at "mine fxnh"; intro _ _ _ _ _ _))
  k_with "getMethod ref" => k_dflt (first | ((with_reducible show wpAny _ _ (getMethod (Value.ref (TA.t _)) _ _) _ _ _); refine' tok_method ?zhF ?zhX ?zhN ?zhH ?zhg ?zhf ?zht ?zhl ?_; walk_at "mine fxnh"; (case zhg => k_dflt k_is); (case zhf => k_dflt k_is); (case zht => k_dflt k_is); (case zhl => intro _; rfl)) | ((with_reducible show wpAny _ _ (getMethod (Value.ref (TA.st _)) _ _) _ _ _); refine' str_method ?zhF ?zhX ?zhN ?zhH ?zhg ?zhf ?zht ?zhl ?_; walk_at "mine fxnh"; (case zhg => k_dflt k_is); (case zhf => k_dflt k_is); (case zht => k_dflt k_is); (case zhl => intro _; rfl)) | (refine' dr_method ?zhF ?zhX ?zhN ?zhH ?zhg ?zhf ?zht ?zhl ?_; (case zhF => k_asm); (case zhX => k_asm); (case zhN => k_asm); (case zhH => walk_at "mine HD"); (case zhg => k_dflt k_is); (case zhf => k_dflt k_is); (case zht => k_dflt k_is); (case zhl => intro _ _ _; rfl)) | ((with_reducible show wpAny _ _ (getMethod (Value.ref (TA.er _)) _ _) _ _ _); refine' app_method_er ?zhN ?zhH ?_; (case zhN => k_asm); (case zhH => walk_at "mine H")) | ((with_reducible show wpAny _ _ (getMethod (Value.ref (TA.ou _)) _ _) _ _ _); refine' app_method_ou ?zhN ?zhH ?_; (case zhN => k_asm); (case zhH => walk_at "mine H")) | ((with_reducible show wpAny _ _ (getMethod (Value.ref (TA.se _)) _ _) _ _ _); refine' app_method_se ?zhN ?zhH ?_; (case zhN => k_asm); (case zhH => walk_at "mine H")) | ((with_reducible show wpAny _ _ (getMethod (Value.ref (TA.sg _)) _ _) _ _ _); refine' app_method_sg ?zhN ?zhH ?_; (case zhN => k_asm); (case zhH => walk_at "mine H")))
  k_with "call builtin:list.append" => k_dflt (first | ((with_reducible show wpAny _ _ (call _ [Value.ref (TA.er _), _]) _ _ _); refine' app_er ?zhF ?zhN ?zhH ?zhr ?zhz ?_; (case zhF => k_asm); (case zhN => k_asm); (case zhH => walk_at "mine H"); (case zhr => walk_at "mine row"); (case zhz => walk_at "mine size"); intro _ _ _ _ _ _) | ((with_reducible show wpAny _ _ (call _ [Value.ref (TA.ou _), _]) _ _ _); refine' app_ou ?zhF ?zhN ?zhH ?zhr ?zhz ?_; (case zhF => k_asm); (case zhN => k_asm); (case zhH => walk_at "mine H"); (case zhr => walk_at "mine row"); (case zhz => walk_at "mine size"); intro _ _ _ _ _ _) | ((with_reducible show wpAny _ _ (call _ [Value.ref (TA.se _), _]) _ _ _); refine' app_se ?zhF ?zhN ?zhH ?zhr ?zhz ?_; (case zhF => k_asm); (case zhN => k_asm); (case zhH => walk_at "mine H"); (case zhr => walk_at "mine row"); (case zhz => walk_at "mine size"); intro _ _ _ _ _ _) | ((with_reducible show wpAny _ _ (call _ [Value.ref (TA.sg _), _]) _ _ _); refine' app_sg ?zhF ?zhN ?zhH ?zhhx ?zhz ?_; (case zhF => k_asm); (case zhN => k_asm); (case zhH => walk_at "mine H"); (case zhhx => first | exact S_nl | exact rfl); (case zhz => walk_at "mine size"); intro _ _ _ _ _ _))
  k_with "mine size" => first | with_reducible assumption | ((try dsimp only at *); omega) | ((try dsimp only at *); simp only [List.length_append, List.length_cons, List.length_nil, List.length_take, List.length_drop, List.length_map] at *; omega)
  k_with "call builtin:len" => k_dflt ((with_reducible refine' len_S ?zhz ?_); (case zhz => walk_at "mine size"))
  k_with "call builtin:ord" => k_dflt (with_reducible refine' ord_S ?_)
  k_with "call builtin:chr" => k_dflt (refine' chr_S (Int.natCast_add _ _).symm ?zhz ?_; (case zhz => omega))
  k_with "call builtin:len" => k_dflt (with_reducible refine' len_sg ?zhN ?zhH ?zhz ?_; (case zhN => k_asm); (case zhH => walk_at "mine H"); (case zhz => walk_at "mine size"))
  k_with "mine slen" => (simp only [S_fffd, S_len, S_nil, List.length_append, List.length_cons, List.length_nil, sizeLine]; omega)
  k_with "binaryOp Add str str" => k_dflt (refine' PyProof.Rows.add_str ?_ ?zhz9; (case zhz9 => walk_at "mine slen"); intro _ _)
  k_with "mine news" => first | k_asm | exact News.ofCons (by assumption)
  k_with "mine for" => ((rename Fr _ _ _ _ => lF'); (with_unfolding_all refine' For_invVF lF' ?zhk1 ?zhk2 ?_; (case zhk1 => exact rfl); (case zhk2 => exact rfl)))
  k_with "mine name" => k_dflt ((refine' nameX_L ?zhF ?zhv ?_ ?zha ?zhb ?zhc); (case zhF => k_asm); (case zha => rfl); (case zhb => rfl); (case zhv => rfl); (case zhc => decide))
  k_with "mine locs" => ((repeat' (refine List.forall_mem_cons.mpr ⟨rfl, ?_⟩)); exact fun _ h => nomatch h)
  k_with "subscriptTail" => k_dflt ((with_reducible show wpAny _ _ (subscriptTail _ _ (Value.ref (TA.sg _)) (Value.int _ _)) _ _ _); refine' item_sg ?zhN ?zhH ?zhe ?zhhi ?zhz ?_; (case zhN => k_asm); (case zhH => walk_at "mine H"); (case zhe => first | exact rfl | exact (Int.natCast_add _ _).symm); (case zhhi => (try dsimp only at *); omega); (case zhz => walk_at "mine size"); intro c9 u9 hc9)
  k_with "subscriptTail" => k_dflt ((with_reducible show wpAny _ _ (subscriptTail _ _ (Value.str _ _) (Value.int _ _)) _ _ _); refine' item_S ?zhhi ?zhz ?_; (case zhhi => (try dsimp only at *); omega); (case zhz => walk_at "mine size"); intro c9 u9 hc9)
  k_with "subscriptTail Name Name str int" => k_dflt ((with_reducible show wpAny _ _ (subscriptTail _ _ (Value.str _ _) (Value.int _ _)) _ _ _); refine' item_S ?zhhi ?zhz ?_; (case zhhi => (try dsimp only at *); omega); (case zhz => walk_at "mine size"); intro c9 u9 hc9)
  trivial

variable {prog : Program} {w : World} {mean : ExcName → Option Value} {mg mb : Str → Option Value} {T : TA} {n0 : Led} {d : D} {dv : Value} {nx : Led}

theorem S_beqL {a b : List Nat} : (S a == S b) = decide (a = b) := by
  rw [Bool.eq_iff_iff, beq_iff_eq, decide_eq_true_iff]
  exact ⟨S_inj, fun h => by rw [h]⟩
theorem S_beqX {a b : List Nat} {x : Str} (hx : x = S b) : (S a == x) = decide (a = b) := by rw [hx, S_beqL]

section
variable {l : List Nat} {e : Bool}
theorem kd1 (h : (S (l.take (Int.toNat 2)) == Str.ofString "--") = true) : l.take 2 = wDash := of_decide_eq_true ((S_beqX S_dash).symm.trans h)
theorem kd1n (h : (S (l.take (Int.toNat 2)) == Str.ofString "--") = false) : ¬ l.take 2 = wDash := of_decide_eq_false ((S_beqX S_dash).symm.trans h)
theorem kd2 (h : (S ((l.take (Int.toNat 7)).map lowc) == Str.ofString "doctype") = true) : (l.take 7).map lowc = wDoc := of_decide_eq_true ((S_beqX S_doc).symm.trans h)
theorem kd2n (h : (S ((l.take (Int.toNat 7)).map lowc) == Str.ofString "doctype") = false) : ¬ (l.take 7).map lowc = wDoc := of_decide_eq_false ((S_beqX S_doc).symm.trans h)
theorem kd3 (h : (S (l.take (Int.toNat 7)) == Str.ofString "[CDATA[") = true) : l.take 7 = wCd := of_decide_eq_true ((S_beqX S_cd).symm.trans h)
theorem kd3n (h : (S (l.take (Int.toNat 7)) == Str.ofString "[CDATA[") = false) : ¬ l.take 7 = wCd := of_decide_eq_false ((S_beqX S_cd).symm.trans h)
theorem kd4b : ([Txt.slice (Str.ofString "--") none (some (l.length : Int)), Txt.slice (Str.ofString "[CDATA[") none (some (l.length : Int))].any fun x => x == S l) = decide (l = wDash.take l.length ∨ l = wCd.take l.length) := by
  rw [S_dash, S_cd, slice_to, slice_to]
  rw [Bool.eq_iff_iff, decide_eq_true_iff]
  simp only [List.any_cons, List.any_nil, Bool.or_false, Bool.or_eq_true, S_beqL, decide_eq_true_eq]
  exact or_congr ⟨Eq.symm, Eq.symm⟩ ⟨Eq.symm, Eq.symm⟩
theorem kd5b : (S ((l.take (Int.toNat 7)).map lowc) == Txt.slice (Str.ofString "doctype") none (some (l.length : Int))) = decide ((l.take 7).map lowc = wDoc.take l.length) := by
  rw [S_doc, slice_to, S_beqL]; rfl
theorem kind_1 (h : (S (l.take (Int.toNat 2)) == Str.ofString "--") = true) : Str.ofString "comment" = (kindF l e).str := by
  unfold kindF; rw [if_pos (kd1 h)]; rfl
theorem kind_2 (h : (S (l.take (Int.toNat 2)) == Str.ofString "--") = false) (h2 : (S ((l.take (Int.toNat 7)).map lowc) == Str.ofString "doctype") = true) : Str.ofString "doctype" = (kindF l e).str := by
  unfold kindF; rw [if_neg (kd1n h), if_pos (kd2 h2)]; rfl
theorem kind_3 (h : (S (l.take (Int.toNat 2)) == Str.ofString "--") = false) (h2 : (S ((l.take (Int.toNat 7)).map lowc) == Str.ofString "doctype") = false) (h3 : (S (l.take (Int.toNat 7)) == Str.ofString "[CDATA[") = true) : Str.ofString "cdata" = (kindF l e).str := by
  unfold kindF; rw [if_neg (kd1n h), if_neg (kd2n h2), if_pos (kd3 h3)]; rfl
theorem kind_4 (h : (S (l.take (Int.toNat 2)) == Str.ofString "--") = false) (h2 : (S ((l.take (Int.toNat 7)).map lowc) == Str.ofString "doctype") = false) (h3 : (S (l.take (Int.toNat 7)) == Str.ofString "[CDATA[") = false) (he : e = true) : Str.ofString "bogus" = (kindF l e).str := by
  unfold kindF; rw [if_neg (kd1n h), if_neg (kd2n h2), if_neg (kd3n h3), if_neg (by rw [he]; simp), if_neg (by rw [he]; simp)]; rfl
theorem kind_5 (h : (S (l.take (Int.toNat 2)) == Str.ofString "--") = false) (h2 : (S ((l.take (Int.toNat 7)).map lowc) == Str.ofString "doctype") = false) (h3 : (S (l.take (Int.toNat 7)) == Str.ofString "[CDATA[") = false) (he : e = false)
    (h4 : ([Txt.slice (Str.ofString "--") none (some (l.length : Int)), Txt.slice (Str.ofString "[CDATA[") none (some (l.length : Int))].any fun x => x == S l) = true) : Str.ofString "wait" = (kindF l e).str := by
  unfold kindF; rw [if_neg (kd1n h), if_neg (kd2n h2), if_neg (kd3n h3), if_pos ⟨he, of_decide_eq_true (kd4b.symm.trans h4)⟩]; rfl
theorem kind_6 (h : (S (l.take (Int.toNat 2)) == Str.ofString "--") = false) (h2 : (S ((l.take (Int.toNat 7)).map lowc) == Str.ofString "doctype") = false) (h3 : (S (l.take (Int.toNat 7)) == Str.ofString "[CDATA[") = false) (he : e = false)
    (h4 : ([Txt.slice (Str.ofString "--") none (some (l.length : Int)), Txt.slice (Str.ofString "[CDATA[") none (some (l.length : Int))].any fun x => x == S l) = false) (h5 : (l.length : Int) < 7)
    (h6 : (S ((l.take (Int.toNat 7)).map lowc) == Txt.slice (Str.ofString "doctype") none (some (l.length : Int))) = true) : Str.ofString "wait" = (kindF l e).str := by
  have n4 := of_decide_eq_false (kd4b.symm.trans h4)
  unfold kindF; rw [if_neg (kd1n h), if_neg (kd2n h2), if_neg (kd3n h3), if_neg (fun q => n4 q.2), if_pos ⟨he, by omega, of_decide_eq_true (kd5b.symm.trans h6)⟩]; rfl
theorem kind_7 (h : (S (l.take (Int.toNat 2)) == Str.ofString "--") = false) (h2 : (S ((l.take (Int.toNat 7)).map lowc) == Str.ofString "doctype") = false) (h3 : (S (l.take (Int.toNat 7)) == Str.ofString "[CDATA[") = false)
    (h4 : ([Txt.slice (Str.ofString "--") none (some (l.length : Int)), Txt.slice (Str.ofString "[CDATA[") none (some (l.length : Int))].any fun x => x == S l) = false)
    (h6 : (S ((l.take (Int.toNat 7)).map lowc) == Txt.slice (Str.ofString "doctype") none (some (l.length : Int))) = false) : Str.ofString "bogus" = (kindF l e).str := by
  have n4 := of_decide_eq_false (kd4b.symm.trans h4)
  have n6 := of_decide_eq_false (kd5b.symm.trans h6)
  unfold kindF; rw [if_neg (kd1n h), if_neg (kd2n h2), if_neg (kd3n h3), if_neg (fun q => n4 q.2), if_neg (fun q => n6 q.2.2)]; rfl
theorem kind_8 (h : (S (l.take (Int.toNat 2)) == Str.ofString "--") = false) (h2 : (S ((l.take (Int.toNat 7)).map lowc) == Str.ofString "doctype") = false) (h3 : (S (l.take (Int.toNat 7)) == Str.ofString "[CDATA[") = false)
    (h4 : ([Txt.slice (Str.ofString "--") none (some (l.length : Int)), Txt.slice (Str.ofString "[CDATA[") none (some (l.length : Int))].any fun x => x == S l) = false) (h5 : ¬ (l.length : Int) < 7) : Str.ofString "bogus" = (kindF l e).str := by
  have n4 := of_decide_eq_false (kd4b.symm.trans h4)
  unfold kindF; rw [if_neg (kd1n h), if_neg (kd2n h2), if_neg (kd3n h3), if_neg (fun q => n4 q.2), if_neg (fun q => h5 (by omega))]; rfl
end

theorem lines_C5_2 : True := by
  k_with "mine lit" => first | exact rfl | exact S_dash | exact S_doc | exact S_cd
  k_with "mine nat" => first | (with_reducible assumption) | decide | omega | (k_fmods; omega)
  k_with "subscriptTail" => k_dflt (first | ((with_reducible show wpAny _ _ (subscriptTail _ (Expr.Slice none (some _) none _) (Value.str _ _) _) _ _ _); refine' cut_to (s := ⟨_, _, _, _, _⟩) ?zhy ?zhF ?zhN ?zhh0 ?zhz ?_; (case zhy => walk_at "mine lit"); (case zhF => k_asm); (case zhN => k_asm); (case zhh0 => walk_at "mine nat"); (case zhz => walk_at "mine size"); intro _ _ _ _ _) | ((with_reducible show wpAny _ _ (subscriptTail _ (Expr.Slice (some _) none none _) (Value.str _ _) _) _ _ _); refine' cut_from (s := ⟨_, _, _, _, _⟩) ?zhy ?zhF ?zhN ?zhh0 ?zhz ?_; (case zhy => walk_at "mine lit"); (case zhF => k_asm); (case zhN => k_asm); (case zhh0 => walk_at "mine nat"); (case zhz => walk_at "mine size"); intro _ _ _ _ _) | ((with_reducible show wpAny _ _ (subscriptTail _ (Expr.Slice (some _) (some _) none _) (Value.str _ _) _) _ _ _); refine' cut_mid (s := ⟨_, _, _, _, _⟩) ?zhy ?zhF ?zhN ?zhh0 ?zhh1 ?zhh2 ?zhz ?_; (case zhy => walk_at "mine lit"); (case zhF => k_asm); (case zhN => k_asm); (case zhh0 => walk_at "mine nat"); (case zhh1 => walk_at "mine nat"); (case zhh2 => walk_at "mine nat"); (case zhz => walk_at "mine size"); intro _ _ _ _ _))
  k_with "mine sg" => first | (with_reducible assumption) | ((refine InSG.get ?_ (by assumption)); assumption) | (apply InSG.one; first | assumption | ((refine InSG.get ?_ (by assumption)); assumption) | ((refine (sg_low _ ?_).2.1); (refine InSG.get ?_ (by assumption)); assumption)) | exact InSG.take (by assumption) _ | exact InSG.drop (by assumption) _
  k_with "call builtin:str.upper" => k_dflt (refine' upper1 ?zhh ?_; (case zhh => walk_at "mine sg"); intro _ _ _ _)
  k_with "call builtin:str.lower" => k_dflt (refine' lowerS ?zhh ?zhz ?_; (case zhh => walk_at "mine sg"); (case zhz => walk_at "mine size"); intro _ _; (try rw [List.map_cons, List.map_nil]))
  k_with "binaryOp Pow int int" => k_dflt (refine' pow_int_small ?zha ?zhb ?zhc ?_; (case zha => walk_at "mine nat"); (case zhb => walk_at "mine nat"); (case zhc => decide))
  k_with "binaryOp FloorDiv int int" => k_dflt ((with_reducible show wpAny _ _ (binaryOp _ _ (Value.int (HPow.hPow _ _) _)) _ _ _); refine' floordiv_int ?zhb ?_; (case zhb => exact Int.ne_of_gt (Int.pow_pos (by decide))))
  trivial


theorem kind_ok (l : List Nat) (u : Tok) (e : Bool) (hz : l.length ≤ 100) (hs : InSG l) : Claim prog w mean mg mb 4 482 nx [.str (S l) u, .bool e] (fun v nx' => nx' = nx ∧ IsStr v (kindF l e).str) := by
  unfold Claim
  intro dp un gd cn cs a ccd cl outer A₀ base h₀ L m s Q E B F X N Tp hk hd hu hret
  refine wpAny_call ?_
  k_dflt cell_enter
  walk_at "mine steps"
  all_goals exact hret _ nx _ _ ⟨rfl, .mk (by first | exact kind_1 ‹_› | exact kind_2 ‹_› ‹_› | exact kind_3 ‹_› ‹_› ‹_› | exact kind_4 ‹_› ‹_› ‹_› ‹_› | exact kind_5 ‹_› ‹_› ‹_› ‹_› ‹_› | exact kind_6 ‹_› ‹_› ‹_› ‹_› ‹_› ‹_› ‹_› | exact kind_7 ‹_› ‹_› ‹_› ‹_› ‹_› | exact kind_8 ‹_› ‹_› ‹_› ‹_› (by omega))⟩ (by k_asm) (by walk_at "mine news")

end C5

section C6
open PySem PySem.W PyProof.Rows PySem.Calls
set_option maxRecDepth 100000
set_option maxHeartbeats 4000000
theorem lines_C6_1 : True := by
  w_top off
  k_with_none
  k_with "execs cons" => k_fold
  k_with "exec If" => k_fold
  k_with "exec Assign" => k_fold
  k_with "exec Expr" => k_fold
  k_with "exec Return" => k_fold
  k_with "callWith" => k_fold
  k_with "call ref" => k_fold
  k_with "eval Call Attribute" => k_fold
  k_with "eval Call" => k_fold
  k_with "isTrue Compare" => k_fold
  k_with "isTrue" => k_fold
  k_with "eval BinOp" => k_fold
  k_with "eval Compare" => k_fold
  k_with "eval BoolOp" => k_fold
  k_with "eval IfExp" => k_fold
  k_with "eval Subscript" => k_fold
  k_with "mine steps" => repeat' ((fail_if_success (with_reducible show wpAny _ _ (pyIter _) _ _ _)); (fail_if_success (with_reducible show wpAny _ _ (exec (Stmt.For _ (Expr.Name _ _) _ _ _) _) _ _ _)); first | (k_unfold; (try dsimp only)) | walk1 | (dsimp only; walk1) | (leave1; (try dsimp only)))
  k_with "mine H" => (first | (with_reducible assumption) | (with_reducible refine' TokX.cons1 ?zhhh; (case zhhh => with_reducible assumption)) | (with_reducible refine' TokX.cons2 ?zhhh; (case zhhh => with_reducible assumption)) | (with_reducible refine' TokX.cons3 ?zhhh; (case zhhh => with_reducible assumption)))
  k_with "mine row" => (first | (with_reducible assumption) | (apply RowIs.of; k_mem; (repeat' constructor); done))
  k_with "mine HD" => (first | (with_reducible assumption) | (exact TokX.dr (by with_reducible assumption) rfl) | (exact TokX.dr (by with_reducible assumption) (by with_reducible assumption)) | (exact DraftAt.keepA (by with_reducible assumption) (by with_reducible assumption)) | (exact TokX.dr (by with_reducible assumption) (by assumption)))
  k_with "mine fxnh" => ((case zhF => k_asm); (case zhX => k_asm); (case zhN => k_asm); (case zhH => walk_at "mine H"))
  k_with "getAttr ref" => k_dflt (first | (with_reducible refine' get_at ?zhF ?zhX ?zhN ?zhH ?_; walk_at "mine fxnh"; intro _) | (with_reducible refine' get_stream ?zhF ?zhX ?zhN ?zhH ?_; walk_at "mine fxnh") | (with_reducible refine' get_signs ?zhF ?zhX ?zhN ?zhH ?_; walk_at "mine fxnh") | (with_reducible refine' get_out ?zhF ?zhX ?zhN ?zhH ?_; walk_at "mine fxnh") | (with_reducible refine' get_errors ?zhF ?zhX ?zhN ?zhH ?_; walk_at "mine fxnh") | (with_reducible refine' get_draft ?zhF ?zhX ?zhN ?zhH ?_; walk_at "mine fxnh") | (with_reducible refine' get_state ?zhF ?zhX ?zhN ?zhH ?_; walk_at "mine fxnh"; intro _) | (with_reducible refine' get_states ?zhF ?zhX ?zhN ?zhH ?_; walk_at "mine fxnh") | (with_reducible refine' get_waiting ?zhF ?zhX ?zhN ?zhH ?_; walk_at "mine fxnh") | (with_reducible refine' get_done ?zhF ?zhX ?zhN ?zhH ?_; walk_at "mine fxnh") | (with_reducible refine' get_foreign ?zhF ?zhX ?zhN ?zhH ?_; walk_at "mine fxnh") | (with_reducible refine' get_last ?zhF ?zhX ?zhN ?zhH ?_; walk_at "mine fxnh"; intro _) | (with_reducible refine' get_closed ?zhF ?zhX ?zhN ?zhH ?_; walk_at "mine fxnh") | (with_reducible refine' get_return ?zhF ?zhX ?zhN ?zhH ?_; walk_at "mine fxnh") | (with_reducible refine' get_serr ?zhF ?zhX ?zhN ?zhH ?_; walk_at "mine fxnh") | (with_reducible refine' getd_text ?zhF ?zhX ?zhN ?zhH ?_; (case zhF => k_asm); (case zhX => k_asm); (case zhN => k_asm); (case zhH => walk_at "mine HD"); intro _) | (with_reducible refine' getd_kind ?zhF ?zhX ?zhN ?zhH ?_; (case zhF => k_asm); (case zhX => k_asm); (case zhN => k_asm); (case zhH => walk_at "mine HD"); intro _))
  k_with "setAttr ref" => k_dflt (first | (with_reducible refine' set_state ?zhF ?zhX ?zhN ?zhH ?_; walk_at "mine fxnh"; intro _ _ _ _ _ _) | (with_reducible refine' set_waiting ?zhF ?zhX ?zhN ?zhH ?_; walk_at "mine fxnh"; intro _ _ _ _ _ _) | (with_reducible refine' set_done ?zhF ?zhX ?zhN ?zhH ?_; walk_at "mine fxnh"; intro _ _ _ _ _ _) | (with_reducible refine' set_foreign ?zhF ?zhX ?zhN ?zhH ?_; walk_at "mine fxnh"; intro _ _ _ _ _ _) | (with_reducible refine' set_closed ?zhF ?zhX ?zhN ?zhH ?_; walk_at "mine fxnh"; intro _ _ _ _ _ _) | (with_reducible refine' set_return ?zhF ?zhX ?zhN ?zhH ?_; walk_at "mine fxnh"; intro _ _ _ _ _ _) | (with_reducible refine' set_draft_none ?zhF ?zhX ?zhN ?zhH ?_; walk_at "mine fxnh"; intro _ _ _ _ _ _) | (with_reducible refine' set_draft ?zhF ?zhX ?zhN ?zhH ?zhhy ?_; walk_at "mine fxnh"; (case zhhy => with_reducible assumption); intro _ _ _ _ _ _) | (with_reducible refine' setd_text ?zhF ?zhX ?zhN ?zhH ?zhhd ?zhhy ?_; walk_at "mine fxnh"; (case zhhd => first | with_reducible assumption | rfl); (case zhhy => first | exact rfl | exact S_app _ _ | (rw [S_fffd]; exact S_app _ _)); intro _ _ _ _ _) | ((with_reducible show wpAny _ _ (setAttr (Value.ref (TA.t _)) (PySem.Str.ofString "at") _) _ _ _); refine' set_at ?zhF ?zhX ?zhN ?zhH (Int.natCast_add _ _).symm ?_; walk_at "mine fxnh"; intro _ _ _ _ _ _) | ((with_reducible show wpAny _ _ (setAttr (Value.ref (TA.t _)) (PySem.Str.ofString "at") _) _ _ _); refine' set_at ?zhF ?zhX ?zhN ?zhH (cast_pred ?zhp) ?_; walk_at "mine fxnh"; (case zhp => first | with_reducible assumption | omega); intro _ _ _ _ _ _) | ((with_reducible show wpAny _ _ (setAttr (Value.ref (TA.t _)) (PySem.Str.ofString "at") _) _ _ _); refine' set_at ?zhF ?zhX ?zhN ?zhH (Eq.refl (Nat.cast _)) ?_; walk_at "mine fxnh"; intro _ _ _ _ _ _))
  k_with "getMethod ref" => k_dflt (first | ((with_reducible show wpAny _ _ (getMethod (Value.ref (TA.t _)) _ _) _ _ _); refine' tok_method ?zhF ?zhX ?zhN ?zhH ?zhg ?zhf ?zht ?zhl ?_; walk_at "mine fxnh"; (case zhg => k_dflt k_is); (case zhf => k_dflt k_is); (case zht => k_dflt k_is); (case zhl => intro _; rfl)) | ((with_reducible show wpAny _ _ (getMethod (Value.ref (TA.st _)) _ _) _ _ _); refine' str_method ?zhF ?zhX ?zhN ?zhH ?zhg ?zhf ?zht ?zhl ?_; walk_at "mine fxnh"; (case zhg => k_dflt k_is); (case zhf => k_dflt k_is); (case zht => k_dflt k_is); (case zhl => intro _; rfl)) | (refine' dr_method ?zhF ?zhX ?zhN ?zhH ?zhg ?zhf ?zht ?zhl ?_; (case zhF => k_asm); (case zhX => k_asm); (case zhN => k_asm); (case zhH => walk_at "mine HD"); (case zhg => k_dflt k_is); (case zhf => k_dflt k_is); (case zht => k_dflt k_is); (case zhl => intro _ _ _; rfl)) | ((with_reducible show wpAny _ _ (getMethod (Value.ref (TA.er _)) _ _) _ _ _); refine' app_method_er ?zhN ?zhH ?_; (case zhN => k_asm); (case zhH => walk_at "mine H")) | ((with_reducible show wpAny _ _ (getMethod (Value.ref (TA.ou _)) _ _) _ _ _); refine' app_method_ou ?zhN ?zhH ?_; (case zhN => k_asm); (case zhH => walk_at "mine H")) | ((with_reducible show wpAny _ _ (getMethod (Value.ref (TA.se _)) _ _) _ _ _); refine' app_method_se ?zhN ?zhH ?_; (case zhN => k_asm); (case zhH => walk_at "mine H")) | ((with_reducible show wpAny _ _ (getMethod (Value.ref (TA.sg _)) _ _) _ _ _); refine' app_method_sg ?zhN ?zhH ?_; (case zhN => k_asm); (case zhH => walk_at "mine H")))
  k_with "call builtin:list.append" => k_dflt (first | ((with_reducible show wpAny _ _ (call _ [Value.ref (TA.er _), _]) _ _ _); refine' app_er ?zhF ?zhN ?zhH ?zhr ?zhz ?_; (case zhF => k_asm); (case zhN => k_asm); (case zhH => walk_at "mine H"); (case zhr => walk_at "mine row"); (case zhz => walk_at "mine size"); intro _ _ _ _ _ _) | ((with_reducible show wpAny _ _ (call _ [Value.ref (TA.ou _), _]) _ _ _); refine' app_ou ?zhF ?zhN ?zhH ?zhr ?zhz ?_; (case zhF => k_asm); (case zhN => k_asm); (case zhH => walk_at "mine H"); (case zhr => walk_at "mine row"); (case zhz => walk_at "mine size"); intro _ _ _ _ _ _) | ((with_reducible show wpAny _ _ (call _ [Value.ref (TA.se _), _]) _ _ _); refine' app_se ?zhF ?zhN ?zhH ?zhr ?zhz ?_; (case zhF => k_asm); (case zhN => k_asm); (case zhH => walk_at "mine H"); (case zhr => walk_at "mine row"); (case zhz => walk_at "mine size"); intro _ _ _ _ _ _) | ((with_reducible show wpAny _ _ (call _ [Value.ref (TA.sg _), _]) _ _ _); refine' app_sg ?zhF ?zhN ?zhH ?zhhx ?zhz ?_; (case zhF => k_asm); (case zhN => k_asm); (case zhH => walk_at "mine H"); (case zhhx => first | exact S_nl | exact rfl); (case zhz => walk_at "mine size"); intro _ _ _ _ _ _))
  k_with "mine size" => first | with_reducible assumption | ((try dsimp only at *); omega) | ((try dsimp only at *); simp only [List.length_append, List.length_cons, List.length_nil, List.length_take, List.length_drop, List.length_map] at *; omega)
  k_with "call builtin:len" => k_dflt ((with_reducible refine' len_S ?zhz ?_); (case zhz => walk_at "mine size"))
  k_with "call builtin:ord" => k_dflt (with_reducible refine' ord_S ?_)
  k_with "call builtin:chr" => k_dflt (refine' chr_S (Int.natCast_add _ _).symm ?zhz ?_; (case zhz => omega))
  k_with "call builtin:len" => k_dflt (with_reducible refine' len_sg ?zhN ?zhH ?zhz ?_; (case zhN => k_asm); (case zhH => walk_at "mine H"); (case zhz => walk_at "mine size"))
  k_with "mine slen" => (simp only [S_fffd, S_len, S_nil, List.length_append, List.length_cons, List.length_nil, sizeLine]; omega)
  k_with "binaryOp Add str str" => k_dflt (refine' PyProof.Rows.add_str ?_ ?zhz9; (case zhz9 => walk_at "mine slen"); intro _ _)
  k_with "mine news" => first | k_asm | exact News.ofCons (by assumption)
  k_with "mine for" => ((rename Fr _ _ _ _ => lF'); (with_unfolding_all refine' For_invVF lF' ?zhk1 ?zhk2 ?_; (case zhk1 => exact rfl); (case zhk2 => exact rfl)))
  k_with "mine name" => k_dflt ((refine' nameX_L ?zhF ?zhv ?_ ?zha ?zhb ?zhc); (case zhF => k_asm); (case zha => rfl); (case zhb => rfl); (case zhv => rfl); (case zhc => decide))
  k_with "mine locs" => ((repeat' (refine List.forall_mem_cons.mpr ⟨rfl, ?_⟩)); exact fun _ h => nomatch h)
  k_with "subscriptTail" => k_dflt ((with_reducible show wpAny _ _ (subscriptTail _ _ (Value.ref (TA.sg _)) (Value.int _ _)) _ _ _); refine' item_sg ?zhN ?zhH ?zhe ?zhhi ?zhz ?_; (case zhN => k_asm); (case zhH => walk_at "mine H"); (case zhe => first | exact rfl | exact (Int.natCast_add _ _).symm); (case zhhi => (try dsimp only at *); omega); (case zhz => walk_at "mine size"); intro c9 u9 hc9)
  k_with "subscriptTail" => k_dflt ((with_reducible show wpAny _ _ (subscriptTail _ _ (Value.str _ _) (Value.int _ _)) _ _ _); refine' item_S ?zhhi ?zhz ?_; (case zhhi => (try dsimp only at *); omega); (case zhz => walk_at "mine size"); intro c9 u9 hc9)
  k_with "subscriptTail Name Name str int" => k_dflt ((with_reducible show wpAny _ _ (subscriptTail _ _ (Value.str _ _) (Value.int _ _)) _ _ _); refine' item_S ?zhhi ?zhz ?_; (case zhhi => (try dsimp only at *); omega); (case zhz => walk_at "mine size"); intro c9 u9 hc9)
  trivial

variable {prog : Program} {w : World} {mean : ExcName → Option Value} {mg mb : Str → Option Value} {T : TA} {n0 : Led} {d : D} {dv : Value} {nx : Led}

/-- the ledger `nx` holds at `c` a list of the tuples `rows`; of `n0` all else is kept -/
structure AccX (c : Addr) (n0 : Led) (rows : List (List Dat)) (nx : Led) : Prop where
  ex : ∃ vs n, (c, listOf (List.toArray vs) n) ∈ nx ∧ RowsAre nx vs rows
  keep : ∀ p ∈ n0, p.1 ≠ c → p ∈ nx
theorem RowIs.mono {nx nx' : Led} {v : Value} {r : List Dat} (h : RowIs nx v r) (s : ∀ p ∈ nx, p.2.cls = .type "tuple" → p ∈ nx') : RowIs nx' v r := by
  obtain ⟨a, vs, n, e, m, x⟩ := h
  exact ⟨a, vs, n, e, s _ m rfl, x⟩
theorem RowsAre.mono {nx nx' : Led} {vs : List Value} {rs : List (List Dat)} (h : RowsAre nx vs rs) (s : ∀ p ∈ nx, p.2.cls = .type "tuple" → p ∈ nx') : RowsAre nx' vs rs := by
  induction h with
  | nil => exact .nil
  | cons a _ ih => exact .cons (a.mono s) ih
theorem AccX.cons1 {c n0 rows nx p} (h : AccX c n0 rows nx) : AccX c n0 rows (p :: nx) := by
  obtain ⟨⟨vs, n, m, r⟩, k⟩ := h
  exact ⟨⟨vs, n, .tail _ m, r.mono fun _ h _ => .tail _ h⟩, fun q hq n => .tail _ (k q hq n)⟩
theorem AccX.cons2 {c n0 rows nx p q} (h : AccX c n0 rows nx) : AccX c n0 rows (p :: q :: nx) := h.cons1.cons1
theorem AccX.cons3 {c n0 rows nx p q r} (h : AccX c n0 rows nx) : AccX c n0 rows (p :: q :: r :: nx) := h.cons1.cons1.cons1
theorem AccX.rebase {c n0 rows nx} (h : AccX c n0 rows nx) : AccX c nx rows nx := ⟨h.ex, fun _ h _ => h⟩
theorem AccX.cast {c n0 rows rows' nx} (h : AccX c n0 rows nx) (e : rows = rows') : AccX c n0 rows' nx := e ▸ h
section
variable {A : Around} {E : Value → Shared → Prop} {s : Shared} {h₀ h : Heap} {L c I : Addr} {oI : Obj} {m : Str → Option Value} {n1 : Led} {rows rows0 : List (List Dat)} {v : Value} {r : List Dat}
theorem app_acc {Q : Value → Shared → Prop} (F : Fr h₀ L s.heap m) (N : News h₀ L s.heap nx) (H : AccX c n0 rows nx) (hv : RowIs nx v r) (hz : rows.length ≤ 1000000)
    (h : ∀ h' nx', Fr h₀ L h' m → News h₀ L h' nx' → AccX c n0 (rows ++ [r]) nx' → Q .none { s with heap := h' }) : wpAny (model prog w) A (call (.builtin "list.append") [.ref c, v]) Q E s := by
  obtain ⟨⟨vs, n, mc, hr⟩, k⟩ := H
  refine app_gen F N mc (by rw [hr.length]; exact hz) fun h' F' N' => h h' _ F' N' ⟨⟨vs ++ [v], n + 1, mem_put_self, (hr.put N mc list_nt).snoc (hv.put N mc list_nt)⟩, fun p hp hn => mem_put (o' := p.2) (b := p.1) (k p hp hn) hn⟩
theorem app_method_acc {pl : Sem Bool} {Q : Value × List Value → Shared → Prop} (N : News h₀ L s.heap nx) (H : AccX c n0 rows nx) (h : Q (.builtin "list.append", [.ref c]) s) : wpAny (model prog w) A (getMethod (.ref c) "append" pl) Q E s := by
  obtain ⟨⟨vs, n, mc, hr⟩, k⟩ := H
  exact getMethod_append_N N mc h
theorem AccX.turn (H : AccX c ((I, oI) :: n1) rows nx) (N : News h₀ L h nx) (hi : IterObj oI) (hc : I ≠ c) (hn : ∀ p ∈ n1, p.1 ≠ I) : (I, oI) ∈ nx ∧ AccX c n1 rows (dropA nx I) := by
  have hm : (I, oI) ∈ nx := H.keep _ (.head _) hc
  refine ⟨hm, ?_⟩
  obtain ⟨⟨vs, n, mc, hr⟩, k⟩ := H
  exact ⟨⟨vs, n, off_iter N hm hi mc not_iter_list, hr.mono fun p hp q => off_iter N hm hi hp fun z => z.nt.1 q⟩, fun p hp q => mem_dropA.mpr ⟨k p (.tail _ hp) q, hn p hp⟩⟩
theorem AccX.base {n1 : Led} (H : AccX c n1 rows nx) (k : ∀ p ∈ n0, p.1 ≠ c → p ∈ n1) : AccX c n0 rows nx := ⟨H.ex, fun p hp n => H.keep p (k p hp n) n⟩
theorem AccX.ne (H : AccX c n0 rows n1) (hn : ∀ p ∈ n1, p.1 ≠ I) : I ≠ c := by
  obtain ⟨⟨vs, n, mc, hr⟩, k⟩ := H
  exact fun e => hn _ mc e.symm
theorem turnPost_acc {exO : Led} {J : (Str → Option Value) → Led → Prop} {Q : Flow → Shared → Prop} {tk : Tok}
    (F : Fr h₀ L h m) (N : News h₀ L h nx) (hi : IterObj oI) (hn : ∀ p ∈ n1, p.1 ≠ I) (H0 : AccX c n0 rows0 n1) (H : AccX c ((I, oI) :: n1) rows nx) (hx : ∀ p ∈ exO, p ∈ dropA nx I)
    (hj : AccX c n0 rows (dropA nx I) → J m (dropA nx I)) : TurnPost h₀ L I oI exO J s Q .next { s with heap := h, toks := tk } := by
  obtain ⟨hm, H1⟩ := H.turn N hi (H0.ne hn) hn
  refine turnPost_next F (fun p hp => ?_) (fun p hp => (mem_dropA.mp hp).2) hx (hj (H1.base H0.keep))
  rcases List.mem_cons.mp hp with rfl | hp
  · exact N _ hm
  · exact N _ (mem_dropA.mp hp).1
end

theorem any_nc {c : Nat} : ([Str.ofString "\uFDD0", Str.ofString "\uFDEF"].any fun x => x == S [c]) = decide (c = 64976 ∨ c = 65007) := by
  rw [show Str.ofString "\uFDD0" = S [64976] by decide +kernel, show Str.ofString "\uFDEF" = S [65007] by decide +kernel]
  simp only [List.any_cons, List.any_nil, S_beqL, Bool.or_false]
  rw [Bool.eq_iff_iff]
  simp only [Bool.or_eq_true, decide_eq_true_eq, List.cons.injEq, and_true]
  exact or_congr eq_comm eq_comm
theorem any_ct {c : Nat} : ([Str.ofString "\x01", Str.ofString "\x1f", Str.ofString "\x7f", Str.ofString "\u009F"].any fun x => x == S [c]) = decide (c = 1 ∨ c = 31 ∨ c = 127 ∨ c = 159) := by
  rw [show Str.ofString "\x01" = S [1] by decide +kernel, show Str.ofString "\x1f" = S [31] by decide +kernel, show Str.ofString "\x7f" = S [127] by decide +kernel, show Str.ofString "\u009F" = S [159] by decide +kernel]
  simp only [List.any_cons, List.any_nil, S_beqL, Bool.or_false]
  rw [Bool.eq_iff_iff]
  simp only [Bool.or_eq_true, decide_eq_true_eq, List.cons.injEq, and_true]
  exact or_congr eq_comm (or_congr eq_comm (or_congr eq_comm eq_comm))
theorem streamF_len : ∀ (k : Nat) (l : List Nat), (streamF k l).length ≤ 2 * l.length
  | _, [] => by simp [streamF]
  | k, c :: t => by
    have := streamF_len (k + 1) t
    show (streamAt c k ++ streamF (k + 1) t).length ≤ 2 * (t.length + 1)
    rw [List.length_append]
    have : (streamAt c k).length ≤ 2 := by unfold streamAt; split <;> split <;> simp
    omega
section
variable {l : List Nat} {i a b : Nat} {r : List (List Dat)}
theorem stream_step {c : Nat} (h : l[i]? = some c) : streamF 0 (l.take (i + 1)) = streamF 0 (l.take i) ++ streamAt c i := by
  obtain ⟨hi, _⟩ := List.getElem?_eq_some_iff.mp h
  rw [List.take_add_one, h]
  show streamF 0 (l.take i ++ [c]) = _
  rw [streamF_snoc, List.length_take, show 0 + min i l.length = i by omega]
theorem sa1 (h1 : ([Str.ofString "\uFDD0", Str.ofString "\uFDEF"].any fun x => x == S [a]) = true) (h2 : ([Str.ofString "\x01", Str.ofString "\x1f", Str.ofString "\x7f", Str.ofString "\u009F"].any fun x => x == S [b]) = true) (g1 : l[i]? = some a) (g2 : l[i]? = some b) :
    r ++ [[.str "noncharacter-in-input-stream", .int i]] ++ [[.str "control-character-in-input-stream", .int i]] = r ++ streamAt b i := by
  obtain rfl := Option.some.inj (g1.symm.trans g2)
  rw [any_nc, decide_eq_true_eq] at h1
  rw [any_ct, decide_eq_true_eq] at h2
  unfold streamAt; rw [if_pos h1, if_pos h2, List.append_assoc]; rfl
theorem sa2 (h1 : ([Str.ofString "\uFDD0", Str.ofString "\uFDEF"].any fun x => x == S [a]) = true) (h2 : ([Str.ofString "\x01", Str.ofString "\x1f", Str.ofString "\x7f", Str.ofString "\u009F"].any fun x => x == S [b]) = false) (g1 : l[i]? = some a) (g2 : l[i]? = some b) :
    r ++ [[.str "noncharacter-in-input-stream", .int i]] = r ++ streamAt b i := by
  obtain rfl := Option.some.inj (g1.symm.trans g2)
  rw [any_nc, decide_eq_true_eq] at h1
  rw [any_ct, decide_eq_false_iff_not] at h2
  unfold streamAt; rw [if_pos h1, if_neg h2]; rfl
theorem sa3 (h1 : ([Str.ofString "\uFDD0", Str.ofString "\uFDEF"].any fun x => x == S [a]) = false) (h2 : ([Str.ofString "\x01", Str.ofString "\x1f", Str.ofString "\x7f", Str.ofString "\u009F"].any fun x => x == S [b]) = true) (g1 : l[i]? = some a) (g2 : l[i]? = some b) :
    r ++ [[.str "control-character-in-input-stream", .int i]] = r ++ streamAt b i := by
  obtain rfl := Option.some.inj (g1.symm.trans g2)
  rw [any_nc, decide_eq_false_iff_not] at h1
  rw [any_ct, decide_eq_true_eq] at h2
  unfold streamAt; rw [if_neg h1, if_pos h2]; rfl
theorem sa4 (h1 : ([Str.ofString "\uFDD0", Str.ofString "\uFDEF"].any fun x => x == S [a]) = false) (h2 : ([Str.ofString "\x01", Str.ofString "\x1f", Str.ofString "\x7f", Str.ofString "\u009F"].any fun x => x == S [b]) = false) (g1 : l[i]? = some a) (g2 : l[i]? = some b) :
    r = r ++ streamAt b i := by
  obtain rfl := Option.some.inj (g1.symm.trans g2)
  rw [any_nc, decide_eq_false_iff_not] at h1
  rw [any_ct, decide_eq_false_iff_not] at h2
  unfold streamAt; rw [if_neg h1, if_neg h2]; simp
end

theorem lines_C6_2 : True := by
  k_with "mine HA" => (first | (with_reducible assumption) | (with_reducible refine' AccX.cons1 ?zhhh; (case zhhh => with_reducible assumption)) | (with_reducible refine' AccX.cons2 ?zhhh; (case zhhh => with_reducible assumption)) | (with_reducible refine' AccX.cons3 ?zhhh; (case zhhh => with_reducible assumption)))
  k_with "getMethod ref" => k_dflt ((with_reducible show wpAny _ _ (getMethod (Value.ref _) (Str.ofString "append") _) _ _ _); refine' app_method_acc ?zhN ?zhH ?_; (case zhN => k_asm); (case zhH => walk_at "mine HA"))
  k_with "call builtin:list.append" => k_dflt (refine' app_acc ?zhF ?zhN ?zhH ?zhr ?zhz ?_; (case zhF => k_asm); (case zhN => k_asm); (case zhH => walk_at "mine HA"); (case zhr => walk_at "mine row"); (case zhz => walk_at "mine size"); intro _ _ _ _ _)
  k_with "TurnPost" => k_dflt ((with_reducible show TurnPost _ _ _ _ _ _ _ _ (Flow.ret _) _); (with_reducible refine turnPost_ret ?_); (try dsimp only))
  k_with "mine chr" => first | assumption | omega | exact Small.get (by assumption) (by assumption)
  trivial


theorem stream_ok (l : List Nat) (u : Tok) (hz : l.length ≤ 100) : Claim prog w mean mg mb 4 475 nx [.str (S l) u] (fun v nx' => ∃ D, v = .ref D ∧ (∀ p ∈ nx, p.1 ≠ D) ∧ AccX D nx (streamF 0 l) nx') := by
  unfold Claim
  intro dp un gd cn cs a ccd cl outer A₀ base h₀ L m s Q E B F X N Tp hk hd hu hret
  refine wpAny_call ?_
  k_dflt cell_enter
  walk_at "mine steps"
  refine' range_loopX _ (n := l.length) (fun c i m1 nx1 => (m1 "errors" = some (.ref c) ∧ m1 "text" = some (.str (S l) u)) ∧ (∀ p ∈ nx, p.1 ≠ c) ∧ AccX c nx (streamF 0 (l.take i)) nx1) (by assumption) rfl (by omega) rfl (by k_asm) (by k_asm) (by exact ⟨⟨rfl, rfl⟩, (fun p hp => Nat.ne_of_lt (‹∀ (p : Addr × Obj), p ∈ nx → p.fst < _› p hp)), ⟨⟨[], 0, by exact .head _, .nil⟩, fun p hp _ => .tail _ hp⟩⟩) ?_ ?_
  · rintro I i m1 nx1 h tk oI t hi9 hit hne ⟨⟨h1, h2⟩, hf, H0⟩ F1 N1
    have F2 := Mine.Fr.turn (ps := [("errors", .ref _), ("text", .str (S l) u)]) F1 (List.forall_mem_cons.mpr ⟨h1, List.forall_mem_cons.mpr ⟨h2, fun _ h => nomatch h⟩⟩)
    clear F1
    have hlen : (streamF 0 (l.take i)).length ≤ 2 * i := by
      have h1 := streamF_len 0 (l.take i)
      have h2 : (l.take i).length ≤ i := by rw [List.length_take]; omega
      omega
    have es : ∀ c, l[i]? = some c → streamF 0 (l.take (i + 1)) = streamF 0 (l.take i) ++ streamAt c i := fun c => stream_step
    generalize streamF 0 (l.take i) = r9 at *
    have H1 := H0.cons1 (p := (I, oI)) |>.rebase
    walk_at "mine steps"
    all_goals refine turnPost_acc (by k_asm) (by k_asm) hit hne H0 (by walk_at "mine HA") (fun _ h => nomatch h) fun Hn => ⟨⟨rfl, rfl⟩, hf, Hn.cast ?_⟩
    all_goals (rw [es _ (by assumption)]; first | exact sa1 ‹_› ‹_› ‹_› ‹_› | exact sa2 ‹_› ‹_› ‹_› ‹_› | exact sa3 ‹_› ‹_› ‹_› ‹_› | exact sa4 ‹_› ‹_› ‹_› ‹_›)
  · rintro m1 nx1 h tk ⟨⟨h1, h2⟩, hf, H0⟩ F1 N1
    have F2 := Mine.Fr.ovl (ps := [("errors", .ref _)]) F1 (List.forall_mem_cons.mpr ⟨h1, fun _ h => nomatch h⟩)
    clear F1
    walk_at "mine steps"
    exact hret _ _ _ _ ⟨_, rfl, hf, by rw [List.take_length] at H0; exact H0⟩ (by k_asm) (by k_asm)


end C6

section C7
open PySem PySem.W PyProof.Rows PySem.Calls PyProof.Rows.LCg PyProof.Rows.LCt
set_option maxRecDepth 100000
set_option maxHeartbeats 4000000
theorem lines_C7_1 : True := by
  w_top off
  k_with_none
  k_with "execs cons" => k_fold
  k_with "exec If" => k_fold
  k_with "exec Assign" => k_fold
  k_with "exec Expr" => k_fold
  k_with "exec Return" => k_fold
  k_with "callWith" => k_fold
  k_with "call ref" => k_fold
  k_with "mine steps" => repeat' ((fail_if_success (with_reducible show wpAny _ _ (pyIter _) _ _ _)); (fail_if_success (with_reducible show wpAny _ _ (exec (Stmt.For _ (Expr.Name _ _) _ _ _) _) _ _ _)); first | (k_unfold; (try dsimp only)) | walk1 | (dsimp only; walk1) | (leave1; (try dsimp only)))
  k_with "mine H" => (first | (with_reducible assumption) | (with_reducible refine' TokX.cons1 ?zhhh; (case zhhh => with_reducible assumption)) | (with_reducible refine' TokX.cons2 ?zhhh; (case zhhh => with_reducible assumption)) | (with_reducible refine' TokX.cons3 ?zhhh; (case zhhh => with_reducible assumption)))
  k_with "mine row" => (first | (with_reducible assumption) | (apply RowIs.of; k_mem; (repeat' constructor); done))
  k_with "mine HD" => (first | (with_reducible assumption) | (exact TokX.dr (by with_reducible assumption) rfl) | (exact TokX.dr (by with_reducible assumption) (by with_reducible assumption)) | (exact DraftAt.keepA (by with_reducible assumption) (by with_reducible assumption)) | (exact TokX.dr (by with_reducible assumption) (by assumption)))
  k_with "mine fxnh" => ((case zhF => k_asm); (case zhX => k_asm); (case zhN => k_asm); (case zhH => walk_at "mine H"))
  k_with "getAttr ref" => k_dflt (first | (with_reducible refine' get_at ?zhF ?zhX ?zhN ?zhH ?_; walk_at "mine fxnh"; intro _) | (with_reducible refine' get_stream ?zhF ?zhX ?zhN ?zhH ?_; walk_at "mine fxnh") | (with_reducible refine' get_signs ?zhF ?zhX ?zhN ?zhH ?_; walk_at "mine fxnh") | (with_reducible refine' get_out ?zhF ?zhX ?zhN ?zhH ?_; walk_at "mine fxnh") | (with_reducible refine' get_errors ?zhF ?zhX ?zhN ?zhH ?_; walk_at "mine fxnh") | (with_reducible refine' get_draft ?zhF ?zhX ?zhN ?zhH ?_; walk_at "mine fxnh") | (with_reducible refine' get_state ?zhF ?zhX ?zhN ?zhH ?_; walk_at "mine fxnh"; intro _) | (with_reducible refine' get_states ?zhF ?zhX ?zhN ?zhH ?_; walk_at "mine fxnh") | (with_reducible refine' get_waiting ?zhF ?zhX ?zhN ?zhH ?_; walk_at "mine fxnh") | (with_reducible refine' get_done ?zhF ?zhX ?zhN ?zhH ?_; walk_at "mine fxnh") | (with_reducible refine' get_foreign ?zhF ?zhX ?zhN ?zhH ?_; walk_at "mine fxnh") | (with_reducible refine' get_last ?zhF ?zhX ?zhN ?zhH ?_; walk_at "mine fxnh"; intro _) | (with_reducible refine' get_closed ?zhF ?zhX ?zhN ?zhH ?_; walk_at "mine fxnh") | (with_reducible refine' get_return ?zhF ?zhX ?zhN ?zhH ?_; walk_at "mine fxnh") | (with_reducible refine' get_serr ?zhF ?zhX ?zhN ?zhH ?_; walk_at "mine fxnh") | (with_reducible refine' getd_text ?zhF ?zhX ?zhN ?zhH ?_; (case zhF => k_asm); (case zhX => k_asm); (case zhN => k_asm); (case zhH => walk_at "mine HD"); intro _) | (with_reducible refine' getd_kind ?zhF ?zhX ?zhN ?zhH ?_; (case zhF => k_asm); (case zhX => k_asm); (case zhN => k_asm); (case zhH => walk_at "mine HD"); intro _))
  k_with "setAttr ref" => k_dflt (first | (with_reducible refine' set_state ?zhF ?zhX ?zhN ?zhH ?_; walk_at "mine fxnh"; intro _ _ _ _ _ _) | (with_reducible refine' set_waiting ?zhF ?zhX ?zhN ?zhH ?_; walk_at "mine fxnh"; intro _ _ _ _ _ _) | (with_reducible refine' set_done ?zhF ?zhX ?zhN ?zhH ?_; walk_at "mine fxnh"; intro _ _ _ _ _ _) | (with_reducible refine' set_foreign ?zhF ?zhX ?zhN ?zhH ?_; walk_at "mine fxnh"; intro _ _ _ _ _ _) | (with_reducible refine' set_closed ?zhF ?zhX ?zhN ?zhH ?_; walk_at "mine fxnh"; intro _ _ _ _ _ _) | (with_reducible refine' set_return ?zhF ?zhX ?zhN ?zhH ?_; walk_at "mine fxnh"; intro _ _ _ _ _ _) | (with_reducible refine' set_draft_none ?zhF ?zhX ?zhN ?zhH ?_; walk_at "mine fxnh"; intro _ _ _ _ _ _) | (with_reducible refine' set_draft ?zhF ?zhX ?zhN ?zhH ?zhhy ?_; walk_at "mine fxnh"; (case zhhy => with_reducible assumption); intro _ _ _ _ _ _) | (with_reducible refine' setd_text ?zhF ?zhX ?zhN ?zhH ?zhhd ?zhhy ?_; walk_at "mine fxnh"; (case zhhd => first | with_reducible assumption | rfl); (case zhhy => first | exact rfl | exact S_app _ _ | (rw [S_fffd]; exact S_app _ _)); intro _ _ _ _ _) | ((with_reducible show wpAny _ _ (setAttr (Value.ref (TA.t _)) (PySem.Str.ofString "at") _) _ _ _); refine' set_at ?zhF ?zhX ?zhN ?zhH (Int.natCast_add _ _).symm ?_; walk_at "mine fxnh"; intro _ _ _ _ _ _) | ((with_reducible show wpAny _ _ (setAttr (Value.ref (TA.t _)) (PySem.Str.ofString "at") _) _ _ _); refine' set_at ?zhF ?zhX ?zhN ?zhH (cast_pred ?zhp) ?_; walk_at "mine fxnh"; (case zhp => first | with_reducible assumption | omega); intro _ _ _ _ _ _) | ((with_reducible show wpAny _ _ (setAttr (Value.ref (TA.t _)) (PySem.Str.ofString "at") _) _ _ _); refine' set_at ?zhF ?zhX ?zhN ?zhH (Eq.refl (Nat.cast _)) ?_; walk_at "mine fxnh"; intro _ _ _ _ _ _))
  k_with "getMethod ref" => k_dflt (first | ((with_reducible show wpAny _ _ (getMethod (Value.ref (TA.t _)) _ _) _ _ _); refine' tok_method ?zhF ?zhX ?zhN ?zhH ?zhg ?zhf ?zht ?zhl ?_; walk_at "mine fxnh"; (case zhg => k_dflt k_is); (case zhf => k_dflt k_is); (case zht => k_dflt k_is); (case zhl => intro _; rfl)) | ((with_reducible show wpAny _ _ (getMethod (Value.ref (TA.st _)) _ _) _ _ _); refine' str_method ?zhF ?zhX ?zhN ?zhH ?zhg ?zhf ?zht ?zhl ?_; walk_at "mine fxnh"; (case zhg => k_dflt k_is); (case zhf => k_dflt k_is); (case zht => k_dflt k_is); (case zhl => intro _; rfl)) | (refine' dr_method ?zhF ?zhX ?zhN ?zhH ?zhg ?zhf ?zht ?zhl ?_; (case zhF => k_asm); (case zhX => k_asm); (case zhN => k_asm); (case zhH => walk_at "mine HD"); (case zhg => k_dflt k_is); (case zhf => k_dflt k_is); (case zht => k_dflt k_is); (case zhl => intro _ _ _; rfl)) | ((with_reducible show wpAny _ _ (getMethod (Value.ref (TA.er _)) _ _) _ _ _); refine' app_method_er ?zhN ?zhH ?_; (case zhN => k_asm); (case zhH => walk_at "mine H")) | ((with_reducible show wpAny _ _ (getMethod (Value.ref (TA.ou _)) _ _) _ _ _); refine' app_method_ou ?zhN ?zhH ?_; (case zhN => k_asm); (case zhH => walk_at "mine H")) | ((with_reducible show wpAny _ _ (getMethod (Value.ref (TA.se _)) _ _) _ _ _); refine' app_method_se ?zhN ?zhH ?_; (case zhN => k_asm); (case zhH => walk_at "mine H")) | ((with_reducible show wpAny _ _ (getMethod (Value.ref (TA.sg _)) _ _) _ _ _); refine' app_method_sg ?zhN ?zhH ?_; (case zhN => k_asm); (case zhH => walk_at "mine H")))
  k_with "call builtin:list.append" => k_dflt (first | ((with_reducible show wpAny _ _ (call _ [Value.ref (TA.er _), _]) _ _ _); refine' app_er ?zhF ?zhN ?zhH ?zhr ?zhz ?_; (case zhF => k_asm); (case zhN => k_asm); (case zhH => walk_at "mine H"); (case zhr => walk_at "mine row"); (case zhz => walk_at "mine size"); intro _ _ _ _ _ _) | ((with_reducible show wpAny _ _ (call _ [Value.ref (TA.ou _), _]) _ _ _); refine' app_ou ?zhF ?zhN ?zhH ?zhr ?zhz ?_; (case zhF => k_asm); (case zhN => k_asm); (case zhH => walk_at "mine H"); (case zhr => walk_at "mine row"); (case zhz => walk_at "mine size"); intro _ _ _ _ _ _) | ((with_reducible show wpAny _ _ (call _ [Value.ref (TA.se _), _]) _ _ _); refine' app_se ?zhF ?zhN ?zhH ?zhr ?zhz ?_; (case zhF => k_asm); (case zhN => k_asm); (case zhH => walk_at "mine H"); (case zhr => walk_at "mine row"); (case zhz => walk_at "mine size"); intro _ _ _ _ _ _) | ((with_reducible show wpAny _ _ (call _ [Value.ref (TA.sg _), _]) _ _ _); refine' app_sg ?zhF ?zhN ?zhH ?zhhx ?zhz ?_; (case zhF => k_asm); (case zhN => k_asm); (case zhH => walk_at "mine H"); (case zhhx => first | exact S_nl | exact rfl); (case zhz => walk_at "mine size"); intro _ _ _ _ _ _))
  k_with "mine size" => first | with_reducible assumption | ((try dsimp only at *); omega) | ((try dsimp only at *); simp only [List.length_append, List.length_cons, List.length_nil, List.length_take, List.length_drop, List.length_map] at *; omega)
  k_with "call builtin:len" => k_dflt ((with_reducible refine' len_S ?zhz ?_); (case zhz => walk_at "mine size"))
  k_with "call builtin:ord" => k_dflt (with_reducible refine' ord_S ?_)
  k_with "call builtin:chr" => k_dflt (refine' chr_S (Int.natCast_add _ _).symm ?zhz ?_; (case zhz => omega))
  k_with "call builtin:len" => k_dflt (with_reducible refine' len_sg ?zhN ?zhH ?zhz ?_; (case zhN => k_asm); (case zhH => walk_at "mine H"); (case zhz => walk_at "mine size"))
  k_with "mine slen" => (simp only [S_fffd, S_len, S_nil, List.length_append, List.length_cons, List.length_nil, sizeLine]; omega)
  k_with "binaryOp Add str str" => k_dflt (refine' PyProof.Rows.add_str ?_ ?zhz9; (case zhz9 => walk_at "mine slen"); intro _ _)
  k_with "mine news" => first | k_asm | exact News.ofCons (by assumption)
  k_with "mine for" => ((rename Fr _ _ _ _ => lF'); (with_unfolding_all refine' For_invVF lF' ?zhk1 ?zhk2 ?_; (case zhk1 => exact rfl); (case zhk2 => exact rfl)))
  k_with "mine name" => k_dflt ((refine' nameX_L ?zhF ?zhv ?_ ?zha ?zhb ?zhc); (case zhF => k_asm); (case zha => rfl); (case zhb => rfl); (case zhv => rfl); (case zhc => decide))
  k_with "mine locs" => ((repeat' (refine List.forall_mem_cons.mpr ⟨rfl, ?_⟩)); exact fun _ h => nomatch h)
  k_with "subscriptTail" => k_dflt ((with_reducible show wpAny _ _ (subscriptTail _ _ (Value.ref (TA.sg _)) (Value.int _ _)) _ _ _); refine' item_sg ?zhN ?zhH ?zhe ?zhhi ?zhz ?_; (case zhN => k_asm); (case zhH => walk_at "mine H"); (case zhe => first | exact rfl | exact (Int.natCast_add _ _).symm); (case zhhi => (try dsimp only at *); omega); (case zhz => walk_at "mine size"); intro c9 u9 hc9)
  k_with "subscriptTail" => k_dflt ((with_reducible show wpAny _ _ (subscriptTail _ _ (Value.str _ _) (Value.int _ _)) _ _ _); refine' item_S ?zhhi ?zhz ?_; (case zhhi => (try dsimp only at *); omega); (case zhz => walk_at "mine size"); intro c9 u9 hc9)
  k_with "subscriptTail Name Name str int" => k_dflt ((with_reducible show wpAny _ _ (subscriptTail _ _ (Value.str _ _) (Value.int _ _)) _ _ _); refine' item_S ?zhhi ?zhz ?_; (case zhhi => (try dsimp only at *); omega); (case zhz => walk_at "mine size"); intro c9 u9 hc9)
  trivial

variable {prog : Program} {w : World} {mean : ExcName → Option Value} {mg mb : Str → Option Value} {T : TA} {n0 : Led} {d : D} {dv : Value} {nx : Led}

section
variable {A : Around} {E : Value → Shared → Prop} {s : Shared} {h₀ : Heap} {L : Addr} {m : Str → Option Value} {env : Env} {elt iter ct : PySem.Expr} {x y : Str} {px py : Pos} {scope : Scope} {cl : List (Str × Addr)} {pos spos : Pos}
theorem iter_st {I : Addr} {ty : String} {X : Str} {t : Tok} : ∀ i (h h' : Heap) (o : Obj) (nw : List (Addr × Obj)), h.IsStrIter I ty X t i → h.get? I = some o → h'.get? I = some o → (∀ b o, h₀.get? b = some o → h'.get? b = some o) → News h₀ L h' nw → True → h'.IsStrIter I ty X t i :=
  fun i h h' o nw st e e' _ _ _ => by
    obtain ⟨o', q, r⟩ := st
    rw [e] at q; cases q
    exact ⟨o, e', r⟩
/-- the source of a comprehension is a text -/
noncomputable def SrcS (prog : Program) (w : World) (A : Around) (h₀ : Heap) (L : Addr) (m : Str → Option Value) (env : Env) (elt : PySem.Expr) (x : Str) (scope : Scope) (cl : List (Str × Addr)) (Fin : Shared → List Value → Led → Prop) (xv : Value) (s₁ : Shared) : Prop :=
  ∃ l t news, xv = .str (S l) t ∧ A.handled = none ∧ Fr h₀ L s₁.heap m ∧ News h₀ L s₁.heap news ∧ l.length ≤ sizeLine ∧
    ∀ s₂ : Shared, (∃ h, s₂ = { s₁ with heap := h }) → CompRest prog w A h₀ L m env elt x scope cl s₂ (fun _ => True) (SignAt (S l)) (Fin s₂) l.length 0 [] news
theorem ListComp_S {Q : Value → Shared → Prop} (F₀ : Fr h₀ L s.heap m)
    (hclos : closureFor scope env = pure cl) (hcell : ∀ y ∈ scope.names, y.2 ≠ .cell) (hkind : scope.kind = .function)
    (hnames : ∀ y ∈ scope.names, y.2 = .local → scope.names.lookup y.1 = some .local) (hx : scope.names.lookup x = some .local)
    (h : wpAny (model prog w) A (eval iter env) (SrcS prog w A h₀ L m env elt x scope cl (fun s₂ => FinE h₀ L m s₂ Q)) E s)
    (hs : ∀ x, foldedSetIterable iter env x = pure x := by intro _; rfl) :
    wpAny (model prog w) A (eval (.ListComp elt [⟨.Name x px, iter, [], 0⟩] scope pos) env) Q E s := by
  rw [eval_ListComp]
  refine wpAny_comprehension_free (use := none) rfl hs hclos hkind hnames (wpAny_mono h (fun xv s₁ h₁ => ?_) fun _ _ e => e)
  obtain ⟨l, t, news, rfl, hh, F, N, hz, R⟩ := h₁
  have hsz : (S l).cps.size = l.length := by simp [S]
  cases ha : (S l).cps.all (· < 128)
  · refine wpAny_pyIter_wide ha ?_
    refine block_U (Walks.strWide hh s₁.heap.objs.size (S l) t) (by rw [hsz]; exact hz) (fun i h st => by obtain ⟨o, e, _⟩ := st; exact ⟨o, e⟩) iter_st hcell hkind hx ⟨_, Heap.get?_push_size _ rfl, rfl, rfl⟩ (fun b hb => ?_)
      (F.keeps fun _ _ e => Heap.get?_push_of_some _ e) (N.grown fun _ _ e => Heap.get?_push_of_some _ e) (Nat.ne_of_lt F.ns.lt) (next_is_new F) (fun p hp => Nat.ne_of_lt (Heap.lt_size (N p hp).1)) trivial (by rw [hsz]; exact R _ ⟨_, rfl⟩) ?_
    · rw [List.mem_singleton.mp hb]
      show s₁.heap.objs.size < (s₁.heap.push _).objs.size
      rw [Heap.size_push]; exact Nat.lt_succ_self _
    · intro D C h' tk m' ys news' F' N' o1 hn hC₀ hD₀ hCL hDL hCD offC fin
      refine ⟨m', hn, fun h'' hs'' => fin D h'' tk (F'.change hs'' hCL hC₀) (fun p hp => ?_) o1⟩
      refine ⟨hs''.extBut _ _ ?_ (N' p hp).1, (N' p hp).2⟩
      rcases List.mem_cons.mp hp with rfl | hp
      · exact Ne.symm hCD
      · exact offC p hp
  · refine wpAny_pyIter_ascii ha ?_
    refine block_U (Walks.strAscii hh s₁.heap.objs.size (S l) t) (by rw [hsz]; exact hz) (fun i h st => by obtain ⟨o, e, _⟩ := st; exact ⟨o, e⟩) iter_st hcell hkind hx ⟨_, Heap.get?_push_size _ rfl, rfl, rfl⟩ (fun b hb => ?_)
      (F.keeps fun _ _ e => Heap.get?_push_of_some _ e) (N.grown fun _ _ e => Heap.get?_push_of_some _ e) (Nat.ne_of_lt F.ns.lt) (next_is_new F) (fun p hp => Nat.ne_of_lt (Heap.lt_size (N p hp).1)) trivial (by rw [hsz]; exact R _ ⟨_, rfl⟩) ?_
    · rw [List.mem_singleton.mp hb]
      show s₁.heap.objs.size < (s₁.heap.push _).objs.size
      rw [Heap.size_push]; exact Nat.lt_succ_self _
    · intro D C h' tk m' ys news' F' N' o1 hn hC₀ hD₀ hCL hDL hCD offC fin
      refine ⟨m', hn, fun h'' hs'' => fin D h'' tk (F'.change hs'' hCL hC₀) (fun p hp => ?_) o1⟩
      refine ⟨hs''.extBut _ _ ?_ (N' p hp).1, (N' p hp).2⟩
      rcases List.mem_cons.mp hp with rfl | hp
      · exact Ne.symm hCD
      · exact offC p hp

theorem Assign_ListComp_S {Q : Flow → Shared → Prop} (F₀ : Fr h₀ L s.heap m) (hLe : env.locals = L)
    (hsw : swapsWith (.ListComp elt [⟨.Name x px, iter, [], 0⟩] scope pos) (some (.Name y py)) spos.line env = pure true)
    (hclos : closureFor scope env = pure cl) (hcell : ∀ z ∈ scope.names, z.2 ≠ .cell) (hkind : scope.kind = .function)
    (hnames : ∀ z ∈ scope.names, z.2 = .local → scope.names.lookup z.1 = some .local) (hx : scope.names.lookup x = some .local)
    (hy : env.kindOf y = some .local) (hp : (env.scope.kind == .class || (env.scope.kind == .module && env.locals != env.globals)) = false)
    (h : wpAny (model prog w) A (eval iter env) (SrcS prog w A h₀ L m env elt x scope cl (fun s₂ => FinA h₀ L m s₂ y Q)) E s)
    (hs : ∀ x, foldedSetIterable iter env x = pure x := by intro _; rfl) :
    wpAny (model prog w) A (exec (.Assign [.Name y py] (.ListComp elt [⟨.Name x px, iter, [], 0⟩] scope pos) spos) env) Q E s := by
  subst hLe
  rw [exec_Assign_Name_used _ _ _ _ hsw]
  refine wpAny_bind (wpAny_standAt (wpAny_bind ?_))
  show wpAny _ A (do let _ ← comprehension (.ListComp elt [⟨.Name x px, iter, [], 0⟩] scope pos) scope env _ (newList []) false (eval iter env) (some (assign (.Name y py) env))) _ _ s
  refine wpAny_bind (wpAny_mono (wpAny_comprehension_free (use := some (assign (.Name y py) env)) (Q := fun _ s' => Q .next s') rfl hs hclos hkind hnames
    (wpAny_mono h (fun xv s₁ h₁ => ?_) fun _ _ e => e)) (fun _ s' hq => wpAny_pure (wpAny_pure hq)) fun _ _ e => e)
  obtain ⟨l, t, news, rfl, hh, F, N, hz, R⟩ := h₁
  have hsz : (S l).cps.size = l.length := by simp [S]
  cases ha : (S l).cps.all (· < 128)
  · refine wpAny_pyIter_wide ha ?_
    refine block_U (Walks.strWide hh s₁.heap.objs.size (S l) t) (by rw [hsz]; exact hz) (fun i h st => by obtain ⟨o, e, _⟩ := st; exact ⟨o, e⟩) iter_st hcell hkind hx ⟨_, Heap.get?_push_size _ rfl, rfl, rfl⟩ (fun b hb => ?_)
      (F.keeps fun _ _ e => Heap.get?_push_of_some _ e) (N.grown fun _ _ e => Heap.get?_push_of_some _ e) (Nat.ne_of_lt F.ns.lt) (next_is_new F) (fun p hp => Nat.ne_of_lt (Heap.lt_size (N p hp).1)) trivial (by rw [hsz]; exact R _ ⟨_, rfl⟩) ?_
    · rw [List.mem_singleton.mp hb]
      show s₁.heap.objs.size < (s₁.heap.push _).objs.size
      rw [Heap.size_push]; exact Nat.lt_succ_self _
    · intro D C h' tk m' ys news' F' N' o1 hn hC₀ hD₀ hCL hDL hCD offC fin
      show wpAny _ A (assign (.Name y py) env (.ref D)) _ _ _
      refine wpAny_assign_Name (wpAny_storeName_local hy F'.ns (fun h₂ hn₂ hs₂ => ?_) hp)
      have hL₀ : h₀.get? env.locals = none := Heap.get?_none_of_le F'.above
      have F₂ : Fr h₀ env.locals h₂ (fun z => if z = y then some (.ref D) else m z) := ⟨hn₂, fun b o e => hs₂.extBut b o (fun q => by rw [q, hL₀] at e; cases e) (F'.keep b o e), F'.above⟩
      refine ⟨m', hn.sameBut hs₂ hCL, fun h'' hs'' => fin D h'' _ (F₂.change hs'' hCL hC₀) (fun p hp => ?_) o1⟩
      have z : h₂.get? p.1 = some p.2 := hs₂.extBut _ _ (N' p hp).2.1 (N' p hp).1
      refine ⟨hs''.extBut _ _ ?_ z, (N' p hp).2⟩
      rcases List.mem_cons.mp hp with rfl | hp
      · exact Ne.symm hCD
      · exact offC p hp
  · refine wpAny_pyIter_ascii ha ?_
    refine block_U (Walks.strAscii hh s₁.heap.objs.size (S l) t) (by rw [hsz]; exact hz) (fun i h st => by obtain ⟨o, e, _⟩ := st; exact ⟨o, e⟩) iter_st hcell hkind hx ⟨_, Heap.get?_push_size _ rfl, rfl, rfl⟩ (fun b hb => ?_)
      (F.keeps fun _ _ e => Heap.get?_push_of_some _ e) (N.grown fun _ _ e => Heap.get?_push_of_some _ e) (Nat.ne_of_lt F.ns.lt) (next_is_new F) (fun p hp => Nat.ne_of_lt (Heap.lt_size (N p hp).1)) trivial (by rw [hsz]; exact R _ ⟨_, rfl⟩) ?_
    · rw [List.mem_singleton.mp hb]
      show s₁.heap.objs.size < (s₁.heap.push _).objs.size
      rw [Heap.size_push]; exact Nat.lt_succ_self _
    · intro D C h' tk m' ys news' F' N' o1 hn hC₀ hD₀ hCL hDL hCD offC fin
      show wpAny _ A (assign (.Name y py) env (.ref D)) _ _ _
      refine wpAny_assign_Name (wpAny_storeName_local hy F'.ns (fun h₂ hn₂ hs₂ => ?_) hp)
      have hL₀ : h₀.get? env.locals = none := Heap.get?_none_of_le F'.above
      have F₂ : Fr h₀ env.locals h₂ (fun z => if z = y then some (.ref D) else m z) := ⟨hn₂, fun b o e => hs₂.extBut b o (fun q => by rw [q, hL₀] at e; cases e) (F'.keep b o e), F'.above⟩
      refine ⟨m', hn.sameBut hs₂ hCL, fun h'' hs'' => fin D h'' _ (F₂.change hs'' hCL hC₀) (fun p hp => ?_) o1⟩
      have z : h₂.get? p.1 = some p.2 := hs₂.extBut _ _ (N' p hp).2.1 (N' p hp).1
      refine ⟨hs''.extBut _ _ ?_ z, (N' p hp).2⟩
      rcases List.mem_cons.mp hp with rfl | hp
      · exact Ne.symm hCD
      · exact offC p hp

/-- a comprehension by an invariant -/
theorem comp_inv {S' : Led → Prop} {P : Nat → Value → Prop} {Fin : List Value → Led → Prop} {n : Nat} (J : Nat → List Value → Led → Prop)
    (turn : ∀ i ys news v I oI C oC D m₂ h tk (E' : Value → Shared → Prop), i < n → J i ys news → P i v → NsObj oC m₂ → m₂ x = some v → Fr h₀ L h m → News h₀ L h ((I, oI) :: (C, oC) :: (D, lst ys) :: news) → Off3 I C D news → ((@Ne Nat I C) ∧ (@Ne Nat I D) ∧ (@Ne Nat C D)) →
      wpAny (model prog w) A (eval elt (compEnvC scope cl C env)) (CompEnd h₀ L m { s with heap := h, toks := tk } I oI C oC D (lst ys) S' (fun y news' => J (i + 1) (ys ++ [y]) news')) E' { s with heap := h, toks := tk })
    (fin : ∀ ys news, J n ys news → Fin ys news) : ∀ (k i : Nat) (ys : List Value) (news : Led), i + k = n → J i ys news → CompRest prog w A h₀ L m env elt x scope cl s S' P Fin k i ys news
  | 0, i, ys, news, e, hj => CompRest.zero (fin _ _ (by rw [← e]; exact hj))
  | k + 1, i, ys, news, e, hj => CompRest.succ fun v I oI C oC D m₂ h tk E' hP hN hx' F N o1 o2 => by
    refine wpAny_mono (turn i ys news v I oI C oC D m₂ h tk E' (by omega) hj hP hN hx' F N o1 o2) (fun y s₂ hy => ?_) fun _ _ e => e
    obtain ⟨h', tk', news', e1, a, b, c, d, g⟩ := hy
    exact ⟨h', tk', news', e1, a, b, c, d, comp_inv J turn fin k (i + 1) _ _ (by omega) g⟩
theorem comp_invT {S' : Led → Prop} {P : Nat → Value → Prop} {Fin : List Value → Led → Prop} {n : Nat} (J : Nat → List Value → Led → Prop)
    (turn : ∀ i ys news v I oI C oC D m₂ h tk (E' : Value → Shared → Prop), i < n → J i ys news → P i v → NsObj oC m₂ → m₂ x = some v → Fr h₀ L h m → News h₀ L h ((I, oI) :: (C, oC) :: (D, lst ys) :: news) → Off3 I C D news → ((@Ne Nat I C) ∧ (@Ne Nat I D) ∧ (@Ne Nat C D)) →
      wpAny (model prog w) A (isTrue ct (compEnvC scope cl C env) (eval ct (compEnvC scope cl C env))) (fun ok s' => if ok = true then
        wpAny (model prog w) A (eval elt (compEnvC scope cl C env)) (CompEnd h₀ L m { s with heap := h, toks := tk } I oI C oC D (lst ys) S' (fun y news' => J (i + 1) (ys ++ [y]) news')) E' s'
        else CompEnd h₀ L m { s with heap := h, toks := tk } I oI C oC D (lst ys) S' (fun _ news' => J (i + 1) ys news') Value.none s') E' { s with heap := h, toks := tk })
    (fin : ∀ ys news, J n ys news → Fin ys news) : ∀ (k i : Nat) (ys : List Value) (news : Led), i + k = n → J i ys news → CompRestT prog w A h₀ L m env ct elt x scope cl s S' P Fin k i ys news
  | 0, i, ys, news, e, hj => CompRestT.zero (fin _ _ (by rw [← e]; exact hj))
  | k + 1, i, ys, news, e, hj => CompRestT.succ fun v I oI C oC D m₂ h tk E' hP hN hx' F N o1 o2 => by
    refine wpAny_mono (turn i ys news v I oI C oC D m₂ h tk E' (by omega) hj hP hN hx' F N o1 o2) (fun ok s' hy => ?_) fun _ _ e => e
    cases ok with
    | true =>
      simp only [if_true] at hy ⊢
      refine wpAny_mono hy (fun y s₂ hy => ?_) fun _ _ e => e
      obtain ⟨h', tk', news', e1, a, b, c, d, g⟩ := hy
      exact ⟨h', tk', news', e1, a, b, c, d, comp_invT J turn fin k (i + 1) _ _ (by omega) g⟩
    | false =>
      simp only [Bool.false_eq_true, if_false] at hy ⊢
      obtain ⟨h', tk', news', e1, a, b, c, d, g⟩ := hy
      exact ⟨h', tk', news', e1, a, b, c, d, comp_invT J turn fin k (i + 1) _ _ (by omega) g⟩
end

end C7

section C8
open PySem PySem.W PyProof.Rows PySem.Calls PyProof.Rows.LCg PyProof.Rows.LCt
set_option maxRecDepth 100000
set_option maxHeartbeats 4000000
theorem lines_C8_1 : True := by
  w_top off
  k_with_none
  k_with "execs cons" => k_fold
  k_with "exec If" => k_fold
  k_with "exec Assign" => k_fold
  k_with "exec Expr" => k_fold
  k_with "exec Return" => k_fold
  k_with "callWith" => k_fold
  k_with "call ref" => k_fold
  k_with "eval Call Attribute" => k_fold
  k_with "eval Call" => k_fold
  k_with "isTrue Compare" => k_fold
  k_with "isTrue" => k_fold
  k_with "eval BinOp" => k_fold
  k_with "eval Compare" => k_fold
  k_with "eval BoolOp" => k_fold
  k_with "eval IfExp" => k_fold
  k_with "eval Subscript" => k_fold
  k_with "mine steps" => repeat' ((fail_if_success (with_reducible show wpAny _ _ (pyIter _) _ _ _)); (fail_if_success (with_reducible show wpAny _ _ (exec (Stmt.For _ (Expr.Name _ _) _ _ _) _) _ _ _)); first | (k_unfold; (try dsimp only)) | walk1 | (dsimp only; walk1) | (leave1; (try dsimp only)))
  k_with "mine H" => (first | (with_reducible assumption) | (with_reducible refine' TokX.cons1 ?zhhh; (case zhhh => with_reducible assumption)) | (with_reducible refine' TokX.cons2 ?zhhh; (case zhhh => with_reducible assumption)) | (with_reducible refine' TokX.cons3 ?zhhh; (case zhhh => with_reducible assumption)))
  k_with "mine row" => (first | (with_reducible assumption) | (apply RowIs.of; k_mem; (repeat' constructor); done))
  k_with "mine HD" => (first | (with_reducible assumption) | (exact TokX.dr (by with_reducible assumption) rfl) | (exact TokX.dr (by with_reducible assumption) (by with_reducible assumption)) | (exact DraftAt.keepA (by with_reducible assumption) (by with_reducible assumption)) | (exact TokX.dr (by with_reducible assumption) (by assumption)))
  k_with "mine fxnh" => ((case zhF => k_asm); (case zhX => k_asm); (case zhN => k_asm); (case zhH => walk_at "mine H"))
  k_with "getAttr ref" => k_dflt (first | (with_reducible refine' get_at ?zhF ?zhX ?zhN ?zhH ?_; walk_at "mine fxnh"; intro _) | (with_reducible refine' get_stream ?zhF ?zhX ?zhN ?zhH ?_; walk_at "mine fxnh") | (with_reducible refine' get_signs ?zhF ?zhX ?zhN ?zhH ?_; walk_at "mine fxnh") | (with_reducible refine' get_out ?zhF ?zhX ?zhN ?zhH ?_; walk_at "mine fxnh") | (with_reducible refine' get_errors ?zhF ?zhX ?zhN ?zhH ?_; walk_at "mine fxnh") | (with_reducible refine' get_draft ?zhF ?zhX ?zhN ?zhH ?_; walk_at "mine fxnh") | (with_reducible refine' get_state ?zhF ?zhX ?zhN ?zhH ?_; walk_at "mine fxnh"; intro _) | (with_reducible refine' get_states ?zhF ?zhX ?zhN ?zhH ?_; walk_at "mine fxnh") | (with_reducible refine' get_waiting ?zhF ?zhX ?zhN ?zhH ?_; walk_at "mine fxnh") | (with_reducible refine' get_done ?zhF ?zhX ?zhN ?zhH ?_; walk_at "mine fxnh") | (with_reducible refine' get_foreign ?zhF ?zhX ?zhN ?zhH ?_; walk_at "mine fxnh") | (with_reducible refine' get_last ?zhF ?zhX ?zhN ?zhH ?_; walk_at "mine fxnh"; intro _) | (with_reducible refine' get_closed ?zhF ?zhX ?zhN ?zhH ?_; walk_at "mine fxnh") | (with_reducible refine' get_return ?zhF ?zhX ?zhN ?zhH ?_; walk_at "mine fxnh") | (with_reducible refine' get_serr ?zhF ?zhX ?zhN ?zhH ?_; walk_at "mine fxnh") | (with_reducible refine' getd_text ?zhF ?zhX ?zhN ?zhH ?_; (case zhF => k_asm); (case zhX => k_asm); (case zhN => k_asm); (case zhH => walk_at "mine HD"); intro _) | (with_reducible refine' getd_kind ?zhF ?zhX ?zhN ?zhH ?_; (case zhF => k_asm); (case zhX => k_asm); (case zhN => k_asm); (case zhH => walk_at "mine HD"); intro _))
  k_with "setAttr ref" => k_dflt (first | (with_reducible refine' set_state ?zhF ?zhX ?zhN ?zhH ?_; walk_at "mine fxnh"; intro _ _ _ _ _ _) | (with_reducible refine' set_waiting ?zhF ?zhX ?zhN ?zhH ?_; walk_at "mine fxnh"; intro _ _ _ _ _ _) | (with_reducible refine' set_done ?zhF ?zhX ?zhN ?zhH ?_; walk_at "mine fxnh"; intro _ _ _ _ _ _) | (with_reducible refine' set_foreign ?zhF ?zhX ?zhN ?zhH ?_; walk_at "mine fxnh"; intro _ _ _ _ _ _) | (with_reducible refine' set_closed ?zhF ?zhX ?zhN ?zhH ?_; walk_at "mine fxnh"; intro _ _ _ _ _ _) | (with_reducible refine' set_return ?zhF ?zhX ?zhN ?zhH ?_; walk_at "mine fxnh"; intro _ _ _ _ _ _) | (with_reducible refine' set_draft_none ?zhF ?zhX ?zhN ?zhH ?_; walk_at "mine fxnh"; intro _ _ _ _ _ _) | (with_reducible refine' set_draft ?zhF ?zhX ?zhN ?zhH ?zhhy ?_; walk_at "mine fxnh"; (case zhhy => with_reducible assumption); intro _ _ _ _ _ _) | (with_reducible refine' setd_text ?zhF ?zhX ?zhN ?zhH ?zhhd ?zhhy ?_; walk_at "mine fxnh"; (case zhhd => first | with_reducible assumption | rfl); (case zhhy => first | exact rfl | exact S_app _ _ | (rw [S_fffd]; exact S_app _ _)); intro _ _ _ _ _) | ((with_reducible show wpAny _ _ (setAttr (Value.ref (TA.t _)) (PySem.Str.ofString "at") _) _ _ _); refine' set_at ?zhF ?zhX ?zhN ?zhH (Int.natCast_add _ _).symm ?_; walk_at "mine fxnh"; intro _ _ _ _ _ _) | ((with_reducible show wpAny _ _ (setAttr (Value.ref (TA.t _)) (PySem.Str.ofString "at") _) _ _ _); refine' set_at ?zhF ?zhX ?zhN ?zhH (cast_pred ?zhp) ?_; walk_at "mine fxnh"; (case zhp => first | with_reducible assumption | omega); intro _ _ _ _ _ _) | ((with_reducible show wpAny _ _ (setAttr (Value.ref (TA.t _)) (PySem.Str.ofString "at") _) _ _ _); refine' set_at ?zhF ?zhX ?zhN ?zhH (Eq.refl (Nat.cast _)) ?_; walk_at "mine fxnh"; intro _ _ _ _ _ _))
  k_with "getMethod ref" => k_dflt (first | ((with_reducible show wpAny _ _ (getMethod (Value.ref (TA.t _)) _ _) _ _ _); refine' tok_method ?zhF ?zhX ?zhN ?zhH ?zhg ?zhf ?zht ?zhl ?_; walk_at "mine fxnh"; (case zhg => k_dflt k_is); (case zhf => k_dflt k_is); (case zht => k_dflt k_is); (case zhl => intro _; rfl)) | ((with_reducible show wpAny _ _ (getMethod (Value.ref (TA.st _)) _ _) _ _ _); refine' str_method ?zhF ?zhX ?zhN ?zhH ?zhg ?zhf ?zht ?zhl ?_; walk_at "mine fxnh"; (case zhg => k_dflt k_is); (case zhf => k_dflt k_is); (case zht => k_dflt k_is); (case zhl => intro _; rfl)) | (refine' dr_method ?zhF ?zhX ?zhN ?zhH ?zhg ?zhf ?zht ?zhl ?_; (case zhF => k_asm); (case zhX => k_asm); (case zhN => k_asm); (case zhH => walk_at "mine HD"); (case zhg => k_dflt k_is); (case zhf => k_dflt k_is); (case zht => k_dflt k_is); (case zhl => intro _ _ _; rfl)) | ((with_reducible show wpAny _ _ (getMethod (Value.ref (TA.er _)) _ _) _ _ _); refine' app_method_er ?zhN ?zhH ?_; (case zhN => k_asm); (case zhH => walk_at "mine H")) | ((with_reducible show wpAny _ _ (getMethod (Value.ref (TA.ou _)) _ _) _ _ _); refine' app_method_ou ?zhN ?zhH ?_; (case zhN => k_asm); (case zhH => walk_at "mine H")) | ((with_reducible show wpAny _ _ (getMethod (Value.ref (TA.se _)) _ _) _ _ _); refine' app_method_se ?zhN ?zhH ?_; (case zhN => k_asm); (case zhH => walk_at "mine H")) | ((with_reducible show wpAny _ _ (getMethod (Value.ref (TA.sg _)) _ _) _ _ _); refine' app_method_sg ?zhN ?zhH ?_; (case zhN => k_asm); (case zhH => walk_at "mine H")))
  k_with "call builtin:list.append" => k_dflt (first | ((with_reducible show wpAny _ _ (call _ [Value.ref (TA.er _), _]) _ _ _); refine' app_er ?zhF ?zhN ?zhH ?zhr ?zhz ?_; (case zhF => k_asm); (case zhN => k_asm); (case zhH => walk_at "mine H"); (case zhr => walk_at "mine row"); (case zhz => walk_at "mine size"); intro _ _ _ _ _ _) | ((with_reducible show wpAny _ _ (call _ [Value.ref (TA.ou _), _]) _ _ _); refine' app_ou ?zhF ?zhN ?zhH ?zhr ?zhz ?_; (case zhF => k_asm); (case zhN => k_asm); (case zhH => walk_at "mine H"); (case zhr => walk_at "mine row"); (case zhz => walk_at "mine size"); intro _ _ _ _ _ _) | ((with_reducible show wpAny _ _ (call _ [Value.ref (TA.se _), _]) _ _ _); refine' app_se ?zhF ?zhN ?zhH ?zhr ?zhz ?_; (case zhF => k_asm); (case zhN => k_asm); (case zhH => walk_at "mine H"); (case zhr => walk_at "mine row"); (case zhz => walk_at "mine size"); intro _ _ _ _ _ _) | ((with_reducible show wpAny _ _ (call _ [Value.ref (TA.sg _), _]) _ _ _); refine' app_sg ?zhF ?zhN ?zhH ?zhhx ?zhz ?_; (case zhF => k_asm); (case zhN => k_asm); (case zhH => walk_at "mine H"); (case zhhx => first | exact S_nl | exact rfl); (case zhz => walk_at "mine size"); intro _ _ _ _ _ _))
  k_with "mine size" => first | with_reducible assumption | ((try dsimp only at *); omega) | ((try dsimp only at *); simp only [List.length_append, List.length_cons, List.length_nil, List.length_take, List.length_drop, List.length_map] at *; omega)
  k_with "call builtin:len" => k_dflt ((with_reducible refine' len_S ?zhz ?_); (case zhz => walk_at "mine size"))
  k_with "call builtin:ord" => k_dflt (with_reducible refine' ord_S ?_)
  k_with "call builtin:chr" => k_dflt (refine' chr_S (Int.natCast_add _ _).symm ?zhz ?_; (case zhz => omega))
  k_with "call builtin:len" => k_dflt (with_reducible refine' len_sg ?zhN ?zhH ?zhz ?_; (case zhN => k_asm); (case zhH => walk_at "mine H"); (case zhz => walk_at "mine size"))
  k_with "mine slen" => (simp only [S_fffd, S_len, S_nil, List.length_append, List.length_cons, List.length_nil, sizeLine]; omega)
  k_with "binaryOp Add str str" => k_dflt (refine' PyProof.Rows.add_str ?_ ?zhz9; (case zhz9 => walk_at "mine slen"); intro _ _)
  k_with "mine news" => first | k_asm | exact News.ofCons (by assumption)
  k_with "mine for" => ((rename Fr _ _ _ _ => lF'); (with_unfolding_all refine' For_invVF lF' ?zhk1 ?zhk2 ?_; (case zhk1 => exact rfl); (case zhk2 => exact rfl)))
  k_with "mine name" => k_dflt ((refine' nameX_L ?zhF ?zhv ?_ ?zha ?zhb ?zhc); (case zhF => k_asm); (case zha => rfl); (case zhb => rfl); (case zhv => rfl); (case zhc => decide))
  k_with "mine locs" => ((repeat' (refine List.forall_mem_cons.mpr ⟨rfl, ?_⟩)); exact fun _ h => nomatch h)
  k_with "subscriptTail" => k_dflt ((with_reducible show wpAny _ _ (subscriptTail _ _ (Value.ref (TA.sg _)) (Value.int _ _)) _ _ _); refine' item_sg ?zhN ?zhH ?zhe ?zhhi ?zhz ?_; (case zhN => k_asm); (case zhH => walk_at "mine H"); (case zhe => first | exact rfl | exact (Int.natCast_add _ _).symm); (case zhhi => (try dsimp only at *); omega); (case zhz => walk_at "mine size"); intro c9 u9 hc9)
  k_with "subscriptTail" => k_dflt ((with_reducible show wpAny _ _ (subscriptTail _ _ (Value.str _ _) (Value.int _ _)) _ _ _); refine' item_S ?zhhi ?zhz ?_; (case zhhi => (try dsimp only at *); omega); (case zhz => walk_at "mine size"); intro c9 u9 hc9)
  k_with "subscriptTail Name Name str int" => k_dflt ((with_reducible show wpAny _ _ (subscriptTail _ _ (Value.str _ _) (Value.int _ _)) _ _ _); refine' item_S ?zhhi ?zhz ?_; (case zhhi => (try dsimp only at *); omega); (case zhz => walk_at "mine size"); intro c9 u9 hc9)
  trivial

variable {prog : Program} {w : World} {mean : ExcName → Option Value} {mg mb : Str → Option Value} {T : TA} {n0 : Led} {d : D} {dv : Value} {nx : Led}

theorem lines_C8_2 : True := by
  k_with "eval Name" => k_dflt ((with_reducible show wpAny _ _ (eval (Expr.Name _ _) (compEnvC _ _ _ _)) _ _ _); refine' LCgL.ld_own ?zhN ?zhm ?zhC ?zhx ?_ ?zha ?zhb ?zhc; (case zha => rfl); (case zhb => rfl); (case zhc => decide); (case zhN => k_asm); (case zhm => k_mem); (case zhC => assumption); (case zhx => assumption))
  trivial


section
variable {A : Around} {E : Value → Shared → Prop} {s : Shared} {h₀ h : Heap} {L I C D : Addr} {oI oC : Obj} {m m₂ : Str → Option Value} {env : Env} {cl : List (Str × Addr)} {ys : List Value} {news : Led} {tk : Tok}
theorem chr_elt {k k2 p1 p2 p3} {c : Nat} {u : Tok} (hC : NsObj oC m₂) (hx : m₂ "sign" = some (.str (S [c]) u)) (F : Fr h₀ L h m) (N : News h₀ L h ((I, oI) :: (C, oC) :: (D, lst ys) :: news)) (off : Off3 I C D news) :
    wpAny (model prog w) A (eval (.Tuple [.Constant (.str "char") k p1, .Name "sign" p2] k2 p3) (compEnvC { kind := .function, names := [(".0", .local), ("sign", .local)], isGenerator := false, isCoroutine := false } cl C env))
      (CompEnd h₀ L m { s with heap := h, toks := tk } I oI C oC D (lst ys) (fun _ => True) (fun y news' => RowIs news' y (chrR c) ∧ ∀ p ∈ news, p ∈ news')) E { s with heap := h, toks := tk } := by
  walk_at "mine steps"
  have lI := Heap.lt_size (N _ (.head _)).1
  have lC := Heap.lt_size (N _ (.tail _ (.head _))).1
  have lD := Heap.lt_size (N _ (.tail _ (.tail _ (.head _)))).1
  refine CompEnd.intro (by k_asm) (by k_asm) ((h.objs.size, tupOf [.str "char" tk, .str (S [c]) u] 0) :: news) (fun p hp => ?_) ⟨⟨Nat.ne_of_gt lI, Nat.ne_of_gt lC, Nat.ne_of_gt lD⟩, off⟩ trivial ⟨⟨_, _, _, rfl, .head _, by repeat' constructor⟩, fun p hp => .tail _ hp⟩
  simp only [List.mem_cons] at hp ⊢
  rcases hp with h | h | h | h | h <;> simp [h]
end

section
variable {A : Around} {E : Value → Shared → Prop} {s s₁ : Shared} {h₀ h : Heap} {L : Addr} {m : Str → Option Value} {env : Env} {cl : List (Str × Addr)} {news : Led}
theorem srcS_chr {k k2 p1 p2 p3} {l : List Nat} {t : Tok} {Fin : Shared → List Value → Led → Prop} (hh : A.handled = none) (F : Fr h₀ L s₁.heap m) (N : News h₀ L s₁.heap news) (hz : l.length ≤ 1000000)
    (fin : ∀ g ys news', RowsAre news' ys (l.map chrR) → ys.length = l.length → (∀ p ∈ news, p ∈ news') → Fin { s₁ with heap := g } ys news') :
    SrcS prog w A h₀ L m env (.Tuple [.Constant (.str "char") k p1, .Name "sign" p2] k2 p3) "sign" { kind := .function, names := [(".0", .local), ("sign", .local)], isGenerator := false, isCoroutine := false } cl Fin (.str (S l) t) s₁ := by
  refine ⟨l, t, news, rfl, hh, F, N, by rw [sizeLine_eq]; omega, ?_⟩
  rintro s₂ ⟨g, rfl⟩
  refine comp_inv (n := l.length) (fun i ys nw => RowsAre nw ys ((l.take i).map chrR) ∧ ys.length = i ∧ ∀ p ∈ news, p ∈ nw) ?_ ?_ _ 0 [] news (Nat.zero_add _) ⟨.nil, rfl, fun _ h => h⟩
  · rintro i ys nw v I oI C oC D m₂ h tk E' hi ⟨hr, hy, hk⟩ ⟨c, u, hc, rfl⟩ hC hx F' N' off ne
    have hc' : l[i]? = some c := by simpa [S] using hc
    refine wpAny_mono (chr_elt hC hx F' N' off) (fun y s₂ hy2 => ?_) fun _ _ e => e
    obtain ⟨h', tk', nw', e1, a, b, c', d, hR, hS⟩ := hy2
    refine ⟨h', tk', nw', e1, a, b, c', d, ?_, by rw [List.length_append, hy]; rfl, fun p hp => hS p (hk p hp)⟩
    rw [List.take_add_one, hc', List.map_append]
    exact (hr.mono fun p hp _ => hS p hp).snoc hR
  · rintro ys nw ⟨hr, hy, hk⟩
    rw [List.take_length] at hr
    exact fin g ys nw hr hy hk
theorem finE_of {Q : Value → Shared → Prop} {ys : List Value} (h : ∀ D h tk, Fr h₀ L h m → News h₀ L h ((D, listOf ys.toArray ys.length) :: news) → Q (.ref D) { s with heap := h, toks := tk }) : FinE h₀ L m s Q ys news := fun D g tk F N _ => h D g tk F N
theorem finA_of {y : Str} {Q : Flow → Shared → Prop} {ys : List Value} (h : ∀ D h tk, Fr h₀ L h (fun z => if z = y then some (.ref D) else m z) → News h₀ L h ((D, listOf ys.toArray ys.length) :: news) → Q .next { s with heap := h, toks := tk }) : FinA h₀ L m s y Q ys news := fun D g tk F N _ => h D g tk F N
theorem add_rows {a b : Addr} {vs ws : List Value} {n k : Nat} {Q : Value → Shared → Prop} (F : Fr h₀ L s.heap m) (N : News h₀ L s.heap nx) (ma : (a, listOf vs.toArray n) ∈ nx) (mb : (b, listOf ws.toArray k) ∈ nx) (hz : vs.length + ws.length ≤ 1000000)
    (h : ∀ D h', Fr h₀ L h' m → News h₀ L h' ((D, listOf (vs ++ ws).toArray 0) :: nx) → Q (.ref D) { s with heap := h' }) : wpAny (model prog w) A (binaryOp .Add (.ref a) (.ref b)) Q E s := by
  have hl : s.heap.IsList a vs.toArray := ⟨_, (N _ ma).1, rfl, _, rfl⟩
  have hb : s.heap.IsList b ws.toArray := ⟨_, (N _ mb).1, rfl, _, rfl⟩
  exact add_arrays F N hl hb (fun h' F' N' => h _ h' F' N') (by rw [List.size_toArray, List.size_toArray, sizeLine_eq]; omega)
theorem len_rows {a : Addr} {vs : List Value} {n : Nat} {Q : Value → Shared → Prop} (N : News h₀ L s.heap nx) (ma : (a, listOf vs.toArray n) ∈ nx) (hz : vs.length ≤ 1000000) (h : Q (.int vs.length (s.toks + 1)) { s with toks := s.toks + 1 + 1 }) :
    wpAny (model prog w) A (call (.builtin "len") [.ref a]) Q E s := by
  have e : (vs.toArray.size : Int) = vs.length := by rw [List.size_toArray]
  refine len_list ⟨_, (N _ ma).1, rfl, _, rfl⟩ (by rw [e]; omega) ?_
  rw [e]; exact h
theorem cut_rows {value slice : PySem.Expr} {a : Addr} {vs : List Value} {n : Nat} {j : Int} {uj : Tok} {Q : Value → Shared → Prop} (F : Fr h₀ L s.heap m) (N : News h₀ L s.heap nx) (ma : (a, listOf vs.toArray n) ∈ nx) (h0 : 0 ≤ j) (hz : vs.length ≤ 1000000)
    (h : ∀ D h', Fr h₀ L h' m → News h₀ L h' ((D, listOf (vs.take j.toNat).toArray 0) :: nx) → Q (.ref D) { s with heap := h' })
    (hs : subscripted slice false (.ref a) (.ref s.heap.objs.size) = operate [.ref s.heap.objs.size, .ref a] (getItem (.ref a) (.ref s.heap.objs.size)) := by with_unfolding_all rfl)
    (ht : ∀ r, letTemporaryGo value (.ref a) r = pure () := by intro _; with_unfolding_all rfl) :
    wpAny (model prog w) A (subscriptTail value slice (.ref a) (.ref s.heap.objs.size)) Q E { s with heap := s.heap.push { cls := .type "slice", data := .fields #[.none, .int j uj, .none] } } := by
  have hl : s.heap.IsList a vs.toArray := ⟨_, (N _ ma).1, rfl, _, rfl⟩
  refine slice_list F N hl .none (.int j uj) (fun h' F' N' => h _ h' F' ?_) hs ht (by rw [List.size_toArray, sizeLine_eq]; omega)
  have e : slicePick vs.toArray none (some j) none = (vs.take j.toNat).toArray := by
    have ey : j = (j.toNat : Int) := by omega
    conv => lhs; rw [ey]
    rw [slicePick_upto' vs.toArray j.toNat]
  rw [e] at N'
  exact N'
end
/-- the value `v` is the tuple that the law reckons -/
noncomputable def DueIs (nx : Led) (v : Value) (r : Due) : Prop := ∃ a lo le vo ve no ne u1 u2 u3 n, v = .ref a ∧ (a, tupOf [.ref lo, .ref le, .str r.state u1, .int r.at_ u2, .str (S r.kept) u3, .bool r.wait, .bool r.done] n) ∈ nx ∧
  (lo, listOf (List.toArray vo) no) ∈ nx ∧ RowsAre nx vo r.out ∧ (le, listOf (List.toArray ve) ne) ∈ nx ∧ RowsAre nx ve r.errs

theorem RowsAre.take {nx : Led} {vs rs} (h : RowsAre nx vs rs) : ∀ k, RowsAre nx (vs.take k) (rs.take k) := by
  induction h with
  | nil => intro k; rw [List.take_nil, List.take_nil]; exact .nil
  | cons a _ ih =>
    intro k
    cases k with
    | zero => exact .nil
    | succ k => exact .cons a (ih k)
theorem due_build {nx' : Led} {a lo le : Addr} {vo ve : List Value} {no ne n : Nat} {u1 u2 u3 : Tok} {st kp : Str} {at_ : Int} {kept : List Nat} {wt dn : Bool} {out errs : List (List Dat)} {r : Due}
    (m1 : (a, tupOf [.ref lo, .ref le, .str st u1, .int at_ u2, .str kp u3, .bool wt, .bool dn] n) ∈ nx') (m2 : (lo, listOf (List.toArray vo) no) ∈ nx') (m3 : (le, listOf (List.toArray ve) ne) ∈ nx') (ro : RowsAre nx' vo out) (re : RowsAre nx' ve errs)
    (hk : kp = S kept) (e : (⟨out, errs, st, at_, kept, wt, dn⟩ : Due) = r) : DueIs nx' (.ref a) r := by
  subst hk; subst e
  exact ⟨a, lo, le, vo, ve, no, ne, u1, u2, u3, n, rfl, m1, m2, ro, m3, re⟩
section
variable {l : List Nat} {e : Bool} {ys : List Value}
theorem sec_1 (h : 0 ≤ Txt.find (S (l.drop (Int.toNat 7))) (Str.ofString "]]>")) : (⟨((l.drop (Int.toNat 7)).take ((7 : Int) + Txt.find (S (l.drop (Int.toNat 7))) (Str.ofString "]]>") - 7).toNat).map chrR, [], "data", Txt.find (S (l.drop (Int.toNat 7))) (Str.ofString "]]>") + 10, [], false, false⟩ : Due) = sectionF l e := by
  have e7 : Int.toNat 7 = 7 := rfl
  rw [e7] at h ⊢
  unfold sectionF; dsimp only
  rw [if_pos h, show (7 : Int) + Txt.find (S (l.drop 7)) (Str.ofString "]]>") - 7 = Txt.find (S (l.drop 7)) (Str.ofString "]]>") by omega]
theorem sec_2 (h : ¬ 0 ≤ Txt.find (S (l.drop (Int.toNat 7))) (Str.ofString "]]>")) (he : e = true) : (⟨(l.drop (Int.toNat 7)).map chrR ++ [[.str "eof"]], [[.str "eof-in-cdata", .int l.length]], "", l.length + 1, [], false, true⟩ : Due) = sectionF l e := by
  have e7 : Int.toNat 7 = 7 := rfl
  rw [e7] at h ⊢
  unfold sectionF; dsimp only
  rw [if_neg h, if_pos he]; rfl
theorem sec_3 (h : ¬ 0 ≤ Txt.find (S (l.drop (Int.toNat 7))) (Str.ofString "]]>")) (he : e = false) (h2 : Txt.endswith (S (l.drop (Int.toNat 7))) (Str.ofString "]]") = true) (hy : ys.length = (l.drop (Int.toNat 7)).length) :
    (⟨((l.drop (Int.toNat 7)).map chrR).take ((ys.length : Int) - 2).toNat, [], "CDATA section end", l.length, [], false, false⟩ : Due) = sectionF l e := by
  have e7 : Int.toNat 7 = 7 := rfl
  rw [e7] at h h2 hy ⊢
  unfold sectionF; dsimp only
  rw [if_neg h, if_neg (by rw [he]; exact Bool.noConfusion), if_pos h2, hy, ← List.map_take, show (((l.drop 7).length : Int) - 2).toNat = (l.drop 7).length - 2 by omega]
theorem sec_4 (h : ¬ 0 ≤ Txt.find (S (l.drop (Int.toNat 7))) (Str.ofString "]]>")) (he : e = false) (h2 : Txt.endswith (S (l.drop (Int.toNat 7))) (Str.ofString "]]") = false) (h3 : Txt.endswith (S (l.drop (Int.toNat 7))) (Str.ofString "]") = true) (hy : ys.length = (l.drop (Int.toNat 7)).length) :
    (⟨((l.drop (Int.toNat 7)).map chrR).take ((ys.length : Int) - 1).toNat, [], "CDATA section bracket", l.length, [], false, false⟩ : Due) = sectionF l e := by
  have e7 : Int.toNat 7 = 7 := rfl
  rw [e7] at h h2 h3 hy ⊢
  unfold sectionF; dsimp only
  rw [if_neg h, if_neg (by rw [he]; exact Bool.noConfusion), if_neg (by rw [h2]; exact Bool.noConfusion), if_pos h3, hy, ← List.map_take, show (((l.drop 7).length : Int) - 1).toNat = (l.drop 7).length - 1 by omega]
theorem sec_5 (h : ¬ 0 ≤ Txt.find (S (l.drop (Int.toNat 7))) (Str.ofString "]]>")) (he : e = false) (h2 : Txt.endswith (S (l.drop (Int.toNat 7))) (Str.ofString "]]") = false) (h3 : Txt.endswith (S (l.drop (Int.toNat 7))) (Str.ofString "]") = false) :
    (⟨(l.drop (Int.toNat 7)).map chrR, [], "CDATA section", l.length, [], false, false⟩ : Due) = sectionF l e := by
  have e7 : Int.toNat 7 = 7 := rfl
  rw [e7] at h h2 h3 ⊢
  unfold sectionF; dsimp only
  rw [if_neg h, if_neg (by rw [he]; exact Bool.noConfusion), if_neg (by rw [h2]; exact Bool.noConfusion), if_neg (by rw [h3]; exact Bool.noConfusion)]
end

theorem ends2_len {l : List Nat} (h : Txt.endswith (S l) (Str.ofString "]]") = true) : 2 ≤ l.length := by
  rw [S_brbr] at h; exact ((ends_iff _ _).mp h).length_le
theorem ends1_len {l : List Nat} (h : Txt.endswith (S l) (Str.ofString "]") = true) : 1 ≤ l.length := by
  rw [S_br] at h; exact ((ends_iff _ _).mp h).length_le
theorem S_cde : Str.ofString "]]>" = S [93, 93, 62] := by decide +kernel
theorem find_le (l w : List Nat) : Txt.find (S l) (S w) ≤ (l.length : Int) := by
  rcases find_spec l w with ⟨h, _⟩ | ⟨i, h, hi, _⟩
  · rw [h]; omega
  · rw [h]; omega

theorem lines_C8_3 : True := by
  k_with "mine lit" => first | exact rfl | exact S_dash | exact S_doc | exact S_cd
  k_with "mine nat" => first | (with_reducible assumption) | decide | omega | (k_fmods; omega)
  k_with "subscriptTail" => k_dflt (first | ((with_reducible show wpAny _ _ (subscriptTail _ (Expr.Slice none (some _) none _) (Value.str _ _) _) _ _ _); refine' cut_to (s := ⟨_, _, _, _, _⟩) ?zhy ?zhF ?zhN ?zhh0 ?zhz ?_; (case zhy => walk_at "mine lit"); (case zhF => k_asm); (case zhN => k_asm); (case zhh0 => walk_at "mine nat"); (case zhz => walk_at "mine size"); intro _ _ _ _ _) | ((with_reducible show wpAny _ _ (subscriptTail _ (Expr.Slice (some _) none none _) (Value.str _ _) _) _ _ _); refine' cut_from (s := ⟨_, _, _, _, _⟩) ?zhy ?zhF ?zhN ?zhh0 ?zhz ?_; (case zhy => walk_at "mine lit"); (case zhF => k_asm); (case zhN => k_asm); (case zhh0 => walk_at "mine nat"); (case zhz => walk_at "mine size"); intro _ _ _ _ _) | ((with_reducible show wpAny _ _ (subscriptTail _ (Expr.Slice (some _) (some _) none _) (Value.str _ _) _) _ _ _); refine' cut_mid (s := ⟨_, _, _, _, _⟩) ?zhy ?zhF ?zhN ?zhh0 ?zhh1 ?zhh2 ?zhz ?_; (case zhy => walk_at "mine lit"); (case zhF => k_asm); (case zhN => k_asm); (case zhh0 => walk_at "mine nat"); (case zhh1 => walk_at "mine nat"); (case zhh2 => walk_at "mine nat"); (case zhz => walk_at "mine size"); intro _ _ _ _ _))
  k_with "mine sg" => first | (with_reducible assumption) | ((refine InSG.get ?_ (by assumption)); assumption) | (apply InSG.one; first | assumption | ((refine InSG.get ?_ (by assumption)); assumption) | ((refine (sg_low _ ?_).2.1); (refine InSG.get ?_ (by assumption)); assumption)) | exact InSG.take (by assumption) _ | exact InSG.drop (by assumption) _
  k_with "call builtin:str.upper" => k_dflt (refine' upper1 ?zhh ?_; (case zhh => walk_at "mine sg"); intro _ _ _ _)
  k_with "call builtin:str.lower" => k_dflt (refine' lowerS ?zhh ?zhz ?_; (case zhh => walk_at "mine sg"); (case zhz => walk_at "mine size"); intro _ _; (try rw [List.map_cons, List.map_nil]))
  k_with "binaryOp Pow int int" => k_dflt (refine' pow_int_small ?zha ?zhb ?zhc ?_; (case zha => walk_at "mine nat"); (case zhb => walk_at "mine nat"); (case zhc => decide))
  k_with "binaryOp FloorDiv int int" => k_dflt ((with_reducible show wpAny _ _ (binaryOp _ _ (Value.int (HPow.hPow _ _) _)) _ _ _); refine' floordiv_int ?zhb ?_; (case zhb => exact Int.ne_of_gt (Int.pow_pos (by decide))))
  k_with "eval ListComp" => k_dflt ((with_reducible show wpAny _ _ (eval (Expr.ListComp (Expr.Tuple _ _ _) _ _ _) _) _ _ _); refine ListComp_S (F₀ := by k_asm) (by with_unfolding_all rfl) (by decide) (by rfl) (by decide) (by rfl) ?_)
  k_with "exec Assign cons ListComp" => k_dflt (refine Assign_ListComp_S (F₀ := by k_asm) (by rfl) (by with_unfolding_all rfl) (by with_unfolding_all rfl) (by decide) (by rfl) (by decide) (by rfl) (by rfl) (by rfl) ?_)
  k_with "SrcS" => k_dflt (refine' srcS_chr ?zhhh ?zhF ?zhN ?zhz ?_; (case zhhh => rfl); (case zhF => k_asm); (case zhN => k_asm); (case zhz => walk_at "mine size"); intro _ _ _ _ _ _; (first | refine finE_of ?_ | refine finA_of ?_); intro _ _ _ _ _)
  k_with "binaryOp Add ref ref" => k_dflt (refine' add_rows ?zhF ?zhN ?zha ?zhb ?zhz ?_; (case zhF => k_asm); (case zhN => k_asm); (case zha => k_mem); (case zhb => k_mem); (case zhz => walk_at "mine size"); intro _ _ _ _)
  k_with "call builtin:len" => k_dflt ((with_reducible show wpAny _ _ (call _ [Value.ref _]) _ _ _); refine' len_rows ?zhN ?zha ?zhz ?_; (case zhN => k_asm); (case zha => k_mem); (case zhz => walk_at "mine size"))
  k_with "mine cut" => first | walk_at "mine nat" | ((have qe := ends2_len (by assumption)); (simp only [List.length_drop] at *); omega) | ((have qe := ends1_len (by assumption)); (simp only [List.length_drop] at *); omega)
  k_with "subscriptTail" => k_dflt ((with_reducible show wpAny _ _ (subscriptTail _ (Expr.Slice none (some _) none _) (Value.ref _) _) _ _ _); refine' cut_rows (s := ⟨_, _, _, _, _⟩) ?zhF ?zhN ?zhm ?zhh0 ?zhz ?_; (case zhF => k_asm); (case zhN => k_asm); (case zhm => k_mem); (case zhh0 => walk_at "mine cut"); (case zhz => walk_at "mine size"); intro _ _ _ _)
  k_with "mine tails" => repeat (first | assumption | apply List.Mem.tail)
  k_with "mine rows" => first | exact RowsAre.nil | exact RowsAre.mono (by assumption) (fun p hp _ => by walk_at "mine tails") | exact (RowsAre.mono (by assumption) (fun p hp _ => by walk_at "mine tails")).take _ | exact RowsAre.cons (by walk_at "mine row") RowsAre.nil | exact (RowsAre.mono (by assumption) (fun p hp _ => by walk_at "mine tails")).snoc (by walk_at "mine row")
  trivial


theorem section_ok (l : List Nat) (u : Tok) (e : Bool) (hz : l.length ≤ 100) (h7 : 7 ≤ l.length) : Claim prog w mean mg mb 6 487 nx [.str (S l) u, .bool e] (fun v nx' => DueIs nx' v (sectionF l e) ∧ ∀ p ∈ nx, p ∈ nx') := by
  have hfl : Txt.find (S (l.drop (Int.toNat 7))) (Str.ofString "]]>") ≤ (l.length : Int) - 7 := by
    rw [S_cde]
    have := find_le (l.drop (Int.toNat 7)) [93, 93, 62]
    rw [List.length_drop] at this
    have e7 : Int.toNat 7 = 7 := rfl
    omega
  unfold Claim
  intro dp un gd cn cs a ccd cl outer A₀ base h₀ L m s Q E B F X N Tp hk hd hu hret
  refine wpAny_call ?_
  k_dflt cell_enter
  walk_at "mine steps"
  · refine' hret _ _ _ _ (And.intro ?_ ?_) ?F ?N
    case F => k_asm
    case N => k_asm
    · exact due_build (by k_mem) (by k_mem) (by k_mem) (by walk_at "mine rows") (by walk_at "mine rows") S_nil (sec_1 ‹_›)
    · intro p hp
      have q := ‹∀ (p : Addr × Obj), p ∈ nx → p ∈ _› p hp
      walk_at "mine tails"
  · refine' hret _ _ _ _ (And.intro ?_ ?_) ?F ?N
    case F => k_asm
    case N => k_asm
    · exact due_build (by k_mem) (by k_mem) (by k_mem) (by walk_at "mine rows") (by walk_at "mine rows") S_nil (sec_2 (by assumption) ‹_›)
    · intro p hp
      have q := ‹∀ (p : Addr × Obj), p ∈ nx → p ∈ _› p hp
      walk_at "mine tails"
  · refine' hret _ _ _ _ (And.intro ?_ ?_) ?F ?N
    case F => k_asm
    case N => k_asm
    · exact due_build (by k_mem) (by k_mem) (by k_mem) (by walk_at "mine rows") (by walk_at "mine rows") S_nil (sec_3 (by assumption) ‹_› ‹_› ‹_›)
    · intro p hp
      have q := ‹∀ (p : Addr × Obj), p ∈ nx → p ∈ _› p hp
      walk_at "mine tails"
  · refine' hret _ _ _ _ (And.intro ?_ ?_) ?F ?N
    case F => k_asm
    case N => k_asm
    · exact due_build (by k_mem) (by k_mem) (by k_mem) (by walk_at "mine rows") (by walk_at "mine rows") S_nil (sec_4 (by assumption) ‹_› ‹_› ‹_› ‹_›)
    · intro p hp
      have q := ‹∀ (p : Addr × Obj), p ∈ nx → p ∈ _› p hp
      walk_at "mine tails"
  · refine' hret _ _ _ _ (And.intro ?_ ?_) ?F ?N
    case F => k_asm
    case N => k_asm
    · exact due_build (by k_mem) (by k_mem) (by k_mem) (by walk_at "mine rows") (by walk_at "mine rows") S_nil (sec_5 (by assumption) ‹_› ‹_› ‹_›)
    · intro p hp
      have q := ‹∀ (p : Addr × Obj), p ∈ nx → p ∈ _› p hp
      walk_at "mine tails"


end C8

section C9
open PySem PySem.W PyProof.Rows PySem.Calls PyProof.Rows.LCg PyProof.Rows.LCt
set_option maxRecDepth 100000
set_option maxHeartbeats 2500000
theorem lines_C9_1 : True := by
  w_top off
  k_with_none
  k_with "execs cons" => k_fold
  k_with "exec If" => k_fold
  k_with "exec Assign" => k_fold
  k_with "exec Expr" => k_fold
  k_with "exec Return" => k_fold
  k_with "callWith" => k_fold
  k_with "call ref" => k_fold
  k_with "eval Call Attribute" => k_fold
  k_with "eval Call" => k_fold
  k_with "isTrue Compare" => k_fold
  k_with "isTrue" => k_fold
  k_with "eval BinOp" => k_fold
  k_with "eval Compare" => k_fold
  k_with "eval BoolOp" => k_fold
  k_with "eval IfExp" => k_fold
  k_with "eval Subscript" => k_fold
  k_with "mine steps" => repeat' ((fail_if_success (with_reducible show wpAny _ _ (pyIter _) _ _ _)); (fail_if_success (with_reducible show wpAny _ _ (exec (Stmt.For _ (Expr.Name _ _) _ _ _) _) _ _ _)); first | (k_unfold; (try dsimp only)) | walk1 | (dsimp only; walk1) | (leave1; (try dsimp only)))
  k_with "mine H" => (first | (with_reducible assumption) | (with_reducible refine' TokX.cons1 ?zhhh; (case zhhh => with_reducible assumption)) | (with_reducible refine' TokX.cons2 ?zhhh; (case zhhh => with_reducible assumption)) | (with_reducible refine' TokX.cons3 ?zhhh; (case zhhh => with_reducible assumption)))
  k_with "mine row" => (first | (with_reducible assumption) | (apply RowIs.of; k_mem; (repeat' constructor); done))
  k_with "mine HD" => (first | (with_reducible assumption) | (exact TokX.dr (by with_reducible assumption) rfl) | (exact TokX.dr (by with_reducible assumption) (by with_reducible assumption)) | (exact DraftAt.keepA (by with_reducible assumption) (by with_reducible assumption)) | (exact TokX.dr (by with_reducible assumption) (by assumption)))
  k_with "mine fxnh" => ((case zhF => k_asm); (case zhX => k_asm); (case zhN => k_asm); (case zhH => walk_at "mine H"))
  k_with "getAttr ref" => k_dflt (first | (with_reducible refine' get_at ?zhF ?zhX ?zhN ?zhH ?_; walk_at "mine fxnh"; intro _) | (with_reducible refine' get_stream ?zhF ?zhX ?zhN ?zhH ?_; walk_at "mine fxnh") | (with_reducible refine' get_signs ?zhF ?zhX ?zhN ?zhH ?_; walk_at "mine fxnh") | (with_reducible refine' get_out ?zhF ?zhX ?zhN ?zhH ?_; walk_at "mine fxnh") | (with_reducible refine' get_errors ?zhF ?zhX ?zhN ?zhH ?_; walk_at "mine fxnh") | (with_reducible refine' get_draft ?zhF ?zhX ?zhN ?zhH ?_; walk_at "mine fxnh") | (with_reducible refine' get_state ?zhF ?zhX ?zhN ?zhH ?_; walk_at "mine fxnh"; intro _) | (with_reducible refine' get_states ?zhF ?zhX ?zhN ?zhH ?_; walk_at "mine fxnh") | (with_reducible refine' get_waiting ?zhF ?zhX ?zhN ?zhH ?_; walk_at "mine fxnh") | (with_reducible refine' get_done ?zhF ?zhX ?zhN ?zhH ?_; walk_at "mine fxnh") | (with_reducible refine' get_foreign ?zhF ?zhX ?zhN ?zhH ?_; walk_at "mine fxnh") | (with_reducible refine' get_last ?zhF ?zhX ?zhN ?zhH ?_; walk_at "mine fxnh"; intro _) | (with_reducible refine' get_closed ?zhF ?zhX ?zhN ?zhH ?_; walk_at "mine fxnh") | (with_reducible refine' get_return ?zhF ?zhX ?zhN ?zhH ?_; walk_at "mine fxnh") | (with_reducible refine' get_serr ?zhF ?zhX ?zhN ?zhH ?_; walk_at "mine fxnh") | (with_reducible refine' getd_text ?zhF ?zhX ?zhN ?zhH ?_; (case zhF => k_asm); (case zhX => k_asm); (case zhN => k_asm); (case zhH => walk_at "mine HD"); intro _) | (with_reducible refine' getd_kind ?zhF ?zhX ?zhN ?zhH ?_; (case zhF => k_asm); (case zhX => k_asm); (case zhN => k_asm); (case zhH => walk_at "mine HD"); intro _))
  k_with "setAttr ref" => k_dflt (first | (with_reducible refine' set_state ?zhF ?zhX ?zhN ?zhH ?_; walk_at "mine fxnh"; intro _ _ _ _ _ _) | (with_reducible refine' set_waiting ?zhF ?zhX ?zhN ?zhH ?_; walk_at "mine fxnh"; intro _ _ _ _ _ _) | (with_reducible refine' set_done ?zhF ?zhX ?zhN ?zhH ?_; walk_at "mine fxnh"; intro _ _ _ _ _ _) | (with_reducible refine' set_foreign ?zhF ?zhX ?zhN ?zhH ?_; walk_at "mine fxnh"; intro _ _ _ _ _ _) | (with_reducible refine' set_closed ?zhF ?zhX ?zhN ?zhH ?_; walk_at "mine fxnh"; intro _ _ _ _ _ _) | (with_reducible refine' set_return ?zhF ?zhX ?zhN ?zhH ?_; walk_at "mine fxnh"; intro _ _ _ _ _ _) | (with_reducible refine' set_draft_none ?zhF ?zhX ?zhN ?zhH ?_; walk_at "mine fxnh"; intro _ _ _ _ _ _) | (with_reducible refine' set_draft ?zhF ?zhX ?zhN ?zhH ?zhhy ?_; walk_at "mine fxnh"; (case zhhy => with_reducible assumption); intro _ _ _ _ _ _) | (with_reducible refine' setd_text ?zhF ?zhX ?zhN ?zhH ?zhhd ?zhhy ?_; walk_at "mine fxnh"; (case zhhd => first | with_reducible assumption | rfl); (case zhhy => first | exact rfl | exact S_app _ _ | (rw [S_fffd]; exact S_app _ _)); intro _ _ _ _ _) | ((with_reducible show wpAny _ _ (setAttr (Value.ref (TA.t _)) (PySem.Str.ofString "at") _) _ _ _); refine' set_at ?zhF ?zhX ?zhN ?zhH (Int.natCast_add _ _).symm ?_; walk_at "mine fxnh"; intro _ _ _ _ _ _) | ((with_reducible show wpAny _ _ (setAttr (Value.ref (TA.t _)) (PySem.Str.ofString "at") _) _ _ _); refine' set_at ?zhF ?zhX ?zhN ?zhH (cast_pred ?zhp) ?_; walk_at "mine fxnh"; (case zhp => first | with_reducible assumption | omega); intro _ _ _ _ _ _) | ((with_reducible show wpAny _ _ (setAttr (Value.ref (TA.t _)) (PySem.Str.ofString "at") _) _ _ _); refine' set_at ?zhF ?zhX ?zhN ?zhH (Eq.refl (Nat.cast _)) ?_; walk_at "mine fxnh"; intro _ _ _ _ _ _))
  k_with "getMethod ref" => k_dflt (first | ((with_reducible show wpAny _ _ (getMethod (Value.ref (TA.t _)) _ _) _ _ _); refine' tok_method ?zhF ?zhX ?zhN ?zhH ?zhg ?zhf ?zht ?zhl ?_; walk_at "mine fxnh"; (case zhg => k_dflt k_is); (case zhf => k_dflt k_is); (case zht => k_dflt k_is); (case zhl => intro _; rfl)) | ((with_reducible show wpAny _ _ (getMethod (Value.ref (TA.st _)) _ _) _ _ _); refine' str_method ?zhF ?zhX ?zhN ?zhH ?zhg ?zhf ?zht ?zhl ?_; walk_at "mine fxnh"; (case zhg => k_dflt k_is); (case zhf => k_dflt k_is); (case zht => k_dflt k_is); (case zhl => intro _; rfl)) | (refine' dr_method ?zhF ?zhX ?zhN ?zhH ?zhg ?zhf ?zht ?zhl ?_; (case zhF => k_asm); (case zhX => k_asm); (case zhN => k_asm); (case zhH => walk_at "mine HD"); (case zhg => k_dflt k_is); (case zhf => k_dflt k_is); (case zht => k_dflt k_is); (case zhl => intro _ _ _; rfl)) | ((with_reducible show wpAny _ _ (getMethod (Value.ref (TA.er _)) _ _) _ _ _); refine' app_method_er ?zhN ?zhH ?_; (case zhN => k_asm); (case zhH => walk_at "mine H")) | ((with_reducible show wpAny _ _ (getMethod (Value.ref (TA.ou _)) _ _) _ _ _); refine' app_method_ou ?zhN ?zhH ?_; (case zhN => k_asm); (case zhH => walk_at "mine H")) | ((with_reducible show wpAny _ _ (getMethod (Value.ref (TA.se _)) _ _) _ _ _); refine' app_method_se ?zhN ?zhH ?_; (case zhN => k_asm); (case zhH => walk_at "mine H")) | ((with_reducible show wpAny _ _ (getMethod (Value.ref (TA.sg _)) _ _) _ _ _); refine' app_method_sg ?zhN ?zhH ?_; (case zhN => k_asm); (case zhH => walk_at "mine H")))
  k_with "call builtin:list.append" => k_dflt (first | ((with_reducible show wpAny _ _ (call _ [Value.ref (TA.er _), _]) _ _ _); refine' app_er ?zhF ?zhN ?zhH ?zhr ?zhz ?_; (case zhF => k_asm); (case zhN => k_asm); (case zhH => walk_at "mine H"); (case zhr => walk_at "mine row"); (case zhz => walk_at "mine size"); intro _ _ _ _ _ _) | ((with_reducible show wpAny _ _ (call _ [Value.ref (TA.ou _), _]) _ _ _); refine' app_ou ?zhF ?zhN ?zhH ?zhr ?zhz ?_; (case zhF => k_asm); (case zhN => k_asm); (case zhH => walk_at "mine H"); (case zhr => walk_at "mine row"); (case zhz => walk_at "mine size"); intro _ _ _ _ _ _) | ((with_reducible show wpAny _ _ (call _ [Value.ref (TA.se _), _]) _ _ _); refine' app_se ?zhF ?zhN ?zhH ?zhr ?zhz ?_; (case zhF => k_asm); (case zhN => k_asm); (case zhH => walk_at "mine H"); (case zhr => walk_at "mine row"); (case zhz => walk_at "mine size"); intro _ _ _ _ _ _) | ((with_reducible show wpAny _ _ (call _ [Value.ref (TA.sg _), _]) _ _ _); refine' app_sg ?zhF ?zhN ?zhH ?zhhx ?zhz ?_; (case zhF => k_asm); (case zhN => k_asm); (case zhH => walk_at "mine H"); (case zhhx => first | exact S_nl | exact rfl); (case zhz => walk_at "mine size"); intro _ _ _ _ _ _))
  k_with "mine size" => first | with_reducible assumption | ((try dsimp only at *); omega) | ((try dsimp only at *); simp only [List.length_append, List.length_cons, List.length_nil, List.length_take, List.length_drop, List.length_map] at *; omega)
  k_with "call builtin:len" => k_dflt ((with_reducible refine' len_S ?zhz ?_); (case zhz => walk_at "mine size"))
  k_with "call builtin:ord" => k_dflt (with_reducible refine' ord_S ?_)
  k_with "call builtin:chr" => k_dflt (refine' chr_S (Int.natCast_add _ _).symm ?zhz ?_; (case zhz => omega))
  k_with "call builtin:len" => k_dflt (with_reducible refine' len_sg ?zhN ?zhH ?zhz ?_; (case zhN => k_asm); (case zhH => walk_at "mine H"); (case zhz => walk_at "mine size"))
  k_with "mine slen" => (simp only [S_fffd, S_len, S_nil, List.length_append, List.length_cons, List.length_nil, sizeLine]; omega)
  k_with "binaryOp Add str str" => k_dflt (refine' PyProof.Rows.add_str ?_ ?zhz9; (case zhz9 => walk_at "mine slen"); intro _ _)
  k_with "mine news" => first | k_asm | exact News.ofCons (by assumption)
  k_with "mine for" => ((rename Fr _ _ _ _ => lF'); (with_unfolding_all refine' For_invVF lF' ?zhk1 ?zhk2 ?_; (case zhk1 => exact rfl); (case zhk2 => exact rfl)))
  k_with "mine name" => k_dflt ((refine' nameX_L ?zhF ?zhv ?_ ?zha ?zhb ?zhc); (case zhF => k_asm); (case zha => rfl); (case zhb => rfl); (case zhv => rfl); (case zhc => decide))
  k_with "mine locs" => ((repeat' (refine List.forall_mem_cons.mpr ⟨rfl, ?_⟩)); exact fun _ h => nomatch h)
  k_with "subscriptTail" => k_dflt ((with_reducible show wpAny _ _ (subscriptTail _ _ (Value.ref (TA.sg _)) (Value.int _ _)) _ _ _); refine' item_sg ?zhN ?zhH ?zhe ?zhhi ?zhz ?_; (case zhN => k_asm); (case zhH => walk_at "mine H"); (case zhe => first | exact rfl | exact (Int.natCast_add _ _).symm); (case zhhi => (try dsimp only at *); omega); (case zhz => walk_at "mine size"); intro c9 u9 hc9)
  k_with "subscriptTail" => k_dflt ((with_reducible show wpAny _ _ (subscriptTail _ _ (Value.str _ _) (Value.int _ _)) _ _ _); refine' item_S ?zhhi ?zhz ?_; (case zhhi => (try dsimp only at *); omega); (case zhz => walk_at "mine size"); intro c9 u9 hc9)
  k_with "subscriptTail Name Name str int" => k_dflt ((with_reducible show wpAny _ _ (subscriptTail _ _ (Value.str _ _) (Value.int _ _)) _ _ _); refine' item_S ?zhhi ?zhz ?_; (case zhhi => (try dsimp only at *); omega); (case zhz => walk_at "mine size"); intro c9 u9 hc9)
  trivial

variable {prog : Program} {w : World} {mean : ExcName → Option Value} {mg mb : Str → Option Value} {T : TA} {n0 : Led} {d : D} {dv : Value} {nx : Led}

theorem lines_C9_2 : True := by
  k_with "mine lit" => first | exact rfl | exact S_dash | exact S_doc | exact S_cd
  k_with "mine nat" => first | (with_reducible assumption) | decide | omega | (k_fmods; omega)
  k_with "subscriptTail" => k_dflt (first | ((with_reducible show wpAny _ _ (subscriptTail _ (Expr.Slice none (some _) none _) (Value.str _ _) _) _ _ _); refine' cut_to (s := ⟨_, _, _, _, _⟩) ?zhy ?zhF ?zhN ?zhh0 ?zhz ?_; (case zhy => walk_at "mine lit"); (case zhF => k_asm); (case zhN => k_asm); (case zhh0 => walk_at "mine nat"); (case zhz => walk_at "mine size"); intro _ _ _ _ _) | ((with_reducible show wpAny _ _ (subscriptTail _ (Expr.Slice (some _) none none _) (Value.str _ _) _) _ _ _); refine' cut_from (s := ⟨_, _, _, _, _⟩) ?zhy ?zhF ?zhN ?zhh0 ?zhz ?_; (case zhy => walk_at "mine lit"); (case zhF => k_asm); (case zhN => k_asm); (case zhh0 => walk_at "mine nat"); (case zhz => walk_at "mine size"); intro _ _ _ _ _) | ((with_reducible show wpAny _ _ (subscriptTail _ (Expr.Slice (some _) (some _) none _) (Value.str _ _) _) _ _ _); refine' cut_mid (s := ⟨_, _, _, _, _⟩) ?zhy ?zhF ?zhN ?zhh0 ?zhh1 ?zhh2 ?zhz ?_; (case zhy => walk_at "mine lit"); (case zhF => k_asm); (case zhN => k_asm); (case zhh0 => walk_at "mine nat"); (case zhh1 => walk_at "mine nat"); (case zhh2 => walk_at "mine nat"); (case zhz => walk_at "mine size"); intro _ _ _ _ _))
  k_with "mine sg" => first | (with_reducible assumption) | ((refine InSG.get ?_ (by assumption)); assumption) | (apply InSG.one; first | assumption | ((refine InSG.get ?_ (by assumption)); assumption) | ((refine (sg_low _ ?_).2.1); (refine InSG.get ?_ (by assumption)); assumption)) | exact InSG.take (by assumption) _ | exact InSG.drop (by assumption) _
  k_with "call builtin:str.upper" => k_dflt (refine' upper1 ?zhh ?_; (case zhh => walk_at "mine sg"); intro _ _ _ _)
  k_with "call builtin:str.lower" => k_dflt (refine' lowerS ?zhh ?zhz ?_; (case zhh => walk_at "mine sg"); (case zhz => walk_at "mine size"); intro _ _; (try rw [List.map_cons, List.map_nil]))
  k_with "binaryOp Pow int int" => k_dflt (refine' pow_int_small ?zha ?zhb ?zhc ?_; (case zha => walk_at "mine nat"); (case zhb => walk_at "mine nat"); (case zhc => decide))
  k_with "binaryOp FloorDiv int int" => k_dflt ((with_reducible show wpAny _ _ (binaryOp _ _ (Value.int (HPow.hPow _ _) _)) _ _ _); refine' floordiv_int ?zhb ?_; (case zhb => exact Int.ne_of_gt (Int.pow_pos (by decide))))
  k_with "binaryOp Add ref ref" => k_dflt (refine' add_rows ?zhF ?zhN ?zha ?zhb ?zhz ?_; (case zhF => k_asm); (case zhN => k_asm); (case zha => k_mem); (case zhb => k_mem); (case zhz => walk_at "mine size"); intro _ _ _ _)
  k_with "call builtin:len" => k_dflt ((with_reducible show wpAny _ _ (call _ [Value.ref _]) _ _ _); refine' len_rows ?zhN ?zha ?zhz ?_; (case zhN => k_asm); (case zha => k_mem); (case zhz => walk_at "mine size"))
  k_with "mine cut" => first | walk_at "mine nat" | ((have qe := ends2_len (by assumption)); (simp only [List.length_drop] at *); omega) | ((have qe := ends1_len (by assumption)); (simp only [List.length_drop] at *); omega)
  k_with "subscriptTail" => k_dflt ((with_reducible show wpAny _ _ (subscriptTail _ (Expr.Slice none (some _) none _) (Value.ref _) _) _ _ _); refine' cut_rows (s := ⟨_, _, _, _, _⟩) ?zhF ?zhN ?zhm ?zhh0 ?zhz ?_; (case zhF => k_asm); (case zhN => k_asm); (case zhm => k_mem); (case zhh0 => walk_at "mine cut"); (case zhz => walk_at "mine size"); intro _ _ _ _)
  k_with "mine tails" => repeat (first | assumption | apply List.Mem.tail)
  k_with "mine rows" => first | exact RowsAre.nil | exact RowsAre.mono (by assumption) (fun p hp _ => by walk_at "mine tails") | exact (RowsAre.mono (by assumption) (fun p hp _ => by walk_at "mine tails")).take _ | exact RowsAre.cons (by walk_at "mine row") RowsAre.nil | exact (RowsAre.mono (by assumption) (fun p hp _ => by walk_at "mine tails")).snoc (by walk_at "mine row")
  trivial


theorem gentoks {α : Type} {M : Model} {A : Around} {E : Value → Shared → Prop} {t : Sem α} {Q : α → Shared → Prop} {h g d o} {n : Nat} (H : ∀ tk : Nat, 0 < tk → wpAny M A t Q E ⟨h, g, d, tk, o⟩) : wpAny M A t Q E ⟨h, g, d, n + 1, o⟩ := H _ (Nat.succ_pos _)
theorem lines_C9_3 : True := by
  k_with "execs cons" => k_dflt (refine' gentoks ?_; intro tk9 htk9)
  k_with "execs nil" => k_dflt (refine' gentoks ?_; intro tk9 htk9)
  k_with "storeName" => k_dflt ((with_reducible show wpAny _ _ (storeName _ (Str.ofString "read") _) _ _ _); refine' storeX_C ?zhF ?zhN ?zhhc ?zhU ?zhhd ?_ ?zha ?zhb; (case zhF => k_asm); (case zhN => k_asm); (case zhhc => rfl); (case zhU => exact UpdF.head (fun p hp => Nat.ne_of_lt (Nat.lt_succ_of_lt (by first | exact ‹∀ (p : Addr × Obj), p ∈ _ → p.fst < _› p hp)))); (case zhhd => assumption); (case zha => rfl); (case zhb => rfl); intro _ _ _ _ _; (try dsimp only))
  trivial


section
variable {A : Around} {E : Value → Shared → Prop} {s s₁ : Shared} {h₀ h : Heap} {L I C D c : Addr} {o oI oC : Obj} {m m₂ : Str → Option Value} {env : Env} {ys : List Value} {news : Led} {tk : Tok} {l : List Nat} {ul : Tok}

theorem lines_C9_4 : True := by
  k_with "eval Name" => k_dflt ((with_reducible show wpAny _ _ (eval (Expr.Name (Str.ofString "read") _) (compEnvC _ _ _ _)) _ _ _); refine' lcf_cell ?zhN ?zhc ?zhm ?zhd ?_ ?zha ?zhb; (case zha => rfl); (case zhb => assumption); (case zhN => k_asm); (case zhc => rfl); (case zhm => exact .tail _ (.tail _ (.tail _ (by assumption)))); (case zhd => assumption))
  k_with "eval Name" => k_dflt ((with_reducible show wpAny _ _ (eval (Expr.Name _ _) (compEnvC _ _ _ _)) _ _ _); refine' LCgL.ld_own ?zhN ?zhm ?zhC ?zhx ?_ ?zha ?zhb ?zhc; (case zha => rfl); (case zhb => rfl); (case zhc => decide); (case zhN => k_asm); (case zhm => k_mem); (case zhC => assumption); (case zhx => assumption))
  trivial


theorem null_turn {q1 q2 q3 q4 q5 p1 p2 p3} {i a : Nat} {u : Tok} (hC : NsObj oC m₂) (hx : m₂ "k" = some (.int (i : Int) u)) (F : Fr h₀ L h m) (N : News h₀ L h ((I, oI) :: (C, oC) :: (D, lst ys) :: news)) (off : Off3 I C D news) (hm : (c, o) ∈ news) (hd : o.data = .cell (some (.str (S l) ul)))
    (hkk : (compEnvC { kind := .function, names := [(".0", .local), ("k", .local), ("read", .free)], isGenerator := false, isCoroutine := false } [("read", c)] C env).kindOf "read" = some .cell) (hi : l[i]? = some a) (hz : l.length ≤ 1000000) :
    wpAny (model prog w) A (isTrue (.Compare (.Subscript (.Name "read" q1) (.Name "k" q2) q3) [.Eq] [.Constant (.str "\x00") 0 q4] q5) (compEnvC { kind := .function, names := [(".0", .local), ("k", .local), ("read", .free)], isGenerator := false, isCoroutine := false } [("read", c)] C env) (eval (.Compare (.Subscript (.Name "read" q1) (.Name "k" q2) q3) [.Eq] [.Constant (.str "\x00") 0 q4] q5) (compEnvC { kind := .function, names := [(".0", .local), ("k", .local), ("read", .free)], isGenerator := false, isCoroutine := false } [("read", c)] C env))) (fun ok s' => if ok = true then
        wpAny (model prog w) A (eval (.Tuple [.Constant (.str "unexpected-null-character") 0 p1, .Name "k" p2] 0 p3) (compEnvC { kind := .function, names := [(".0", .local), ("k", .local), ("read", .free)], isGenerator := false, isCoroutine := false } [("read", c)] C env)) (CompEnd h₀ L m { s with heap := h, toks := tk } I oI C oC D (lst ys) (fun _ => True) (fun y news' => a = 0 ∧ RowIs news' y (errR "unexpected-null-character" i) ∧ ∀ p ∈ news, p ∈ news')) E s'
        else CompEnd h₀ L m { s with heap := h, toks := tk } I oI C oC D (lst ys) (fun _ => True) (fun _ news' => a ≠ 0 ∧ ∀ p ∈ news, p ∈ news') Value.none s') E { s with heap := h, toks := tk } := by
  have hi' : i < l.length := (List.getElem?_eq_some_iff.mp hi).1
  walk_at "mine steps"
  · have e0 : a = 0 := by
      have h9 := ‹(S [_] == Str.ofString "\x00") = true›
      rw [S_nul] at h9
      have h8 := S_beq h9
      have h7 := ‹l[i]? = some _›
      rw [hi] at h7
      rw [Option.some.inj h7]; exact h8
    have lI := Heap.lt_size (N _ (.head _)).1
    have lC := Heap.lt_size (N _ (.tail _ (.head _))).1
    have lD := Heap.lt_size (N _ (.tail _ (.tail _ (.head _)))).1
    refine CompEnd.intro (by k_asm) (by k_asm) ((h.objs.size, tupOf [.str "unexpected-null-character" (tk + 1 + 1), .int i u] 0) :: news) (fun p hp => ?_) ⟨⟨Nat.ne_of_gt lI, Nat.ne_of_gt lC, Nat.ne_of_gt lD⟩, off⟩ trivial ⟨e0, ⟨_, _, _, rfl, .head _, by repeat' constructor⟩, fun p hp => .tail _ hp⟩
    simp only [List.mem_cons] at hp ⊢
    rcases hp with h | h | h | h | h <;> simp [h]
  · have e0 : a ≠ 0 := by
      have h9 := ‹(S [_] == Str.ofString "\x00") = false›
      rw [S_nul] at h9
      have h8 := S_bne h9
      have h7 := ‹l[i]? = some _›
      rw [hi] at h7
      rw [Option.some.inj h7]; exact h8
    exact CompEnd.intro (by k_asm) (by k_asm) news (fun p hp => hp) off trivial ⟨e0, fun p hp => hp⟩
end

theorem nullRows_snoc (c : Nat) : ∀ (k : Nat) (l : List Nat), nullRows k (l ++ [c]) = nullRows k l ++ (if c = 0 then [errR "unexpected-null-character" (k + l.length)] else [])
  | k, [] => by simp [nullRows]
  | k, a :: t => by
    show (if a = 0 then [errR "unexpected-null-character" k] else []) ++ nullRows (k + 1) (t ++ [c]) = _
    rw [nullRows_snoc c (k + 1) t, ← List.append_assoc, List.length_cons, show k + 1 + t.length = k + (t.length + 1) by omega]
    rfl
section
variable {A : Around} {E : Value → Shared → Prop} {s s₁ : Shared} {h₀ : Heap} {L c r : Addr} {o : Obj} {m : Str → Option Value} {env : Env} {news : Led} {l : List Nat} {ul : Tok} {Fin : Shared → List Value → Led → Prop}
theorem range_fits {n : Nat} (hn : n ≤ 1000000) : Builtin.Range.rangeSize 0 (n : Int) 1 = (n : Int) ∧ Builtin.Range.small 0 (n : Int) 1 = true := by
  have hsz : Builtin.Range.rangeSize 0 (n : Int) 1 = (n : Int) := by
    unfold Builtin.Range.rangeSize
    simp
    try omega
  refine ⟨hsz, ?_⟩
  unfold Builtin.Range.small
  rw [hsz]
  simp [Builtin.Range.rangeFitsLong]
  try omega
theorem srcT_null {q1 q2 q3 q4 q5 p1 p2 p3} {t u v : Tok} (hr : IsRange s₁.heap r 0 (l.length : Int) 1 t u v) (hh : A.handled = none) (F : Fr h₀ L s₁.heap m) (N : News h₀ L s₁.heap news) (hm : (c, o) ∈ news) (hd : o.data = .cell (some (.str (S l) ul)))
    (hkk : ∀ C, (compEnvC { kind := .function, names := [(".0", .local), ("k", .local), ("read", .free)], isGenerator := false, isCoroutine := false } [("read", c)] C env).kindOf "read" = some .cell) (hz : l.length ≤ 1000)
    (fin : ∀ g ys news', RowsAre news' ys (nullRows 0 l) → ys.length ≤ l.length → (∀ p ∈ news, p ∈ news') → Fin { s₁ with heap := g } ys news') :
    CompSrcT prog w A h₀ L m env (.Compare (.Subscript (.Name "read" q1) (.Name "k" q2) q3) [.Eq] [.Constant (.str "\x00") 0 q4] q5) (.Tuple [.Constant (.str "unexpected-null-character") 0 p1, .Name "k" p2] 0 p3) "k" { kind := .function, names := [(".0", .local), ("k", .local), ("read", .free)], isGenerator := false, isCoroutine := false } [("read", c)] Fin (.ref r) s₁ := by
  obtain ⟨hsz, hsm⟩ := range_fits (n := l.length) (by omega)
  refine CompSrcT.range hh F N hr hsm hsz (by rw [sizeLine_eq]; omega) fun g => ?_
  refine comp_invT (n := l.length) (fun i ys nw => RowsAre nw ys (nullRows 0 (l.take i)) ∧ ys.length ≤ i ∧ ∀ p ∈ news, p ∈ nw) ?_ ?_ _ 0 [] news (Nat.zero_add _) ⟨.nil, Nat.le_refl _, fun _ h => h⟩
  · rintro i ys nw v I oI C oC D m₂ h tk E' hi ⟨hrw, hy, hk⟩ ⟨t9, rfl⟩ hC hx F' N' off ne
    have hc' : l[i]? = some l[i] := List.getElem?_eq_getElem hi
    have e0 : (0 + (i : Int) : Int) = (i : Int) := by omega
    rw [e0] at hx
    have hlen : (l.take i).length = i := by rw [List.length_take]; omega
    have es : nullRows 0 (l.take (i + 1)) = nullRows 0 (l.take i) ++ (if l[i] = 0 then [errR "unexpected-null-character" i] else []) := by
      rw [List.take_add_one, hc']
      show nullRows 0 (l.take i ++ [l[i]]) = _
      rw [nullRows_snoc, hlen, Nat.zero_add]
    refine wpAny_mono (null_turn (p1 := p1) (p2 := p2) (p3 := p3) hC hx F' N' off (hk _ hm) hd (hkk C) hc' (by omega)) (fun ok s' hy2 => ?_) fun _ _ e => e
    cases ok with
    | true =>
      simp only [if_true] at hy2 ⊢
      refine wpAny_mono hy2 (fun y s₂ hy3 => ?_) fun _ _ e => e
      obtain ⟨h', tk', nw', e1, a, b, c', d, h0, hR, hS⟩ := hy3
      refine ⟨h', tk', nw', e1, a, b, c', d, ?_, by rw [List.length_append]; exact Nat.succ_le_succ hy, fun p hp => hS p (hk p hp)⟩
      rw [es, if_pos h0]
      exact (hrw.mono fun p hp _ => hS p hp).snoc hR
    | false =>
      simp only [Bool.false_eq_true, if_false] at hy2 ⊢
      obtain ⟨h', tk', nw', e1, a, b, c', d, h0, hS⟩ := hy2
      refine ⟨h', tk', nw', e1, a, b, c', d, ?_, Nat.le_succ_of_le hy, fun p hp => hS p (hk p hp)⟩
      rw [es, if_neg h0, List.append_nil]
      exact hrw.mono fun p hp _ => hS p hp
  · rintro ys nw ⟨hrw, hy, hk⟩
    rw [List.take_length] at hrw
    exact fin g ys nw hrw hy hk
end

theorem lines_C9_5 : True := by
  k_with "eval ListComp" => k_dflt ((with_reducible show wpAny _ _ (eval (Expr.ListComp _ [⟨_, _, [_], _⟩] _ _) _) _ _ _); refine LCt.ListComp_T (F₀ := by k_asm) (by with_unfolding_all rfl) (by decide) (by rfl) (by decide) (by rfl) ?_)
  k_with "CompSrcT" => k_dflt (refine' srcT_null ?zhr ?zhhh ?zhF ?zhN ?zhm ?zhd ?zhk ?zhz ?_; (case zhr => assumption); (case zhhh => rfl); (case zhF => k_asm); (case zhN => k_asm); (case zhm => k_mem); (case zhd => assumption); (case zhk => exact fun _ => rfl); (case zhz => walk_at "mine size"); intro _ _ _ _ _ _; refine finE_of ?_; intro _ _ _ _ _)
  trivial


theorem repl_nul {A : Around} {E : Value → Shared → Prop} {s : Shared} {l : List Nat} {t u v : Tok} {Q : Value → Shared → Prop} (hu : u ≠ 0) (hv : v ≠ 0) (huv : u ≠ v) (hz : l.length ≤ 1000) (h : ∀ t' k, Q (.str (S (l.map nul)) t') { s with toks := k }) :
    wpAny (model prog w) A (call (.builtin "str.replace") [.str (S l) t, .str "\x00" u, .str "\uFFFD" v]) Q E s := by
  refine SC.replaceW hu hv huv (by decide +kernel) (by rw [S_len]; omega) (by decide +kernel) fun t' k => ?_
  rw [S_nul, S_fffd, replace_S l [0] [65533] (Nat.le_refl 1), repl_one]
  exact h t' k

theorem lines_C9_6 : True := by
  k_with "mine mem" => first | k_mem | (apply List.Mem.tail; exact ‹∀ (p : Addr × Obj), p ∈ (_ : Led) → p ∈ (_ : Led)› _ (by k_mem)) | (apply List.Mem.tail; apply List.Mem.tail; exact ‹∀ (p : Addr × Obj), p ∈ (_ : Led) → p ∈ (_ : Led)› _ (by k_mem)) | (apply List.Mem.tail; apply List.Mem.tail; apply List.Mem.tail; exact ‹∀ (p : Addr × Obj), p ∈ (_ : Led) → p ∈ (_ : Led)› _ (by k_mem))
  k_with "binaryOp Add ref ref" => k_dflt (refine' add_rows ?zhF ?zhN ?zha ?zhb ?zhz ?_; (case zhF => k_asm); (case zhN => k_asm); (case zha => walk_at "mine mem"); (case zhb => walk_at "mine mem"); (case zhz => walk_at "mine size"); intro _ _ _ _)
  k_with "eval Name" => k_dflt ((with_reducible show wpAny _ _ (eval (Expr.Name (Str.ofString "read") _) (envOfC _ _ _ _ _)) _ _ _); refine' nameX_C ?zhN ?zhc ?zhm ?zhd ?_ ?zha ?zhb ?zhe; (case zhN => k_asm); (case zhc => rfl); (case zha => rfl); (case zhb => rfl); (case zhe => decide); (case zhm => walk_at "mine mem"); (case zhd => assumption))
  k_with "call builtin:str.replace" => k_dflt (refine' repl_nul ?zhu ?zhv ?zhw ?zhz ?_; (case zhu => ((show @Ne Nat _ _); omega)); (case zhv => ((show @Ne Nat _ _); omega)); (case zhw => ((show @Ne Nat _ _); omega)); (case zhz => walk_at "mine size"); intro _ _)
  trivial


section
variable {l : List Nat} {e : Bool} {r1 : List Dat}
theorem bog_1 (h : ¬ Txt.find (S l) (Str.ofString ">") < 0) : (⟨[[.str "comment", .str (S ((l.take (Txt.find (S l) (Str.ofString ">")).toNat).map nul))]], r1 :: nullRows 0 (l.take (Txt.find (S l) (Str.ofString ">")).toNat), "data", Txt.find (S l) (Str.ofString ">") + 1, [], false, false⟩ : Due) = bogusF l e r1 := by
  unfold bogusF; dsimp only
  rw [if_neg h, if_pos (by omega)]; rfl
theorem bog_2 (h : Txt.find (S l) (Str.ofString ">") < 0) (he : e = true) : (⟨[[.str "comment", .str (S (l.map nul))], [.str "eof"]], r1 :: nullRows 0 l, "", l.length + 1, [], false, true⟩ : Due) = bogusF l e r1 := by
  unfold bogusF; dsimp only
  rw [if_pos h, if_neg (by omega), if_pos he]; rfl
theorem bog_3 (h : Txt.find (S l) (Str.ofString ">") < 0) (he : e = false) : (⟨[], r1 :: nullRows 0 l, "bogus comment", l.length, l.map nul, false, false⟩ : Due) = bogusF l e r1 := by
  unfold bogusF; dsimp only
  rw [if_pos h, if_neg (by omega), if_neg (by rw [he]; exact Bool.noConfusion)]
end

theorem lines_C9_7 : True := by
  k_with "mine keep" => (have q := ‹∀ (p : Addr × Obj), p ∈ (_ : Led) → p ∈ (_ : Led)› _ (.tail _ (.tail _ ‹_ ∈ nx›)); walk_at "mine tails")
  k_with "mine rows" => first | exact RowsAre.nil | exact RowsAre.cons (by walk_at "mine row") RowsAre.nil | exact RowsAre.cons (by walk_at "mine row") (RowsAre.cons (by walk_at "mine row") RowsAre.nil)
  trivial


theorem bogusL_ok (l : List Nat) (u : Tok) (e : Bool) (v1 : Value) (r1 : List Dat) (hr1 : RowIs nx v1 r1) (hz : l.length ≤ 100) : Claim prog w mean mg mb 6 492 nx [.str (S l) u, .bool e, v1] (fun v nx' => DueIs nx' v (bogusF l e r1) ∧ ∀ p ∈ nx, p ∈ nx') := by
  obtain ⟨a1, vs1, n1, rfl, m1, d1⟩ := id hr1
  unfold Claim
  intro dp un gd cn cs a ccd cl outer A₀ base h₀ L m s Q E B F X N Tp hk hd hu hret
  obtain ⟨k1, k2, k3, k4, k5⟩ := cs
  obtain rfl : k1 = .function := hk
  walk_at "mine steps"
  all_goals refine' hret _ _ _ _ (And.intro ?_ ?_) (by k_asm) (by k_asm)
  all_goals have hq9 := ‹∀ (p : Addr × Obj), p ∈ (_ : Led) → p ∈ (_ : Led)›
  all_goals first
    | (intro p hp
       have q := hq9 p (.tail _ (.tail _ hp))
       clear hq9
       walk_at "mine tails")
    | (refine due_build (by k_mem) (by k_mem) (by k_mem) (by walk_at "mine rows") (RowsAre.cons (hr1.mono fun p hp _ => ?_) (RowsAre.mono ‹RowsAre _ _ _› fun p hp _ => ?_)) (by first | exact S_nil | exact rfl) (by first | exact bog_1 ‹_› | exact bog_2 ‹_› ‹_› | exact bog_3 ‹_› ‹_›)
       · have q := hq9 p (.tail _ (.tail _ hp))
         clear hq9
         walk_at "mine tails"
       · walk_at "mine tails")


end C9

section D1
open PySem PySem.W PyProof.Rows PySem.Calls
set_option maxRecDepth 100000
set_option maxHeartbeats 4000000
theorem lines_D1_1 : True := by
  w_top off
  k_with_none
  k_with "execs cons" => k_fold
  k_with "exec If" => k_fold
  k_with "exec Assign" => k_fold
  k_with "exec Expr" => k_fold
  k_with "exec Return" => k_fold
  k_with "callWith" => k_fold
  k_with "call ref" => k_fold
  k_with "mine steps" => repeat' ((fail_if_success (with_reducible show wpAny _ _ (pyIter _) _ _ _)); (fail_if_success (with_reducible show wpAny _ _ (exec (Stmt.For _ (Expr.Name _ _) _ _ _) _) _ _ _)); first | (k_unfold; (try dsimp only)) | walk1 | (dsimp only; walk1) | (leave1; (try dsimp only)))
  k_with "mine H" => (first | (with_reducible assumption) | (with_reducible refine' TokX.cons1 ?zhhh; (case zhhh => with_reducible assumption)) | (with_reducible refine' TokX.cons2 ?zhhh; (case zhhh => with_reducible assumption)) | (with_reducible refine' TokX.cons3 ?zhhh; (case zhhh => with_reducible assumption)))
  k_with "mine row" => (first | (with_reducible assumption) | (apply RowIs.of; k_mem; (repeat' constructor); done))
  k_with "mine HD" => (first | (with_reducible assumption) | (exact TokX.dr (by with_reducible assumption) rfl) | (exact TokX.dr (by with_reducible assumption) (by with_reducible assumption)) | (exact DraftAt.keepA (by with_reducible assumption) (by with_reducible assumption)) | (exact TokX.dr (by with_reducible assumption) (by assumption)))
  k_with "mine fxnh" => ((case zhF => k_asm); (case zhX => k_asm); (case zhN => k_asm); (case zhH => walk_at "mine H"))
  k_with "getAttr ref" => k_dflt (first | (with_reducible refine' get_at ?zhF ?zhX ?zhN ?zhH ?_; walk_at "mine fxnh"; intro _) | (with_reducible refine' get_stream ?zhF ?zhX ?zhN ?zhH ?_; walk_at "mine fxnh") | (with_reducible refine' get_signs ?zhF ?zhX ?zhN ?zhH ?_; walk_at "mine fxnh") | (with_reducible refine' get_out ?zhF ?zhX ?zhN ?zhH ?_; walk_at "mine fxnh") | (with_reducible refine' get_errors ?zhF ?zhX ?zhN ?zhH ?_; walk_at "mine fxnh") | (with_reducible refine' get_draft ?zhF ?zhX ?zhN ?zhH ?_; walk_at "mine fxnh") | (with_reducible refine' get_state ?zhF ?zhX ?zhN ?zhH ?_; walk_at "mine fxnh"; intro _) | (with_reducible refine' get_states ?zhF ?zhX ?zhN ?zhH ?_; walk_at "mine fxnh") | (with_reducible refine' get_waiting ?zhF ?zhX ?zhN ?zhH ?_; walk_at "mine fxnh") | (with_reducible refine' get_done ?zhF ?zhX ?zhN ?zhH ?_; walk_at "mine fxnh") | (with_reducible refine' get_foreign ?zhF ?zhX ?zhN ?zhH ?_; walk_at "mine fxnh") | (with_reducible refine' get_last ?zhF ?zhX ?zhN ?zhH ?_; walk_at "mine fxnh"; intro _) | (with_reducible refine' get_closed ?zhF ?zhX ?zhN ?zhH ?_; walk_at "mine fxnh") | (with_reducible refine' get_return ?zhF ?zhX ?zhN ?zhH ?_; walk_at "mine fxnh") | (with_reducible refine' get_serr ?zhF ?zhX ?zhN ?zhH ?_; walk_at "mine fxnh") | (with_reducible refine' getd_text ?zhF ?zhX ?zhN ?zhH ?_; (case zhF => k_asm); (case zhX => k_asm); (case zhN => k_asm); (case zhH => walk_at "mine HD"); intro _) | (with_reducible refine' getd_kind ?zhF ?zhX ?zhN ?zhH ?_; (case zhF => k_asm); (case zhX => k_asm); (case zhN => k_asm); (case zhH => walk_at "mine HD"); intro _))
  k_with "setAttr ref" => k_dflt (first | (with_reducible refine' set_state ?zhF ?zhX ?zhN ?zhH ?_; walk_at "mine fxnh"; intro _ _ _ _ _ _) | (with_reducible refine' set_waiting ?zhF ?zhX ?zhN ?zhH ?_; walk_at "mine fxnh"; intro _ _ _ _ _ _) | (with_reducible refine' set_done ?zhF ?zhX ?zhN ?zhH ?_; walk_at "mine fxnh"; intro _ _ _ _ _ _) | (with_reducible refine' set_foreign ?zhF ?zhX ?zhN ?zhH ?_; walk_at "mine fxnh"; intro _ _ _ _ _ _) | (with_reducible refine' set_closed ?zhF ?zhX ?zhN ?zhH ?_; walk_at "mine fxnh"; intro _ _ _ _ _ _) | (with_reducible refine' set_return ?zhF ?zhX ?zhN ?zhH ?_; walk_at "mine fxnh"; intro _ _ _ _ _ _) | (with_reducible refine' set_draft_none ?zhF ?zhX ?zhN ?zhH ?_; walk_at "mine fxnh"; intro _ _ _ _ _ _) | (with_reducible refine' set_draft ?zhF ?zhX ?zhN ?zhH ?zhhy ?_; walk_at "mine fxnh"; (case zhhy => with_reducible assumption); intro _ _ _ _ _ _) | (with_reducible refine' setd_text ?zhF ?zhX ?zhN ?zhH ?zhhd ?zhhy ?_; walk_at "mine fxnh"; (case zhhd => first | with_reducible assumption | rfl); (case zhhy => first | exact rfl | exact S_app _ _ | (rw [S_fffd]; exact S_app _ _)); intro _ _ _ _ _) | ((with_reducible show wpAny _ _ (setAttr (Value.ref (TA.t _)) (PySem.Str.ofString "at") _) _ _ _); refine' set_at ?zhF ?zhX ?zhN ?zhH (Int.natCast_add _ _).symm ?_; walk_at "mine fxnh"; intro _ _ _ _ _ _) | ((with_reducible show wpAny _ _ (setAttr (Value.ref (TA.t _)) (PySem.Str.ofString "at") _) _ _ _); refine' set_at ?zhF ?zhX ?zhN ?zhH (cast_pred ?zhp) ?_; walk_at "mine fxnh"; (case zhp => first | with_reducible assumption | omega); intro _ _ _ _ _ _) | ((with_reducible show wpAny _ _ (setAttr (Value.ref (TA.t _)) (PySem.Str.ofString "at") _) _ _ _); refine' set_at ?zhF ?zhX ?zhN ?zhH (Eq.refl (Nat.cast _)) ?_; walk_at "mine fxnh"; intro _ _ _ _ _ _))
  k_with "getMethod ref" => k_dflt (first | ((with_reducible show wpAny _ _ (getMethod (Value.ref (TA.t _)) _ _) _ _ _); refine' tok_method ?zhF ?zhX ?zhN ?zhH ?zhg ?zhf ?zht ?zhl ?_; walk_at "mine fxnh"; (case zhg => k_dflt k_is); (case zhf => k_dflt k_is); (case zht => k_dflt k_is); (case zhl => intro _; rfl)) | ((with_reducible show wpAny _ _ (getMethod (Value.ref (TA.st _)) _ _) _ _ _); refine' str_method ?zhF ?zhX ?zhN ?zhH ?zhg ?zhf ?zht ?zhl ?_; walk_at "mine fxnh"; (case zhg => k_dflt k_is); (case zhf => k_dflt k_is); (case zht => k_dflt k_is); (case zhl => intro _; rfl)) | (refine' dr_method ?zhF ?zhX ?zhN ?zhH ?zhg ?zhf ?zht ?zhl ?_; (case zhF => k_asm); (case zhX => k_asm); (case zhN => k_asm); (case zhH => walk_at "mine HD"); (case zhg => k_dflt k_is); (case zhf => k_dflt k_is); (case zht => k_dflt k_is); (case zhl => intro _ _ _; rfl)) | ((with_reducible show wpAny _ _ (getMethod (Value.ref (TA.er _)) _ _) _ _ _); refine' app_method_er ?zhN ?zhH ?_; (case zhN => k_asm); (case zhH => walk_at "mine H")) | ((with_reducible show wpAny _ _ (getMethod (Value.ref (TA.ou _)) _ _) _ _ _); refine' app_method_ou ?zhN ?zhH ?_; (case zhN => k_asm); (case zhH => walk_at "mine H")) | ((with_reducible show wpAny _ _ (getMethod (Value.ref (TA.se _)) _ _) _ _ _); refine' app_method_se ?zhN ?zhH ?_; (case zhN => k_asm); (case zhH => walk_at "mine H")) | ((with_reducible show wpAny _ _ (getMethod (Value.ref (TA.sg _)) _ _) _ _ _); refine' app_method_sg ?zhN ?zhH ?_; (case zhN => k_asm); (case zhH => walk_at "mine H")))
  k_with "call builtin:list.append" => k_dflt (first | ((with_reducible show wpAny _ _ (call _ [Value.ref (TA.er _), _]) _ _ _); refine' app_er ?zhF ?zhN ?zhH ?zhr ?zhz ?_; (case zhF => k_asm); (case zhN => k_asm); (case zhH => walk_at "mine H"); (case zhr => walk_at "mine row"); (case zhz => walk_at "mine size"); intro _ _ _ _ _ _) | ((with_reducible show wpAny _ _ (call _ [Value.ref (TA.ou _), _]) _ _ _); refine' app_ou ?zhF ?zhN ?zhH ?zhr ?zhz ?_; (case zhF => k_asm); (case zhN => k_asm); (case zhH => walk_at "mine H"); (case zhr => walk_at "mine row"); (case zhz => walk_at "mine size"); intro _ _ _ _ _ _) | ((with_reducible show wpAny _ _ (call _ [Value.ref (TA.se _), _]) _ _ _); refine' app_se ?zhF ?zhN ?zhH ?zhr ?zhz ?_; (case zhF => k_asm); (case zhN => k_asm); (case zhH => walk_at "mine H"); (case zhr => walk_at "mine row"); (case zhz => walk_at "mine size"); intro _ _ _ _ _ _) | ((with_reducible show wpAny _ _ (call _ [Value.ref (TA.sg _), _]) _ _ _); refine' app_sg ?zhF ?zhN ?zhH ?zhhx ?zhz ?_; (case zhF => k_asm); (case zhN => k_asm); (case zhH => walk_at "mine H"); (case zhhx => first | exact S_nl | exact rfl); (case zhz => walk_at "mine size"); intro _ _ _ _ _ _))
  k_with "mine size" => first | with_reducible assumption | ((try dsimp only at *); omega) | ((try dsimp only at *); simp only [List.length_append, List.length_cons, List.length_nil, List.length_take, List.length_drop, List.length_map] at *; omega)
  k_with "call builtin:len" => k_dflt ((with_reducible refine' len_S ?zhz ?_); (case zhz => walk_at "mine size"))
  k_with "call builtin:ord" => k_dflt (with_reducible refine' ord_S ?_)
  k_with "call builtin:chr" => k_dflt (refine' chr_S (Int.natCast_add _ _).symm ?zhz ?_; (case zhz => omega))
  k_with "call builtin:len" => k_dflt (with_reducible refine' len_sg ?zhN ?zhH ?zhz ?_; (case zhN => k_asm); (case zhH => walk_at "mine H"); (case zhz => walk_at "mine size"))
  k_with "mine slen" => (simp only [S_fffd, S_len, S_nil, List.length_append, List.length_cons, List.length_nil, sizeLine]; omega)
  k_with "binaryOp Add str str" => k_dflt (refine' PyProof.Rows.add_str ?_ ?zhz9; (case zhz9 => walk_at "mine slen"); intro _ _)
  k_with "mine news" => first | k_asm | exact News.ofCons (by assumption)
  k_with "mine for" => ((rename Fr _ _ _ _ => lF'); (with_unfolding_all refine' For_invVF lF' ?zhk1 ?zhk2 ?_; (case zhk1 => exact rfl); (case zhk2 => exact rfl)))
  k_with "mine name" => k_dflt ((refine' nameX_L ?zhF ?zhv ?_ ?zha ?zhb ?zhc); (case zhF => k_asm); (case zha => rfl); (case zhb => rfl); (case zhv => rfl); (case zhc => decide))
  k_with "mine locs" => ((repeat' (refine List.forall_mem_cons.mpr ⟨rfl, ?_⟩)); exact fun _ h => nomatch h)
  k_with "subscriptTail" => k_dflt ((with_reducible show wpAny _ _ (subscriptTail _ _ (Value.ref (TA.sg _)) (Value.int _ _)) _ _ _); refine' item_sg ?zhN ?zhH ?zhe ?zhhi ?zhz ?_; (case zhN => k_asm); (case zhH => walk_at "mine H"); (case zhe => first | exact rfl | exact (Int.natCast_add _ _).symm); (case zhhi => (try dsimp only at *); omega); (case zhz => walk_at "mine size"); intro c9 u9 hc9)
  k_with "subscriptTail" => k_dflt ((with_reducible show wpAny _ _ (subscriptTail _ _ (Value.str _ _) (Value.int _ _)) _ _ _); refine' item_S ?zhhi ?zhz ?_; (case zhhi => (try dsimp only at *); omega); (case zhz => walk_at "mine size"); intro c9 u9 hc9)
  k_with "subscriptTail Name Name str int" => k_dflt ((with_reducible show wpAny _ _ (subscriptTail _ _ (Value.str _ _) (Value.int _ _)) _ _ _); refine' item_S ?zhhi ?zhz ?_; (case zhhi => (try dsimp only at *); omega); (case zhz => walk_at "mine size"); intro c9 u9 hc9)
  trivial

variable {prog : Program} {w : World} {mean : ExcName → Option Value} {mg mb : Str → Option Value} {T : TA} {n0 : Led} {d : D} {dv : Value} {nx : Led}

theorem Claim.imp {k : Nat} {f : Addr} {args : List Value} {R R' : Value → Led → Prop} (C : Claim prog w mean mg mb k f nx args R) (h : ∀ v nx', R v nx' → R' v nx') : Claim prog w mean mg mb k f nx args R' := by
  intro dp un gd cn cs a ccd cl outer A₀ base h₀ L m s Q E B F X N Tp hk hd hu hret
  exact C dp un gd cn cs a ccd cl outer A₀ base h₀ L m s Q E B F X N Tp hk hd hu fun v nx' h' tk hR F' N' => hret v nx' h' tk (h v nx' hR) F' N'
theorem due_ref {n1 : Led} {r : Due} (v : Value) (nx' : Led) (h : DueIs nx' v r ∧ ∀ p ∈ n1, p ∈ nx') : ∃ a, DueIs nx' (.ref a) r ∧ (∀ p ∈ n1, p ∈ nx') ∧ v = .ref a := by
  obtain ⟨h1, h2⟩ := h
  obtain ⟨a, lo, le, vo, ve, no, ne, u1, u2, u3, n, rfl, m⟩ := h1
  exact ⟨a, ⟨a, lo, le, vo, ve, no, ne, u1, u2, u3, n, rfl, m⟩, h2, rfl⟩
theorem kind_is {l : List Nat} {e : Bool} {kd : Kd} (h : kindF l e = kd) (v : Value) (nx' : Led) (g : nx' = nx ∧ IsStr v (kindF l e).str) : nx' = nx ∧ IsStr v kd.str := by rw [h] at g; exact g
theorem kind_len {l : List Nat} {e : Bool} (h : kindF l e = .cdata) : 7 ≤ l.length := by
  unfold kindF at h
  by_cases h1 : l.take 2 = wDash
  · rw [if_pos h1] at h; cases h
  rw [if_neg h1] at h
  by_cases h2 : (l.take 7).map lowc = wDoc
  · rw [if_pos h2] at h; cases h
  rw [if_neg h2] at h
  by_cases h3 : l.take 7 = wCd
  · have := congrArg List.length h3
    rw [List.length_take] at this
    simp [wCd] at this
    omega
  rw [if_neg h3] at h
  split at h
  · cases h
  split at h <;> cases h
theorem ne_nilS {l : List Nat} : (S l != Str.ofString "") = decide (l ≠ []) := by
  rw [S_nil, bne, S_beqL, Bool.eq_iff_iff]
  simp
section
variable {l : List Nat} {e fo : Bool}
theorem dueF_b (h : kindF l e = .bogus) : bogusF l e (errR "incorrectly-opened-comment" 0) = dueF l e fo := by unfold dueF; rw [h]
theorem dueF_t (h : kindF l e = .cdata) (hf : fo = true) : sectionF l e = dueF l e fo := by unfold dueF; rw [h, hf]; rfl
theorem dueF_f (h : kindF l e = .cdata) (hf : fo = false) : bogusF l e (errR "cdata-in-html-content" 6) = dueF l e fo := by unfold dueF; rw [h, hf]; rfl
theorem dueF_c (h : kindF l e = .comment) : (⟨[], [], "comment start", 2, [], false, false⟩ : Due) = dueF l e fo := by unfold dueF; rw [h]
theorem dueF_d (h : kindF l e = .doctype) : (⟨[], [], "DOCTYPE", 7, [], false, false⟩ : Due) = dueF l e fo := by unfold dueF; rw [h]
theorem dueF_w (h : kindF l e = .wait) : (⟨[], [], "markup declaration open", 0, [], (S l != Str.ofString ""), false⟩ : Due) = dueF l e fo := by unfold dueF; rw [h, ne_nilS]
end
theorem DueIs.cast {nx : Led} {v : Value} {r r' : Due} (h : DueIs nx v r) (e : r = r') : DueIs nx v r' := e ▸ h

theorem lines_D1_2 : True := by
  k_with "call ref" => ((with_reducible show wpAny _ _ (call (Value.ref 482) _) _ _ _); k_dflt (refine' Claim.use ((kind_ok _ _ _ ?zhz ?zhs).imp (kind_is ?zhk)) ?zhB ?zhF ?zhX ?zhN ?zhT ?zhkk ?zhd ?zhu ?_; (case zhB => k_asm); (case zhF => k_asm); (case zhX => k_asm); (case zhN => k_asm); (case zhT => k_asm); (case zhkk => rfl); (case zhz => first | with_reducible assumption | assumption); (case zhs => first | with_reducible assumption | assumption); (case zhk => first | with_reducible assumption | assumption); (case zhd => ktr_room); (case zhu => ktr_units); rintro _ _ _ _ ⟨hn9, _, hv9⟩ _ _; replace hn9 := Eq.symm hn9; subst hn9; subst hv9; (try dsimp only [Kd.str])))
  k_with "call ref" => ((with_reducible show wpAny _ _ (call (Value.ref 487) _) _ _ _); k_dflt (refine' Claim.use ((section_ok _ _ _ ?zhz ?zhh).imp due_ref) ?zhB ?zhF ?zhX ?zhN ?zhT ?zhkk ?zhd ?zhu ?_; (case zhB => k_asm); (case zhF => k_asm); (case zhX => k_asm); (case zhN => k_asm); (case zhT => k_asm); (case zhkk => rfl); (case zhz => first | with_reducible assumption | assumption); (case zhh => first | with_reducible assumption | assumption); (case zhd => ktr_room); (case zhu => ktr_units); rintro _ _ _ _ ⟨_, _, _, hv9⟩ _ _; subst hv9))
  k_with "call ref" => ((with_reducible show wpAny _ _ (call (Value.ref 492) _) _ _ _); k_dflt (refine' Claim.use ((bogusL_ok _ _ _ _ (errR "incorrectly-opened-comment" 0) ?zhr ?zhz).imp due_ref) ?zhB ?zhF ?zhX ?zhN ?zhT ?zhkk ?zhd ?zhu ?_; (case zhB => k_asm); (case zhF => k_asm); (case zhX => k_asm); (case zhN => k_asm); (case zhT => k_asm); (case zhkk => rfl); (case zhz => first | with_reducible assumption | assumption); (case zhr => walk_at "mine row"); (case zhd => ktr_room); (case zhu => ktr_units); rintro _ _ _ _ ⟨_, _, _, hv9⟩ _ _; subst hv9))
  k_with "call ref" => ((with_reducible show wpAny _ _ (call (Value.ref 492) _) _ _ _); k_dflt (refine' Claim.use ((bogusL_ok _ _ _ _ (errR "cdata-in-html-content" 6) ?zhr ?zhz).imp due_ref) ?zhB ?zhF ?zhX ?zhN ?zhT ?zhkk ?zhd ?zhu ?_; (case zhB => k_asm); (case zhF => k_asm); (case zhX => k_asm); (case zhN => k_asm); (case zhT => k_asm); (case zhkk => rfl); (case zhz => first | with_reducible assumption | assumption); (case zhr => walk_at "mine row"); (case zhd => ktr_room); (case zhu => ktr_units); rintro _ _ _ _ ⟨_, _, _, hv9⟩ _ _; subst hv9))
  trivial


theorem due_ok (l : List Nat) (u : Tok) (e fo : Bool) (hz : l.length ≤ 100) (hs : InSG l) : Claim prog w mean mg mb 10 499 nx [.str (S l) u, .bool e, .bool fo] (fun v nx' => ∃ a, DueIs nx' (.ref a) (dueF l e fo) ∧ (∀ p ∈ nx, p ∈ nx') ∧ v = .ref a) := by
  obtain ⟨kd, hkd⟩ : ∃ kd, kindF l e = kd := ⟨_, rfl⟩
  have h7 : kd = Kd.cdata → 7 ≤ l.length := by
    rintro rfl
    exact kind_len hkd
  cases kd
  all_goals first | replace h7 := h7 rfl | clear h7
  all_goals unfold Claim
  all_goals intro dp un gd cn cs a ccd cl outer A₀ base h₀ L m s Q E B F X N Tp hk hd hu hret
  all_goals refine wpAny_call ?_
  all_goals k_dflt cell_enter
  all_goals walk_at "mine steps"
  all_goals refine' hret _ _ _ _ ⟨_, ?_, ?_, rfl⟩ (by k_asm) (by k_asm)
  all_goals first
    | assumption
    | exact fun p hp => ‹∀ (p : Addr × Obj), p ∈ (_ : Led) → p ∈ (_ : Led)› p (.tail _ hp)
    | (intro p hp; repeat (first | assumption | apply List.Mem.tail))
    | exact DueIs.cast (by with_reducible assumption) (dueF_b hkd)
    | exact DueIs.cast (by with_reducible assumption) (dueF_t hkd ‹_›)
    | exact DueIs.cast (by with_reducible assumption) (dueF_f hkd ‹_›)
    | exact due_build (by k_mem) (by k_mem) (by k_mem) .nil .nil S_nil (dueF_c hkd)
    | exact due_build (by k_mem) (by k_mem) (by k_mem) .nil .nil S_nil (dueF_d hkd)
    | exact due_build (by k_mem) (by k_mem) (by k_mem) .nil .nil S_nil (dueF_w hkd)


end D1

section D2
open PySem PySem.W PyProof.Rows PySem.Calls PySem.Spec
set_option maxRecDepth 100000
set_option maxHeartbeats 2500000
theorem lines_D2_1 : True := by
  w_top off
  k_with_none
  k_with "execs cons" => k_fold
  k_with "exec If" => k_fold
  k_with "exec Assign" => k_fold
  k_with "exec Expr" => k_fold
  k_with "exec Return" => k_fold
  k_with "callWith" => k_fold
  k_with "call ref" => k_fold
  k_with "eval Call Attribute" => k_fold
  k_with "eval Call" => k_fold
  k_with "isTrue Compare" => k_fold
  k_with "isTrue" => k_fold
  k_with "eval BinOp" => k_fold
  k_with "eval Compare" => k_fold
  k_with "eval BoolOp" => k_fold
  k_with "eval IfExp" => k_fold
  k_with "eval Subscript" => k_fold
  k_with "mine steps" => repeat' ((fail_if_success (with_reducible show wpAny _ _ (pyIter _) _ _ _)); (fail_if_success (with_reducible show wpAny _ _ (exec (Stmt.For _ (Expr.Name _ _) _ _ _) _) _ _ _)); first | (k_unfold; (try dsimp only)) | walk1 | (dsimp only; walk1) | (leave1; (try dsimp only)))
  k_with "mine H" => (first | (with_reducible assumption) | (with_reducible refine' TokX.cons1 ?zhhh; (case zhhh => with_reducible assumption)) | (with_reducible refine' TokX.cons2 ?zhhh; (case zhhh => with_reducible assumption)) | (with_reducible refine' TokX.cons3 ?zhhh; (case zhhh => with_reducible assumption)))
  k_with "mine row" => (first | (with_reducible assumption) | (apply RowIs.of; k_mem; (repeat' constructor); done))
  k_with "mine HD" => (first | (with_reducible assumption) | (exact TokX.dr (by with_reducible assumption) rfl) | (exact TokX.dr (by with_reducible assumption) (by with_reducible assumption)) | (exact DraftAt.keepA (by with_reducible assumption) (by with_reducible assumption)) | (exact TokX.dr (by with_reducible assumption) (by assumption)))
  k_with "mine fxnh" => ((case zhF => k_asm); (case zhX => k_asm); (case zhN => k_asm); (case zhH => walk_at "mine H"))
  k_with "getAttr ref" => k_dflt (first | (with_reducible refine' get_at ?zhF ?zhX ?zhN ?zhH ?_; walk_at "mine fxnh"; intro _) | (with_reducible refine' get_stream ?zhF ?zhX ?zhN ?zhH ?_; walk_at "mine fxnh") | (with_reducible refine' get_signs ?zhF ?zhX ?zhN ?zhH ?_; walk_at "mine fxnh") | (with_reducible refine' get_out ?zhF ?zhX ?zhN ?zhH ?_; walk_at "mine fxnh") | (with_reducible refine' get_errors ?zhF ?zhX ?zhN ?zhH ?_; walk_at "mine fxnh") | (with_reducible refine' get_draft ?zhF ?zhX ?zhN ?zhH ?_; walk_at "mine fxnh") | (with_reducible refine' get_state ?zhF ?zhX ?zhN ?zhH ?_; walk_at "mine fxnh"; intro _) | (with_reducible refine' get_states ?zhF ?zhX ?zhN ?zhH ?_; walk_at "mine fxnh") | (with_reducible refine' get_waiting ?zhF ?zhX ?zhN ?zhH ?_; walk_at "mine fxnh") | (with_reducible refine' get_done ?zhF ?zhX ?zhN ?zhH ?_; walk_at "mine fxnh") | (with_reducible refine' get_foreign ?zhF ?zhX ?zhN ?zhH ?_; walk_at "mine fxnh") | (with_reducible refine' get_last ?zhF ?zhX ?zhN ?zhH ?_; walk_at "mine fxnh"; intro _) | (with_reducible refine' get_closed ?zhF ?zhX ?zhN ?zhH ?_; walk_at "mine fxnh") | (with_reducible refine' get_return ?zhF ?zhX ?zhN ?zhH ?_; walk_at "mine fxnh") | (with_reducible refine' get_serr ?zhF ?zhX ?zhN ?zhH ?_; walk_at "mine fxnh") | (with_reducible refine' getd_text ?zhF ?zhX ?zhN ?zhH ?_; (case zhF => k_asm); (case zhX => k_asm); (case zhN => k_asm); (case zhH => walk_at "mine HD"); intro _) | (with_reducible refine' getd_kind ?zhF ?zhX ?zhN ?zhH ?_; (case zhF => k_asm); (case zhX => k_asm); (case zhN => k_asm); (case zhH => walk_at "mine HD"); intro _))
  k_with "setAttr ref" => k_dflt (first | (with_reducible refine' set_state ?zhF ?zhX ?zhN ?zhH ?_; walk_at "mine fxnh"; intro _ _ _ _ _ _) | (with_reducible refine' set_waiting ?zhF ?zhX ?zhN ?zhH ?_; walk_at "mine fxnh"; intro _ _ _ _ _ _) | (with_reducible refine' set_done ?zhF ?zhX ?zhN ?zhH ?_; walk_at "mine fxnh"; intro _ _ _ _ _ _) | (with_reducible refine' set_foreign ?zhF ?zhX ?zhN ?zhH ?_; walk_at "mine fxnh"; intro _ _ _ _ _ _) | (with_reducible refine' set_closed ?zhF ?zhX ?zhN ?zhH ?_; walk_at "mine fxnh"; intro _ _ _ _ _ _) | (with_reducible refine' set_return ?zhF ?zhX ?zhN ?zhH ?_; walk_at "mine fxnh"; intro _ _ _ _ _ _) | (with_reducible refine' set_draft_none ?zhF ?zhX ?zhN ?zhH ?_; walk_at "mine fxnh"; intro _ _ _ _ _ _) | (with_reducible refine' set_draft ?zhF ?zhX ?zhN ?zhH ?zhhy ?_; walk_at "mine fxnh"; (case zhhy => with_reducible assumption); intro _ _ _ _ _ _) | (with_reducible refine' setd_text ?zhF ?zhX ?zhN ?zhH ?zhhd ?zhhy ?_; walk_at "mine fxnh"; (case zhhd => first | with_reducible assumption | rfl); (case zhhy => first | exact rfl | exact S_app _ _ | (rw [S_fffd]; exact S_app _ _)); intro _ _ _ _ _) | ((with_reducible show wpAny _ _ (setAttr (Value.ref (TA.t _)) (PySem.Str.ofString "at") _) _ _ _); refine' set_at ?zhF ?zhX ?zhN ?zhH (Int.natCast_add _ _).symm ?_; walk_at "mine fxnh"; intro _ _ _ _ _ _) | ((with_reducible show wpAny _ _ (setAttr (Value.ref (TA.t _)) (PySem.Str.ofString "at") _) _ _ _); refine' set_at ?zhF ?zhX ?zhN ?zhH (cast_pred ?zhp) ?_; walk_at "mine fxnh"; (case zhp => first | with_reducible assumption | omega); intro _ _ _ _ _ _) | ((with_reducible show wpAny _ _ (setAttr (Value.ref (TA.t _)) (PySem.Str.ofString "at") _) _ _ _); refine' set_at ?zhF ?zhX ?zhN ?zhH (Eq.refl (Nat.cast _)) ?_; walk_at "mine fxnh"; intro _ _ _ _ _ _))
  k_with "getMethod ref" => k_dflt (first | ((with_reducible show wpAny _ _ (getMethod (Value.ref (TA.t _)) _ _) _ _ _); refine' tok_method ?zhF ?zhX ?zhN ?zhH ?zhg ?zhf ?zht ?zhl ?_; walk_at "mine fxnh"; (case zhg => k_dflt k_is); (case zhf => k_dflt k_is); (case zht => k_dflt k_is); (case zhl => intro _; rfl)) | ((with_reducible show wpAny _ _ (getMethod (Value.ref (TA.st _)) _ _) _ _ _); refine' str_method ?zhF ?zhX ?zhN ?zhH ?zhg ?zhf ?zht ?zhl ?_; walk_at "mine fxnh"; (case zhg => k_dflt k_is); (case zhf => k_dflt k_is); (case zht => k_dflt k_is); (case zhl => intro _; rfl)) | (refine' dr_method ?zhF ?zhX ?zhN ?zhH ?zhg ?zhf ?zht ?zhl ?_; (case zhF => k_asm); (case zhX => k_asm); (case zhN => k_asm); (case zhH => walk_at "mine HD"); (case zhg => k_dflt k_is); (case zhf => k_dflt k_is); (case zht => k_dflt k_is); (case zhl => intro _ _ _; rfl)) | ((with_reducible show wpAny _ _ (getMethod (Value.ref (TA.er _)) _ _) _ _ _); refine' app_method_er ?zhN ?zhH ?_; (case zhN => k_asm); (case zhH => walk_at "mine H")) | ((with_reducible show wpAny _ _ (getMethod (Value.ref (TA.ou _)) _ _) _ _ _); refine' app_method_ou ?zhN ?zhH ?_; (case zhN => k_asm); (case zhH => walk_at "mine H")) | ((with_reducible show wpAny _ _ (getMethod (Value.ref (TA.se _)) _ _) _ _ _); refine' app_method_se ?zhN ?zhH ?_; (case zhN => k_asm); (case zhH => walk_at "mine H")) | ((with_reducible show wpAny _ _ (getMethod (Value.ref (TA.sg _)) _ _) _ _ _); refine' app_method_sg ?zhN ?zhH ?_; (case zhN => k_asm); (case zhH => walk_at "mine H")))
  k_with "call builtin:list.append" => k_dflt (first | ((with_reducible show wpAny _ _ (call _ [Value.ref (TA.er _), _]) _ _ _); refine' app_er ?zhF ?zhN ?zhH ?zhr ?zhz ?_; (case zhF => k_asm); (case zhN => k_asm); (case zhH => walk_at "mine H"); (case zhr => walk_at "mine row"); (case zhz => walk_at "mine size"); intro _ _ _ _ _ _) | ((with_reducible show wpAny _ _ (call _ [Value.ref (TA.ou _), _]) _ _ _); refine' app_ou ?zhF ?zhN ?zhH ?zhr ?zhz ?_; (case zhF => k_asm); (case zhN => k_asm); (case zhH => walk_at "mine H"); (case zhr => walk_at "mine row"); (case zhz => walk_at "mine size"); intro _ _ _ _ _ _) | ((with_reducible show wpAny _ _ (call _ [Value.ref (TA.se _), _]) _ _ _); refine' app_se ?zhF ?zhN ?zhH ?zhr ?zhz ?_; (case zhF => k_asm); (case zhN => k_asm); (case zhH => walk_at "mine H"); (case zhr => walk_at "mine row"); (case zhz => walk_at "mine size"); intro _ _ _ _ _ _) | ((with_reducible show wpAny _ _ (call _ [Value.ref (TA.sg _), _]) _ _ _); refine' app_sg ?zhF ?zhN ?zhH ?zhhx ?zhz ?_; (case zhF => k_asm); (case zhN => k_asm); (case zhH => walk_at "mine H"); (case zhhx => first | exact S_nl | exact rfl); (case zhz => walk_at "mine size"); intro _ _ _ _ _ _))
  k_with "mine size" => first | with_reducible assumption | ((try dsimp only at *); omega) | ((try dsimp only at *); simp only [List.length_append, List.length_cons, List.length_nil, List.length_take, List.length_drop, List.length_map] at *; omega)
  k_with "call builtin:len" => k_dflt ((with_reducible refine' len_S ?zhz ?_); (case zhz => walk_at "mine size"))
  k_with "call builtin:ord" => k_dflt (with_reducible refine' ord_S ?_)
  k_with "call builtin:chr" => k_dflt (refine' chr_S (Int.natCast_add _ _).symm ?zhz ?_; (case zhz => omega))
  k_with "call builtin:len" => k_dflt (with_reducible refine' len_sg ?zhN ?zhH ?zhz ?_; (case zhN => k_asm); (case zhH => walk_at "mine H"); (case zhz => walk_at "mine size"))
  k_with "mine slen" => (simp only [S_fffd, S_len, S_nil, List.length_append, List.length_cons, List.length_nil, sizeLine]; omega)
  k_with "binaryOp Add str str" => k_dflt (refine' PyProof.Rows.add_str ?_ ?zhz9; (case zhz9 => walk_at "mine slen"); intro _ _)
  k_with "mine news" => first | k_asm | exact News.ofCons (by assumption)
  k_with "mine for" => ((rename Fr _ _ _ _ => lF'); (with_unfolding_all refine' For_invVF lF' ?zhk1 ?zhk2 ?_; (case zhk1 => exact rfl); (case zhk2 => exact rfl)))
  k_with "mine name" => k_dflt ((refine' nameX_L ?zhF ?zhv ?_ ?zha ?zhb ?zhc); (case zhF => k_asm); (case zha => rfl); (case zhb => rfl); (case zhv => rfl); (case zhc => decide))
  k_with "mine locs" => ((repeat' (refine List.forall_mem_cons.mpr ⟨rfl, ?_⟩)); exact fun _ h => nomatch h)
  k_with "subscriptTail" => k_dflt ((with_reducible show wpAny _ _ (subscriptTail _ _ (Value.ref (TA.sg _)) (Value.int _ _)) _ _ _); refine' item_sg ?zhN ?zhH ?zhe ?zhhi ?zhz ?_; (case zhN => k_asm); (case zhH => walk_at "mine H"); (case zhe => first | exact rfl | exact (Int.natCast_add _ _).symm); (case zhhi => (try dsimp only at *); omega); (case zhz => walk_at "mine size"); intro c9 u9 hc9)
  k_with "subscriptTail" => k_dflt ((with_reducible show wpAny _ _ (subscriptTail _ _ (Value.str _ _) (Value.int _ _)) _ _ _); refine' item_S ?zhhi ?zhz ?_; (case zhhi => (try dsimp only at *); omega); (case zhz => walk_at "mine size"); intro c9 u9 hc9)
  k_with "subscriptTail Name Name str int" => k_dflt ((with_reducible show wpAny _ _ (subscriptTail _ _ (Value.str _ _) (Value.int _ _)) _ _ _); refine' item_S ?zhhi ?zhz ?_; (case zhhi => (try dsimp only at *); omega); (case zhz => walk_at "mine size"); intro c9 u9 hc9)
  trivial

variable {prog : Program} {w : World} {mean : ExcName → Option Value} {mg mb : Str → Option Value} {T : TA} {n0 : Led} {d : D} {dv : Value} {nx : Led}

noncomputable def rowsP (rows : List (List Dat)) : List PyData := rows.map fun r => .tuple (kqdPs r)
theorem flat_kqd {d : Dat} (h : flatOk d = true) : kqdOk 8 d = true := by cases d <;> simp_all [flatOk, kqdOk]
theorem flat_lay : ∀ {r : List Dat}, (∀ d ∈ r, flatOk d = true) → PyData.canLayAll0 (kqdPs r) = true ∧ PyData.depthAll (kqdPs r) = 0
  | [], _ => ⟨rfl, rfl⟩
  | d :: r, h => by
    have ih := flat_lay fun d hd => h d (.tail _ hd)
    have h1 := h d (.head _)
    cases d <;> simp_all [flatOk, kqdPs, kqdP, PyData.canLayAll0, PyData.canLay0, PyData.depthAll, PyData.depth]
theorem rows_lay : ∀ {rows : List (List Dat)}, RowsOk rows → PyData.canLayAll0 (rowsP rows) = true ∧ PyData.depthAll (rowsP rows) ≤ 1
  | [], _ => ⟨rfl, Nat.zero_le _⟩
  | r :: rows, h => by
    have ih := rows_lay fun q hq => h q (.tail _ hq)
    have h1 := flat_lay (h r (.head _))
    unfold rowsP at ih ⊢
    simp only [List.map_cons, PyData.canLayAll0, PyData.canLay0, PyData.depthAll, PyData.depth, h1.1, h1.2, ih.1, Bool.and_self, true_and]
    omega
section
variable {h₀ h : Heap} {L : Addr}
theorem row_reads {v : Value} {r : List Dat} (N : News h₀ L h nx) (H : RowIs nx v r) (ok : ∀ d ∈ r, flatOk d = true) : ∃ as, Reads h v (.tuple (kqdPs r)) as := by
  obtain ⟨a, vs, n, rfl, m, d⟩ := H
  obtain ⟨as, q⟩ := kqd_all N 8 (d.mono fun _ h => (List.not_mem_nil h).elim) fun d hd => flat_kqd (ok d hd)
  exact ⟨as, reads_tuple_at (N.get m) rfl rfl (by simpa using q)⟩
theorem rows_reads {vs : List Value} {rs : List (List Dat)} (N : News h₀ L h nx) (H : RowsAre nx vs rs) (ok : RowsOk rs) : ∃ as, ReadsAll h vs (rowsP rs) as := by
  induction H with
  | nil => exact ⟨_, ReadsAll.nil⟩
  | cons a _ ih =>
    obtain ⟨as, p⟩ := row_reads N a (ok _ (.head _))
    obtain ⟨bs, q⟩ := ih fun r hr => ok r (.tail _ hr)
    exact ⟨_, ReadsAll.cons p q⟩
theorem list_reads {a : Addr} {vs : List Value} {n : Nat} {rs : List (List Dat)} (N : News h₀ L h nx) (m : (a, listOf vs.toArray n) ∈ nx) (H : RowsAre nx vs rs) (ok : RowsOk rs) : ∃ as, Reads h (.ref a) (.list (rowsP rs)) as := by
  obtain ⟨as, q⟩ := rows_reads N H ok
  exact ⟨_, reads_list_at (N.get m) rfl rfl (by simpa [W.listOf] using q)⟩
noncomputable def dueP (r : Due) : PyData := .tuple [.list (rowsP r.out), .list (rowsP r.errs), .str r.state, .int r.at_, .str (S r.kept), .bool r.wait, .bool r.done]
theorem due_lay {r : Due} (ok : DueOk r) : (dueP r).canLay0 = true ∧ (dueP r).depth ≤ 3 := by
  have h1 := rows_lay ok.out
  have h2 := rows_lay ok.errs
  have h3 := ok.state
  have h4 := ok.kept
  unfold dueP
  simp only [PyData.canLayAll0, PyData.canLay0, PyData.depthAll, PyData.depth, h1.1, h2.1, h3, h4, Bool.and_self, true_and]
  omega
theorem tup_reads {a lo le : Addr} {vo ve : List Value} {no ne n : Nat} {u1 u2 u3 : Tok} {r : Due} (N : News h₀ L h nx) (ok : DueOk r)
    (m1 : (a, tupOf [.ref lo, .ref le, .str r.state u1, .int r.at_ u2, .str (S r.kept) u3, .bool r.wait, .bool r.done] n) ∈ nx) (m2 : (lo, listOf vo.toArray no) ∈ nx) (m3 : (le, listOf ve.toArray ne) ∈ nx) (ro : RowsAre nx vo r.out) (re : RowsAre nx ve r.errs) :
    ∃ as, Reads h (.ref a) (dueP r) as := by
  obtain ⟨a1, q1⟩ := list_reads N m2 ro ok.out
  obtain ⟨a2, q2⟩ := list_reads N m3 re ok.errs
  exact ⟨_, reads_tuple_at (N.get m1) rfl rfl (.cons q1 (.cons q2 (.cons (.str _ _) (.cons (.int _ _) (.cons (.str _ _) (.cons (.bool _) (.cons (.bool _) .nil)))))))⟩
end
section
variable {A : Around} {E : Value → Shared → Prop} {s : Shared} {h₀ : Heap} {L : Addr} {m : Str → Option Value}
theorem shaped_of {d : PyData} (h1 : d.canLay0 = true) (h2 : d.depth ≤ 3) : SeqAt.shaped d = true := by
  unfold SeqAt.shaped
  rw [h1, Bool.true_and]
  exact decide_eq_true (Nat.le_trans h2 (by decide))
theorem ne_stream {D : Addr} {n1 : Led} {rows : List (List Dat)} {Q : Value → Shared → Prop} (N : News h₀ L s.heap nx) (H : TokX w T n0 d dv nx) (G : AccX D n1 rows nx) (e : d.serr = rows) (ok : RowsOk rows) (hu : A.units + 64 < cLine) (h : Q (.bool false) s) :
    wpAny (model prog w) A (compareOp .NotEq (.ref T.se) (.ref D)) Q E s := by
  obtain ⟨kp, nd, ⟨σ, ks, m1, m2, m3, a1, a2, a3, a4, a5, a6, a7, a8, a9, b1, b2, b3, b4⟩, dr⟩ := H
  obtain ⟨⟨vs, n, mc, hr⟩, k⟩ := G
  rw [e] at b2
  obtain ⟨as, q1⟩ := list_reads N a6 b2 ok
  obtain ⟨bs, q2⟩ := list_reads N mc hr ok
  have hl := rows_lay ok
  have c1 : (PyData.list (rowsP rows)).canLay0 = true := by simpa [PyData.canLay0] using hl.1
  have c2 : (PyData.list (rowsP rows)).depth ≤ 3 := by simp only [PyData.depth]; omega
  exact ne_dataH q1 q2 (shaped_of c1 c2) (shaped_of c1 c2) hu (by rw [SeqAt.eqv_refl _ c1]; exact h)
theorem eq_seen {a b : Addr} {n : Nat} {u1 u2 u3 : Tok} {st kp : Str} {at_ : Int} {kept : List Nat} {wt dn : Bool} {r : Due} {Q : Value → Shared → Prop} (N : News h₀ L s.heap nx) (H : TokX w T n0 d dv nx) (G : DueIs nx (.ref b) r)
    (m1 : (a, tupOf [.ref T.ou, .ref T.er, .str st u1, .int at_ u2, .str kp u3, .bool wt, .bool dn] n) ∈ nx) (hk : kp = S kept) (e : (⟨d.out, d.errs, st, at_, kept, wt, dn⟩ : Due) = r) (ok : DueOk r) (hu : A.units + 64 < cLine) (h : Q (.bool true) s) :
    wpAny (model prog w) A (compareOp .Eq (.ref a) (.ref b)) Q E s := by
  subst hk
  obtain ⟨kp, nd, ⟨σ, ks, m1', m2, m3, a1, a2, a3, a4, a5, a6, a7, a8, a9, b1, b2, b3, b4⟩, dr⟩ := H
  obtain ⟨b', lo, le, vo, ve, no, ne, w1, w2, w3, n', eb, g1, g2, g3, g4, g5⟩ := G
  cases eb
  obtain ⟨bs, q2⟩ := tup_reads N ok g1 g2 g4 g3 g5
  subst e
  obtain ⟨as, q1⟩ := tup_reads N ok m1 a7 a8 b3 b4
  have hl := due_lay ok
  exact eq_dataH q1 q2 (shaped_of hl.1 hl.2) (shaped_of hl.1 hl.2) hu (by rw [SeqAt.eqv_refl _ hl.1]; exact h)
theorem wpAny_toks {α : Type} {M : Model} {t : Sem α} {Q : α → Shared → Prop} (h : wpAny M A t Q E s) : wpAny M A t (fun a s' => s.toks ≤ s'.toks ∧ Q a s') E s :=
  fun Γ p hΓ => Sem.wp_mono M Γ t (fun _ _ _ q => q) (fun _ _ _ q => q.2) p s (Sem.wp_toks M Γ s.toks t _ _ p s (Nat.le_refl _) (h Γ p hΓ))
theorem repl_S {l wy wz : List Nat} {y z : Str} {t u v : Tok} {Q : Value → Shared → Prop} (hy : y = S wy) (hzz : z = S wz) (hw : 1 ≤ wy.length) (hyz : (y == z) = false) (hzl : wz.length ≤ 14) (hp : 0 < s.toks) (hu : u ≠ 0) (hv : v ≠ 0) (huv : u ≠ v) (hz : l.length ≤ 1000)
    (h : ∀ t' k, 0 < k → Q (.str (S (repl wy wz l)) t') { s with toks := k }) : wpAny (model prog w) A (call (.builtin "str.replace") [.str (S l) t, .str y u, .str z v]) Q E s := by
  have key : wpAny (model prog w) A (call (.builtin "str.replace") [.str (S l) t, .str y u, .str z v]) (fun v s' => ∃ t' k, v = .str (S (repl wy wz l)) t' ∧ s' = { s with toks := k }) E s := by
    refine SC.replaceW hu hv huv hyz (by rw [S_len]; omega) (by rw [hzz, S_len]; exact hzl) fun t' k => ?_
    rw [hy, hzz, replace_S l wy wz hw]
    exact ⟨t', k, rfl, rfl⟩
  refine wpAny_mono (wpAny_toks key) (fun v s' q => ?_) fun _ _ e => e
  obtain ⟨hle, t', k, rfl, rfl⟩ := q
  exact h t' k (Nat.lt_of_lt_of_le hp hle)
end

theorem DraftAt.none_of {nx : Led} {v : Value} (H : TokX w T n0 d v nx) (h : d.draft = none) : v = .none := by
  have := H.draft; rw [h] at this; exact this
theorem DraftAt.some_of {nx : Led} {v : Value} {l : List Nat} (H : TokX w T n0 d v nx) (h : d.draft = some l) : ∃ x, v = .ref x := by
  have := H.draft; rw [h] at this; obtain ⟨x, _, _, _, _, _, e, _⟩ := this; exact ⟨x, e⟩
theorem run_none {d1 : D} (e : d1 = d) (h : d1.draft = none) (v : Value) (nx' : Led) (g : ∃ y, TokX w T n0 d y nx' ∧ v = .bool d.done) : TokX w T n0 d1 .none nx' ∧ v = .bool d1.done := by
  subst e; obtain ⟨y, H, rfl⟩ := g; rw [DraftAt.none_of H h] at H; exact ⟨H, rfl⟩
theorem run_some {d1 : D} {l : List Nat} (e : d1 = d) (h : d1.draft = some l) (v : Value) (nx' : Led) (g : ∃ y, TokX w T n0 d y nx' ∧ v = .bool d.done) : ∃ x, TokX w T n0 d1 (.ref x) nx' ∧ v = .bool d1.done := by
  subst e; obtain ⟨y, H, rfl⟩ := g; obtain ⟨x, rfl⟩ := DraftAt.some_of H h; exact ⟨x, H, rfl⟩
theorem stream_tok {rows : List (List Dat)} (H : TokX w T n0 d dv nx) (v : Value) (nx' : Led) (g : ∃ D, v = .ref D ∧ (∀ p ∈ nx, p.1 ≠ D) ∧ AccX D nx rows nx') : ∃ D, AccX D nx rows nx' ∧ TokX w T n0 d dv nx' ∧ v = .ref D := by
  obtain ⟨D, e, hn, hA⟩ := g
  exact ⟨D, hA, H.mono fun p hp => hA.keep p hp (hn p hp), e⟩
theorem due_tok {r : Due} (H : TokX w T n0 d dv nx) (v : Value) (nx' : Led) (g : ∃ a, DueIs nx' (.ref a) r ∧ (∀ p ∈ nx, p ∈ nx') ∧ v = .ref a) : ∃ a, DueIs nx' (.ref a) r ∧ (∀ p ∈ nx, p ∈ nx') ∧ TokX w T n0 d dv nx' ∧ v = .ref a := by
  obtain ⟨a, h1, h2, e⟩ := g
  exact ⟨a, h1, h2, H.mono h2, e⟩
theorem S_crlf : Str.ofString "\r\n" = S [13, 10] := by decide +kernel
theorem repl_len (w z : List Nat) (hw : 1 ≤ w.length) (hz : z.length ≤ w.length) : ∀ l, (repl w z l).length ≤ l.length := by
  have key : ∀ n (l : List Nat), l.length ≤ n → (repl w z l).length ≤ l.length := by
    intro n
    induction n with
    | zero => intro l hl; rw [List.length_eq_zero_iff.mp (Nat.le_zero.mp hl)]; exact Nat.le_refl _
    | succ n ih =>
      intro l hl
      cases l with
      | nil => exact Nat.le_refl _
      | cons c t =>
        rw [repl_cons w z hw]
        split
        · rename_i h
          have h1 := h.length_le
          have h2 : ((c :: t).drop w.length).length = (c :: t).length - w.length := List.length_drop ..
          have h3 := ih ((c :: t).drop w.length) (by rw [h2]; simp at hl h1 ⊢; omega)
          rw [List.length_append]
          omega
        · have h3 := ih t (by simp at hl; exact hl)
          simpa using h3
  exact fun l => key l.length l (Nat.le_refl _)

theorem gentoks2 {α : Type} {M : Model} {A : Around} {E : Value → Shared → Prop} {t : Sem α} {Q : α → Shared → Prop} {h g d o} {n : Nat} (H : ∀ tk : Nat, 0 < tk → wpAny M A t Q E ⟨h, g, d, tk, o⟩) : wpAny M A t Q E ⟨h, g, d, n + 1, o⟩ := H _ (Nat.succ_pos _)
theorem lines_D2_2 : True := by
  k_with "execs cons" => k_dflt (refine' gentoks2 ?_; intro tk9 htk9)
  k_with "execs nil" => k_dflt (refine' gentoks2 ?_; intro tk9 htk9)
  k_with "call ref" => ((with_reducible show wpAny _ _ (call (Value.ref 433) _) _ _ _); k_dflt (refine' Claim.use ((run_ok _ ?zhW ?zhr ?zhH).imp (run_none ?zhe ?zhn)) ?zhB ?zhF ?zhX ?zhN ?zhT ?zhkk ?zhd ?zhu ?_; (case zhB => k_asm); (case zhF => k_asm); (case zhX => k_asm); (case zhN => k_asm); (case zhT => k_asm); (case zhkk => rfl); (case zhH => walk_at "mine H"); (case zhe => first | with_reducible assumption | assumption); (case zhn => first | with_reducible assumption | assumption); (case zhW => first | with_reducible assumption | assumption); (case zhr => first | with_reducible assumption | assumption); (case zhd => ktr_room); (case zhu => ktr_units); rintro _ _ _ _ ⟨_, hv9⟩ _ _; subst hv9))
  k_with "call ref" => ((with_reducible show wpAny _ _ (call (Value.ref 433) _) _ _ _); k_dflt (refine' Claim.use ((run_ok _ ?zhW ?zhr ?zhH).imp (run_some ?zhe ?zhn)) ?zhB ?zhF ?zhX ?zhN ?zhT ?zhkk ?zhd ?zhu ?_; (case zhB => k_asm); (case zhF => k_asm); (case zhX => k_asm); (case zhN => k_asm); (case zhT => k_asm); (case zhkk => rfl); (case zhH => walk_at "mine H"); (case zhe => first | with_reducible assumption | assumption); (case zhn => first | with_reducible assumption | assumption); (case zhW => first | with_reducible assumption | assumption); (case zhr => first | with_reducible assumption | assumption); (case zhd => ktr_room); (case zhu => ktr_units); rintro _ _ _ _ ⟨_, _, hv9⟩ _ _; subst hv9))
  k_with "call ref" => ((with_reducible show wpAny _ _ (call (Value.ref 475) _) _ _ _); k_dflt (refine' Claim.use ((stream_ok _ _ ?zhz).imp (stream_tok ?zhH)) ?zhB ?zhF ?zhX ?zhN ?zhT ?zhkk ?zhd ?zhu ?_; (case zhB => k_asm); (case zhF => k_asm); (case zhX => k_asm); (case zhN => k_asm); (case zhT => k_asm); (case zhkk => rfl); (case zhH => walk_at "mine H"); (case zhz => first | with_reducible assumption | assumption); (case zhd => ktr_room); (case zhu => ktr_units); rintro _ _ _ _ ⟨_, _, _, hv9⟩ _ _; subst hv9))
  k_with "call ref" => ((with_reducible show wpAny _ _ (call (Value.ref 499) _) _ _ _); k_dflt (refine' Claim.use ((due_ok _ _ _ _ ?zhz ?zhs).imp (due_tok ?zhH)) ?zhB ?zhF ?zhX ?zhN ?zhT ?zhkk ?zhd ?zhu ?_; (case zhB => k_asm); (case zhF => k_asm); (case zhX => k_asm); (case zhN => k_asm); (case zhT => k_asm); (case zhkk => rfl); (case zhH => walk_at "mine H"); (case zhz => first | with_reducible assumption | assumption); (case zhs => first | with_reducible assumption | assumption); (case zhd => ktr_room); (case zhu => ktr_units); rintro _ _ _ _ ⟨_, _, _, _, hv9⟩ _ _; subst hv9))
  trivial


section
variable {d1 : D} {r : Due} {l : List Nat}
theorem seen_1 (h : seenF d1 = r) (hd : d1.done = true) : (⟨d1.out, d1.errs, "", d1.at_, [], d1.waiting, d1.done⟩ : Due) = r := by
  rw [← h]; unfold seenF; rw [hd]; rfl
theorem seen_2 (h : seenF d1 = r) (hn : d1.draft = none) (hd : d1.done = false) : (⟨d1.out, d1.errs, d1.state, d1.at_, [], d1.waiting, d1.done⟩ : Due) = r := by
  rw [← h]; unfold seenF; rw [hd, hn]; rfl
theorem seen_3 (h : seenF d1 = r) (hn : d1.draft = some l) (hd : d1.done = false) : (⟨d1.out, d1.errs, d1.state, d1.at_, l, d1.waiting, d1.done⟩ : Due) = r := by
  rw [← h]; unfold seenF; rw [hd, hn]; rfl
end

theorem lines_D2_3 : True := by
  k_with "compareOp Eq ref ref" => k_dflt (refine' eq_seen ?zhN ?zhH ?zhG ?zhm ?zhhk ?zhe ?zhok ?zhhu ?_; (case zhN => k_asm); (case zhG => assumption); (case zhm => exact (‹∀ (p : Addr × Obj), p ∈ (_ : Led) → p ∈ (_ : Led)› _ (by k_mem))); (case zhH => walk_at "mine H"); (case zhhk => first | exact S_nil | exact rfl); (case zhe => first | exact seen_1 (by assumption) (by assumption) | exact seen_2 (by assumption) (by assumption) (by assumption) | exact seen_3 (by assumption) (by assumption) (by assumption)); (case zhok => assumption); (case zhhu => ktr_units))
  k_with "mine ne0" => ((show @Ne Nat _ _); omega)
  k_with "call builtin:str.replace" => k_dflt (first | (refine' repl_S (wy := [13, 10]) (wz := [10]) S_crlf S_nl (by decide) (by decide +kernel) (by decide) ?zhp ?zhu ?zhv ?zhw ?zhz ?_; (case zhp => first | omega | (dsimp only; omega)); (case zhu => walk_at "mine ne0"); (case zhv => walk_at "mine ne0"); (case zhw => walk_at "mine ne0"); (case zhz => omega); intro _ _ _) | (refine' repl_S (wy := [13]) (wz := [10]) S_cr S_nl (by decide) (by decide +kernel) (by decide) ?zhp ?zhu ?zhv ?zhw ?zhz ?_; (case zhp => first | omega | (dsimp only; omega)); (case zhu => walk_at "mine ne0"); (case zhv => walk_at "mine ne0"); (case zhw => walk_at "mine ne0"); (case zhz => omega); intro _ _ _))
  k_with "compareOp NotEq ref ref" => k_dflt (refine' ne_stream ?zhN ?zhH ?zhG ?zhe ?zhok ?zhhu ?_; (case zhN => k_asm); (case zhH => walk_at "mine H"); (case zhG => assumption); (case zhe => assumption); (case zhok => assumption); (case zhhu => ktr_units))
  trivial


theorem right_ok (n : Nat) (d1 : D) (raw : List Nat) (u : Tok) (e fo : Bool) (W : WF n d) (hd1 : d1 = runD n d) (hr : readyD (runD n d) = false) (hz : raw.length ≤ 100) (hs : InSG (norm raw)) (hst : d1.serr = streamF 0 (norm raw)) (hsok : RowsOk (streamF 0 (norm raw))) (hse : seenF d1 = dueF (norm raw) e fo) (hok : DueOk (dueF (norm raw) e fo)) (hdz : ∀ l, d1.draft = some l → l.length ≤ 100000) (H : TokX w T n0 d dv nx) : Claim prog w mean mg mb 24 506 nx [.ref T.t, .str (S raw) u, .bool e, .bool fo] (fun v nx' => ∃ y, TokX w T n0 d1 y nx' ∧ v = .bool true) := by
  have hz1 : (repl [13, 10] [10] raw).length ≤ 100 := Nat.le_trans (repl_len _ _ (by decide) (by decide) raw) hz
  have hz2 : (norm raw).length ≤ 100 := Nat.le_trans (repl_len _ _ (by decide) (by decide) _) hz1
  cases hdr : d1.draft
  all_goals unfold Claim
  all_goals intro dp un gd cn cs a ccd cl outer A₀ base h₀ L m s Q E B F X N Tp hk hd hu hret
  all_goals refine wpAny_call ?_
  all_goals k_dflt cell_enter
  all_goals have hu64 := cLine_is
  all_goals walk_at "mine steps"
  all_goals first
    | exact absurd ‹(d1.done != d1.done) = true› (by simp)
    | exact hret _ _ _ _ ⟨_, by with_reducible assumption, rfl⟩ (by k_asm) (by k_asm)


end D2

section E1
open PySem PySem.W PyProof.Rows PySem.Calls
set_option maxRecDepth 100000
set_option maxHeartbeats 4000000
theorem lines_E1_1 : True := by
  w_top off
  k_with_none
  k_with "execs cons" => k_fold
  k_with "exec If" => k_fold
  k_with "exec Assign" => k_fold
  k_with "exec Expr" => k_fold
  k_with "exec Return" => k_fold
  k_with "callWith" => k_fold
  k_with "call ref" => k_fold
  k_with "mine steps" => repeat' ((fail_if_success (with_reducible show wpAny _ _ (pyIter _) _ _ _)); (fail_if_success (with_reducible show wpAny _ _ (exec (Stmt.For _ (Expr.Name _ _) _ _ _) _) _ _ _)); first | (k_unfold; (try dsimp only)) | walk1 | (dsimp only; walk1) | (leave1; (try dsimp only)))
  k_with "mine H" => (first | (with_reducible assumption) | (with_reducible refine' TokX.cons1 ?zhhh; (case zhhh => with_reducible assumption)) | (with_reducible refine' TokX.cons2 ?zhhh; (case zhhh => with_reducible assumption)) | (with_reducible refine' TokX.cons3 ?zhhh; (case zhhh => with_reducible assumption)))
  k_with "mine row" => (first | (with_reducible assumption) | (apply RowIs.of; k_mem; (repeat' constructor); done))
  k_with "mine HD" => (first | (with_reducible assumption) | (exact TokX.dr (by with_reducible assumption) rfl) | (exact TokX.dr (by with_reducible assumption) (by with_reducible assumption)) | (exact DraftAt.keepA (by with_reducible assumption) (by with_reducible assumption)) | (exact TokX.dr (by with_reducible assumption) (by assumption)))
  k_with "mine fxnh" => ((case zhF => k_asm); (case zhX => k_asm); (case zhN => k_asm); (case zhH => walk_at "mine H"))
  k_with "getAttr ref" => k_dflt (first | (with_reducible refine' get_at ?zhF ?zhX ?zhN ?zhH ?_; walk_at "mine fxnh"; intro _) | (with_reducible refine' get_stream ?zhF ?zhX ?zhN ?zhH ?_; walk_at "mine fxnh") | (with_reducible refine' get_signs ?zhF ?zhX ?zhN ?zhH ?_; walk_at "mine fxnh") | (with_reducible refine' get_out ?zhF ?zhX ?zhN ?zhH ?_; walk_at "mine fxnh") | (with_reducible refine' get_errors ?zhF ?zhX ?zhN ?zhH ?_; walk_at "mine fxnh") | (with_reducible refine' get_draft ?zhF ?zhX ?zhN ?zhH ?_; walk_at "mine fxnh") | (with_reducible refine' get_state ?zhF ?zhX ?zhN ?zhH ?_; walk_at "mine fxnh"; intro _) | (with_reducible refine' get_states ?zhF ?zhX ?zhN ?zhH ?_; walk_at "mine fxnh") | (with_reducible refine' get_waiting ?zhF ?zhX ?zhN ?zhH ?_; walk_at "mine fxnh") | (with_reducible refine' get_done ?zhF ?zhX ?zhN ?zhH ?_; walk_at "mine fxnh") | (with_reducible refine' get_foreign ?zhF ?zhX ?zhN ?zhH ?_; walk_at "mine fxnh") | (with_reducible refine' get_last ?zhF ?zhX ?zhN ?zhH ?_; walk_at "mine fxnh"; intro _) | (with_reducible refine' get_closed ?zhF ?zhX ?zhN ?zhH ?_; walk_at "mine fxnh") | (with_reducible refine' get_return ?zhF ?zhX ?zhN ?zhH ?_; walk_at "mine fxnh") | (with_reducible refine' get_serr ?zhF ?zhX ?zhN ?zhH ?_; walk_at "mine fxnh") | (with_reducible refine' getd_text ?zhF ?zhX ?zhN ?zhH ?_; (case zhF => k_asm); (case zhX => k_asm); (case zhN => k_asm); (case zhH => walk_at "mine HD"); intro _) | (with_reducible refine' getd_kind ?zhF ?zhX ?zhN ?zhH ?_; (case zhF => k_asm); (case zhX => k_asm); (case zhN => k_asm); (case zhH => walk_at "mine HD"); intro _))
  k_with "setAttr ref" => k_dflt (first | (with_reducible refine' set_state ?zhF ?zhX ?zhN ?zhH ?_; walk_at "mine fxnh"; intro _ _ _ _ _ _) | (with_reducible refine' set_waiting ?zhF ?zhX ?zhN ?zhH ?_; walk_at "mine fxnh"; intro _ _ _ _ _ _) | (with_reducible refine' set_done ?zhF ?zhX ?zhN ?zhH ?_; walk_at "mine fxnh"; intro _ _ _ _ _ _) | (with_reducible refine' set_foreign ?zhF ?zhX ?zhN ?zhH ?_; walk_at "mine fxnh"; intro _ _ _ _ _ _) | (with_reducible refine' set_closed ?zhF ?zhX ?zhN ?zhH ?_; walk_at "mine fxnh"; intro _ _ _ _ _ _) | (with_reducible refine' set_return ?zhF ?zhX ?zhN ?zhH ?_; walk_at "mine fxnh"; intro _ _ _ _ _ _) | (with_reducible refine' set_draft_none ?zhF ?zhX ?zhN ?zhH ?_; walk_at "mine fxnh"; intro _ _ _ _ _ _) | (with_reducible refine' set_draft ?zhF ?zhX ?zhN ?zhH ?zhhy ?_; walk_at "mine fxnh"; (case zhhy => with_reducible assumption); intro _ _ _ _ _ _) | (with_reducible refine' setd_text ?zhF ?zhX ?zhN ?zhH ?zhhd ?zhhy ?_; walk_at "mine fxnh"; (case zhhd => first | with_reducible assumption | rfl); (case zhhy => first | exact rfl | exact S_app _ _ | (rw [S_fffd]; exact S_app _ _)); intro _ _ _ _ _) | ((with_reducible show wpAny _ _ (setAttr (Value.ref (TA.t _)) (PySem.Str.ofString "at") _) _ _ _); refine' set_at ?zhF ?zhX ?zhN ?zhH (Int.natCast_add _ _).symm ?_; walk_at "mine fxnh"; intro _ _ _ _ _ _) | ((with_reducible show wpAny _ _ (setAttr (Value.ref (TA.t _)) (PySem.Str.ofString "at") _) _ _ _); refine' set_at ?zhF ?zhX ?zhN ?zhH (cast_pred ?zhp) ?_; walk_at "mine fxnh"; (case zhp => first | with_reducible assumption | omega); intro _ _ _ _ _ _) | ((with_reducible show wpAny _ _ (setAttr (Value.ref (TA.t _)) (PySem.Str.ofString "at") _) _ _ _); refine' set_at ?zhF ?zhX ?zhN ?zhH (Eq.refl (Nat.cast _)) ?_; walk_at "mine fxnh"; intro _ _ _ _ _ _))
  k_with "getMethod ref" => k_dflt (first | ((with_reducible show wpAny _ _ (getMethod (Value.ref (TA.t _)) _ _) _ _ _); refine' tok_method ?zhF ?zhX ?zhN ?zhH ?zhg ?zhf ?zht ?zhl ?_; walk_at "mine fxnh"; (case zhg => k_dflt k_is); (case zhf => k_dflt k_is); (case zht => k_dflt k_is); (case zhl => intro _; rfl)) | ((with_reducible show wpAny _ _ (getMethod (Value.ref (TA.st _)) _ _) _ _ _); refine' str_method ?zhF ?zhX ?zhN ?zhH ?zhg ?zhf ?zht ?zhl ?_; walk_at "mine fxnh"; (case zhg => k_dflt k_is); (case zhf => k_dflt k_is); (case zht => k_dflt k_is); (case zhl => intro _; rfl)) | (refine' dr_method ?zhF ?zhX ?zhN ?zhH ?zhg ?zhf ?zht ?zhl ?_; (case zhF => k_asm); (case zhX => k_asm); (case zhN => k_asm); (case zhH => walk_at "mine HD"); (case zhg => k_dflt k_is); (case zhf => k_dflt k_is); (case zht => k_dflt k_is); (case zhl => intro _ _ _; rfl)) | ((with_reducible show wpAny _ _ (getMethod (Value.ref (TA.er _)) _ _) _ _ _); refine' app_method_er ?zhN ?zhH ?_; (case zhN => k_asm); (case zhH => walk_at "mine H")) | ((with_reducible show wpAny _ _ (getMethod (Value.ref (TA.ou _)) _ _) _ _ _); refine' app_method_ou ?zhN ?zhH ?_; (case zhN => k_asm); (case zhH => walk_at "mine H")) | ((with_reducible show wpAny _ _ (getMethod (Value.ref (TA.se _)) _ _) _ _ _); refine' app_method_se ?zhN ?zhH ?_; (case zhN => k_asm); (case zhH => walk_at "mine H")) | ((with_reducible show wpAny _ _ (getMethod (Value.ref (TA.sg _)) _ _) _ _ _); refine' app_method_sg ?zhN ?zhH ?_; (case zhN => k_asm); (case zhH => walk_at "mine H")))
  k_with "call builtin:list.append" => k_dflt (first | ((with_reducible show wpAny _ _ (call _ [Value.ref (TA.er _), _]) _ _ _); refine' app_er ?zhF ?zhN ?zhH ?zhr ?zhz ?_; (case zhF => k_asm); (case zhN => k_asm); (case zhH => walk_at "mine H"); (case zhr => walk_at "mine row"); (case zhz => walk_at "mine size"); intro _ _ _ _ _ _) | ((with_reducible show wpAny _ _ (call _ [Value.ref (TA.ou _), _]) _ _ _); refine' app_ou ?zhF ?zhN ?zhH ?zhr ?zhz ?_; (case zhF => k_asm); (case zhN => k_asm); (case zhH => walk_at "mine H"); (case zhr => walk_at "mine row"); (case zhz => walk_at "mine size"); intro _ _ _ _ _ _) | ((with_reducible show wpAny _ _ (call _ [Value.ref (TA.se _), _]) _ _ _); refine' app_se ?zhF ?zhN ?zhH ?zhr ?zhz ?_; (case zhF => k_asm); (case zhN => k_asm); (case zhH => walk_at "mine H"); (case zhr => walk_at "mine row"); (case zhz => walk_at "mine size"); intro _ _ _ _ _ _) | ((with_reducible show wpAny _ _ (call _ [Value.ref (TA.sg _), _]) _ _ _); refine' app_sg ?zhF ?zhN ?zhH ?zhhx ?zhz ?_; (case zhF => k_asm); (case zhN => k_asm); (case zhH => walk_at "mine H"); (case zhhx => first | exact S_nl | exact rfl); (case zhz => walk_at "mine size"); intro _ _ _ _ _ _))
  k_with "mine size" => first | with_reducible assumption | ((try dsimp only at *); omega) | ((try dsimp only at *); simp only [List.length_append, List.length_cons, List.length_nil, List.length_take, List.length_drop, List.length_map] at *; omega)
  k_with "call builtin:len" => k_dflt ((with_reducible refine' len_S ?zhz ?_); (case zhz => walk_at "mine size"))
  k_with "call builtin:ord" => k_dflt (with_reducible refine' ord_S ?_)
  k_with "call builtin:chr" => k_dflt (refine' chr_S (Int.natCast_add _ _).symm ?zhz ?_; (case zhz => omega))
  k_with "call builtin:len" => k_dflt (with_reducible refine' len_sg ?zhN ?zhH ?zhz ?_; (case zhN => k_asm); (case zhH => walk_at "mine H"); (case zhz => walk_at "mine size"))
  k_with "mine slen" => (simp only [S_fffd, S_len, S_nil, List.length_append, List.length_cons, List.length_nil, sizeLine]; omega)
  k_with "binaryOp Add str str" => k_dflt (refine' PyProof.Rows.add_str ?_ ?zhz9; (case zhz9 => walk_at "mine slen"); intro _ _)
  k_with "mine news" => first | k_asm | exact News.ofCons (by assumption)
  k_with "mine for" => ((rename Fr _ _ _ _ => lF'); (with_unfolding_all refine' For_invVF lF' ?zhk1 ?zhk2 ?_; (case zhk1 => exact rfl); (case zhk2 => exact rfl)))
  k_with "mine name" => k_dflt ((refine' nameX_L ?zhF ?zhv ?_ ?zha ?zhb ?zhc); (case zhF => k_asm); (case zha => rfl); (case zhb => rfl); (case zhv => rfl); (case zhc => decide))
  k_with "mine locs" => ((repeat' (refine List.forall_mem_cons.mpr ⟨rfl, ?_⟩)); exact fun _ h => nomatch h)
  k_with "subscriptTail" => k_dflt ((with_reducible show wpAny _ _ (subscriptTail _ _ (Value.ref (TA.sg _)) (Value.int _ _)) _ _ _); refine' item_sg ?zhN ?zhH ?zhe ?zhhi ?zhz ?_; (case zhN => k_asm); (case zhH => walk_at "mine H"); (case zhe => first | exact rfl | exact (Int.natCast_add _ _).symm); (case zhhi => (try dsimp only at *); omega); (case zhz => walk_at "mine size"); intro c9 u9 hc9)
  k_with "subscriptTail" => k_dflt ((with_reducible show wpAny _ _ (subscriptTail _ _ (Value.str _ _) (Value.int _ _)) _ _ _); refine' item_S ?zhhi ?zhz ?_; (case zhhi => (try dsimp only at *); omega); (case zhz => walk_at "mine size"); intro c9 u9 hc9)
  k_with "subscriptTail Name Name str int" => k_dflt ((with_reducible show wpAny _ _ (subscriptTail _ _ (Value.str _ _) (Value.int _ _)) _ _ _); refine' item_S ?zhhi ?zhz ?_; (case zhhi => (try dsimp only at *); omega); (case zhz => walk_at "mine size"); intro c9 u9 hc9)
  trivial

variable {prog : Program} {w : World} {mean : ExcName → Option Value} {mg mb : Str → Option Value} {T : TA} {n0 : Led} {d : D} {dv : Value} {nx : Led}


noncomputable def DictMade (prog : Program) (w : World) (kvs : List (Str × Value)) (v : Value) (nx nx' : Led) : Prop := ∃ D o, v = .ref D ∧ nx' = (D, o) :: nx ∧ (D == sysModules) = false ∧ (∀ p ∈ nx, p.1 ≠ D) ∧ o.IsDictOf (PySem.strKind prog w) kvs
noncomputable def markKv : List (Str × Value) := [("markup declaration open", .ref 119), ("bogus comment", .ref 126)]
noncomputable def cdataKv : List (Str × Value) := [("CDATA section", .ref 140), ("CDATA section bracket", .ref 147), ("CDATA section end", .ref 154)]
theorem marks_ok : Claim prog w mean mg mb 2 133 nx [] (fun v nx' => DictMade prog w markKv v nx nx') := by
  unfold Claim
  intro dp un gd cn cs a ccd cl outer A₀ base h₀ L m s Q E B F X N Tp hk hd hu hret
  refine wpAny_call ?_
  k_dflt cell_enter
  walk_at "mine steps"
  all_goals (refine hret _ _ _ _ ⟨_, _, rfl, rfl, ?_, ?_, ?_⟩ (by k_asm) (by k_asm))
  · assumption
  · first | (intro p hp; exact Nat.ne_of_lt (‹∀ (p : Addr × Obj), p ∈ nx → p.1 < _› p hp)) | (intro p hp; trace_state; exact Nat.ne_of_lt (Heap.lt_size (‹News _ _ _ _› p hp).1))
  · assumption
theorem cdatas_ok : Claim prog w mean mg mb 2 161 nx [] (fun v nx' => DictMade prog w cdataKv v nx nx') := by
  unfold Claim
  intro dp un gd cn cs a ccd cl outer A₀ base h₀ L m s Q E B F X N Tp hk hd hu hret
  refine wpAny_call ?_
  k_dflt cell_enter
  walk_at "mine steps"
  all_goals (refine hret _ _ _ _ ⟨_, _, rfl, rfl, ?_, ?_, ?_⟩ (by k_asm) (by k_asm))
  · assumption
  · first | (intro p hp; exact Nat.ne_of_lt (‹∀ (p : Addr × Obj), p ∈ nx → p.1 < _› p hp)) | (intro p hp; trace_state; exact Nat.ne_of_lt (Heap.lt_size (‹News _ _ _ _› p hp).1))
  · assumption

end E1

section D3a
open PySem PySem.W PyProof.Rows PySem.Calls
set_option maxRecDepth 100000
set_option maxHeartbeats 4000000
theorem lines_D3a_1 : True := by
  w_top off
  k_with_none
  k_with "execs cons" => k_fold
  k_with "exec If" => k_fold
  k_with "exec Assign" => k_fold
  k_with "exec Expr" => k_fold
  k_with "exec Return" => k_fold
  k_with "callWith" => k_fold
  k_with "call ref" => k_fold
  k_with "mine steps" => repeat' ((fail_if_success (with_reducible show wpAny _ _ (pyIter _) _ _ _)); (fail_if_success (with_reducible show wpAny _ _ (exec (Stmt.For _ (Expr.Name _ _) _ _ _) _) _ _ _)); first | (k_unfold; (try dsimp only)) | walk1 | (dsimp only; walk1) | (leave1; (try dsimp only)))
  k_with "mine H" => (first | (with_reducible assumption) | (with_reducible refine' TokX.cons1 ?zhhh; (case zhhh => with_reducible assumption)) | (with_reducible refine' TokX.cons2 ?zhhh; (case zhhh => with_reducible assumption)) | (with_reducible refine' TokX.cons3 ?zhhh; (case zhhh => with_reducible assumption)))
  k_with "mine row" => (first | (with_reducible assumption) | (apply RowIs.of; k_mem; (repeat' constructor); done))
  k_with "mine HD" => (first | (with_reducible assumption) | (exact TokX.dr (by with_reducible assumption) rfl) | (exact TokX.dr (by with_reducible assumption) (by with_reducible assumption)) | (exact DraftAt.keepA (by with_reducible assumption) (by with_reducible assumption)) | (exact TokX.dr (by with_reducible assumption) (by assumption)))
  k_with "mine fxnh" => ((case zhF => k_asm); (case zhX => k_asm); (case zhN => k_asm); (case zhH => walk_at "mine H"))
  k_with "getAttr ref" => k_dflt (first | (with_reducible refine' get_at ?zhF ?zhX ?zhN ?zhH ?_; walk_at "mine fxnh"; intro _) | (with_reducible refine' get_stream ?zhF ?zhX ?zhN ?zhH ?_; walk_at "mine fxnh") | (with_reducible refine' get_signs ?zhF ?zhX ?zhN ?zhH ?_; walk_at "mine fxnh") | (with_reducible refine' get_out ?zhF ?zhX ?zhN ?zhH ?_; walk_at "mine fxnh") | (with_reducible refine' get_errors ?zhF ?zhX ?zhN ?zhH ?_; walk_at "mine fxnh") | (with_reducible refine' get_draft ?zhF ?zhX ?zhN ?zhH ?_; walk_at "mine fxnh") | (with_reducible refine' get_state ?zhF ?zhX ?zhN ?zhH ?_; walk_at "mine fxnh"; intro _) | (with_reducible refine' get_states ?zhF ?zhX ?zhN ?zhH ?_; walk_at "mine fxnh") | (with_reducible refine' get_waiting ?zhF ?zhX ?zhN ?zhH ?_; walk_at "mine fxnh") | (with_reducible refine' get_done ?zhF ?zhX ?zhN ?zhH ?_; walk_at "mine fxnh") | (with_reducible refine' get_foreign ?zhF ?zhX ?zhN ?zhH ?_; walk_at "mine fxnh") | (with_reducible refine' get_last ?zhF ?zhX ?zhN ?zhH ?_; walk_at "mine fxnh"; intro _) | (with_reducible refine' get_closed ?zhF ?zhX ?zhN ?zhH ?_; walk_at "mine fxnh") | (with_reducible refine' get_return ?zhF ?zhX ?zhN ?zhH ?_; walk_at "mine fxnh") | (with_reducible refine' get_serr ?zhF ?zhX ?zhN ?zhH ?_; walk_at "mine fxnh") | (with_reducible refine' getd_text ?zhF ?zhX ?zhN ?zhH ?_; (case zhF => k_asm); (case zhX => k_asm); (case zhN => k_asm); (case zhH => walk_at "mine HD"); intro _) | (with_reducible refine' getd_kind ?zhF ?zhX ?zhN ?zhH ?_; (case zhF => k_asm); (case zhX => k_asm); (case zhN => k_asm); (case zhH => walk_at "mine HD"); intro _))
  k_with "setAttr ref" => k_dflt (first | (with_reducible refine' set_state ?zhF ?zhX ?zhN ?zhH ?_; walk_at "mine fxnh"; intro _ _ _ _ _ _) | (with_reducible refine' set_waiting ?zhF ?zhX ?zhN ?zhH ?_; walk_at "mine fxnh"; intro _ _ _ _ _ _) | (with_reducible refine' set_done ?zhF ?zhX ?zhN ?zhH ?_; walk_at "mine fxnh"; intro _ _ _ _ _ _) | (with_reducible refine' set_foreign ?zhF ?zhX ?zhN ?zhH ?_; walk_at "mine fxnh"; intro _ _ _ _ _ _) | (with_reducible refine' set_closed ?zhF ?zhX ?zhN ?zhH ?_; walk_at "mine fxnh"; intro _ _ _ _ _ _) | (with_reducible refine' set_return ?zhF ?zhX ?zhN ?zhH ?_; walk_at "mine fxnh"; intro _ _ _ _ _ _) | (with_reducible refine' set_draft_none ?zhF ?zhX ?zhN ?zhH ?_; walk_at "mine fxnh"; intro _ _ _ _ _ _) | (with_reducible refine' set_draft ?zhF ?zhX ?zhN ?zhH ?zhhy ?_; walk_at "mine fxnh"; (case zhhy => with_reducible assumption); intro _ _ _ _ _ _) | (with_reducible refine' setd_text ?zhF ?zhX ?zhN ?zhH ?zhhd ?zhhy ?_; walk_at "mine fxnh"; (case zhhd => first | with_reducible assumption | rfl); (case zhhy => first | exact rfl | exact S_app _ _ | (rw [S_fffd]; exact S_app _ _)); intro _ _ _ _ _) | ((with_reducible show wpAny _ _ (setAttr (Value.ref (TA.t _)) (PySem.Str.ofString "at") _) _ _ _); refine' set_at ?zhF ?zhX ?zhN ?zhH (Int.natCast_add _ _).symm ?_; walk_at "mine fxnh"; intro _ _ _ _ _ _) | ((with_reducible show wpAny _ _ (setAttr (Value.ref (TA.t _)) (PySem.Str.ofString "at") _) _ _ _); refine' set_at ?zhF ?zhX ?zhN ?zhH (cast_pred ?zhp) ?_; walk_at "mine fxnh"; (case zhp => first | with_reducible assumption | omega); intro _ _ _ _ _ _) | ((with_reducible show wpAny _ _ (setAttr (Value.ref (TA.t _)) (PySem.Str.ofString "at") _) _ _ _); refine' set_at ?zhF ?zhX ?zhN ?zhH (Eq.refl (Nat.cast _)) ?_; walk_at "mine fxnh"; intro _ _ _ _ _ _))
  k_with "getMethod ref" => k_dflt (first | ((with_reducible show wpAny _ _ (getMethod (Value.ref (TA.t _)) _ _) _ _ _); refine' tok_method ?zhF ?zhX ?zhN ?zhH ?zhg ?zhf ?zht ?zhl ?_; walk_at "mine fxnh"; (case zhg => k_dflt k_is); (case zhf => k_dflt k_is); (case zht => k_dflt k_is); (case zhl => intro _; rfl)) | ((with_reducible show wpAny _ _ (getMethod (Value.ref (TA.st _)) _ _) _ _ _); refine' str_method ?zhF ?zhX ?zhN ?zhH ?zhg ?zhf ?zht ?zhl ?_; walk_at "mine fxnh"; (case zhg => k_dflt k_is); (case zhf => k_dflt k_is); (case zht => k_dflt k_is); (case zhl => intro _; rfl)) | (refine' dr_method ?zhF ?zhX ?zhN ?zhH ?zhg ?zhf ?zht ?zhl ?_; (case zhF => k_asm); (case zhX => k_asm); (case zhN => k_asm); (case zhH => walk_at "mine HD"); (case zhg => k_dflt k_is); (case zhf => k_dflt k_is); (case zht => k_dflt k_is); (case zhl => intro _ _ _; rfl)) | ((with_reducible show wpAny _ _ (getMethod (Value.ref (TA.er _)) _ _) _ _ _); refine' app_method_er ?zhN ?zhH ?_; (case zhN => k_asm); (case zhH => walk_at "mine H")) | ((with_reducible show wpAny _ _ (getMethod (Value.ref (TA.ou _)) _ _) _ _ _); refine' app_method_ou ?zhN ?zhH ?_; (case zhN => k_asm); (case zhH => walk_at "mine H")) | ((with_reducible show wpAny _ _ (getMethod (Value.ref (TA.se _)) _ _) _ _ _); refine' app_method_se ?zhN ?zhH ?_; (case zhN => k_asm); (case zhH => walk_at "mine H")) | ((with_reducible show wpAny _ _ (getMethod (Value.ref (TA.sg _)) _ _) _ _ _); refine' app_method_sg ?zhN ?zhH ?_; (case zhN => k_asm); (case zhH => walk_at "mine H")))
  k_with "call builtin:list.append" => k_dflt (first | ((with_reducible show wpAny _ _ (call _ [Value.ref (TA.er _), _]) _ _ _); refine' app_er ?zhF ?zhN ?zhH ?zhr ?zhz ?_; (case zhF => k_asm); (case zhN => k_asm); (case zhH => walk_at "mine H"); (case zhr => walk_at "mine row"); (case zhz => walk_at "mine size"); intro _ _ _ _ _ _) | ((with_reducible show wpAny _ _ (call _ [Value.ref (TA.ou _), _]) _ _ _); refine' app_ou ?zhF ?zhN ?zhH ?zhr ?zhz ?_; (case zhF => k_asm); (case zhN => k_asm); (case zhH => walk_at "mine H"); (case zhr => walk_at "mine row"); (case zhz => walk_at "mine size"); intro _ _ _ _ _ _) | ((with_reducible show wpAny _ _ (call _ [Value.ref (TA.se _), _]) _ _ _); refine' app_se ?zhF ?zhN ?zhH ?zhr ?zhz ?_; (case zhF => k_asm); (case zhN => k_asm); (case zhH => walk_at "mine H"); (case zhr => walk_at "mine row"); (case zhz => walk_at "mine size"); intro _ _ _ _ _ _) | ((with_reducible show wpAny _ _ (call _ [Value.ref (TA.sg _), _]) _ _ _); refine' app_sg ?zhF ?zhN ?zhH ?zhhx ?zhz ?_; (case zhF => k_asm); (case zhN => k_asm); (case zhH => walk_at "mine H"); (case zhhx => first | exact S_nl | exact rfl); (case zhz => walk_at "mine size"); intro _ _ _ _ _ _))
  k_with "mine size" => first | with_reducible assumption | ((try dsimp only at *); omega) | ((try dsimp only at *); simp only [List.length_append, List.length_cons, List.length_nil, List.length_take, List.length_drop, List.length_map] at *; omega)
  k_with "call builtin:len" => k_dflt ((with_reducible refine' len_S ?zhz ?_); (case zhz => walk_at "mine size"))
  k_with "call builtin:ord" => k_dflt (with_reducible refine' ord_S ?_)
  k_with "call builtin:chr" => k_dflt (refine' chr_S (Int.natCast_add _ _).symm ?zhz ?_; (case zhz => omega))
  k_with "call builtin:len" => k_dflt (with_reducible refine' len_sg ?zhN ?zhH ?zhz ?_; (case zhN => k_asm); (case zhH => walk_at "mine H"); (case zhz => walk_at "mine size"))
  k_with "mine slen" => (simp only [S_fffd, S_len, S_nil, List.length_append, List.length_cons, List.length_nil, sizeLine]; omega)
  k_with "binaryOp Add str str" => k_dflt (refine' PyProof.Rows.add_str ?_ ?zhz9; (case zhz9 => walk_at "mine slen"); intro _ _)
  k_with "mine news" => first | k_asm | exact News.ofCons (by assumption)
  k_with "mine for" => ((rename Fr _ _ _ _ => lF'); (with_unfolding_all refine' For_invVF lF' ?zhk1 ?zhk2 ?_; (case zhk1 => exact rfl); (case zhk2 => exact rfl)))
  k_with "mine name" => k_dflt ((refine' nameX_L ?zhF ?zhv ?_ ?zha ?zhb ?zhc); (case zhF => k_asm); (case zha => rfl); (case zhb => rfl); (case zhv => rfl); (case zhc => decide))
  k_with "mine locs" => ((repeat' (refine List.forall_mem_cons.mpr ⟨rfl, ?_⟩)); exact fun _ h => nomatch h)
  k_with "subscriptTail" => k_dflt ((with_reducible show wpAny _ _ (subscriptTail _ _ (Value.ref (TA.sg _)) (Value.int _ _)) _ _ _); refine' item_sg ?zhN ?zhH ?zhe ?zhhi ?zhz ?_; (case zhN => k_asm); (case zhH => walk_at "mine H"); (case zhe => first | exact rfl | exact (Int.natCast_add _ _).symm); (case zhhi => (try dsimp only at *); omega); (case zhz => walk_at "mine size"); intro c9 u9 hc9)
  k_with "subscriptTail" => k_dflt ((with_reducible show wpAny _ _ (subscriptTail _ _ (Value.str _ _) (Value.int _ _)) _ _ _); refine' item_S ?zhhi ?zhz ?_; (case zhhi => (try dsimp only at *); omega); (case zhz => walk_at "mine size"); intro c9 u9 hc9)
  k_with "subscriptTail Name Name str int" => k_dflt ((with_reducible show wpAny _ _ (subscriptTail _ _ (Value.str _ _) (Value.int _ _)) _ _ _); refine' item_S ?zhhi ?zhz ?_; (case zhhi => (try dsimp only at *); omega); (case zhz => walk_at "mine size"); intro c9 u9 hc9)
  trivial

variable {prog : Program} {w : World} {mean : ExcName → Option Value} {mg mb : Str → Option Value} {T : TA} {n0 : Led} {d : D} {dv : Value} {nx : Led}

section
variable {A : Around} {E : Value → Shared → Prop} {s : Shared} {Q : Value → Shared → Prop} {t u : Tok}
theorem pow320 (h : ∀ k t', Q (.int 3486784401 t') { s with toks := k }) : wpAny (model prog w) A (binaryOp .Pow (.int 3 t) (.int 20 u)) Q E s := by
  refine pow_int_small (by decide) (by decide) (by decide) ?_
  have e : (3 : Int) ^ (20 : Int).toNat = 3486784401 := by decide +kernel
  rw [e]; exact h _ _
theorem sub_any {a b : Int} (h : ∀ k t', Q (.int (a - b) t') { s with toks := k }) : wpAny (model prog w) A (binaryOp .Sub (.int a t) (.int b u)) Q E s := sub_int' (h _ _)
theorem half_any {a : Int} (h : ∀ k t', Q (.int (a.fdiv 2) t') { s with toks := k }) : wpAny (model prog w) A (binaryOp .FloorDiv (.int a t) (.int 2 u)) Q E s :=
  floordiv_int (by decide) (h _ _) (Or.inl (PyProof.noPylong_of_log2 (by decide +kernel)))
theorem mod_any {a b : Int} (hb : b ≠ 0) (h : ∀ k t', Q (.int (a.fmod b) t') { s with toks := k }) : wpAny (model prog w) A (binaryOp .Mod (.int a t) (.int b u)) Q E s := mod_int' hb (h _ _)
theorem add_S {a b : List Nat} (hz : a.length + b.length ≤ 1000) (h : ∀ k t', Q (.str (S (a ++ b)) t') { s with toks := k }) : wpAny (model prog w) A (binaryOp .Add (.str (S a) t) (.str (S b) u)) Q E s := by
  refine PyProof.Rows.add_str ?_ ?z9
  case z9 => walk_at "mine slen"
  intro t' k
  rw [show S a ++ S b = S (a ++ b) from S_app a b]; exact h _ _
end
theorem right_of {n0 : Led} {d d1 : D} {dv : Value} {raw : List Nat} {fo e : Bool} (u : Tok) (R : Ran fo e raw d d1) (hz : raw.length ≤ 100) (H : TokX w T n0 d dv nx) :
    Claim prog w mean mg mb 24 506 nx [.ref T.t, .str (S raw) u, .bool e, .bool fo] (fun v nx' => ∃ y, TokX w T n0 d1 y nx' ∧ v = .bool true) :=
  right_ok 400 d1 raw u e fo R.wf R.eq R.ready hz R.sg R.st R.sok R.seen R.ok R.dz H

theorem three_ints {a b c : Int} {t u x : Tok} {i : Nat} {v : Value} (h : [Value.int a t, Value.int b u, Value.int c x][i]? = some v) : ∃ z k, v = .int z k := by
  match i, h with
  | 0, h => cases h; exact ⟨_, _, rfl⟩
  | 1, h => cases h; exact ⟨_, _, rfl⟩
  | 2, h => cases h; exact ⟨_, _, rfl⟩
theorem sts_of {nx : Led} {a : Addr} {o : Obj} {p : Program} (h : o.IsDictOf (PySem.strKind p w) stsKv) (hm : (a, o) ∈ nx) (h0 : (a == sysModules) = false) : ∃ o, (a, o) ∈ nx ∧ StsOk w a o := ⟨o, hm, h0, p, h⟩
section
variable {A : Around} {E : Value → Shared → Prop} {s : Shared} {env : Env} {h₀ : Heap} {x : Str} {body : List Stmt} {Q : Flow → Shared → Prop} {m₀ : Str → Option Value} {nx : Led}
theorem cuts_loop {a sts : Addr} {k : Nat} {c1 c2 c3 : Int} {t1 t2 t3 : Tok} (ps : List (Str × Value)) (hh : A.handled = none) (F : Fr h₀ env.locals s.heap m₀) (N : News h₀ env.locals s.heap nx) (ha : (a, listOf [Value.int c1 t1, Value.int c2 t2, Value.int c3 t3].toArray k) ∈ nx) 
    (hm : ∀ p ∈ ps, m₀ p.1 = some p.2) (hs : ∃ o, (sts, o) ∈ nx ∧ StsOk w sts o)
    (turn : ∀ (QQ : Flow → Shared → Prop) I z u m₁ nx₁ h tk oI o, IterObj oI → (∀ p ∈ nx₁, p.1 ≠ I) → (sts, o) ∈ (I, oI) :: nx₁ → StsOk w sts o → Fr h₀ env.locals h (ovl ((x, .int z u) :: ps) m₁) → News h₀ env.locals h ((I, oI) :: nx₁) →
      (∀ (T : TA) d y h' tk' m' nx', T.sts = sts → (∀ p ∈ (I, oI) :: nx₁, p.1 ≠ sts → p.1 ∉ T.all) → TokX w T ((I, oI) :: nx₁) d y nx' → (∀ p ∈ ps, m' p.1 = some p.2) → Fr h₀ env.locals h' m' → News h₀ env.locals h' nx' → QQ .next { s with heap := h', toks := tk' }) →
      wpAny (model prog w) A (execs body env) QQ E { s with heap := h, toks := tk })
    (done : ∀ m₁ nx₁ h tk, (∀ p ∈ ps, m₁ p.1 = some p.2) → Fr h₀ env.locals h m₁ → News h₀ env.locals h nx₁ → Q .next { s with heap := h, toks := tk }) :
    wpAny (model prog w) A (pyIter (.ref a)) (fun it s₂ => LoopAtV prog w A h₀ env x body Q E it s₂) E s := by
  refine list_loop (fun _ m₁ nx₁ => (∀ p ∈ ps, m₁ p.1 = some p.2) ∧ ∃ o, (sts, o) ∈ nx₁ ∧ StsOk w sts o) hh ha F N ⟨hm, hs⟩ ?_ ?_
  · rintro I i v m₁ nx₁ h tk oI hi hit hne ha1 ⟨hm1, o, ho, hok⟩ F1 N1
    obtain ⟨z, u, rfl⟩ := three_ints hi
    refine turn _ I z u m₁ nx₁ h tk oI o hit hne (.tail _ ho) hok (Mine.Fr.turn F1 hm1) N1 ?_
    intro T d y h' tk' m' nx' hT hoff H hm' F' N'
    have hI : I ∉ T.all := hoff (I, oI) (.head _) (Ne.symm (hne _ ho))
    have haT : a ∉ T.all := hoff _ (.tail _ ha1) (fun e => by
      have := News.inj (a := a) N1 (.tail _ ha1) (.tail _ ((show a = sts from e) ▸ ho))
      have := congrArg Obj.cls this
      rw [hok.cls] at this
      exact absurd (show Value.type "list" = Value.type "dict" from this) (by decide))
    obtain ⟨hmI, H1⟩ := H.turn N' hit hI hne
    refine turnPost_next (nx' := dropA nx' I) F' (fun p hp => ?_) (fun p hp => (mem_dropA.mp hp).2) ?_ ⟨hm', ?_⟩
    · rcases List.mem_cons.mp hp with rfl | hp
      · exact N' _ hmI
      · exact N' _ (mem_dropA.mp hp).1
    · intro p hp
      rw [List.mem_singleton.mp hp]
      exact H1.keep _ ha1 haT (by show Value.type "list" ≠ Value.type "dict"; decide)
    · obtain ⟨kp, nd, ⟨σ, ks, m1, m2, m3, a1, a2, a3, a4, a5, a6, a7, a8, a9, b1, b2, b3, b4⟩, dr⟩ := H1
      rw [hT] at a9 m3
      exact ⟨ks, a9, m3⟩
  · rintro m₁ nx₁ h tk ⟨hm1, _⟩ F1 N1
    exact done m₁ nx₁ h tk hm1 F1 N1
theorem flat_take {ls : List (List Nat)} {i : Nat} {l : List Nat} (h : ls[i]? = some l) : (ls.take (i + 1)).flatten = (ls.take i).flatten ++ l := by
  rw [List.take_add_one, h]
  simp
theorem flat_le (ls : List (List Nat)) (i : Nat) : (ls.take i).flatten.length ≤ ls.flatten.length := by
  have := congrArg (fun x => (List.flatten x).length) (List.take_append_drop i ls)
  simp only [List.flatten_append, List.length_append] at this
  omega
theorem pieces_loop {Pc : Addr} {o : Obj} {b : Nat} {l : List Nat} {T : TA} {n0 : Led} {d : D} {dv : Value} {fo : Bool} {u0 : Tok} (ps : List (Str × Value)) (hpc : PcJ b l o) (hD : ∀ p ∈ nx, p.1 ≠ Pc) (hz : l.length ≤ 20) (hsg : InSG l) (hh : A.handled = none)
    (F : Fr h₀ env.locals s.heap m₀) (N : News h₀ env.locals s.heap ((Pc, o) :: nx)) (H : TokX w T n0 d dv nx) (V : Inv fo [] d) (hm : ∀ p ∈ ps, m₀ p.1 = some p.2) (hf : m₀ "fed" = some (.str (S []) u0))
    (turn : ∀ (QQ : Flow → Shared → Prop) I (raw l' : List Nat) u u' d y m₁ nx₁ h tk oI, IterObj oI → TokX w T ((I, oI) :: nx₁) d y ((I, oI) :: nx₁) → Inv fo raw d → raw.length + l'.length ≤ 20 → InSG l' →
      Fr h₀ env.locals h (ovl ((x, .str (S l') u') :: ("fed", .str (S raw) u) :: ps) m₁) → News h₀ env.locals h ((I, oI) :: nx₁) →
      (∀ d' y' u2 h' tk' m' nx', TokX w T ((I, oI) :: nx₁) d' y' nx' → Inv fo (raw ++ l') d' → (∀ p ∈ ps, m' p.1 = some p.2) → m' "fed" = some (.str (S (raw ++ l')) u2) → Fr h₀ env.locals h' m' → News h₀ env.locals h' nx' → QQ .next { s with heap := h', toks := tk' }) →
      wpAny (model prog w) A (execs body env) QQ E { s with heap := h, toks := tk })
    (done : ∀ (raw : List Nat) u d y m₁ nx₁ h tk, raw.length ≤ 20 → TokX w T n0 d y nx₁ → Inv fo raw d → (∀ p ∈ ps, m₁ p.1 = some p.2) → m₁ "fed" = some (.str (S raw) u) → Fr h₀ env.locals h m₁ → News h₀ env.locals h nx₁ → Q .next { s with heap := h, toks := tk }) :
    wpAny (model prog w) A (pyIter (.ref Pc)) (fun it s₂ => LoopAtV prog w A h₀ env x body Q E it s₂) E s := by
  obtain ⟨vs, ls, a, ua, n, rfl, hS, hfl, _⟩ := hpc
  have hS1 : StrsL (vs ++ [.str (S a) ua]) (ls ++ [a]) := hS.snoc
  have hflat : (ls ++ [a]).flatten = l := by rw [List.flatten_append]; simpa using hfl
  generalize vs ++ [Value.str (S a) ua] = vs9 at *
  generalize ls ++ [a] = ls9 at *
  have hDT : Pc ∉ T.all := fun h => by
    obtain ⟨o, ho⟩ := H.mem Pc h
    exact hD _ ho rfl
  refine list_loop (fun i m₁ nx₁ => (∀ p ∈ ps, m₁ p.1 = some p.2) ∧ ∃ u d y, m₁ "fed" = some (.str (S (ls9.take i).flatten) u) ∧ TokX w T n0 d y nx₁ ∧ Inv fo (ls9.take i).flatten d) hh (.head _) F N ⟨hm, u0, d, dv, hf, H.cons1, V⟩ ?_ ?_
  · rintro I i v m₁ nx₁ h tk oI hi hit hne ha1 ⟨hm1, u, d1, y, hf1, H1, V1⟩ F1 N1
    obtain ⟨l', u', hl', rfl⟩ := hS1.get hi
    have he := flat_take hl'
    have hle := flat_le ls9 (i + 1)
    rw [he, List.length_append, hflat] at hle
    have hsg' : InSG l' := fun c hc => hsg c (by
      rw [← hflat]
      exact List.mem_flatten.mpr ⟨l', List.mem_of_getElem? hl', hc⟩)
    refine turn _ I _ l' u u' d1 y m₁ nx₁ h tk oI hit H1.cons1.rebase V1 (by omega) hsg' (Mine.Fr.turn F1 (List.forall_mem_cons.mpr ⟨hf1, hm1⟩)) N1 ?_
    intro d' y' u2 h' tk' m' nx' H' V' hm' hf' F' N'
    refine turnPost_tok F' N' hit hne H1 H' (fun p hp => ?_) fun Hn => ⟨hm', u2, d', y', ?_, Hn, ?_⟩
    · rw [List.mem_singleton.mp hp]
      exact mem_dropA.mpr ⟨H'.keep _ (.tail _ ha1) hDT (by show Value.type "list" ≠ Value.type "dict"; decide), hne _ ha1⟩
    · rw [he]; exact hf'
    · rw [he]; exact V'
  · rintro m₁ nx₁ h tk ⟨hm1, u, d1, y, hf1, H1, V1⟩ F1 N1
    have hle := flat_le ls9 vs9.length
    rw [hflat] at hle
    exact done _ u d1 y m₁ nx₁ h tk (by omega) H1 V1 hm1 hf1 F1 N1
end
theorem Inv.start0 (fo : Bool) : Inv fo [] { d0 with foreign := fo } := Inv.start fo

end D3a

section D3
open PySem PySem.W PyProof.Rows PySem.Calls
set_option maxRecDepth 100000
set_option maxHeartbeats 4000000
theorem lines_D3_1 : True := by
  w_top off
  k_with_none
  k_with "execs cons" => k_fold
  k_with "exec If" => k_fold
  k_with "exec Assign" => k_fold
  k_with "exec Expr" => k_fold
  k_with "exec Return" => k_fold
  k_with "callWith" => k_fold
  k_with "call ref" => k_fold
  k_with "mine steps" => repeat' ((fail_if_success (with_reducible show wpAny _ _ (pyIter _) _ _ _)); (fail_if_success (with_reducible show wpAny _ _ (exec (Stmt.For _ (Expr.Name _ _) _ _ _) _) _ _ _)); first | (k_unfold; (try dsimp only)) | walk1 | (dsimp only; walk1) | (leave1; (try dsimp only)))
  k_with "mine H" => (first | (with_reducible assumption) | (with_reducible refine' TokX.cons1 ?zhhh; (case zhhh => with_reducible assumption)) | (with_reducible refine' TokX.cons2 ?zhhh; (case zhhh => with_reducible assumption)) | (with_reducible refine' TokX.cons3 ?zhhh; (case zhhh => with_reducible assumption)))
  k_with "mine row" => (first | (with_reducible assumption) | (apply RowIs.of; k_mem; (repeat' constructor); done))
  k_with "mine HD" => (first | (with_reducible assumption) | (exact TokX.dr (by with_reducible assumption) rfl) | (exact TokX.dr (by with_reducible assumption) (by with_reducible assumption)) | (exact DraftAt.keepA (by with_reducible assumption) (by with_reducible assumption)) | (exact TokX.dr (by with_reducible assumption) (by assumption)))
  k_with "mine fxnh" => ((case zhF => k_asm); (case zhX => k_asm); (case zhN => k_asm); (case zhH => walk_at "mine H"))
  k_with "getAttr ref" => k_dflt (first | (with_reducible refine' get_at ?zhF ?zhX ?zhN ?zhH ?_; walk_at "mine fxnh"; intro _) | (with_reducible refine' get_stream ?zhF ?zhX ?zhN ?zhH ?_; walk_at "mine fxnh") | (with_reducible refine' get_signs ?zhF ?zhX ?zhN ?zhH ?_; walk_at "mine fxnh") | (with_reducible refine' get_out ?zhF ?zhX ?zhN ?zhH ?_; walk_at "mine fxnh") | (with_reducible refine' get_errors ?zhF ?zhX ?zhN ?zhH ?_; walk_at "mine fxnh") | (with_reducible refine' get_draft ?zhF ?zhX ?zhN ?zhH ?_; walk_at "mine fxnh") | (with_reducible refine' get_state ?zhF ?zhX ?zhN ?zhH ?_; walk_at "mine fxnh"; intro _) | (with_reducible refine' get_states ?zhF ?zhX ?zhN ?zhH ?_; walk_at "mine fxnh") | (with_reducible refine' get_waiting ?zhF ?zhX ?zhN ?zhH ?_; walk_at "mine fxnh") | (with_reducible refine' get_done ?zhF ?zhX ?zhN ?zhH ?_; walk_at "mine fxnh") | (with_reducible refine' get_foreign ?zhF ?zhX ?zhN ?zhH ?_; walk_at "mine fxnh") | (with_reducible refine' get_last ?zhF ?zhX ?zhN ?zhH ?_; walk_at "mine fxnh"; intro _) | (with_reducible refine' get_closed ?zhF ?zhX ?zhN ?zhH ?_; walk_at "mine fxnh") | (with_reducible refine' get_return ?zhF ?zhX ?zhN ?zhH ?_; walk_at "mine fxnh") | (with_reducible refine' get_serr ?zhF ?zhX ?zhN ?zhH ?_; walk_at "mine fxnh") | (with_reducible refine' getd_text ?zhF ?zhX ?zhN ?zhH ?_; (case zhF => k_asm); (case zhX => k_asm); (case zhN => k_asm); (case zhH => walk_at "mine HD"); intro _) | (with_reducible refine' getd_kind ?zhF ?zhX ?zhN ?zhH ?_; (case zhF => k_asm); (case zhX => k_asm); (case zhN => k_asm); (case zhH => walk_at "mine HD"); intro _))
  k_with "setAttr ref" => k_dflt (first | (with_reducible refine' set_state ?zhF ?zhX ?zhN ?zhH ?_; walk_at "mine fxnh"; intro _ _ _ _ _ _) | (with_reducible refine' set_waiting ?zhF ?zhX ?zhN ?zhH ?_; walk_at "mine fxnh"; intro _ _ _ _ _ _) | (with_reducible refine' set_done ?zhF ?zhX ?zhN ?zhH ?_; walk_at "mine fxnh"; intro _ _ _ _ _ _) | (with_reducible refine' set_foreign ?zhF ?zhX ?zhN ?zhH ?_; walk_at "mine fxnh"; intro _ _ _ _ _ _) | (with_reducible refine' set_closed ?zhF ?zhX ?zhN ?zhH ?_; walk_at "mine fxnh"; intro _ _ _ _ _ _) | (with_reducible refine' set_return ?zhF ?zhX ?zhN ?zhH ?_; walk_at "mine fxnh"; intro _ _ _ _ _ _) | (with_reducible refine' set_draft_none ?zhF ?zhX ?zhN ?zhH ?_; walk_at "mine fxnh"; intro _ _ _ _ _ _) | (with_reducible refine' set_draft ?zhF ?zhX ?zhN ?zhH ?zhhy ?_; walk_at "mine fxnh"; (case zhhy => with_reducible assumption); intro _ _ _ _ _ _) | (with_reducible refine' setd_text ?zhF ?zhX ?zhN ?zhH ?zhhd ?zhhy ?_; walk_at "mine fxnh"; (case zhhd => first | with_reducible assumption | rfl); (case zhhy => first | exact rfl | exact S_app _ _ | (rw [S_fffd]; exact S_app _ _)); intro _ _ _ _ _) | ((with_reducible show wpAny _ _ (setAttr (Value.ref (TA.t _)) (PySem.Str.ofString "at") _) _ _ _); refine' set_at ?zhF ?zhX ?zhN ?zhH (Int.natCast_add _ _).symm ?_; walk_at "mine fxnh"; intro _ _ _ _ _ _) | ((with_reducible show wpAny _ _ (setAttr (Value.ref (TA.t _)) (PySem.Str.ofString "at") _) _ _ _); refine' set_at ?zhF ?zhX ?zhN ?zhH (cast_pred ?zhp) ?_; walk_at "mine fxnh"; (case zhp => first | with_reducible assumption | omega); intro _ _ _ _ _ _) | ((with_reducible show wpAny _ _ (setAttr (Value.ref (TA.t _)) (PySem.Str.ofString "at") _) _ _ _); refine' set_at ?zhF ?zhX ?zhN ?zhH (Eq.refl (Nat.cast _)) ?_; walk_at "mine fxnh"; intro _ _ _ _ _ _))
  k_with "getMethod ref" => k_dflt (first | ((with_reducible show wpAny _ _ (getMethod (Value.ref (TA.t _)) _ _) _ _ _); refine' tok_method ?zhF ?zhX ?zhN ?zhH ?zhg ?zhf ?zht ?zhl ?_; walk_at "mine fxnh"; (case zhg => k_dflt k_is); (case zhf => k_dflt k_is); (case zht => k_dflt k_is); (case zhl => intro _; rfl)) | ((with_reducible show wpAny _ _ (getMethod (Value.ref (TA.st _)) _ _) _ _ _); refine' str_method ?zhF ?zhX ?zhN ?zhH ?zhg ?zhf ?zht ?zhl ?_; walk_at "mine fxnh"; (case zhg => k_dflt k_is); (case zhf => k_dflt k_is); (case zht => k_dflt k_is); (case zhl => intro _; rfl)) | (refine' dr_method ?zhF ?zhX ?zhN ?zhH ?zhg ?zhf ?zht ?zhl ?_; (case zhF => k_asm); (case zhX => k_asm); (case zhN => k_asm); (case zhH => walk_at "mine HD"); (case zhg => k_dflt k_is); (case zhf => k_dflt k_is); (case zht => k_dflt k_is); (case zhl => intro _ _ _; rfl)) | ((with_reducible show wpAny _ _ (getMethod (Value.ref (TA.er _)) _ _) _ _ _); refine' app_method_er ?zhN ?zhH ?_; (case zhN => k_asm); (case zhH => walk_at "mine H")) | ((with_reducible show wpAny _ _ (getMethod (Value.ref (TA.ou _)) _ _) _ _ _); refine' app_method_ou ?zhN ?zhH ?_; (case zhN => k_asm); (case zhH => walk_at "mine H")) | ((with_reducible show wpAny _ _ (getMethod (Value.ref (TA.se _)) _ _) _ _ _); refine' app_method_se ?zhN ?zhH ?_; (case zhN => k_asm); (case zhH => walk_at "mine H")) | ((with_reducible show wpAny _ _ (getMethod (Value.ref (TA.sg _)) _ _) _ _ _); refine' app_method_sg ?zhN ?zhH ?_; (case zhN => k_asm); (case zhH => walk_at "mine H")))
  k_with "call builtin:list.append" => k_dflt (first | ((with_reducible show wpAny _ _ (call _ [Value.ref (TA.er _), _]) _ _ _); refine' app_er ?zhF ?zhN ?zhH ?zhr ?zhz ?_; (case zhF => k_asm); (case zhN => k_asm); (case zhH => walk_at "mine H"); (case zhr => walk_at "mine row"); (case zhz => walk_at "mine size"); intro _ _ _ _ _ _) | ((with_reducible show wpAny _ _ (call _ [Value.ref (TA.ou _), _]) _ _ _); refine' app_ou ?zhF ?zhN ?zhH ?zhr ?zhz ?_; (case zhF => k_asm); (case zhN => k_asm); (case zhH => walk_at "mine H"); (case zhr => walk_at "mine row"); (case zhz => walk_at "mine size"); intro _ _ _ _ _ _) | ((with_reducible show wpAny _ _ (call _ [Value.ref (TA.se _), _]) _ _ _); refine' app_se ?zhF ?zhN ?zhH ?zhr ?zhz ?_; (case zhF => k_asm); (case zhN => k_asm); (case zhH => walk_at "mine H"); (case zhr => walk_at "mine row"); (case zhz => walk_at "mine size"); intro _ _ _ _ _ _) | ((with_reducible show wpAny _ _ (call _ [Value.ref (TA.sg _), _]) _ _ _); refine' app_sg ?zhF ?zhN ?zhH ?zhhx ?zhz ?_; (case zhF => k_asm); (case zhN => k_asm); (case zhH => walk_at "mine H"); (case zhhx => first | exact S_nl | exact rfl); (case zhz => walk_at "mine size"); intro _ _ _ _ _ _))
  k_with "mine size" => first | with_reducible assumption | ((try dsimp only at *); omega) | ((try dsimp only at *); simp only [List.length_append, List.length_cons, List.length_nil, List.length_take, List.length_drop, List.length_map] at *; omega)
  k_with "call builtin:len" => k_dflt ((with_reducible refine' len_S ?zhz ?_); (case zhz => walk_at "mine size"))
  k_with "call builtin:ord" => k_dflt (with_reducible refine' ord_S ?_)
  k_with "call builtin:chr" => k_dflt (refine' chr_S (Int.natCast_add _ _).symm ?zhz ?_; (case zhz => omega))
  k_with "call builtin:len" => k_dflt (with_reducible refine' len_sg ?zhN ?zhH ?zhz ?_; (case zhN => k_asm); (case zhH => walk_at "mine H"); (case zhz => walk_at "mine size"))
  k_with "mine slen" => (simp only [S_fffd, S_len, S_nil, List.length_append, List.length_cons, List.length_nil, sizeLine]; omega)
  k_with "binaryOp Add str str" => k_dflt (refine' PyProof.Rows.add_str ?_ ?zhz9; (case zhz9 => walk_at "mine slen"); intro _ _)
  k_with "mine news" => first | k_asm | exact News.ofCons (by assumption)
  k_with "mine for" => ((rename Fr _ _ _ _ => lF'); (with_unfolding_all refine' For_invVF lF' ?zhk1 ?zhk2 ?_; (case zhk1 => exact rfl); (case zhk2 => exact rfl)))
  k_with "mine name" => k_dflt ((refine' nameX_L ?zhF ?zhv ?_ ?zha ?zhb ?zhc); (case zhF => k_asm); (case zha => rfl); (case zhb => rfl); (case zhv => rfl); (case zhc => decide))
  k_with "mine locs" => ((repeat' (refine List.forall_mem_cons.mpr ⟨rfl, ?_⟩)); exact fun _ h => nomatch h)
  k_with "subscriptTail" => k_dflt ((with_reducible show wpAny _ _ (subscriptTail _ _ (Value.ref (TA.sg _)) (Value.int _ _)) _ _ _); refine' item_sg ?zhN ?zhH ?zhe ?zhhi ?zhz ?_; (case zhN => k_asm); (case zhH => walk_at "mine H"); (case zhe => first | exact rfl | exact (Int.natCast_add _ _).symm); (case zhhi => (try dsimp only at *); omega); (case zhz => walk_at "mine size"); intro c9 u9 hc9)
  k_with "subscriptTail" => k_dflt ((with_reducible show wpAny _ _ (subscriptTail _ _ (Value.str _ _) (Value.int _ _)) _ _ _); refine' item_S ?zhhi ?zhz ?_; (case zhhi => (try dsimp only at *); omega); (case zhz => walk_at "mine size"); intro c9 u9 hc9)
  k_with "subscriptTail Name Name str int" => k_dflt ((with_reducible show wpAny _ _ (subscriptTail _ _ (Value.str _ _) (Value.int _ _)) _ _ _); refine' item_S ?zhhi ?zhz ?_; (case zhhi => (try dsimp only at *); omega); (case zhz => walk_at "mine size"); intro c9 u9 hc9)
  trivial

set_option maxHeartbeats 2000000
variable {prog : Program} {w : World} {mean : ExcName → Option Value} {mg mb : Str → Option Value} {T : TA} {n0 : Led} {d : D} {dv : Value} {nx : Led}

theorem lines_D3_2 : True := by
  k_with "call ref" => ((with_reducible show wpAny _ _ (call (Value.ref 447) _) _ _ _); k_dflt (refine' ClaimS.use (digit_ok ?zhhi ?zhz _ _ ?zhh0 ?zhhp) ?zhB ?zhF ?zhX ?zhN ?zhT ?zhkk ?zhhl ?zhd ?zhu ?_; (case zhB => k_asm); (case zhF => k_asm); (case zhX => k_asm); (case zhN => k_asm); (case zhT => k_asm); (case zhkk => rfl); (case zhhl => assumption); (case zhhi => assumption); (case zhz => first | with_reducible assumption | assumption | omega); (case zhh0 => first | decide | omega); (case zhhp => first | decide | omega); (case zhd => ktr_room); (case zhu => ktr_units); rintro _ _ _ _ ⟨hn9, _, _, hv9⟩ _ _; replace hn9 := Eq.symm hn9; subst hn9; subst hv9))
  k_with "call ref" => ((with_reducible show wpAny _ _ (call (Value.ref 461) _) _ _ _); k_dflt (refine' ClaimS.use (text_ok ?zhhi ?zhz) ?zhB ?zhF ?zhX ?zhN ?zhT ?zhkk ?zhhl ?zhd ?zhu ?_; (case zhB => k_asm); (case zhF => k_asm); (case zhX => k_asm); (case zhN => k_asm); (case zhT => k_asm); (case zhkk => rfl); (case zhhl => assumption); (case zhhi => assumption); (case zhz => first | with_reducible assumption | assumption | omega); (case zhd => ktr_room); (case zhu => ktr_units); rintro _ _ _ _ ⟨hn9, _, _, hv9, _, _⟩ _ _; replace hn9 := Eq.symm hn9; subst hn9; subst hv9))
  k_with "call ref" => ((with_reducible show wpAny _ _ (call (Value.ref 133) _) _ _ _); k_dflt (refine' Claim.use (marks_ok) ?zhB ?zhF ?zhX ?zhN ?zhT ?zhkk ?zhd ?zhu ?_; (case zhB => k_asm); (case zhF => k_asm); (case zhX => k_asm); (case zhN => k_asm); (case zhT => k_asm); (case zhkk => rfl); (case zhd => ktr_room); (case zhu => ktr_units); rintro _ _ _ _ ⟨_, _, hv9, hn9, _, _, _⟩ _ _; replace hn9 := Eq.symm hn9; subst hn9; subst hv9))
  k_with "call ref" => ((with_reducible show wpAny _ _ (call (Value.ref 161) _) _ _ _); k_dflt (refine' Claim.use (cdatas_ok) ?zhB ?zhF ?zhX ?zhN ?zhT ?zhkk ?zhd ?zhu ?_; (case zhB => k_asm); (case zhF => k_asm); (case zhX => k_asm); (case zhN => k_asm); (case zhT => k_asm); (case zhkk => rfl); (case zhd => ktr_room); (case zhu => ktr_units); rintro _ _ _ _ ⟨_, _, hv9, hn9, _, hne9, _⟩ _ _; replace hn9 := Eq.symm hn9; subst hn9; subst hv9; (have hne8 := Nat.lt_or_gt_of_ne (hne9 _ (List.Mem.head _))); (dsimp only at hne8)))
  k_with "call ref" => ((with_reducible show wpAny _ _ (call (Value.ref 436) _) _ _ _); k_dflt (refine' Claim.use (tok_ok _ _ _ _ ?zhhs ?zhhok) ?zhB ?zhF ?zhX ?zhN ?zhT ?zhkk ?zhd ?zhu ?_; (case zhB => k_asm); (case zhF => k_asm); (case zhX => k_asm); (case zhN => k_asm); (case zhT => k_asm); (case zhkk => rfl); (case zhhs => first | with_reducible assumption | assumption); (case zhhok => first | with_reducible assumption | assumption); (case zhd => ktr_room); (case zhu => ktr_units); rintro _ _ _ _ ⟨_, hv9, _, _, _⟩ _ _; subst hv9))
  k_with "call ref" => ((with_reducible show wpAny _ _ (call (Value.ref 468) _) _ _ _); k_dflt (refine' Claim.use (pieces_ok _ _ _ _ ?zhz) ?zhB ?zhF ?zhX ?zhN ?zhT ?zhkk ?zhd ?zhu ?_; (case zhB => k_asm); (case zhF => k_asm); (case zhX => k_asm); (case zhN => k_asm); (case zhT => k_asm); (case zhkk => rfl); (case zhz => first | with_reducible assumption | assumption | omega); (case zhd => ktr_room); (case zhu => ktr_units); rintro _ _ _ _ ⟨_, _, hv9, hn9, _, _⟩ _ _; replace hn9 := Eq.symm hn9; subst hn9; subst hv9))
  k_with "call ref" => ((with_reducible show wpAny _ _ (call (Value.ref 299) _) _ _ _); k_dflt (refine' Claim.use (tfeed_ok _ _ ?zhc ?zhz ?zhs ?zhH) ?zhB ?zhF ?zhX ?zhN ?zhT ?zhkk ?zhd ?zhu ?_; (case zhB => k_asm); (case zhF => k_asm); (case zhX => k_asm); (case zhN => k_asm); (case zhT => k_asm); (case zhkk => rfl); (case zhc => first | with_reducible assumption | assumption); (case zhz => first | with_reducible assumption | assumption | omega); (case zhs => first | with_reducible assumption | assumption | omega); (case zhH => walk_at "mine H"); (case zhd => ktr_room); (case zhu => ktr_units); rintro _ _ _ _ ⟨_, hv9⟩ _ _; subst hv9))
  k_with "call ref" => ((with_reducible show wpAny _ _ (call (Value.ref 306) _) _ _ _); k_dflt (refine' Claim.use (tend_ok ?zhH) ?zhB ?zhF ?zhX ?zhN ?zhT ?zhkk ?zhd ?zhu ?_; (case zhB => k_asm); (case zhF => k_asm); (case zhX => k_asm); (case zhN => k_asm); (case zhT => k_asm); (case zhkk => rfl); (case zhH => walk_at "mine H"); (case zhd => ktr_room); (case zhu => ktr_units); rintro _ _ _ _ ⟨_, hv9⟩ _ _; subst hv9))
  k_with "call ref" => ((with_reducible show wpAny _ _ (call (Value.ref 506) _) _ _ _); k_dflt (refine' Claim.use (right_of _ ?zhR ?zhz ?zhH) ?zhB ?zhF ?zhX ?zhN ?zhT ?zhkk ?zhd ?zhu ?_; (case zhB => k_asm); (case zhF => k_asm); (case zhX => k_asm); (case zhN => k_asm); (case zhT => k_asm); (case zhkk => rfl); (case zhR => first | with_reducible assumption | assumption); (case zhz => first | with_reducible assumption | assumption | omega); (case zhH => walk_at "mine H"); (case zhd => ktr_room); (case zhu => ktr_units); rintro _ _ _ _ ⟨_, _, hv9⟩ _ _; subst hv9))
  k_with "law steps" => repeat' ((fail_if_success (with_reducible show wpAny _ _ (exec (Stmt.For _ _ _ _ _) _) _ _ _)); first | (k_unfold; (try dsimp only)) | walk1 | (dsimp only; walk1) | (leave1; (try dsimp only)))
  k_with "law call" => repeat' ((fail_if_success (with_reducible show wpAny _ _ (getMethod _ _ _) _ _ _)); (fail_if_success (with_reducible show wpAny _ _ (exec (Stmt.For _ _ _ _ _) _) _ _ _)); first | (k_unfold; (try dsimp only)) | walk1 | (dsimp only; walk1) | (leave1; (try dsimp only)))
  k_with "binaryOp Pow int int" => k_dflt (refine' pow320 ?_; intro _ _)
  k_with "binaryOp Sub int int" => k_dflt (refine' sub_any ?_; intro _ _)
  k_with "binaryOp FloorDiv int int" => k_dflt (refine' half_any ?_; intro _ _)
  k_with "binaryOp Mod int int" => k_dflt (refine' mod_any ?zhb ?_; (case zhb => decide); intro _ _)
  k_with "binaryOp Add str str" => k_dflt (refine' add_S ?zhz ?_; (case zhz => first | assumption | omega); intro _ _)
  trivial


theorem law_right : PySem.Challenge.rw_nt0603_01.Holds := Mine.hd (by w_strict (
  k_go0
  (all_goals try k_fold)
  walk_at "law steps"
  (rename Fr _ _ _ _ => lF')
  with_unfolding_all refine' For_turns lF' ?_
  refine MethodCall_ ?_
  walk_at "law call"
  (rename Fr _ _ _ _ => lF2)
  (rename News _ _ _ _ => lN2)
  refine kdl_method (knd := PySem.strKind _ _) PySem.F.slot_dict_items PySem.F.type_dict_items lN2 (by k_mem) (by k_asm) ?_
  refine callWith_method0 ?_
  refine kta_callItems (knd := PySem.strKind _ _) lF2 lN2 (by k_mem) (by k_asm) (by k_asm) ?_
  intro h' hv' F' N'
  refine kta_items (knd := PySem.strKind _ _) (enc := PyData.str) (xs := [Itm.pair (fun t => Value.str (Str.ofString "CDATA section") t) (.ref 140), Itm.pair (fun t => Value.str (Str.ofString "CDATA section bracket") t) (.ref 147), Itm.pair (fun t => Value.str (Str.ofString "CDATA section end") t) (.ref 154)]) (by rfl) F' N' hv' (by k_mem) (by k_asm) (fun _ _ h => Value.isStrOf_shape h) (by rfl) ?_
  intro i' l1
  (try k_lt l1)
  clear lF2 lN2 F' N' lF' hv'
  walk1
  k_dflt (refine' unpackN_ ?F ?N ?T ?k1 ?k2 ?k3 ?_; (case F => k_asm); (case N => k_asm); (case T => assumption); (case k1 => exact rfl); (case k2 => exact rfl); (case k3 => exact rfl))
  intro h' F' N'
  (try k_sweep)
  walk_at "law steps"
  walk_at "mine for"
  walk_at "mine steps"
  refine' cuts_loop [("text", .str (S _) _), ("is_foreign", .bool _), ("states", .ref _)] rfl (by k_asm) (by k_asm) (by k_mem) (by walk_at "mine locs") (sts_of (by assumption) (by k_mem) (by assumption)) ?turn ?done
  case turn =>
    intro QQ I z u m1 nx1 h tk oI o hit hne ho hok F1 N1 hq
    walk_at "law steps"
    walk_at "mine for"
    walk_at "mine steps"
    (rename PcJ _ _ _ => hpc)
    (rename TokX _ _ _ _ _ _ => HT)
    refine' pieces_loop [("text", .str (S _) _), ("is_foreign", .bool _), ("states", .ref _), ("t", .ref _)] hpc (by assumption) (by assumption) (by assumption) rfl (by k_asm) (by k_asm) HT (Inv.start0 _) (by walk_at "mine locs") (by rw [← S_nil]; rfl) ?turn2 ?done2
    case turn2 =>
      intro QQ2 I2 raw l' u1 u2 d1 y1 m2 nx2 h2 tk2 oI2 hit2 H2 V2 hz2 hsg2 F2 N2 hq2
      have hsz := V2.sizes (by omega)
      have hcl := V2.closed
      have hz3 : (raw ++ l').length ≤ 100 := by rw [List.length_append]; omega
      obtain ⟨R, V3⟩ := Inv.feed (l := l') V2 hz3 hsg2
      walk_at "mine steps"
      refine' hq2 _ _ _ _ _ _ _ (by with_reducible assumption) V3 ?hm9 ?hf9 (by k_asm) (by k_asm)
      case hm9 => walk_at "mine locs"
      case hf9 => rfl
    case done2 =>
      intro raw u1 d1 y1 m2 nx2 h2 tk2 hz2 H2 V2 hm2 hf2 F2 N2
      have F3 := Mine.Fr.ovl (ps := ("fed", .str (S raw) u1) :: _) F2 (List.forall_mem_cons.mpr ⟨hf2, hm2⟩)
      clear F2
      have R := Inv.end V2 (by omega)
      have hz3 : raw.length ≤ 100 := by omega
      dsimp only
      walk_at "mine steps"
      refine' hq _ _ _ _ _ _ _ ?hs9 ?ho9 (by with_reducible assumption) ?hm9 (by k_asm) (by k_asm)
      case hs9 => assumption
      case ho9 => assumption
      case hm9 => walk_at "mine locs"
  case done =>
    intro m1 nx1 h tk hm1 F1 N1
    dsimp only
    walk_at "law steps"
    dsimp only
    k_steps))

end D3
end
end Mine
theorem PySem.Challenge.cw_nt0603_01_holds : PySem.Challenge.rw_nt0603_01.Holds := by
  exact Mine.law_right
